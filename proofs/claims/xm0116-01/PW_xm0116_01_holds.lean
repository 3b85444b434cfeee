import PyProof.Rows.All
import Wide.All
import OpenK.AllK
import Wide.FinOn
import Lean
import PySem.Challenge.RW_xm0116_01
open PySem PySem.W PyProof.Rows PySem.Calls
set_option maxHeartbeats 4000000
set_option maxRecDepth 100000
set_option Elab.async false
set_option linter.unusedVariables false
set_option linter.unusedSimpArgs false
namespace Mine
section
variable {a b c d e f g h i j : Nat}
theorem yag : c - 1 - a - b = d + 1 → c - 1 - (a + 1) - b = d := fun h => by rw [Nat.sub_add_eq, Nat.sub_right_comm (c - 1 - a), h]; rfl
theorem yai : a = b + c → ¬c = 0 → a - 1 = b + (c - 1) := fun h hc => by rw [h]; exact Nat.add_sub_assoc (Nat.pos_of_ne_zero hc) b
theorem yaj : a = 3 ∨ a = 4 → b = a → min (c - d) (b - d) ≤ 4 := fun h e => Nat.le_trans (Nat.min_le_right _ _) (Nat.le_trans (Nat.sub_le _ _) (by rw [e]; rcases h with rfl | rfl <;> decide))
theorem yak : a = 3 ∨ a = 4 → a - 1 - c - b ≤ 3 - b := fun h => Nat.sub_le_sub_right (Nat.le_trans (Nat.sub_le _ _) (by rcases h with rfl | rfl <;> decide)) _
theorem yal : a = b + c → ¬c = 0 → (↑a : Int) - 1 = (↑(a - 1) : Int) := fun h hc => (Int.ofNat_sub (h ▸ Nat.le_trans (Nat.pos_of_ne_zero hc) (Nat.le_add_left _ _))).symm
theorem yam : ((↑a : Int) - (↑b : Int)).toNat = a - b := Int.toNat_sub a b
theorem yan : a = b + c → d = 0 + c → d = e + f → g = b + f → h = e + i → g = 0 + i → h = a := fun h1 h2 h3 h4 h5 h6 => by rw [Nat.zero_add] at h2 h6; rw [h1, h5, ← h6, h4, ← h2, h3]; exact Nat.add_left_comm e b f
theorem yao : a + b + 1 < c → c - 1 - a - b = c - 1 - a - b - 1 + 1 := fun h => (Nat.sub_add_cancel (Nat.sub_pos_of_lt (Nat.lt_sub_of_add_lt (Nat.lt_sub_of_add_lt (Nat.add_comm b a ▸ h))))).symm
theorem yaq : 0 < b → max 0 ((↑(a + b - 1) : Int) - (↑a : Int) + 1) = (↑b : Int) := fun h => by
 cases b with
 | zero => exact absurd h (Nat.lt_irrefl _)
 | succ b =>
  show max 0 ((↑(a + b) : Int) - ↑a + 1) = _
  rw [Int.natCast_add, Int.add_comm ↑a, Int.add_sub_cancel]
  exact Int.max_eq_right (Int.natCast_nonneg (b + 1))
theorem yar : a = b + c → d = 0 + c → e = f + d + g → h + e + (i + j) ≤ f + (h + (a + (g + (i + j)))) := fun h1 h2 h3 => by
 rw [h3, h2, h1, Nat.zero_add, Nat.add_assoc h, Nat.add_assoc f, Nat.add_assoc f, Nat.add_left_comm h f, Nat.add_assoc c, Nat.add_assoc b]
 exact Nat.add_le_add_left (Nat.add_le_add_left (Nat.le_add_left _ _) _) _
theorem yas : (-1 + (↑a : Int)).toNat = a - 1 := by rw [Int.add_comm]; exact Int.toNat_sub a 1
theorem yat : 0 < a → b = c → c ≤ d → e = d → f = a + b - 1 → (↑f : Int) - (↑a : Int) = (↑(c - 1) : Int) → c - 1 < e := fun h0 h1 h2 h3 h4 h5 => by
 cases c with
 | zero =>
  subst h1; subst h4
  cases a with
  | zero => exact absurd h0 (Nat.lt_irrefl _)
  | succ a =>
   have h5 : (↑a : Int) - ↑(a + 1) = 0 := h5
   rw [Int.natCast_succ, Int.sub_eq_zero] at h5
   exact absurd h5 (Int.ne_of_lt (Int.lt_succ _))
 | succ c => exact h3 ▸ h2
theorem yau : a < b → b - 1 - a + 1 = b - a := fun h => by rw [Nat.sub_right_comm]; exact Nat.sub_add_cancel (Nat.sub_pos_of_lt h)
theorem yav : a < 60 → b < 60 → c < 60 → d < 60 → e ≤ a + b → f ≤ c + d → g ≤ f + 1 → h ≤ max e g → h < 200 := fun ha hb hc hd he hf hg hh => Nat.lt_of_le_of_lt (Nat.le_trans hh (Nat.max_le.mpr ⟨Nat.le_trans he (Nat.le_trans (Nat.add_le_add (Nat.le_of_lt ha) (Nat.le_of_lt hb)) (by decide : 120 ≤ 121)), Nat.le_trans hg (Nat.succ_le_succ (Nat.le_trans hf (Nat.add_le_add (Nat.le_of_lt hc) (Nat.le_of_lt hd))))⟩)) (by decide)
theorem yaw : b = c → ¬c = 0 → d = a + b - 1 → (↑d : Int) - (↑a : Int) = (↑(c - 1) : Int) := fun h1 h2 h3 => by
 subst h1; subst h3
 cases b with
 | zero => exact absurd rfl h2
 | succ b => show (↑(a + b) : Int) - ↑a = ↑b; rw [Int.natCast_add, Int.add_comm, Int.add_sub_cancel]
theorem yax : a < 900 → min b a ≤ 100000 := fun h => Nat.le_trans (Nat.min_le_right _ _) (Nat.le_trans (Nat.le_of_lt h) (by decide))
theorem yay : a ≤ b → c + (d + (a + (e + (f + g)))) ≤ h + (b + (e + (f + (c + (d + g))))) := fun k => by
 refine Nat.le_trans (Nat.le_trans (Nat.le_of_eq ?_) (Nat.add_le_add_right k (e + (f + (c + (d + g)))))) (Nat.le_add_left _ _)
 simp only [Nat.add_left_comm]
theorem yaz : ¬a = 0 → (↑a : Int) - 1 = (↑(a - 1) : Int) := fun h => (Int.ofNat_sub (Nat.pos_of_ne_zero h)).symm
theorem yaA : a = 3 ∨ a = 4 → b = a → min (b - c) (b - c) ≤ 4 := fun h e => Nat.le_trans (Nat.min_le_right _ _) (Nat.le_trans (Nat.sub_le _ _) (by rw [e]; rcases h with rfl | rfl <;> decide))
theorem yaB : a < b → c < d → e = b + d - 1 → a + c < e := fun h1 h2 h3 => by
 cases d with
 | zero => exact absurd h2 (Nat.not_lt_zero _)
 | succ d => rw [h3]; exact Nat.add_lt_add_of_lt_of_le h1 (Nat.le_of_lt_succ h2)
theorem yaC : b < 400 → (↑b : Int) - (↑a : Int) = (↑(c - 1) : Int) → d ≤ max b (c - 1 + a) → d < 400 := fun h1 h2 h3 => by
 have : c - 1 + a = b := Int.ofNat.inj (by show (↑(c - 1 + a) : Int) = ↑b; rw [Int.natCast_add, ← h2, Int.sub_add_cancel])
 rw [this, Nat.max_self] at h3
 exact Nat.lt_of_le_of_lt h3 h1
theorem yaD : 0 < a → b = c → d = a + b - 1 → (↑d : Int) - (↑a : Int) = (↑(c - 1) : Int) → c - 1 < c := fun h0 h1 h4 h5 => yat h0 h1 (Nat.le_refl _) rfl h4 h5
theorem yaG : a = b → c + (d + 1) + 1 < b → d + 1 ≤ a - (c + 1) := fun h1 h2 => by rw [h1]; exact Nat.le_sub_of_add_le (by rw [Nat.add_right_comm, Nat.add_comm d, ← Nat.add_assoc] at *; exact Nat.le_of_lt (by rw [Nat.add_right_comm]; exact h2))
theorem yaH : 0 < a → b = c → d = a + b - 1 → (↑d : Int) - (↑a : Int) = (↑(c - 1) : Int) → e ≤ c - 1 → e < c := fun h0 h1 h4 h5 h6 => Nat.lt_of_le_of_lt h6 (yaD h0 h1 h4 h5)
theorem yaI : b < a → (↑a : Int) - 1 - (↑b : Int) = (↑(a - 1 - b) : Int) := fun h => by rw [Int.ofNat_sub (Nat.le_sub_one_of_lt h), Int.ofNat_sub (Nat.lt_of_le_of_lt (Nat.zero_le _) h)]; rfl
theorem yaJ : 0 < a → b = c → ¬c = 0 → 0 = a + b - 1 → False := fun h0 h1 h2 h3 => by
 subst h1
 cases b with
 | zero => exact h2 rfl
 | succ b => exact absurd h3 (Nat.ne_of_lt (Nat.lt_of_lt_of_le h0 (Nat.le_add_right _ _)))
theorem yaK : a + 1 < b → c = b → d ≥ c → d = d - 1 + 1 := fun h1 h2 h3 => (Nat.sub_add_cancel (Nat.le_trans (Nat.le_of_lt (Nat.lt_of_le_of_lt (Nat.le_add_left 1 a) h1)) (h2 ▸ h3))).symm
theorem yaL : a = 3 ∨ a = 4 → b < a - 1 → b < 3 := fun h k => Nat.lt_of_lt_of_le k (by rcases h with rfl | rfl <;> decide)
theorem yaM : a = 3 ∨ a = 4 → b = a → c < b → d < c → e ≤ 13 + 2 * d → e < 900 := fun h1 h2 h3 h4 h5 => Nat.lt_of_le_of_lt (Nat.le_trans h5 (Nat.add_le_add_left (Nat.mul_le_mul_left 2 (Nat.le_trans (Nat.le_of_lt (Nat.lt_trans h4 h3)) (by rw [h2]; rcases h1 with rfl | rfl <;> decide : b ≤ 4))) 13)) (by decide)
theorem yaO : a ≤ 10 → a - 1 - b < 1000 := fun h => Nat.lt_of_le_of_lt (Nat.le_trans (Nat.sub_le _ _) (Nat.le_trans (Nat.sub_le _ _) h)) (by decide)
theorem yaP : 0 < a → b + 1 + 1 + a - 2 = b + 1 + a - 2 + 1 := fun h => by
 cases a with
 | zero => exact absurd h (Nat.lt_irrefl _)
 | succ a => show b + 1 + 1 + a - 1 = b + 1 + a - 1 + 1; rw [Nat.add_right_comm (b + 1), Nat.add_right_comm b 1 a]; rfl
theorem yaR : a < b → a ≤ 100000 → 0 ≤ (↑a : Int) ∧ (↑a : Int) < 2 ^ 62 ∧ (↑a : Int) < (↑b : Int) := fun h k => ⟨Int.natCast_nonneg _, Int.lt_of_le_of_lt (Int.ofNat_le.mpr k) (by decide), Int.ofNat_lt.mpr h⟩
theorem yaS : a < 900 → b < 900 → a + b - 1 ≤ 100000 := fun h k => Nat.le_trans (Nat.sub_le _ _) (Nat.le_trans (Nat.add_le_add (Nat.le_of_lt h) (Nat.le_of_lt k)) (by decide))
theorem yaT : c < b → c < a + 1 + (b - (a + 1)) := fun h => Nat.lt_of_lt_of_le h (by rw [Nat.add_comm]; exact Nat.le_add_of_sub_le (Nat.le_refl _))
theorem yaU : c < b → c < a + (b - a) := fun h => Nat.lt_of_lt_of_le h (by rw [Nat.add_comm]; exact Nat.le_add_of_sub_le (Nat.le_refl _))
theorem yaX : b + c + 1 = a → ¬c = 0 → b + 1 + (c - 1) + 1 = a := fun h hc => by rw [Nat.add_right_comm b 1, Nat.add_assoc b, Nat.sub_add_cancel (Nat.pos_of_ne_zero hc)]; exact h
theorem yaY : ¬a < max b c → c ≤ a := fun h => Nat.le_trans (Nat.le_max_right _ _) (Nat.not_lt.mp h)
theorem yaZ : a + b ≤ a + b - 1 + 1 := Nat.le_add_of_sub_le (Nat.le_refl _)
theorem ya0 : 0 < a → max 0 (-(↑a : Int) + 1) = 0 := fun h => Int.max_eq_left (by rw [Int.add_comm]; exact Int.sub_nonpos_of_le (Int.ofNat_le.mpr h))
theorem ya1 : b ≤ a → c ≤ b - 1 → c ≤ a := fun h k => Nat.le_trans k (Nat.le_trans (Nat.sub_le _ _) h)
theorem ya3 : b ≤ a - 1 → c < b → c < a := fun h k => Nat.lt_of_lt_of_le k (Nat.le_trans h (Nat.sub_le _ _))
theorem ya4 : d = b ∧ a < e ∧ e < a + 1 + c → d = b ∧ a < e ∧ e < a + 1 + (c + 1) := fun h => ⟨h.1, h.2.1, Nat.lt_succ_of_lt h.2.2⟩
theorem ya5 : a ≤ 100000 → (↑a : Int) ≤ 2 ^ 24 ∧ -2 ^ 62 ≤ (↑a : Int) := fun h => ⟨Int.le_trans (Int.ofNat_le.mpr h) (by decide), Int.le_trans (by decide) (Int.natCast_nonneg a)⟩
theorem yba : a ≤ b + 1 → ¬a = b + 1 → a ≤ b := fun h k => Nat.le_of_lt_succ (Nat.lt_of_le_of_ne h k)
theorem ybb : a = b → a + c = c + b := fun h => by rw [h]; exact Nat.add_comm _ _
theorem ybc : a ≤ 64 → c ≤ min b a → c ≤ 64 := fun h k => Nat.le_trans k (Nat.le_trans (Nat.min_le_right _ _) h)
theorem ybd : a = b → c + d ≥ b → a - c ≤ d := fun h k => by rw [h]; exact Nat.sub_le_of_le_add (by rw [Nat.add_comm]; exact k)
theorem ybe : a = b → c + 1 + d ≥ b → a - (c + 1) ≤ d := fun h k => by rw [h]; exact Nat.sub_le_of_le_add (by rw [Nat.add_comm]; exact k)
theorem ybf : ¬(a = 0 ∨ b = 0) → (↑a : Int) + (↑b : Int) - 1 = (↑(a + b - 1) : Int) := fun h => (Int.ofNat_sub (Nat.le_trans (Nat.pos_of_ne_zero fun e => h (.inl e)) (Nat.le_add_right a b))).symm
theorem ybi : b = c → ¬c = 0 → d = a + b - 1 → (↑d : Int) ≥ (↑a : Int) := fun h1 h2 h3 => Int.ofNat_le.mpr (by
 subst h1; subst h3
 cases b with
 | zero => exact absurd rfl h2
 | succ b => exact Nat.le_add_right a b)
theorem ybj : a < 900 → b ≤ a → b - 1 ≤ 1000000 := fun h k => Nat.le_trans (Nat.sub_le _ _) (Nat.le_trans k (Nat.le_trans (Nat.le_of_lt h) (by decide)))
theorem ybk : a + 1 < b → b = b - 1 + 1 := fun h => (Nat.sub_add_cancel (Nat.le_trans (Nat.le_add_left 1 a) (Nat.le_of_lt h))).symm
theorem ybl : a ≤ b → b = a + (b - a) := fun h => (Nat.add_sub_cancel' h).symm
theorem ybm : a + b + 1 < c → a + 1 + (b + 1) < c + 1 := fun h => by rw [Nat.add_right_comm] at h; exact Nat.succ_lt_succ h
theorem ybo : a ≤ b → ¬a = 0 → a - 1 < b := fun h k => Nat.lt_of_lt_of_le (Nat.sub_lt (Nat.pos_of_ne_zero k) Nat.one_pos) h
theorem ybp : a < 900 → a - b < 1000 := fun h => Nat.lt_of_le_of_lt (Nat.sub_le _ _) (Nat.lt_trans h (by decide))
theorem ybq : a = b + c → c = 0 → ¬a = 0 → 0 < b := fun h1 h2 h3 => Nat.pos_of_ne_zero fun e => h3 (by rw [h1, h2, e])
theorem ybr : b ≥ a → min a c ≤ b := fun h => Nat.le_trans (Nat.min_le_left _ _) h
theorem ybs : a = 3 ∨ a = 4 → b ≤ 50 → c < a → b + c ≤ 1000 := fun h1 h2 h3 => Nat.le_trans (Nat.add_le_add h2 (Nat.le_of_lt (Nat.lt_of_lt_of_le h3 (by rcases h1 with rfl | rfl <;> decide : a ≤ 4)))) (by decide)
theorem ybt : a = 3 ∨ a = 4 → b ≤ 20 → c < a → b + c ≤ 1000 := fun h1 h2 h3 => Nat.le_trans (Nat.add_le_add h2 (Nat.le_of_lt (Nat.lt_of_lt_of_le h3 (by rcases h1 with rfl | rfl <;> decide : a ≤ 4)))) (by decide)
theorem ybv : a ≤ 16 → b + 1 ≤ max 1 a → b ≤ 100 := fun h k => Nat.le_trans (Nat.le_succ b) (Nat.le_trans k (Nat.max_le.mpr ⟨by decide, Nat.le_trans h (by decide)⟩))
theorem ybx : c < b - a → a < b := fun h => Nat.lt_of_sub_pos (Nat.lt_of_le_of_lt (Nat.zero_le _) h)
theorem yby : a < 60 → b < 60 → c ≤ a + b → c < 900 := fun h1 h2 h3 => Nat.lt_of_le_of_lt (Nat.le_trans h3 (Nat.add_le_add (Nat.le_of_lt h1) (Nat.le_of_lt h2))) (by decide)
theorem ybz : a ≤ 10 → min b a ≤ 100000 := fun h => Nat.le_trans (Nat.min_le_right _ _) (Nat.le_trans h (by decide))
theorem ybA : ¬a = 0 → ¬a % 2 = 1 → 1 < a := fun h k => by
 match a with
 | 0 => exact absurd rfl h
 | 1 => exact absurd rfl k
 | a + 2 => exact Nat.succ_lt_succ (Nat.succ_pos _)
theorem ybC : c = b → d ≥ b → min a c ≤ d := fun h k => Nat.le_trans (Nat.min_le_right _ _) (h ▸ k)
theorem ybD : b < 900 → c = min a b → c ≤ 100000 := fun h k => by rw [k]; exact Nat.le_trans (Nat.min_le_right _ _) (Nat.le_trans (Nat.le_of_lt h) (by decide))
theorem ybE : a = b + 1 → c + 1 = a → c = b := fun h k => Nat.succ.inj (k.trans h)
theorem ybF : a = b → b = 2 → a = 2 := fun h k => h.trans k
theorem ybI : a = 3 ∨ a = 4 → b = a → c < b → d < c → d ≤ 3 := fun h1 h2 h3 h4 => Nat.le_of_lt_succ (Nat.lt_of_lt_of_le (Nat.lt_trans h4 h3) (by rw [h2]; rcases h1 with rfl | rfl <;> decide))
theorem ybJ : a % 2 = 1 → a / 2 < a := fun h => Nat.div_lt_self (Nat.pos_of_ne_zero fun e => by rw [e] at h; cases h) (by decide)
theorem ybK : a < 900 → b < 900 → c < a → d < b → c + d ≤ 1000000 := fun h1 h2 h3 h4 => Nat.le_trans (Nat.add_le_add (Nat.le_of_lt (Nat.lt_trans h3 h1)) (Nat.le_of_lt (Nat.lt_trans h4 h2))) (by decide)
theorem ybL : a < 900 → b < 900 → c < a → d < b → c + d ≤ 100000 := fun h1 h2 h3 h4 => Nat.le_trans (Nat.add_le_add (Nat.le_of_lt (Nat.lt_trans h3 h1)) (Nat.le_of_lt (Nat.lt_trans h4 h2))) (by decide)
theorem ybM : b < 400 → (↑b : Int) - (↑a : Int) = (↑(c - 1) : Int) → c - 1 ≤ 100000 := fun h k => Nat.le_trans (Nat.le_trans (Nat.le_add_right _ a) (Nat.le_of_eq (Int.ofNat.inj (by show (↑(c - 1 + a) : Int) = ↑b; rw [Int.natCast_add, ← k, Int.sub_add_cancel])))) (Nat.le_trans (Nat.le_of_lt h) (by decide))
theorem ybN : b < 400 → (↑b : Int) - (↑a : Int) = (↑(c - 1) : Int) → c - 1 < 900 := fun h k => Nat.lt_of_le_of_lt (Nat.le_trans (Nat.le_add_right _ a) (Nat.le_of_eq (Int.ofNat.inj (by show (↑(c - 1 + a) : Int) = ↑b; rw [Int.natCast_add, ← k, Int.sub_add_cancel])))) (Nat.lt_trans h (by decide))
theorem ybO : a < 400 → (↑a : Int) - (↑b : Int) = (↑(c - 1) : Int) → c - 1 + b < 900 := fun h k => Nat.lt_of_le_of_lt (Nat.le_of_eq (Int.ofNat.inj (by show (↑(c - 1 + b) : Int) = ↑a; rw [Int.natCast_add, ← k, Int.sub_add_cancel]))) (Nat.lt_trans h (by decide))
theorem ybP : a + 1 ≤ b → c + b ≤ d → c + a < d := fun h k => Nat.lt_of_lt_of_le (Nat.add_lt_add_left h c) k
theorem ybQ : a + 1 < b → a < b + 1 := fun h => Nat.lt_succ_of_lt (Nat.lt_trans (Nat.lt_succ_self a) h)
theorem ybR : a ≤ b → c ≤ d → c + a ≤ d + b := fun h k => Nat.add_le_add k h
theorem ybS : ¬a < max b c → b ≤ a := fun h => Nat.le_trans (Nat.le_max_left _ _) (Nat.not_lt.mp h)
theorem ybT : max a b < c → b < c := fun h => Nat.lt_of_le_of_lt (Nat.le_max_right _ _) h
theorem ybU : max a b < c → a < c := fun h => Nat.lt_of_le_of_lt (Nat.le_max_left _ _) h
theorem ybV : c < min a b → c < a := fun h => Nat.lt_of_lt_of_le h (Nat.min_le_left _ _)
theorem ybW : 0 < a → a = a - 1 + 1 := fun h => (Nat.sub_add_cancel h).symm
theorem ybX : 0 < a → 0 + (a - 1) + 1 = a := fun h => by rw [Nat.zero_add]; exact Nat.sub_add_cancel h
theorem ybY : 0 < a → a - 1 + 2 = a + 1 := fun h => congrArg Nat.succ (Nat.sub_add_cancel h)
theorem ybZ : a = b → ¬b = 0 → a - 1 < a := fun h k => Nat.sub_lt (Nat.pos_of_ne_zero (h ▸ k)) Nat.one_pos
theorem yb0 : a = 3 ∨ a = 4 → a = a - 1 + 1 := fun h => by rcases h with rfl | rfl <;> rfl
theorem yb1 : ¬a = 0 → a - 1 + 2 = a + 1 := fun h => congrArg Nat.succ (Nat.sub_add_cancel (Nat.pos_of_ne_zero h))
theorem yb3 : a = 3 ∨ a = 4 → 1 ≤ a := by intro h; rcases h with rfl | rfl <;> decide
theorem yb4 : a = 3 ∨ a = 4 → a ≤ 10 := by intro h; rcases h with rfl | rfl <;> decide
theorem yb6 : 46656 * a ≤ 46656 * 216 → 46656 * a ≤ 10077696 := by intros; assumption
theorem yb7 : b = a → c < b → c < a := by exact fun a_1 a_2 => Nat.lt_of_lt_of_eq a_2 a_1
theorem yb8 : a < b → a ≤ b := by exact fun a_1 => Nat.le_of_succ_le a_1
theorem yb9 : a = 3 ∨ a = 4 → b = a → c < b → c ≤ 4 := by lia
theorem yca : b = a → c ≥ a → b ≤ c := by exact fun a_1 a_2 => le_of_eq_of_le a_1 a_2
theorem ycb : a = 3 ∨ a = 4 → b = a → b ≤ 10 := by intro h e; subst e; rcases h with rfl | rfl <;> decide
theorem ycc : b = a → c < a → c < b := by intros; subst_vars; omega
theorem ycd : a ≤ 7 → a < 900 := by intro h; exact Nat.lt_of_le_of_lt h (by decide)
theorem yce : a ≤ 7 → b ≤ a → b < 900 := by intro h k; exact Nat.lt_of_le_of_lt (Nat.le_trans k h) (by decide)
theorem ycf : a = 3 ∨ a = 4 → 0 < a := by intro h; rcases h with rfl | rfl <;> decide
theorem ycg : a = 3 ∨ a = 4 → a ≤ 4 := by intro h; rcases h with rfl | rfl <;> decide
theorem ych : b + 1 < a → b < a := by exact fun a_1 => Nat.lt_of_succ_lt a_1
theorem yci : a = b → c ≥ b → a ≤ c := by intros; subst_vars; omega
theorem yck : min 21 a ≤ 100 := by intros; exact Nat.le_trans (Nat.min_le_left _ _) (by decide)
theorem ycl : a < 3 → b < a → b < 3 := by exact fun a_1 a_2 => Nat.lt_trans a_2 a_1
theorem ycm : a < 3 → a < 900 := by intro h; exact Nat.lt_of_lt_of_le h (by decide)
theorem ycn : (0 : Nat) < a → (0 : Int) ≤ (0 : Int) ∧ (0 : Int) < (↑a : Int) := by intros; simp_all
theorem yco : a = 7 → a ≤ 7 := by exact fun a_1 => Nat.le_of_eq a_1
theorem ycp : a = 4 → a ≤ 7 := by intros; simp_all
theorem ycq : 2 + 1 < 4 := by exact Nat.lt_add_one (2 + 1)
theorem ycr : 0 < 2 := by exact Nat.zero_lt_two
theorem ycs : 1 + 1 < 4 := by exact Nat.lt_of_sub_eq_succ rfl
theorem yct : 0 < 1 := by exact Nat.one_pos
theorem ycu : a + 2 + 1 < 4 → a = 0 := by lia
theorem ycw : a + 1 + 1 < 3 → a = 0 := by lia
theorem ycx : a + 1 + 1 < b → a + 1 + 1 < b := by intros; assumption
theorem ycy : 0 < a + 1 := by exact Nat.zero_lt_succ a
theorem ycz : a = 3 ∨ a = 4 → c + b + 1 < a → b ≤ 2 := by lia
theorem ycA : a + 2 + 1 < b → a + 1 + 1 + 1 < b := by intros; assumption
theorem ycB : 0 < a + 1 + 1 := by simp
theorem ycC : a + 2 + 1 < b → a + 1 + 1 < b := by intro h; exact Nat.lt_of_succ_lt h
theorem ycD : a = 4 → ¬3 = a := by intros; simp_all
theorem ycE : a = 3 ∨ a = 4 → ¬2 = a := by intro h; rcases h with rfl | rfl <;> decide
theorem ycF : a = 3 ∨ a = 4 → ¬1 = a := by intro h; rcases h with rfl | rfl <;> decide
theorem ycG : a = 3 ∨ a = 4 → ¬0 = a := by intro h; rcases h with rfl | rfl <;> decide
theorem ycJ : a ≤ 7 → b ≤ a → b < 60 := by intro h k; exact Nat.lt_of_le_of_lt (Nat.le_trans k h) (by decide)
theorem ycK : 0 < a ∧ a ≤ 7 → a ≤ 100 := by lia
theorem ycL : a = 3 ∨ a = 4 → a ≤ 6 := by intro h; rcases h with rfl | rfl <;> decide
theorem ycM : 0 < a → a - 1 + 1 = a := by intro h; exact Nat.sub_add_cancel h
theorem ycP : a = 3 ∨ a = 4 → a ≤ 100 := by intro h; rcases h with rfl | rfl <;> decide
theorem ycS : a ≤ b → b < c → a < c := by intro h k; exact Nat.lt_of_le_of_lt h k
theorem ycT : a = b → c = b → min a c = b := by intros; simp_all
theorem ycU : a = b → c = b → d < b → d < min a c := by intros; simp_all
theorem ycV : a + b + c < d → e ≥ d → a + b + c < e := by intro h k; exact Nat.lt_of_lt_of_le h k
theorem ycW : min a (b + a) = a := by exact Nat.min_add_left_self
theorem ycX : a + b + c < d → a + b < d - c := by exact fun a_1 => Nat.lt_sub_of_add_lt a_1
theorem ycY : a + b + c < d → ¬d < c := by lia
theorem ycZ : ¬a < b → b ≤ a := by exact fun a_1 => Nat.le_of_not_lt a_1
theorem yc0 : a + b + c < d → a + b < d := by exact fun a_1 => Nat.lt_of_add_right_lt a_1
theorem yc1 : a + (b + 1) < c → a + b + 1 < c := by intros; assumption
theorem yc2 : a + (b + 1) < c → a + b < c := by exact fun a_1 => Nat.lt_of_succ_lt a_1
theorem yc3 : a + 1 < b → c = b → d + 1 ≥ c → a < d := by intros; subst_vars; lia
theorem yc4 : a + 1 < b + 1 → a < b := by intros; simp_all
theorem yc5 : a + 1 < b + 1 → a < b + 1 := by exact fun a_1 => Nat.lt_of_succ_lt a_1
theorem yc6 : a < b → a < min b (b + 1) := by intros; simp_all
theorem yc7 : a = b → c < b → c < a := by intros; subst_vars; omega
theorem yc8 : a - 1 - b - 2 = c + 1 → a - 1 - (b + 1) - 1 = c + 1 := by intros; assumption
theorem yc9 : a - 1 - b - 1 = c + 1 → a - 1 - (b + 1) - 0 = c + 1 := by intros; assumption
theorem yda : c - 1 - (a + 1) - b = d → c - 1 - a - (b + 1) = d := by intros; subst_vars; lia
theorem ydb : a = 3 ∨ a = 4 → b + 1 < a → b ≤ 2 := by lia
theorem ydc : a = 3 ∨ a = 4 → 2 + 1 + 1 < a → False := by intro h; rcases h with rfl | rfl <;> decide
theorem ydd : (0 : Int) = (1 : Int) → False := by intros; simp_all
theorem yde : a = 3 ∨ a = 4 → b + 1 + 1 < a → b ≤ 2 := by lia
theorem ydf : a + (b + 1) + 1 < c → a + 1 < c := by lia
theorem ydg : a = 3 ∨ a = 4 → b + 1 + 1 < a → b + 1 ≤ 4 := by intro h k; refine Nat.le_of_lt_succ (Nat.lt_of_lt_of_le (Nat.lt_trans (Nat.lt_succ_self _) k) ?_); rcases h with rfl | rfl <;> decide
theorem ydh : a + (b + 1) + 1 < c → a + 1 + (b + 1) ≤ c := by lia
theorem ydi : ¬a = 0 → 0 < a := by exact fun a_1 => Nat.zero_lt_of_ne_zero a_1
theorem ydj : a < b + 1 → a ≤ b := by exact fun a_1 => Nat.le_of_lt_succ a_1
theorem ydk : a = 3 ∨ a = 4 → b.succ ≤ a → b ≤ 3 := by lia
theorem ydl : a + b.succ < c + 1 → a + (b + 1) ≤ c := by exact fun a_1 => Nat.le_of_lt_succ a_1
theorem ydm : a = b → c + d.succ < b + 1 → d + 1 ≤ a - c := by lia
theorem ydn : a = 3 ∨ a = 4 → b.succ ≤ a → b + 1 ≤ 4 := by lia
theorem ydo : a + 1 - 1 - 0 - a = 0 := by exact Nat.sub_self (a + 1 - 1 - 0)
theorem ydp : a + (b + 1) ≤ c → a + b < c := by intros; assumption
theorem ydq : a + (b + 1) ≤ c → a + b ≤ c := by exact fun a_1 => Nat.le_of_succ_le a_1
theorem ydr : a ≤ 3 → a = 0 ∨ a = 1 ∨ a = 2 ∨ a = 3 := by lia
theorem yds : a ≤ 1 * 6 ^ 0 * 6 ^ 1 * 6 ^ 2 * 6 ^ 3 → a ≤ 46656 := by intros; assumption
theorem ydt : a ≤ 1 + 2 * 0 + 2 * 1 + 2 * 2 + 2 * 3 → a ≤ 13 := by intros; assumption
theorem ydu : 3 < 4 := by exact Nat.lt_add_one 3
theorem ydv : 2 < 4 := by simp
theorem ydw : 1 < 4 := by exact Nat.one_lt_succ_succ 2
theorem ydx : 0 < 4 := by exact Nat.zero_lt_succ 3
theorem ydy : 2 < 3 := by exact Nat.lt_add_one 2
theorem ydz : 1 < 3 := by exact Nat.one_lt_succ_succ 1
theorem ydA : 0 < 3 := by exact Nat.zero_lt_succ 2
theorem ydB : 1 < 2 := by exact Nat.one_lt_two
theorem ydC : a ≤ b → c < a → ¬b ≤ c := by lia
theorem ydD : a ≤ 4 → b < a → b < 4 := by intro h k; exact Nat.lt_of_lt_of_le k h
theorem ydF : a ≤ b + 2 * c → d ≤ a + (0 + 1 + 1) → d ≤ b + 2 * (c + 1) := by lia
theorem ydG : a ≤ b → a ≤ b * 6 ^ 0 := by intros; simp_all
theorem ydH : a ≤ b → a ≤ b + 2 * 0 := by intros; assumption
theorem ydI : a = 3 ∨ a = 4 → b + 1 < a → b ≤ 4 := by intro h k; refine Nat.le_of_lt_succ (Nat.lt_of_lt_of_le (Nat.lt_trans (Nat.lt_succ_self _) k) ?_); rcases h with rfl | rfl <;> decide
theorem ydJ : a = 3 ∨ a = 4 → b < a + 1 → b ≤ 4 := by lia
theorem ydK : a < 60 → a < 200 := by intro h; exact Nat.lt_of_lt_of_le h (by decide)
theorem ydL : a < 60 → b < 60 → c ≤ a + b → d ≤ c + 1 → d < 900 := by lia
theorem ydM : 1 < 900 := by exact Nat.one_lt_succ_succ 898
theorem ydN : a < 60 → a < 900 := by intro h; exact Nat.lt_of_lt_of_le h (by decide)
theorem ydO : 1 + a ≤ a + 1 := by lia
theorem ydP : a + b + 1 < c → a + (b + 2) < c + 1 := by exact fun a_1 => Nat.lt_succ_of_le a_1
theorem ydQ : a + 1 < b → a + 2 < b + 1 := by exact fun a_1 => Nat.lt_succ_of_le a_1
theorem ydR : a + b + 1 < c → a + 1 + b < c + 1 := by lia
theorem ydS : a + b + 1 < c → a + (b + 1) < c + 1 := by exact fun a_1 => Nat.lt_add_right 1 a_1
theorem ydT : a + 1 < b → a + 1 < b + 1 := by exact fun a_1 => Nat.lt_add_right 1 a_1
theorem ydV : a ≤ b → c + a ≤ c + b := by intros; simp_all
theorem ydW : a = b + c → b ≤ a := by exact fun a_1 => Nat.le.intro (id (Eq.symm a_1))
theorem ydX : a ≤ b + b → a ≤ 2 * b := by lia
theorem ydY : a ≤ b → c ≤ d → a + c ≤ b + d := by exact fun a_1 a_2 => Nat.add_le_add a_1 a_2
theorem ydZ : a + b + (c + d) = a + c + (b + d) := by exact Nat.add_add_add_comm a b c d
theorem yd3 : a ≤ 4 → a ≤ 100 := by intro h; exact Nat.le_trans h (by decide)
theorem yd4 : ¬a = b → (↑(1 + a) : Int) ≠ (↑(1 + b) : Int) := by lia
theorem yd5 : a = b → (↑(1 + a) : Int) = (↑(1 + b) : Int) := by intros; subst_vars; rfl
theorem yd6 : (↑(1 + a) : Int) - 1 = (↑a : Int) := by exact Int.sub_eq_iff_eq_add'.mpr rfl
theorem yd7 : 1 + (↑a : Int) = (↑(1 + a) : Int) := by intros; rfl
theorem yd8 : a ≤ 100000 → a ≤ 100000 := by intros; assumption
theorem yd9 : 1 ≤ 100000 := by exact Nat.le_of_ble_eq_true rfl
theorem yea : a ≤ 10 → a - 1 ≤ 100000 := by intro h; exact Nat.le_trans (Nat.sub_le _ _) (Nat.le_trans h (by decide))
theorem yeb : a ≤ 10 → a ≤ 100000 := by intro h; exact Nat.le_trans h (by decide)
theorem yec : a ≤ 10 → b < a → (↑b : Int) ≤ 100000 := by lia
theorem yed : -100000 ≤ (↑a : Int) := by exact Int.neg_ofNat_le_natCast 100000 a
theorem yee : a = 3 ∨ a = 4 → a ≤ 100000 := by intro h; rcases h with rfl | rfl <;> decide
theorem yef : a ≤ 4 → b ≤ 4 → c ≤ 4 → a + b + c ≤ 100000 := by lia
theorem yeg : a ≤ 4 → b ≤ 4 → a + b ≤ 100000 := by intro h k; exact Nat.le_trans (Nat.add_le_add h k) (by decide)
theorem yeh : a ≤ 4 → a ≤ 100000 := by intro h; exact Nat.le_trans h (by decide)
theorem yei : ¬0 < a → ¬0 < (↑a : Int) := by simp
theorem yej : ¬a + 1 < b → ¬(↑a : Int) < (↑b : Int) - 1 := by lia
theorem yek : b + 1 < a → (↑b : Int) < (↑a : Int) - 1 := by lia
theorem yel : 0 < a → 0 < (↑a : Int) := by intros; simp_all
theorem yem : a < b + 1 → ¬a = b → a < b := by intro h k; exact Nat.lt_of_le_of_ne (Nat.le_of_lt_succ h) k
theorem yen : a = b → c < b + 1 → ¬c = b → c < a := by intros; subst_vars; lia
theorem yeo : a ≤ 100000 → b = c → c < a → b ≤ 100000 := by intros; subst_vars; lia
theorem yep : 1 + (a + b * 1) = 1 + a + b := by lia
theorem yeq : a < 0 → False := by exact fun a_1 => Nat.not_succ_le_zero a a_1
theorem yer : 0 < a → a + 1 < 4 → a = 1 ∨ a = 2 := by lia
theorem yes : 0 < a → a + 1 < 3 → a = 1 := by lia
theorem yet : a ≤ 63 → a ≤ 100000 := by intro h; exact Nat.le_trans h (by decide)
theorem yeu : min 21 a ≤ 63 := by intros; exact Nat.le_trans (Nat.min_le_left _ _) (by decide)
theorem yev : a ≤ 64 → a ≤ 100000 := by intro h; exact Nat.le_trans h (by decide)
theorem yew : a ≤ 100 → a ≤ 100000 := by intro h; exact Nat.le_trans h (by decide)
theorem yex : a ≤ 6 → b = a → b < 900 := by intro h e; rw [e]; exact Nat.lt_of_le_of_lt h (by decide)
theorem yey : a ≤ 101 → a ≤ 100000 := by intro h; exact Nat.le_trans h (by decide)
theorem yez : a ≤ 100 → a + 1 ≤ 101 := by exact fun a_1 => Nat.succ_le_succ a_1
theorem yeA : b < a → b ≤ a := by exact fun a_1 => Nat.le_of_succ_le a_1
theorem yeB : a ≤ 100 → 0 + 1 + (a - 1) ≤ 100000 := by omega
theorem yeC : a - 1 ≤ 100000 → a - 1 ≤ 100000 := by intros; assumption
theorem yeD : a ≤ 100 → a - 1 ≤ 100000 := by intro h; exact Nat.le_trans (Nat.sub_le _ _) (Nat.le_trans h (by decide))
theorem yeE : a ≤ 36 → (↑a : Int) ≤ 1000000000000 := by intro h; exact Int.ofNat_le.mpr (Nat.le_trans h (by decide))
theorem yeF : -1000000000000 ≤ (↑a : Int) := by exact Int.neg_ofNat_le_natCast 1000000000000 a
theorem yeG : a ≤ 6 → a - 1 ≤ 6 := by intro h; exact Nat.le_trans (Nat.sub_le _ _) h
theorem yeH : a ≤ 6 → (↑a : Int) ≤ 1000000000000 := by intro h; exact Int.ofNat_le.mpr (Nat.le_trans h (by decide))
theorem yeI : a ≤ 6 → a + (0 + 1) ≤ 100000 := by intro h; exact Nat.lt_of_le_of_lt h (by decide)
theorem yeJ : a ≤ 64 → a ≤ 1000 := by intro h; exact Nat.le_trans h (by decide)
theorem yeK : a ≤ 6 → b < a → b ≤ 6 := by intro h k; exact Nat.le_trans (Nat.le_of_lt (Nat.lt_of_lt_of_le k h)) (by decide)
theorem yeL : a = b / 2 + 1 → 0 < a := by exact fun a_1 => Nat.lt_of_sub_eq_succ a_1
theorem yeM : a = b / 2 + 1 → b ≤ 6 * 6 → a ≤ 100 := by intros; subst_vars; lia
theorem yeN : a ≤ 6 → a ≤ 100000 := by intro h; exact Nat.le_trans h (by decide)
theorem yeO : a ≤ b → c ≤ 1 → c + a ≤ b + 1 := by lia
theorem yeP : 2 + 2 * a = 2 * (a + 1) := by lia
theorem yeQ : a ≤ 1000 → 2 * a ≤ 100000 := by lia
theorem yeR : a + 0 + 1 = b → a + 1 = b := by intros; assumption
theorem yeS : 0 < 0 + 1 := by exact Nat.zero_lt_succ 0
theorem yeT : 0 + 1 ≤ 100 := by exact Nat.le_of_ble_eq_true rfl
theorem yeU : ¬a = 0 → a - 1 + 1 = a := by exact fun a_1 => Nat.succ_pred_eq_of_ne_zero a_1
theorem yeV : ¬a = 0 → a - 1 < a := by exact fun a_1 => Nat.sub_one_lt a_1
theorem yeW : a ≤ 100000 → b < a → b ≤ 100000 := by intro h k; exact Nat.le_trans (Nat.le_of_lt (Nat.lt_of_lt_of_le k h)) (by decide)
theorem yeX : a < b → a + 1 < b + 2 := by lia
theorem yeY : a ≤ 10 → b + c + 1 = a → c + 2 ≤ 100 := by intros; subst_vars; lia
theorem yeZ : a < b → a < b + 1 := by exact fun a_1 => Nat.lt_add_right 1 a_1
theorem ye0 : a < b → a + 1 < b + 1 := by exact fun a_1 => Nat.add_lt_add_right a_1 1
theorem ye1 : a ≤ 10 → b + c + 1 = a → c + 1 ≤ 100 := by intros; subst_vars; lia
theorem ye2 : b + c + 1 = a → d < c → d + b + 1 < a := by intros; subst_vars; lia
theorem ye3 : b + c + 1 = a → d < c → b + 1 < a := by intros; subst_vars; lia
theorem ye4 : (↑a : Int) + 1 = (↑(a + 1) : Int) := by exact Int.ofNat_add_one_out a
theorem ye5 : a ≤ 10 → b + c + 1 = a → c ≤ 100000 := by intros; subst_vars; lia
theorem ye6 : (↑(a + 1) : Int) - 1 = (↑a : Int) := by exact Int.sub_eq_iff_eq_add.mpr rfl
theorem ye7 : ¬a = 0 → (↑(a + 1) : Int) > 1 := by lia
theorem ye8 : a = 0 → ¬(↑(a + 1) : Int) > 1 := by intros; simp_all
theorem ye9 : a = b → c < a → c < b := by exact fun a_1 a_2 => Nat.lt_of_lt_of_eq a_2 a_1
theorem yfa : a + 1 ≤ 100000 → a + 1 ≤ 100000 := by intros; assumption
theorem yfb : a ≤ 10 → a + 1 ≤ 100000 := by intro h; exact Nat.lt_of_le_of_lt h (by decide)
theorem yfc : a ≤ 10 → a - 1 < 1000 := by intro h; exact Nat.lt_of_le_of_lt (Nat.le_trans (Nat.sub_le _ _) h) (by decide)
theorem yfd : a < b → b ≤ 100 → a ≤ 1000000 := by lia
theorem yfe : b < a → (↑b : Int) < (↑a : Int) := by intros; simp_all
theorem yff : 0 ≤ (↑a : Int) := by exact Int.natCast_nonneg a
theorem yfg : a < b → ¬(↑b : Int) = (↑a : Int) := by lia
theorem yfh : a ≤ a := by exact Nat.le_refl a
theorem yfi : a ≤ b → a ≤ b := by intros; assumption
theorem yfj : a ≤ 4 → b ≤ c → c < a → b ≤ 3 := by lia
theorem yfk : a ≤ 4 → b < a → b ≤ 3 := by lia
theorem yfl : a ≤ b → ¬b = a → a < b := by exact fun a_1 a_2 => Nat.lt_of_le_of_ne a_1 fun a_3 => a_2 (id (Eq.symm a_3))
theorem yfm : a ≤ 4 → a ≤ 1000 := by intro h; exact Nat.le_trans h (by decide)
theorem yfn : ¬a < a := by exact Nat.lt_irrefl a
theorem yfo : a ≤ 4 → b + 1 ≤ c → c < a → b ≤ 2 := by lia
theorem yfp : a + 1 ≤ b → a ≤ b := by exact fun a_1 => Nat.le_of_succ_le a_1
theorem yfq : a + 1 ≤ b → a < b := by intros; assumption
theorem yfs : (1 : Int) ≠ (0 : Int) := by exact Int.one_ne_zero
theorem yfu : 3 < a → 2 < a := by exact fun a_1 => Nat.lt_of_add_left_lt a_1
theorem yfv : 3 < a → 1 < a := by exact fun a_1 => Nat.lt_of_add_left_lt a_1
theorem yfw : 3 < a → 0 < a := by exact fun a_1 => Nat.zero_lt_of_lt a_1
theorem yfx : 48000 ≤ 4000000 := by exact Nat.le_of_ble_eq_true rfl
theorem yfy : a < b → a < b := by intros; assumption
theorem yfz : 2 < a → 1 < a := by exact fun a_1 => Nat.lt_of_add_left_lt a_1
theorem yfA : 2 < a → 0 < a := by exact fun a_1 => Nat.zero_lt_of_lt a_1
theorem yfB : 1 < a → 0 < a := by exact fun a_1 => Nat.zero_lt_of_lt a_1
theorem yfC : 20 ≤ 4000000 := by exact Nat.le_of_ble_eq_true rfl
theorem yfD : 3 ≤ 3 := by exact Nat.le_of_ble_eq_true rfl
theorem yfE : 2 ≤ 2 := by exact Nat.le_of_ble_eq_true rfl
theorem yfF : 2 ≤ 3 := by exact Nat.le_of_ble_eq_true rfl
theorem yfG : 1 ≤ 3 := by exact Nat.le_of_ble_eq_true rfl
theorem yfH : 1 ≤ 2 := by exact Nat.le_of_ble_eq_true rfl
theorem yfI : 1 ≤ 1 := by exact Nat.le_of_ble_eq_true rfl
theorem yfJ : 0 ≤ 3 := by exact Nat.zero_le 3
theorem yfK : 0 ≤ 2 := by exact Nat.zero_le 2
theorem yfL : 0 ≤ 1 := by exact Nat.zero_le 1
theorem yfM : 0 ≤ 0 := by exact Nat.zero_le 0
theorem yfN : a < b → c < a → ¬c = b := by lia
theorem yfO : a < b → ¬a = b := by exact fun a_1 => Nat.ne_of_lt a_1
theorem yfP : a + 1 + b = c → ¬d = c → ¬d < a + 1 + b → ¬d < a + 1 + (b + 1) := by lia
theorem yfQ : c < a + 1 + b → c < a + 1 + (b + 1) := by exact fun a_1 => Nat.lt_succ_of_lt a_1
theorem yfR : a + 1 + b = c → a < c := by intros; subst_vars; lia
theorem yfS : a + 1 + b = c → ¬c < a + 1 + b := by intros; simp_all
theorem yfT : a + 1 + b = c → c < a + 1 + (b + 1) := by intros; subst_vars; lia
theorem yfU : c = b ∧ d = a → ¬a < d := by intros; simp_all
theorem yfV : a + 1 + b = c → d = c ∧ e = a → a < d := by lia
theorem yfW : a + 1 + b = c → d = c ∧ e = a → d < a + 1 + (b + 1) := by lia
theorem yfX : a + 1 ≤ 100000 → a ≤ 100000 := by intro h; exact Nat.le_of_lt (Nat.lt_of_lt_of_le h (by decide))
theorem yfY : a ≤ 100 → b < a → b ≤ 100000 := by intro h k; exact Nat.le_trans (Nat.le_of_lt (Nat.lt_of_lt_of_le k h)) (by decide)
theorem yfZ : a + 1 + c = d → ¬(e = b ∧ f = d) → ¬(e = b ∧ a < f ∧ f < a + 1 + c) → ¬(e = b ∧ a < f ∧ f < a + 1 + (c + 1)) := by lia
theorem yf0 : a + 1 + c = d → e = b ∧ f = d → e = b ∧ a < f ∧ f < a + 1 + (c + 1) := by lia
theorem yf1 : a ≤ 100 → a ≤ 1000 := by intro h; exact Nat.le_trans h (by decide)
theorem yf2 : a < a + 1 + b := by lia
theorem yf3 : a + 1 + c = d → ¬(a = b ∧ a < d ∧ d < a + 1 + c) := by intros; simp_all
theorem yf4 : a + 1 + c = d → ¬(b = b ∧ a < d ∧ d < a + 1 + c) := by intros; simp_all
theorem yf5 : c < b - (a + 1) → a + 1 + c < b := by exact fun a_1 => Nat.add_lt_of_lt_sub' a_1
theorem yf6 : (↑(a + 1) : Int) + (↑b : Int) = (↑(a + 1 + b) : Int) := by intros; rfl
theorem yf7 : ¬(c = b ∧ a < d ∧ d < a + 1 + 0) := by lia
theorem yf8 : a < b + 1 + 0 → ¬b < a := by lia
theorem yf9 : a ≤ 100 → b < a → b + 1 ≤ 100000 := by intro h k; exact Nat.le_trans (Nat.le_trans k h) (by decide)
theorem yga : a ≤ b → c < a + (b - a) → c < b := by intros; simp_all
theorem ygb : a < b + c → a < b + c := by intros; assumption
theorem ygc : a ≤ a + b := by exact Nat.le_add_right a b
theorem ygd : c < b - a → a + c < b := by exact fun a_1 => Nat.add_lt_of_lt_sub' a_1
theorem yge : a < b + (c + 1) → ¬a = b + c → a < b + c := by intro h k; exact Nat.lt_of_le_of_ne (Nat.le_of_lt_succ h) k
theorem ygf : (↑a : Int) + (↑b : Int) = (↑(a + b) : Int) := by intros; rfl
theorem ygh : a ≤ 100 → b ≤ a → b ≤ 100000 := by intro h k; exact Nat.le_trans (Nat.le_trans k h) (by decide)
theorem ygi : a < b + c → a < b + (c + 1) := by exact fun a_1 => Nat.lt_succ_of_lt a_1
theorem ygj : a + b < a + (b + 1) := by exact Nat.lt_add_one (a + b)
theorem ygk : ¬a < b → c = a → c < b → False := by intro h k; exact k ▸ h
theorem ygl : a < b → b ≤ 1000 → a ≤ 1000000 := by lia
theorem ygm : a ≤ 100 → (↑a : Int) ≤ 100000 := by intro h; exact Int.ofNat_le.mpr (Nat.le_trans h (by decide))
theorem ygn : a ≤ 100 → b ≤ 100 → c = a → b + c ≤ 100000 := by intros; subst_vars; lia
theorem ygo : a ≤ 100 → b = a → b ≤ 100000 := by intro h e; rw [e]; exact Nat.le_trans h (by decide)
theorem ygp : a ≤ 100 → b = a → min b c ≤ 100000 := by intros; subst_vars; lia
theorem ygq : 0 + 1 ≤ 100000 := by exact Nat.le_of_ble_eq_true rfl
theorem ygr : a ≤ 100 → b = a → b + 1 ≤ 100000 := by intro h e; rw [e]; exact Nat.lt_of_le_of_lt h (by decide)
theorem ygs : a ≤ 100 → b = a → 1 + b ≤ 100000 := by intros; subst_vars; lia
theorem ygu : b = a → a ≤ 100 → c < b → c ≤ 1000 := by intros; subst_vars; lia
theorem ygv : a = b → c = b → d < a → d < c := by intros; subst_vars; omega
theorem ygw : a = b → c = b → d < c → d < a := by intros; subst_vars; omega
theorem ygx : a ≤ 1000 → a ≤ 1000000 := by intro h; exact Nat.le_trans h (by decide)
theorem ygy : min a (a + 1) = a := by exact Nat.min_add_right_self
theorem ygz : b < 900 → min a b ≤ 100000 := by lia
theorem ygA : a < 900 → a ≤ 100000 := by intro h; exact Nat.le_of_lt (Nat.lt_of_lt_of_le h (by decide))
theorem ygB : min a b + 1 = min (a + 1) (b + 1) := by exact Eq.symm (Nat.add_min_add_right a b 1)
theorem ygC : a + 1 + b = a + (b + 1) := by exact Nat.succ_add_eq_add_succ a b
theorem ygD : a + (b + 1) = a + 1 + b := by lia
theorem ygE : a < 900 → b < a → (↑b : Int) + 1 ≤ 1000000000000 := by lia
theorem ygF : -1000000000000 ≤ (↑a : Int) + 1 := by exact Int.neg_ofNat_le_ofNat 1000000000000 (a + 1)
theorem ygG : (↑a : Int) + 1 ≠ 0 := by exact Ne.symm (not_eq_of_beq_eq_false rfl)
theorem ygH : a < 900 → a / 2 < 900 := by exact fun a_1 => Nat.div_lt_of_lt a_1
theorem ygI : 1 < a → a / 2 < a := by exact fun a_1 => Nat.log2_terminates a a_1
theorem ygJ : 1 < a → (↑a : Int) > 1 := by exact fun a_1 => Int.lt_of_toNat_lt a_1
theorem ygK : ¬a % 2 = 1 → (↑(a % 2) : Int) ≠ 1 := by exact fun a_1 => Nat.ToInt.of_diseq rfl rfl a_1
theorem ygL : ¬1 < a → a / 2 < 900 := by lia
theorem ygM : ¬1 < a → ¬(↑a : Int) > 1 := by lia
theorem ygN : a % 2 = 1 → (↑(a % 2) : Int) = 1 := by intros; simp_all
theorem ygO : a < 900 → (↑a : Int) ≤ 1000000000000 := by intro h; exact Int.ofNat_le.mpr (Nat.le_trans (Nat.le_of_lt h) (by decide))
theorem ygP : ¬a = 0 → (↑a : Int) > 0 := by lia
theorem ygQ : a = 0 → ¬(↑a : Int) > 0 := by intros; simp_all
theorem ygR : a < 900 → a < 1000 := by intro h; exact Nat.lt_of_lt_of_le h (by decide)
theorem ygT : (↑(a + 1) : Int) = (↑a : Int) + 1 := by intros; rfl
theorem ygU : a % 10 ≤ 1000000 := by lia
theorem ygV : (↑a : Int) % 10 = (↑(a % 10) : Int) := by intros; rfl
theorem ygW : ¬a < b → ¬(↑a : Int) < (↑b : Int) := by intros; simp_all
theorem ygX : a < b → (↑a : Int) < (↑b : Int) := by intros; simp_all
theorem ygY : 0 < a → (↑a : Int) ≠ 0 := by lia
theorem ygZ : a < 400 → a ≤ 100000 := by intro h; exact Nat.le_of_lt (Nat.lt_of_lt_of_le h (by decide))
theorem yg0 : a < 200 → b = a → b < 900 := by intro h e; rw [e]; exact Nat.lt_of_lt_of_le h (by decide)
theorem yg2 : a = 0 → a = 0 := by intros; assumption
theorem yg3 : a < 200 → a < 400 := by intro h; exact Nat.lt_of_lt_of_le h (by decide)
theorem yg4 : a ≤ b - 1 → c < a → b - 1 ≠ c := by lia
theorem yg5 : a < 400 → a < 900 := by intro h; exact Nat.lt_of_lt_of_le h (by decide)
theorem yg6 : 0 < a → ¬a = 0 := by intro h; exact Nat.ne_of_gt h
theorem yg7 : a < 200 → a < 900 := by intro h; exact Nat.lt_of_lt_of_le h (by decide)
theorem yha : 0 < a → a - 1 < a := by exact fun a_1 => Nat.sub_one_lt_of_lt a_1
theorem yhb : 0 < a → ¬(↑0 : Int) ≥ (↑a : Int) := by lia
theorem yhc : a = b → b = 0 → a = 0 := by intros; subst_vars; rfl
theorem yhd : a < 200 → a < 1000 := by intro h; exact Nat.lt_of_lt_of_le h (by decide)
theorem yhe : a < 200 → a ≤ 100000 := by intro h; exact Nat.le_of_lt (Nat.lt_of_lt_of_le h (by decide))
theorem yhf : a + b - 1 - 1 = a + b - 2 := by intros; rfl
theorem yhg : a + 1 + 1 - 1 = a + 1 - 1 + 1 := by intros; rfl
theorem yhh : a ≤ b + 1 + 1 + a - 2 := by lia
theorem yhi : max a (b + 1 + a - 1 + 1) = b + 1 + 1 + a - 1 := by lia
theorem yhj : 0 + 1 + a - 2 = a - 1 := by intros; ac_rfl
theorem yhk : 0 < a → max a (0 + 1) = 0 + 1 + a - 1 := by lia
theorem yhl : a < b → a ≤ b - 1 := by exact fun a_1 => Nat.le_sub_one_of_lt a_1
theorem yhs : a ≤ b → min a b = a := by exact fun a_1 => Nat.min_eq_left a_1
theorem yht : a < b → a + 1 ≤ b := by intros; assumption
theorem yhu : ¬a < b → b < a + 1 := by exact fun a_1 => Nat.lt_of_not_le a_1
theorem yhv : min a b ≤ b := by exact Nat.min_le_right a b
theorem yhw : a + b - 1 ≤ a + b := by exact Nat.sub_le (a + b) 1
theorem yhx : 0 < a → 0 < b → ¬(a = 0 ∨ b = 0) := by lia
theorem yhy : a + 1 ≤ b → b + c ≤ d + 1 → a + c ≤ d := by lia
theorem yhz : ¬(a = 0 ∨ b = 0) → (↑b : Int) ≠ 0 := by intros; simp_all
theorem yhA : ¬(b = 0 ∨ a = 0) → (↑b : Int) ≠ 0 := by intros; simp_all
theorem yhB : a = 0 ∨ b = 0 → ¬a = 0 → (↑b : Int) = 0 := by intros; simp_all
theorem yhC : ¬a = 0 → (↑a : Int) ≠ 0 := by intros; simp_all
theorem yhD : a = 0 → (↑a : Int) = 0 := by intros; subst_vars; rfl
theorem yhF : a < max b c → a ≥ b → a ≥ c → False := by lia
theorem yhG : a ≥ b → ¬(↑a : Int) < (↑b : Int) := by intros; simp_all
theorem yhH : max a b ≤ 100000 → c < max a b → c ≤ 1000000 := by intro h k; exact Nat.le_trans (Nat.le_of_lt (Nat.lt_of_lt_of_le k h)) (by decide)
theorem yhI : max a b ≤ 100000 → max a b ≤ 100000 := by intros; assumption
theorem yhJ : a < 900 → b < 900 → max a b ≤ 100000 := by lia
theorem yhK : a < 900 → b < 900 → max a b < 900 := by lia
theorem yhL : max (↑a : Int) (↑b : Int) = (↑(max a b) : Int) := by omega
theorem yhM : a < b → b - 1 - a < b := by exact fun a_1 => Nat.sub_one_sub_lt_of_lt a_1
theorem yhN : b - (a + 1) = b - 1 - a := by lia
theorem yhO : a < 900 → b < 900 → b + a ≤ 100000 := by intro h k; exact Nat.le_trans (Nat.add_le_add (Nat.le_of_lt k) (Nat.le_of_lt h)) (by decide)
theorem yhP : a < 900 → b ≤ a → c = b + 0 → (↑c : Int) ≤ 100000 := by omega
theorem yhQ : a ≤ b → a - 1 ≤ b := by omega
theorem yhR : a = b + c → ¬c = 0 → b < a := by omega
theorem yhS : a = b + c → ¬c = 0 → (↑a : Int) > 0 := by omega
theorem yhT : a = b + c → c = 0 → b = a := by omega
theorem yhU : a ≤ b → (↑a : Int) - 1 = (↑(a - 1) : Int) → a - 1 < b := by omega
theorem yhV : a ≤ b + 1 → b + 1 < a → False := by omega
theorem yhW : a < b → b ≤ 0 → False := by omega
theorem yhX : a < b + 1 → c < a → c < b := by omega
theorem yhY : a ≤ 1000000 → (↑a : Int) < 2 ^ 63 := by omega
theorem yh0 : a ≤ 100000 → a ≤ 2 ^ 24 := by omega
theorem yh1 : a < 1000 → (↑a : Int) < 1000 := by omega
theorem yh2 : 0 ≤ 100000 := by omega
theorem yh3 : a ≤ 100000 → 0 ≤ (↑a : Int) ∧ (↑a : Int) < 2 ^ 62 := by omega
theorem yh4 : a ≤ 100 → a ≤ 2 ^ 24 := by omega
theorem yh5 : a ≤ b + a := by omega
theorem yh6 : a = b + 1 → 0 = a → False := by omega
theorem yh7 : a + (b + c) ≤ b + (a + c) := by omega
theorem yh8 : a + (b + (c + d)) ≤ a + (c + (b + d)) := by omega
theorem yh9 : a ≤ b → a + (c + d) ≤ c + (b + d) := by lia
theorem yia : a = b + c → b + d ≤ a + (e + d) := by omega
theorem yib : a ≤ b + (c + a) := by omega
theorem yic : a + (b + c) + (d + e) ≤ a + (b + c + (d + e)) := by omega
theorem yid : a + (b + c + (d + e)) ≤ a + b + (d + (c + e)) := by omega
theorem yie : a = b + c → d = 0 + c → e + d + (f + g) ≤ e + (a + (f + g)) := by omega
theorem yih : a + b = c + d + e → c + (d + (e + f)) ≤ a + (b + f) := by omega
theorem yii : a + b = 1 + c + d → 0 < a + (b + e) := by omega
theorem yij : a = b → c = d + a + e → c + (f + g) ≤ d + (e + (f + (b + g))) := by omega
theorem yil : a = b + c + d → b + (d + (e + (c + f))) ≤ g + (a + (e + f)) := by omega
theorem yio : a = 1 + b + c → 0 < a + (d + e) := by omega
theorem yip : a = b → c + (d + (a + e)) ≤ c + (d + (f + b + e)) := by omega
theorem yiq : a + (b + (c + d)) ≤ a + (b + (e + c + d)) := by omega
theorem yir : a + (b + (c + d + e)) ≤ c + (a + (b + (d + e))) := by omega
theorem yis : a = b → c = b → c = a := by omega
theorem yit : a = b → b = 3 → a = 3 := by omega
theorem yiu : a = b + 1 → a ≤ b → False := by omega
theorem yiv : a + b = c + d + e → d = f + g + h → f + (c + (g + (h + (e + i)))) ≤ a + (b + i) := by omega
theorem yix : a = b + c → d = e + c → f + d + (g + h) ≤ f + (a + (g + (e + h))) := by omega
theorem yiy : a + b = c + d + e → c + (d + (e + (f + g))) ≤ a + (b + (f + g)) := by omega
theorem yiz : a = b + c → d + a = b + (d + c) := by omega
theorem yiA : a + b + (c + d) ≤ c + (a + (b + d)) := by omega
theorem yiB : a + (b + (c + d)) ≤ b + (c + (a + d)) := by omega
theorem yiC : a + (b + (c + (d + (e + f)))) ≤ c + (a + (b + (d + (e + f)))) := by omega
theorem yiD : 0 + (a + b + (c + (0 + (d + (e + (f + g)))))) ≤ a + (e + (c + (f + (b + (d + g))))) := by omega
theorem yiE : a + 0 + (b + (c + (d + (e + (f + g))))) ≤ a + (b + (c + (d + (e + (f + g))))) := by omega
theorem yiF : 0 + (a + (b + (c + (d + (e + f))))) ≤ a + (b + (c + (d + (e + f)))) := by omega
theorem yiG : a + (b + (c + d)) ≤ c + (a + (b + d)) := by omega
theorem yiH : a + (b + (c + (d + e + f))) ≤ c + (a + (b + (d + e + f))) := by omega
theorem yiI : a + 1 ≤ b → c = a → c ≤ b := by omega
theorem yiJ : a + (b + (c + (d + e + f))) ≤ b + (c + (e + (a + (d + f)))) := by omega
theorem yiK : a + (b + (c + (d + (e + (f + g))))) ≤ c + (f + (a + (b + (d + (e + g))))) := by omega
theorem yiL : a + (b + (c + (d + (e + f)))) ≤ b + (c + (d + (e + (a + f)))) := by omega
theorem yiM : a + (b + (c + (d + e))) ≤ c + (d + (a + (b + e))) := by omega
theorem yiN : a + (b + (c + d)) ≤ b + (c + (a + 0 + d)) := by omega
theorem yiO : a + (b + (0 + c)) ≤ a + (b + (d + 0 + c)) := by omega
theorem yiP : a + (b + c) ≤ a + b + c := by lia
theorem yiQ : a + (b + (c + (d + 0) + e)) ≤ c + (d + 0) + (a + (b + e)) := by lia
theorem yiR : a + (b + (c + 0 + d)) ≤ c + (a + (b + d)) := by lia
theorem yiS : a = b → b ≤ c → a ≤ c := by exact fun a_1 a_2 => le_of_eq_of_le a_1 a_2
theorem yiT : a + 1 ≤ b → c = b → a < c := by exact fun a_1 a_2 => Nat.lt_of_lt_of_eq a_1 (id (Eq.symm a_2))
theorem yiU : 0 < (↑(a + 1) : Int) := by exact Int.ofNat_succ_pos a
theorem yiV : a + b = c + d → c + (d + e) ≤ a + (b + e) := by lia
theorem yiW : a + (b + c) ≤ b + a + c := by lia
theorem yiX : a + 8 * b + 100 < c → a + 64 < c := by lia
theorem yiY : a + b + c ≤ b + (a + c) := by lia
theorem yiZ : a = b + 0 + c + d → e + (a + f) ≤ b + (e + (d + (c + f))) := by intros; subst_vars; lia
theorem yi0 : a = b + 0 + c + d → b + (e + (d + (f + g))) ≤ e + (a + (f + g)) := by intros; subst_vars; lia
theorem yi1 : a ≤ b + c → a + (d + e) ≤ c + (d + (b + e)) := by lia
theorem yi2 : a + b = c + d → 0 < a + b → 0 < c + (d + e) := by lia
theorem yi3 : a = b + 0 + c + d → c + (b + (e + d) + f) ≤ g → e + (a + f) ≤ g := by intros; subst_vars; lia
theorem yi4 : a = 1 + 0 + b + c → 0 < a := by intros; subst_vars; lia
theorem yi5 : a = b + 0 + c + d → e + a = c + (b + (e + d)) := by intros; subst_vars; lia
theorem yi6 : a = b + c → b + (c + d + e) ≤ f → a + (d + e) ≤ f := by intros; subst_vars; lia
theorem yi7 : a = b + c → a + d = b + (c + d) := by intros; subst_vars; lia
theorem yi8 : a + (b + c) ≤ c + (a + b) := by lia
theorem yi9 : a + (b + c) ≤ b + (c + a) := by lia
theorem yja : a ≤ b → c + (d + a) ≤ c + (d + b) := by omega
theorem yjb : a ≤ 2 ^ 24 → a < 2 ^ 62 := by intro h; exact Nat.lt_of_le_of_lt h (by decide)
theorem yjc : a ≤ 2 ^ 24 → b = a → b < 2 ^ 62 := by intro h e; rw [e]; exact Nat.lt_of_le_of_lt h (by decide)
theorem yje : 0 < a → 0 ≤ -1 + (↑a : Int) ∧ -1 + (↑a : Int) < (↑a : Int) := by lia
theorem yjh : 0 < a → -(↑a : Int) ≤ -1 := by lia
theorem yjj : (0 : Int) ≤ (63 : Int) := by simp
theorem yjl : a ≤ 63 → (↑a : Int) ≤ 63 := by exact fun a_1 => Nat.ToInt.of_le rfl rfl a_1
theorem yjm : a = b + c + d → 0 < c → 0 < a := by lia
theorem yjn : a = 1 + b + c + d → 0 < a := by intros; subst_vars; lia
theorem yjo : a + (b + c + d) = b + c + (a + d) := by exact Nat.add_left_comm a (b + c) d
theorem yjp : a ≤ b + c → d + a ≤ b + (d + c) := by lia
theorem yjq : a + b ≤ a + (c + b) := by simp
theorem yjr : a = b + c → 0 < b → 0 < a := by lia
theorem yjs : a + (b + c) = b + (a + c) := by exact Nat.add_left_comm a b c
theorem yjt : 1 + a ≤ b → 0 < a → b ≤ 1 → False := by lia
theorem yju : a ≤ 1 → 0 + a ≤ 1 := by intros; simp_all
theorem yjv : a = 0 → 1 + a ≤ 1 := by intros; simp_all
theorem yjA : a ≤ b → c = a → c ≤ b := by exact fun a_1 a_2 => le_of_eq_of_le a_2 a_1
theorem yjB : a < 2 ^ 62 → b = a → b < 2 ^ 62 := by exact fun a_1 a_2 => lt_of_eq_of_lt a_2 a_1
theorem yjC : a < 2 ^ 62 → (↑a : Int) < 2 ^ 63 := by intro h; exact Int.ofNat_lt.mpr (Nat.lt_trans h (by decide))
theorem yjD : a + 8 * (b + 1) + 100 < c → a + 3 + 8 * b + 100 < c := by lia
theorem yjE : a + (b + 1) < c → a + 1 + b < c := by lia
end
section
variable {a b c d e f g h i j : Int}
theorem yaQ : 0 ≤ a ∧ a < (↑2 : Int) → 3 + a = (↑(3 + a).toNat : Int) := fun h => (Int.toNat_of_nonneg (Int.add_nonneg (by decide) h.1)).symm
theorem ybu : -100000 ≤ a → a ≤ 100000 → -2 ^ 62 ≤ a ∧ a < 2 ^ 62 := fun h k => ⟨Int.le_trans (by decide) h, Int.lt_of_le_of_lt k (by decide)⟩
theorem ybw : max a 0 < b → a < b := fun h => Int.lt_of_le_of_lt (Int.le_max_left _ _) h
theorem ybB : a = 1 ∨ a = -1 → -a = 1 ∨ -a = -1 := fun h => h.elim (fun h => .inr (by rw [h])) fun h => .inl (by rw [h]; rfl)
theorem ybG : 0 ≤ a ∧ a < (↑7 : Int) → -3 ≤ a - 3 ∧ a - 3 ≤ 3 := fun h => ⟨Int.sub_le_sub_right h.1 3, Int.sub_le_sub_right (Int.le_of_lt_add_one h.2 : a ≤ 6) 3⟩
theorem ybH : 0 ≤ a ∧ a < (↑6 : Int) → -3 ≤ a - 3 ∧ a - 3 ≤ 2 := fun h => ⟨Int.sub_le_sub_right h.1 3, Int.sub_le_sub_right (Int.le_of_lt_add_one h.2 : a ≤ 5) 3⟩
theorem yb2 : 0 ≤ a ∧ a < (↑2 : Int) → (3 + a).toNat = 3 ∨ (3 + a).toNat = 4 := fun h => by
 rcases Int.lt_or_eq_of_le (Int.le_of_lt_add_one h.2 : a ≤ 1) with k | k
 · left; rw [Int.le_antisymm (Int.le_of_lt_add_one k) h.1]; rfl
 · right; rw [k]; rfl
theorem yb5 : a.natAbs ≤ 3 → a.natAbs < 2 ^ 63 := by intro h; exact Nat.lt_of_le_of_lt h (by decide)
theorem ycj : -3 ≤ a ∧ a ≤ 3 → a.natAbs ≤ 3 := by omega
theorem ycv : 2 + 1 < 3 → a + b = c := by intros; simp_all
theorem ycH : a.natAbs ≤ 9 → b.natAbs ≤ 9 → a.natAbs + (b.natAbs + 0) ≤ 1000000000 := by intro h k; exact Nat.le_trans (Nat.add_le_add h k) (by decide)
theorem ycI : a.natAbs ≤ 3 → a.natAbs + 0 ≤ 1000000000 := by intro h; exact Nat.le_trans h (by decide)
theorem ycO : a ≤ 100 → a.toNat ≤ 100 := by intros; simp_all
theorem ycR : a.natAbs ≤ 3 → (1 * a).natAbs ≤ 27 := by lia
theorem ydE : a.natAbs ≤ 3 → b.natAbs ≤ 3 → a.natAbs + (b.natAbs + 0) ≤ 6 := by intro h k; exact Nat.add_le_add h k
theorem yfr : a.natAbs ≤ 4000000 → a.natAbs < 2 ^ 63 := by intro h; exact Nat.lt_of_le_of_lt h (by decide)
theorem yft : 1 * a = a := by exact Int.one_mul a
theorem ygt : a = 0 → ¬a = -1 := by intros; simp_all
theorem ygS : a.natAbs < 1000 → a.natAbs < 2 ^ 63 := by intro h; exact Nat.lt_of_lt_of_le h (by decide)
theorem yg1 : a + 0 = b → a = b := by simp
theorem yg9 : a.natAbs ≤ 1000000000 → a.natAbs ≤ 1000000000 := by intros; assumption
theorem yhm : a + b = 0 → b = -c → a = c := by intros; subst_vars; lia
theorem yhn : a + -a = 0 := by exact Int.add_right_neg a
theorem yho : max a 0 < b → b = 0 → c = 0 := by intros; subst_vars; lia
theorem yhp : (↑a.natAbs : Int) < b → a.natAbs < b.natAbs := by lia
theorem yhq : (↑a.natAbs : Int) < max b 0 + (↑a.natAbs : Int) + 1 := by lia
theorem yhr : a < max a 0 + (↑b.natAbs : Int) + 1 := by lia
theorem yhZ : -1000000000000 ≤ a → a ≤ 1000000000000 → a.natAbs < 2 ^ 63 := by omega
theorem yiw : 0 ≤ a ∧ a < 2 ^ 62 → a < 2 ^ 63 := by omega
theorem yjd : 0 ≤ a → -2 ^ 63 ≤ a := by lia
theorem yjg : 0 ≤ a → ¬a < 0 := by exact fun a_1 => Int.not_lt_of_ge a_1
theorem yji : a ≤ 63 * 1000 → a ≤ 2 ^ 27 := by lia
theorem yjk : 0 ≤ a ∧ a < 1000 ∧ b.natAbs < 2 ^ 63 → a ≤ 1000 := by omega
theorem yjx : a ≤ 2 ^ 24 → 1 * a.toNat ≤ 2 ^ 24 := by intros; simp_all
theorem yjy : a ≤ 2 ^ 24 → a < 2 ^ 63 := by lia
theorem yjz : -2 ^ 62 ≤ a → -2 ^ 63 ≤ a := by lia
end
theorem yaa {a b : Int} {A B : Nat} (h1 : a.natAbs ≤ A) (h2 : b.natAbs ≤ B) : (a + b).natAbs ≤ A + B := Nat.le_trans (Int.natAbs_add_le _ _) (Nat.add_le_add h1 h2)
theorem yab {a b : Int} {A B : Nat} (h1 : a.natAbs ≤ A) (h2 : b.natAbs ≤ B) : (a - b).natAbs ≤ A + B := Nat.le_trans (Int.natAbs_sub_le _ _) (Nat.add_le_add h1 h2)
theorem yac {a b c : Nat} (h : (↑(a + b) : Int) - (↑a : Int) = (↑c : Int)) : b = c := by rw [Int.natCast_add, Int.add_comm, Int.add_sub_cancel] at h; exact Int.ofNat.inj h
theorem yaE {a b c : Nat} {d : Int} {e : Nat} : a = b → b ≤ c → (↑c : Int) < 2 ^ 62 → d < (↑e : Int) → e = a → d < 2 ^ 63 := fun h1 h2 h3 h4 h5 => Int.lt_trans h4 (Int.lt_trans (Int.lt_of_le_of_lt (Int.ofNat_le.mpr (by rw [h5, h1]; exact h2)) h3) (by decide))
theorem yaN {a : Int} {b : Nat} {c : Int} {d : Nat} : 0 ≤ a ∧ a < (↑b : Int) ∧ 0 ≤ c ∧ c < (↑b : Int) → d = b → a.toNat < d := fun h e => by rw [e]; exact (Int.toNat_lt h.1).mpr h.2.1
theorem yaV {a : Int} {b : Nat} {c : Int} {d : Nat} : 0 ≤ a ∧ a < (↑b : Int) ∧ 0 ≤ c ∧ c < (↑b : Int) → d = b → c.toNat < d := fun h e => by rw [e]; exact (Int.toNat_lt h.2.2.1).mpr h.2.2.2
theorem ya2 {a : Int} {b : Nat} : 0 ≤ a ∧ a < 2 ^ 62 ∧ a < (↑b : Int) → a.toNat < b := fun h => (Int.toNat_lt h.1).mpr h.2.2
theorem ya6 {a : Int} {k : Nat} (h : a.natAbs ≤ k) : a ≤ k := Int.le_trans Int.le_natAbs (Int.ofNat_le.mpr h)
theorem ya7 {a : Int} {k : Nat} (h : a.natAbs ≤ k) : -k ≤ a := Int.neg_le_of_neg_le (ya6 (by rw [Int.natAbs_neg]; exact h))
theorem ybn {a : Int} {b : Nat} {c : Int} {d : Nat} : 0 ≤ a ∧ a < (↑b : Int) ∧ 0 ≤ c ∧ c < (↑b : Int) → d = b → a < (↑d : Int) := fun h e => by rw [e]; exact h.2.1
theorem ycN {a : Int} {b : Nat} : a.natAbs ≤ b → b ≤ 81 → a.natAbs < 2 ^ 63 := by intro h k; exact Nat.lt_of_le_of_lt (Nat.le_trans h k) (by decide)
theorem ycQ {a : Int} {b : Nat} : a.natAbs ≤ b → a.natAbs ≤ b * 3 := by lia
theorem ydU {a : Int} {b : Nat} : a.natAbs ≤ b → b ≤ 1000000000 → a.natAbs < 2 ^ 63 := by intro h k; exact Nat.lt_of_le_of_lt (Nat.le_trans h k) (by decide)
theorem yd0 {a b : Nat} {c : Int} : a ≤ b → c.natAbs + a ≤ c.natAbs + b := by intros; simp_all
theorem yd1 {a : Int} {b : Nat} {c : Int} : a.natAbs ≤ b → a.natAbs ≤ c.natAbs + b := by exact fun a_1 => Nat.le_add_left_of_le a_1
theorem yd2 {a : Int} {b : Nat} : a.natAbs ≤ a.natAbs + b := by exact Nat.le_add_right a.natAbs b
theorem ygg {a b : Nat} {c : Int} : a ≤ b → b < a + 0 → c = 0 := by intro h k; exact absurd k (Nat.not_lt.mpr h)
theorem yg8 {a : Int} {b : Nat} : a.natAbs = b → b ≤ 1000000000 * 1000000000 → a.natAbs < 2 ^ 63 := by intros; subst_vars; lia
theorem yhE {a : Int} {b : Nat} : a + 1 + (↑b : Int) = a + (↑(b + 1) : Int) := by lia
theorem yif {a : Int} {b c : Nat} : 0 ≤ a ∧ a < 2 ^ 62 ∧ a < (↑b : Int) → c = b → a < (↑c : Int) := by omega
theorem yig {a : Int} {b : Nat} : 0 ≤ a ∧ a < 2 ^ 62 ∧ a < (↑b : Int) → a < 2 ^ 63 := by omega
theorem yik {a : Int} {b : Nat} {c : Int} {d : Nat} : 0 ≤ a ∧ a < (↑b : Int) ∧ 0 ≤ c ∧ c < (↑b : Int) → d = b → c < (↑d : Int) := by omega
theorem yim {a : Int} {b : Nat} {c : Int} {d : Nat} : 0 ≤ a ∧ a < (↑b : Int) ∧ 0 ≤ c ∧ c < (↑b : Int) → b ≤ d → (↑d : Int) < 2 ^ 62 → c < 2 ^ 63 := by omega
theorem yin {a : Int} {b : Nat} {c : Int} {d : Nat} : 0 ≤ a ∧ a < (↑b : Int) ∧ 0 ≤ c ∧ c < (↑b : Int) → b ≤ d → (↑d : Int) < 2 ^ 62 → a < 2 ^ 63 := by omega
theorem yjf {a : Int} {b : Nat} : 0 ≤ a → a.toNat < b → 0 ≤ a ∧ a < (↑b : Int) := by intros; simp_all
theorem yjw {a : Int} {b : Nat} : ¬a.toNat ≤ b → b ≤ a.toNat := by exact fun a_1 => Nat.le_of_not_ge a_1
section
variable {a b c d e f g h i j : Int}
theorem yad : a.natAbs ≤ 27 → b.natAbs ≤ 27 → c.natAbs ≤ 27 → d.natAbs ≤ 243 → e.natAbs ≤ 27 → f.natAbs ≤ 27 → g.natAbs ≤ 27 → a.natAbs + ((b + c + d).natAbs + ((e + f + d).natAbs + (g.natAbs + 0))) ≤ 1000000000 := fun h1 h2 h3 h4 h5 h6 h7 => Nat.le_trans (Nat.add_le_add h1 (Nat.add_le_add (yaa (yaa h2 h3) h4) (Nat.add_le_add (yaa (yaa h5 h6) h4) h7))) (by decide)
theorem yae : a.natAbs ≤ 20 * 48000 → b.natAbs ≤ 20 * 48000 → c.natAbs ≤ 20 * 48000 → d.natAbs ≤ 20 * 48000 → (a - b + c - d).natAbs ≤ 4000000 := fun h1 h2 h3 h4 => Nat.le_trans (yab (yaa (yab h1 h2) h3) h4) (by decide)
theorem yaf : a.natAbs ≤ 20 * 800 → b.natAbs ≤ 20 * 800 → c.natAbs ≤ 20 * 800 → (a - b + c).natAbs ≤ 48000 := fun h1 h2 h3 => Nat.le_trans (yaa (yab h1 h2) h3) (by decide)
theorem yah : a.natAbs ≤ 4000000 * 4000000 → b.natAbs ≤ 4000000 * 4000000 → (a - b).natAbs < 2 ^ 63 := fun h1 h2 => Nat.lt_of_le_of_lt (yab h1 h2) (by decide)
theorem yaF : a.natAbs ≤ 20 * 20 → b.natAbs ≤ 20 * 20 → (a - b).natAbs ≤ 4000000 := fun h1 h2 => Nat.le_trans (yab h1 h2) (by decide)
theorem yaW : a.natAbs ≤ 20 * 20 → b.natAbs ≤ 20 * 20 → (a - b).natAbs ≤ 800 := fun h1 h2 => Nat.le_trans (yab h1 h2) (by decide)
theorem ya8 : a.natAbs ≤ 1000000000 → -1000000000000 ≤ a := fun h => Int.le_trans (by decide) (ya7 h)
theorem ya9 : a.natAbs ≤ 1000000000 → a ≤ 1000000000000 := fun h => Int.le_trans (ya6 h) (by decide)
theorem ybg : a.natAbs < 2 ^ 63 → a < 2 ^ 64 := fun h => Int.lt_of_le_of_lt (ya6 (Nat.le_of_lt h)) (by decide)
theorem ybh : a.natAbs < 2 ^ 63 → -2 ^ 64 < a := fun h => Int.lt_of_lt_of_le (by decide) (ya7 (Nat.le_of_lt h))
end
section
variable {a b c d e f g h i j : Nat}
theorem yap : d = a + b - 1 → (↑d : Int) - (↑a : Int) = (↑(c - 1) : Int) → e ≤ b - 1 → e ≤ c - 1 := fun h1 h2 h3 => by
 subst h1
 cases b with
 | zero => exact Nat.le_trans h3 (Nat.zero_le _)
 | succ b => exact yac h2 ▸ h3
end
inductive D where
 | int (i : Int)
 | none
 | bool (b : Bool)
 | lst (xs : List D)
 | tup (xs : List D)
noncomputable abbrev zen (its : Array Value) (n : Nat) : Obj := { cls := .type "tuple", data := .seq its n }
noncomputable def Le (g h : Heap) : Prop := ∀ b o, g.get? b = some o → h.get? b = some o
theorem Le.refl (g : Heap) : Le g g := fun _ _ e => e
theorem Le.trans {a b c : Heap} (x : Le a b) (y : Le b c) : Le a c := fun i o e => y i o (x i o e)
mutual
noncomputable def Rep (g : Heap) : D → Value → Prop
 | .int i, v => ∃ t, v = .int i t
 | .none, v => v = .none
 | .bool b, v => v = .bool b
 | .lst xs, v => ∃ a vs, ∃ _ : Nat, v = .ref a ∧ g.IsList a (List.toArray vs) ∧ RepL g xs vs
 | .tup xs, v => ∃ a vs n, v = .ref a ∧ g.get? a = some (zen (List.toArray vs) n) ∧ RepL g xs vs
noncomputable def RepL (g : Heap) : List D → List Value → Prop
 | [], vs => vs = []
 | d :: ds, vs => ∃ v r, vs = v :: r ∧ Rep g d v ∧ RepL g ds r
end
mutual
theorem Rep.mono {g g' : Heap} (k : Le g g') : ∀ (d : D) {v : Value}, Rep g d v → Rep g' d v
 | .int _, _, h => h
 | .none, _, h => h
 | .bool _, _, h => h
 | .lst xs, _, h => by
  obtain ⟨a, vs, n, e, o, r⟩ := h
  exact ⟨a, vs, n, e, o.at fun ob e => k _ ob e, RepL.mono k xs r⟩
 | .tup xs, _, h => by
  obtain ⟨a, vs, n, e, o, r⟩ := h
  exact ⟨a, vs, n, e, k _ _ o, RepL.mono k xs r⟩
theorem RepL.mono {g g' : Heap} (k : Le g g') : ∀ (ds : List D) {vs : List Value}, RepL g ds vs → RepL g' ds vs
 | [], _, h => h
 | d :: ds, _, h => by
  obtain ⟨v, r, e, h, t⟩ := h
  exact ⟨v, r, e, Rep.mono k d h, RepL.mono k ds t⟩
end
theorem RepL.length {g : Heap} {ds : List D} : ∀ {vs : List Value}, RepL g ds vs → vs.length = ds.length := by
 induction ds with
 | nil => intro vs h; cases h; rfl
 | cons d ds ih =>
  intro vs h
  obtain ⟨v, r, e, _, t⟩ := h
  rw [e, List.length_cons, List.length_cons, ih t]
theorem RepL.get {g : Heap} {ds : List D} : ∀ {vs : List Value} (_ : RepL g ds vs) (i : Nat) {d : D}, ds[i]? = some d → ∃ v, vs[i]? = some v ∧ Rep g d v := by
 induction ds with
 | nil => intro vs _ i d e; cases i <;> cases e
 | cons d ds ih =>
  intro vs h i d' q
  obtain ⟨v, r, e, h, t⟩ := h
  subst e
  cases i with
  | zero => cases q; exact ⟨v, rfl, h⟩
  | succ i => exact ih t i q
inductive Kn (fz : List (Value × D)) : Value → D → Prop
 | mem {v d} (h : (v, d) ∈ fz) : Kn fz v d
 | int (i t) : Kn fz (.int i t) (.int i)
 | none : Kn fz .none .none
 | bool (b) : Kn fz (.bool b) (.bool b)
inductive KnL (fz : List (Value × D)) : List Value → List D → Prop
 | nil : KnL fz [] []
 | cons {v d vs ds} (h : Kn fz v d) (t : KnL fz vs ds) : KnL fz (v :: vs) (d :: ds)
theorem Kn.rep {g : Heap} {fz : List (Value × D)} (r : ∀ p ∈ fz, Rep g p.2 p.1) {v : Value} {d : D} (h : Kn fz v d) : Rep g d v := by
 cases h with
 | mem h => exact r _ h
 | int i t => exact ⟨t, rfl⟩
 | none => rfl
 | bool b => rfl
theorem KnL.rep {g : Heap} {fz : List (Value × D)} (r : ∀ p ∈ fz, Rep g p.2 p.1) {vs : List Value} {ds : List D} (h : KnL fz vs ds) : RepL g ds vs := by
 induction h with
 | nil => rfl
 | cons h _ ih => exact ⟨_, _, rfl, h.rep r, ih⟩
theorem Kn.sub {fz fz' : List (Value × D)} (k : ∀ p ∈ fz, p ∈ fz') {v : Value} {d : D} (h : Kn fz v d) : Kn fz' v d := by
 cases h with
 | mem h => exact .mem (k _ h)
 | int i t => exact .int i t
 | none => exact .none
 | bool b => exact .bool b
theorem KnL.sub {fz fz' : List (Value × D)} (k : ∀ p ∈ fz, p ∈ fz') {vs : List Value} {ds : List D} (h : KnL fz vs ds) : KnL fz' vs ds := by
 induction h with
 | nil => exact .nil
 | cons h _ ih => exact .cons (h.sub k) ih
theorem KnL.length {fz : List (Value × D)} {vs : List Value} {ds : List D} (h : KnL fz vs ds) : vs.length = ds.length := by
 induction h with
 | nil => rfl
 | cons _ _ ih => simp [ih]
theorem KnL.append {fz : List (Value × D)} {vs vs' : List Value} {ds ds' : List D} (h : KnL fz vs ds) (h' : KnL fz vs' ds') : KnL fz (vs ++ vs') (ds ++ ds') := by
 induction h with
 | nil => exact h'
 | cons h _ ih => exact .cons h ih
noncomputable def fnOf : Stmt → Option DefRec
 | .FunctionDef name args body _ _ _ scope _ _ pos => some ⟨name, args, body, scope, pos⟩
 | .Assign .. => none
 | .AugAssign .. => none
 | .For .. => none
 | .While .. => none
 | .If .. => none
 | .Return .. => none
 | .Expr .. => none
 | .AsyncFunctionDef .. => none
 | .ClassDef .. => none
 | .Delete .. => none
 | .TypeAlias .. => none
 | .AnnAssign .. => none
 | .AsyncFor .. => none
 | .With .. => none
 | .AsyncWith .. => none
 | .Match .. => none
 | .Raise .. => none
 | .Try .. => none
 | .TryStar .. => none
 | .Assert .. => none
 | .Import .. => none
 | .ImportFrom .. => none
 | .Global .. => none
 | .Nonlocal .. => none
 | .Pass .. => none
 | .Break .. => none
 | .Continue .. => none
noncomputable def zbp (i : Nat) : Option DefRec := ((PySem.Challenge.pw_xm0116_01.main.body)[i]?).bind fnOf
noncomputable def zcH : List (Str × Value) := [("len", .builtin "len"), ("max", .builtin "max"), ("abs", .builtin "abs"), ("list", .type "list"), ("range", .type "range"),
 ("reversed", .type "reversed"), ("enumerate", .type "enumerate"), ("zip", .type "zip"), ("int", .type "int")]
structure Bx where
 f : Str → Option Value
 h0 : Heap
 os : OsState
 gens : Array GenState
structure Cx (mg : Str → Option Value) (mb : Bx) (h : Heap) : Prop where
 keep : Le mb.h0 h
 g : h.Ns mainGlobals mg
 b : h.Ns builtinsNs mb.f
 nolimit : h.NoLimit
 fn : ∀ i d, zbp i = some d → ∃ a o pm code doc, mg d.name = some (.ref a) ∧ h.get? a = some o ∧ o.data = .func (docDef d.name d.params d.body d.scope pm code doc) ∧ h.CodeRec code d.name
 bi : ∀ x ∈ zcH, mg x.1 = none ∧ mb.f x.1 = some x.2
theorem NoLimit.mono {h h' : Heap} (k : Le h h') (x : h.NoLimit) : h'.NoLimit := x.keeps k
theorem CodeRec.mono {h h' : Heap} (k : Le h h') {cd : Value} {q : Str} (x : h.CodeRec cd q) : h'.CodeRec cd q := by
 obtain ⟨c, o, vs, t, e, ho, r⟩ := x
 exact ⟨c, o, vs, t, e, k _ _ ho, r⟩
theorem Cx.mono {mg : Str → Option Value} {mb : Bx} {h h' : Heap} (k : Le h h') (x : Cx mg mb h) : Cx mg mb h' where
 keep := x.keep.trans k
 g := x.g.at' fun o e => k _ o e
 b := x.b.at' fun o e => k _ o e
 nolimit := NoLimit.mono k x.nolimit
 fn := fun i d e => by
  obtain ⟨a, o, pm, code, doc, h1, h2, h3, h4⟩ := x.fn i d e
  exact ⟨a, o, pm, code, doc, h1, k _ _ h2, h3, CodeRec.mono k h4⟩
 bi := x.bi
inductive NsO (o : Obj) (l : List (Str × Value)) : Prop
 | mk (es ep) (d : o.data = .dict es ep) (k : StrKeys es) (f : ∀ p ∈ l, nsFind es p.1 = some p.2) : NsO o l
noncomputable def HasL (h : Heap) (L : Addr) (l : List (Str × Value)) : Prop := ∃ m, h.Ns L m ∧ ∀ p ∈ l, m p.1 = some p.2
noncomputable def OwOk (h g : Heap) (L : Addr) (own : List (Addr × Obj)) : Prop := ∀ p ∈ own, h.get? p.1 = some p.2 ∧ p.1 ≠ L ∧ g.get? p.1 = none
noncomputable def FzOk (g : Heap) (fz : List (Value × D)) : Prop := ∀ p ∈ fz, Rep g p.2 p.1
inductive At (mg : Str → Option Value) (mb : Bx) (L : Addr) (l : List (Str × Value)) (own : List (Addr × Obj)) (fz : List (Value × D)) (h : Heap) : Prop
 | mk (g : Heap) (c : Cx mg mb g) (k : Le g h) (gL : g.get? L = none) (hm : HasL h L l) (ow : OwOk h g L own) (nd : (own.map (·.1)).Nodup) (r : FzOk g fz) : At mg mb L l own fz h
section
variable {mg : Str → Option Value} {mb : Bx} {L : Addr} {l l' : List (Str × Value)} {own own' : List (Addr × Obj)} {fz fz' : List (Value × D)} {h h' : Heap}
theorem At.cx (H : At mg mb L l own fz h) : Cx mg mb h := by cases H with | mk _ c k => exact c.mono k
theorem At.get (H : At mg mb L l own fz h) {a : Addr} {o : Obj} (m : (a, o) ∈ own) : h.get? a = some o := by cases H with | mk _ _ _ _ _ x => exact (x _ m).1
theorem At.rep (H : At mg mb L l own fz h) {v : Value} {d : D} (m : Kn fz v d) : Rep h d v := by cases H with | mk _ _ k _ _ _ _ r => exact Rep.mono k d (m.rep r)
theorem At.ns (H : At mg mb L l own fz h) : ∃ m, h.Ns L m ∧ ∀ p ∈ l, m p.1 = some p.2 := by cases H with | mk _ _ _ _ x => exact x
theorem At.sub (H : At mg mb L l own fz h) (hl : ∀ p ∈ l', p ∈ l) (ho : own'.Sublist own) (hf : ∀ p ∈ fz', p ∈ fz) : At mg mb L l' own' fz' h := by
 obtain ⟨g, c, k, gL, ⟨m, hm, km⟩, ow, nd, r⟩ := H
 exact ⟨g, c, k, gL, ⟨m, hm, fun p hp => km p (hl p hp)⟩, fun p hp => ow p (ho.subset hp), nd.sublist (ho.map _), fun p hp => r p (hf p hp)⟩
theorem At.ext (H : At mg mb L l own fz h) (e : Le h h') : At mg mb L l own fz h' := by
 obtain ⟨g, c, k, gL, ⟨m, hm, km⟩, ow, nd, r⟩ := H
 exact ⟨g, c, k.trans e, gL, ⟨m, hm.at' fun o x => e _ o x, km⟩, fun p hp => ⟨e _ _ (ow p hp).1, (ow p hp).2⟩, nd, r⟩
theorem zh6 (o : Obj) : Le h (h.push o) := fun _ _ e => Heap.get?_push_of_some _ e
theorem At.new (H : At mg mb L l own fz h) {a : Addr} {o : Obj} (e : Le h h') (ha : h.get? a = none) (ho : h'.get? a = some o) : At mg mb L l ((a, o) :: own) fz h' := by
 obtain ⟨g, c, k, gL, ⟨m, hm, km⟩, ow, nd, r⟩ := H.ext e
 have hg : ∀ g₀ : Heap, Le g₀ h → g₀.get? a = none := fun g₀ k₀ => by
  cases q : g₀.get? a with
  | none => rfl
  | some o => rw [k₀ _ _ q] at ha; cases ha
 obtain ⟨g, c, k, gL, ⟨m, hm, km⟩, ow, nd, r⟩ := H
 refine ⟨g, c, k.trans e, gL, ⟨m, hm.at' fun o x => e _ o x, km⟩, fun p hp => ?_, ?_, r⟩
 · rcases List.mem_cons.mp hp with rfl | hp
   · refine ⟨ho, fun q => ?_, hg g k⟩
     obtain ⟨oL, _, _, hL, _⟩ := hm
     have q' : a = L := q
     rw [q', hL] at ha; cases ha
   · exact ⟨e _ _ (ow p hp).1, (ow p hp).2⟩
 · rw [List.map_cons, List.nodup_cons]
   refine ⟨fun q => ?_, nd⟩
   obtain ⟨p, hp, q⟩ := List.mem_map.mp q
   have := (ow p hp).1
   rw [q, ha] at this; cases this
theorem zcR {h : Heap} : h.get? h.objs.size = none := by
 cases q : h.get? h.objs.size with
 | none => rfl
 | some o => exact absurd (Heap.lt_size q) (Nat.lt_irrefl _)
theorem At.push (H : At mg mb L l own fz h) (o : Obj) (hf : o.isFreed = false := by rfl) : At mg mb L l ((h.objs.size, o) :: own) fz (h.push o) :=
 H.new (zh6 o) zcR (Heap.get?_push_size _ hf)
theorem At.drop (H : At mg mb L l own fz h) (o : Obj) : At mg mb L l own fz (h.push o) := H.ext (zh6 o)
end
inductive Del (x : Str) : List (Str × Value) → List (Str × Value) → Prop
 | nil : Del x [] []
 | hit {u r r'} (h : Del x r r') : Del x ((x, u) :: r) r'
 | miss {y u r r'} (n : y ≠ x) (h : Del x r r') : Del x ((y, u) :: r) ((y, u) :: r')
theorem Del.spec {x : Str} {l l' : List (Str × Value)} (d : Del x l l') : ∀ p ∈ l', p ∈ l ∧ p.1 ≠ x := by
 induction d with
 | nil => intro p hp; cases hp
 | hit _ ih => intro p hp; exact ⟨.tail _ (ih p hp).1, (ih p hp).2⟩
 | miss n _ ih =>
  intro p hp
  rcases List.mem_cons.mp hp with rfl | hp
  · exact ⟨.head _, n⟩
  · exact ⟨.tail _ (ih p hp).1, (ih p hp).2⟩
inductive Sw (a : Addr) (o o' : Obj) : List (Addr × Obj) → List (Addr × Obj) → Prop
 | hd {r} : Sw a o o' ((a, o) :: r) ((a, o') :: r)
 | tl {p r r'} (h : Sw a o o' r r') : Sw a o o' (p :: r) (p :: r')
theorem Sw.mem {a : Addr} {o o' : Obj} {w w' : List (Addr × Obj)} (s : Sw a o o' w w') : (a, o) ∈ w := by
 induction s with
 | hd => exact .head _
 | tl _ ih => exact .tail _ ih
theorem Sw.addr {a : Addr} {o o' : Obj} {w w' : List (Addr × Obj)} (s : Sw a o o' w w') : w'.map (·.1) = w.map (·.1) := by
 induction s with
 | hd => rfl
 | tl _ ih => simp [ih]
theorem Sw.cases {a : Addr} {o o' : Obj} {w w' : List (Addr × Obj)} (s : Sw a o o' w w') (nd : (w.map (·.1)).Nodup) : ∀ p ∈ w', p = (a, o') ∨ (p ∈ w ∧ p.1 ≠ a) := by
 induction s with
 | hd =>
  intro p hp
  rw [List.map_cons, List.nodup_cons] at nd
  rcases List.mem_cons.mp hp with rfl | hp
  · exact .inl rfl
  · exact .inr ⟨.tail _ hp, fun q => nd.1 (List.mem_map.mpr ⟨p, hp, q⟩)⟩
 | tl s' ih =>
  intro p hp
  rw [List.map_cons, List.nodup_cons] at nd
  rcases List.mem_cons.mp hp with rfl | hp
  · exact .inr ⟨.head _, fun q => nd.1 (List.mem_map.mpr ⟨_, s'.mem, q.symm⟩)⟩
  · rcases ih nd.2 p hp with h | h
    · exact .inl h
    · exact .inr ⟨.tail _ h.1, h.2⟩
inductive Rm (p : Addr × Obj) : List (Addr × Obj) → List (Addr × Obj) → Prop
 | hd {r} : Rm p (p :: r) r
 | tl {q r r'} (h : Rm p r r') : Rm p (q :: r) (q :: r')
theorem Rm.mem {p : Addr × Obj} {w w' : List (Addr × Obj)} (s : Rm p w w') : p ∈ w := by
 induction s with
 | hd => exact .head _
 | tl _ ih => exact .tail _ ih
theorem Rm.sub {p : Addr × Obj} {w w' : List (Addr × Obj)} (s : Rm p w w') : w'.Sublist w := by
 induction s with
 | hd => exact List.sublist_cons_self _ _
 | tl _ ih => exact ih.cons_cons _
theorem Rm.ne {p : Addr × Obj} {w w' : List (Addr × Obj)} (s : Rm p w w') (nd : (w.map (·.1)).Nodup) : p.1 ∉ w'.map (·.1) := by
 induction s with
 | hd =>
  rw [List.map_cons, List.nodup_cons] at nd
  exact nd.1
 | tl s' ih =>
  rw [List.map_cons, List.nodup_cons] at nd
  rw [List.map_cons, List.mem_cons, not_or]
  exact ⟨fun q => nd.1 (List.mem_map.mpr ⟨_, s'.mem, q⟩), ih nd.2⟩
section
variable {mg : Str → Option Value} {mb : Bx} {L : Addr} {l l' : List (Str × Value)} {own own' : List (Addr × Obj)} {fz fz' : List (Value × D)} {h h' : Heap}
theorem At.same (H : At mg mb L l own fz h) {m' : Str → Option Value} (hn : h'.Ns L m') (hl : ∀ p ∈ l', m' p.1 = some p.2) (k : Heap.SameBut L h h') : At mg mb L l' own fz h' := by
 obtain ⟨g, c, le, gL, _, ow, nd, r⟩ := H
 refine ⟨g, c, fun b o e => ?_, gL, ⟨m', hn, hl⟩, fun p hp => ⟨(k.2 _ (ow p hp).2.1).trans (ow p hp).1, (ow p hp).2⟩, nd, r⟩
 have : b ≠ L := fun q => by rw [q, gL] at e; cases e
 exact (k.2 _ this).trans (le _ _ e)
theorem At.upd (H : At mg mb L l own fz h) {a : Addr} {o o' : Obj} (s : Sw a o o' own own') (k : Heap.ExtBut a h h') (ho : h'.get? a = some o') : At mg mb L l own' fz h' := by
 obtain ⟨g, c, le, gL, ⟨m, hm, km⟩, ow, nd, r⟩ := H
 have A := ow _ s.mem
 refine ⟨g, c, fun b ob e => ?_, gL, ⟨m, hm.at' fun ob e => k _ ob (Ne.symm A.2.1) e, km⟩, fun p hp => ?_, s.addr ▸ nd, r⟩
 · have : b ≠ a := fun q => by rw [q, A.2.2] at e; cases e
   exact k _ _ this (le _ _ e)
 · rcases s.cases nd p hp with rfl | ⟨hp, hne⟩
   · exact ⟨ho, A.2⟩
   · exact ⟨k _ _ hne (ow p hp).1, (ow p hp).2⟩
theorem At.freeze_ex (H : At mg mb L l own fz h) {p : Addr × Obj} (s : Rm p own own') : ∃ g, Cx mg mb g ∧ Le g h ∧ g.get? L = none ∧ (∀ q ∈ own', h.get? q.1 = some q.2 ∧ q.1 ≠ L ∧ g.get? q.1 = none) ∧
 (∀ q ∈ fz, Rep g q.2 q.1) ∧ g.get? p.1 = some p.2 := by
 obtain ⟨g, c, le, gL, ⟨m, hm, km⟩, ow, nd, r⟩ := H
 have P := ow _ s.mem
 have up : Le g (hideAll h (L :: own'.map (·.1))) := fun b o e => hideAll_get _ (le _ _ e) fun q => by
  rcases List.mem_cons.mp q with q | q
  · rw [q, gL] at e; cases e
  · obtain ⟨x, hx, q⟩ := List.mem_map.mp q
    have := (ow x (s.sub.subset hx)).2.2
    rw [q, e] at this; cases this
 refine ⟨hideAll h (L :: own'.map (·.1)), c.mono up, fun b o e => of_hideAll _ e, hideAll_none _ (.head _), fun q hq => ?_, fun q hq => Rep.mono up _ (r q hq), ?_⟩
 · have Q := ow q (s.sub.subset hq)
   exact ⟨Q.1, Q.2.1, hideAll_none _ (.tail _ (List.mem_map.mpr ⟨q, hq, rfl⟩))⟩
 · refine hideAll_get _ P.1 fun q => ?_
   rcases List.mem_cons.mp q with q | q
   · exact P.2.1 q
   · exact s.ne nd q
theorem At.freeze (H : At mg mb L l own fz h) {a : Addr} {vs : List Value} {n : Nat} {ds : List D} (s : Rm (a, listOf (List.toArray vs) n) own own') (K : KnL fz vs ds) : At mg mb L l own' ((.ref a, .lst ds) :: fz) h := by
 obtain ⟨g, c, le, gL, ow, r, ha⟩ := H.freeze_ex s
 obtain ⟨_, _, _, _, hm, _, nd, _⟩ := H
 refine ⟨g, c, le, gL, hm, ow, nd.sublist (s.sub.map _), fun p hp => ?_⟩
 rcases List.mem_cons.mp hp with rfl | hp
 · exact ⟨a, vs, n, rfl, ⟨_, ha, rfl, n, rfl⟩, K.rep r⟩
 · exact r p hp
theorem At.freezeT (H : At mg mb L l own fz h) {a : Addr} {vs : List Value} {n : Nat} {ds : List D} (s : Rm (a, zen (List.toArray vs) n) own own') (K : KnL fz vs ds) : At mg mb L l own' ((.ref a, .tup ds) :: fz) h := by
 obtain ⟨g, c, le, gL, ow, r, ha⟩ := H.freeze_ex s
 obtain ⟨_, _, _, _, hm, _, nd, _⟩ := H
 refine ⟨g, c, le, gL, hm, ow, nd.sublist (s.sub.map _), fun p hp => ?_⟩
 rcases List.mem_cons.mp hp with rfl | hp
 · exact ⟨a, vs, n, rfl, ha, K.rep r⟩
 · exact r p hp
theorem At.susp (H : At mg mb L l own fz h) {L' : Addr} {m' : Str → Option Value} (e : Le h h') (hL : h.get? L' = none) (hn : h'.Ns L' m') (hl : ∀ p ∈ l', m' p.1 = some p.2) :
 ∃ oL, NsO oL l ∧ At mg mb L' l' ((L, oL) :: own) fz h' := by
 obtain ⟨g, c, le, gL, ⟨m, hm, km⟩, ow, nd, r⟩ := H
 obtain ⟨oL, es, ep, hoL, hd, hs, hf⟩ := hm
 have ne : ∀ {b : Addr} {o : Obj}, h.get? b = some o → b ≠ L' := fun x q => by rw [q, hL] at x; cases x
 have gn : g.get? L' = none := by
  cases q : g.get? L' with
  | none => rfl
  | some o => rw [le _ _ q] at hL; cases hL
 refine ⟨oL, ⟨es, ep, hd, hs, fun p hp => (hf _).trans (km p hp)⟩, g, c, le.trans e, gn, ⟨m', hn, hl⟩, fun p hp => ?_, ?_, r⟩
 · rcases List.mem_cons.mp hp with rfl | hp
   · exact ⟨e _ _ hoL, ne hoL, gL⟩
   · exact ⟨e _ _ (ow p hp).1, ne (ow p hp).1, (ow p hp).2.2⟩
 · rw [List.map_cons, List.nodup_cons]
   refine ⟨fun q => ?_, nd⟩
   obtain ⟨p, hp, q⟩ := List.mem_map.mp q
   exact (ow p hp).2.1 q
theorem At.resume {L' : Addr} {oL : Obj} (H : At mg mb L' l' own fz h) (s : Rm (L, oL) own own') (N : NsO oL l) : At mg mb L l own' fz h := by
 obtain ⟨g, c, le, gL, hm, ow, nd, r⟩ := H
 obtain ⟨es, ep, hd, hs, hf⟩ := N
 have A := ow _ s.mem
 refine ⟨g, c, le, A.2.2, ⟨nsFind es, ⟨oL, es, ep, A.1, hd, hs, fun _ => rfl⟩, hf⟩, fun p hp => ⟨(ow p (s.sub.subset hp)).1, fun q => s.ne nd (List.mem_map.mpr ⟨p, hp, q⟩), (ow p (s.sub.subset hp)).2.2⟩, nd.sublist (s.sub.map _), r⟩
theorem zlo {fz : List (Value × D)} {vs : List Value} : ∀ {ds : List D}, vs.length = ds.length → KnL (vs.zip ds ++ fz) vs ds := by
 induction vs with
 | nil => intro ds e; cases ds with | nil => exact .nil | cons => cases e
 | cons v vs ih =>
  intro ds e
  cases ds with
  | nil => cases e
  | cons d ds => exact .cons (.mem (.head _)) ((ih (Nat.succ.inj e)).sub fun _ hp => .tail _ hp)
theorem zo9 {g : Heap} {ds : List D} : ∀ {vs : List Value}, RepL g ds vs → ∀ p ∈ vs.zip ds, Rep g p.2 p.1 := by
 induction ds with
 | nil => intro vs h p hp; cases h; cases hp
 | cons d ds ih =>
  intro vs h p hp
  obtain ⟨v, r, e, h, t⟩ := h
  subst e
  rcases List.mem_cons.mp hp with rfl | hp
  · exact h
  · exact ih t p hp
inductive LstAt (mg : Str → Option Value) (mb : Bx) (L : Addr) (l : List (Str × Value)) (own : List (Addr × Obj)) (fz : List (Value × D)) (h : Heap) (ds : List D) (v : Value) : Prop
 | mk (a : Addr) (vs : List Value) (n : Nat) (e : v = .ref a) (ho : h.IsList a (List.toArray vs)) (hl : vs.length = ds.length) (r : RepL h ds vs) (H : At mg mb L l own (vs.zip ds ++ fz) h) : LstAt mg mb L l own fz h ds v
inductive TupAt (mg : Str → Option Value) (mb : Bx) (L : Addr) (l : List (Str × Value)) (own : List (Addr × Obj)) (fz : List (Value × D)) (h : Heap) (ds : List D) (v : Value) : Prop
 | mk (a : Addr) (vs : List Value) (n : Nat) (e : v = .ref a) (ho : h.get? a = some (zen (List.toArray vs) n)) (hl : vs.length = ds.length) (r : RepL h ds vs) (H : At mg mb L l own (vs.zip ds ++ fz) h) : TupAt mg mb L l own fz h ds v
theorem At.list (H : At mg mb L l own fz h) {v : Value} {ds : List D} (m : (v, D.lst ds) ∈ fz) :
 LstAt mg mb L l own fz h ds v := by
 obtain ⟨g, c, le, gL, hm, ow, nd, r⟩ := H
 obtain ⟨a, vs, n, e, ho, t⟩ := r _ m
 refine ⟨a, vs, n, e, ho.at fun o e => le _ o e, t.length, RepL.mono le _ t, ⟨g, c, le, gL, hm, ow, nd, fun p hp => ?_⟩⟩
 rcases List.mem_append.mp hp with hp | hp
 · exact zo9 t p hp
 · exact r p hp
theorem At.tupl (H : At mg mb L l own fz h) {v : Value} {ds : List D} (m : (v, D.tup ds) ∈ fz) :
 TupAt mg mb L l own fz h ds v := by
 obtain ⟨g, c, le, gL, hm, ow, nd, r⟩ := H
 obtain ⟨a, vs, n, e, ho, t⟩ := r _ m
 refine ⟨a, vs, n, e, le _ _ ho, t.length, RepL.mono le _ t, ⟨g, c, le, gL, hm, ow, nd, fun p hp => ?_⟩⟩
 rcases List.mem_append.mp hp with hp | hp
 · exact zo9 t p hp
 · exact r p hp
noncomputable abbrev D.ints (xs : List Int) : D := .lst (xs.map .int)
theorem zrx {g : Heap} {xs : List Int} : ∀ {vs : List Value}, RepL g (xs.map .int) vs → IntsAre vs xs := by
 induction xs with
 | nil => intro vs h; cases h; exact .nil
 | cons x xs ih =>
  intro vs h
  obtain ⟨v, r, e, ⟨t, h⟩, tl⟩ := h
  subst e; subst h
  exact .cons x t (ih tl)
theorem zvD {fz : List (Value × D)} {xs : List Int} {vs : List Value} (h : IntsAre vs xs) : KnL fz vs (xs.map .int) := by
 induction h with
 | nil => exact .nil
 | cons n t _ ih => exact .cons (.int n t) ih
theorem At.ints (H : At mg mb L l own fz h) {v : Value} {xs : List Int} (m : (v, D.ints xs) ∈ fz) : ∃ a vs, ∃ _ : Nat, v = .ref a ∧ h.IsList a (List.toArray vs) ∧ IntsAre vs xs := by
 obtain ⟨a, vs, n, e, ho, _, t, _⟩ := H.list m
 exact ⟨a, vs, n, e, ho, zrx t⟩
end
noncomputable abbrev NoE : Value → Shared → Prop := fun _ _ => False
noncomputable def Ok (k : Nat) (A : Around) : Prop := A.handled = none ∧ A.depth + k < recursionLimit ∧ A.units + 8 * k + 100 < cLine
theorem Ok.hd {k : Nat} {A : Around} (h : Ok k A) : A.handled = none := h.1
theorem Ok.room {k : Nat} {A : Around} (h : Ok k A) : A.depth < recursionLimit := Nat.lt_of_le_of_lt (Nat.le_add_right _ _) h.2.1
theorem Ok.deeper {k : Nat} {A : Around} (h : Ok (k + 1) A) (env : Env) : Ok k (A.deeper env) :=
 ⟨h.1, by have := h.2.1; show A.depth + 1 + k < _; exact yjE this, by have := h.2.2; show A.units + 3 + _ + _ < _; exact yjD this⟩
section
variable {prog : Program} {w : World} {A : Around} {E : Value → Shared → Prop} {s : Shared} {mg : Str → Option Value} {mb : Bx} {L : Addr} {l l' : List (Str × Value)} {own own' : List (Addr × Obj)} {fz fz' : List (Value × D)} {env : Env}
theorem noE {α : Type} {M : Model} {t : Sem α} {Q : α → Shared → Prop} (h : wpAny M A t Q NoE s) : wpAny M A t Q E s := wpAny_mono h (fun _ _ x => x) fun _ _ x => x.elim
theorem znm {M : Model} {x : Str} {pos : Pos} {v : Value} {Q : Value → Shared → Prop} (H : At mg mb L l own fz s.heap) (hm : (x, v) ∈ l) (hL : env.locals = L) (hk : env.scope.kind = .function) (hl : env.kindOf x = some .local)
 (hd : (x == ("__debug__" : Str)) = false) (h : Q v s) : wpAny M A (eval (.Name x pos) env) Q E s := by
 obtain ⟨m, hn, km⟩ := H.ns
 subst hL
 exact wpAny_Name (wpAny_loadName_local hk hl hn (km _ hm) h) hd
theorem ztT {M : Model} {x : Str} {v : Value} {Q : Value → Shared → Prop} (H : At mg mb L l own fz s.heap) (hm : (x, v) ∈ l) (hL : env.locals = L) (hk : env.scope.kind = .function) (hl : env.kindOf x = some .local)
 (h : Q v s) : wpAny M A (loadName env x) Q E s := by
 obtain ⟨m, hn, km⟩ := H.ns
 subst hL
 exact wpAny_loadName_local hk hl hn (km _ hm) h
theorem zpa {M : Model} {x : Str} {pos : Pos} {v : Value} {Q : Value → Shared → Prop} (H : At mg mb L l own fz s.heap) (hv : mg x = some v) (hg : env.globals = mainGlobals) (hk : env.scope.kind = .function) (hl : env.kindOf x = some .globalImplicit)
 (hd : (x == ("__debug__" : Str)) = false) (h : Q v s) : wpAny M A (eval (.Name x pos) env) Q E s :=
 wpAny_Name (ks_loadName_global hk hl (loadGlobal_global (hg ▸ H.cx.g) hv h)) hd
theorem zlp {M : Model} {x : Str} {pos : Pos} {v : Value} {Q : Value → Shared → Prop} (H : At mg mb L l own fz s.heap) (hv : (x, v) ∈ zcH) (hg : env.globals = mainGlobals) (hb : env.builtins = builtinsNs) (hk : env.scope.kind = .function) (hl : env.kindOf x = some .globalImplicit)
 (hd : (x == ("__debug__" : Str)) = false) (h : Q v s) : wpAny M A (eval (.Name x pos) env) Q E s :=
 wpAny_Name (ks_loadName_global hk hl (loadGlobal_builtin (hg ▸ H.cx.g) (H.cx.bi _ hv).1 (hb ▸ H.cx.b) (H.cx.bi _ hv).2 h)) hd
theorem r_cell {M : Model} {x : Str} {pos : Pos} {v : Value} {c : Addr} {o : Obj} {Q : Value → Shared → Prop} (H : At mg mb L l own fz s.heap) (hc : env.cells.lookup x = some c) (hm : (c, o) ∈ own) (ho : o.data = .cell (some v)) (hk : env.scope.kind = .function) (hl : env.kindOf x = some .cell)
 (hd : (x == ("__debug__" : Str)) = false) (h : Q v s) : wpAny M A (eval (.Name x pos) env) Q E s :=
 wpAny_Name (wpAny_loadName_cell hk hl hc ⟨o, H.get hm, ho⟩ h) hd
theorem zvE {M : Model} {x : Str} {v : Value} {Q : Unit → Shared → Prop} (H : At mg mb L l own fz s.heap) (d : Del x l l') (hL : env.locals = L) (hk : env.scope.kind = .function) (hl : env.kindOf x = some .local)
 (h : ∀ h' tk, At mg mb L ((x, v) :: l') own fz h' → Q () { s with heap := h', toks := tk }) : wpAny M A (storeName env x v) Q E s := by
 obtain ⟨m, hn, km⟩ := H.ns
 subst hL
 refine wpAny_storeName_local hl hn (fun h' hn' hs => h h' _ (H.same hn' (fun p hp => ?_) hs)) (by rw [hk]; rfl)
 rcases List.mem_cons.mp hp with rfl | hp
 · simp
 · have := d.spec p hp
   simp [this.2, km p this.1]
inductive SwF (c : Addr) (o : Obj) : List (Addr × Obj) → (Obj → List (Addr × Obj)) → Prop
 | hd {r} : SwF c o ((c, o) :: r) (fun o' => (c, o') :: r)
 | tl {p r f} (h : SwF c o r f) : SwF c o (p :: r) (fun o' => p :: f o')
theorem SwF.sw {c : Addr} {o : Obj} {w : List (Addr × Obj)} {f : Obj → List (Addr × Obj)} (h : SwF c o w f) (o' : Obj) : Sw c o o' w (f o') := by
 induction h with
 | hd => exact .hd
 | tl _ ih => exact .tl ih
theorem ztU {M : Model} {x : Str} {v : Value} {v₀ : Option Value} {c : Addr} {o : Obj} {f : Obj → List (Addr × Obj)} {Q : Unit → Shared → Prop} (H : At mg mb L l own fz s.heap) (hc : env.cells.lookup x = some c) (ho : o.data = .cell v₀) (hm : SwF c o own f) (hk : env.scope.kind = .function) (hl : env.kindOf x = some .cell)
 (h : ∀ h' tk o', o'.data = .cell (some v) → At mg mb L l (f o') fz h' → Q () { s with heap := h', toks := tk }) : wpAny M A (storeName env x v) Q E s := by
 refine wpAny_storeName_cell hk hl hc ⟨o, H.get (hm.sw o).mem, ho⟩ fun h' hc' hs => ?_
 obtain ⟨o', ho', hd'⟩ := hc'
 exact h h' s.toks o' hd' (H.upd (hm.sw o') hs.extBut ho')
theorem r_int {M : Model} {i : Int} {k : Nat} {pos : Pos} {Q : Value → Shared → Prop} (h : ∀ t tk, Q (.int i t) { s with toks := tk }) : wpAny M A (eval (.Constant (.int i) k pos) env) Q E s := wpAny_Constant_int (h _ _)
theorem r_add {a b : Int} {t u : Tok} {Q : Value → Shared → Prop} (h : ∀ t tk, Q (.int (a + b) t) { s with toks := tk }) : wpAny (model prog w) A (binaryOp .Add (.int a t) (.int b u)) Q E s := add_int (h _ _)
theorem r_sub {a b : Int} {t u : Tok} {Q : Value → Shared → Prop} (h : ∀ t tk, Q (.int (a - b) t) { s with toks := tk }) : wpAny (model prog w) A (binaryOp .Sub (.int a t) (.int b u)) Q E s := sub_int (h _ _)
theorem r_neg {a : Int} {t : Tok} {Q : Value → Shared → Prop} (h : ∀ t tk, Q (.int (-a) t) { s with toks := tk }) : wpAny (model prog w) A (unaryOp .USub (.int a t)) Q E s := neg_int (h _ _)
theorem r_fdiv {a b : Int} {t u : Tok} {Q : Value → Shared → Prop} (hb : b ≠ 0) (hs : Builtin.divisionGoesByPylong a b = false) (h : ∀ t tk, Q (.int (a.fdiv b) t) { s with toks := tk }) : wpAny (model prog w) A (binaryOp .FloorDiv (.int a t) (.int b u)) Q E s := floordiv_int hb (h _ _) (.inl hs)
theorem r_mod {a b : Int} {t u : Tok} {Q : Value → Shared → Prop} (hb : b ≠ 0) (h : ∀ t tk, Q (.int (a.fmod b) t) { s with toks := tk }) : wpAny (model prog w) A (binaryOp .Mod (.int a t) (.int b u)) Q E s := mod_int' hb (h _ _)
theorem r_iadd {a b : Int} {t u : Tok} {Q : Value → Shared → Prop} (h : ∀ t tk, Q (.int (a + b) t) { s with toks := tk }) : wpAny (model prog w) A (inplaceOp .Add (.int a t) (.int b u)) Q E s := wpAny_iadd_int (h _ _)
theorem r_isub {a b : Int} {t u : Tok} {Q : Value → Shared → Prop} (h : ∀ t tk, Q (.int (a - b) t) { s with toks := tk }) : wpAny (model prog w) A (inplaceOp .Sub (.int a t) (.int b u)) Q E s := PyProof.Rows.isub_int (h _ _)
theorem r_mul {a b : Int} {t u : Tok} {Q : Value → Shared → Prop} (hs : a.natAbs < 2 ^ 63 ∨ b.natAbs < 2 ^ 63) (h : ∀ t tk, Q (.int (a * b) t) { s with toks := tk }) : wpAny (model prog w) A (binaryOp .Mult (.int a t) (.int b u)) Q E s :=
 mul_int (h _ _) (hs.elim (fun x => IntMulOk.of_left (intBits_le_64 (ybh x) (ybg x))) fun x => IntMulOk.of_right (intBits_le_64 (ybh x) (ybg x)))
theorem At.step {h h' : Heap} (H : At mg mb L l own fz h) {m : Str → Option Value} (hn : h'.Ns L m) (km : ∀ p ∈ l', m p.1 = some p.2) (k : ∀ b o, b ≠ L → h.get? b = some o → h'.get? b = some o) : At mg mb L l' own fz h' := by
 obtain ⟨g, c, le, gL, _, ow, nd, r⟩ := H
 refine ⟨g, c, fun b o e => k b o (fun q => ?_) (le _ _ e), gL, ⟨m, hn, km⟩, fun p hp => ⟨k _ _ (ow p hp).2.1 (ow p hp).1, (ow p hp).2⟩, nd, r⟩
 rw [q, gL] at e; cases e
noncomputable def zry (h : Heap) (L : Addr) : List (Addr × Obj) := (List.range h.objs.size).filterMap fun b => if b = L then none else (h.get? b).map fun o => (b, o)
theorem zrz {h : Heap} {L b : Addr} {o : Obj} (hb : b ≠ L) (e : h.get? b = some o) : (b, o) ∈ zry h L :=
 List.mem_filterMap.mpr ⟨b, List.mem_range.mpr (Heap.lt_size e), by rw [if_neg hb, e]; rfl⟩
theorem zlq {b : Addr} : ({} : Heap).get? b = none := rfl
theorem zpb {h : Heap} {m : Str → Option Value} (hn : h.Ns L m) : Fr {} L h m := ⟨hn, fun b o e => (by rw [zlq] at e; cases e), Nat.zero_le _⟩
theorem zhP {h : Heap} : News {} L h (zry h L) := fun p hp => by
 obtain ⟨b, _, e⟩ := List.mem_filterMap.mp hp
 by_cases hb : b = L
 · rw [if_pos hb] at e; cases e
 · rw [if_neg hb] at e
   cases q : h.get? b with
   | none => rw [q] at e; cases e
   | some o => rw [q] at e; cases e; exact ⟨q, hb, zlq⟩
theorem zpc {h h' : Heap} {news' : List (Addr × Obj)} (N : News {} L h' news') (hs : ∀ p ∈ zry h L, p ∈ news') : ∀ b o, b ≠ L → h.get? b = some o → h'.get? b = some o :=
 fun b o hb e => (N (b, o) (hs _ (zrz hb e))).1
theorem At.news {h h' : Heap} (H : At mg mb L l own fz h) {m : Str → Option Value} (km : ∀ p ∈ l, m p.1 = some p.2) {D : Addr} {o : Obj} (F : Fr {} L h' m) (N : News {} L h' ((D, o) :: zry h L)) (hD : D = h.objs.size ∨ ∀ q ∈ zry h L, q.1 < D) : At mg mb L l ((D, o) :: own) fz h' := by
 have hL := (N _ (.head _)).2.1
 have hn : h.get? D = none := by
  rcases hD with rfl | hD
  · exact zcR
  · cases q : h.get? D with
    | none => rfl
    | some o => exact absurd (hD _ (zrz hL q)) (Nat.lt_irrefl _)
 have k := zpc (h := h) N fun p hp => .tail _ hp
 obtain ⟨g, c, le, gL, hm, ow, nd, r⟩ := H
 have hg : g.get? D = none := by
  cases q : g.get? D with
  | none => rfl
  | some o => rw [le _ _ q] at hn; cases hn
 refine ⟨g, c, fun b o e => k b o (fun q => by rw [q, gL] at e; cases e) (le _ _ e), gL, ⟨m, F.ns, km⟩, fun p hp => ?_, ?_, r⟩
 · rcases List.mem_cons.mp hp with rfl | hp
   · exact ⟨(N _ (.head _)).1, hL, hg⟩
   · exact ⟨k _ _ (ow p hp).2.1 (ow p hp).1, (ow p hp).2⟩
 · rw [List.map_cons, List.nodup_cons]
   refine ⟨fun q => ?_, nd⟩
   obtain ⟨p, hp, q⟩ := List.mem_map.mp q
   have := (ow p hp).1
   rw [q, hn] at this; cases this
theorem isL {h : Heap} {a : Addr} {vs : Array Value} {n : Nat} (e : h.get? a = some (listOf vs n)) : h.IsList a vs := ⟨_, e, rfl, n, rfl⟩
theorem isT {h : Heap} {a : Addr} {vs : Array Value} {n : Nat} (e : h.get? a = some (zen vs n)) : IsTup h a vs := ⟨_, e, rfl, n, rfl⟩
theorem r_max {a b : Int} {t u : Tok} {Q : Value → Shared → Prop} (H : At mg mb L l own fz s.heap) (hh : A.handled = none) (h : ∀ h' tk v, At mg mb L l own fz h' → Q (.int (max a b) v) { s with heap := h', toks := tk }) :
 wpAny (model prog w) A (call (.builtin "max") [.int a t, .int b u]) Q E s := by
 obtain ⟨m, hn, km⟩ := H.ns
 refine max_two_N hh (zpb hn) zhP fun h' tk F N => ?_
 have e : (if b > a then b else a) = max a b := by split <;> omega
 rw [e]
 exact h h' tk _ (H.step F.ns km (zpc N fun _ x => x))
theorem r_abs {a : Int} {t : Tok} {Q : Value → Shared → Prop} (h : ∀ t tk, Q (.int (a.natAbs : Int) t) { s with toks := tk }) : wpAny (model prog w) A (call (.builtin "abs") [.int a t]) Q E s := by
 refine call_abs_int fun u tk => ?_
 have e : (if a < 0 then -a else a) = (a.natAbs : Int) := by split <;> omega
 rw [e]
 exact h u tk
theorem zpd {a : Addr} {vs : List Value} {Q : Value → Shared → Prop} (e : s.heap.IsList a (List.toArray vs)) (hz : vs.length < 2 ^ 62) (h : ∀ t tk, Q (.int vs.length t) { s with toks := tk }) :
 wpAny (model prog w) A (call (.builtin "len") [.ref a]) Q E s := by
 refine Calls.call_len_list e (by rw [List.size_toArray]; exact yjC hz) ?_
 rw [List.size_toArray]
 exact h _ _
theorem r_len {v : Value} {ds : List D} {Q : Value → Shared → Prop} (H : At mg mb L l own fz s.heap) (hm : (v, D.lst ds) ∈ fz) (hz : ds.length < 2 ^ 62) (h : ∀ t tk, Q (.int ds.length t) { s with toks := tk }) :
 wpAny (model prog w) A (call (.builtin "len") [v]) Q E s := by
 obtain ⟨a, vs, n, rfl, ho, hl, _⟩ := H.list hm
 exact zpd ho (yjB hz hl) (by rw [hl]; exact h)
theorem zrA {a : Addr} {vs : List Value} {Q : Value → Shared → Prop} (H : At mg mb L l own fz s.heap) (e : s.heap.IsList a (List.toArray vs)) (hz : vs.length ≤ sizeLine)
 (h : ∀ D c h', At mg mb L l ((D, listOf (List.toArray vs) c) :: own) fz h' → Q (.ref D) { s with heap := h' }) : wpAny (model prog w) A (call (.type "list") [.ref a]) Q E s := by
 obtain ⟨m, hn, km⟩ := H.ns
 exact list_copyK (zpb hn) zhP e (fun D c h' F N lt => h D c h' (H.news km F N (.inr lt))) (by rw [List.size_toArray]; exact hz)
theorem r_list {v : Value} {ds : List D} {Q : Value → Shared → Prop} (H : At mg mb L l own fz s.heap) (hm : (v, D.lst ds) ∈ fz) (hz : ds.length ≤ sizeLine)
 (h : ∀ D vs c h', vs.length = ds.length → KnL (vs.zip ds ++ fz) vs ds → At mg mb L l ((D, listOf (List.toArray vs) c) :: own) (vs.zip ds ++ fz) h' → Q (.ref D) { s with heap := h' }) : wpAny (model prog w) A (call (.type "list") [v]) Q E s := by
 obtain ⟨a, vs, n, rfl, ho, hl, _, H'⟩ := H.list hm
 exact zrA H' ho (yjA hz hl) fun D c h' H'' => h D vs c h' hl (zlo hl) H''
theorem zf4 {value slice : Expr} {o i : Value} {T id : String} {Q : Value → Shared → Prop} (hT : s.TypeIs o T) (hl : typeLookup (.type T) "__getitem__" = pure (some (.builtin id)))
 (h : wpAny (model prog w) A (getItem o i) Q E s) (hs : subscripted slice false o i = operate [o, i] (getItem o i) ∨ subscripted slice false o i = operate [i, o] (getItem o i)) : wpAny (model prog w) A (subscriptTail value slice o i) Q E s := by
 unfold subscriptTail
 refine wpAny_bind ?_
 rw [getitemInPython_of_ne hT.not_modules]
 refine wpAny_bind (wpAny_specialOf hT hl ?_)
 have fin : wpAny (model prog w) A (subscripted slice false o i) (fun r s₃ => wpAny (model prog w) A (letTemporaryGo value o r >>= fun _ => pure r) Q E s₃) E s := by
  rcases hs with hs | hs <;> rw [hs] <;> exact wpAny_operating (wpAny_mono h (fun r s₃ h₃ => wpAny_bind (wpAny_letTemporaryGo (wpAny_pure h₃))) fun _ _ x => x)
 first
  | exact wpAny_pure (wpAny_bind fin)
  | exact wpAny_bind (wpAny_pure (wpAny_bind fin))
  | exact wpAny_bind fin
noncomputable abbrev znn (slice : Expr) : Prop := ∀ o i, subscripted slice false o i = operate [o, i] (getItem o i)
theorem zrB {value slice : Expr} {a : Addr} {vs : List Value} {k : Int} {t : Tok} {x : Value} {Q : Value → Shared → Prop} (e : s.heap.IsList a (List.toArray vs)) (hs : znn slice) (h0 : 0 ≤ k) (hf : k < 2 ^ 63) (hx : vs[k.toNat]? = some x)
 (h : Q x s) : wpAny (model prog w) A (subscriptTail value slice (.ref a) (.int k t)) Q E s :=
 zf4 e.typeIs slot_list_getitem.lookup (wpAny_getItem_list e h0 hf (by simpa using hx) h) (.inl (hs _ _))
theorem zpe {a : Addr} {vs : List Value} {n : Nat} {k : Int} {t : Tok} {x : Value} {Q : Unit → Shared → Prop} (H : At mg mb L l own fz s.heap) (hs : Sw a (listOf (List.toArray vs) n) (listOf (List.toArray (vs.set k.toNat x)) n) own own') (h0 : 0 ≤ k) (hf : k < 2 ^ 63) (hk : k < vs.length)
 (h : ∀ h', At mg mb L l own' fz h' → Q () { s with heap := h' }) : wpAny (model prog w) A (setItem (.ref a) (.int k t) x) Q E s := by
 have e := H.get hs.mem
 refine ki_setAt e h0 hf (by rw [List.size_toArray]; exact hk) (h _ (H.upd hs (Heap.SameBut.update ..).extBut ?_))
 rw [Heap.get?_update_self _ e (by rfl)]
 congr 1
 show Obj.mapSeq _ (listOf _ _) = _
 simp [Obj.mapSeq]
theorem zvh {a : Addr} {vs : List Value} {n : Nat} {x : Value} {f : Nat → List (Addr × Obj)} {Q : Value → Shared → Prop} (H : At mg mb L l own fz s.heap) (hs : ∀ n', Sw a (listOf (List.toArray vs) n) (listOf (List.toArray (vs ++ [x])) n') own (f n')) (hz : vs.length ≤ sizeLine)
 (h : ∀ h' n', At mg mb L l (f n') fz h' → Q .none { s with heap := h' }) : wpAny (model prog w) A (call (.builtin "list.append") [.ref a, x]) Q E s := by
 refine wpAny_list_append_plain (items := vs.toArray) ⟨n, H.get (hs 0).mem⟩ (fun h' hp hb => ?_) (by rw [List.size_toArray]; exact hz)
 obtain ⟨n', e⟩ := hp
 exact h h' n' (H.upd (hs n') hb.extBut (by rw [e]; simp))
theorem zvF {vs : List Value} {Q : Value → Shared → Prop} (H : At mg mb L l own fz s.heap) (hz : vs.length ≤ sizeLine) (h : ∀ a h', At mg mb L l ((a, listOf (List.toArray vs) 0) :: own) fz h' → Q (.ref a) { s with heap := h' }) :
 vs.length ≤ sizeLine ∧ Q (.ref s.heap.objs.size) { s with heap := s.heap.push { cls := .type "list", data := .seq vs.toArray } } := ⟨hz, h _ _ (H.push _)⟩
theorem zvG {vs : List Value} {Q : Value → Shared → Prop} (H : At mg mb L l own fz s.heap) (hz : vs.length ≤ sizeLine) (h : ∀ a h', At mg mb L l ((a, zen (List.toArray vs) 0) :: own) fz h' → Q (.ref a) { s with heap := h' }) :
 vs.length ≤ sizeLine ∧ Q (.ref s.heap.objs.size) { s with heap := s.heap.push { cls := .type "tuple", data := .seq vs.toArray } } := ⟨hz, h _ _ (H.push _)⟩
theorem zlr {its : Array Value} : ∀ (k : Nat) (acc : Array Value), List.foldl (fun x1 x2 => x1 ++ x2) acc (List.replicate k its) = acc ++ ((List.replicate k its.toList).flatten).toArray
 | 0, acc => by simp
 | k + 1, acc => by
  rw [List.replicate_succ, List.foldl_cons, zlr k, List.replicate_succ, List.flatten_cons]
  apply Array.toList_inj.mp
  simp
theorem flat1 {x : Value} : ∀ k : Nat, (List.replicate k [x]).flatten = List.replicate k x
 | 0 => rfl
 | k + 1 => by rw [List.replicate_succ, List.flatten_cons, flat1 k]; rfl
theorem r_mul1 {a : Addr} {v : Value} {n : Nat} {k : Int} {t : Tok} {Q : Value → Shared → Prop} (H : At mg mb L l own fz s.heap) (hm : Rm (a, listOf (List.toArray [v]) n) own own') (hlo : -(2 ^ 62) ≤ k) (hk : k ≤ 2 ^ 24)
 (h : ∀ a' h', At mg mb L l ((a', listOf (List.toArray (List.replicate k.toNat v)) 0) :: own') fz h' → Q (.ref a') { s with heap := h' }) : wpAny (model prog w) A (binaryOp .Mult (.ref a) (.int k t)) Q E s := by
 obtain ⟨m, hn, km⟩ := H.ns
 refine mul_list (zpb hn) zhP (H.get hm.mem) (yjz hlo) (yjy hk) ?_ fun h' F N => h _ _ ?_
 · show 1 * k.toNat ≤ _
   exact yjx hk
 · have e : (List.foldl (fun x1 x2 => x1 ++ x2) #[] (List.replicate (if (List.toArray [v]).isEmpty = true then 0 else k.toNat) (List.toArray [v]))) = (List.replicate k.toNat v).toArray := by
    rw [zlr]
    simp [flat1]
   rw [e] at N
   exact (H.news km F N (.inl rfl)).sub (fun _ x => x) (hm.sub.cons_cons _) fun _ x => x
theorem r_cat {a b : Addr} {vs us : List Value} {Q : Value → Shared → Prop} (H : At mg mb L l own fz s.heap) (ha : s.heap.IsList a (List.toArray vs)) (hb : s.heap.IsList b (List.toArray us)) (hz : vs.length + us.length ≤ sizeLine)
 (h : ∀ a' h', At mg mb L l ((a', listOf (List.toArray (vs ++ us)) 0) :: own) fz h' → Q (.ref a') { s with heap := h' }) : wpAny (model prog w) A (binaryOp .Add (.ref a) (.ref b)) Q E s := by
 obtain ⟨m, hn, km⟩ := H.ns
 refine add_arrays (zpb hn) zhP ha hb (fun h' F N => h _ _ ?_) (by simpa using hz)
 exact H.news km F N (.inl rfl)
noncomputable def pick {α : Type} (l : List α) (lo hi : Option Int) : List α := (l.drop (kms_lo lo l.length)).take (kms_hi hi l.length - kms_lo lo l.length)
theorem KnL.drop {fz : List (Value × D)} {vs : List Value} {ds : List D} (h : KnL fz vs ds) : ∀ k, KnL fz (vs.drop k) (ds.drop k) := by
 induction h with
 | nil => intro k; simp; exact .nil
 | cons h t ih =>
  intro k
  cases k with
  | zero => exact .cons h t
  | succ k => exact ih k
theorem KnL.take {fz : List (Value × D)} {vs : List Value} {ds : List D} (h : KnL fz vs ds) : ∀ k, KnL fz (vs.take k) (ds.take k) := by
 induction h with
 | nil => intro k; simp; exact .nil
 | cons h t ih =>
  intro k
  cases k with
  | zero => exact .nil
  | succ k => exact .cons h (ih k)
theorem KnL.pick {fz : List (Value × D)} {vs : List Value} {ds : List D} (h : KnL fz vs ds) (lo hi : Option Int) : KnL fz (pick vs lo hi) (pick ds lo hi) := by
 unfold Mine.pick
 rw [h.length]
 exact (h.drop _).take _
theorem zkt {α β : Type} (f : α → β) (l : List α) (lo hi : Option Int) : pick (l.map f) lo hi = (pick l lo hi).map f := by
 unfold Mine.pick
 rw [List.length_map, List.map_take, List.map_drop]
theorem zls {α : Type} (l : List α) {k : Int} (h : 0 ≤ k) : pick l none (some k) = l.take k.toNat := by
 unfold Mine.pick kms_lo kms_hi
 simp only [List.drop_zero, Nat.sub_zero]
 rw [if_neg (yjg h)]
 by_cases e : k.toNat ≤ l.length
 · rw [Nat.min_eq_left e]
 · rw [Nat.min_eq_right (yjw e), List.take_of_length_le (Nat.le_refl _), List.take_of_length_le (yjw e)]
theorem zvH {value : Expr} {lower upper : Option Expr} {p pos : Pos} {Q : Value → Shared → Prop}
 (h : wpAny (model prog w) A (eval value env) (fun o s₁ => wpAny (model prog w) A (evalPart lower env) (fun vl s₂ => wpAny (model prog w) A (evalPart upper env) (fun vu s₃ =>
   wpAny (model prog w) A (subscriptTail value (.Slice lower upper none p) o (.ref s₃.heap.objs.size)) Q E { s₃ with heap := s₃.heap.push { cls := .type "slice", data := .fields #[vl, vu, .none] } }) E s₂) E s₁) E s) :
 wpAny (model prog w) A (eval (.Subscript value (.Slice lower upper none p) pos) env) Q E s := by
 refine Subscript_ (wpAny_mono h (fun o s₁ h₁ => ?_) fun _ _ x => x)
 refine wpAny_Slice (wpAny_mono h₁ (fun vl s₂ h₂ => wpAny_mono h₂ (fun vu s₃ h₃ => wpAny_evalPart_none h₃) fun _ _ x => x) fun _ _ x => x)
theorem zrC {value : Expr} {lower upper : Option Expr} {p : Pos} {vl vu : Value} {lo hi : Option Int} {a : Addr} {vs : List Value} {Q : Value → Shared → Prop} (H : At mg mb L l own fz s.heap) (e : s.heap.IsList a (List.toArray vs)) (pl : IsPart vl lo) (pu : IsPart vu hi) (hz : vs.length ≤ sizeLine)
 (h : ∀ a' h', At mg mb L l ((a', listOf (List.toArray (pick vs lo hi)) 0) :: own) fz h' → Q (.ref a') { s with heap := h' }) :
 wpAny (model prog w) A (subscriptTail value (.Slice lower upper none p) (.ref a) (.ref s.heap.objs.size)) Q E { s with heap := s.heap.push { cls := .type "slice", data := .fields #[vl, vu, .none] } } := by
 have e' : (s.heap.push { cls := .type "slice", data := .fields #[vl, vu, .none] }).IsList a (List.toArray vs) := e.push _
 refine zf4 (s := { s with heap := s.heap.push { cls := .type "slice", data := .fields #[vl, vu, .none] } }) e'.typeIs slot_list_getitem.lookup ?_ (.inr rfl)
 refine wpAny_getItem_list_slice e' ⟨_, Heap.get?_push_size _ rfl, rfl, rfl⟩ pl pu .none (by simp) ?_ (by rw [List.size_toArray]; exact hz)
 rw [kms_pick_eq]
 exact h _ _ ((H.drop _).push _)
end
inductive V where
 | f (d : D)
 | o (vs : List V)
mutual
noncomputable def V.frz : V → D
 | .f d => d
 | .o vs => .lst (V.frzL vs)
noncomputable def V.frzL : List V → List D
 | [] => []
 | v :: vs => v.frz :: V.frzL vs
end
noncomputable def zeo {β : Type} (d : D) (f : Int → Option β) : Option β := match d with
 | .int i => f i
 | .none => none
 | .bool _ => none
 | .lst _ => none
 | .tup _ => none
noncomputable def zlt {β : Type} (d : D) (f : List D → Option β) : Option β := match d with
 | .lst ds => f ds
 | .int _ => none
 | .none => none
 | .bool _ => none
 | .tup _ => none
noncomputable def onTup {β : Type} (d : D) (f : List D → Option β) : Option β := match d with
 | .tup ds => f ds
 | .int _ => none
 | .none => none
 | .bool _ => none
 | .lst _ => none
noncomputable def isN (d : D) : Bool := match d with
 | .none => true
 | .int _ => false
 | .bool _ => false
 | .lst _ => false
 | .tup _ => false
noncomputable def onF {β : Type} (v : V) (f : D → Option β) : Option β := match v with
 | .f d => f d
 | .o _ => none
noncomputable def onO {β : Type} (v : V) (f : List V → Option β) : Option β := match v with
 | .o vs => f vs
 | .f _ => none
noncomputable def zno {α β : Type} (l : List α) (f : α → Option β) : Option β := match l with
 | [] => none
 | x :: r => match r with
  | [] => f x
  | _ :: _ => none
noncomputable def duo {α β : Type} (l : List α) (f : α → α → Option β) : Option β := match l with
 | [] => none
 | x :: r => zno r (f x)
noncomputable def upto {α β : Type} (l : List α) (f : α → Option β) (g : α → α → Option β) : Option β := match l with
 | [] => none
 | x :: r => match r with
  | [] => f x
  | y :: r => match r with
   | [] => g x y
   | _ :: _ => none
section
variable {α β γ : Type} {G : Prop} {b : β}
theorem zaM (h : (none : Option β) = some b) : G := by cases h
theorem zaE {x : Option α} {f : α → Option β} (h : x.bind f = some b) (k : ∀ a, x = some a → f a = some b → G) : G := by
 cases x with
 | none => exact zaM h
 | some a => exact k a rfl h
theorem zbn {x : Option (α × γ)} {f : α × γ → Option β} (h : x.bind f = some b) (k : ∀ a c, x = some (a, c) → f (a, c) = some b → G) : G := by
 cases x with
 | none => exact zaM h
 | some a => exact k a.1 a.2 rfl h
theorem zft {x : Option α} {f : α → β} (h : x.map f = some b) (k : ∀ a, x = some a → f a = b → G) : G := by
 cases x with
 | none => exact zaM h
 | some a => exact k a rfl (Option.some.inj h)
theorem znj {x : Option (α × γ)} {f : α × γ → β} (h : x.map f = some b) (k : ∀ a c, x = some (a, c) → f (a, c) = b → G) : G := by
 cases x with
 | none => exact zaM h
 | some a => exact k a.1 a.2 rfl (Option.some.inj h)
theorem zcB {c : Prop} {inst : Decidable c} {x : Option β} (h : (if c then x else none) = some b) (k : c → x = some b → G) : G := by
 by_cases hc : c
 · rw [if_pos hc] at h; exact k hc h
 · rw [if_neg hc] at h; exact zaM h
theorem znk {c : Prop} {inst : Decidable c} {x : Option β} (h : (if c then none else x) = some b) (k : ¬ c → x = some b → G) : G := by
 by_cases hc : c
 · rw [if_pos hc] at h; exact zaM h
 · rw [if_neg hc] at h; exact k hc h
theorem zrD {a : β} (h : some a = some b) (k : a = b → G) : G := k (Option.some.inj h)
theorem zlu {d : D} {f : Int → Option β} (h : zeo d f = some b) (k : ∀ i, d = .int i → f i = some b → G) : G := by
 cases d with
 | int i => exact k i rfl h
 | _ => exact zaM h
theorem zlv {d : D} {f : List D → Option β} (h : zlt d f = some b) (k : ∀ i, d = .lst i → f i = some b → G) : G := by
 cases d with
 | lst i => exact k i rfl h
 | _ => exact zaM h
theorem onTupE {d : D} {f : List D → Option β} (h : onTup d f = some b) (k : ∀ i, d = .tup i → f i = some b → G) : G := by
 cases d with
 | tup i => exact k i rfl h
 | _ => exact zaM h
theorem onFE {v : V} {f : D → Option β} (h : onF v f = some b) (k : ∀ d, v = .f d → f d = some b → G) : G := by
 cases v with
 | f d => exact k d rfl h
 | o => exact zaM h
theorem ztV {v : V} {f : List V → Option β} (h : onO v f = some b) (k : ∀ d, v = .o d → f d = some b → G) : G := by
 cases v with
 | o d => exact k d rfl h
 | f => exact zaM h
theorem zhG {l : List α} {f : α → Option β} (h : zno l f = some b) (k : ∀ x, l = [x] → f x = some b → G) : G := by
 cases l with
 | nil => exact zaM h
 | cons x r => cases r with
  | nil => exact k x rfl h
  | cons => exact zaM h
theorem duoE {l : List α} {f : α → α → Option β} (h : duo l f = some b) (k : ∀ x y, l = [x, y] → f x y = some b → G) : G := by
 cases l with
 | nil => exact zaM h
 | cons x r => exact zhG h fun y e h => k x y (e ▸ rfl) h
theorem zvI {l : List α} {f : α → Option β} {g : α → α → Option β} (h : upto l f g = some b) (k1 : ∀ x, l = [x] → f x = some b → G) (k2 : ∀ x y, l = [x, y] → g x y = some b → G) : G := by
 cases l with
 | nil => exact zaM h
 | cons x r => cases r with
  | nil => exact k1 x rfl h
  | cons y r => cases r with
   | nil => exact k2 x y rfl h
   | cons => exact zaM h
end
inductive K where
 | c (c : Const)
 | n (x : Str)
 | bin (l : Expr) (op : Operator) (r : Expr)
 | un (op : UnaryOp) (x : Expr)
 | sub (v i : Expr)
 | sli (lo hi st : Option Expr)
 | call (g : Str) (args : List Expr)
 | cmp (l : Expr) (ops : List CmpOp) (rs : List Expr)
 | boo (op : BoolOp) (vs : List Expr)
 | ife (t b o : Expr)
 | lst (es : List Expr)
 | tup (es : List Expr)
 | comp (elt : Expr) (gens : List Comprehension) (scope : Scope)
 | no
noncomputable def zrE (call : Expr → List Expr → List Keyword → K) : Expr → K
 | .Constant c _ _ => .c c
 | .Name x _ => .n x
 | .BinOp l op r _ => .bin l op r
 | .UnaryOp op x _ => .un op x
 | .Subscript v i _ => .sub v i
 | .Slice a b c _ => .sli a b c
 | .Call f args kws _ => call f args kws
 | .Compare l ops rs _ => .cmp l ops rs
 | .BoolOp op vs _ => .boo op vs
 | .IfExp t b o _ => .ife t b o
 | .List es _ => .lst es
 | .Tuple es _ _ => .tup es
 | .ListComp elt gens scope _ => .comp elt gens scope
 | .NamedExpr _ _ _ => .no
 | .Lambda _ _ _ _ => .no
 | .Dict _ _ _ => .no
 | .Set _ _ _ => .no
 | .SetComp _ _ _ _ => .no
 | .DictComp _ _ _ _ _ => .no
 | .GeneratorExp _ _ _ _ => .no
 | .Await _ _ => .no
 | .Yield _ _ => .no
 | .YieldFrom _ _ => .no
 | .FormattedValue _ _ _ _ => .no
 | .JoinedStr _ _ => .no
 | .Attribute _ _ _ => .no
 | .Starred _ _ => .no
noncomputable def ztW : K → Option Str
 | .n x => some x
 | .c _ => none
 | .bin _ _ _ => none
 | .un _ _ => none
 | .sub _ _ => none
 | .sli _ _ _ => none
 | .call _ _ => none
 | .cmp _ _ _ => none
 | .boo _ _ => none
 | .ife _ _ _ => none
 | .lst _ => none
 | .tup _ => none
 | .comp _ _ _ => none
 | .no => none
noncomputable def kCall (f : Expr) (args : List Expr) (kws : List Keyword) : K := match kws with
 | [] => (ztW (zrE (fun _ _ _ => .no) f)).elim .no fun g => .call g args
 | _ :: _ => .no
noncomputable def kind (e : Expr) : K := zrE kCall e
inductive KR : Expr → K → Prop
 | c (c k p) : KR (.Constant c k p) (.c c)
 | n (x p) : KR (.Name x p) (.n x)
 | bin (l op r p) : KR (.BinOp l op r p) (.bin l op r)
 | un (op x p) : KR (.UnaryOp op x p) (.un op x)
 | sub (v i p) : KR (.Subscript v i p) (.sub v i)
 | sli (a b c p) : KR (.Slice a b c p) (.sli a b c)
 | call (g gp args p) : KR (.Call (.Name g gp) args [] p) (.call g args)
 | cmp (l ops rs p) : KR (.Compare l ops rs p) (.cmp l ops rs)
 | boo (op vs p) : KR (.BoolOp op vs p) (.boo op vs)
 | ife (t b o p) : KR (.IfExp t b o p) (.ife t b o)
 | lst (es p) : KR (.List es p) (.lst es)
 | tup (es k p) : KR (.Tuple es k p) (.tup es)
 | comp (elt gens scope p) : KR (.ListComp elt gens scope p) (.comp elt gens scope)
 | no (e) : KR e .no
theorem kr_of {call : Expr → List Expr → List Keyword → K} (hc : ∀ f args kws p, KR (.Call f args kws p) (call f args kws)) (e : Expr) : KR e (zrE call e) := by
 cases e
 case Call => exact hc _ _ _ _
 all_goals constructor
theorem kr (e : Expr) : KR e (kind e) := kr_of (fun f args kws p => by
 cases kws with
 | cons => exact .no _
 | nil =>
  have h := kr_of (call := fun _ _ _ => .no) (fun _ _ _ _ => .no _) f
  show KR _ ((ztW (zrE (fun _ _ _ => .no) f)).elim .no fun g => .call g args)
  generalize zrE (fun _ _ _ => .no) f = κ at h
  cases h
  case n => exact .call _ _ _ _
  all_goals exact .no _) e
noncomputable def zeg (e : Expr) : Option Str := ztW (kind e)
theorem zvJ {e : Expr} {κ : K} {x : Str} (hk : KR e κ) (h : ztW κ = some x) : ∃ p, e = .Name x p := by
 cases hk
 case n => cases h; exact ⟨_, rfl⟩
 all_goals exact zaM h
theorem zf5 {e : Expr} {x : Str} (h : zeg e = some x) : ∃ p, e = .Name x p := zvJ (kr e) h
noncomputable def zdE {β : Type} (e : Expr) (f : Str → Option β) : Option β := (zeg e).bind f
theorem zdr {β : Type} {G : Prop} {b : β} {e : Expr} {f : Str → Option β} (h : zdE e f = some b) (k : ∀ x p, e = .Name x p → f x = some b → G) : G :=
 zaE h fun x h1 h2 => by
  obtain ⟨p, e⟩ := zf5 h1
  exact k x p e h2
noncomputable def kSub : K → Option (Expr × Expr)
 | .sub v i => some (v, i)
 | .c _ => none
 | .n _ => none
 | .bin _ _ _ => none
 | .un _ _ => none
 | .sli _ _ _ => none
 | .call _ _ => none
 | .cmp _ _ _ => none
 | .boo _ _ => none
 | .ife _ _ _ => none
 | .lst _ => none
 | .tup _ => none
 | .comp _ _ _ => none
 | .no => none
theorem kr_sub {e : Expr} {κ : K} {x : Expr × Expr} (hk : KR e κ) (h : kSub κ = some x) : ∃ p, e = .Subscript x.1 x.2 p := by
 cases hk
 case sub => cases h; exact ⟨_, rfl⟩
 all_goals exact zaM h
noncomputable def zlw {β : Type} (e : Expr) (f : Expr → Expr → Option β) : Option β := (kSub (kind e)).bind fun x => f x.1 x.2
theorem zjU {β : Type} {G : Prop} {b : β} {e : Expr} {f : Expr → Expr → Option β} (h : zlw e f = some b) (k : ∀ o i p, e = .Subscript o i p → f o i = some b → G) : G :=
 zaE h fun x h1 h2 => by
  obtain ⟨p, e⟩ := kr_sub (kr e) h1
  exact k _ _ p e h2
noncomputable def kTup : K → Option (List Expr)
 | .tup es => some es
 | .sub _ _ => none
 | .c _ => none
 | .n _ => none
 | .bin _ _ _ => none
 | .un _ _ => none
 | .sli _ _ _ => none
 | .call _ _ => none
 | .cmp _ _ _ => none
 | .boo _ _ => none
 | .ife _ _ _ => none
 | .lst _ => none
 | .comp _ _ _ => none
 | .no => none
theorem kr_tup {e : Expr} {κ : K} {x : List Expr} (hk : KR e κ) (h : kTup κ = some x) : ∃ k p, e = .Tuple x k p := by
 cases hk
 case tup => cases h; exact ⟨_, _, rfl⟩
 all_goals exact zaM h
noncomputable def zrF {β : Type} (e : Expr) (f : List Expr → Option β) : Option β := (kTup (kind e)).bind f
theorem znp {β : Type} {G : Prop} {b : β} {e : Expr} {f : List Expr → Option β} (h : zrF e f = some b) (k : ∀ es n p, e = .Tuple es n p → f es = some b → G) : G :=
 zaE h fun x h1 h2 => by
  obtain ⟨n, p, e⟩ := kr_tup (kr e) h1
  exact k _ n p e h2
noncomputable abbrev zbt := List (Str × Option V)
structure St where
 r : zbt
 k : zbt
inductive Fl where
 | next
 | ret (d : D)
noncomputable def upd (x : Str) (v : Option V) : zbt → zbt
 | [] => []
 | (y, u) :: r => if y = x then (x, v) :: r else (y, u) :: upd x v r
structure Cfg where
 T : Str → List D → Option D
 TR : Str → V → List D → Option (D × V)
 refs : List Str
 pins : List Str
 W : Nat
noncomputable def zfu (x : Str) (l : zbt) : Option V := (l.lookup x).bind id
noncomputable def St.get (sc : Scope) (x : Str) (σ : St) : Option V :=
 match sc.names.lookup x with
 | some .local => zfu x σ.r
 | some .cell => zfu x σ.k
 | _ => none
noncomputable def has (x : Str) (l : zbt) : Bool := (l.lookup x).isSome
noncomputable def St.set (sc : Scope) (x : Str) (v : V) (σ : St) : Option St :=
 match sc.names.lookup x with
 | some .local => if has x σ.r then some { σ with r := upd x (some v) σ.r } else none
 | some .cell => if has x σ.k then some { σ with k := upd x (some v) σ.k } else none
 | _ => none
noncomputable def St.put (C : Cfg) (sc : Scope) (x : Str) (v : V) (σ : St) : Option St := if C.pins.contains x then none else σ.set sc x v
noncomputable abbrev zbo (a : Int) : Prop := a.natAbs < 2 ^ 63
noncomputable def zbh (op : Operator) (a b : Int) : Option Int := match op with
 | .Add => some (a + b)
 | .Sub => some (a - b)
 | .Mult => if zbo a ∨ zbo b then some (a * b) else none
 | .FloorDiv => if b ≠ 0 ∧ zbo a ∧ zbo b then some (a.fdiv b) else none
 | .Mod => if b ≠ 0 then some (a.fmod b) else none
 | .Pow => if 0 ≤ b ∧ b < 1000 ∧ zbo a then some (a ^ b.toNat) else none
 | .MatMult => none
 | .Div => none
 | .LShift => none
 | .RShift => none
 | .BitOr => none
 | .BitXor => none
 | .BitAnd => none
noncomputable def idx {α : Type} (l : List α) (k : Int) : Option α := if 0 ≤ k then (if k < 2 ^ 63 then l[k.toNat]? else none) else if k = -1 then l.getLast? else none
noncomputable def V.item (k : Int) : V → Option V
 | .o vs => idx vs k
 | .f d => match d with
  | .lst ds => (idx ds k).map .f
  | .tup ds => (idx ds k).map .f
  | .int _ => none
  | .none => none
  | .bool _ => none
noncomputable def zaI (n : Nat) : Bool := n ≤ 2 ^ 24
noncomputable def V.len : V → Option Int
 | .o vs => if zaI vs.length then some vs.length else none
 | .f d => zlt d fun ds => if zaI ds.length then some ds.length else none
noncomputable def V.int (v : V) : Option Int := onF v fun d => zeo d some
noncomputable def constV : Const → Option V
 | .int i => some (.f (.int i))
 | .none => some (.f .none)
 | .bool b => some (.f (.bool b))
 | _ => none
structure Rec where
 p : Scope → Expr → St → Option V
 q : Expr → Bool
 e : Scope → Expr → St → Option (V × St)
 t : Scope → Expr → St → Option (Bool × St)
 s : Scope → List Stmt → St → Option (Fl × St)
noncomputable def qK (R : Rec) : K → Bool
 | .c _ => true
 | .n _ => true
 | .bin l _ r => R.q l && R.q r
 | .un _ x => R.q x
 | .sub v i => R.q v && R.q i
 | .call g args => (zno args fun x => some (decide (g = "len") && R.q x)).getD false
 | .sli _ _ _ => false
 | .cmp _ _ _ => false
 | .boo _ _ => false
 | .ife _ _ _ => false
 | .lst _ => false
 | .tup _ => false
 | .comp _ _ _ => false
 | .no => false
noncomputable def zvK (R : Rec) (e : Expr) : Bool := qK R (kind e)
noncomputable def zar (sc : Scope) (x : Str) : Bool := sc.names.lookup x = some .globalImplicit
noncomputable def pK (R : Rec) (sc : Scope) (σ : St) : K → Option V
 | .c c => constV c
 | .n x => if x == "__debug__" then none else σ.get sc x
 | .bin l op r => (R.p sc l σ).bind fun a => a.int.bind fun a => (R.p sc r σ).bind fun b => b.int.bind fun b => (zbh op a b).map fun c => .f (.int c)
 | .un op x => if op = .USub then (R.p sc x σ).bind fun a => a.int.map fun a => .f (.int (-a)) else none
 | .sub v i => (R.p sc v σ).bind fun a => (R.p sc i σ).bind fun k => k.int.bind fun k => a.item k
 | .call g args => zno args fun x => if g = "len" ∧ zar sc g then (R.p sc x σ).bind fun a => a.len.map fun n => .f (.int n) else none
 | .sli _ _ _ => none
 | .cmp _ _ _ => none
 | .boo _ _ => none
 | .ife _ _ _ => none
 | .lst _ => none
 | .tup _ => none
 | .comp _ _ _ => none
 | .no => none
noncomputable def zvL (R : Rec) (sc : Scope) (e : Expr) (σ : St) : Option V := pK R sc σ (kind e)
noncomputable def frzV (v : V × St) : D × St := (v.1.frz, v.2)
noncomputable def evF (R : Rec) (sc : Scope) (e : Expr) (σ : St) : Option (D × St) := (R.e sc e σ).map frzV
noncomputable def evI (R : Rec) (sc : Scope) (e : Expr) (σ : St) : Option (Int × St) := (evF R sc e σ).bind fun v => zeo v.1 fun i => some (i, v.2)
noncomputable def evs (R : Rec) (sc : Scope) : List Expr → St → Option (List V × St)
 | [], σ => some ([], σ)
 | e :: es, σ => (R.e sc e σ).bind fun v => (evs R sc es v.2).map fun vs => (v.1 :: vs.1, vs.2)
noncomputable def zlx : List D → Option (List Int)
 | [] => some []
 | d :: ds => zeo d fun i => (zlx ds).map (i :: ·)
noncomputable def cmp (op : CmpOp) (a b : D) : Option Bool := match op with
 | .Eq => zeo a fun a => zeo b fun b => some (a == b)
 | .Lt => zeo a fun a => zeo b fun b => some (decide (a < b))
 | .LtE => zeo a fun a => zeo b fun b => some (decide (a ≤ b))
 | .Gt => zeo a fun a => zeo b fun b => some (decide (a > b))
 | .GtE => zeo a fun a => zeo b fun b => some (decide (a ≥ b))
 | .Is => if isN b then some (isN a) else none
 | .IsNot => if isN b then some (!isN a) else none
 | .NotEq => match a with
  | .int a => zeo b fun b => some (!(a == b))
  | .lst a => zlt b fun b => (zlx a).bind fun a => (zlx b).map fun b => !(a == b)
  | .none => none
  | .bool _ => none
  | .tup _ => none
 | .In => none
 | .NotIn => none
noncomputable def tC (R : Rec) (sc : Scope) (l : Expr) (op : CmpOp) (r : Expr) (σ : St) : Option (Bool × St) := (evF R sc l σ).bind fun a => (evF R sc r a.2).bind fun b => (cmp op a.1 b.1).map fun c => (c, b.2)
noncomputable def tD (R : Rec) (sc : Scope) (l : Expr) (o1 o2 : CmpOp) (r1 r2 : Expr) (σ : St) : Option (Bool × St) := if !R.q r2 then none else (evF R sc l σ).bind fun a => (evF R sc r1 a.2).bind fun b => (cmp o1 a.1 b.1).bind fun c =>
 if c then (evF R sc r2 b.2).bind fun d => (cmp o2 b.1 d.1).map fun c => (c, d.2) else some (false, b.2)
noncomputable def tOrs (R : Rec) (sc : Scope) : List Expr → St → Option (Bool × St)
 | [], σ => some (false, σ)
 | x :: r, σ => (R.t sc x σ).bind fun a => if a.1 then some (true, a.2) else tOrs R sc r a.2
noncomputable def tK (R : Rec) (sc : Scope) (σ : St) : K → Option (Bool × St)
 | .cmp l ops rs => upto rs (fun r => zno ops fun op => tC R sc l op r σ) (fun r1 r2 => duo ops fun o1 o2 => tD R sc l o1 o2 r1 r2 σ)
 | .boo op vs => match op with
  | .And => duo vs fun x y => (R.t sc x σ).bind fun a => if a.1 then R.t sc y a.2 else some (false, a.2)
  | .Or => tOrs R sc vs σ
 | .c _ => none
 | .n _ => none
 | .bin _ _ _ => none
 | .un _ _ => none
 | .sub _ _ => none
 | .call _ _ => none
 | .sli _ _ _ => none
 | .ife _ _ _ => none
 | .lst _ => none
 | .tup _ => none
 | .comp _ _ _ => none
 | .no => none
noncomputable def zvM (R : Rec) (sc : Scope) (e : Expr) (σ : St) : Option (Bool × St) := tK R sc σ (kind e)
noncomputable def zb6 (a : Int) : Nat → List D
 | 0 => []
 | n + 1 => .int a :: zb6 (a + 1) n
noncomputable def zjV (a b : Int) : Option (List D) := if -2 ^ 62 ≤ a ∧ a < 2 ^ 62 ∧ -2 ^ 62 ≤ b ∧ b < 2 ^ 62 ∧ b - a ≤ 2 ^ 24 then some (zb6 a (b - a).toNat) else none
noncomputable def zfn (i : Int) : List D → List D
 | [] => []
 | d :: ds => .tup [.int i, d] :: zfn (i + 1) ds
noncomputable def zlj : List D → List D → List D
 | a :: as, b :: bs => .tup [a, b] :: zlj as bs
 | _, _ => []
noncomputable def evL (R : Rec) (sc : Scope) (e : Expr) (σ : St) : Option (List D × St) := (evF R sc e σ).bind fun v => zlt v.1 fun ds => if zaI ds.length then some (ds, v.2) else none
noncomputable def seqOf : D → Option (List D)
 | .lst ds => some ds
 | .tup ds => some ds
 | .int _ => none
 | .none => none
 | .bool _ => none
noncomputable def evLT (R : Rec) (sc : Scope) (e : Expr) (σ : St) : Option (List D × St) := (evF R sc e σ).bind fun v => (seqOf v.1).bind fun ds => if zaI ds.length then some (ds, v.2) else none
noncomputable def zly : K → Option (Str × List Expr)
 | .call g args => some (g, args)
 | .c _ => none
 | .n _ => none
 | .bin _ _ _ => none
 | .un _ _ => none
 | .sub _ _ => none
 | .sli _ _ _ => none
 | .cmp _ _ _ => none
 | .boo _ _ => none
 | .ife _ _ _ => none
 | .lst _ => none
 | .tup _ => none
 | .comp _ _ _ => none
 | .no => none
theorem zrG {e : Expr} {κ : K} {x : Str × List Expr} (hk : KR e κ) (h : zly κ = some x) : ∃ gp p, e = .Call (.Name x.1 gp) x.2 [] p := by
 cases hk
 case call => cases h; exact ⟨_, _, rfl⟩
 all_goals exact zaM h
noncomputable def zhH (R : Rec) (sc : Scope) (g : Str) (args : List Expr) (σ : St) : Option ((List D × Bool) × St) :=
 if zar sc g then
  if g = "range" then upto args (fun x => (evI R sc x σ).bind fun n => (zjV 0 n.1).map fun ds => ((ds, false), n.2)) fun x y => (evI R sc x σ).bind fun a => (evI R sc y a.2).bind fun b => (zjV a.1 b.1).map fun ds => ((ds, false), b.2)
  else if g = "reversed" then zno args fun x => (evL R sc x σ).map fun v => ((v.1.reverse, false), v.2)
  else if g = "enumerate" then zno args fun x => (evL R sc x σ).map fun v => ((zfn 0 v.1, true), v.2)
  else if g = "zip" then duo args fun x y => (evL R sc x σ).bind fun v => (evL R sc y v.2).map fun u => ((zlj v.1 u.1, true), u.2)
  else none
 else none
noncomputable def zb2 (R : Rec) (sc : Scope) (e : Expr) (σ : St) : Option ((List D × Bool) × St) :=
 match zly (kind e) with
 | some c => zhH R sc c.1 c.2 σ
 | none => (evLT R sc e σ).map fun v => ((v.1, false), v.2)
noncomputable def zbY : List Expr → Option (List Str)
 | [] => some []
 | e :: r => zdE e fun x => (zbY r).map (x :: ·)
noncomputable def zhQ (C : Cfg) (sc : Scope) : List Str → List V → St → Option St
 | [], vs, σ => match vs with
  | [] => some σ
  | _ :: _ => none
 | x :: xs, vs, σ => match vs with
  | [] => none
  | v :: vs => (σ.put C sc x v).bind (zhQ C sc xs vs)
noncomputable def zku (C : Cfg) (sc : Scope) (pairs : Bool) (target : Expr) (d : D) (σ : St) : Option St :=
 match zeg target with
 | some x => if pairs then none else σ.put C sc x (.f d)
 | none => zrF target fun elts => onTup d fun ds => (zbY elts).bind fun xs => zhQ C sc xs (ds.map .f) σ
noncomputable def zaF (scope sc : Scope) : Scope :=
 { scope with names := scope.names.map fun (n, k) => if (k == .free && sc.kind == .function && sc.names.lookup n == some .cell) then (n, .cell) else (n, k) }
noncomputable def zaO (scope : Scope) : List Str := (scope.names.filter fun x => x.2 == .cell).map (·.1)
noncomputable def zbi (scope : Scope) : List Str := (scope.names.filter fun x => x.2 == .local).map (·.1)
noncomputable def zet (R : Rec) (sc : Scope) (ifs : List Expr) (σ : St) : Option (Bool × St) :=
 match ifs with
 | [] => some (true, σ)
 | c :: r => match r with
  | [] => R.t sc c σ
  | _ :: _ => none
noncomputable def zcr (C : Cfg) (R : Rec) (sc : Scope) (pairs : Bool) (target : Expr) (ifs : List Expr) (em : St → Option (List V × St)) : List D → List V → St → Option (List V × St)
 | [], acc, τ => some (acc, τ)
 | d :: ds, acc, τ => (zku C sc pairs target d τ).bind fun τ => (zet R sc ifs τ).bind fun b =>
  if b.1 then (em b.2).bind fun v => zcr C R sc pairs target ifs em ds (acc ++ v.1) v.2 else zcr C R sc pairs target ifs em ds acc b.2
noncomputable def zep (R : Rec) (sc : Scope) (elt : Expr) (τ : St) : Option (List V × St) := (R.e sc elt τ).map fun v => ([v.1], v.2)
noncomputable def zpU (C : Cfg) (R : Rec) (sc : Scope) (elt : Expr) (g : Comprehension) (τ : St) : Option (List V × St) :=
 (zb2 R sc g.iter τ).bind fun it => if it.1.2 then none else zcr C R sc false g.target g.ifs (zep R sc elt) it.1.1 [] it.2
noncomputable def zvN (scope : Scope) (l : List (Str × NameKind)) (x : Str) : NameKind → Bool
 | .local => scope.names.lookup x = some .local
 | .free => scope.names.lookup x = some .free && l.lookup x = some .cell
 | .cell => scope.names.lookup x = some .cell
 | .globalImplicit => scope.names.lookup x = some .globalImplicit
 | .globalExplicit => false
noncomputable def zf6 (scope : Scope) (l : List (Str × NameKind)) : Bool :=
 scope.kind = .function && scope.names.all (fun x => zvN scope l x.1 x.2) && (zaO scope).length ≤ 1 && decide ((zbi scope).Nodup)
noncomputable def zbZ (scope sc : Scope) : Bool := zf6 scope sc.names
theorem zf7 {scope sc : Scope} (h : zbZ scope sc = true) : scope.kind = .function ∧ (∀ x ∈ scope.names, zvN scope sc.names x.1 x.2 = true) ∧ (zaO scope).length ≤ 1 ∧ (zbi scope).Nodup := by
 unfold zbZ zf6 at h
 rw [Bool.and_eq_true, Bool.and_eq_true, Bool.and_eq_true, decide_eq_true_eq, decide_eq_true_eq, decide_eq_true_eq, List.all_eq_true] at h
 exact ⟨h.1.1.1, h.1.1.2, h.1.2, h.2⟩
theorem zvi {scope : Scope} {l : List (Str × NameKind)} {x : Str} (h : zvN scope l x .local = true) : scope.names.lookup x = some .local := of_decide_eq_true h
theorem nmOk_c {scope : Scope} {l : List (Str × NameKind)} {x : Str} (h : zvN scope l x .cell = true) : scope.names.lookup x = some .cell := of_decide_eq_true h
theorem nmOk_f {scope : Scope} {l : List (Str × NameKind)} {x : Str} (h : zvN scope l x .free = true) : l.lookup x = some .cell := of_decide_eq_true ((Bool.and_eq_true _ _).mp h).2
noncomputable def zfo (C : Cfg) (R : Rec) (sc : Scope) (elt : Expr) (gens : List Comprehension) (scope : Scope) (σ : St) : Option (V × St) :=
 if zbZ scope sc && (gens.all fun g => g.is_async = 0) && (scope.names.all fun x => x.2 != .free || has x.1 σ.k) then
  upto gens (fun g => (zb2 R sc g.iter σ).bind fun it =>
   (zcr C R (zaF scope sc) it.1.2 g.target g.ifs (zep R (zaF scope sc) elt) it.1.1 [] ⟨(zbi scope).map (·, none), (zaO scope).map (·, none) ++ it.2.k⟩).bind fun v =>
     if zaI v.1.length then some (.o v.1, ⟨it.2.r, v.2.k.drop (zaO scope).length⟩) else none)
   fun g g2 => if g.ifs.isEmpty then (zb2 R sc g.iter σ).bind fun it => if it.1.2 then none else
    (zcr C R (zaF scope sc) false g.target [] (zpU C R (zaF scope sc) elt g2) it.1.1 [] ⟨(zbi scope).map (·, none), (zaO scope).map (·, none) ++ it.2.k⟩).bind fun v =>
      if zaI v.1.length then some (.o v.1, ⟨it.2.r, v.2.k.drop (zaO scope).length⟩) else none
   else none
 else none
noncomputable def evD (R : Rec) (sc : Scope) (es : List Expr) (σ : St) : Option (List D × St) := (evs R sc es σ).map fun v => (V.frzL v.1, v.2)
noncomputable def evP (R : Rec) (sc : Scope) : List Expr → St → Option (List D)
 | [], _ => some []
 | e :: es, σ => if R.q e then (R.p sc e σ).bind fun v => onF v fun d => (evP R sc es σ).map (d :: ·) else none
noncomputable def zkv (v : V) : Option (List D) := zlt v.frz fun ds => if zaI ds.length then some ds else none
noncomputable def callR (C : Cfg) (R : Rec) (sc : Scope) (g : Str) (args : List Expr) (σ : St) : Option (V × St) := match args with
 | [] => none
 | a :: rest => zdE a fun x => if x == "__debug__" then none else (σ.get sc x).bind fun v => onO v fun vs => (evP R sc rest σ).bind fun ds => (C.TR g (.o vs) ds).bind fun r => (σ.set sc x r.2).map fun σ' => (.f r.1, σ')
noncomputable def zfp (C : Cfg) (R : Rec) (sc : Scope) (g : Str) (args : List Expr) (σ : St) : Option (V × St) :=
 if zar sc g then
  if g = "max" then duo args fun x y => (evI R sc x σ).bind fun a => (evI R sc y a.2).map fun b => (.f (.int (max a.1 b.1)), b.2)
  else if g = "abs" then zno args fun x => (evI R sc x σ).map fun a => (.f (.int a.1.natAbs), a.2)
  else if g = "int" then zno args fun x => (evI R sc x σ).map fun a => (.f (.int a.1), a.2)
  else if g = "list" then zno args fun x => (evL R sc x σ).map fun a => (.o (a.1.map .f), a.2)
  else if C.refs.contains g then callR C R sc g args σ
  else if args.isEmpty then none else (evD R sc args σ).bind fun ds => (C.T g ds.1).map fun d => (.f d, ds.2)
 else none
noncomputable def zda (R : Rec) (sc : Scope) (e : Option Expr) (σ : St) : Option (Option Int) :=
 match e with
 | none => some none
 | some e => if R.q e then (R.p sc e σ).bind fun v => v.int.map some else none
noncomputable def zbQ : Option Int → Bool
 | none => true
 | some i => decide (-2 ^ 62 ≤ i ∧ i < 2 ^ 62)
noncomputable def znq : List V → Option (List D)
 | [] => some []
 | v :: vs => onF v fun d => (znq vs).map (d :: ·)
noncomputable def evB (R : Rec) (sc : Scope) (e : Expr) (σ : St) : Option (List D × St) :=
 if R.q e then (R.p sc e σ).bind fun v => match v with
  | .o vs => (znq vs).map fun ds => (ds, σ)
  | .f d => zlt d fun ds => some (ds, σ)
 else evL R sc e σ
noncomputable def zvO (xs : List D) (b : V × St) : Option (V × St) := (zkv b.1).bind fun ys => if zaI (xs.length + ys.length) then some (.o ((xs ++ ys).map .f), b.2) else none
noncomputable def zvP (R : Rec) (sc : Scope) (op : Operator) (r : Expr) (vs : List V) (σ : St) : Option (V × St) :=
 if op = .Mult then zno vs fun v => (evI R sc r σ).bind fun k => if k.1 ≤ 2 ^ 24 ∧ -2 ^ 62 ≤ k.1 then some (V.o (List.replicate k.1.toNat (V.f v.frz)), k.2) else none
 else if op = .Add then (R.e sc r σ).bind fun b => (zkv (.o vs)).bind fun xs => zvO xs b
 else none
noncomputable def eBin (R : Rec) (sc : Scope) (op : Operator) (r : Expr) (v : V) (σ : St) : Option (V × St) := match v with
 | .f d => match d with
  | .int i => (evI R sc r σ).bind fun b => (zbh op i b.1).map fun c => (.f (.int c), b.2)
  | .lst xs => if op = .Add then (R.e sc r σ).bind (zvO xs) else none
  | .none => none
  | .bool _ => none
  | .tup _ => none
 | .o vs => zvP R sc op r vs σ
noncomputable def zvj (R : Rec) (sc : Scope) (v : Expr) (lo hi : Option Expr) (σ : St) : Option (V × St) := (evB R sc v σ).bind fun a => (zda R sc lo a.2).bind fun lo => (zda R sc hi a.2).bind fun hi =>
 if zaI a.1.length && zbQ lo && zbQ hi then some (V.o ((pick a.1 lo hi).map V.f), a.2) else none
noncomputable def eSub (R : Rec) (sc : Scope) (v i : Expr) (σ : St) : Option (V × St) := (evF R sc v σ).bind fun a => if R.q i then (R.p sc i a.2).bind fun k => k.int.bind fun k => ((V.f a.1).item k).map fun x => (x, a.2) else none
noncomputable def slOf : K → Option (Option Expr × Option Expr × Option Expr)
 | .sli lo hi st => some (lo, hi, st)
 | .call _ _ => none
 | .c _ => none
 | .n _ => none
 | .bin _ _ _ => none
 | .un _ _ => none
 | .sub _ _ => none
 | .cmp _ _ _ => none
 | .boo _ _ => none
 | .ife _ _ _ => none
 | .lst _ => none
 | .tup _ => none
 | .comp _ _ _ => none
 | .no => none
theorem kr_sli {e : Expr} {κ : K} {x : Option Expr × Option Expr × Option Expr} (hk : KR e κ) (h : slOf κ = some x) : ∃ p, e = .Slice x.1 x.2.1 x.2.2 p := by
 cases hk
 case sli => cases h; exact ⟨_, rfl⟩
 all_goals exact zaM h
noncomputable def eK (C : Cfg) (R : Rec) (sc : Scope) (σ : St) : K → Option (V × St)
 | .bin l op r => (R.e sc l σ).bind fun a => eBin R sc op r a.1 a.2
 | .un op x => if op = .USub then (evI R sc x σ).map fun a => (.f (.int (-a.1)), a.2) else none
 | .ife t b o => (R.t sc t σ).bind fun c => if c.1 then R.e sc b c.2 else R.e sc o c.2
 | .cmp l ops rs => zno ops fun op => zno rs fun r => (evF R sc l σ).bind fun a => (evF R sc r a.2).bind fun b => (cmp op a.1 b.1).map fun c => (.f (.bool c), b.2)
 | .lst elts => (evs R sc elts σ).bind fun v => if zaI v.1.length then some (.o v.1, v.2) else none
 | .tup elts => (evs R sc elts σ).bind fun v => if zaI v.1.length then some (V.f (D.tup (V.frzL v.1)), v.2) else none
 | .comp elt gens scope => zfo C R sc elt gens scope σ
 | .sub v i => match slOf (kind i) with
  | some x => match x.2.2 with
   | none => zvj R sc v x.1 x.2.1 σ
   | some _ => none
  | none => eSub R sc v i σ
 | .call g args => zfp C R sc g args σ
 | .c _ => none
 | .n _ => none
 | .sli _ _ _ => none
 | .boo _ _ => none
 | .no => none
noncomputable def eQ (sc : Scope) (e : Expr) (σ : St) (v : V) : Option (V × St) := match v with
 | .f d => some (.f d, σ)
 | .o vs => zdE e fun x => (σ.set sc x (.f (.lst (V.frzL vs)))).map fun σ => (.f (.lst (V.frzL vs)), σ)
noncomputable def zdM (C : Cfg) (R : Rec) (sc : Scope) (e : Expr) (σ : St) : Option (V × St) :=
 if R.q e then (R.p sc e σ).bind (eQ sc e σ) else eK C R sc σ (kind e)
noncomputable def zjJ (C : Cfg) (R : Rec) (sc : Scope) (pairs : Bool) (target : Expr) (body : List Stmt) : List D → St → Option (Fl × St)
 | [], σ => some (.next, σ)
 | d :: ds, σ => (zku C sc pairs target d σ).bind fun σ => (R.s sc body σ).bind fun f => match f.1 with
  | .next => zjJ C R sc pairs target body ds f.2
  | .ret v => some (.ret v, f.2)
noncomputable def znr (R : Rec) (sc : Scope) (test : Expr) (body : List Stmt) : Nat → St → Option (Fl × St)
 | 0, _ => none
 | n + 1, σ => (R.t sc test σ).bind fun b => if b.1 then (R.s sc body b.2).bind fun f => match f.1 with
  | .next => znr R sc test body n f.2
  | .ret v => some (.ret v, f.2)
  else some (.next, b.2)
noncomputable def zb5 (sc : Scope) (x : Str) (k : Int) (v : V) (σ : St) : Option St :=
 (σ.get sc x).bind fun o => onO o fun vs => if 0 ≤ k ∧ k < 2 ^ 62 ∧ k < vs.length then σ.set sc x (.o (vs.set k.toNat v)) else none
noncomputable def zci (sc : Scope) (x : Str) (k j : Int) (v : V) (σ : St) : Option St :=
 (σ.get sc x).bind fun o => onO o fun vs => if 0 ≤ k ∧ k < 2 ^ 62 then (vs[k.toNat]?).bind fun u => onO u fun us =>
   if 0 ≤ j ∧ j < 2 ^ 62 ∧ j < us.length then σ.set sc x (.o (vs.set k.toNat (.o (us.set j.toNat v)))) else none
   else none
noncomputable def pI (R : Rec) (sc : Scope) (e : Expr) (σ : St) : Option Int := if R.q e then (R.p sc e σ).bind V.int else none
noncomputable def zvQ (R : Rec) (sc : Scope) (a : Str) (i j i' j' : Expr) (σ : St) : Option St := (pI R sc i { σ with r := upd a none σ.r }).bind fun i => (pI R sc j { σ with r := upd a none σ.r }).bind fun j => (pI R sc i' σ).bind fun i' => (pI R sc j' σ).bind fun j' =>
 (σ.get sc a).bind fun o => onO o fun vs => if 0 ≤ i ∧ i < vs.length ∧ 0 ≤ j ∧ j < vs.length ∧ i' = j ∧ j' = i ∧ zaI vs.length then
   (vs[i.toNat]?).bind fun x => (vs[j.toNat]?).bind fun y => σ.set sc a (.o ((vs.set i.toNat y).set j.toNat x)) else none
noncomputable def zrH (C : Cfg) (R : Rec) (sc : Scope) (elts vals : List Expr) (σ : St) : Option St := match zbY elts with
 | some xs => (evs R sc vals σ).bind fun v => if zaI v.1.length && decide xs.Nodup && (decide (vals.length ≠ 2 ∧ vals.length ≠ 3) || !(vals.all (constantsAlone 8))) then zhQ C sc xs v.1 v.2 else none
 | none => duo elts fun e1 e2 => duo vals fun v1 v2 => zlw e1 fun o1 i => zdE o1 fun a => zlw e2 fun o2 j => zdE o2 fun b => zlw v1 fun o3 i' => zdE o3 fun c => zlw v2 fun o4 j' => zdE o4 fun d =>
  if a = b ∧ b = c ∧ c = d ∧ (a == "__debug__") = false ∧ sc.names.lookup a = some .local then zvQ R sc a i j i' j' σ else none
noncomputable def asgIx (R : Rec) (sc : Scope) (x : Str) (i value : Expr) (σ : St) : Option St := if x == "__debug__" then none else (R.e sc value σ).bind fun v => (R.p sc i v.2).bind fun k => k.int.bind fun k => zb5 sc x k v.1 v.2
noncomputable def asgXX (R : Rec) (sc : Scope) (x : Str) (j i value : Expr) (σ : St) : Option St := if x == "__debug__" || !R.q j then none else (R.e sc value σ).bind fun v => (R.p sc j v.2).bind fun j => j.int.bind fun j => (R.p sc i v.2).bind fun k => k.int.bind fun k =>
 onF v.1 fun d => zci sc x j k (.f d) v.2
noncomputable def asgK (C : Cfg) (R : Rec) (sc : Scope) (value : Expr) (σ : St) : K → Option St
 | .n x => (R.e sc value σ).bind fun v => v.2.put C sc x v.1
 | .tup elts => zrF value fun vals => zrH C R sc elts vals σ
 | .sub o i => if R.q i then match zeg o with
  | some x => asgIx R sc x i value σ
  | none => zlw o fun o' j => zdE o' fun x => asgXX R sc x j i value σ
  else none
 | .sli _ _ _ => none
 | .call _ _ => none
 | .c _ => none
 | .bin _ _ _ => none
 | .un _ _ => none
 | .cmp _ _ _ => none
 | .boo _ _ => none
 | .ife _ _ _ => none
 | .lst _ => none
 | .comp _ _ _ => none
 | .no => none
noncomputable def zrq (C : Cfg) (R : Rec) (sc : Scope) (target value : Expr) (σ : St) : Option St := asgK C R sc value σ (kind target)
noncomputable def augN (C : Cfg) (R : Rec) (sc : Scope) (x : Str) (op : Operator) (value : Expr) (σ : St) : Option St := if x == "__debug__" then none else (σ.get sc x).bind fun a => a.int.bind fun a => (evI R sc value σ).bind fun b => (zbh op a b.1).bind fun c => b.2.put C sc x (.f (.int c))
noncomputable def augX (R : Rec) (sc : Scope) (x : Str) (i : Expr) (op : Operator) (value : Expr) (σ : St) : Option St := if R.q i && R.q value then (pI R sc i σ).bind fun k => (σ.get sc x).bind fun o => onO o fun vs => if x == "__debug__" then none else (idx vs k).bind fun a => a.int.bind fun a => (pI R sc value σ).bind fun b => (zbh op a b).bind fun c => zb5 sc x k (.f (.int c)) σ
 else none
noncomputable def augS (C : Cfg) (R : Rec) (sc : Scope) (target : Expr) (op : Operator) (value : Expr) (σ : St) : Option St :=
 if op = .Add ∨ op = .Sub then match zeg target with
  | some x => augN C R sc x op value σ
  | none => zlw target fun o i => zdE o fun x => augX R sc x i op value σ
 else none
noncomputable def appS (R : Rec) (sc : Scope) (x attr : Str) (elt : Expr) (apos cpos : Pos) (σ : St) : Option (Fl × St) := if attr = "append" ∧ (x == "__debug__") = false ∧ (apos.endLine == cpos.line) = true ∧ sc.names.lookup x = some .local then (σ.get sc x).bind fun v => onO v fun _ =>
 (R.e sc elt σ).bind fun y => (y.2.get sc x).bind fun u => onO u fun vs => if zaI vs.length then (y.2.set sc x (.o (vs ++ [y.1]))).map fun σ => (.next, σ) else none
 else none
noncomputable def atOf : Expr → Option (Expr × Str × Pos)
 | .Attribute o a p => some (o, a, p)
 | .Constant _ _ _ => none
 | .Name _ _ => none
 | .BinOp _ _ _ _ => none
 | .UnaryOp _ _ _ => none
 | .Subscript _ _ _ => none
 | .Slice _ _ _ _ => none
 | .Call _ _ _ _ => none
 | .Compare _ _ _ _ => none
 | .BoolOp _ _ _ => none
 | .IfExp _ _ _ _ => none
 | .List _ _ => none
 | .Tuple _ _ _ => none
 | .ListComp _ _ _ _ => none
 | .NamedExpr _ _ _ => none
 | .Lambda _ _ _ _ => none
 | .Dict _ _ _ => none
 | .Set _ _ _ => none
 | .SetComp _ _ _ _ => none
 | .DictComp _ _ _ _ _ => none
 | .GeneratorExp _ _ _ _ => none
 | .Await _ _ => none
 | .Yield _ _ => none
 | .YieldFrom _ _ => none
 | .FormattedValue _ _ _ _ => none
 | .JoinedStr _ _ => none
 | .Starred _ _ => none
noncomputable def caOf : Expr → Option (Expr × List Expr × List Keyword × Pos)
 | .Call f a k p => some (f, a, k, p)
 | .Attribute _ _ _ => none
 | .Constant _ _ _ => none
 | .Name _ _ => none
 | .BinOp _ _ _ _ => none
 | .UnaryOp _ _ _ => none
 | .Subscript _ _ _ => none
 | .Slice _ _ _ _ => none
 | .Compare _ _ _ _ => none
 | .BoolOp _ _ _ => none
 | .IfExp _ _ _ _ => none
 | .List _ _ => none
 | .Tuple _ _ _ => none
 | .ListComp _ _ _ _ => none
 | .NamedExpr _ _ _ => none
 | .Lambda _ _ _ _ => none
 | .Dict _ _ _ => none
 | .Set _ _ _ => none
 | .SetComp _ _ _ _ => none
 | .DictComp _ _ _ _ _ => none
 | .GeneratorExp _ _ _ _ => none
 | .Await _ _ => none
 | .Yield _ _ => none
 | .YieldFrom _ _ => none
 | .FormattedValue _ _ _ _ => none
 | .JoinedStr _ _ => none
 | .Starred _ _ => none
theorem atOf_e {e : Expr} {x : Expr × Str × Pos} (h : atOf e = some x) : e = .Attribute x.1 x.2.1 x.2.2 := by
 cases e
 case Attribute => rw [← Option.some.inj h]
 all_goals exact zaM h
theorem caOf_e {e : Expr} {x : Expr × List Expr × List Keyword × Pos} (h : caOf e = some x) : e = .Call x.1 x.2.1 x.2.2.1 x.2.2.2 := by
 cases e
 case Call => rw [← Option.some.inj h]
 all_goals exact zaM h
noncomputable def zvR (C : Cfg) (R : Rec) (sc : Scope) (e : Expr) (σ : St) : Option (Fl × St) := match zly (kind e) with
 | some c => (zfp C R sc c.1 c.2 σ).bind fun v => onF v.1 fun d => if isN d then some (.next, v.2) else none
 | none => (caOf e).bind fun c => if c.2.2.1.isEmpty then (atOf c.1).bind fun a => zdE a.1 fun x => zno c.2.1 fun elt => appS R sc x a.2.1 elt a.2.2 c.2.2.2 σ else none
inductive KS where
 | asg (t v : Expr)
 | aug (t : Expr) (op : Operator) (v : Expr)
 | for_ (t i : Expr) (b : List Stmt)
 | whl (t : Expr) (b : List Stmt)
 | if_ (t : Expr) (b o : List Stmt)
 | ret (e : Expr)
 | ex (e : Expr)
 | no
noncomputable def ztX : Stmt → KS
 | .Assign ts v _ => (zno ts fun t => some (.asg t v)).getD .no
 | .AugAssign t op v _ => .aug t op v
 | .For t i b o _ => if o.isEmpty then .for_ t i b else .no
 | .While t b o _ => if o.isEmpty then .whl t b else .no
 | .If t b o _ => .if_ t b o
 | .Return v _ => v.elim .no .ret
 | .Expr e _ => .ex e
 | .FunctionDef .. => .no
 | .AsyncFunctionDef .. => .no
 | .ClassDef .. => .no
 | .Delete .. => .no
 | .TypeAlias .. => .no
 | .AnnAssign .. => .no
 | .AsyncFor .. => .no
 | .With .. => .no
 | .AsyncWith .. => .no
 | .Match .. => .no
 | .Raise .. => .no
 | .Try .. => .no
 | .TryStar .. => .no
 | .Assert .. => .no
 | .Import .. => .no
 | .ImportFrom .. => .no
 | .Global .. => .no
 | .Nonlocal .. => .no
 | .Pass .. => .no
 | .Break .. => .no
 | .Continue .. => .no
inductive KSR : Stmt → KS → Prop
 | asg (t v p) : KSR (.Assign [t] v p) (.asg t v)
 | aug (t op v p) : KSR (.AugAssign t op v p) (.aug t op v)
 | for_ (t i b p) : KSR (.For t i b [] p) (.for_ t i b)
 | whl (t b p) : KSR (.While t b [] p) (.whl t b)
 | if_ (t b o p) : KSR (.If t b o p) (.if_ t b o)
 | ret (e p) : KSR (.Return (some e) p) (.ret e)
 | ex (e p) : KSR (.Expr e p) (.ex e)
 | no (st) : KSR st .no
theorem ksr (st : Stmt) : KSR st (ztX st) := by
 cases st
 case Assign ts v p =>
  cases ts with
  | nil => exact .no _
  | cons t r => cases r with
   | nil => exact .asg _ _ _
   | cons => exact .no _
 case For t i b o p => cases o <;> constructor
 case While t b o p => cases o <;> constructor
 case Return v p => cases v <;> constructor
 all_goals constructor
noncomputable def sK (C : Cfg) (R : Rec) (sc : Scope) (σ : St) : KS → Option (Fl × St)
 | .asg t value => (zrq C R sc t value σ).map fun σ => (.next, σ)
 | .aug target op value => (augS C R sc target op value σ).map fun σ => (.next, σ)
 | .for_ target iter body => (zb2 R sc iter σ).bind fun it => zjJ C R sc it.1.2 target body it.1.1 it.2
 | .whl test body => znr R sc test body C.W σ
 | .if_ test body orelse => (R.t sc test σ).bind fun b => if b.1 then R.s sc body b.2 else R.s sc orelse b.2
 | .ret e => (evF R sc e σ).map fun d => (.ret d.1, d.2)
 | .ex e => zvR C R sc e σ
 | .no => none
noncomputable def zbG (C : Cfg) (R : Rec) (sc : Scope) (st : Stmt) (σ : St) : Option (Fl × St) := sK C R sc σ (ztX st)
noncomputable def za6 (C : Cfg) (R : Rec) (sc : Scope) : List Stmt → St → Option (Fl × St)
 | [], σ => some (.next, σ)
 | st :: rest, σ => (zbG C R sc st σ).bind fun f => match f.1 with
  | .next => za6 C R sc rest f.2
  | .ret v => some (.ret v, f.2)
noncomputable def step (C : Cfg) (R : Rec) : Rec := ⟨zvL R, zvK R, zdM C R, zvM R, za6 C R⟩
noncomputable def sem (C : Cfg) : Nat → Rec
 | 0 => ⟨fun _ _ _ => none, fun _ => false, fun _ _ _ => none, fun _ _ _ => none, fun _ _ _ => none⟩
 | n + 1 => step C (sem C n)
noncomputable def zds (names : List (Str × NameKind)) (kd : NameKind) (args : List (Str × V)) : zbt := (names.filter fun x => x.2 == kd).map fun x => (x.1, args.lookup x.1)
noncomputable def run (C : Cfg) (n : Nat) (d : DefRec) (args : List V) : Option (D × St) :=
 let ps := d.params.args.map (·.arg)
 let z := ps.zip args
 ((sem C n).s d.scope d.body ⟨zds d.scope.names .local z, zds d.scope.names .cell z⟩).map fun f => match f.1 with
   | .ret v => (v, f.2)
   | .next => (.none, f.2)
noncomputable abbrev Own := List (Addr × Obj)
noncomputable abbrev Fz := List (Value × D)
noncomputable def Sb (a b : Fz) : Prop := ∀ p ∈ a, p ∈ b
theorem Sb.refl (a : Fz) : Sb a a := fun _ h => h
theorem Sb.trans {a b c : Fz} (x : Sb a b) (y : Sb b c) : Sb a c := fun p h => y p (x p h)
theorem Sb.cons (p) (a : Fz) : Sb a (p :: a) := fun _ h => .tail _ h
theorem Sb.app (a b : Fz) : Sb b (a ++ b) := fun _ h => List.mem_append_right _ h
open Classical in
noncomputable def cnt (p : Addr × Obj) (l : Own) : Nat := l.countP fun q => decide (q = p)
theorem zai {p} : cnt p [] = 0 := rfl
theorem zaa {p} {a b : Own} : cnt p (a ++ b) = cnt p a + cnt p b := by unfold cnt; exact List.countP_append
noncomputable def one (p q : Addr × Obj) : Nat := cnt p [q]
theorem zac {p q} {a : Own} : cnt p (q :: a) = one p q + cnt p a := by unfold one; rw [← zaa]; rfl
theorem zdN {p} : one p p = 1 := by unfold one cnt; simp
theorem one_ne {p q} (h : q ≠ p) : one p q = 0 := by unfold one cnt; simp [h]
theorem zb7 {p} {a : Own} : 0 < cnt p a ↔ p ∈ a := by
 unfold cnt
 rw [List.countP_pos_iff]
 simp
theorem zpV {a : Own} (h : a.Nodup) (p) : cnt p a ≤ 1 := by
 induction a with
 | nil => simp [zai]
 | cons q r ih =>
  rw [List.nodup_cons] at h
  rw [zac]
  by_cases e : q = p
  · subst e
    have : cnt q r = 0 := by
     cases Nat.eq_zero_or_pos (cnt q r) with
     | inl z => exact z
     | inr z => exact absurd (zb7.mp z) h.1
    rw [zdN]
    exact yjv this
  · rw [one_ne e]
    have := ih h.2
    exact yju this
noncomputable def Lo (a b : Own) : Prop := ∀ p, cnt p a ≤ cnt p b
theorem Lo.refl (a : Own) : Lo a a := fun _ => Nat.le_refl _
theorem Lo.trans {a b c : Own} (x : Lo a b) (y : Lo b c) : Lo a c := fun p => Nat.le_trans (x p) (y p)
theorem zhI {a : Own} (h : (a.map (·.1)).Nodup) : ∀ {x y}, x ∈ a → y ∈ a → x.1 = y.1 → x = y := by
 induction a with
 | nil => intro x y hx; cases hx
 | cons q r ih =>
  rw [List.map_cons, List.nodup_cons] at h
  intro x y hx hy e
  rcases List.mem_cons.mp hx with q1 | hx1 <;> rcases List.mem_cons.mp hy with q2 | hy1
  · rw [q1, q2]
  · exact absurd (List.mem_map.mpr ⟨y, hy1, by rw [← e, q1]⟩) h.1
  · exact absurd (List.mem_map.mpr ⟨x, hx1, by rw [e, q2]⟩) h.1
  · exact ih h.2 hx1 hy1 e
theorem zlz {a : Own} (h : (a.map (·.1)).Nodup) : a.Nodup := by
 induction a with
 | nil => exact List.Pairwise.nil
 | cons q r ih =>
  rw [List.map_cons, List.nodup_cons] at h
  exact List.nodup_cons.mpr ⟨fun hq => h.1 (List.mem_map.mpr ⟨q, hq, rfl⟩), ih h.2⟩
theorem Lo.mem {a b : Own} (h : Lo a b) {p} (hp : p ∈ a) : p ∈ b := zb7.mp (Nat.lt_of_lt_of_le (zb7.mpr hp) (h p))
theorem Lo.nodup {b : Own} (hb : (b.map (·.1)).Nodup) : ∀ {a : Own}, Lo a b → (a.map (·.1)).Nodup
 | [], _ => List.Pairwise.nil
 | q :: r, h => by
  rw [List.map_cons, List.nodup_cons]
  refine ⟨fun hq => ?_, Lo.nodup hb (Lo.trans (fun p => by rw [zac]; exact yh5) h)⟩
  obtain ⟨x, hx, e⟩ := List.mem_map.mp hq
  have : x = q := zhI hb (h.mem (.tail _ hx)) (h.mem (.head _)) e
  subst this
  have h1 := h x
  rw [zac] at h1
  have h2 : 0 < cnt x r := zb7.mpr hx
  rw [zdN] at h1
  have := zpV (zlz hb) x
  exact yjt h1 h2 this
section
variable {mg : Str → Option Value} {mb : Bx} {L : Addr} {l l' : List (Str × Value)} {own own' : Own} {fz fz' : Fz} {h h' : Heap}
theorem At.weak (H : At mg mb L l own fz h) (hl : ∀ p ∈ l', p ∈ l) (ho : Lo own' own) (hf : Sb fz' fz) : At mg mb L l' own' fz' h := by
 obtain ⟨g, c, k, gL, ⟨m, hm, km⟩, ow, nd, r⟩ := H
 exact ⟨g, c, k, gL, ⟨m, hm, fun p hp => km p (hl p hp)⟩, fun p hp => ow p (ho.mem hp), Lo.nodup nd ho, fun p hp => r p (hf p hp)⟩
theorem At.lo (H : At mg mb L l own fz h) (ho : Lo own' own) : At mg mb L l own' fz h := H.weak (fun _ x => x) ho (Sb.refl _)
end
mutual
noncomputable def VR (fz : Fz) : V → Value → Own → Prop
 | .f d, v, X => Kn fz v d ∧ X = []
 | .o Vs, v, X => ∃ a vs n Y, v = .ref a ∧ X = (a, listOf (List.toArray vs) n) :: Y ∧ VRL fz Vs vs Y
noncomputable def VRL (fz : Fz) : List V → List Value → Own → Prop
 | [], vs, X => vs = [] ∧ X = []
 | W :: Ws, vs, X => ∃ v r Y Z, vs = v :: r ∧ X = Y ++ Z ∧ VR fz W v Y ∧ VRL fz Ws r Z
end
mutual
theorem VR.sub {fz fz' : Fz} (k : Sb fz fz') : ∀ (W : V) {v X}, VR fz W v X → VR fz' W v X
 | .f d, v, X, h => ⟨h.1.sub k, h.2⟩
 | .o Vs, v, X, h => by
  obtain ⟨a, vs, n, Y, e, q, h⟩ := h
  exact ⟨a, vs, n, Y, e, q, VRL.sub k Vs h⟩
theorem VRL.sub {fz fz' : Fz} (k : Sb fz fz') : ∀ (Ws : List V) {vs X}, VRL fz Ws vs X → VRL fz' Ws vs X
 | [], _, _, h => h
 | W :: Ws, _, _, h => by
  obtain ⟨v, r, Y, Z, e, q, a, b⟩ := h
  exact ⟨v, r, Y, Z, e, q, VR.sub k W a, VRL.sub k Ws b⟩
end
theorem VR.of {fz : Fz} {v : Value} {d : D} (h : Kn fz v d) : VR fz (.f d) v [] := ⟨h, rfl⟩
theorem VRL.length {fz : Fz} {Ws : List V} : ∀ {vs X}, VRL fz Ws vs X → vs.length = Ws.length := by
 induction Ws with
 | nil => intro vs X h; rw [h.1]; rfl
 | cons W Ws ih =>
  intro vs X h
  obtain ⟨v, r, Y, Z, e, q, a, b⟩ := h
  rw [e, List.length_cons, List.length_cons, ih b]
theorem VRL.ofKn {fz : Fz} {ds : List D} : ∀ {vs}, KnL fz vs ds → VRL fz (ds.map .f) vs [] := by
 induction ds with
 | nil => intro vs h; cases h; exact ⟨rfl, rfl⟩
 | cons d ds ih => intro vs h; cases h with | cons a b => exact ⟨_, _, [], [], rfl, rfl, VR.of a, ih b⟩
theorem VRL.app {fz : Fz} {Ws Us : List V} {vs us X Y} (h : VRL fz Ws vs X) (k : VRL fz Us us Y) : VRL fz (Ws ++ Us) (vs ++ us) (X ++ Y) := by
 induction Ws generalizing vs X with
 | nil => obtain ⟨rfl, rfl⟩ := h; exact k
 | cons W Ws ih =>
  obtain ⟨v, r, Y, Z, e, q, a, b⟩ := h
  subst e; subst q
  exact ⟨v, _, Y, _, rfl, List.append_assoc _ _ _, a, ih b⟩
theorem VRL.single {fz : Fz} {W : V} {v X} (h : VR fz W v X) : VRL fz [W] [v] X := ⟨v, [], X, [], rfl, by simp, h, rfl, rfl⟩
section
variable {mg : Str → Option Value} {mb : Bx} {L : Addr} {l l' : List (Str × Value)} {own own' : Own} {fz fz' : Fz} {h h' : Heap}
mutual
theorem VR.freeze : ∀ (W : V) {v X R fz}, VR fz W v X → At mg mb L l (X ++ R) fz h → ∃ fz', Sb fz fz' ∧ Kn fz' v W.frz ∧ At mg mb L l R fz' h
 | .f d, v, X, R, fz, hv, H => ⟨fz, Sb.refl _, hv.1, by obtain ⟨_, rfl⟩ := hv; exact H⟩
 | .o Vs, v, X, R, fz, hv, H => by
  obtain ⟨a, vs, n, Y, e, q, hh⟩ := hv
  subst e; subst q
  obtain ⟨fz', s, k, H'⟩ := VRL.freeze Vs (R := (a, listOf (List.toArray vs) n) :: R) hh (H.lo (by (intro p_; simp only [zaa, zac, zai]; exact yiW)))
  exact ⟨_, s.trans (Sb.cons _ _), .mem (.head _), H'.freeze .hd k⟩
theorem VRL.freeze : ∀ (Ws : List V) {vs X R fz}, VRL fz Ws vs X → At mg mb L l (X ++ R) fz h → ∃ fz', Sb fz fz' ∧ KnL fz' vs (V.frzL Ws) ∧ At mg mb L l R fz' h
 | [], _, _, R, fz, hv, H => by obtain ⟨rfl, rfl⟩ := hv; exact ⟨fz, Sb.refl _, .nil, H⟩
 | W :: Ws, _, _, R, fz, hv, H => by
  obtain ⟨v, r, Y, Z, e, q, a, b⟩ := hv
  subst e; subst q
  obtain ⟨f1, s1, k1, H1⟩ := VR.freeze W a (R := Z ++ R) (H.lo (by (intro p_; simp only [zaa, zac, zai]; exact yiP)))
  obtain ⟨f2, s2, k2, H2⟩ := VRL.freeze Ws (VRL.sub s1 _ b) H1
  exact ⟨f2, s1.trans s2, .cons (k1.sub s2) k2, H2⟩
end
end
inductive SR (l : List (Str × Value)) (fz : Fz) : zbt → Own → Prop
 | nil : SR l fz [] []
 | no {x ρ Y} (t : SR l fz ρ Y) : SR l fz ((x, none) :: ρ) Y
 | so {x v W X ρ Y} (m : (x, v) ∈ l) (h : VR fz W v X) (t : SR l fz ρ Y) : SR l fz ((x, some W) :: ρ) (X ++ Y)
inductive CR (fz : Fz) : List (Str × Addr) → zbt → Own → Prop
 | nil : CR fz [] [] []
 | no {x c o cm ρ Y} (h : o.data = .cell none) (t : CR fz cm ρ Y) : CR fz ((x, c) :: cm) ((x, none) :: ρ) ((c, o) :: Y)
 | so {x c o v W X cm ρ Y} (e : o.data = .cell (some v)) (h : VR fz W v X) (t : CR fz cm ρ Y) : CR fz ((x, c) :: cm) ((x, some W) :: ρ) ((c, o) :: (X ++ Y))
theorem SR.sub {l fz fz' ρ Y} (k : Sb fz fz') (h : SR l fz ρ Y) : SR l fz' ρ Y := by
 induction h with
 | nil => exact .nil
 | no _ ih => exact .no ih
 | so m h _ ih => exact .so m (VR.sub k _ h) ih
theorem CR.sub {fz fz' cm ρ Y} (k : Sb fz fz') (h : CR fz cm ρ Y) : CR fz' cm ρ Y := by
 induction h with
 | nil => exact .nil
 | no e _ ih => exact .no e ih
 | so e h _ ih => exact .so e (VR.sub k _ h) ih
theorem slot_nil {x} : zfu x [] = none := rfl
theorem zlA {x y u r} : zfu x ((y, u) :: r) = if x = y then u else zfu x r := by
 unfold zfu
 rw [List.lookup_cons]
 by_cases e : x = y
 · subst e; simp
 · have : (x == y) = false := by simpa using e
   simp [e, this]
theorem zvS {x} : has x [] = false := rfl
theorem zcj {x y u r} : has x ((y, u) :: r) = (x = y || has x r) := by
 unfold has
 rw [List.lookup_cons]
 by_cases e : x = y
 · subst e; simp
 · have : (x == y) = false := by simpa using e
   simp [e, this]
theorem zgH {x v u} {ρ : zbt} : upd x v ((x, u) :: ρ) = (x, v) :: ρ := if_pos rfl
theorem ze3 {x y v u} {ρ : zbt} (h : x ≠ y) : upd x v ((y, u) :: ρ) = (y, u) :: upd x v ρ := if_neg (Ne.symm h)
theorem zkw {x u} {ρ : zbt} : zfu x ((x, u) :: ρ) = u := zlA.trans (if_pos rfl)
theorem zh7 {x y u} {ρ : zbt} (h : x ≠ y) : zfu x ((y, u) :: ρ) = zfu x ρ := zlA.trans (if_neg h)
theorem zpf {x y u} {ρ : zbt} (h : x ≠ y) : has x ((y, u) :: ρ) = has x ρ := by rw [zcj, decide_eq_false h, Bool.false_or]
theorem zf8 {x v} {ρ : zbt} : (upd x v ρ).map (·.1) = ρ.map (·.1) := by
 induction ρ with
 | nil => rfl
 | cons p r ih =>
  obtain ⟨y, u⟩ := p
  by_cases e : x = y
  · subst e; rw [zgH]; rfl
  · rw [ze3 e, List.map_cons, ih]; rfl
theorem zrI {x} {ρ : zbt} : has x ρ = true ↔ x ∈ ρ.map (·.1) := by
 induction ρ with
 | nil => simp [zvS]
 | cons p r ih =>
  obtain ⟨y, u⟩ := p
  rw [zcj, Bool.or_eq_true, decide_eq_true_eq, ih, List.map_cons, List.mem_cons]
inductive SRrm (l : List (Str × Value)) (fz : Fz) (ρ : zbt) (Y : Own) (x : Str) (W : V) : Prop
 | mk (v : Value) (X Y' : Own) (m : (x, v) ∈ l) (k : VR fz W v X) (c : ∀ p, cnt p Y = cnt p X + cnt p Y') (r : SR l fz (upd x none ρ) Y')
  (back : ∀ fz' W' X', Sb fz fz' → VR fz' W' v X' → ∃ Y'', SR l fz' (upd x (some W') ρ) Y'' ∧ ∀ p, cnt p Y'' = cnt p X' + cnt p Y') : SRrm l fz ρ Y x W
theorem SRrm.cons {l fz ρ Y x W y u} {B : Own} (h : SRrm l fz ρ Y x W) (q : x ≠ y) (mono : ∀ {fz' ρ' Y'}, Sb fz fz' → SR l fz' ρ' Y' → SR l fz' ((y, u) :: ρ') (B ++ Y')) : SRrm l fz ((y, u) :: ρ) (B ++ Y) x W := by
 cases h with | mk v X Y' a b c m d =>
 refine ⟨v, X, B ++ Y', a, b, fun p => by rw [zaa, zaa, c p]; exact yjs, by rw [ze3 q]; exact mono (Sb.refl _) m, fun fz' W' X' s k => ?_⟩
 obtain ⟨Y'', f, g⟩ := d fz' W' X' s k
 exact ⟨B ++ Y'', by rw [ze3 q]; exact mono s f, fun p => by rw [zaa, zaa, g p]; exact yjs⟩
theorem SR.rm {l fz ρ Y} (h : SR l fz ρ Y) {x W} : zfu x ρ = some W → SRrm l fz ρ Y x W := by
 induction h with
 | nil => exact fun e => by cases e
 | @no y ρ Y t ih =>
  intro e
  by_cases q : x = y
  · subst q; rw [zkw] at e; cases e
  · exact (ih (by rwa [zh7 q] at e)).cons (B := []) q fun s t => .no t
 | @so y v W' X ρ Y m h t ih =>
  intro e
  by_cases q : x = y
  · subst q
    rw [zkw] at e
    cases e
    exact ⟨v, X, Y, m, h, fun p => zaa, by rw [zgH]; exact .no t, fun fz' W' X' s k => ⟨X' ++ Y, by rw [zgH]; exact .so m k (t.sub s), fun p => zaa⟩⟩
  · exact (ih (by rwa [zh7 q] at e)).cons q fun s t => .so m (VR.sub s _ h) t
theorem SR.get {l fz ρ Y} (h : SR l fz ρ Y) {x W} (e : zfu x ρ = some W) : ∃ v X, (x, v) ∈ l ∧ VR fz W v X ∧ ∀ p ∈ X, p ∈ Y := by
 cases h.rm e with | mk v X Y' m k c =>
 exact ⟨v, X, m, k, fun p hp => zb7.mp (by have := c p; have := zb7.mpr hp; exact yjr ‹_› this)⟩
theorem SR.put {l fz ρ Y} (h : SR l fz ρ Y) {x : Str} (nd : (ρ.map (·.1)).Nodup) {l'} (hl : ∀ p ∈ l, p.1 ≠ x → p ∈ l') {fz'} (s : Sb fz fz') {v W' X'} (m : (x, v) ∈ l') (k : VR fz' W' v X') :
 ∃ Y'', SR l' fz' (upd x (some W') ρ) Y'' ∧ ∀ p, cnt p Y'' ≤ cnt p X' + cnt p Y := by
 have keep : ∀ {ρ Y}, SR l fz ρ Y → x ∉ ρ.map (·.1) → SR l' fz' ρ Y := fun h => by
  induction h with
  | nil => intro _; exact .nil
  | no _ ih => intro q; rw [List.map_cons, List.mem_cons, not_or] at q; exact .no (ih q.2)
  | so m h _ ih => intro q; rw [List.map_cons, List.mem_cons, not_or] at q; exact .so (hl _ m (Ne.symm q.1)) (VR.sub s _ h) (ih q.2)
 induction h with
 | nil => exact ⟨[], .nil, fun p => Nat.zero_le _⟩
 | @no y ρ Y t ih =>
  rw [List.map_cons, List.nodup_cons] at nd
  by_cases q : x = y
  · subst q
    exact ⟨X' ++ Y, by rw [zgH]; exact .so m k (keep t nd.1), fun p => by rw [zaa]; exact Nat.le_refl _⟩
  · obtain ⟨Y'', f, g⟩ := ih nd.2
    exact ⟨Y'', by rw [ze3 q]; exact .no f, g⟩
 | @so y u W X ρ Y m' h t ih =>
  rw [List.map_cons, List.nodup_cons] at nd
  by_cases q : x = y
  · subst q
    exact ⟨X' ++ Y, by rw [zgH]; exact .so m k (keep t nd.1), fun p => by rw [zaa, zaa]; exact yjq⟩
  · obtain ⟨Y'', f, g⟩ := ih nd.2
    exact ⟨X ++ Y'', by rw [ze3 q]; exact .so (hl _ m' (Ne.symm q)) (VR.sub s _ h) f, fun p => by have := g p; rw [zaa, zaa]; exact yjp this⟩
inductive CV (fz : Fz) : Option V → Option Value → Own → Prop
 | no : CV fz none none []
 | so {W v X} (k : VR fz W v X) : CV fz (some W) (some v) X
inductive CRat (fz : Fz) (cm : List (Str × Addr)) (ρ : zbt) (Y : Own) (x : Str) : Prop
 | mk (c : Addr) (o : Obj) (u : Option Value) (X Y' : Own) (hc : cm.lookup x = some c) (d : o.data = .cell u) (k : CV fz (zfu x ρ) u X) (cn : ∀ p, cnt p Y = cnt p [(c, o)] + cnt p X + cnt p Y')
  (back : ∀ fz' v W' X' o', Sb fz fz' → o'.data = .cell (some v) → VR fz' W' v X' → ∃ Y'', CR fz' cm (upd x (some W') ρ) Y'' ∧ ∀ p, cnt p Y'' = cnt p [(c, o')] + cnt p X' + cnt p Y') : CRat fz cm ρ Y x
theorem CRat.cons {fz cm ρ Y x y u} {c : Addr} {B : Own} (h : CRat fz cm ρ Y x) (q : x ≠ y) (mono : ∀ {fz' ρ' Y'}, Sb fz fz' → CR fz' cm ρ' Y' → CR fz' ((y, c) :: cm) ((y, u) :: ρ') (B ++ Y')) : CRat fz ((y, c) :: cm) ((y, u) :: ρ) (B ++ Y) x := by
 cases h with | mk c' o' v X Y' a b k c1 d1 =>
 refine ⟨c', o', v, X, B ++ Y', by rw [List.lookup_cons, beq_false_of_ne q]; exact a, b, by rw [zh7 q]; exact k, fun p => by rw [zaa, zaa, c1 p]; exact yjo, fun fz' v W' X' o s e k => ?_⟩
 obtain ⟨Y'', f, g⟩ := d1 fz' v W' X' o s e k
 exact ⟨B ++ Y'', by rw [ze3 q]; exact mono s f, fun p => by rw [zaa, zaa, g p]; exact yjo⟩
theorem CR.at {fz cm ρ Y} (h : CR fz cm ρ Y) {x : Str} : has x ρ = true → CRat fz cm ρ Y x := by
 have hit : ∀ {c : Addr} {o : Obj} {u : Option V} {v : Option Value} {X : Own} {cm ρ Y}, o.data = .cell v → CV fz u v X → CR fz cm ρ Y → CRat fz ((x, c) :: cm) ((x, u) :: ρ) ((c, o) :: (X ++ Y)) x := fun {c o u v X cm ρ Y} d k t =>
  ⟨c, o, v, X, Y, by rw [List.lookup_cons, beq_self_eq_true], d, by rw [zkw]; exact k, fun p => by rw [zac, zaa, ← Nat.add_assoc]; rfl, fun fz' v W' X' o' s e k => ⟨(c, o') :: (X' ++ Y), by rw [zgH]; exact .so e k (t.sub s), fun p => by rw [zac, zaa, ← Nat.add_assoc]; rfl⟩⟩
 induction h with
 | nil => exact fun e => by cases e
 | @no y c o cm ρ Y d t ih =>
  intro e
  by_cases q : x = y
  · subst q; exact hit (X := []) d .no t
  · exact (ih (by rwa [zpf q] at e)).cons (B := [(c, o)]) q fun s t => .no d t
 | @so y c o v W X cm ρ Y d h t ih =>
  intro e
  by_cases q : x = y
  · subst q; exact hit d (.so h) t
  · exact (ih (by rwa [zpf q] at e)).cons (B := (c, o) :: X) q fun s t => .so d (VR.sub s _ h) t
theorem zhR {x : Str} {ρ : zbt} {W : V} (e : zfu x ρ = some W) : has x ρ = true := by
 unfold zfu at e
 unfold has
 cases q : List.lookup x ρ with
 | none => rw [q] at e; cases e
 | some u => rfl
inductive CRtake (fz : Fz) (cm : List (Str × Addr)) (ρ : zbt) (Y : Own) (x : Str) (W : V) : Prop
 | mk (c : Addr) (o : Obj) (v : Value) (X Y' : Own) (hc : cm.lookup x = some c) (d : o.data = .cell (some v)) (k : VR fz W v X) (cn : ∀ p, cnt p Y = cnt p [(c, o)] + cnt p X + cnt p Y')
  (back : ∀ fz' W' X', Sb fz fz' → VR fz' W' v X' → ∃ Y'', CR fz' cm (upd x (some W') ρ) Y'' ∧ ∀ p, cnt p Y'' = cnt p [(c, o)] + cnt p X' + cnt p Y') : CRtake fz cm ρ Y x W
theorem CR.take {fz cm ρ Y} (h : CR fz cm ρ Y) {x W} (e : zfu x ρ = some W) : CRtake fz cm ρ Y x W := by
 cases h.at (zhR e) with | mk c o u X Y' hc d k cn back =>
 rw [e] at k
 cases k with | so k => exact ⟨c, o, _, X, Y', hc, d, k, cn, fun fz' W' X' s k => back fz' _ W' X' o s d k⟩
theorem CR.get {fz cm ρ Y} (h : CR fz cm ρ Y) {x W} (e : zfu x ρ = some W) : ∃ c o v X, cm.lookup x = some c ∧ (c, o) ∈ Y ∧ o.data = .cell (some v) ∧ VR fz W v X ∧ ∀ p ∈ X, p ∈ Y := by
 cases h.take e with | mk c o v X Y' hc d k cn back =>
 exact ⟨c, o, v, X, hc, zb7.mp (by have := cn (c, o); rw [zac, zdN] at this; exact yjn this), d, k, fun p hp => zb7.mp (by have := cn p; have := zb7.mpr hp; exact yjm ‹_› this)⟩
noncomputable def Rs (mb : Bx) (s : Shared) : Prop := s.os = mb.os ∧ s.gens = mb.gens
structure EnvOk (sc : Scope) (env : Env) (cm : List (Str × Addr)) : Prop where
 s : env.scope = sc
 k : sc.kind = .function
 g : env.globals = mainGlobals
 b : env.builtins = builtinsNs
 c : ∀ x, sc.names.lookup x = some .cell → env.cells.lookup x = cm.lookup x
theorem EnvOk.kf {sc env cm} (E : EnvOk sc env cm) : env.scope.kind = .function := by rw [E.s]; exact E.k
theorem EnvOk.kd {sc env cm} (E : EnvOk sc env cm) {x k} (h : sc.names.lookup x = some k) : env.kindOf x = some k := by unfold Env.kindOf; rw [E.s]; exact h
section
variable {prog : Program} {w : World} {A : Around} {E : Value → Shared → Prop} {s : Shared} {mg : Str → Option Value} {mb : Bx} {L : Addr} {l l' : List (Str × Value)} {own own' : Own} {fz fz' : Fz} {env : Env} {sc : Scope} {cm : List (Str × Addr)} {h : Heap}
theorem zlk {α : Type} {P : α → Prop} {x : α} {r : List α} (h : P x) (t : ∀ p ∈ r, P p) : ∀ p ∈ x :: r, P p := fun p hp => (List.mem_cons.mp hp).elim (fun e => e ▸ h) (t p)
theorem zrJ {P : Addr × Obj → Prop} : ∀ p ∈ ([] : Own), P p := fun p hp => by cases hp
theorem At.isInt (H : At mg mb L l own fz h) {v : Value} {a : Int} (k : Kn fz v (.int a)) : ∃ t, v = .int a t := H.rep k
theorem At.isNone (H : At mg mb L l own fz h) {v : Value} (k : Kn fz v .none) : v = .none := H.rep k
theorem At.isBool (H : At mg mb L l own fz h) {v : Value} {b : Bool} (k : Kn fz v (.bool b)) : v = .bool b := H.rep k
theorem Kn.memL {v : Value} {ds : List D} (k : Kn fz v (.lst ds)) : (v, D.lst ds) ∈ fz := by cases k with | mem h => exact h
theorem Kn.memT {v : Value} {ds : List D} (k : Kn fz v (.tup ds)) : (v, D.tup ds) ∈ fz := by cases k with | mem h => exact h
theorem zpW {a b : Int} (h : zbo b) : Builtin.divisionGoesByPylong a b = false := by
 have hb : b.natAbs.log2 < 63 := by
  by_cases e : b.natAbs = 0
  · rw [e]; decide
  · exact (Nat.log2_lt e).mpr h
 unfold Builtin.divisionGoesByPylong
 have : (if b == 0 then 0 else b.natAbs.log2 / 30 + 1) ≤ 300 := by split <;> omega
 simp only [Bool.and_eq_false_iff, decide_eq_false_iff_not, Nat.not_lt]
 exact .inl this
theorem zrK {op : Operator} {a b c : Int} {t u : Tok} {Q : Value → Shared → Prop} (e : zbh op a b = some c) (h : ∀ t tk, Q (.int c t) { s with toks := tk }) : wpAny (model prog w) A (binaryOp op (.int a t) (.int b u)) Q E s := by
 cases op
 case Add => exact zrD e fun e => by cases e; exact r_add h
 case Sub => exact zrD e fun e => by cases e; exact r_sub h
 case Mult => exact zcB e fun hs e => zrD e fun e => by cases e; exact r_mul hs h
 case FloorDiv => exact zcB e fun hs e => zrD e fun e => by cases e; exact r_fdiv hs.1 (zpW hs.2.2) h
 case Mod => exact zcB e fun hs e => zrD e fun e => by cases e; exact r_mod hs h
 case Pow =>
  refine zcB e fun hs e => ?_
  cases e
  refine pow_int hs.1 ?_ (h _ _)
  have : Builtin.Int.intBits a ≤ 63 := PyProof.Rows.intBits_le hs.2.2
  have h2 : (Builtin.Int.intBits a : Int) * b ≤ 63 * 1000 := by
   have := Int.mul_le_mul (a := (Builtin.Int.intBits a : Int)) (c := 63) (b := b) (d := 1000) (yjl this) (yjk hs) hs.1 (yjj)
   exact this
  exact yji h2
 all_goals exact zaM e
theorem zrL {op : Operator} {a b c : Int} {t u : Tok} {Q : Value → Shared → Prop} (ho : op = .Add ∨ op = .Sub) (e : zbh op a b = some c) (h : ∀ t tk, Q (.int c t) { s with toks := tk }) : wpAny (model prog w) A (inplaceOp op (.int a t) (.int b u)) Q E s := by
 rcases ho with rfl | rfl <;> (unfold zbh at e; cases e)
 · exact r_iadd h
 · exact r_isub h
theorem zrM {α : Type} {l : List α} {k : Int} {x : α} (e : idx l k = some x) : (0 ≤ k ∧ k < 2 ^ 63 ∧ l[k.toNat]? = some x) ∨ (k = -1 ∧ 0 < l.length ∧ l[l.length - 1]? = some x) := by
 unfold idx at e
 split at e
 · rename_i h0
   split at e
   · rename_i h1; exact .inl ⟨h0, h1, e⟩
   · cases e
 · split at e
   · rename_i h1
     refine .inr ⟨h1, ?_, ?_⟩
     · cases l with
       | nil => simp at e
       | cons => simp
     · rw [← e, List.getLast?_eq_getElem?]
   · cases e
theorem zhS {value slice : Expr} {a : Addr} {vs : List Value} {k : Int} {t : Tok} {x : Value} {Q : Value → Shared → Prop} (e : s.heap.IsList a (List.toArray vs)) (hs : znn slice) (hx : idx vs k = some x)
 (h : Q x s) : wpAny (model prog w) A (subscriptTail value slice (.ref a) (.int k t)) Q E s := by
 rcases zrM hx with ⟨h0, h1, h2⟩ | ⟨rfl, h1, h2⟩
 · exact zrB e hs h0 h1 h2 h
 · refine zf4 e.typeIs slot_list_getitem.lookup (wpAny_getItem_list_neg e (by decide) (by rw [List.size_toArray]; exact yjh h1) (by decide) ?_ h) (.inl (hs _ _))
   rw [List.size_toArray, show ((-1 : Int) + (vs.length : Nat)).toNat = vs.length - 1 by exact yas]
   simpa using h2
theorem zlB {k : Int} {n : Nat} (h0 : 0 ≤ k) (h1 : k.toNat < n) : seqIndex? k n = some k.toNat := by
 unfold seqIndex?
 have hk : ¬ k < 0 := by exact yjg h0
 simp only [hk, if_false]
 rw [if_pos]
 simp; exact yjf h0 h1
theorem zkx {n : Nat} (h1 : 0 < n) : seqIndex? (-1) n = some (n - 1) := by
 unfold seqIndex?
 have hk : (-1 : Int) < 0 := by decide
 simp only [hk, if_true]
 rw [if_pos]
 · congr 1; exact yas
 · simp; exact yje h1
theorem zrN {value slice : Expr} {a : Addr} {vs : List Value} {n : Nat} {k : Int} {t : Tok} {x : Value} {Q : Value → Shared → Prop} (e : s.heap.get? a = some (zen (List.toArray vs) n)) (hs : znn slice) (hx : idx vs k = some x)
 (h : Q x s) : wpAny (model prog w) A (subscriptTail value slice (.ref a) (.int k t)) Q E s := by
 rcases zrM hx with ⟨h0, h1, h2⟩ | ⟨rfl, h1, h2⟩
 · have hlt : k.toNat < vs.length := by rcases List.getElem?_eq_some_iff.mp h2 with ⟨q, _⟩; exact q
   refine zf4 (isT e).typeIs slot_tuple_getitem.lookup (PyProof.Rows.getItem_tuple (isT e) (j := k.toNat) (yjd h0) h1 (by rw [List.size_toArray]; exact zlB h0 hlt) (by simpa using h2) h) (.inl (hs _ _))
 · refine zf4 (isT e).typeIs slot_tuple_getitem.lookup (PyProof.Rows.getItem_tuple (isT e) (j := vs.length - 1) (by decide) (by decide) (by rw [List.size_toArray]; exact zkx h1) (by simpa using h2) h) (.inl (hs _ _))
theorem zrO {α β : Type} {l : List α} {m : List β} {k : Int} {y : β} (hl : l.length = m.length) (e : idx m k = some y) : ∃ (i : Nat) (x : α), l[i]? = some x ∧ m[i]? = some y ∧ idx l k = some x := by
 have : ∀ i : Nat, m[i]? = some y → ∃ x, l[i]? = some x := fun i h => by
  rcases List.getElem?_eq_some_iff.mp h with ⟨q, _⟩
  exact ⟨l[i]'(yc7 hl q), List.getElem?_eq_getElem _⟩
 unfold idx at e ⊢
 split at e
 · rename_i h0
   split at e
   · rename_i h1
     obtain ⟨x, hx⟩ := this _ e
     exact ⟨k.toNat, x, hx, e, by rw [if_pos h0, if_pos h1]; exact hx⟩
   · cases e
 · rename_i h0
   split at e
   · rename_i h1
     rw [List.getLast?_eq_getElem?] at e
     obtain ⟨x, hx⟩ := this _ e
     refine ⟨_, x, hx, e, ?_⟩
     rw [if_neg h0, if_pos h1, List.getLast?_eq_getElem?, hl]
     exact hx
   · cases e
theorem VRL.get : ∀ {Ws : List V} {vs X}, VRL fz Ws vs X → ∀ (i : Nat) {W v}, Ws[i]? = some W → vs[i]? = some v → ∃ Y, VR fz W v Y ∧ ∀ p ∈ Y, p ∈ X
 | [], _, _, _, i, _, _, e, _ => by simp at e
 | W :: Ws, _, _, ⟨v, r, Y, Z, e, q, a, b⟩, 0, _, _, e1, e2 => by
  subst e; subst q
  simp at e1 e2; subst e1; subst e2
  exact ⟨Y, a, fun p hp => List.mem_append_left _ hp⟩
 | W :: Ws, _, _, ⟨v, r, Y, Z, e, q, a, b⟩, i + 1, _, _, e1, e2 => by
  subst e; subst q
  obtain ⟨Y', c, d⟩ := VRL.get b i (by simpa using e1) (by simpa using e2)
  exact ⟨Y', c, fun p hp => List.mem_append_right _ (d p hp)⟩
theorem RepL.getI {g : Heap} {ds : List D} {vs : List Value} (h : RepL g ds vs) {k : Int} {d : D} (e : idx ds k = some d) : ∃ v, idx vs k = some v ∧ Rep g d v := by
 obtain ⟨i, x, h1, h2, h3⟩ := zrO h.length e
 obtain ⟨v, hv, r⟩ := h.get i h2
 rw [h1] at hv; cases hv
 exact ⟨x, h3, r⟩
theorem At.itemI {h : Heap} (H : At mg mb L l own fz h) {v : Value} {ds : List D} (m : (v, D.lst ds) ∈ fz) (k : Int) {d : D} (e : idx ds k = some d) :
 ∃ a vs, ∃ _ : Nat, ∃ x, v = .ref a ∧ h.IsList a (List.toArray vs) ∧ idx vs k = some x ∧ At mg mb L l own ((x, d) :: fz) h := by
 obtain ⟨g, c, le, gL, hm, ow, nd, r⟩ := H
 obtain ⟨a, vs, n, e', ho, t⟩ := r _ m
 obtain ⟨x, hx, rx⟩ := t.getI e
 refine ⟨a, vs, n, x, e', ho.at fun o e => le _ o e, hx, g, c, le, gL, hm, ow, nd, fun p hp => ?_⟩
 rcases List.mem_cons.mp hp with rfl | hp
 · exact rx
 · exact r p hp
theorem At.itemIT {h : Heap} (H : At mg mb L l own fz h) {v : Value} {ds : List D} (m : (v, D.tup ds) ∈ fz) (k : Int) {d : D} (e : idx ds k = some d) :
 ∃ a vs n x, v = .ref a ∧ h.get? a = some (zen (List.toArray vs) n) ∧ idx vs k = some x ∧ At mg mb L l own ((x, d) :: fz) h := by
 obtain ⟨g, c, le, gL, hm, ow, nd, r⟩ := H
 obtain ⟨a, vs, n, e', ho, t⟩ := r _ m
 obtain ⟨x, hx, rx⟩ := t.getI e
 refine ⟨a, vs, n, x, e', le _ _ ho, hx, g, c, le, gL, hm, ow, nd, fun p hp => ?_⟩
 rcases List.mem_cons.mp hp with rfl | hp
 · exact rx
 · exact r p hp
theorem zrP {value slice : Expr} {W W' : V} {v : Value} {X : Own} {k : Int} {t : Tok} {Q : Value → Shared → Prop} (H : At mg mb L l own fz s.heap) (hs : znn slice) (hv : VR fz W v X) (hX : ∀ p ∈ X, p ∈ own) (e : W.item k = some W')
 (h : ∀ x fz' Y, Sb fz fz' → At mg mb L l own fz' s.heap → VR fz' W' x Y → (∀ p ∈ Y, p ∈ own) → Q x s) : wpAny (model prog w) A (subscriptTail value slice v (.int k t)) Q E s := by
 cases W with
 | o Vs =>
  obtain ⟨a, vs, n, Y, rfl, rfl, hh⟩ := hv
  obtain ⟨i, x, h1, h2, h3⟩ := zrO hh.length e
  obtain ⟨Y', c, d⟩ := hh.get i h2 h1
  exact zhS (isL (H.get (hX _ (.head _)))) hs h3 (h x fz Y' (Sb.refl _) H c fun p hp => hX p (.tail _ (d p hp)))
 | f d =>
  obtain ⟨hv, rfl⟩ := hv
  cases d with
  | lst ds =>
   obtain ⟨d, e1, rfl⟩ := Option.map_eq_some_iff.mp e
   obtain ⟨a, vs, n, x, rfl, ho, hx, H'⟩ := H.itemI hv.memL k e1
   exact zhS ho hs hx (h x _ [] (Sb.cons _ _) H' (VR.of (.mem (.head _))) zrJ)
  | tup ds =>
   obtain ⟨d, e1, rfl⟩ := Option.map_eq_some_iff.mp e
   obtain ⟨a, vs, n, x, rfl, ho, hx, H'⟩ := H.itemIT hv.memT k e1
   exact zrN ho hs hx (h x _ [] (Sb.cons _ _) H' (VR.of (.mem (.head _))) zrJ)
  | _ => exact zaM e
theorem r_lenV {W : V} {v : Value} {X : Own} {n : Int} {Q : Value → Shared → Prop} (H : At mg mb L l own fz s.heap) (hv : VR fz W v X) (hX : ∀ p ∈ X, p ∈ own) (e : W.len = some n)
 (h : ∀ t tk, Q (.int n t) { s with toks := tk }) : wpAny (model prog w) A (call (.builtin "len") [v]) Q E s := by
 cases W with
 | o Vs =>
  obtain ⟨a, vs, m, Y, rfl, rfl, hh⟩ := hv
  refine zcB e fun q e => ?_
  cases e
  unfold zaI at q
  have := hh.length
  refine zpd (isL (H.get (hX _ (.head _)))) (by rw [decide_eq_true_eq] at q; exact yjc q this) ?_
  rw [this]; exact h
 | f d =>
  obtain ⟨hv, rfl⟩ := hv
  cases d with
  | lst ds =>
   refine zcB e fun q e => ?_
   cases e
   unfold zaI at q
   exact r_len H hv.memL (by rw [decide_eq_true_eq] at q; exact yjb q) h
  | _ => exact zaM e
inductive NmAt (sc : Scope) (cm : List (Str × Addr)) (l : List (Str × Value)) (own : Own) (x : Str) (v : Value) : Prop
 | loc (k : sc.names.lookup x = some .local) (m : (x, v) ∈ l) : NmAt sc cm l own x v
 | cel (k : sc.names.lookup x = some .cell) (c : Addr) (o : Obj) (hc : cm.lookup x = some c) (m : (c, o) ∈ own) (d : o.data = .cell (some v)) : NmAt sc cm l own x v
theorem NmAt.sub {x : Str} {v : Value} (n : NmAt sc cm l own x v) (h : ∀ p ∈ own, p ∈ own') : NmAt sc cm l own' x v := by
 cases n with
 | loc k m => exact .loc k m
 | cel k c o hc m d => exact .cel k c o hc (h _ m) d
theorem NmAt.isLoc {x : Str} {v : Value} (n : NmAt sc cm l own x v) (h : sc.names.lookup x = some .local) : (x, v) ∈ l := by
 cases n with
 | loc k m => exact m
 | cel k => rw [h] at k; cases k
theorem NmAt.eval {x : Str} {v : Value} {pos : Pos} {Q : Value → Shared → Prop} (n : NmAt sc cm l own x v) (hd : (x == ("__debug__" : Str)) = false) (EO : EnvOk sc env cm) (H : At mg mb env.locals l own fz s.heap) (q : Q v s) : wpAny (model prog w) A (eval (.Name x pos) env) Q E s := by
 cases n with
 | loc k m => exact znm H m rfl EO.kf (EO.kd k) hd q
 | cel k c o hc m d => exact r_cell H ((EO.c x k).trans hc) m d EO.kf (EO.kd k) hd q
theorem NmAt.load {x : Str} {v : Value} {Q : Value → Shared → Prop} (n : NmAt sc cm l own x v) (EO : EnvOk sc env cm) (H : At mg mb env.locals l own fz s.heap) (q : Q v s) : wpAny (model prog w) A (loadName env x) Q E s := by
 cases n with
 | loc k m => exact ztT H m rfl EO.kf (EO.kd k) q
 | cel k c o hc m d => exact wpAny_loadName_cell EO.kf (EO.kd k) ((EO.c x k).trans hc) ⟨o, H.get m, d⟩ q
theorem getE {σ : St} {x : Str} {W : V} {G : Prop} (e : σ.get sc x = some W) (k1 : sc.names.lookup x = some .local → zfu x σ.r = some W → G) (k2 : sc.names.lookup x = some .cell → zfu x σ.k = some W → G) : G := by
 unfold St.get at e
 split at e
 · exact k1 (by assumption) e
 · exact k2 (by assumption) e
 · exact zaM e
theorem r_get {σ : St} {x : Str} {pos : Pos} {W : V} {Y Z : Own} {Q : Value → Shared → Prop} (hd : (x == ("__debug__" : Str)) = false) (EO : EnvOk sc env cm) (H : At mg mb env.locals l own fz s.heap) (hS : SR l fz σ.r Y) (hC : CR fz cm σ.k Z) (hY : ∀ p ∈ Y, p ∈ own) (hZ : ∀ p ∈ Z, p ∈ own)
 (e : σ.get sc x = some W) (h : ∀ v X, VR fz W v X → (∀ p ∈ X, p ∈ own) → Q v s) : wpAny (model prog w) A (eval (.Name x pos) env) Q E s :=
 getE e (fun hk e => by
  obtain ⟨v, X, a, b, c⟩ := hS.get e
  exact NmAt.eval (.loc (own := own) hk a) hd EO H (h v X b fun p hp => hY p (c p hp))) fun hk e => by
  obtain ⟨c, o, v, X, a, b, d, f, g⟩ := hC.get e
  exact NmAt.eval (.cel hk c o a (hZ _ b) d) hd EO H (h v X f fun p hp => hZ p (g p hp))
end
inductive PP (mg : Str → Option Value) (mb : Bx) (env : Env) (l : List (Str × Value)) (own : Own) (fz : Fz) (W : V) (v : Value) (s' : Shared) : Prop
 | mk (fz' : Fz) (X : Own) (sb : Sb fz fz') (k : VR fz' W v X) (hX : ∀ p ∈ X, p ∈ own) (rs : Rs mb s') (H : At mg mb env.locals l own fz' s'.heap) : PP mg mb env l own fz W v s'
noncomputable def SndP (prog : Program) (w : World) (mg : Str → Option Value) (mb : Bx) (R : Rec) : Prop :=
 ∀ sc e σ W, R.q e = true → R.p sc e σ = some W → ∀ A env cm l own fz s Y Z, EnvOk sc env cm → Rs mb s → At mg mb env.locals l own fz s.heap → SR l fz σ.r Y → CR fz cm σ.k Z → (∀ p ∈ Y, p ∈ own) → (∀ p ∈ Z, p ∈ own) →
  wpAny (model prog w) A (eval e env) (PP mg mb env l own fz W) NoE s
section
variable {prog : Program} {w : World} {mg : Str → Option Value} {mb : Bx} {R : Rec}
theorem V.int_eq {W : V} {i : Int} (e : W.int = some i) : W = .f (.int i) :=
 onFE e fun d h1 h2 => zlu h2 fun j h3 h4 => by rw [h1, h3, Option.some.inj h4]
theorem SndP.use (hP : SndP prog w mg mb R) {A : Around} {env : Env} {sc : Scope} {cm : List (Str × Addr)} {σ : St} {e : Expr} {W : V} {l : List (Str × Value)} {own Y Z : Own} {fz : Fz} {s : Shared} {Q : Value → Shared → Prop} (q : R.q e = true) (h : R.p sc e σ = some W) (EO : EnvOk sc env cm) (rs : Rs mb s) (H : At mg mb env.locals l own fz s.heap) (hS : SR l fz σ.r Y) (hC : CR fz cm σ.k Z) (hY : ∀ p ∈ Y, p ∈ own) (hZ : ∀ p ∈ Z, p ∈ own)
 (k : ∀ v s' fz' X, Sb fz fz' → VR fz' W v X → (∀ p ∈ X, p ∈ own) → Rs mb s' → At mg mb env.locals l own fz' s'.heap → Q v s') : wpAny (model prog w) A (eval e env) Q NoE s :=
 wpAny_mono (hP _ _ _ _ q h _ _ _ _ _ _ s _ _ EO rs H hS hC hY hZ) (fun _ _ h => by cases h with | mk f X a b c d H => exact k _ _ _ _ a b c d H) fun _ _ x => x
theorem SndP.useI (hP : SndP prog w mg mb R) {A : Around} {env : Env} {sc : Scope} {cm : List (Str × Addr)} {σ : St} {e : Expr} {W : V} {i : Int} {l : List (Str × Value)} {own Y Z : Own} {fz : Fz} {s : Shared} {Q : Value → Shared → Prop} (q : R.q e = true) (h : R.p sc e σ = some W) (hi : W.int = some i) (EO : EnvOk sc env cm) (rs : Rs mb s) (H : At mg mb env.locals l own fz s.heap) (hS : SR l fz σ.r Y) (hC : CR fz cm σ.k Z) (hY : ∀ p ∈ Y, p ∈ own) (hZ : ∀ p ∈ Z, p ∈ own)
 (k : ∀ t s' fz', Sb fz fz' → Rs mb s' → At mg mb env.locals l own fz' s'.heap → Q (.int i t) s') : wpAny (model prog w) A (eval e env) Q NoE s :=
 hP.use q h EO rs H hS hC hY hZ fun v s' f X a b c d H => by
  rw [V.int_eq hi] at b
  obtain ⟨t, rfl⟩ := H.isInt b.1
  exact k t s' f a d H
theorem zhT {e : Expr} (h : ∀ a b c d, e ≠ .Slice a b c d) : znn e := by
 intro o i
 cases e <;> first | rfl | exact absurd rfl (h _ _ _ _)
structure QOk (R : Rec) : Prop where
 sl : ∀ a b c d, R.q (.Slice a b c d) = false
 st : ∀ a b, R.q (.Starred a b) = false
 se : ∀ a b c, R.q (.Set a b c) = false
 sC : ∀ a b c d, R.q (.SetComp a b c d) = false
 dC : ∀ a b c d f, R.q (.DictComp a b c d f) = false
 lC : ∀ a b c d, R.q (.ListComp a b c d) = false
theorem zaW {e : Expr} {rest : List Expr} {env : Env} (h : ∀ a b, e ≠ .Starred a b) : starEach (e :: rest) env = (false, eval e env) :: starEach rest env := by
 cases e <;> first | rfl | exact absurd rfl (h _ _)
theorem QOk.star (Q : QOk R) {e : Expr} (h : R.q e = true) : ∀ a b, e ≠ .Starred a b := fun a b q => by rw [q, Q.st] at h; cases h
theorem zrQ (hR : SndP prog w mg mb R) (hq : QOk R) : SndP prog w mg mb ⟨zvL R, zvK R, R.e, R.t, R.s⟩ := by
 intro sc e σ W q he A env cm l own fz s Y Z EO rs H hS hC hY hZ
 have hk := kr e
 change qK R (kind e) = true at q
 change pK R sc σ (kind e) = some W at he
 generalize kind e = κ at hk q he
 have I : ∀ {f s' i t}, Sb fz f → Rs mb s' → At mg mb env.locals l own f s'.heap → PP mg mb env l own fz (.f (.int i)) (.int i t) s' :=
  fun a r H => ⟨_, [], a, VR.of (.int _ _), zrJ, r, H⟩
 cases hk
 case c c k pos =>
  cases c
  case none => cases he; exact wpAny_Constant_none ⟨fz, [], Sb.refl _, VR.of .none, zrJ, rs, H⟩
  case bool => cases he; exact wpAny_Constant_bool ⟨fz, [], Sb.refl _, VR.of (.bool _), zrJ, rs, H⟩
  case int => cases he; exact r_int fun t tk => I (Sb.refl _) rs H
  all_goals exact zaM he
 case n x pos => exact znk he fun hd he => r_get (by simpa using hd) EO H hS hC hY hZ he fun v X hv hX => ⟨fz, X, Sb.refl _, hv, hX, rs, H⟩
 case bin a op b pos =>
  rw [show qK R (.bin a op b) = (R.q a && R.q b) from rfl, Bool.and_eq_true] at q
  refine zaE he fun va ha he => zaE he fun ia hia he => zaE he fun vb hb he => zaE he fun ib hib he => zft he fun c hc he => ?_
  subst he
  exact wpAny_BinOp (hR.useI q.1 ha hia EO rs H hS hC hY hZ fun t1 s1 f1 k1 rs H1 => hR.useI q.2 hb hib EO rs H1 (hS.sub k1) (hC.sub k1) hY hZ fun t2 s2 f2 k2 rs H2 => zrK hc fun t tk => I (k1.trans k2) rs H2)
 case un op x pos =>
  refine zcB he fun ho he => zaE he fun va ha he => zft he fun ia hia he => ?_
  subst he
  subst ho
  exact wpAny_UnaryOp (hR.useI q ha hia EO rs H hS hC hY hZ fun t1 s1 f1 k1 rs H1 => r_neg fun t tk => I k1 rs H1)
 case sub a b pos =>
  rw [show qK R (.sub a b) = (R.q a && R.q b) from rfl, Bool.and_eq_true] at q
  refine zaE he fun va ha he => zaE he fun vb hb he => zaE he fun ib hib hi => ?_
  exact Subscript_ (hR.use q.1 ha EO rs H hS hC hY hZ fun v1 s1 f1 X1 k1 e1 g1 rs H1 => hR.useI q.2 hb hib EO rs H1 (hS.sub k1) (hC.sub k1) hY hZ fun t2 s2 f2 k2 rs H2 =>
   zrP H2 (zhT fun a' b' c' d' hh => by rw [hh, hq.sl] at q; cases q.2) (VR.sub k2 _ e1) g1 hi fun x fz' Y' k3 H3 hv hY' => ⟨fz', Y', (k1.trans k2).trans k3, hv, hY', rs, H3⟩)
 case call g gp args pos =>
  refine zhG he fun x hx he => zcB he fun hgg he => zaE he fun va ha he => zft he fun n hn he => ?_
  subst he
  subst hx
  obtain ⟨rfl, hgl⟩ := hgg
  have q : R.q x = true := q
  refine wpAny_Call_NameR (zlp H (v := .builtin "len") (List.mem_of_getElem? (i := 0) rfl) EO.g EO.b EO.kf (EO.kd (by simpa [zar] using hgl)) (by decide) ?_)
  exact callWith_builtin1 (he := zaW (hq.star q)) (args_cons (hR.use q ha EO rs H hS hC hY hZ fun v1 s1 f1 X1 k1 e1 g1 rs H1 => args_nil (r_lenV H1 e1 g1 hn fun t tk => I k1 rs H1)) (zaW (hq.star q)))
 all_goals exact zaM he
end
inductive Sim (mg : Str → Option Value) (mb : Bx) (env : Env) (cm : List (Str × Addr)) (pn : List (Str × Value)) (σ : St) (R : Own) (fz : Fz) (s : Shared) : Prop
 | mk (rs : Rs mb s) (nd : (σ.r.map (·.1)).Nodup) (l : List (Str × Value)) (Y Z : Own) (H : At mg mb env.locals l (Y ++ (Z ++ R)) fz s.heap) (hS : SR l fz σ.r Y) (hC : CR fz cm σ.k Z) (hp : ∀ p ∈ pn, p ∈ l) : Sim mg mb env cm pn σ R fz s
section
variable {prog : Program} {w : World} {A : Around} {E : Value → Shared → Prop} {s : Shared} {mg : Str → Option Value} {mb : Bx} {l l' : List (Str × Value)} {own own' R R' : Own} {fz fz' : Fz} {env : Env} {sc : Scope} {cm : List (Str × Addr)} {pn : List (Str × Value)} {h h' : Heap} {σ σ' : St} {C : Cfg} {L : Addr}
theorem Sim.close {s' : Shared} {Y Z : Own} (rs : Rs mb s') (nd : (σ.r.map (·.1)).Nodup) (H : At mg mb env.locals l own fz' s'.heap) (hS : SR l fz σ.r Y) (hC : CR fz cm σ.k Z) (hp : ∀ p ∈ pn, p ∈ l) (sb : Sb fz fz') (lo : Lo (Y ++ (Z ++ R)) own) : Sim mg mb env cm pn σ R fz' s' :=
 ⟨rs, nd, l, Y, Z, H.lo lo, hS.sub sb, hC.sub sb, hp⟩
theorem Sim.lo (S : Sim mg mb env cm pn σ R fz s) (k : Lo R' R) : Sim mg mb env cm pn σ R' fz s := by
 obtain ⟨rs, nd, l, Y, Z, H, hS, hC, hp⟩ := S
 exact ⟨rs, nd, l, Y, Z, H.lo (fun p => by have := k p; simp only [zaa]; exact yja this), hS, hC, hp⟩
theorem Sim.ext {tk : Nat} (S : Sim mg mb env cm pn σ R fz s) (e : Le s.heap h') : Sim mg mb env cm pn σ R fz { s with heap := h', toks := tk } := by
 obtain ⟨rs, nd, l, Y, Z, H, hS, hC, hp⟩ := S
 exact ⟨rs, nd, l, Y, Z, H.ext e, hS, hC, hp⟩
theorem Sim.tk {tk : Nat} (S : Sim mg mb env cm pn σ R fz s) : Sim mg mb env cm pn σ R fz { s with toks := tk } := S.ext (Le.refl _)
theorem Sim.at (S : Sim mg mb env cm pn σ R fz s) : ∃ l, At mg mb env.locals l R fz s.heap := by
 obtain ⟨rs, nd, l, Y, Z, H, hS, hC, hp⟩ := S
 exact ⟨l, H.lo (by (intro p_; simp only [zaa, zac, zai]; exact yib))⟩
theorem Sim.by {tk : Nat} (S : Sim mg mb env cm pn σ R fz s) (k : ∀ l T, At mg mb env.locals l (R ++ T) fz s.heap → Sb fz fz' ∧ At mg mb env.locals l (R' ++ T) fz' h') : Sim mg mb env cm pn σ R' fz' { s with heap := h', toks := tk } := by
 obtain ⟨rs, nd, l, Y, Z, H, hS, hC, hp⟩ := S
 obtain ⟨sb, H'⟩ := k l (Y ++ Z) (H.lo (by (intro p_; simp only [zaa, zac, zai]; exact yi9)))
 exact Sim.close (s' := { s with heap := h', toks := tk }) rs nd H' hS hC hp sb (by (intro p_; simp only [zaa, zac, zai]; exact yi8))
theorem Sim.freeze {W : V} {v : Value} {X : Own} (S : Sim mg mb env cm pn σ (X ++ R) fz s) (k : VR fz W v X) : ∃ fz', Sb fz fz' ∧ Kn fz' v W.frz ∧ Sim mg mb env cm pn σ R fz' s := by
 obtain ⟨rs, nd, l, Y, Z, H, hS, hC, hp⟩ := S
 obtain ⟨fz', sb, kn, H'⟩ := VR.freeze W k (R := Y ++ (Z ++ R)) (H.lo (by (intro p_; simp only [zaa, zac, zai]; exact yiB)))
 exact ⟨fz', sb, kn, Sim.close rs nd H' hS hC hp sb (Lo.refl _)⟩
theorem Sim.freezeL {Ws : List V} {vs : List Value} {X : Own} (S : Sim mg mb env cm pn σ (X ++ R) fz s) (k : VRL fz Ws vs X) : ∃ fz', Sb fz fz' ∧ KnL fz' vs (V.frzL Ws) ∧ Sim mg mb env cm pn σ R fz' s := by
 obtain ⟨rs, nd, l, Y, Z, H, hS, hC, hp⟩ := S
 obtain ⟨fz', sb, kn, H'⟩ := VRL.freeze Ws k (R := Y ++ (Z ++ R)) (H.lo (by (intro p_; simp only [zaa, zac, zai]; exact yiB)))
 exact ⟨fz', sb, kn, Sim.close rs nd H' hS hC hp sb (Lo.refl _)⟩
noncomputable def Back (mg : Str → Option Value) (mb : Bx) (env : Env) (cm : List (Str × Addr)) (pn : List (Str × Value)) (sc : Scope) (σ : St) (x : Str) (l : List (Str × Value)) (fz : Fz) (v : Value) (T : Own) : Prop :=
 ∀ fz' W' X' (s' : Shared) R' own', Rs mb s' → Sb fz fz' → VR fz' W' v X' → At mg mb env.locals l own' fz' s'.heap → Lo (X' ++ (T ++ R')) own' → ∃ σ', σ.set sc x W' = some σ' ∧ Sim mg mb env cm pn σ' R' fz' s'
inductive Take (mg : Str → Option Value) (mb : Bx) (env : Env) (cm : List (Str × Addr)) (pn : List (Str × Value)) (sc : Scope) (σ : St) (x : Str) (W : V) (fz : Fz) (l : List (Str × Value)) (Y Z : Own) : Prop
 | mk (v : Value) (X T : Own) (k : VR fz W v X) (c : ∀ p, cnt p Y + cnt p Z = cnt p X + cnt p T) (n : NmAt sc cm l (Y ++ Z) x v) (back : Back mg mb env cm pn sc σ x l fz v T) : Take mg mb env cm pn sc σ x W fz l Y Z
theorem zf9 {Y Z : Own} {l : List (Str × Value)} (nd : (σ.r.map (·.1)).Nodup) (hS : SR l fz σ.r Y) (hC : CR fz cm σ.k Z) (hp : ∀ p ∈ pn, p ∈ l) {x : Str} {W : V} (e : σ.get sc x = some W) : Take mg mb env cm pn sc σ x W fz l Y Z := by
 refine getE e (fun hk e => ?_) fun hk e => ?_
 · obtain ⟨v, X, Y', a, b, c, _, d⟩ := hS.rm e
   refine ⟨v, X, Y' ++ Z, b, (fun p => by have := c p; simp only [zaa]; exact yi7 this), .loc hk a, fun fz' W' X' s' R' own' rs sb k H' lo => ?_⟩
   obtain ⟨Y'', f, g⟩ := d fz' W' X' sb k
   refine ⟨⟨upd x (some W') σ.r, σ.k⟩, by unfold St.set; rw [hk]; dsimp only; rw [if_pos (zhR e)], ?_⟩
   refine ⟨rs, by rw [zf8]; exact nd, l, Y'', Z, H'.lo (fun p => ?_), f, hC.sub sb, hp⟩
   have := g p
   have := lo p
   simp only [zaa] at *
   exact yi6 ‹_› this
 · obtain ⟨c, o, v, X, Z', a, d, b, q, f⟩ := hC.take e
   refine ⟨v, X, (c, o) :: (Y ++ Z'), b, (fun p => by have := q p; simp only [zaa, zac, zai] at *; exact yi5 this), .cel hk c o a (List.mem_append_right _ (zb7.mp (by have := q (c, o); simp only [zac, zai, zdN] at this; exact yi4 this))) d, fun fz' W' X' s' R' own' rs sb k H' lo => ?_⟩
   obtain ⟨Z'', f1, g⟩ := f fz' W' X' sb k
   refine ⟨⟨σ.r, upd x (some W') σ.k⟩, by unfold St.set; rw [hk]; dsimp only; rw [if_pos (zhR e)], ?_⟩
   refine ⟨rs, nd, l, Y, Z'', H'.lo (fun p => ?_), hS.sub sb, f1, hp⟩
   have := g p
   have := lo p
   simp only [zaa, zac, zai] at *
   exact yi3 ‹_› this
inductive STake (mg : Str → Option Value) (mb : Bx) (env : Env) (cm : List (Str × Addr)) (pn : List (Str × Value)) (sc : Scope) (σ : St) (x : Str) (W : V) (R : Own) (fz : Fz) (s : Shared) : Prop
 | mk (l : List (Str × Value)) (v : Value) (X T : Own) (rs : Rs mb s) (H : At mg mb env.locals l (X ++ (T ++ R)) fz s.heap) (k : VR fz W v X) (hp : ∀ p ∈ pn, p ∈ l) (n : NmAt sc cm l (X ++ (T ++ R)) x v) (back : Back mg mb env cm pn sc σ x l fz v T) : STake mg mb env cm pn sc σ x W R fz s
theorem Sim.take (S : Sim mg mb env cm pn σ R fz s) {x : Str} {W : V} (e : σ.get sc x = some W) : STake mg mb env cm pn sc σ x W R fz s := by
 cases S with | mk rs nd l Y Z H hS hC hp =>
 cases zf9 (mg := mg) (mb := mb) (env := env) nd hS hC hp e with | mk v X T a b n g =>
 exact ⟨l, v, X, T, rs, H.lo (fun p => by have := b p; simp only [zaa]; exact yiV this), a, hp, n.sub fun p hp => zb7.mp (by have := b p; have := zb7.mpr hp; simp only [zaa] at *; exact yi2 ‹_› this), g⟩
theorem At.same_local (H : At mg mb L l own fz h) {x : Str} {u v : Value} (hu : (x, u) ∈ l) (hv : (x, v) ∈ l) : u = v := by
 obtain ⟨m, _, k⟩ := H.ns
 have h1 := k _ hu
 have h2 := k _ hv
 rw [h1] at h2
 exact Option.some.inj h2
theorem zns {x : Str} {W : V} {v : Value} {X : Own} {Q : Unit → Shared → Prop} (EO : EnvOk sc env cm) (hpn : ∀ p ∈ pn, p.1 ∈ C.pins) (e : σ.put C sc x W = some σ') (S : Sim mg mb env cm pn σ (X ++ R) fz s) (k : VR fz W v X)
 (q : ∀ h' tk, Sim mg mb env cm pn σ' R fz { s with heap := h', toks := tk } → Q () { s with heap := h', toks := tk }) : wpAny (model prog w) A (storeName env x v) Q E s := by
 obtain ⟨rs, nd, l, Y, Z, H, hS, hC, hp⟩ := S
 refine znk e fun hnp e => ?_
 unfold St.set at e
 split at e
 · rename_i hk
   refine zcB e fun hh e => ?_
   cases e
   have del : ∀ l : List (Str × Value), Del x l (l.filter fun p => decide (p.1 ≠ x)) := fun l => by
    induction l with
    | nil => exact .nil
    | cons p r ih =>
     obtain ⟨y, u⟩ := p
     by_cases q : y = x
     · subst q; rw [List.filter_cons_of_neg (by simp)]; exact .hit ih
     · rw [List.filter_cons_of_pos (by simpa using q)]; exact .miss q ih
   refine zvE H (del l) rfl EO.kf (EO.kd hk) fun h' tk H' => q h' tk ?_
   obtain ⟨Y'', f, g⟩ := hS.put (x := x) nd (l' := (x, v) :: l.filter fun p => decide (p.1 ≠ x)) (fun p hp hn => .tail _ (List.mem_filter.mpr ⟨hp, by simpa using hn⟩)) (Sb.refl _) (.head _) k
   refine ⟨rs, by rw [zf8]; exact nd, _, Y'', Z, H'.lo (fun p => ?_), f, hC, fun p hp' => .tail _ (List.mem_filter.mpr ⟨hp p hp', ?_⟩)⟩
   · have := g p
     simp only [zaa] at *
     exact yi1 this
   · have := hpn p hp'
     simp only [decide_eq_true_eq]
     intro q'
     rw [q'] at this
     exact hnp (by simpa using this)
 · rename_i hk
   refine zcB e fun hh e => ?_
   cases e
   obtain ⟨c, o, v₀, X0, Z', a, d, _, q1, f⟩ := hC.at hh
   have H₁ : At mg mb env.locals l ((c, o) :: (Y ++ (Z' ++ (X ++ R)))) fz s.heap := H.lo (fun p => by have := q1 p; simp only [zaa, zac, zai] at *; exact yi0 this)
   refine ztU H₁ ((EO.c x hk).trans a) d .hd EO.kf (EO.kd hk) fun h' tk o' ho' H' => q h' tk ?_
   obtain ⟨Z'', f1, g⟩ := f fz v W X o' (Sb.refl _) ho' k
   refine ⟨rs, nd, l, Y, Z'', H'.lo (fun p => ?_), hS, f1, hp⟩
   have := g p
   simp only [zaa, zac, zai] at *
   exact yiZ this
 · exact zaM e
end
inductive PE (mg : Str → Option Value) (mb : Bx) (env : Env) (cm : List (Str × Addr)) (pn : List (Str × Value)) (R : Own) (fz : Fz) (W : V) (σ' : St) (v : Value) (s' : Shared) : Prop
 | mk (fz' : Fz) (X : Own) (sb : Sb fz fz') (k : VR fz' W v X) (S : Sim mg mb env cm pn σ' (X ++ R) fz' s') : PE mg mb env cm pn R fz W σ' v s'
inductive PD (mg : Str → Option Value) (mb : Bx) (env : Env) (cm : List (Str × Addr)) (pn : List (Str × Value)) (R : Own) (fz : Fz) (d : D) (σ' : St) (v : Value) (s' : Shared) : Prop
 | mk (fz' : Fz) (sb : Sb fz fz') (k : Kn fz' v d) (S : Sim mg mb env cm pn σ' R fz' s') : PD mg mb env cm pn R fz d σ' v s'
inductive PT (mg : Str → Option Value) (mb : Bx) (env : Env) (cm : List (Str × Addr)) (pn : List (Str × Value)) (R : Own) (fz : Fz) (b : Bool) (σ' : St) (b' : Bool) (s' : Shared) : Prop
 | mk (e : b' = b) (fz' : Fz) (sb : Sb fz fz') (S : Sim mg mb env cm pn σ' R fz' s') : PT mg mb env cm pn R fz b σ' b' s'
noncomputable def PS (mg : Str → Option Value) (mb : Bx) (env : Env) (cm : List (Str × Addr)) (pn : List (Str × Value)) (R : Own) (fz : Fz) (f : Fl) (σ' : St) (g : Flow) (s' : Shared) : Prop :=
 match f with
 | .next => g = .next ∧ ∃ fz', Sb fz fz' ∧ Sim mg mb env cm pn σ' R fz' s'
 | .ret d => ∃ v, g = .ret v ∧ PD mg mb env cm pn R fz d σ' v s'
noncomputable def SndE (prog : Program) (w : World) (mg : Str → Option Value) (mb : Bx) (k : Nat) (R : Rec) : Prop :=
 ∀ sc e σ W σ', R.e sc e σ = some (W, σ') → ∀ A env cm pn Rr fz s, Ok k A → EnvOk sc env cm → Sim mg mb env cm pn σ Rr fz s → wpAny (model prog w) A (eval e env) (PE mg mb env cm pn Rr fz W σ') NoE s
noncomputable def SndT (prog : Program) (w : World) (mg : Str → Option Value) (mb : Bx) (k : Nat) (R : Rec) : Prop :=
 ∀ sc e σ b σ', R.t sc e σ = some (b, σ') → ∀ A env cm pn Rr fz s, Ok k A → EnvOk sc env cm → Sim mg mb env cm pn σ Rr fz s → wpAny (model prog w) A (isTrue e env (eval e env)) (PT mg mb env cm pn Rr fz b σ') NoE s
noncomputable def SndS (prog : Program) (w : World) (mg : Str → Option Value) (mb : Bx) (k : Nat) (C : Cfg) (R : Rec) : Prop :=
 ∀ sc b σ f σ', R.s sc b σ = some (f, σ') → ∀ A env cm pn Rr fz s, Ok k A → EnvOk sc env cm → (∀ p ∈ pn, p.1 ∈ C.pins) → Sim mg mb env cm pn σ Rr fz s → wpAny (model prog w) A (execs b env) (PS mg mb env cm pn Rr fz f σ') NoE s
structure EOk (R : Rec) : Prop extends QOk R where
 eSet : ∀ sc a b c σ, R.e sc (.Set a b c) σ = none
 eSl : ∀ sc a b c d σ, R.e sc (.Slice a b c d) σ = none
 eSt : ∀ sc a b σ, R.e sc (.Starred a b) σ = none
 eSC : ∀ sc a b c d σ, R.e sc (.SetComp a b c d) σ = none
 eDC : ∀ sc a b c d f σ, R.e sc (.DictComp a b c d f) σ = none
section
variable {prog : Program} {w : World} {A : Around} {E : Value → Shared → Prop} {s : Shared} {mg : Str → Option Value} {mb : Bx} {k : Nat} {R : Rec} {Rr : Own} {fz : Fz} {env : Env} {sc : Scope} {cm : List (Str × Addr)} {pn : List (Str × Value)} {σ σ' : St} {C : Cfg} {e : Expr}
theorem PE.sub {W v s' fz₀} (sb : Sb fz₀ fz) (h : PE mg mb env cm pn Rr fz W σ' v s') : PE mg mb env cm pn Rr fz₀ W σ' v s' := by cases h with | mk f X a b c => exact ⟨f, X, sb.trans a, b, c⟩
theorem PD.sub {W v s' fz₀} (sb : Sb fz₀ fz) (h : PD mg mb env cm pn Rr fz W σ' v s') : PD mg mb env cm pn Rr fz₀ W σ' v s' := by cases h with | mk f a b c => exact ⟨f, sb.trans a, b, c⟩
theorem PT.sub {b v s' fz₀} (sb : Sb fz₀ fz) (h : PT mg mb env cm pn Rr fz b σ' v s') : PT mg mb env cm pn Rr fz₀ b σ' v s' := by cases h with | mk q f a b => exact ⟨q, f, sb.trans a, b⟩
theorem PS.sub {f v s' fz₀} (sb : Sb fz₀ fz) (h : PS mg mb env cm pn Rr fz f σ' v s') : PS mg mb env cm pn Rr fz₀ f σ' v s' := by
 cases f with
 | next => obtain ⟨q, f, a, b⟩ := h; exact ⟨q, f, sb.trans a, b⟩
 | ret d => obtain ⟨v, q, h⟩ := h; exact ⟨v, q, h.sub sb⟩
theorem SndE.use (hE : SndE prog w mg mb k R) {W : V} {Q : Value → Shared → Prop} (he : R.e sc e σ = some (W, σ')) (hA : Ok k A) (EO : EnvOk sc env cm) (S : Sim mg mb env cm pn σ Rr fz s)
 (q : ∀ v s1 f1 X, Sb fz f1 → VR f1 W v X → Sim mg mb env cm pn σ' (X ++ Rr) f1 s1 → Q v s1) : wpAny (model prog w) A (eval e env) Q NoE s :=
 wpAny_mono (hE _ _ _ _ _ he _ _ _ _ _ _ s hA EO S) (fun _ _ h => by cases h with | mk f X a b c => exact q _ _ f X a b c) fun _ _ x => x
theorem SndT.use (hT : SndT prog w mg mb k R) {b : Bool} {Q : Bool → Shared → Prop} (he : R.t sc e σ = some (b, σ')) (hA : Ok k A) (EO : EnvOk sc env cm) (S : Sim mg mb env cm pn σ Rr fz s)
 (q : ∀ s1 f1, Sb fz f1 → Sim mg mb env cm pn σ' Rr f1 s1 → Q b s1) : wpAny (model prog w) A (isTrue e env (eval e env)) Q NoE s :=
 wpAny_mono (hT _ _ _ _ _ he _ _ _ _ _ _ s hA EO S) (fun _ _ h => by cases h with | mk e f a b => exact e ▸ q _ f a b) fun _ _ x => x
theorem zcu (hE : SndE prog w mg mb k R) {d : D} {Q : Value → Shared → Prop} (he : evF R sc e σ = some (d, σ')) (hA : Ok k A) (EO : EnvOk sc env cm) (S : Sim mg mb env cm pn σ Rr fz s)
 (q : ∀ v s1 f1, Sb fz f1 → Kn f1 v d → Sim mg mb env cm pn σ' Rr f1 s1 → Q v s1) : wpAny (model prog w) A (eval e env) Q NoE s :=
 znj he fun W σ1 h1 h2 => by
  cases h2
  exact hE.use h1 hA EO S fun v s1 f1 X a b c => (c.freeze b).elim fun f2 h => q v s1 f2 (a.trans h.1) h.2.1 h.2.2
theorem zcU (hE : SndE prog w mg mb k R) {i : Int} {Q : Value → Shared → Prop} (he : evI R sc e σ = some (i, σ')) (hA : Ok k A) (EO : EnvOk sc env cm) (S : Sim mg mb env cm pn σ Rr fz s)
 (q : ∀ t s1 f1, Sb fz f1 → Sim mg mb env cm pn σ' Rr f1 s1 → Q (.int i t) s1) : wpAny (model prog w) A (eval e env) Q NoE s :=
 zbn he fun d σ1 h1 h2 => zlu h2 fun j h3 h4 => by
  cases h4
  refine zcu hE h1 hA EO S fun v s1 f1 a b c => ?_
  have h3 : d = .int i := h3
  rw [h3] at b
  obtain ⟨l, H⟩ := c.at
  obtain ⟨t, rfl⟩ := H.isInt b
  exact q t s1 f1 a c
theorem zky (hE : SndE prog w mg mb k R) (hO : EOk R) {pos : Pos} {es : List Expr} (hA : Ok k A) (EO : EnvOk sc env cm) : ∀ {Ws : List V} {σ σ' : St} {fz : Fz} {Rr : Own} {s : Shared} {Q : List Value → Shared → Prop}, evs R sc es σ = some (Ws, σ') → Sim mg mb env cm pn σ Rr fz s →
 (∀ vs s' f X, Sb fz f → VRL f Ws vs X → Sim mg mb env cm pn σ' (X ++ Rr) f s' → Q vs s') → wpAny (model prog w) A (spliced (backTo pos (starEach es env))) Q NoE s := by
 induction es with
 | nil => exact fun he S q => by cases he; exact args_nil (q _ _ _ [] (Sb.refl _) ⟨rfl, rfl⟩ S)
 | cons e es ih =>
  refine fun he S q => zbn he fun W σ1 h1 h2 => znj h2 fun Ws σ2 h3 h4 => ?_
  cases h4
  exact args_cons (hE.use h1 hA EO S fun v s1 f1 X1 a1 b1 c1 => ih h3 c1 fun vs s2 f2 X2 a2 b2 c2 => q _ _ f2 (X1 ++ X2) (a1.trans a2) ⟨v, vs, X1, X2, rfl, rfl, VR.sub a2 _ b1, b2⟩ (c2.lo (by (intro p_; simp only [zaa, zac, zai]; exact yiY)))) (zaW fun a b q => by rw [q, hO.eSt] at h1; exact zaM h1)
theorem zvT (hE : SndE prog w mg mb k R) (hO : EOk R) {pos : Pos} {es : List Expr} {ds : List D} {Q : List Value → Shared → Prop} (he : evD R sc es σ = some (ds, σ')) (hA : Ok k A) (EO : EnvOk sc env cm) (S : Sim mg mb env cm pn σ Rr fz s)
 (q : ∀ vs s' f, Sb fz f → KnL f vs ds → Sim mg mb env cm pn σ' Rr f s' → Q vs s') : wpAny (model prog w) A (spliced (backTo pos (starEach es env))) Q NoE s :=
 znj he fun Ws σ2 h3 h4 => by
  cases h4
  exact zky hE hO hA EO h3 S fun vs s2 f2 X2 a2 b2 c2 => (c2.freezeL b2).elim fun f3 h => q _ _ f3 (a2.trans h.1) h.2.1 h.2.2
theorem zpg {ds : List D} : ∀ {xs : List Int}, zlx ds = some xs → ds = xs.map .int := by
 induction ds with
 | nil => exact fun e => by cases e; rfl
 | cons d ds ih => exact fun e => zlu e fun i h1 h2 => zft h2 fun ys h3 h4 => by rw [← h4, h1, ih h3]; rfl
theorem zgI {a b : D} {c : Bool} {f : Int → Int → Bool} {u v : Value} {l : List (Str × Value)} {own : Own} {G : Prop} (H : At mg mb env.locals l own fz s.heap) (e : (zeo a fun a => zeo b fun b => some (f a b)) = some c) (ka : Kn fz u a) (kb : Kn fz v b)
 (q : ∀ a b t t', u = .int a t → v = .int b t' → f a b = c → G) : G :=
 zlu e fun a h1 h2 => zlu h2 fun b h3 h4 => by
  rw [h1] at ka
  rw [h3] at kb
  obtain ⟨t, h5⟩ := H.isInt ka
  obtain ⟨t', h6⟩ := H.isInt kb
  exact q a b t t' h5 h6 (Option.some.inj h4)
theorem zrR {d : D} {u : Value} {l : List (Str × Value)} {own : Own} (H : At mg mb env.locals l own fz s.heap) (kd : Kn fz u d) : (u == Value.none) = isN d := by
 have := H.rep kd
 cases d with
 | none => have this : u = .none := this; rw [this]; rfl
 | int i => obtain ⟨t, rfl⟩ := this; rfl
 | bool b => have this : u = .bool b := this; rw [this]; rfl
 | lst xs => obtain ⟨a, vs, n, rfl, _⟩ := this; rfl
 | tup xs => obtain ⟨a, vs, n, rfl, _⟩ := this; rfl
theorem zrS {d : D} (h : isN d = true) : d = .none := by
 cases d with
 | none => rfl
 | _ => cases h
theorem zkz {op : CmpOp} {a b : D} {c : Bool} {u v : Value} {l : List (Str × Value)} {own : Own} {Q : Value → Shared → Prop} (H : At mg mb env.locals l own fz s.heap) (hA : Ok k A) (e : cmp op a b = some c) (ka : Kn fz u a) (kb : Kn fz v b) (q : Q (.bool c) s) :
 wpAny (model prog w) A (compareOp op u v) Q E s := by
 cases op
 case Eq => exact zgI H e ka kb fun a b t t' h1 h2 h3 => by rw [h1, h2]; exact PyProof.Rows.eq_int (h3 ▸ q)
 case Lt => exact zgI H e ka kb fun a b t t' h1 h2 h3 => by rw [h1, h2]; exact lt_int (h3 ▸ q)
 case LtE => exact zgI H e ka kb fun a b t t' h1 h2 h3 => by rw [h1, h2]; exact le_int (h3 ▸ q)
 case Gt => exact zgI H e ka kb fun a b t t' h1 h2 h3 => by rw [h1, h2]; exact gt_int (h3 ▸ q)
 case GtE => exact zgI H e ka kb fun a b t t' h1 h2 h3 => by rw [h1, h2]; exact ge_int (h3 ▸ q)
 case Is =>
  refine zcB e fun hb e => ?_
  rw [zrS hb] at kb
  rw [H.isNone kb]
  exact is_none (by rw [zrR H ka, Option.some.inj e]; exact q)
 case IsNot =>
  refine zcB e fun hb e => ?_
  rw [zrS hb] at kb
  rw [H.isNone kb]
  exact isNot_none (by rw [zrR H ka, Option.some.inj e]; exact q)
 case NotEq =>
  cases a
  case int a => exact zgI (a := .int a) (f := fun a b => !(a == b)) H e ka kb fun a b t t' h1 h2 h3 => by subst h3; rw [h1, h2]; exact ne_int q
  case lst a =>
   refine zlv e fun b hb e => zaE e fun xs h1 h2 => zft h2 fun ys h3 h4 => ?_
   rw [zpg h1] at ka
   rw [hb, zpg h3] at kb
   obtain ⟨a', vs, n, rfl, ho, hi⟩ := H.ints ka.memL
   obtain ⟨b', us, m, rfl, ho', hi'⟩ := H.ints kb.memL
   refine ne_intsK ho hi ho' hi' (by have := hA.2.2; exact yiX this) ?_
   have : (!decide (xs = ys)) = c := by rw [← h4]; congr 1; rw [Bool.eq_iff_iff]; simp
   rw [this]; exact q
  all_goals exact zaM e
 all_goals exact zaM e
theorem bim (hO : EOk R) {op : CmpOp} {r : Expr} {d : D} (h : evF R sc r σ = some (d, σ')) : behindInMarks op r = false := by
 cases r
 case Set => exact zft h fun v h1 _ => by rw [hO.eSet] at h1; exact zaM h1
 all_goals rfl
theorem bimq (hO : EOk R) {op : CmpOp} {r : Expr} (h : R.q r = true) : behindInMarks op r = false := by
 cases r
 case Set => rw [hO.se] at h; cases h
 all_goals rfl
theorem tC_snd (hE : SndE prog w mg mb k R) (hO : EOk R) {l r : Expr} {op : CmpOp} {pos : Pos} {b : Bool} (he : tC R sc l op r σ = some (b, σ')) (hA : Ok k A) (EO : EnvOk sc env cm) (S : Sim mg mb env cm pn σ Rr fz s) :
 wpAny (model prog w) A (isTrue (.Compare l [op] [r] pos) env (eval (.Compare l [op] [r] pos) env)) (PT mg mb env cm pn Rr fz b σ') NoE s :=
 zbn he fun a σ1 ha he => zbn he fun b' σ2 hb he => zft he fun c hc hh => by
  cases hh
  exact wpAny_isTrue_Compare1 (zcu hE ha hA EO S fun u s1 f1 a1 k1 S1 => zcu hE hb hA EO S1 fun v s2 f2 a2 k2 S2 => S2.at.elim fun l' H =>
   zkz H hA hc (k1.sub a2) k2 (wpAny_truthy_bool ⟨rfl, f2, a1.trans a2, S2⟩)) (bim hO hb)
theorem tD_snd (hE : SndE prog w mg mb k R) (hO : EOk R) {l r1 r2 : Expr} {o1 o2 : CmpOp} {pos : Pos} {b : Bool} (he : tD R sc l o1 o2 r1 r2 σ = some (b, σ')) (hA : Ok k A) (EO : EnvOk sc env cm) (S : Sim mg mb env cm pn σ Rr fz s) :
 wpAny (model prog w) A (isTrue (.Compare l [o1, o2] [r1, r2] pos) env (eval (.Compare l [o1, o2] [r1, r2] pos) env)) (PT mg mb env cm pn Rr fz b σ') NoE s :=
 znk he fun hq he => zbn he fun a σ1 ha he => zbn he fun b' σ2 hb he => zaE he fun c hc hh => by
  refine isTrue_chain (zcu hE ha hA EO S fun u s1 f1 a1 k1 S1 => test_link (zcu hE hb hA EO S1 fun v s2 f2 a2 k2 S2 => S2.at.elim fun l' H => zkz H hA hc (k1.sub a2) k2 (wpAny_truthy_bool ?_))) (by simp only [lastMarks]; exact bimq hO (by simpa using hq))
  cases c with
  | false => cases hh; exact ⟨rfl, f2, a1.trans a2, S2⟩
  | true =>
   refine zbn hh fun d σ3 hd hh => zft hh fun c' hc' hh => ?_
   cases hh
   exact test_last (zcu hE hd hA EO S2 fun v3 s3 f3 a3 k3 S3 => S3.at.elim fun l'' H3 => zkz H3 hA hc' (k2.sub a3) k3 (wpAny_truthy_bool ⟨rfl, f3, (a1.trans a2).trans a3, S3⟩))
theorem ztY (hT : SndT prog w mg mb k R) (hA : Ok k A) (EO : EnvOk sc env cm) {b : Bool} : ∀ {vs : List Expr} {σ : St} {fz : Fz} {s : Shared}, tOrs R sc vs σ = some (b, σ') → Sim mg mb env cm pn σ Rr fz s →
 wpAny (model prog w) A (allTrue .Or vs env) (PT mg mb env cm pn Rr fz b σ') NoE s := by
 intro vs
 induction vs with
 | nil => exact fun he S => by cases he; exact wpAny_allTrue_Or_nil ⟨rfl, _, Sb.refl _, S⟩
 | cons x r ih =>
  refine fun he S => zbn he fun c σ1 ha hh => wpAny_allTrue_Or_cons (hT.use ha hA EO S fun s1 f1 a1 S1 => ?_)
  cases c with
  | true => rw [if_pos rfl] at hh; cases hh; exact ⟨rfl, f1, a1, S1⟩
  | false => exact wpAny_mono (ih hh S1) (fun _ _ h => PT.sub a1 h) fun _ _ x => x
theorem zrT (hE : SndE prog w mg mb k R) (hO : EOk R) (hT : SndT prog w mg mb k R) : ∀ sc e σ b σ', zvM R sc e σ = some (b, σ') → ∀ A env cm pn Rr fz s, Ok k A → EnvOk sc env cm → Sim mg mb env cm pn σ Rr fz s → wpAny (model prog w) A (isTrue e env (eval e env)) (PT mg mb env cm pn Rr fz b σ') NoE s := by
 intro sc e σ b σ' he A env cm pn Rr fz s hA EO S
 have hk := kr e
 change tK R sc σ (kind e) = some (b, σ') at he
 generalize kind e = κ at hk he
 cases hk
 case cmp l ops rs pos => exact zvI he (fun r hr he => zhG he fun op ho he => by subst hr; subst ho; exact tC_snd hE hO he hA EO S) fun r1 r2 hr he => duoE he fun o1 o2 ho he => by subst hr; subst ho; exact tD_snd hE hO he hA EO S
 case boo op vs pos =>
  cases op
  case And =>
   refine duoE he fun x y hxy he => zbn he fun c σ1 ha hh => ?_
   subst hxy
   refine wpAny_isTrue_BoolOp (wpAny_allTrue_And_cons (hT.use ha hA EO S fun s1 f1 a1 S1 => ?_))
   cases c with
   | false => cases hh; exact ⟨rfl, f1, a1, S1⟩
   | true =>
    refine wpAny_allTrue_And_cons (hT.use hh hA EO S1 fun s2 f2 a2 S2 => ?_)
    cases b with
    | false => exact ⟨rfl, f2, a1.trans a2, S2⟩
    | true => exact wpAny_allTrue_And_nil ⟨rfl, f2, a1.trans a2, S2⟩
  case Or => exact wpAny_isTrue_BoolOp (ztY hT hA EO he S)
 all_goals exact zaM he
end
structure POk (R : Rec) : Prop extends EOk R where
 pName : ∀ sc x pos σ W, R.p sc (.Name x pos) σ = some W → (x == ("__debug__" : Str)) = false ∧ σ.get sc x = some W
section
variable {prog : Program} {w : World} {A : Around} {E : Value → Shared → Prop} {s : Shared} {mg : Str → Option Value} {mb : Bx} {k : Nat} {R : Rec} {Rr : Own} {fz fz' : Fz} {env : Env} {sc : Scope} {cm : List (Str × Addr)} {pn : List (Str × Value)} {σ σ' : St} {C : Cfg} {e : Expr}
theorem zdt {n : Nat} (h : zaI n = true) : n ≤ sizeLine := by
 unfold zaI at h
 have : n ≤ 2 ^ 24 := by simpa using h
 exact this
theorem PE.ofKn {d : D} {v : Value} {s' : Shared} (sb : Sb fz fz') (kn : Kn fz' v d) (S : Sim mg mb env cm pn σ' Rr fz' s') : PE mg mb env cm pn Rr fz (.f d) σ' v s' := ⟨fz', [], sb, VR.of kn, S⟩
theorem zrr {Y Z : Own} : ∀ p ∈ Y, p ∈ Y ++ (Z ++ Rr) := fun _ hp => List.mem_append_left _ hp
theorem zrs {Y Z : Own} : ∀ p ∈ Z, p ∈ Y ++ (Z ++ Rr) := fun _ hp => List.mem_append_right _ (List.mem_append_left _ hp)
theorem ztZ {Y Z : Own} : ∀ p ∈ Y ++ Z, p ∈ Y ++ (Z ++ Rr) := fun p hp => by rw [← List.append_assoc]; exact List.mem_append_left _ hp
theorem pI_use (hP : SndP prog w mg mb R) {W : V} {i : Int} {Q : Value → Shared → Prop} (q : R.q e = true) (he : R.p sc e σ = some W) (hi : W.int = some i) (EO : EnvOk sc env cm) (S : Sim mg mb env cm pn σ Rr fz s)
 (k : ∀ t s1 f1, Sb fz f1 → Sim mg mb env cm pn σ Rr f1 s1 → Q (.int i t) s1) : wpAny (model prog w) A (eval e env) Q NoE s := by
 cases S with | mk rs nd l Y Z H hS hC hp =>
 exact hP.useI q he hi EO rs H hS hC zrr zrs fun t s1 f1 a rs1 H1 => k t s1 f1 a (Sim.close rs1 nd H1 hS hC hp a (Lo.refl _))
theorem catD {u v : Value} {xs ys : List D} (S : Sim mg mb env cm pn σ Rr fz s) (ku : Kn fz u (.lst xs)) (kv : Kn fz v (.lst ys)) (hf : zaI (xs.length + ys.length) = true) :
 wpAny (model prog w) A (binaryOp .Add u v) (PE mg mb env cm pn Rr fz (.o ((xs ++ ys).map .f)) σ) NoE s := by
 obtain ⟨rs, nd, l, Y, Z, H, hS, hC, hp⟩ := S
 obtain ⟨a, vs, n, rfl, ho, hl, _, H1⟩ := H.list ku.memL
 obtain ⟨b, us, m, rfl, ho', hl', _, H2⟩ := H1.list (kv.sub (Sb.app _ _)).memL
 refine r_cat H2 ho ho' (by rw [hl, hl']; exact zdt hf) fun a' h' H' => ?_
 have sb : Sb fz (us.zip ys ++ (vs.zip xs ++ fz)) := (Sb.app _ _).trans (Sb.app _ _)
 refine ⟨_, [(a', _)], sb, ⟨a', vs ++ us, 0, [], rfl, rfl, VRL.ofKn (KnL.append ((zlo hl).sub (Sb.app _ _)) (zlo hl'))⟩, Sim.close rs nd H' hS hC hp sb (by (intro p_; simp only [zaa, zac, zai]; exact yiR))⟩
theorem KnL.replicate {v : Value} {d : D} (h : Kn fz v d) : ∀ n, KnL fz (List.replicate n v) (List.replicate n d)
 | 0 => .nil
 | n + 1 => .cons h (KnL.replicate h n)
theorem mulD {u : Value} {W : V} {X : Own} {i : Int} {t : Tok} (S : Sim mg mb env cm pn σ (X ++ Rr) fz s) (ku : VR fz (.o [W]) u X) (hk : i ≤ 2 ^ 24 ∧ -2 ^ 62 ≤ i) :
 wpAny (model prog w) A (binaryOp .Mult u (.int i t)) (PE mg mb env cm pn Rr fz (.o (List.replicate i.toNat (.f W.frz))) σ) NoE s := by
 obtain ⟨a, vs, n, Y, rfl, rfl, hh⟩ := ku
 obtain ⟨f1, sb, kn, S1⟩ := Sim.freezeL (R := (a, listOf vs.toArray n) :: Rr) (S.lo (R' := Y ++ ((a, listOf vs.toArray n) :: Rr)) (by (intro p_; simp only [zaa, zac, zai]; exact yiW))) hh
 obtain ⟨rs, nd, l, Y', Z, H, hS, hC, hp⟩ := S1
 simp only [V.frzL] at kn
 cases kn with | cons k1 k2 => cases k2 with | nil =>
 rename_i v
 have H1 := H.lo (own' := (a, listOf (List.toArray [v]) n) :: (Y' ++ (Z ++ Rr))) (by (intro p_; simp only [zaa, zac, zai]; exact yiB))
 refine r_mul1 H1 .hd hk.2 hk.1 fun a' h' H' => ?_
 refine ⟨f1, [(a', listOf (List.toArray (List.replicate i.toNat v)) 0)], sb, ⟨a', _, 0, [], rfl, rfl, ?_⟩, Sim.close rs nd H' hS hC hp (Sb.refl _) (by (intro p_; simp only [zaa, zac, zai]; exact yiR))⟩
 have := VRL.ofKn (KnL.replicate k1 i.toNat)
 rw [List.map_replicate] at this
 exact this
theorem listD {Ws : List V} {vs : List Value} {X : Own} {Q : Value → Shared → Prop} (S : Sim mg mb env cm pn σ (X ++ Rr) fz s) (ku : VRL fz Ws vs X) (hf : zaI Ws.length = true) (q : ∀ v s', PE mg mb env cm pn Rr fz (.o Ws) σ v s' → Q v s') :
 vs.length ≤ sizeLine ∧ Q (.ref s.heap.objs.size) { s with heap := s.heap.push { cls := .type "list", data := .seq vs.toArray } } := by
 obtain ⟨rs, nd, l, Y', Z, H, hS, hC, hp⟩ := S
 refine zvF H (by rw [ku.length]; exact zdt hf) fun a h' H' => q _ _ ?_
 exact ⟨fz, (a, _) :: X, Sb.refl _, ⟨a, vs, 0, X, rfl, rfl, ku⟩, Sim.close rs nd H' hS hC hp (Sb.refl _) (by (intro p_; simp only [zaa, zac, zai]; exact yir))⟩
theorem tupD {Ws : List V} {vs : List Value} {X : Own} {Q : Value → Shared → Prop} (S : Sim mg mb env cm pn σ (X ++ Rr) fz s) (ku : VRL fz Ws vs X) (hf : zaI Ws.length = true) (q : ∀ v s', PE mg mb env cm pn Rr fz (.f (.tup (V.frzL Ws))) σ v s' → Q v s') :
 vs.length ≤ sizeLine ∧ Q (.ref s.heap.objs.size) { s with heap := s.heap.push { cls := .type "tuple", data := .seq vs.toArray } } := by
 obtain ⟨f1, sb, kn, S1⟩ := Sim.freezeL S ku
 obtain ⟨rs, nd, l, Y', Z, H, hS, hC, hp⟩ := S1
 refine zvG H (by rw [ku.length]; exact zdt hf) fun a h' H' => q _ _ ?_
 have H2 := H'.freezeT .hd kn
 exact PE.ofKn (sb.trans (Sb.cons _ _)) (.mem (.head _)) (Sim.close rs nd H2 hS hC hp (Sb.cons _ _) (Lo.refl _))
theorem zrU {vs : List V} : ∀ {ds : List D}, znq vs = some ds → V.frzL vs = ds ∧ vs = ds.map .f := by
 induction vs with
 | nil => exact fun e => by cases e; exact ⟨rfl, rfl⟩
 | cons v vs ih =>
  refine fun e => onFE e fun d h1 h2 => zft h2 fun ys h3 h4 => ?_
  subst h4
  subst h1
  obtain ⟨a, b⟩ := ih h3
  exact ⟨by simp only [V.frzL, V.frz, a], by rw [b]; rfl⟩
theorem VRL.toKn {ds : List D} : ∀ {vs : List Value} {X : Own}, VRL fz (ds.map .f) vs X → KnL fz vs ds := by
 induction ds with
 | nil => intro vs X h; rw [h.1]; exact .nil
 | cons d ds ih =>
  intro vs X h
  obtain ⟨v, r, Y, Z, e, q, a, b⟩ := h
  subst e
  exact .cons a.1 (ih b)
theorem zh8 (hP : SndP prog w mg mb R) {v : Expr} {lo hi : Option Expr} {p : Pos} {ds : List D} {l h : Option Int} {a : Addr} {ll : List (Str × Value)} {Y Z : Own} {fz1 : Fz} {s1 : Shared}
 (hlo : zda R sc lo σ = some l) (hhi : zda R sc hi σ = some h) (hf : zaI ds.length = true) (ol : zbQ l = true) (oh : zbQ h = true) (EO : EnvOk sc env cm)
 (nd : (σ.r.map (·.1)).Nodup) (hS : SR ll fz σ.r Y) (hC : CR fz cm σ.k Z) (hp : ∀ p ∈ pn, p ∈ ll) (sb1 : Sb fz fz1) (rs1 : Rs mb s1) (H1 : At mg mb env.locals ll (Y ++ (Z ++ Rr)) fz1 s1.heap)
 (hget : ∀ (s2 : Shared) fz2, Sb fz1 fz2 → At mg mb env.locals ll (Y ++ (Z ++ Rr)) fz2 s2.heap → ∃ fz3 vs, ∃ _ : Nat, Sb fz2 fz3 ∧ At mg mb env.locals ll (Y ++ (Z ++ Rr)) fz3 s2.heap ∧ s2.heap.IsList a (List.toArray vs) ∧ KnL fz3 vs ds) :
 wpAny (model prog w) A (evalPart lo env) (fun vl s₂ => wpAny (model prog w) A (evalPart hi env) (fun vu s₃ =>
  wpAny (model prog w) A (subscriptTail v (.Slice lo hi none p) (.ref a) (.ref s₃.heap.objs.size)) (PE mg mb env cm pn Rr fz (.o ((pick ds l h).map .f)) σ) NoE { s₃ with heap := s₃.heap.push { cls := .type "slice", data := .fields #[vl, vu, .none] } }) NoE s₂) NoE s1 := by
 have part : ∀ {x : Option Expr} {i : Option Int} {fz1 : Fz} {s1 : Shared} {Q : Value → Shared → Prop}, zda R sc x σ = some i → Sb fz fz1 → Rs mb s1 → At mg mb env.locals ll (Y ++ (Z ++ Rr)) fz1 s1.heap →
  (∀ v s' f, IsPart v i → Sb fz1 f → Rs mb s' → At mg mb env.locals ll (Y ++ (Z ++ Rr)) f s'.heap → Q v s') → wpAny (model prog w) A (evalPart x env) Q NoE s1 := by
  intro x i fz1 s1 Q hx sb1 rs1 H1 q
  cases x with
  | none => cases hx; exact wpAny_evalPart_none (q _ _ _ .none (Sb.refl _) rs1 H1)
  | some e =>
   refine zcB hx fun qe hx => zaE hx fun W g1 g2 => zft g2 fun j g3 h4 => ?_
   subst h4
   exact hP.useI (e := e) qe g1 g3 EO rs1 H1 (hS.sub sb1) (hC.sub sb1) zrr zrs fun t s2 f1 a rs2 H2 => q _ _ _ (.int _ _) a rs2 H2
 refine part hlo sb1 rs1 H1 fun vl s2 f2 pl sb2 rs2 H2 => part hhi (sb1.trans sb2) rs2 H2 fun vu s3 f3 pu sb3 rs3 H3 => ?_
 obtain ⟨f4, vs, n, sb4, H4, ho, kn⟩ := hget s3 f3 (sb2.trans sb3) H3
 refine zrC H4 ho pl pu (by rw [kn.length]; exact zdt hf) fun a' h' H' => ?_
 have sb : Sb fz f4 := ((sb1.trans sb2).trans sb3).trans sb4
 exact ⟨f4, [(a', listOf (List.toArray (pick vs l h)) 0)], sb, ⟨a', _, 0, [], rfl, rfl, VRL.ofKn (kn.pick l h)⟩, Sim.close rs3 nd H' hS hC hp sb (by (intro p_; simp only [zaa, zac, zai]; exact yiR))⟩
theorem At.frozenGet {l : List (Str × Value)} {own : Own} {a : Addr} {ds : List D} (m : (.ref a, D.lst ds) ∈ fz) (s2 : Shared) (fz2 : Fz) (sb : Sb fz fz2) (H : At mg mb env.locals l own fz2 s2.heap) :
 ∃ fz3 vs, ∃ _ : Nat, Sb fz2 fz3 ∧ At mg mb env.locals l own fz3 s2.heap ∧ s2.heap.IsList a (List.toArray vs) ∧ KnL fz3 vs ds := by
 obtain ⟨a', vs, n, e, ho, hl, _, H'⟩ := H.list (sb _ m)
 cases e
 exact ⟨_, vs, n, Sb.app _ _, H', ho, zlo hl⟩
theorem zrV (hP : SndP prog w mg mb R) (hE : SndE prog w mg mb k R) {v : Expr} {lo hi : Option Expr} {p pos : Pos} {ds : List D} {l h : Option Int} (hv : evB R sc v σ = some (ds, σ')) (hlo : zda R sc lo σ' = some l) (hhi : zda R sc hi σ' = some h)
 (hf : zaI ds.length = true) (ol : zbQ l = true) (oh : zbQ h = true) (hA : Ok k A) (EO : EnvOk sc env cm) (S : Sim mg mb env cm pn σ Rr fz s) :
 wpAny (model prog w) A (eval (.Subscript v (.Slice lo hi none p) pos) env) (PE mg mb env cm pn Rr fz (.o ((pick ds l h).map .f)) σ') NoE s := by
 refine zvH ?_
 unfold evB at hv
 by_cases q : R.q v = true
 · rw [if_pos q] at hv
   refine zaE hv fun W h1 h2 => ?_
   cases S with | mk rs nd ll Y Z H hS hC hp =>
   refine hP.use q h1 EO rs H hS hC zrr zrs fun v1 s1 f1 X a1 b1 c1 rs1 H1 => ?_
   cases W with
   | o vs =>
    refine zft h2 fun ds' g1 g2 => ?_
    cases g2
    obtain ⟨_, rfl⟩ := zrU g1
    obtain ⟨a, vs, n, Y', rfl, rfl, hh⟩ := b1
    exact zh8 hP hlo hhi hf ol oh EO nd hS hC hp a1 rs1 H1 fun s2 fz2 sb2 H2 => ⟨fz2, vs, n, Sb.refl _, H2, isL (H2.get (c1 _ (.head _))), hh.toKn.sub sb2⟩
   | f d =>
    refine zlv h2 fun ds' g1 g2 => ?_
    subst g1
    cases g2
    obtain ⟨a, vs, n, rfl, ho, hl, _, H2⟩ := H1.list b1.1.memL
    exact zh8 hP hlo hhi hf ol oh EO nd hS hC hp a1 rs1 H1 (At.frozenGet b1.1.memL)
 · rw [if_neg q] at hv
   refine zbn hv fun d σ1 h1 h2 => zlv h2 fun ds' g1 g2 => zcB g2 fun g3 g4 => ?_
   cases g4
   refine zcu hE h1 hA EO S fun v1 s1 f1 a1 b1 S1 => ?_
   cases S1 with | mk rs nd ll Y Z H hS hC hp =>
   have g1 : d = .lst ds := g1
   rw [g1] at b1
   obtain ⟨a, vs, n, rfl, ho, hl, _, H2⟩ := H.list b1.memL
   exact wpAny_mono (zh8 (v := v) (p := p) hP hlo hhi hf ol oh EO nd hS hC hp (Sb.refl _) rs H (At.frozenGet b1.memL)) (fun vl s2 h => wpAny_mono h (fun vu s3 h => wpAny_mono h (fun v s4 h => PE.sub a1 h) fun _ _ x => x) fun _ _ x => x) fun _ _ x => x
theorem zph {v : V} {ds : List D} (e : zkv v = some ds) : v.frz = .lst ds ∧ zaI ds.length = true :=
 zlv e fun ds' q h => zcB h fun h1 h2 => by cases h2; exact ⟨q, h1⟩
theorem zpi (hE : SndE prog w mg mb k R) {r : Expr} {xs : List D} {u : Value} {W : V} (h : (R.e sc r σ).bind (zvO xs) = some (W, σ')) (kn : Kn fz u (.lst xs)) (hA : Ok k A) (EO : EnvOk sc env cm) (S : Sim mg mb env cm pn σ Rr fz s) :
 wpAny (model prog w) A (eval r env) (fun v s' => wpAny (model prog w) A (binaryOp .Add u v) (PE mg mb env cm pn Rr fz W σ') NoE s') NoE s :=
 zbn h fun b σ2 g1 g2 => zaE g2 fun ys g5 g6 => zcB g6 fun hf g7 => by
  cases g7
  refine hE.use g1 hA EO S fun v s2 f2 X2 a2 b2 S2 => (S2.freeze b2).elim fun f2' h => ?_
  have kn2 := h.2.1
  rw [(zph g5).1] at kn2
  exact wpAny_mono (catD h.2.2 ((kn.sub a2).sub h.1) kn2 hf) (fun v s3 x => PE.sub (a2.trans h.1) x) fun _ _ x => x
theorem zt0 (hE : SndE prog w mg mb k R) {op : Operator} {r : Expr} {v : V} {u : Value} {X : Own} {W : V} (he : eBin R sc op r v σ = some (W, σ')) (b1 : VR fz v u X) (hA : Ok k A) (EO : EnvOk sc env cm) (S : Sim mg mb env cm pn σ (X ++ Rr) fz s) :
 wpAny (model prog w) A (eval r env) (fun v' s' => wpAny (model prog w) A (binaryOp op u v') (PE mg mb env cm pn Rr fz W σ') NoE s') NoE s := by
 cases v with
 | f d =>
  obtain ⟨b1, rfl⟩ := b1
  cases d with
  | int i =>
   refine zbn he fun b σ2 g1 g2 => zft g2 fun c g3 g4 => ?_
   cases g4
   obtain ⟨l', H⟩ := S.at
   obtain ⟨t, rfl⟩ := H.isInt b1
   exact zcU hE g1 hA EO S fun t' s2 f2 a2 S2 => zrK g3 fun t tk => PE.ofKn a2 (.int _ _) S2.tk
  | lst xs =>
   refine zcB he fun ho he => ?_
   subst ho
   exact zpi hE he b1 hA EO S
  | _ => exact zaM he
 | o vs =>
  by_cases hm : op = .Mult
  · subst hm
    refine zhG he fun v hv he => zbn he fun b σ2 g1 g2 => zcB g2 fun hb g2 => ?_
    cases g2
    subst hv
    exact zcU hE g1 hA EO S fun t' s2 f2 a2 S2 => wpAny_mono (mulD S2 (VR.sub a2 _ b1) hb) (fun v s3 h => PE.sub a2 h) fun _ _ x => x
  · change zvP R sc op r vs σ = _ at he
    unfold zvP at he
    rw [if_neg hm] at he
    refine zcB he fun ho he => zaE he fun b g1 g2 => zaE g2 fun xs g3 g4 => ?_
    subst ho
    obtain ⟨f1', sb1, kn1, S1'⟩ := S.freeze b1
    rw [(zph g3).1] at kn1
    exact wpAny_mono (zpi (σ' := σ') (W := W) hE (by rw [g1]; exact g4) kn1 hA EO S1') (fun v s2 h => wpAny_mono h (fun v s3 h => PE.sub sb1 h) fun _ _ x => x) fun _ _ x => x
theorem item_f {d : D} {i : Int} {W : V} (h : (V.f d).item i = some W) : ∃ dd, W = .f dd := by
 cases d with
 | lst ds => obtain ⟨dd, _, rfl⟩ := Option.map_eq_some_iff.mp h; exact ⟨dd, rfl⟩
 | tup ds => obtain ⟨dd, _, rfl⟩ := Option.map_eq_some_iff.mp h; exact ⟨dd, rfl⟩
 | _ => exact zaM h
theorem zt1 (hP : SndP prog w mg mb R) (hE : SndE prog w mg mb k R) {v i : Expr} {pos : Pos} {W : V} (he : eSub R sc v i σ = some (W, σ')) (hns : znn i) (hA : Ok k A) (EO : EnvOk sc env cm) (S : Sim mg mb env cm pn σ Rr fz s) :
 wpAny (model prog w) A (eval (.Subscript v i pos) env) (PE mg mb env cm pn Rr fz W σ') NoE s :=
 zbn he fun d σ1 h1 h2 => zcB h2 fun q h2 => zaE h2 fun ki h3 h4 => zaE h4 fun kk h5 h6 => zft h6 fun x h7 h8 => by
  cases h8
  refine Subscript_ (zcu hE h1 hA EO S fun u s1 f1 a1 k1 S1 => pI_use hP q h3 h5 EO S1 fun t s2 f2 a2 S2 => ?_)
  cases S2 with | mk rs nd l Y Z H hS hC hp =>
  obtain ⟨dd, rfl⟩ := item_f h7
  exact zrP H hns (VR.of (k1.sub a2)) zrJ h7 fun x f3 Y' a3 H3 hv _ => PE.ofKn ((a1.trans a2).trans a3) hv.1 (Sim.close rs nd H3 hS hC hp a3 (Lo.refl _))
theorem eQ_snd (hP : SndP prog w mg mb R) (hO : POk R) {W1 W : V} (q : R.q e = true) (h1 : R.p sc e σ = some W1) (h2 : eQ sc e σ W1 = some (W, σ')) (EO : EnvOk sc env cm) (S : Sim mg mb env cm pn σ Rr fz s) :
 wpAny (model prog w) A (eval e env) (PE mg mb env cm pn Rr fz W σ') NoE s := by
 cases W1 with
 | f d =>
  cases h2
  cases S with | mk rs nd l Y Z H hS hC hp =>
  exact hP.use q h1 EO rs H hS hC zrr zrs fun v s1 f1 X a b c rs1 H1 => PE.ofKn a b.1 (Sim.close rs1 nd H1 hS hC hp a (Lo.refl _))
 | o vs =>
  refine zdr h2 fun x p hx h3 => zft h3 fun σ1 h3 h4 => ?_
  cases h4
  subst hx
  obtain ⟨hd, hg⟩ := hO.pName _ _ _ _ _ h1
  cases S.take hg with | mk l v X T rs H kv _ n back =>
  refine n.eval hd EO H ?_
  obtain ⟨f1, sb, kn, H1⟩ := VR.freeze _ kv H
  simp only [V.frz] at kn
  obtain ⟨σ2, g1, g2⟩ := back f1 (.f (.lst (V.frzL vs))) [] s Rr _ rs sb (VR.of kn) H1 (Lo.refl _)
  rw [h3] at g1; cases g1
  exact PE.ofKn sb kn g2
structure Rest (prog : Program) (w : World) (mg : Str → Option Value) (mb : Bx) (k : Nat) (C : Cfg) (R : Rec) : Prop where
 comp : ∀ sc elt gens scope pos σ W σ', zfo C R sc elt gens scope σ = some (W, σ') → ∀ A env cm pn Rr fz s, Ok k A → EnvOk sc env cm → Sim mg mb env cm pn σ Rr fz s → wpAny (model prog w) A (eval (.ListComp elt gens scope pos) env) (PE mg mb env cm pn Rr fz W σ') NoE s
 call : ∀ sc g gp args pos σ W σ', zfp C R sc g args σ = some (W, σ') → ∀ A env cm pn Rr fz s, Ok k A → EnvOk sc env cm → Sim mg mb env cm pn σ Rr fz s → wpAny (model prog w) A (eval (.Call (.Name g gp) args [] pos) env) (PE mg mb env cm pn Rr fz W σ') NoE s
theorem eK_snd (hP : SndP prog w mg mb R) (hE : SndE prog w mg mb k R) (hT : SndT prog w mg mb k R) (hO : POk R) (hR : Rest prog w mg mb k C R) {κ : K} {W : V} (hk : KR e κ) (he : eK C R sc σ κ = some (W, σ')) (hA : Ok k A) (EO : EnvOk sc env cm) (S : Sim mg mb env cm pn σ Rr fz s) :
 wpAny (model prog w) A (eval e env) (PE mg mb env cm pn Rr fz W σ') NoE s := by
 cases hk
 case bin l op r pos => exact zaE he fun a h1 h2 => wpAny_BinOp (hE.use (σ' := a.2) h1 hA EO S fun u s1 f1 X a1 b1 S1 => wpAny_mono (zt0 hE h2 b1 hA EO S1) (fun v s2 h => wpAny_mono h (fun v s3 h => PE.sub a1 h) fun _ _ x => x) fun _ _ x => x)
 case un op x pos =>
  refine zcB he fun ho he => znj he fun a σ1 h1 h2 => ?_
  cases h2
  subst ho
  exact wpAny_UnaryOp (zcU hE h1 hA EO S fun t f2 s1 a2 S2 => r_neg fun t tk => PE.ofKn a2 (.int _ _) S2.tk)
 case ife t b o pos =>
  refine zbn he fun c σ1 h1 h2 => wpAny_IfExp (hT.use h1 hA EO S fun s1 f1 a1 S1 => ?_)
  cases c with
  | true => change R.e sc b σ1 = _ at h2; exact wpAny_mono (hE _ _ _ _ _ h2 _ _ _ _ _ _ s1 hA EO S1) (fun _ _ h => PE.sub a1 h) fun _ _ x => x
  | false => change R.e sc o σ1 = _ at h2; exact wpAny_mono (hE _ _ _ _ _ h2 _ _ _ _ _ _ s1 hA EO S1) (fun _ _ h => PE.sub a1 h) fun _ _ x => x
 case comp elt gens scope pos => exact hR.comp _ _ _ _ _ _ _ _ he _ _ _ _ _ _ _ hA EO S
 case cmp l ops rs pos =>
  refine zhG he fun op ho he => zhG he fun r hr he => zbn he fun a σ1 ha he => zbn he fun b' σ2 hb he => zft he fun c hc hh => ?_
  cases hh
  subst ho
  subst hr
  exact wpAny_Compare1 (zcu hE ha hA EO S fun u s1 f1 a1 k1 S1 => zcu hE hb hA EO S1 fun v s2 f2 a2 k2 S2 => S2.at.elim fun l' H => zkz H hA hc (k1.sub a2) k2 (PE.ofKn (a1.trans a2) (.bool _) S2)) (bim hO.toEOk hb)
 case call g gp args pos => exact hR.call _ _ _ _ _ _ _ _ he _ _ _ _ _ _ _ hA EO S
 case lst elts pos =>
  refine zbn he fun Ws σ1 h1 h2 => zcB h2 fun hf h2 => ?_
  cases h2
  exact wpAny_List (zky hE hO.toEOk hA EO h1 S fun vs s1 f1 X a1 b1 S1 => listD S1 b1 hf fun v s' h => PE.sub a1 h)
 case tup elts kk pos =>
  refine zbn he fun Ws σ1 h1 h2 => zcB h2 fun hf h2 => ?_
  cases h2
  exact wpAny_Tuple (zky hE hO.toEOk hA EO h1 S fun vs s1 f1 X a1 b1 S1 => tupD S1 b1 hf fun v s' h => PE.sub a1 h)
 case sub v i pos =>
  change (match slOf (kind i) with
  | some x => match x.2.2 with
   | none => zvj R sc v x.1 x.2.1 σ
   | some _ => none
  | none => eSub R sc v i σ) = some (W, σ') at he
  cases hq : slOf (kind i) with
  | none => rw [hq] at he; exact zt1 hP hE he (zhT fun a b c d hh => by rw [hh] at hq; cases hq) hA EO S
  | some x =>
   rw [hq] at he
   obtain ⟨p, hi⟩ := kr_sli (kr i) hq
   obtain ⟨lo, hi, st⟩ := x
   subst hi
   cases st with
   | none =>
    refine zaE he fun a h1 h2 => zaE h2 fun lo h3 h4 => zaE h4 fun hi h5 h6 => zcB h6 fun hf h6 => ?_
    cases h6
    rw [Bool.and_eq_true, Bool.and_eq_true] at hf
    exact zrV hP hE h1 h3 h5 hf.1.1 hf.1.2 hf.2 hA EO S
   | some => exact zaM he
 all_goals exact zaM he
theorem zrW (hP : SndP prog w mg mb R) (hE : SndE prog w mg mb k R) (hT : SndT prog w mg mb k R) (hO : POk R) (hR : Rest prog w mg mb k C R) :
 ∀ sc e σ W σ', zdM C R sc e σ = some (W, σ') → ∀ A env cm pn Rr fz s, Ok k A → EnvOk sc env cm → Sim mg mb env cm pn σ Rr fz s → wpAny (model prog w) A (eval e env) (PE mg mb env cm pn Rr fz W σ') NoE s := by
 intro sc e σ W σ' he A env cm pn Rr fz s hA EO S
 unfold zdM at he
 by_cases q : R.q e = true
 · rw [if_pos q] at he
   exact zaE he fun W1 h1 h2 => eQ_snd hP hO q h1 h2 EO S
 · rw [if_neg q] at he
   exact eK_snd hP hE hT hO hR (kr e) he hA EO S
end
section
variable {M : Model} {A : Around} {E : Value → Shared → Prop} {s : Shared} {env : Env}
theorem zvU {pos : Pos} {a : Addr} {args : List (Bool × Sem Value)} {Q : Value → Shared → Prop} (hplain : args.any (·.1) = false)
 (h : wpAny M A (evalArgs (.ref a) true args []) (fun x s₁ => (∃ o fd, s₁.heap.get? a = some o ∧ o.data = .func fd) ∧ wpAny M A (call (.ref a) x.pos x.kw) Q E s₁) E s) :
 wpAny M A (callWith pos (.ref a) [] args []) Q E s := by
 unfold callWith
 refine wpAny_bind (wpAny_holding (wpAny_mono h (fun x s₁ h₁ => wpAny_bind (wpAny_standAt ?_)) fun _ _ x => x))
 obtain ⟨⟨o, fd, ho, hd⟩, h₁⟩ := h₁
 have tail : ∀ {t : Sem Value}, wpAny M A t Q E s₁ → wpAny M A (t >>= fun r => holding [r] point >>= fun _ => pure r) Q E s₁ :=
  fun ht => wpAny_bind (wpAny_mono ht (fun r s₂ hr => wpAny_bind (wpAny_holding (wpAny_point (wpAny_pure hr)))) fun _ _ x => x)
 simp only [hplain, List.any_nil, Bool.or_false]
 refine wpAny_bind (m := keeperOf (.ref a)) ?_
 unfold keeperOf
 refine wpAny_bind (wpAny_load ho ?_)
 rw [hd]
 refine wpAny_pure ?_
 dsimp only
 refine wpAny_ite ?_
 split
 · exact tail h₁
 · exact tail (by unfold callMarked; exact wpAny_keep h₁)
theorem zpj {pos : Pos} : ∀ {es : List Expr}, (∀ e ∈ es, ∀ a b, e ≠ .Starred a b) → (backTo pos (starEach es env)).any (·.1) = false
 | [], _ => rfl
 | e :: es, h => by
  rw [zaW (h e (.head _))]
  show (false || (backTo pos (starEach es env)).any (·.1)) = false
  rw [zpj fun e he => h e (.tail _ he)]
  rfl
theorem zlC {pos : Pos} {a : Addr} {es : List Expr} {Q : Value → Shared → Prop} (hs : ∀ e ∈ es, ∀ a b, e ≠ .Starred a b) (hne : es ≠ [])
 (h : wpAny M A (spliced (backTo pos (starEach es env))) (fun vs s₁ => (∃ o fd, s₁.heap.get? a = some o ∧ o.data = .func fd) ∧ wpAny M A (call (.ref a) vs) Q E s₁) E s) :
 wpAny M A (callWith pos (.ref a) [] (backTo pos (starEach es env)) []) Q E s := by
 refine zvU (zpj hs) ?_
 cases es with
 | nil => exact absurd rfl hne
 | cons e rest =>
  have he := zaW (rest := rest) (env := env) (hs e (.head _))
  rw [he] at h ⊢
  exact evalArgs_plain h
end
noncomputable def IsRec (f : Str) : Prop := ∃ i dr, zbp i = some dr ∧ dr.name = f
noncomputable def SpecP (prog : Program) (w : World) (mg : Str → Option Value) (mb : Bx) (k : Nat) (f : Str) (ds : List D) (d : D) : Prop :=
 IsRec f ∧ ∀ A L l own fz s vs a, Ok k A → mg f = some (.ref a) → Rs mb s → At mg mb L l own fz s.heap → KnL fz vs ds →
  wpAny (model prog w) A (call (.ref a) vs) (fun v s' => ∃ fz', Sb fz fz' ∧ Kn fz' v d ∧ Rs mb s' ∧ At mg mb L l own fz' s'.heap) NoE s
noncomputable def SpecR (prog : Program) (w : World) (mg : Str → Option Value) (mb : Bx) (k : Nat) (f : Str) (V : V) (ds : List D) (d : D) (V' : Mine.V) : Prop :=
 IsRec f ∧ ∀ A L l own fz s v X vs a, Ok k A → mg f = some (.ref a) → Rs mb s → At mg mb L l (X ++ own) fz s.heap → VR fz V v X → KnL fz vs ds →
  wpAny (model prog w) A (call (.ref a) (v :: vs)) (fun r s' => ∃ fz' X', Sb fz fz' ∧ Kn fz' r d ∧ VR fz' V' v X' ∧ Rs mb s' ∧ At mg mb L l (X' ++ own) fz' s'.heap) NoE s
structure TOk (prog : Program) (w : World) (mg : Str → Option Value) (mb : Bx) (k : Nat) (C : Cfg) : Prop where
 t : ∀ f ds d, C.T f ds = some d → SpecP prog w mg mb k f ds d
 r : ∀ f V ds d V', C.TR f V ds = some (d, V') → SpecR prog w mg mb k f V ds d V'
section
variable {prog : Program} {w : World} {A : Around} {E : Value → Shared → Prop} {s : Shared} {mg : Str → Option Value} {mb : Bx} {k : Nat} {R : Rec} {Rr : Own} {fz fz' : Fz} {env : Env} {sc : Scope} {cm : List (Str × Addr)} {pn : List (Str × Value)} {σ σ' : St} {C : Cfg} {e : Expr} {L : Addr} {l : List (Str × Value)} {own : Own} {h : Heap}
theorem IsRec.at {f : Str} (I : IsRec f) (H : At mg mb L l own fz h) : ∃ a, mg f = some (.ref a) ∧ ∀ {L' l' own' fz' h'}, At mg mb L' l' own' fz' h' → ∃ o fd, h'.get? a = some o ∧ o.data = .func fd := by
 obtain ⟨i, dr, hi, rfl⟩ := I
 obtain ⟨a, o, pm, code, doc, h1, h2, h3, h4⟩ := H.cx.fn i dr hi
 refine ⟨a, h1, fun {L' l' own' fz' h'} H' => ?_⟩
 obtain ⟨a', o', pm', code', doc', g1, g2, g3, g4⟩ := H'.cx.fn i dr hi
 rw [h1] at g1; cases g1
 exact ⟨o', _, g2, g3⟩
theorem zh9 (EO : EnvOk sc env cm) {g : Str} (h : zar sc g = true) : env.kindOf g = some .globalImplicit := EO.kd (by simpa [zar] using h)
theorem zt2 (hO : EOk R) {es : List Expr} : ∀ {σ : St} {v}, evs R sc es σ = some v → ∀ e ∈ es, ∀ a b, e ≠ .Starred a b := by
 induction es with
 | nil => intro σ v h e he; cases he
 | cons e es ih =>
  refine fun h e' he' a b q => zaE h fun W h1 h2 => zft h2 fun Ws h3 h4 => ?_
  rcases List.mem_cons.mp he' with rfl | he'
  · rw [q, hO.eSt] at h1; exact zaM h1
  · exact ih h3 _ he' a b q
theorem zpk (hO : EOk R) {x : Expr} {v} (h : evF R sc x σ = some v) : ∀ a b, x ≠ .Starred a b := fun a b q => zft h fun v h1 _ => by
 rw [q, hO.eSt] at h1
 exact zaM h1
theorem zdO (hO : EOk R) {x : Expr} {v} (h : evI R sc x σ = some v) : ∀ a b, x ≠ .Starred a b := zaE h fun _ h1 _ => zpk hO h1
theorem zga (hO : EOk R) {x : Expr} {v} (h : evL R sc x σ = some v) : ∀ a b, x ≠ .Starred a b := zaE h fun _ h1 _ => zpk hO h1
theorem zia (hE : SndE prog w mg mb k R) {ds : List D} {Q : Value → Shared → Prop} (he : evL R sc e σ = some (ds, σ')) (hA : Ok k A) (EO : EnvOk sc env cm) (S : Sim mg mb env cm pn σ Rr fz s)
 (q : ∀ v s1 f1, zaI ds.length = true → Sb fz f1 → Kn f1 v (.lst ds) → Sim mg mb env cm pn σ' Rr f1 s1 → Q v s1) : wpAny (model prog w) A (eval e env) Q NoE s :=
 zbn he fun d σ1 h1 h2 => zlv h2 fun ds' h3 h4 => zcB h4 fun hf h4 => by
  cases h4
  exact zcu hE h1 hA EO S fun v s1 f1 a b c => q v s1 f1 hf a (h3 ▸ b) c
theorem zg4 {g : Str} {b : Value} {pos : Pos} {Q : Value → Shared → Prop} (S : Sim mg mb env cm pn σ Rr fz s) (EO : EnvOk sc env cm) (hb : (g, b) ∈ zcH) (hg : zar sc g = true) (hd : (g == ("__debug__" : Str)) = false) (q : Q b s) :
 wpAny (model prog w) A (eval (.Name g pos) env) Q E s := by
 obtain ⟨l, H⟩ := S.at
 exact zlp H hb EO.g EO.b EO.kf (zh9 EO hg) hd q
theorem zt3 (hO : EOk R) {x : Expr} (hx : ∀ a b, x ≠ .Starred a b) {es : List Expr} : ∀ {v}, evP R sc es σ = some v → ∀ e ∈ x :: es, ∀ a b, e ≠ .Starred a b := by
 have tl : ∀ {v}, evP R sc es σ = some v → ∀ e ∈ es, ∀ a b, e ≠ .Starred a b := by
  induction es with
  | nil => intro v h e he; cases he
  | cons y es ih =>
   refine fun h e he => zcB h fun q h => zaE h fun W h1 h2 => onFE h2 fun d h3 h4 => zft h4 fun ds h5 h6 => ?_
   rcases List.mem_cons.mp he with rfl | he
   · exact hO.star q
   · exact ih h5 e he
 intro v h e he
 rcases List.mem_cons.mp he with rfl | he
 · exact hx
 · exact tl h e he
theorem zvV (hP : SndP prog w mg mb R) (hO : EOk R) {pos : Pos} {Y Z : Own} {l : List (Str × Value)} (EO : EnvOk sc env cm) (hS : SR l fz σ.r Y) (hC : CR fz cm σ.k Z) {es : List Expr} : ∀ {ds : List D} {fz1 : Fz} {s : Shared} {Q : List Value → Shared → Prop}, evP R sc es σ = some ds → Sb fz fz1 → Rs mb s → At mg mb env.locals l (Y ++ (Z ++ Rr)) fz1 s.heap →
 (∀ vs s' f, Sb fz1 f → KnL f vs ds → Rs mb s' → At mg mb env.locals l (Y ++ (Z ++ Rr)) f s'.heap → Q vs s') → wpAny (model prog w) A (spliced (backTo pos (starEach es env))) Q NoE s := by
 induction es with
 | nil => exact fun h sb rs H q => by cases h; exact args_nil (q _ _ _ (Sb.refl _) .nil rs H)
 | cons e es ih =>
  refine fun h sb rs H q => zcB h fun qe h => zaE h fun W h1 h2 => onFE h2 fun d h3 h4 => zft h4 fun ds h5 h6 => ?_
  subst h6
  subst h3
  exact args_cons (hP.use qe h1 EO rs H (hS.sub sb) (hC.sub sb) zrr zrs fun v s1 f1 X a1 b1 c1 rs1 H1 => ih h5 (sb.trans a1) rs1 H1 fun vs s2 f2 a2 kn rs2 H2 => q _ _ f2 (a1.trans a2) (.cons (b1.1.sub a2) kn) rs2 H2) (zaW (hO.star qe))
theorem zrX (hP : SndP prog w mg mb R) (hO : POk R) (hT : TOk prog w mg mb k C) (zjG : ∀ f, IsRec f → (f == ("__debug__" : Str)) = false) {g : Str} {gp pos : Pos} {args : List Expr} {W : V} (he : callR C R sc g args σ = some (W, σ')) (hg : zar sc g = true) (hA : Ok k A) (EO : EnvOk sc env cm) (S : Sim mg mb env cm pn σ Rr fz s) :
 wpAny (model prog w) A (eval (.Name g gp) env) (fun f s' => wpAny (model prog w) A (callWith pos f [] (backTo pos (starEach args env)) []) (PE mg mb env cm pn Rr fz W σ') NoE s') NoE s := by
 cases args with
 | nil => exact zaM he
 | cons a rest =>
 refine zdr he fun x xp hx he => znk he fun hd he => zaE he fun v0 h1 he => ztV he fun vs0 h2 he => zaE he fun ds h3 he => zbn he fun d V' h6 he => zft he fun σ2 h8 h9 => ?_
 cases h9
 subst hx
 subst h2
 obtain ⟨I, spec⟩ := hT.r _ _ _ _ _ h6
 cases S with | mk rs nd l Y Z H hS hC hp =>
 obtain ⟨a, ha, isf⟩ := I.at H
 refine zpa H ha EO.g EO.kf (zh9 EO hg) (zjG _ I) ?_
 cases zf9 (mg := mg) (mb := mb) (env := env) nd hS hC hp h1 with | mk v X T kv cn n back =>
 refine zlC (zt3 hO.toEOk (fun a b q => by cases q) h3) (List.cons_ne_nil _ _) (args_cons ((n.sub ztZ).eval (by simpa using hd) EO H ?_))
 refine zvV hP hO.toEOk EO hS hC h3 (Sb.refl _) rs H fun us s1 f1 a1 kn rs1 H1 => ?_
 refine ⟨isf H1, wpAny_mono (spec _ _ _ _ _ _ _ _ _ _ hA ha rs1 (H1.lo (own' := X ++ (T ++ Rr)) (fun p => by have := cn p; simp only [zaa]; exact yiV this)) (VR.sub a1 _ kv) kn) (fun v s2 h => ?_) fun _ _ x => x⟩
 obtain ⟨f2, X', a2, kn2, kv2, rs2, H2⟩ := h
 obtain ⟨σ3, g1, g2⟩ := back f2 V' X' s2 Rr _ rs2 (a1.trans a2) kv2 H2 (Lo.refl _)
 rw [h8] at g1; cases g1
 exact PE.ofKn (a1.trans a2) kn2 g2
theorem zrY (hE : SndE prog w mg mb k R) (hO : POk R) (hT : TOk prog w mg mb k C) (zjG : ∀ f, IsRec f → (f == ("__debug__" : Str)) = false) {g : Str} {gp pos : Pos} {args : List Expr} {W : V} (he : (if args.isEmpty then none else (evD R sc args σ).bind fun ds => (C.T g ds.1).map fun d => (V.f d, ds.2)) = some (W, σ')) (hg : zar sc g = true) (hA : Ok k A) (EO : EnvOk sc env cm) (S : Sim mg mb env cm pn σ Rr fz s) :
 wpAny (model prog w) A (eval (.Name g gp) env) (fun f s' => wpAny (model prog w) A (callWith pos f [] (backTo pos (starEach args env)) []) (PE mg mb env cm pn Rr fz W σ') NoE s') NoE s := by
 refine znk he fun hne he => zbn he fun ds σ1 h1 h2 => zft h2 fun d h3 h4 => ?_
 cases h4
 obtain ⟨I, spec⟩ := hT.t _ _ _ h3
 obtain ⟨l, H⟩ := S.at
 obtain ⟨a, ha, isf⟩ := I.at H
 refine zpa H ha EO.g EO.kf (zh9 EO hg) (zjG _ I) ?_
 refine zlC (zft h1 fun v hv _ => zt2 hO.toEOk hv) (fun q => by rw [q] at hne; exact hne rfl) (zvT hE hO.toEOk h1 hA EO S fun vs s1 f1 a1 kn S1 => ?_)
 cases S1 with | mk rs nd l1 Y Z H1 hS hC hp =>
 refine ⟨isf H1, wpAny_mono (spec _ _ _ _ _ _ _ _ hA ha rs H1 kn) (fun v s2 h => ?_) fun _ _ x => x⟩
 obtain ⟨f2, a2, kn2, rs2, H2⟩ := h
 exact PE.ofKn (a1.trans a2) kn2 (Sim.close rs2 nd H2 hS hC hp a2 (Lo.refl _))
theorem zrZ (hP : SndP prog w mg mb R) (hE : SndE prog w mg mb k R) (hO : POk R) (hT : TOk prog w mg mb k C) (zjG : ∀ f, IsRec f → (f == ("__debug__" : Str)) = false) :
 ∀ sc g gp args pos σ W σ', zfp C R sc g args σ = some (W, σ') → ∀ A env cm pn Rr fz s, Ok k A → EnvOk sc env cm → Sim mg mb env cm pn σ Rr fz s → wpAny (model prog w) A (eval (.Call (.Name g gp) args [] pos) env) (PE mg mb env cm pn Rr fz W σ') NoE s := by
 intro sc g gp args pos σ W σ' h0 A env cm pn Rr fz s hA EO S
 refine wpAny_Call_NameR (zcB h0 fun hg he => ?_)
 clear h0
 by_cases c1 : g = "max"
 · rw [if_pos c1] at he
   subst c1
   refine duoE he fun x y hxy he => zbn he fun a σ1 h1 h2 => znj h2 fun b σ2 h3 h4 => ?_
   cases h4
   subst hxy
   have sx := zdO hO.toEOk h1
   have sy := zdO hO.toEOk h3
   refine zg4 S EO (b := .builtin "max") (List.mem_of_getElem? (i := 1) rfl) hg (by decide) (callWith_builtin1 (he := zaW sx) (hplain := by rw [zaW sy]; rfl) (args_cons (zcU hE h1 hA EO S fun t1 s1 f1 a1 S1 => args_cons (zcU hE h3 hA EO S1 fun t2 s2 f2 a2 S2 => args_nil ?_) (zaW sy)) (zaW sx)))
   cases S2 with | mk rs nd l Y Z H hS hC hp =>
   exact r_max H hA.hd fun h' tk v H' => PE.ofKn (a1.trans a2) (.int _ _) (Sim.close rs nd H' hS hC hp (Sb.refl _) (Lo.refl _))
 rw [if_neg c1] at he
 by_cases c2 : g = "abs"
 · rw [if_pos c2] at he
   subst c2
   refine zhG he fun x hx he => znj he fun a σ1 h1 h2 => ?_
   cases h2
   subst hx
   have sx := zdO hO.toEOk h1
   exact zg4 S EO (b := .builtin "abs") (List.mem_of_getElem? (i := 2) rfl) hg (by decide) (callWith_builtin1 (he := zaW sx) (args_cons (zcU hE h1 hA EO S fun t1 s1 f1 a1 S1 => args_nil (r_abs fun t tk => PE.ofKn a1 (.int _ _) S1.tk)) (zaW sx)))
 rw [if_neg c2] at he
 by_cases c3 : g = "int"
 · rw [if_pos c3] at he
   subst c3
   refine zhG he fun x hx he => znj he fun a σ1 h1 h2 => ?_
   cases h2
   subst hx
   have sx := zdO hO.toEOk h1
   exact zg4 S EO (b := .type "int") (List.mem_of_getElem? (i := 8) rfl) hg (by decide) (PyProof.Rows.callWith_type1 (he := zaW sx) (args_cons (zcU hE h1 hA EO S fun t1 s1 f1 a1 S1 => args_nil (call_int_int (PE.ofKn a1 (.int _ _) S1))) (zaW sx)))
 rw [if_neg c3] at he
 by_cases c4 : g = "list"
 · rw [if_pos c4] at he
   subst c4
   refine zhG he fun x hx he => znj he fun a σ1 h1 h2 => ?_
   cases h2
   subst hx
   have sx := zga hO.toEOk h1
   refine zg4 S EO (b := .type "list") (List.mem_of_getElem? (i := 3) rfl) hg (by decide) (PyProof.Rows.callWith_type1 (he := zaW sx) (args_cons (zia hE h1 hA EO S fun u s1 f1 hf a1 kn S1 => args_nil ?_) (zaW sx)))
   cases S1 with | mk rs nd l Y Z H hS hC hp =>
   exact r_list H kn.memL (zdt hf) fun D vs c h' hl kn' H' => ⟨_, [(D, listOf (List.toArray vs) c)], a1.trans (Sb.app _ _), ⟨D, vs, c, [], rfl, rfl, VRL.ofKn kn'⟩, Sim.close rs nd H' hS hC hp (Sb.app _ _) (by (intro p_; simp only [zaa, zac, zai]; exact yiR))⟩
 rw [if_neg c4] at he
 by_cases c5 : C.refs.contains g = true
 · rw [if_pos c5] at he; exact zrX hP hO hT zjG he hg hA EO S
 · rw [if_neg c5] at he; exact zrY hE hO hT zjG he hg hA EO S
end
section
variable {mg : Str → Option Value} {mb : Bx} {L : Addr} {l l' : List (Str × Value)} {own own' : Own} {fz fz' : Fz} {h h' : Heap}
theorem At.swap {W W' R : Own} (H : At mg mb L l (W ++ R) fz h) (k : ∀ b o, (∀ p ∈ W, p.1 ≠ b) → h.get? b = some o → h'.get? b = some o)
 (hW : ∀ p ∈ W', h'.get? p.1 = some p.2 ∧ ((∃ q ∈ W, q.1 = p.1) ∨ h.get? p.1 = none)) (nd : (W'.map (·.1)).Nodup) : At mg mb L l (W' ++ R) fz h' := by
 obtain ⟨g, c, le, gL, ⟨m, hm, km⟩, ow, ndd, r⟩ := H
 have hl : ∃ oL, h.get? L = some oL := let ⟨oL, _, _, e, _⟩ := hm; ⟨oL, e⟩
 obtain ⟨oL, hoL⟩ := hl
 rw [List.map_append, List.nodup_append] at ndd
 refine ⟨g, c, fun b o e => k b o (fun p hp q => ?_) (le _ _ e), gL, ⟨m, hm.at' fun o e => k _ o (fun p hp q => (ow p (List.mem_append_left _ hp)).2.1 q) e, km⟩, fun p hp => ?_, ?_, r⟩
 · rw [← q, (ow p (List.mem_append_left _ hp)).2.2] at e; cases e
 · rcases List.mem_append.mp hp with hp | hp
   · obtain ⟨h1, h2⟩ := hW p hp
     refine ⟨h1, ?_, ?_⟩
     · rcases h2 with ⟨q, hq, e⟩ | h2
       · rw [← e]; exact (ow q (List.mem_append_left _ hq)).2.1
       · intro q; rw [q, hoL] at h2; cases h2
     · rcases h2 with ⟨q, hq, e⟩ | h2
       · rw [← e]; exact (ow q (List.mem_append_left _ hq)).2.2
       · cases e : g.get? p.1 with
         | none => rfl
         | some o => rw [le _ _ e] at h2; cases h2
   · have P := ow p (List.mem_append_right _ hp)
     exact ⟨k _ _ (fun q hq e => ndd.2.2 _ (List.mem_map.mpr ⟨q, hq, rfl⟩) _ (List.mem_map.mpr ⟨p, hp, rfl⟩) e) P.1, P.2⟩
 · rw [List.map_append, List.nodup_append]
   refine ⟨nd, ndd.2.1, fun a ha b hb e => ?_⟩
   obtain ⟨p, hp, rfl⟩ := List.mem_map.mp ha
   obtain ⟨q, hq, rfl⟩ := List.mem_map.mp hb
   rcases (hW p hp).2 with ⟨x, hx, e'⟩ | h2
   · exact ndd.2.2 _ (List.mem_map.mpr ⟨x, hx, rfl⟩) _ (List.mem_map.mpr ⟨q, hq, rfl⟩) (e'.trans e)
   · rw [e, (ow q (List.mem_append_right _ hq)).1] at h2; cases h2
theorem At.lose {W R : Own} (H : At mg mb L l (W ++ R) fz h) (k : ∀ b o, (∀ p ∈ W, p.1 ≠ b) → h.get? b = some o → h'.get? b = some o) : At mg mb L l R fz h' :=
 H.swap (W' := []) k (fun p hp => by cases hp) List.Pairwise.nil
theorem At.turn1 {a : Addr} {o o' : Obj} {R : Own} (H : At mg mb L l ((a, o) :: R) fz h) (k : ∀ b ob, b ≠ a → h.get? b = some ob → h'.get? b = some ob) (e : h'.get? a = some o') : At mg mb L l ((a, o') :: R) fz h' :=
 H.swap (W := [(a, o)]) (W' := [(a, o')]) (fun b ob hb => k b ob (fun q => hb _ (.head _) q.symm)) (fun p hp => by
  rcases List.mem_cons.mp hp with rfl | hp
  · exact ⟨e, .inl ⟨_, .head _, rfl⟩⟩
  · cases hp) (by simp)
theorem At.apart {a b : Addr} {o : Obj} {ds : List D} (H : At mg mb L l own fz h) (m : (a, o) ∈ own) (f : (.ref b, D.lst ds) ∈ fz) : b ≠ a := by
 obtain ⟨g, c, le, gL, _, ow, ndd, r⟩ := H
 obtain ⟨b', vs, n, e, ho, _⟩ := r _ f
 cases e
 obtain ⟨ob, ho, _⟩ := ho
 intro q
 rw [q, (ow _ m).2.2] at ho
 cases ho
theorem At.apart2 {a b : Addr} {o o' : Obj} {R : Own} (H : At mg mb L l ((a, o) :: R) fz h) (m : (b, o') ∈ R) : a ≠ b := by
 obtain ⟨g, c, le, gL, _, ow, ndd, r⟩ := H
 rw [List.map_cons, List.nodup_cons] at ndd
 intro q
 exact ndd.1 (List.mem_map.mpr ⟨_, m, q.symm⟩)
end
noncomputable def zvW (fz : Fz) (v : Value) (d : D) (X : Own) : Prop :=
 (Kn fz v d ∧ X = []) ∨ ∃ t v1 v2 d1 d2, v = .ref t ∧ d = .tup [d1, d2] ∧ X = [(t, zen (List.toArray [v1, v2]) 0)] ∧ Kn fz v1 d1 ∧ Kn fz v2 d2
noncomputable def Targ (pairs : Bool) (t : Expr) : Prop := (pairs = false ∧ ∃ x p, t = .Name x p) ∨ ∃ e k p, t = .Tuple e k p
inductive NxQ (mg : Str → Option Value) (mb : Bx) (L : Addr) (l : List (Str × Value)) (R : Own) (fz : Fz) (v : Value) (d : D) (P : Own → Prop) (s : Shared) : Prop
 | mk (fz' : Fz) (X' Xv : Own) (sb : Sb fz fz') (i : zvW fz' v d Xv) (rs : Rs mb s) (H : At mg mb L l (Xv ++ (X' ++ R)) fz' s.heap) (n : P X') : NxQ mg mb L l R fz v d P s
noncomputable def Nx (prog : Program) (w : World) (mg : Str → Option Value) (mb : Bx) (A : Around) (it : Value) (target : Expr) (need : Fz) : List D → Own → Prop
 | [], X => ∀ L l R fz (s : Shared), Sb need fz → Rs mb s → At mg mb L l (X ++ R) fz s.heap → wpAny (model prog w) A (pyNext it) (fun r s' => r = none ∧ Rs mb s' ∧ At mg mb L l R fz s'.heap) NoE s
 | d :: ds, X => ∀ L l R fz (s : Shared), Sb need fz → Rs mb s → At mg mb L l (X ++ R) fz s.heap → wpAny (model prog w) A (pyNext it) (fun r s' => ∃ v, r = some v ∧
  wpAny (model prog w) A (letOwnedTupleGo target it v) (fun _ s'' => NxQ mg mb L l R fz v d (Nx prog w mg mb A it target need ds) s'') NoE s') NoE s
section
variable {prog : Program} {w : World} {A : Around} {E : Value → Shared → Prop} {s : Shared} {mg : Str → Option Value} {mb : Bx} {need : Fz}
theorem zdP {target : Expr} {r : Addr} {o : Obj} {n : String} {v : Value} {Q : Unit → Shared → Prop} (ho : s.heap.get? r = some o) (hc : o.cls = .type n)
 (hn : (["enumerate", "zip", "dict_itemiterator", "dict_reverseitemiterator", "odict_iterator", "itertools.zip_longest", "itertools.pairwise"].contains n) = false) (hQ : Q () s) :
 wpAny (model prog w) A (letOwnedTupleGo target (.ref r) v) Q E s := by
 have main : ∀ a : Addr, wpAny (model prog w) A (do
  let o ← load r
  match o.cls, o.data with
  | .type n, .fields vs =>
   if ["enumerate", "zip", "dict_itemiterator", "dict_reverseitemiterator", "odict_iterator", "itertools.zip_longest", "itertools.pairwise"].contains n && vs[0]? == some (rawInt a) then
    rule "for.unpacks-the-owned-tuple"
    updateField r 0 .none
  | _, _ => pure ()) Q E s := fun a => by
  refine wpAny_bind (wpAny_load ho ?_)
  rw [hc]
  cases o.data <;> first
   | exact wpAny_pure hQ
   | (dsimp only
      rw [hn, Bool.false_and, if_neg (by decide)]
      exact wpAny_pure hQ)
 cases target <;> first
  | exact wpAny_pure hQ
  | (cases v <;> first | exact wpAny_pure hQ | exact main _)
theorem zeu {α : Type} {ds : List α} {y : α} {ys : List α} {i : Nat} (hy : ds.drop i = y :: ys) : ∃ h : i < ds.length, ds[i] = y ∧ ds.drop (i + 1) = ys := by
 have hlt : i < ds.length := by
  rcases Nat.lt_or_ge i ds.length with h | h
  · exact h
  · rw [List.drop_eq_nil_of_le h] at hy; cases hy
 rw [List.drop_eq_getElem_cons hlt] at hy
 injection hy with hy1 hy2
 exact ⟨hlt, hy1, hy2⟩
theorem zgJ {vs : List Value} {ds : List D} {i : Nat} (h1 : i < vs.length) (h2 : i < ds.length) : (vs[i], ds[i]) ∈ vs.zip ds := by
 refine List.mem_of_getElem? (i := i) ?_
 rw [List.getElem?_zip_eq_some]
 exact ⟨List.getElem?_eq_getElem h1, List.getElem?_eq_getElem h2⟩
theorem zvX (hh : A.handled = none) {a it : Addr} {ds : List D} {target : Expr} (m : (.ref a, D.lst ds) ∈ need) : ∀ (ys : List D) (i : Nat) (o : Obj), ds.drop i = ys → o.cls = .type "list_iterator" → o.data = .fields #[.ref a, .int i 0] →
 Nx prog w mg mb A (.ref it) target need ys [(it, o)] := by
 intro ys
 induction ys with
 | nil =>
  intro i o hy hc hd
  intro L l R fz s sb rs H
  obtain ⟨a', vs, n, e, ho, hl, _, H1⟩ := H.list (sb _ m)
  cases e
  have hlen : ds.length ≤ i := List.drop_eq_nil_iff.mp hy
  refine wpAny_pyNext_list_end hh ⟨o, H.get (.head _), hc, hd⟩ ho (by simp; exact yiS hl hlen) fun h' he => ⟨rfl, rs, ?_⟩
  exact H.lose fun b ob hb e => he b ob (fun q => hb _ (.head _) q.symm) e
 | cons y ys ih =>
  intro i o hy hc hd
  intro L l R fz s sb rs H
  obtain ⟨a', vs, n, e, ho, hl, _, H1⟩ := H.list (sb _ m)
  cases e
  obtain ⟨hlt, hy1, hy2⟩ := zeu hy
  refine wpAny_pyNext_list_item ⟨o, H.get (.head _), hc, hd⟩ ho (x := vs[i]'(yc7 hl hlt)) (by simp) fun h' hit' hs => ⟨_, rfl, ?_⟩
  obtain ⟨o', ho', hc', hd'⟩ := hit'
  have H2 := At.turn1 H1 (fun b ob hb e => hs.extBut b ob hb e) ho'
  refine zdP ho' hc' (by decide) ⟨_, [(it, o')], [], Sb.app _ _, .inl ⟨.mem (List.mem_append_left _ ?_), rfl⟩, rs, H2, ih (i + 1) o' hy2 hc' hd'⟩
  rw [← hy1]
  exact zgJ _ hlt
theorem zt4 (hh : A.handled = none) {a it : Addr} {ds : List D} {target : Expr} (m : (.ref a, D.tup ds) ∈ need) : ∀ (ys : List D) (i : Nat) (o : Obj), ds.drop i = ys → o.cls = .type "tuple_iterator" → o.data = .fields #[.ref a, .int i 0] →
 Nx prog w mg mb A (.ref it) target need ys [(it, o)] := by
 intro ys
 induction ys with
 | nil =>
  intro i o hy hc hd
  intro L l R fz s sb rs H
  obtain ⟨a', vs, n, e, ho, hl, _, H1⟩ := H.tupl (sb _ m)
  cases e
  have hlen : ds.length ≤ i := List.drop_eq_nil_iff.mp hy
  refine wpAny_pyNext_tuple_end hh ⟨o, H.get (.head _), hc, hd⟩ ⟨_, ho, rfl, n, rfl⟩ (by simp; exact yiS hl hlen) fun h' he => ⟨rfl, rs, ?_⟩
  exact H.lose fun b ob hb e => he b ob (fun q => hb _ (.head _) q.symm) e
 | cons y ys ih =>
  intro i o hy hc hd
  intro L l R fz s sb rs H
  obtain ⟨a', vs, n, e, ho, hl, _, H1⟩ := H.tupl (sb _ m)
  cases e
  obtain ⟨hlt, hy1, hy2⟩ := zeu hy
  refine wpAny_pyNext_tuple_item ⟨o, H.get (.head _), hc, hd⟩ ⟨_, ho, rfl, n, rfl⟩ (x := vs[i]'(yc7 hl hlt)) (by simp) fun h' hit' hs => ⟨_, rfl, ?_⟩
  obtain ⟨o', ho', hc', hd'⟩ := hit'
  have H2 := At.turn1 H1 (fun b ob hb e => hs.extBut b ob hb e) ho'
  refine zdP ho' hc' (by decide) ⟨_, [(it, o')], [], Sb.app _ _, .inl ⟨.mem (List.mem_append_left _ ?_), rfl⟩, rs, H2, ih (i + 1) o' hy2 hc' hd'⟩
  rw [← hy1]
  exact zgJ _ hlt
theorem zt5 (hh : A.handled = none) {it : Addr} {target : Expr} : ∀ (n : Nat) (x : Int), Nx prog w mg mb A (.ref it) target need (zb6 x n) [(it, { cls := .type "range_iterator", data := .fields #[rawInt x, rawInt n, rawInt 1] })] := by
 intro n
 induction n with
 | zero =>
  intro x
  intro L l R fz s sb rs H
  refine wpAny_pyNext_range_end hh (H.get (.head _)) (by simp) fun h' he => ⟨rfl, rs, ?_⟩
  exact H.lose fun b ob hb e => he b ob (fun q => hb _ (.head _) q.symm) e
 | succ n ih =>
  intro x
  intro L l R fz s sb rs H
  refine wpAny_pyNext_range_item (H.get (.head _)) (yiU) fun h' hit' hs => ⟨_, rfl, ?_⟩
  have e : ((n + 1 : Nat) : Int) - 1 = n := by exact ye6
  rw [e] at hit'
  have H2 := At.turn1 H (fun b ob hb e => hs.extBut b ob hb e) hit'
  exact zdP hit' rfl (by decide) ⟨fz, _, [], Sb.refl _, .inl ⟨.int _ _, rfl⟩, rs, H2, ih (x + 1)⟩
theorem nx_rev (hh : A.handled = none) {a it : Addr} {ds : List D} {target : Expr} (m : (.ref a, D.lst ds) ∈ need) : ∀ (i : Nat) (o : Obj), i ≤ ds.length → o.cls = .type "list_reverseiterator" → o.data = .fields #[.ref a, rawInt ((i : Int) - 1)] →
 Nx prog w mg mb A (.ref it) target need (ds.take i).reverse [(it, o)] := by
 intro i
 induction i with
 | zero =>
  intro o hi hc hd
  intro L l R fz s sb rs H
  refine wpAny_pyNext_rev_end hh ⟨o, H.get (.head _), hc, hd⟩ fun h' he => ⟨rfl, rs, ?_⟩
  exact H.lose fun b ob hb e => he b ob (fun q => hb _ (.head _) q.symm) e
 | succ i ih =>
  intro o hi hc hd
  have hlt : i < ds.length := hi
  have ht : (ds.take (i + 1)).reverse = ds[i] :: (ds.take i).reverse := by rw [List.take_succ_eq_append_getElem hlt]; simp
  rw [ht]
  intro L l R fz s sb rs H
  obtain ⟨a', vs, n, e, ho, hl, _, H1⟩ := H.list (sb _ m)
  cases e
  have e1 : (((i + 1 : Nat) : Int) - 1) = (i : Int) := by exact ye6
  rw [e1] at hd
  refine wpAny_pyNext_rev_item ⟨o, H.get (.head _), hc, hd⟩ ho (x := vs[i]'(yiT hi hl)) (by simp) fun h' hit' hs => ⟨_, rfl, ?_⟩
  obtain ⟨o', ho', hc', hd'⟩ := hit'
  have H2 := At.turn1 H1 (fun b ob hb e => hs.extBut b ob hb e) ho'
  refine zdP ho' hc' (by decide) ⟨_, [(it, o')], [], Sb.app _ _, .inl ⟨.mem (List.mem_append_left _ ?_), rfl⟩, rs, H2, ih o' (yfp hi) hc' hd'⟩
  exact zgJ _ hlt
noncomputable abbrev zfL (it : Addr) (i : Int) (old : Value) : Obj := { cls := .type "enumerate", dict := none, data := .fields #[.none, .bool false, .ref it, rawInt i, .none, old], slots := #[] }
theorem zvY (hh : A.handled = none) {a it e : Addr} {ds : List D} {elts : List Expr} {x1} {tp : Pos} (m : (.ref a, D.lst ds) ∈ need) : ∀ (ys : List D) (i : Nat) (o : Obj) (old : Value), ds.drop i = ys → o.cls = .type "list_iterator" → o.data = .fields #[.ref a, .int i 0] →
 Nx prog w mg mb A (.ref e) (.Tuple elts x1 tp) need (zfn i ys) [(e, zfL it i old), (it, o)] := by
 intro ys
 induction ys with
 | nil =>
  intro i o old hy hc hd
  intro L l R fz s sb rs H
  obtain ⟨a', vs, n, e', ho, hl, _, H1⟩ := H.list (sb _ m)
  cases e'
  have hlen : ds.length ≤ i := List.drop_eq_nil_iff.mp hy
  refine wpAny_pyNext_enum_end hh (H.get (.head _)) ⟨o, H.get (.tail _ (.head _)), hc, hd⟩ ho (by simp; exact yiS hl hlen) fun h' he => ⟨rfl, rs, ?_⟩
  exact H.lose (W := [(e, zfL it i old), (it, o)]) fun b ob hb e => he b ob (fun q => hb _ (.tail _ (.head _)) q.symm) e
 | cons y ys ih =>
  intro i o old hy hc hd
  intro L l R fz s sb rs H
  obtain ⟨a', vs, n, e', ho, hl, _, H1⟩ := H.list (sb _ m)
  cases e'
  obtain ⟨hlt, hy1, hy2⟩ := zeu hy
  have hne : e ≠ it := At.apart2 (R := (it, o) :: R) H (.head _)
  refine wpAny_pyNext_enum_item (H.get (.head _)) ⟨o, H.get (.tail _ (.head _)), hc, hd⟩ ho (x := vs[i]'(yc7 hl hlt)) (by simp) hne fun h' he hit' ht hsz hs => ⟨_, rfl, ?_⟩
  obtain ⟨o', ho', hc', hd'⟩ := hit'
  refine wpAny_letOwnedTupleGo_enum he fun h2 he2 hs2 => ?_
  have hts : s.heap.get? s.heap.objs.size = none := zcR
  have het : e ≠ s.heap.objs.size := fun q => by have := H.get (List.Mem.head _); rw [q, hts] at this; cases this
  have hit2 : it ≠ s.heap.objs.size := fun q => by have := H.get (List.Mem.tail _ (List.Mem.head _)); rw [q, hts] at this; cases this
  have H2 : At mg mb L l ([(s.heap.objs.size, zen (List.toArray [.int i s.toks, vs[i]'(yc7 hl hlt)]) 0), (e, zfL it ((i : Int) + 1) (vs[i]'(yc7 hl hlt))), (it, o')] ++ R) (vs.zip ds ++ fz) h2 := by
   refine At.swap (W := [(e, zfL it i old), (it, o)]) H1 (fun b ob hb eb => ?_) (zlk ⟨hs2.extBut _ _ (Ne.symm het) ht, .inr hts⟩ (zlk ⟨he2, .inl ⟨_, .head _, rfl⟩⟩ (zlk ⟨hs2.extBut _ _ (Ne.symm hne) ho', .inl ⟨_, .tail _ (.head _), rfl⟩⟩ zrJ))) ?_
   · have b1 : b ≠ e := fun q => hb _ (.head _) q.symm
     have b2 : b ≠ it := fun q => hb _ (.tail _ (.head _)) q.symm
     exact hs2.extBut b ob b1 (hs b ob b1 b2 eb)
   · simp [hne, Ne.symm het, Ne.symm hit2]
  refine ⟨_, [(e, zfL it ((i : Int) + 1) (vs[i]'(yc7 hl hlt))), (it, o')], [(s.heap.objs.size, zen (List.toArray [.int i s.toks, vs[i]'(yc7 hl hlt)]) 0)], Sb.app _ _, .inr ⟨_, _, _, _, _, rfl, rfl, rfl, .int _ _, .mem (List.mem_append_left _ ?_)⟩, rs, H2, ?_⟩
  · rw [← hy1]
    exact zgJ _ hlt
  · exact ih (i + 1) o' _ hy2 hc' hd'
end
section
variable {prog : Program} {w : World} {A : Around} {E : Value → Shared → Prop} {s : Shared} {mg : Str → Option Value} {mb : Bx} {need : Fz}
noncomputable abbrev zvk (TI TO : Addr) (f0 : Value) : Obj := { cls := .type "zip", dict := none, data := .fields #[f0, .bool false, .bool false, .ref TI, .ref TO], slots := #[] }
noncomputable abbrev zkA (a b : Value) : Obj := { cls := .type "tuple", data := .seq #[a, b] }
noncomputable def zkB (z TI TO i1 i2 : Addr) (p q : Value) (o1 o2 : Obj) : Own := [(z, zvk TI TO .none), (TI, zkA (.ref i1) (.ref i2)), (TO, zkA p q), (i1, o1), (i2, o2)]
section
variable {z TI TO i1 i2 : Addr} {p q : Value} {o1 o2 : Obj} {R : Own}
theorem zm0 : (z, zvk TI TO .none) ∈ zkB z TI TO i1 i2 p q o1 o2 ++ R := .head _
theorem zm1 : (TI, zkA (.ref i1) (.ref i2)) ∈ zkB z TI TO i1 i2 p q o1 o2 ++ R := .tail _ (.head _)
theorem zm2 : (TO, zkA p q) ∈ zkB z TI TO i1 i2 p q o1 o2 ++ R := .tail _ (.tail _ (.head _))
theorem zm3 : (i1, o1) ∈ zkB z TI TO i1 i2 p q o1 o2 ++ R := .tail _ (.tail _ (.tail _ (.head _)))
theorem zm4 : (i2, o2) ∈ zkB z TI TO i1 i2 p q o1 o2 ++ R := .tail _ (.tail _ (.tail _ (.tail _ (.head _))))
theorem zvl {b : Addr} (h : ∀ x ∈ zkB z TI TO i1 i2 p q o1 o2, x.1 ≠ b) : b ≠ z ∧ b ≠ TO ∧ b ≠ i1 ∧ b ≠ i2 :=
 ⟨fun e => h _ (.head _) e.symm, fun e => h _ (.tail _ (.tail _ (.head _))) e.symm, fun e => h _ (.tail _ (.tail _ (.tail _ (.head _)))) e.symm, fun e => h _ (.tail _ (.tail _ (.tail _ (.tail _ (.head _))))) e.symm⟩
end
theorem zlD {a1 a2 z TI TO i1 i2 : Addr} {ds es : List D} (m1 : (.ref a1, D.lst ds) ∈ need) (m2 : (.ref a2, D.lst es) ∈ need) {L l R fz h p q o1 o2} (sb : Sb need fz) (H : At mg mb L l (zkB z TI TO i1 i2 p q o1 o2 ++ R) fz h) : ZipApart z TI TO i1 i2 a1 a2 := by
 have nd : ((zkB z TI TO i1 i2 p q o1 o2 ++ R).map (·.1)).Nodup := by cases H with | mk _ _ _ _ _ _ nd _ => exact nd
 unfold zkB at nd
 simp only [List.map_cons, List.cons_append, List.nodup_cons, List.mem_cons, not_or, List.nil_append] at nd
 have f1 : ∀ {x : Addr} {o : Obj}, (x, o) ∈ _ → a1 ≠ x := fun hx => H.apart hx (sb _ m1)
 have f2 : ∀ {x : Addr} {o : Obj}, (x, o) ∈ _ → a2 ≠ x := fun hx => H.apart hx (sb _ m2)
 exact ⟨Ne.symm nd.1.1, Ne.symm nd.1.2.1, Ne.symm nd.1.2.2.1, Ne.symm nd.1.2.2.2.1, nd.2.1.1, nd.2.1.2.1, nd.2.1.2.2.1, nd.2.2.1.1, nd.2.2.1.2.1, nd.2.2.2.1.1, f1 zm0, f1 zm2, f1 zm3, f1 zm4, f2 zm0, f2 zm2, f2 zm3, f2 zm4⟩
theorem zjW (hh : A.handled = none) {a1 a2 z TI TO i1 i2 : Addr} {ds es : List D} {elts : List Expr} {x1} {tp : Pos} (m1 : (.ref a1, D.lst ds) ∈ need) (m2 : (.ref a2, D.lst es) ∈ need)
 {i j : Nat} {o1 o2 : Obj} {p q : Value} (hij : ds.length ≤ i ∨ es.length ≤ j) (c1 : o1.cls = .type "list_iterator") (d1 : o1.data = .fields #[.ref a1, .int i 0]) (c2 : o2.cls = .type "list_iterator") (d2 : o2.data = .fields #[.ref a2, .int j 0]) :
  Nx prog w mg mb A (.ref z) (.Tuple elts x1 tp) need [] (zkB z TI TO i1 i2 p q o1 o2) := by
 intro L l R fz s sb rs H
 obtain ⟨a', vs, n, e', ho, hl, _, H1⟩ := H.list (sb _ m1)
 cases e'
 obtain ⟨a', us, n', e', ho', hl', _, H2⟩ := H1.list (List.mem_append_right _ (sb _ m2))
 cases e'
 refine wpAny_pyNext_zip_end hh (zlD m1 m2 sb H) (H.get zm0) (H.get zm1) (H.get zm2) ⟨o1, H.get zm3, c1, d1⟩ ⟨o2, H.get zm4, c2, d2⟩ ho ho' ?_ fun h' he => ⟨rfl, rs, ?_⟩
 · exact hij.elim (fun h => .inl (Array.getElem?_eq_none (by rw [List.size_toArray, hl]; exact h))) fun h => .inr (Array.getElem?_eq_none (by rw [List.size_toArray, hl']; exact h))
 · exact H.lose fun b ob hb e => have n := zvl hb; he b ob n.1 n.2.1 n.2.2.1 n.2.2.2 e
theorem nx_zip (hh : A.handled = none) {a1 a2 z TI TO i1 i2 : Addr} {ds es : List D} {elts : List Expr} {x1} {tp : Pos} (m1 : (.ref a1, D.lst ds) ∈ need) (m2 : (.ref a2, D.lst es) ∈ need) :
 ∀ (ys us : List D) (i j : Nat) (o1 o2 : Obj) (p q : Value), ds.drop i = ys → es.drop j = us → o1.cls = .type "list_iterator" → o1.data = .fields #[.ref a1, .int i 0] → o2.cls = .type "list_iterator" → o2.data = .fields #[.ref a2, .int j 0] →
 Nx prog w mg mb A (.ref z) (.Tuple elts x1 tp) need (zlj ys us) (zkB z TI TO i1 i2 p q o1 o2) := by
 intro ys
 induction ys with
 | nil =>
  intro us i j o1 o2 p q hy hu c1 d1 c2 d2
  have : zlj [] us = [] := by cases us <;> rfl
  rw [this]
  exact zjW hh m1 m2 (.inl (List.drop_eq_nil_iff.mp hy)) c1 d1 c2 d2
 | cons y ys ih =>
  intro us i j o1 o2 p q hy hu c1 d1 c2 d2
  cases us with
  | nil => exact zjW hh m1 m2 (.inr (List.drop_eq_nil_iff.mp hu)) c1 d1 c2 d2
  | cons u us =>
   intro L l R fz s sb rs H
   obtain ⟨a', vs, n, e', ho, hl, _, H1⟩ := H.list (sb _ m1)
   cases e'
   obtain ⟨a', ws, n', e', ho', hl', _, H2⟩ := H1.list (List.mem_append_right _ (sb _ m2))
   cases e'
   obtain ⟨hlt, hy1, hy2⟩ := zeu hy
   obtain ⟨hlt', hu1, hu2⟩ := zeu hu
   have hv : i < vs.length := hl ▸ hlt
   have hw : j < ws.length := hl' ▸ hlt'
   have gi : vs.toArray[(i : Int).toNat]? = some vs[i] := by simp [hv]
   have gj : ws.toArray[(j : Int).toNat]? = some ws[j] := by simp [hw]
   have mv := zgJ hv hlt
   have mw := zgJ hw hlt'
   rw [hy1] at mv
   rw [hu1] at mw
   generalize vs[i] = x at gi mv
   generalize ws[j] = y' at gj mw
   have Z := zlD m1 m2 sb H
   refine wpAny_pyNext_zip_item Z (H.get zm0) (H.get zm1) (H.get zm2) ⟨o1, H.get zm3, c1, d1⟩ ⟨o2, H.get zm4, c2, d2⟩ ho ho' (x := x) (y := y') gi gj fun h' hz hTO hit1 hit2 hT hsz hs => ⟨_, rfl, ?_⟩
   obtain ⟨o1', g1, g2, g3⟩ := hit1
   obtain ⟨o2', k1, k2, k3⟩ := hit2
   refine wpAny_letOwnedTupleGo_zip hz fun h2 hz2 hs2 => ?_
   have hts : s.heap.get? s.heap.objs.size = none := zcR
   have nt : ∀ {b : Addr} {o : Obj}, s.heap.get? b = some o → s.heap.objs.size ≠ b := fun e q => by rw [← q, hts] at e; cases e
   have H3 : At mg mb L l ([(s.heap.objs.size, zen (List.toArray [x, y']) 0)] ++ (zkB z TI TO i1 i2 x y' o1' o2' ++ R)) (ws.zip es ++ (vs.zip ds ++ fz)) h2 := by
    refine At.swap (W := zkB z TI TO i1 i2 p q o1 o2) (W' := (s.heap.objs.size, zen (List.toArray [x, y']) 0) :: zkB z TI TO i1 i2 x y' o1' o2') H2 (fun b ob hb eb => have n := zvl hb; hs2.extBut b ob n.1 (hs b ob n.1 n.2.1 n.2.2.1 n.2.2.2 eb)) ?_ ?_
    · exact zlk ⟨hs2.extBut _ _ (nt (H.get zm0)) hT, .inr hts⟩ (zlk ⟨hz2, .inl ⟨_, .head _, rfl⟩⟩ (zlk ⟨hs2.extBut _ _ Z.TIz (hs _ _ Z.TIz Z.TITO Z.TIi1 Z.TIi2 (H.get zm1)), .inl ⟨_, .tail _ (.head _), rfl⟩⟩ (zlk ⟨hs2.extBut _ _ Z.TOz hTO, .inl ⟨_, .tail _ (.tail _ (.head _)), rfl⟩⟩
       (zlk ⟨hs2.extBut _ _ Z.i1z g1, .inl ⟨_, .tail _ (.tail _ (.tail _ (.head _))), rfl⟩⟩ (zlk ⟨hs2.extBut _ _ Z.i2z k1, .inl ⟨_, .tail _ (.tail _ (.tail _ (.tail _ (.head _)))), rfl⟩⟩ zrJ)))))
    · have q0 := nt (H.get zm0)
      have q1 := nt (H.get zm1)
      have q2 := nt (H.get zm2)
      have q3 := nt (H.get zm3)
      have q4 := nt (H.get zm4)
      clear hs2 hs H H1 H2
      unfold zkB
      simp [q0, q1, q2, q3, q4, Ne.symm Z.TIz, Ne.symm Z.TOz, Ne.symm Z.i1z, Ne.symm Z.i2z, Z.TITO, Z.TIi1, Z.TIi2, Z.TOi1, Z.TOi2, Z.i12]
   exact ⟨_, zkB z TI TO i1 i2 x y' o1' o2', [(s.heap.objs.size, zen (List.toArray [x, y']) 0)],
    (Sb.app _ _).trans (Sb.app _ _), .inr ⟨_, _, _, _, _, rfl, rfl, rfl, .mem (List.mem_append_right _ (List.mem_append_left _ mv)), .mem (List.mem_append_left _ mw)⟩, rs, H3, ih us (i + 1) (j + 1) o1' o2' _ _ hy2 hu2 g2 g3 k2 k3⟩
end
noncomputable def ItOk (prog : Program) (w : World) (mg : Str → Option Value) (mb : Bx) (A : Around) (it : Value) (pairs : Bool) (ds : List D) (X : Own) (need : Fz) : Prop :=
 (∀ target, Targ pairs target → Nx prog w mg mb A it target need ds X) ∧
 ∀ L l R fz (s : Shared) (Q : Value → Shared → Prop), At mg mb L l (X ++ R) fz s.heap → Q it s → wpAny (model prog w) A (pyIter it) Q NoE s
section
variable {prog : Program} {w : World} {A : Around} {E : Value → Shared → Prop} {s : Shared} {mg : Str → Option Value} {mb : Bx} {k : Nat} {R : Rec} {Rr : Own} {fz fz' : Fz} {env : Env} {sc : Scope} {cm : List (Str × Addr)} {pn : List (Str × Value)} {σ σ' : St} {C : Cfg} {e : Expr}
inductive PIter (prog : Program) (w : World) (mg : Str → Option Value) (mb : Bx) (A : Around) (env : Env) (cm : List (Str × Addr)) (pn : List (Str × Value)) (Rr : Own) (fz : Fz) (ds : List D) (pairs : Bool) (σ' : St) (it : Value) (s' : Shared) : Prop
 | mk (fz' : Fz) (X : Own) (sb : Sb fz fz') (S : Sim mg mb env cm pn σ' (X ++ Rr) fz' s') (i : ItOk prog w mg mb A it pairs ds X fz') : PIter prog w mg mb A env cm pn Rr fz ds pairs σ' it s'
theorem PIter.sub {ds pairs v s' fz₀} (sb : Sb fz₀ fz) (h : PIter prog w mg mb A env cm pn Rr fz ds pairs σ' v s') : PIter prog w mg mb A env cm pn Rr fz₀ ds pairs σ' v s' := by cases h with | mk f X a b c => exact ⟨f, X, sb.trans a, b, c⟩
theorem zt6 (hA : Ok k A) {v : Value} {ds : List D} {pairs : Bool} (kn : Kn fz v (.lst ds)) (S : Sim mg mb env cm pn σ Rr fz s) : wpAny (model prog w) A (pyIter v) (PIter prog w mg mb A env cm pn Rr fz ds pairs σ) NoE s := by
 obtain ⟨rs, nd, l, Y, Z, H, hS, hC, hp⟩ := S
 obtain ⟨a, vs, n, rfl, ho, hl, _, H1⟩ := H.list kn.memL
 refine wpAny_pyIter_list ho ?_
 have H2 := H.push { cls := .type "list_iterator", data := .fields #[.ref a, .int 0 0] }
 exact ⟨fz, [(s.heap.objs.size, { cls := .type "list_iterator", data := .fields #[.ref a, .int 0 0] })], Sb.refl _, Sim.close rs nd H2 hS hC hp (Sb.refl _) (by (intro p_; simp only [zaa, zac, zai]; exact yiR)),
  fun target _ => zvX hA.hd kn.memL ds 0 _ rfl rfl rfl, fun L l R fz s Q H hq => wpAny_pyIter_listiter ⟨_, H.get (.head _), rfl, rfl⟩ hq⟩
theorem zvZ (hA : Ok k A) {v : Value} {ds : List D} {pairs : Bool} (kn : Kn fz v (.tup ds)) (S : Sim mg mb env cm pn σ Rr fz s) : wpAny (model prog w) A (pyIter v) (PIter prog w mg mb A env cm pn Rr fz ds pairs σ) NoE s := by
 obtain ⟨rs, nd, l, Y, Z, H, hS, hC, hp⟩ := S
 obtain ⟨a, vs, n, rfl, ho, hl, _, H1⟩ := H.tupl kn.memT
 refine wpAny_pyIter_tuple ⟨_, ho, rfl, n, rfl⟩ ?_
 have H2 := H.push { cls := .type "tuple_iterator", data := .fields #[.ref a, .int 0 0] }
 exact ⟨fz, [(s.heap.objs.size, { cls := .type "tuple_iterator", data := .fields #[.ref a, .int 0 0] })], Sb.refl _, Sim.close rs nd H2 hS hC hp (Sb.refl _) (by (intro p_; simp only [zaa, zac, zai]; exact yiR)),
  fun target _ => zt4 hA.hd kn.memT ds 0 _ rfl rfl rfl, fun L l R fz s Q H hq => wpAny_pyIter_tupleiter ⟨_, H.get (.head _), rfl, rfl⟩ hq⟩
theorem zlE (hA : Ok k A) {a b : Int} {ds : List D} {pairs : Bool} {r : Addr} {t u v : Tok} (hd : zjV a b = some ds) (hr : IsRange s.heap r a b 1 t u v) (S : Sim mg mb env cm pn σ Rr fz s) :
 wpAny (model prog w) A (pyIter (.ref r)) (PIter prog w mg mb A env cm pn Rr fz ds pairs σ) NoE s := by
 refine zcB hd fun hb hd => ?_
 cases hd
 refine wpAny_pyIter_range hr (small_one hb.1 hb.2.1 hb.2.2.1 hb.2.2.2.1) ?_
 cases S with | mk rs nd l Y Z H hS hC hp =>
 have H2 := H.push { cls := .type "range_iterator", data := .fields #[rawInt a, rawInt (Builtin.Range.rangeSize a b 1), rawInt 1] }
 refine ⟨fz, [(s.heap.objs.size, { cls := .type "range_iterator", data := .fields #[rawInt a, rawInt (Builtin.Range.rangeSize a b 1), rawInt 1] })], Sb.refl _, Sim.close rs nd H2 hS hC hp (Sb.refl _) (by (intro p_; simp only [zaa, zac, zai]; exact yiR)),
  fun target _ => ?_, fun L l R fz s Q H hq => wpAny_pyIter_rangeiter (H.get (.head _)) hq⟩
 rw [rangeSize_nat]
 exact zt5 hA.hd _ _
theorem zv0 (hA : Ok k A) {v : Value} {ds : List D} (kn : Kn fz v (.lst ds)) (S : Sim mg mb env cm pn σ Rr fz s) : wpAny (model prog w) A (call (.type "reversed") [v]) (fun it s' => wpAny (model prog w) A (pyIter it) (PIter prog w mg mb A env cm pn Rr fz ds.reverse false σ) NoE s') NoE s := by
 cases S with | mk rs nd l Y Z H hS hC hp =>
 obtain ⟨a, vs, n, rfl, ho, hl, _, H1⟩ := H.list kn.memL
 refine call_reversed_list ho ?_
 have H2 := H.push (revObj a ((vs.toArray.size : Int) - 1))
 refine wpAny_pyIter_revIter ⟨_, H2.get (.head _), rfl, rfl⟩ ?_
 rw [show ((vs.toArray.size : Int) - 1) = ((ds.length : Nat) : Int) - 1 by rw [List.size_toArray, hl]] at H2 ⊢
 refine ⟨fz, [(s.heap.objs.size, revObj a ((ds.length : Int) - 1))], Sb.refl _, Sim.close rs nd H2 hS hC hp (Sb.refl _) (by (intro p_; simp only [zaa, zac, zai]; exact yiR)), fun target _ => ?_, fun L l R fz s Q H hq => wpAny_pyIter_revIter ⟨_, H.get (.head _), rfl, rfl⟩ hq⟩
 have := nx_rev (prog := prog) (w := w) (mg := mg) (mb := mb) (target := target) (it := s.heap.objs.size) hA.hd kn.memL ds.length (revObj a ((ds.length : Int) - 1)) (Nat.le_refl _) rfl rfl
 rw [List.take_length] at this
 exact this
theorem zdQ {h : Heap} (j : Nat) : h.get? (h.objs.size + j) = none := by
 cases q : h.get? (h.objs.size + j) with
 | none => rfl
 | some o => exact absurd (Heap.lt_size q) (Nat.not_lt.mpr (Nat.le_add_right _ _))
theorem zt7 (hA : Ok k A) {v : Value} {ds : List D} (kn : Kn fz v (.lst ds)) (S : Sim mg mb env cm pn σ Rr fz s) : wpAny (model prog w) A (call (.type "enumerate") [v]) (fun it s' => wpAny (model prog w) A (pyIter it) (PIter prog w mg mb A env cm pn Rr fz (zfn 0 ds) true σ) NoE s') NoE s := by
 cases S with | mk rs nd l Y Z H hS hC hp =>
 obtain ⟨a, vs, n, rfl, ho, hl, _, H1⟩ := H.list kn.memL
 refine call_enumerate_list ho fun h' he hi hsz hk => ?_
 obtain ⟨oi, g1, g2, g3⟩ := hi
 have H2 : At mg mb env.locals l ([(s.heap.objs.size + 1, zfL s.heap.objs.size 0 .none), (s.heap.objs.size, oi)] ++ (Y ++ (Z ++ Rr))) fz h' :=
  At.swap (W := []) H (fun b o _ e => hk b o e) (zlk ⟨he, .inr (zdQ 1)⟩ (zlk ⟨g1, .inr (zdQ 0)⟩ zrJ)) (by simp)
 refine wpAny_pyIter_enum (H2.get (.head _)) ?_
 refine ⟨fz, [(s.heap.objs.size + 1, zfL s.heap.objs.size 0 .none), (s.heap.objs.size, oi)], Sb.refl _, Sim.close rs nd H2 hS hC hp (Sb.refl _) (by (intro p_; simp only [zaa, zac, zai]; exact yiQ)), fun target ht => ?_, fun L l R fz s Q H hq => wpAny_pyIter_enum (H.get (.head _)) hq⟩
 rcases ht with ⟨h, _⟩ | ⟨el, kk, p, rfl⟩
 · cases h
 · exact zvY hA.hd kn.memL ds 0 oi .none rfl g2 g3
theorem zv1 (hA : Ok k A) {v u : Value} {ds es : List D} (kn : Kn fz v (.lst ds)) (kn2 : Kn fz u (.lst es)) (S : Sim mg mb env cm pn σ Rr fz s) : wpAny (model prog w) A (call (.type "zip") [v, u]) (fun it s' => wpAny (model prog w) A (pyIter it) (PIter prog w mg mb A env cm pn Rr fz (zlj ds es) true σ) NoE s') NoE s := by
 cases S with | mk rs nd l Y Z H hS hC hp =>
 obtain ⟨a, vs, n, rfl, ho, hl, _, H1⟩ := H.list kn.memL
 obtain ⟨b, us, n', rfl, ho', hl', _, H1'⟩ := H.list kn2.memL
 refine call_zip_2 ho ho' fun h' hz hTI hTO hi1 hi2 hsz hk => ?_
 obtain ⟨o1, g1, g2, g3⟩ := hi1
 obtain ⟨o2, k1, k2, k3⟩ := hi2
 have H2 : At mg mb env.locals l (zkB (s.heap.objs.size + 4) (s.heap.objs.size + 2) (s.heap.objs.size + 3) s.heap.objs.size (s.heap.objs.size + 1) .none .none o1 o2 ++ (Y ++ (Z ++ Rr))) fz h' :=
  At.swap (W := []) H (fun b o _ e => hk b o e) (zlk ⟨hz, .inr (zdQ 4)⟩ (zlk ⟨hTI, .inr (zdQ 2)⟩ (zlk ⟨hTO, .inr (zdQ 3)⟩ (zlk ⟨g1, .inr (zdQ 0)⟩ (zlk ⟨k1, .inr (zdQ 1)⟩ zrJ))))) (by unfold zkB; simp)
 refine wpAny_pyIter_zip (H2.get zm0) ?_
 refine ⟨fz, zkB (s.heap.objs.size + 4) (s.heap.objs.size + 2) (s.heap.objs.size + 3) s.heap.objs.size (s.heap.objs.size + 1) .none .none o1 o2, Sb.refl _, Sim.close rs nd H2 hS hC hp (Sb.refl _) (by (intro p_; simp only [zaa, zac, zai]; exact yiG)), fun target ht => ?_, fun L l R fz s Q H hq => wpAny_pyIter_zip (H.get zm0) hq⟩
 rcases ht with ⟨h, _⟩ | ⟨el, kk, p, rfl⟩
 · cases h
 · exact nx_zip hA.hd kn.memL kn2.memL ds es 0 0 o1 o2 .none .none rfl rfl g2 g3 k2 k3
theorem zr0 (hE : SndE prog w mg mb k R) (hO : POk R) {g : Str} {gp pos : Pos} {args : List Expr} {ds : List D} {pr : Bool} (h0 : zhH R sc g args σ = some ((ds, pr), σ')) (hA : Ok k A) (EO : EnvOk sc env cm) (S : Sim mg mb env cm pn σ Rr fz s) :
 wpAny (model prog w) A (eval (.Call (.Name g gp) args [] pos) env) (fun xv s1 => wpAny (model prog w) A (pyIter xv) (PIter prog w mg mb A env cm pn Rr fz ds pr σ') NoE s1) NoE s := by
 refine wpAny_Call_NameR (zcB h0 fun hg he => ?_)
 clear h0
 have up : ∀ {f : Fz} {c : Sem Value} {s1 : Shared}, Sb fz f → wpAny (model prog w) A c (fun it s' => wpAny (model prog w) A (pyIter it) (PIter prog w mg mb A env cm pn Rr f ds pr σ') NoE s') NoE s1 → wpAny (model prog w) A c (fun it s' => wpAny (model prog w) A (pyIter it) (PIter prog w mg mb A env cm pn Rr fz ds pr σ') NoE s') NoE s1 :=
  fun a h => wpAny_mono h (fun _ _ h => wpAny_mono h (fun _ _ h => PIter.sub a h) fun _ _ x => x) fun _ _ x => x
 by_cases c1 : g = "range"
 · rw [if_pos c1] at he
   subst c1
   refine zg4 S EO (b := .type "range") (List.mem_of_getElem? (i := 4) rfl) hg (by decide) (zvI he (fun x hx he => zbn he fun n σ1 h1 h2 => zft h2 fun ds' h3 h4 => ?_) fun x y hx he => zbn he fun n σ1 h1 h2 => zbn h2 fun n' σ2 g1 g2 => zft g2 fun ds' h3 h4 => ?_)
   · cases h4
     subst hx
     have sx := zdO hO.toEOk h1
     exact PyProof.Rows.callWith_type1 (he := zaW sx) (args_cons (zcU hE h1 hA EO S fun t1 s1 f1 a1 S1 => args_nil (up a1 (call_range_1 (zlE hA h3 (IsRange.new ..) (S1.ext (zh6 _)))))) (zaW sx))
   · cases h4
     subst hx
     have sx := zdO hO.toEOk h1
     have sy := zdO hO.toEOk g1
     exact PyProof.Rows.callWith_type1 (he := zaW sx) (hplain := by rw [zaW sy]; rfl) (args_cons (zcU hE h1 hA EO S fun t1 s1 f1 a1 S1 => args_cons (zcU hE g1 hA EO S1 fun t2 s2 f2 a2 S2 => args_nil (up (a1.trans a2) (call_range_2 (zlE hA h3 (IsRange.new ..) (S2.ext (zh6 _)))))) (zaW sy)) (zaW sx))
 rw [if_neg c1] at he
 by_cases c2 : g = "reversed"
 · rw [if_pos c2] at he
   subst c2
   refine zhG he fun x hx he => znj he fun ds' σ1 h1 h2 => ?_
   cases h2
   subst hx
   have sx := zga hO.toEOk h1
   exact zg4 S EO (b := .type "reversed") (List.mem_of_getElem? (i := 5) rfl) hg (by decide) (PyProof.Rows.callWith_type1 (he := zaW sx) (args_cons (zia hE h1 hA EO S fun u s1 f1 hf a1 kn S1 => args_nil (up a1 (zv0 hA kn S1))) (zaW sx)))
 rw [if_neg c2] at he
 by_cases c3 : g = "enumerate"
 · rw [if_pos c3] at he
   subst c3
   refine zhG he fun x hx he => znj he fun ds' σ1 h1 h2 => ?_
   cases h2
   subst hx
   have sx := zga hO.toEOk h1
   exact zg4 S EO (b := .type "enumerate") (List.mem_of_getElem? (i := 6) rfl) hg (by decide) (PyProof.Rows.callWith_type1 (he := zaW sx) (args_cons (zia hE h1 hA EO S fun u s1 f1 hf a1 kn S1 => args_nil (up a1 (zt7 hA kn S1))) (zaW sx)))
 rw [if_neg c3] at he
 by_cases c4 : g = "zip"
 · rw [if_pos c4] at he
   subst c4
   refine duoE he fun x y hx he => zbn he fun ds' σ1 h1 h2 => znj h2 fun es' σ2 h3 h4 => ?_
   cases h4
   subst hx
   have sx := zga hO.toEOk h1
   have sy := zga hO.toEOk h3
   exact zg4 S EO (b := .type "zip") (List.mem_of_getElem? (i := 7) rfl) hg (by decide) (PyProof.Rows.callWith_type1 (he := zaW sx) (hplain := by rw [zaW sy]; rfl) (args_cons (zia hE h1 hA EO S fun u s1 f1 hf a1 kn S1 => args_cons (zia hE h3 hA EO S1 fun u2 s2 f2 hf2 a2 kn2 S2 => args_nil (up (a1.trans a2) (zv1 hA (kn.sub a2) kn2 S2))) (zaW sy)) (zaW sx)))
 rw [if_neg c4] at he
 exact zaM he
theorem zhU (hE : SndE prog w mg mb k R) (hO : POk R) {ds : List D} {pr : Bool} (he : zb2 R sc e σ = some ((ds, pr), σ')) (hA : Ok k A) (EO : EnvOk sc env cm) (S : Sim mg mb env cm pn σ Rr fz s) :
 wpAny (model prog w) A (eval e env) (fun xv s1 => wpAny (model prog w) A (pyIter xv) (PIter prog w mg mb A env cm pn Rr fz ds pr σ') NoE s1) NoE s := by
 unfold zb2 at he
 cases hc : zly (kind e) with
 | some c =>
  rw [hc] at he
  obtain ⟨gp, pos, rfl⟩ := zrG (kr e) hc
  exact zr0 hE hO he hA EO S
 | none =>
  rw [hc] at he
  refine znj he fun ds' σ1 h1 h2 => zbn h1 fun d σ2 h3 h4 => zaE h4 fun ds2 h5 h6 => zcB h6 fun hf h6 => ?_
  cases h6
  cases h2
  refine zcu hE h3 hA EO S fun u s1 f1 a1 kn S1 => ?_
  cases d with
  | lst xs => cases h5; exact wpAny_mono (zt6 hA kn S1) (fun v s' h => PIter.sub a1 h) fun _ _ x => x
  | tup xs => cases h5; exact wpAny_mono (zvZ hA kn S1) (fun v s' h => PIter.sub a1 h) fun _ _ x => x
  | _ => exact zaM h5
end
inductive PU (mg : Str → Option Value) (mb : Bx) (env : Env) (cm : List (Str × Addr)) (pn : List (Str × Value)) (R : Own) (fz : Fz) (σ' : St) (s' : Shared) : Prop
 | mk (fz' : Fz) (sb : Sb fz fz') (S : Sim mg mb env cm pn σ' R fz' s') : PU mg mb env cm pn R fz σ' s'
section
variable {prog : Program} {w : World} {A : Around} {E : Value → Shared → Prop} {s : Shared} {mg : Str → Option Value} {mb : Bx} {k : Nat} {R : Rec} {Rr : Own} {fz fz' : Fz} {env : Env} {sc : Scope} {cm : List (Str × Addr)} {pn : List (Str × Value)} {σ σ' : St} {C : Cfg} {e : Expr}
theorem PU.sub {s' fz₀} (sb : Sb fz₀ fz) (h : PU mg mb env cm pn Rr fz σ' s') : PU mg mb env cm pn Rr fz₀ σ' s' := by cases h with | mk f a b => exact ⟨f, sb.trans a, b⟩
theorem zg5 {t : Expr} {r : List Expr} {xs : List Str} (h : zbY (t :: r) = some xs) : ∃ x p ys, t = .Name x p ∧ xs = x :: ys ∧ zbY r = some ys :=
 zdr h fun x p e h => zft h fun ys h1 h2 => ⟨x, p, ys, e, h2.symm, h1⟩
inductive Sts (prog : Program) (w : World) (A : Around) (env : Env) : List (Value → Sem Unit) → List Str → Prop
 | nil : Sts prog w A env [] []
 | cons {f x fs xs} (h : ∀ (v : Value) (Q : Unit → Shared → Prop) (s : Shared), wpAny (model prog w) A (storeName env x v) Q NoE s → wpAny (model prog w) A (f v) Q NoE s) (t : Sts prog w A env fs xs) : Sts prog w A env (f :: fs) (x :: xs)
theorem zt8 (xs : List Str) : Sts prog w A env (xs.map fun x v => bindName env x v) xs := by
 induction xs with
 | nil => exact .nil
 | cons x xs ih => exact .cons (fun v Q s h => wpAny_bindName h) ih
theorem zlF {elts : List Expr} : ∀ {xs : List Str}, zbY elts = some xs → (assignEach elts env).length = xs.length ∧ (assignEach elts env).findIdx? (·.1) = none ∧ Sts prog w A env ((assignEach elts env).map (·.2)) xs := by
 induction elts with
 | nil => exact fun h => by cases h; exact ⟨rfl, rfl, .nil⟩
 | cons t r ih =>
  intro xs h
  obtain ⟨x, p, ys, rfl, rfl, h1⟩ := zg5 h
  obtain ⟨a, b, c⟩ := ih h1
  refine ⟨by show (assignEach r env).length + 1 = _; rw [a]; rfl, ?_, .cons (fun v Q s h => wpAny_assign_Name h) c⟩
  show List.findIdx? _ ((false, assign (.Name x p) env) :: assignEach r env) = none
  rw [List.findIdx?_cons]
  simp [b]
theorem zhV (EO : EnvOk sc env cm) (hpn : ∀ p ∈ pn, p.1 ∈ C.pins) {xs : List Str} :
 ∀ {fs : List (Value → Sem Unit)} {Ws : List V} {vs : List Value} {X : Own} {σ : St} {s : Shared}, Sts prog w A env fs xs → zhQ C sc xs Ws σ = some σ' → VRL fz Ws vs X → Sim mg mb env cm pn σ (X ++ Rr) fz s →
  wpAny (model prog w) A (assignInOrder fs vs) (fun _ s' => Sim mg mb env cm pn σ' Rr fz s') NoE s := by
 induction xs with
 | nil =>
  intro fs Ws vs X σ s hs h hv S
  cases Ws with
  | nil =>
   cases h
   cases hs
   obtain ⟨rfl, rfl⟩ := hv
   exact assignInOrder_nil S
  | cons => exact zaM h
 | cons x xs ih =>
  intro fs Ws vs X σ s hs h hv S
  cases Ws with
  | nil => exact zaM h
  | cons W Ws =>
   obtain ⟨v, r, Y, Z, e, q, a, b⟩ := hv
   subst e; subst q
   cases hs with | cons hf hs =>
   exact zaE h fun σ1 h1 h2 => assignInOrder_cons (hf _ _ _ (zns EO hpn h1 (S.lo (R' := Y ++ (Z ++ Rr)) (by (intro p_; simp only [zaa, zac, zai]; exact yiP))) a fun h' tk S1 => ih hs h2 b S1))
theorem zpl {xs : List Str} : ∀ {Ws : List V} {σ : St}, zhQ C sc xs Ws σ = some σ' → xs.length = Ws.length := by
 induction xs with
 | nil => intro Ws σ h; cases Ws with | nil => rfl | cons => exact zaM h
 | cons x xs ih =>
  intro Ws σ h
  cases Ws with
  | nil => exact zaM h
  | cons W Ws => exact zaE h fun σ1 _ h2 => by rw [List.length_cons, List.length_cons, ih h2]
theorem zpX {elts : List Expr} {k1 : Nat} {tp : Pos} {xs : List Str} {ds : List D} {v : Value} {X : Own} (hA : Ok k A) (EO : EnvOk sc env cm) (hpn : ∀ p ∈ pn, p.1 ∈ C.pins) (h1 : zbY elts = some xs) (h2 : zhQ C sc xs (ds.map .f) σ = some σ') (hi : zvW fz v (.tup ds) X) (S : Sim mg mb env cm pn σ (X ++ Rr) fz s) :
 wpAny (model prog w) A (assign (.Tuple elts k1 tp) env v) (fun _ s' => PU mg mb env cm pn Rr fz σ' s') NoE s := by
 obtain ⟨n1, n2, n3⟩ := zlF (prog := prog) (w := w) (A := A) (env := env) h1
 have hl := zpl h2
 rw [List.length_map] at hl
 cases S with | mk rs nd l Y Z H hS hC hp =>
 rcases hi with ⟨kn, rfl⟩ | ⟨t, v1, v2, d1, d2, rfl, e, rfl, k1, k2⟩
 · obtain ⟨a, vs, n, rfl, ho, hv, _, H1⟩ := H.tupl kn.memT
   refine assign_Tuple_tuple hA.hd (isT ho) (by rw [List.size_toArray, n1, hl, hv]) n2 fun h' he => ?_
   have H2 := H1.ext (h' := h') fun b o e => he b o (Nat.ne_of_lt (Heap.lt_size e)) e
   exact wpAny_mono (zhV (Rr := Rr) EO hpn n3 h2 (VRL.ofKn (zlo hv)) (Sim.close (s' := { s with heap := h' }) rs nd H2 hS hC hp (Sb.app _ _) (Lo.refl _))) (fun _ s' h => ⟨_, Sb.app _ _, h⟩) fun _ _ x => x
 · cases e
   refine assign_Tuple_tuple hA.hd (isT (H.get (List.mem_append_right _ (List.mem_append_right _ (.head _))))) (by rw [List.size_toArray, n1, hl]; rfl) n2 fun h' he => ?_
   have H2 := H.ext (h' := h') fun b o e => he b o (Nat.ne_of_lt (Heap.lt_size e)) e
   exact wpAny_mono (zhV (Rr := Rr) EO hpn n3 h2 (VRL.ofKn (.cons k1 (.cons k2 .nil))) (Sim.close (s' := { s with heap := h' }) rs nd H2 hS hC hp (Sb.refl _) (by (intro p_; simp only [zaa, zac, zai]; exact yiO)))) (fun _ s' h => ⟨_, Sb.refl _, h⟩) fun _ _ x => x
theorem zr1 {pairs : Bool} {target : Expr} {d : D} {v : Value} {X : Own} (hA : Ok k A) (EO : EnvOk sc env cm) (hpn : ∀ p ∈ pn, p.1 ∈ C.pins) (h : zku C sc pairs target d σ = some σ') (hi : zvW fz v d X) (S : Sim mg mb env cm pn σ (X ++ Rr) fz s) :
 wpAny (model prog w) A (assign target env v) (fun _ s' => PU mg mb env cm pn Rr fz σ' s') NoE s := by
 unfold zku at h
 cases hn : zeg target with
 | some x =>
  rw [hn] at h
  obtain ⟨p, rfl⟩ := zf5 hn
  refine znk h fun _ h => ?_
  rcases hi with ⟨kn, rfl⟩ | ⟨t, v1, v2, d1, d2, rfl, rfl, rfl, k1, k2⟩
  · exact wpAny_assign_Name (zns EO hpn h S (VR.of kn) fun h' tk S1 => ⟨fz, Sb.refl _, S1⟩)
  · cases S with | mk rs nd l Y Z H hS hC hp =>
    have H1 := At.freezeT (H.lo (own' := (t, zen (List.toArray [v1, v2]) 0) :: (Y ++ (Z ++ Rr))) (by (intro p_; simp only [zaa, zac, zai]; exact yiN))) .hd (.cons k1 (.cons k2 .nil))
    exact wpAny_assign_Name (zns (X := []) (fz := (.ref t, .tup [d1, d2]) :: fz) EO hpn h (Sim.close rs nd H1 hS hC hp (Sb.cons _ _) (Lo.refl _)) (VR.of (.mem (.head _))) fun h' tk S1 => ⟨_, Sb.cons _ _, S1⟩)
 | none =>
  rw [hn] at h
  refine znp h fun es k1 tp e h => onTupE h fun ds h1 h => zaE h fun xs h2 h3 => ?_
  subst e
  subst h1
  exact zpX hA EO hpn h2 h3 hi S
theorem zlG {pairs : Bool} {target : Expr} {d : D} (h : zku C sc pairs target d σ = some σ') : Targ pairs target := by
 unfold zku at h
 cases hn : zeg target with
 | some x =>
  rw [hn] at h
  obtain ⟨p, e⟩ := zf5 hn
  exact znk h fun hp _ => .inl ⟨by simpa using hp, _, p, e⟩
 | none =>
  rw [hn] at h
  exact znp h fun es k1 tp e _ => .inr ⟨es, k1, tp, e⟩
inductive ForSt (prog : Program) (w : World) (mg : Str → Option Value) (mb : Bx) (A : Around) (C : Cfg) (R : Rec) (sc : Scope) (env : Env) (cm : List (Str × Addr)) (pn : List (Str × Value)) (σ' : St) (Rr : Own) (pairs : Bool) (target : Expr) (body : List Stmt) (f : Fl) (it : Value) (need : Fz) (n : Nat) (s : Shared) : Prop
 | mk (ds : List D) (σ : St) (X : Own) (fz : Fz) (hn : ds.length = n) (h : zjJ C R sc pairs target body ds σ = some (f, σ')) (nx : Nx prog w mg mb A it target need ds X) (sb : Sb need fz) (S : Sim mg mb env cm pn σ (X ++ Rr) fz s) : ForSt prog w mg mb A C R sc env cm pn σ' Rr pairs target body f it need n s
theorem zv2 (hS : SndS prog w mg mb k C R) {target : Expr} {body : List Stmt} {f : Fl} {pairs : Bool} {it : Value} (hA : Ok k A) (EO : EnvOk sc env cm) (hpn : ∀ p ∈ pn, p.1 ∈ C.pins) {need : Fz} {Q : Result → Shared → Prop}
 (fin : ∀ g s', PS mg mb env cm pn Rr need f σ' g s' → Q (.ok g) s') :
 ∀ {ds : List D} {σ : St} {X : Own} {s : Shared} {fz : Fz}, zjJ C R sc pairs target body ds σ = some (f, σ') → Nx prog w mg mb A it target need ds X → Sb need fz → Sim mg mb env cm pn σ (X ++ Rr) fz s →
  codeAny (model prog w) A (.forLoop target it body [] env) Q s := by
 intro ds σ X s fz h nx sb S
 refine codeAny_forLoop_any (ForSt prog w mg mb A C R sc env cm pn σ' Rr pairs target body f it need) ?_ ds.length ⟨ds, σ, X, fz, rfl, h, nx, sb, S⟩
 clear h nx sb S
 intro n s h
 cases h with | mk ds σ X fz hn h nx sb S =>
 cases S with | mk rs nd l Y Z H hSl hC hp =>
 have H0 := H.lo (own' := X ++ (Y ++ (Z ++ Rr))) (by (intro p_; simp only [zaa, zac, zai]; exact yiB))
 cases ds with
 | nil =>
  cases h
  refine noE (wpAny_mono (nx _ _ _ _ s sb rs H0) (fun r s1 h => ?_) fun _ _ x => x)
  obtain ⟨rfl, rs1, H1⟩ := h
  exact wpAny_execs_nil (fin _ _ ⟨rfl, fz, sb, Sim.close rs1 nd H1 hSl hC hp (Sb.refl _) (Lo.refl _)⟩)
 | cons d ds =>
  refine zaE h fun σ1 h1 h2 => zbn h2 fun f1 σ2 h3 h4 => noE (wpAny_mono (nx _ _ _ _ s sb rs H0) (fun r s1 h => ?_) fun _ _ x => x)
  obtain ⟨v, rfl, h⟩ := h
  refine noE (wpAny_mono h (fun _ s2 h => ?_) fun _ _ x => x)
  cases h with | mk fz1 X' Xv sb1 hi rs1 H1 nx1 =>
  refine noE (wpAny_mono (zr1 (Rr := X' ++ Rr) hA EO hpn h1 hi (Sim.close rs1 nd H1 hSl hC hp sb1 (by (intro p_; simp only [zaa, zac, zai]; exact yiM)))) (fun _ s3 h => ?_) fun _ _ x => x)
  cases h with | mk fz2 sb2 S2 =>
  refine noE (wpAny_mono (hS _ _ _ _ _ h3 _ _ _ _ _ _ s3 hA EO hpn S2) (fun g s4 hPS => ?_) fun _ _ x => x)
  cases f1 with
  | next =>
   obtain ⟨rfl, fz3, sb3, S3⟩ := hPS
   exact ⟨ds.length, hn ▸ Nat.lt_succ_self _, ds, σ2, X', fz3, rfl, h4, nx1, ((sb.trans sb1).trans sb2).trans sb3, S3⟩
  | ret d' =>
   cases h4
   obtain ⟨u, rfl, fz3, sb3, kn, S3⟩ := hPS
   exact fin _ _ ⟨u, rfl, fz3, ((sb.trans sb1).trans sb2).trans sb3, kn, S3.lo (by (intro p_; simp only [zaa, zac, zai]; exact yh5))⟩
theorem zr2 (hS : SndS prog w mg mb k C R) (hT : SndT prog w mg mb k R) {test : Expr} {body : List Stmt} {f : Fl} (hA : Ok k A) (EO : EnvOk sc env cm) (hpn : ∀ p ∈ pn, p.1 ∈ C.pins) {need : Fz} {Q : Result → Shared → Prop}
 (fin : ∀ g s', PS mg mb env cm pn Rr need f σ' g s' → Q (.ok g) s') :
 ∀ {n : Nat} {σ : St} {s : Shared} {fz : Fz}, znr R sc test body n σ = some (f, σ') → Sb need fz → Sim mg mb env cm pn σ Rr fz s → codeAny (model prog w) A (.whileLoop test body [] env) Q s := by
 intro n σ s fz h sb S
 refine codeAny_whileLoop (fun n s => ∃ σ fz, znr R sc test body n σ = some (f, σ') ∧ Sb need fz ∧ Sim mg mb env cm pn σ Rr fz s) ?_ n ⟨σ, fz, h, sb, S⟩
 rintro n s ⟨σ, fz, h, sb, S⟩
 cases n with
 | zero => cases h
 | succ n =>
  refine zbn h fun b σ1 h1 h2 => noE (hT.use h1 hA EO S fun s1 fz1 sb1 S1 => ?_)
  cases b with
  | false =>
   cases h2
   exact wpAny_execs_nil (fin _ _ ⟨rfl, fz1, sb.trans sb1, S1⟩)
  | true =>
   refine zbn h2 fun f1 σ2 h3 h4 => noE (wpAny_mono (hS _ _ _ _ _ h3 _ _ _ _ _ _ s1 hA EO hpn S1) (fun g s2 hPS => ?_) fun _ _ x => x)
   cases f1 with
   | next =>
    obtain ⟨rfl, fz3, sb3, S3⟩ := hPS
    exact ⟨n, Nat.lt_succ_self _, σ2, fz3, h4, (sb.trans sb1).trans sb3, S3⟩
   | ret d' =>
    cases h4
    obtain ⟨u, rfl, fz3, sb3, kn, S3⟩ := hPS
    exact fin _ _ ⟨u, rfl, fz3, (sb.trans sb1).trans sb3, kn, S3⟩
end
section
variable {prog : Program} {w : World} {A : Around} {E : Value → Shared → Prop} {s : Shared} {env : Env} {R : Result → Shared → Prop}
theorem zv3 {scope : Scope} {globals : Addr} {cl : List (Str × Addr)} {qual : Str} {M : Model} {Q : Env → Shared → Prop}
 (h : Q (newEnv scope s.heap.objs.size globals (cellsFrom (s.heap.objs.size + 1) scope.names cl) qual none .none (some env) builtinsNs) { s with heap := pushCells (s.heap.push { cls := .type "dict", data := .dict #[] }) scope.names }) :
 wpAny M A (newFunctionEnv scope globals cl [] qual none .none (some env)) Q E s := by
 simp only [newFunctionEnv, Option.isSome_some, if_true]
 refine wpAny_bind (wpAny_alloc ?_)
 refine wpAny_bind (wpAny_layCells _ (fun name kind cells => by cases hkc : kind == NameKind.cell <;> simp [hkc]) _ _ _ _ ?_)
 rw [show ({ s with heap := s.heap.push { cls := .type "dict", data := .dict #[] } } : Shared).heap.objs.size = s.heap.objs.size + 1 from Heap.size_push ..]
 refine wpAny_bind ?_
 rw [List.forIn_nil]
 exact wpAny_pure (wpAny_pure h)
theorem zjX (names : List (Str × NameKind)) : ∀ (h : Heap) (n : Nat) (acc : List (Str × Addr)), (names.filter fun x => x.2 == .cell) = [] → pushCells h names = h ∧ cellsFrom n names acc = acc := by
 induction names with
 | nil => exact fun _ _ _ _ => ⟨rfl, rfl⟩
 | cons p r ih =>
  intro h n acc e
  obtain ⟨x, k⟩ := p
  cases hb : k == NameKind.cell with
  | true => rw [List.filter_cons_of_pos (p := fun x : Str × NameKind => x.2 == .cell) (a := (x, k)) hb] at e; cases e
  | false =>
   rw [List.filter_cons_of_neg (by rw [hb]; decide)] at e
   unfold pushCells cellsFrom
   rw [hb]
   exact ih h n acc e
theorem zr3 {x : Str} (names : List (Str × NameKind)) : ∀ (h : Heap) (n : Nat) (acc : List (Str × Addr)), (names.filter fun x => x.2 == .cell).map (·.1) = [x] →
 pushCells h names = h.push { cls := .type "cell", data := .cell none } ∧ cellsFrom n names acc = (x, n) :: acc := by
 induction names with
 | nil => intro h n acc e; cases e
 | cons p r ih =>
  intro h n acc e
  obtain ⟨y, k⟩ := p
  cases hb : k == NameKind.cell with
  | true =>
   rw [List.filter_cons_of_pos (p := fun x : Str × NameKind => x.2 == .cell) (a := (y, k)) hb, List.map_cons] at e
   injection e with e1 e2
   dsimp only at e1
   subst e1
   unfold pushCells cellsFrom
   rw [hb]
   exact zjX r (h.push { cls := .type "cell", data := .cell none }) (n + 1) ((y, n) :: acc) (List.map_eq_nil_iff.mp e2)
  | false =>
   rw [List.filter_cons_of_neg (by rw [hb]; decide)] at e
   unfold pushCells cellsFrom
   rw [hb]
   exact ih h n acc e
noncomputable def zr4 (env : Env) : List (Str × NameKind) → List (Str × Addr) → List (Str × Addr)
 | [], acc => acc
 | (x, k) :: r, acc => if k == .free then zr4 env r ((x, (env.cells.lookup x).getD 0) :: acc) else zr4 env r acc
theorem zjY {scope : Scope} (h : ∀ x ∈ scope.names, x.2 = NameKind.free → ∃ c, env.cells.lookup x.1 = some c) : closureFor scope env = pure (zr4 env scope.names []) := by
 unfold closureFor
 have key : ∀ (names : List (Str × NameKind)) (acc : List (Str × Addr)), (∀ x ∈ names, x.2 = NameKind.free → ∃ c, env.cells.lookup x.1 = some c) →
  (forIn names acc fun x r => match x with | (name, kind) => (do
    if kind == NameKind.free then (do let a ← cellOf env name; pure (ForInStep.yield ((name, a) :: r))) else pure (ForInStep.yield r) : Sem (ForInStep (List (Str × Addr))))) = pure (zr4 env names acc) := by
  intro names
  induction names with
  | nil => intro acc _; rfl
  | cons x r ih =>
   intro acc hx
   obtain ⟨n, k⟩ := x
   rw [List.forIn_cons]
   unfold zr4
   by_cases hk : k = .free
   · subst hk
     obtain ⟨c, hc⟩ := hx (n, .free) (.head _) rfl
     have hc' : env.cells.lookup n = some c := hc
     have hcl : cellOf env n = pure c := by delta cellOf; rw [hc']
     simp only [beq_self_eq_true, if_true, hcl, hc', pure_bind, Option.getD_some]
     exact ih _ fun y hy => hx y (.tail _ hy)
   · have hb : (k == NameKind.free) = false := by simpa using hk
     simp only [hb, Bool.false_eq_true, if_false, pure_bind]
     exact ih _ fun y hy => hx y (.tail _ hy)
 have := key scope.names [] h
 simp only [bind_pure]
 exact this
theorem znt {x : Str} {c : Addr} (hc : env.cells.lookup x = some c) (names : List (Str × NameKind)) : ∀ acc : List (Str × Addr), ((x, NameKind.free) ∈ names ∨ acc.lookup x = some c) → (zr4 env names acc).lookup x = some c := by
 induction names with
 | nil => exact fun acc h => h.elim (fun h => by cases h) id
 | cons p r ih =>
  intro acc h
  obtain ⟨y, k⟩ := p
  show (if k == NameKind.free then zr4 env r ((y, (env.cells.lookup y).getD 0) :: acc) else zr4 env r acc).lookup x = some c
  by_cases hk : k = .free
  · subst hk
    rw [if_pos (beq_self_eq_true _)]
    refine ih _ ?_
    by_cases hy : x = y
    · subst hy
      exact .inr (by rw [List.lookup_cons, beq_self_eq_true, hc]; rfl)
    · rcases h with h | h
      · exact .inl ((List.mem_cons.mp h).resolve_left fun e => hy (congrArg Prod.fst e))
      · exact .inr (by rw [List.lookup_cons, beq_false_of_ne hy]; exact h)
  · rw [if_neg (by simpa using hk)]
    exact ih _ (h.imp_left fun h => (List.mem_cons.mp h).resolve_left fun e => hk (congrArg Prod.snd e).symm)
theorem zt9 {scope sc : Scope} (h : env.scope = sc) : relabel scope env = zaF scope sc := by
 subst h; rfl
theorem znu (scope sc : Scope) : (zaF scope sc).names = scope.names.map fun x => (x.1, if (x.2 == .free && sc.kind == .function && sc.names.lookup x.1 == some .cell) then .cell else x.2) := by
 unfold zaF
 dsimp only
 refine List.map_congr_left fun x _ => ?_
 obtain ⟨n, k⟩ := x
 dsimp only
 split <;> rfl
theorem zlH {scope sc : Scope} {x : Str} : (zaF scope sc).names.lookup x = (scope.names.lookup x).map fun k => if (k == .free && sc.kind == .function && sc.names.lookup x == some .cell) then .cell else k := by
 rw [znu]
 generalize scope.names = names
 induction names with
 | nil => rfl
 | cons y r ih =>
  obtain ⟨n, k⟩ := y
  rw [List.map_cons, List.lookup_cons, List.lookup_cons]
  by_cases hx : x = n
  · subst hx
    simp
  · have hb : (x == n) = false := by simpa using hx
    dsimp only
    rw [hb]
    exact ih
theorem zlI (elt target iter : Expr) (ifs : List Expr) (scope : Scope) (pos : Pos) (it acc : Value) (env : Env) :
 compTurn (.ListComp elt [⟨target, iter, ifs, 0⟩] scope pos) 0 it acc env = (do
  standAt iter.pos
  match ← pyNext it with
  | none => pure (.done .next)
  | some v =>
   letOwnedTupleGo target it v
   assign target env v
   let mut ok := true
   for c in ifs do
    if ok then ok ← isTrue c env (eval c env)
   if ok then
    (do let _ ← call (.builtin "list.append") [acc, ← eval elt env])
   again (.compLoop (.ListComp elt [⟨target, iter, ifs, 0⟩] scope pos) 0 it acc env)) := by rfl
theorem znv (elt target iter : Expr) (ifs : List Expr) (g : Comprehension) (scope : Scope) (pos : Pos) (it acc : Value) (env : Env) :
 compTurn (.ListComp elt [g, ⟨target, iter, ifs, 0⟩] scope pos) 1 it acc env = (do
  standAt iter.pos
  match ← pyNext it with
  | none => pure (.done .next)
  | some v =>
   letOwnedTupleGo target it v
   assign target env v
   let mut ok := true
   for c in ifs do
    if ok then ok ← isTrue c env (eval c env)
   if ok then
    (do let _ ← call (.builtin "list.append") [acc, ← eval elt env])
   again (.compLoop (.ListComp elt [g, ⟨target, iter, ifs, 0⟩] scope pos) 1 it acc env)) := by rfl
theorem zlJ (elt target iter target2 iter2 : Expr) (ifs ifs2 : List Expr) (scope : Scope) (pos : Pos) (it acc : Value) (env : Env) :
 compTurn (.ListComp elt [⟨target, iter, ifs, 0⟩, ⟨target2, iter2, ifs2, 0⟩] scope pos) 0 it acc env = (do
  standAt iter.pos
  match ← pyNext it with
  | none => pure (.done .next)
  | some v =>
   letOwnedTupleGo target it v
   assign target env v
   let mut ok := true
   for c in ifs do
    if ok then ok ← isTrue c env (eval c env)
   if ok then
    let x ← eval iter2 env
    standAt iter2.pos
    let x ← foldedSetIterable iter2 env x
    let _ ← runOwn (.compStart (.ListComp elt [⟨target, iter, ifs, 0⟩, ⟨target2, iter2, ifs2, 0⟩] scope pos) 1 (← holding [x] (pyIter x)) acc env) env
   again (.compLoop (.ListComp elt [⟨target, iter, ifs, 0⟩, ⟨target2, iter2, ifs2, 0⟩] scope pos) 0 it acc env)) := by rfl
theorem znw {elt target iter : Expr} {gens : List Comprehension} {d : Nat} {ifs : List Expr} {scope : Scope} {pos : Pos} {it acc : Value} {J : Sem Fin} (I : Nat → Shared → Prop)
 (ht : compTurn (.ListComp elt gens scope pos) d it acc env = (do
   standAt iter.pos
   match ← pyNext it with
   | none => pure (.done .next)
   | some v =>
    letOwnedTupleGo target it v
    assign target env v
    let mut ok := true
    for c in ifs do
     if ok then ok ← isTrue c env (eval c env)
    if ok = true then J else again (.compLoop (.ListComp elt gens scope pos) d it acc env)))
 (turn : ∀ n s, I n s → wpAny (model prog w) A (pyNext it) (fun r s₁ => match r with
   | none => R (.ok .next) s₁
   | some v => wpAny (model prog w) A (letOwnedTupleGo target it v) (fun _ s₂ => wpAny (model prog w) A (assign target env v) (fun _ s₃ =>
    wpAny (model prog w) A (forIn ifs true fun c r => if r = true then do let ok ← isTrue c env (eval c env); pure (ForInStep.yield ok) else pure (ForInStep.yield r)) (fun ok s₄ =>
     if ok = true then wpAny (model prog w) A J (fun fin s₅ => fin = .again (.compLoop (.ListComp elt gens scope pos) d it acc env) ∧ ∃ m, m < n ∧ I m s₅) NoE s₄
     else ∃ m, m < n ∧ I m s₄) NoE s₃) NoE s₂) NoE s₁) NoE s)
 (n : Nat) (h : I n s) : codeAny (model prog w) A (.compLoop (.ListComp elt gens scope pos) d it acc env) R s := by
 refine codeAny_loop rfl I (fun n s hI => ?_) n h
 show wpAny _ A ((compTurn (.ListComp elt gens scope pos) d it acc env).onRaise (fun x => do noteFrame x env; theTreesLotGoes x)) _ _ s
 refine wpAny_noted ?_
 rw [ht]
 refine noE ?_
 refine wpAny_bind (wpAny_standAt (wpAny_bind (wpAny_mono (turn n s hI) (fun r s₁ h₁ => ?_) fun _ _ h' => h')))
 cases r with
 | none => exact wpAny_pure h₁
 | some v =>
  refine wpAny_bind (wpAny_mono h₁ (fun _ s₂ h₂ => wpAny_bind (wpAny_mono h₂ (fun _ s₃ h₃ => wpAny_bind (wpAny_mono h₃ (fun ok s₄ h₄ => ?_) fun _ _ h' => h')) fun _ _ h' => h')) fun _ _ h' => h')
  cases ok with
  | false => exact wpAny_pure ⟨rfl, h₄⟩
  | true =>
   refine wpAny_mono h₄ (fun fin s₅ h₅ => ?_) fun _ _ h' => h'
   obtain ⟨rfl, h₅⟩ := h₅
   exact ⟨rfl, h₅⟩
theorem zev {elt : Expr} {gens : List Comprehension} {d : Nat} {g : Comprehension} {scope : Scope} {pos : Pos} {it acc : Value} (hg : gens[d]? = some g) (hs : g.is_async = 0)
 (h0 : codeAny (model prog w) A (.compLoop (.ListComp elt gens scope pos) d it acc env) R s)
 (h : wpAny (model prog w) A (pyIter it) (fun it' s' => codeAny (model prog w) A (.compLoop (.ListComp elt gens scope pos) d it' acc env) R s') NoE s) :
 codeAny (model prog w) A (.compStart (.ListComp elt gens scope pos) d it acc env) R s := by
 refine codeAny_of_tree ?_
 show wpAny _ _ ((compStart (.ListComp elt gens scope pos) d it acc env).onRaise (fun x => do noteFrame x env; standAt theWindowsPlace)) _ _ s
 refine wpAny_notedAt ?_
 have hc : (clausesOf (.ListComp elt gens scope pos))[d]? = some g := hg
 have hb : (g.is_async != 0) = false := by simpa using hs
 have key : wpAny (model prog w) (A.under (.compStart (.ListComp elt gens scope pos) d it acc env)) (compStart (.ListComp elt gens scope pos) d it acc env) (fun fin s' => match fin with | .done f => R (.ok f) s' | .again c' => c'.quiet = true ∧ codeAny (model prog w) A c' R s') NoE s := by
  unfold compStart
  simp only [hc, Option.elim_some, hb, Bool.false_eq_true, if_false]
  refine wpAny_bind (wpAny_askSetting (wpAny_ite ?_))
  split
  · first
     | exact wpAny_bind (wpAny_pure (wpAny_pure (And.intro rfl h0)))
     | exact wpAny_pure (And.intro rfl h0)
  · refine wpAny_bind (wpAny_rule (wpAny_bind (wpAny_standAt (wpAny_bind (wpAny_mono h (fun it' s' h' => wpAny_pure (And.intro rfl h')) fun _ _ x => x)))))
 exact noE key
end
section
variable {prog : Program} {w : World} {A : Around} {E : Value → Shared → Prop} {s : Shared} {mg : Str → Option Value} {mb : Bx} {k : Nat} {R : Rec} {Rr : Own} {fz fz' : Fz} {env : Env} {sc : Scope} {cm : List (Str × Addr)} {pn : List (Str × Value)} {σ σ' τ τ' : St} {C : Cfg} {e : Expr}
theorem zlK {pairs : Bool} {target : Expr} {ifs : List Expr} {em : St → Option (List V × St)} (ds : List D) : ∀ (acc : List V) (τ : St), zcr C R sc pairs target ifs em ds acc τ = (zcr C R sc pairs target ifs em ds [] τ).map fun v => (acc ++ v.1, v.2) := by
 induction ds with
 | nil => intro acc τ; show some (acc, τ) = some (acc ++ [], τ); rw [List.append_nil]
 | cons d ds ih =>
  intro acc τ
  show (zku C sc pairs target d τ).bind _ = Option.map _ ((zku C sc pairs target d τ).bind _)
  cases zku C sc pairs target d τ with
  | none => rfl
  | some τ1 =>
   show (zet R sc ifs τ1).bind _ = Option.map _ ((zet R sc ifs τ1).bind _)
   cases zet R sc ifs τ1 with
   | none => rfl
   | some b =>
    obtain ⟨b, τ2⟩ := b
    cases b with
    | false => exact ih acc τ2
    | true =>
     show (em τ2).bind _ = Option.map _ ((em τ2).bind _)
     cases em τ2 with
     | none => rfl
     | some v =>
      show zcr C R sc pairs target ifs em ds (acc ++ v.1) v.2 = Option.map _ (zcr C R sc pairs target ifs em ds ([] ++ v.1) v.2)
      rw [ih (acc ++ v.1), ih ([] ++ v.1), Option.map_map]
      congr 1
      funext u
      show (acc ++ v.1 ++ u.1, u.2) = (acc ++ ([] ++ v.1 ++ u.1), u.2)
      rw [List.nil_append, List.append_assoc]
theorem zpY (hT : SndT prog w mg mb k R) {ifs : List Expr} {b : Bool} (h : zet R sc ifs σ = some (b, σ')) (hA : Ok k A) (EO : EnvOk sc env cm) (S : Sim mg mb env cm pn σ Rr fz s) :
 wpAny (model prog w) A (forIn ifs true fun c r => if r = true then do let ok ← isTrue c env (eval c env); pure (ForInStep.yield ok) else pure (ForInStep.yield r)) (PT mg mb env cm pn Rr fz b σ') NoE s := by
 cases ifs with
 | nil => cases h; exact wpAny_tests_nil ⟨rfl, fz, Sb.refl _, S⟩
 | cons c r => cases r with
  | nil => exact wpAny_tests_one (hT _ _ _ _ _ h _ _ _ _ _ _ s hA EO S)
  | cons => exact zaM h
inductive Acc (mg : Str → Option Value) (mb : Bx) (env : Env) (cm : List (Str × Addr)) (pn : List (Str × Value)) (Dl : Addr) (Rr : Own) (fz : Fz) (acc : List V) (τ : St) (s' : Shared) : Prop
 | mk (fz' : Fz) (us : List Value) (n : Nat) (XA : Own) (sb : Sb fz fz') (k : VRL fz' acc us XA) (S : Sim mg mb env cm pn τ ((Dl, listOf (List.toArray us) n) :: (XA ++ Rr)) fz' s') : Acc mg mb env cm pn Dl Rr fz acc τ s'
theorem Acc.sub {Dl acc τ s' fz₀} (sb : Sb fz₀ fz) (h : Acc mg mb env cm pn Dl Rr fz acc τ s') : Acc mg mb env cm pn Dl Rr fz₀ acc τ s' := by cases h with | mk f us n XA a b c => exact ⟨f, us, n, XA, sb.trans a, b, c⟩
inductive CompSt (prog : Program) (w : World) (mg : Str → Option Value) (mb : Bx) (A : Around) (C : Cfg) (R : Rec) (sc : Scope) (env : Env) (cm : List (Str × Addr)) (pn : List (Str × Value)) (Rr : Own) (pairs : Bool) (target : Expr) (ifs : List Expr) (em : St → Option (List V × St)) (Dl : Addr) (it : Value) (need : Fz) (accF : List V) (τF : St) (n : Nat) (s : Shared) : Prop
 | mk (ds : List D) (acc : List V) (τ : St) (X : Own) (hn : ds.length = n) (h : zcr C R sc pairs target ifs em ds acc τ = some (accF, τF)) (nx : Nx prog w mg mb A it target need ds X) (S : Acc mg mb env cm pn Dl (X ++ Rr) need acc τ s) : CompSt prog w mg mb A C R sc env cm pn Rr pairs target ifs em Dl it need accF τF n s
noncomputable def JOk (prog : Program) (w : World) (mg : Str → Option Value) (mb : Bx) (A : Around) (env : Env) (cm : List (Str × Addr)) (pn : List (Str × Value)) (Dl : Addr) (J : Sem Fin) (c : Code) (em : St → Option (List V × St)) : Prop :=
 ∀ acc τ vs τ', em τ = some (vs, τ') → (acc ++ vs).length ≤ sizeLine → ∀ s fz Rr, Acc mg mb env cm pn Dl Rr fz acc τ s → wpAny (model prog w) A J (fun fin s' => fin = .again c ∧ Acc mg mb env cm pn Dl Rr fz (acc ++ vs) τ' s') NoE s
theorem zib (hT : SndT prog w mg mb k R) {elt target iter : Expr} {gens : List Comprehension} {d : Nat} {ifs : List Expr} {scope : Scope} {pos : Pos} {it : Value} {Dl : Addr} {J : Sem Fin} {pairs : Bool} {em : St → Option (List V × St)} {accF : List V} {τF : St} {need : Fz}
 (ht : compTurn (.ListComp elt gens scope pos) d it (.ref Dl) env = (do
   standAt iter.pos
   match ← pyNext it with
   | none => pure (.done .next)
   | some v =>
    letOwnedTupleGo target it v
    assign target env v
    let mut ok := true
    for c in ifs do
     if ok then ok ← isTrue c env (eval c env)
    if ok = true then J else again (.compLoop (.ListComp elt gens scope pos) d it (.ref Dl) env)))
 (hJ : JOk prog w mg mb A env cm pn Dl J (.compLoop (.ListComp elt gens scope pos) d it (.ref Dl) env) em) (hA : Ok k A) (EO : EnvOk sc env cm) (hpn : ∀ p ∈ pn, p.1 ∈ C.pins) (hsz : accF.length ≤ sizeLine) {Q : Result → Shared → Prop}
 {X : Own} {ds : List D} {acc : List V}
 (h : zcr C R sc pairs target ifs em ds acc τ = some (accF, τF)) (nx : Nx prog w mg mb A it target need ds X) (S : Acc mg mb env cm pn Dl (X ++ Rr) need acc τ s)
 (fin : ∀ s', Acc mg mb env cm pn Dl Rr need accF τF s' → Q (.ok .next) s') :
 codeAny (model prog w) A (.compLoop (.ListComp elt gens scope pos) d it (.ref Dl) env) Q s := by
 refine znw (CompSt prog w mg mb A C R sc env cm pn Rr pairs target ifs em Dl it need accF τF) ht ?_ ds.length ⟨ds, acc, τ, X, rfl, h, nx, S⟩
 clear h nx S
 intro n s h
 cases h with | mk ds acc τ X hn h nx S =>
 cases S with | mk fz us m XA sb hv S =>
 cases S with | mk rs nd l Y Z H hSl hC hp =>
 have H0 := H.lo (own' := X ++ (Y ++ (Z ++ ((Dl, listOf (List.toArray us) m) :: (XA ++ Rr))))) (by (intro p_; simp only [zaa, zac, zai]; exact yiL))
 cases ds with
 | nil =>
  cases h
  refine wpAny_mono (nx _ _ _ _ s sb rs H0) (fun r s1 h => ?_) fun _ _ x => x
  obtain ⟨rfl, rs1, H1⟩ := h
  exact fin _ ⟨fz, us, m, XA, sb, hv, Sim.close rs1 nd H1 hSl hC hp (Sb.refl _) (Lo.refl _)⟩
 | cons d' ds =>
  refine zaE h fun τ1 h1 h2 => zbn h2 fun b τ2 h3 h4 => wpAny_mono (nx _ _ _ _ s sb rs H0) (fun r s1 hh => ?_) fun _ _ x => x
  obtain ⟨v, rfl, hh⟩ := hh
  refine wpAny_mono hh (fun _ s2 hh => ?_) fun _ _ x => x
  cases hh with | mk fz1 X' Xv sb1 hi rs1 H1 nx1 =>
  refine wpAny_mono (zr1 (Rr := (Dl, listOf (List.toArray us) m) :: (XA ++ (X' ++ Rr))) hA EO hpn h1 hi (Sim.close rs1 nd H1 hSl hC hp sb1 (by (intro p_; simp only [zaa, zac, zai]; exact yiK)))) (fun _ s3 hh => ?_) fun _ _ x => x
  cases hh with | mk fz2 sb2 S2 =>
  refine wpAny_mono (zpY hT h3 hA EO S2) (fun ok s4 hh => ?_) fun _ _ x => x
  obtain ⟨rfl, fz3, sb3, S3⟩ := hh
  have A3 : Acc mg mb env cm pn Dl (X' ++ Rr) need acc τ2 s4 := ⟨fz3, us, m, XA, ((sb.trans sb1).trans sb2).trans sb3, hv.sub ((sb1.trans sb2).trans sb3), S3⟩
  have hlt : ds.length < n := hn ▸ Nat.lt_succ_self _
  clear S3 H1 H0 H hSl hC hp
  cases ok with
  | false => exact ⟨ds.length, hlt, ds, acc, τ2, X', rfl, h4, nx1, A3⟩
  | true =>
   refine zbn h4 fun vs τ3 h5 h6 => ?_
   have hsz' : (acc ++ vs).length ≤ sizeLine := by
    have h6 := h6
    rw [zlK] at h6
    refine zft h6 fun ws _ h7 => ?_
    cases h7
    rw [List.length_append] at hsz
    exact Nat.le_trans (Nat.le_add_right _ _) hsz
   refine wpAny_mono (hJ _ _ _ _ h5 hsz' _ _ _ A3) (fun fin' s5 hh => ?_) fun _ _ x => x
   exact ⟨hh.1, ds.length, hlt, ds, acc ++ vs, τ3, X', rfl, h6, nx1, hh.2⟩
theorem zlL (hE : SndE prog w mg mb k R) {elt : Expr} {Dl : Addr} {c : Code} (hA : Ok k A) (EO : EnvOk sc env cm) :
 JOk prog w mg mb A env cm pn Dl (do (do let _ ← call (.builtin "list.append") [.ref Dl, ← eval elt env]); again c) c (zep R sc elt) := by
 intro acc τ vs τ' h hsz s fz Rr S
 cases S with | mk fz1 us n XA sb hv S =>
 refine znj h fun W τ1 h1 h2 => ?_
 cases h2
 refine wpAny_bind (wpAny_bind (hE.use h1 hA EO S fun v s1 fz2 X sb2 hx S2 => wpAny_bind ?_))
 cases S2 with | mk rs nd l Y Z H hS hC hp =>
 have H1 := H.lo (own' := (Dl, listOf (List.toArray us) n) :: (Y ++ (Z ++ ((XA ++ X) ++ Rr)))) (by (intro p_; simp only [zaa, zac, zai]; exact yiJ))
 have hl := hv.length
 rw [List.length_append, List.length_singleton] at hsz
 refine zvh (f := fun n' => (Dl, listOf (List.toArray (us ++ [v])) n') :: (Y ++ (Z ++ ((XA ++ X) ++ Rr)))) H1 (fun _ => .hd) (yiI hsz hl) fun h' n' H2 => wpAny_pure (wpAny_pure ⟨rfl, ?_⟩)
 exact ⟨fz2, us ++ [v], n', XA ++ X, sb.trans sb2, (hv.sub sb2).app (VRL.single hx), Sim.close rs nd H2 hS hC hp (Sb.refl _) (by (intro p_; simp only [zaa, zac, zai]; exact yiH))⟩
end
section
variable {prog : Program} {w : World} {A : Around} {E : Value → Shared → Prop} {s : Shared} {mg : Str → Option Value} {mb : Bx} {k : Nat} {R : Rec} {Rr : Own} {fz fz' : Fz} {env : Env} {sc : Scope} {cm : List (Str × Addr)} {pn : List (Str × Value)} {σ σ' τ τ' : St} {C : Cfg} {e : Expr}
theorem zkC (hO : EOk R) {v} (h : zb2 R sc e σ = some v) : ∀ x, foldedSetIterable e env x = pure x := by
 intro x
 cases e
 case Set a b c =>
  have h : (evLT R sc (.Set a b c) σ).map (fun v => ((v.1, false), v.2)) = some v := h
  exact zft h fun _ h1 _ => zaE h1 fun _ h2 _ => zft h2 fun _ h3 _ => by rw [hO.eSet] at h3; exact zaM h3
 all_goals rfl
theorem zua {it : Value} {target : Expr} {pr : Bool} {ds : List D} {X : Own} {need : Fz} (h : ∀ target, Targ pr target → Nx prog w mg mb A it target need ds X) (ht : ds = [] ∨ Targ pr target) : Nx prog w mg mb A it target need ds X := by
 rcases ht with rfl | ht
 · exact h (.Tuple [] 0 ⟨0, 0, 0, 0⟩) (.inr ⟨_, _, _, rfl⟩)
 · exact h target ht
theorem zgK {pairs : Bool} {target : Expr} {ifs : List Expr} {em : St → Option (List V × St)} {ds : List D} {acc : List V} {v} (h : zcr C R sc pairs target ifs em ds acc τ = some v) : ds = [] ∨ Targ pairs target := by
 cases ds with
 | nil => exact .inl rfl
 | cons d ds => exact zaE h fun τ1 h1 _ => .inr (zlG h1)
theorem zpZ {pairs : Bool} {target : Expr} {body : List Stmt} {ds : List D} {v} (h : zjJ C R sc pairs target body ds σ = some v) : ds = [] ∨ Targ pairs target := by
 cases ds with
 | nil => exact .inl rfl
 | cons d ds => exact zaE h fun τ1 h1 _ => .inr (zlG h1)
theorem zr5 (hE : SndE prog w mg mb k R) (hT : SndT prog w mg mb k R) (hO : POk R) {elt target iter target2 iter2 : Expr} {ifs ifs2 : List Expr} {scope : Scope} {pos : Pos} {Dl : Addr} {c : Code} (hA : Ok k A) (EO : EnvOk sc env cm) (hpn : ∀ p ∈ pn, p.1 ∈ C.pins) :
 JOk prog w mg mb A env cm pn Dl (do
  let x ← eval iter2 env
  standAt iter2.pos
  let x ← foldedSetIterable iter2 env x
  let _ ← runOwn (.compStart (.ListComp elt [⟨target, iter, ifs, 0⟩, ⟨target2, iter2, ifs2, 0⟩] scope pos) 1 (← holding [x] (pyIter x)) (.ref Dl) env) env
  again c) c (zpU C R sc elt ⟨target2, iter2, ifs2, 0⟩) := by
 intro acc τ vs τ' h hsz s fz Rr S
 cases S with | mk fz1 us n XA sb hv S =>
 refine zbn h fun it0 τ1 h1 h2 => znk h2 fun hpr h2 => ?_
 obtain ⟨ds, pr⟩ := it0
 cases pr with
 | true => exact absurd rfl hpr
 | false =>
 have hl : zcr C R sc false target2 ifs2 (zep R sc elt) ds acc τ1 = some (acc ++ vs, τ') := by rw [zlK, h2]; rfl
 refine wpAny_bind (wpAny_mono (zhU hE hO h1 hA EO S) (fun xv s1 hh => wpAny_bind (wpAny_standAt (wpAny_bind (wpAny_of_eq (zkC hO.toEOk h1 xv) (wpAny_bind (wpAny_holding (wpAny_mono hh (fun it s2 hh => ?_) fun _ _ x => x))))))) fun _ _ x => x)
 cases hh with | mk fz2 X sb2 S2 ik =>
 have A2 : Acc mg mb env cm pn Dl (X ++ Rr) fz2 acc τ1 s2 := ⟨fz2, us, n, XA, Sb.refl _, hv.sub sb2, S2.lo (by (intro p_; simp only [zaa, zac, zai]; exact yiG))⟩
 refine wpAny_bind (wpAny_runOwn ?_)
 have nx := zua ik.1 (zgK hl)
 have go : codeAny (model prog w) A (.compLoop (.ListComp elt [⟨target, iter, ifs, 0⟩, ⟨target2, iter2, ifs2, 0⟩] scope pos) 1 it (.ref Dl) env)
  (fun r s' => match r with | .ok f => wpAny (model prog w) A (again c) (fun fin s' => fin = .again c ∧ Acc mg mb env cm pn Dl Rr fz (acc ++ vs) τ' s') NoE s' | .error e => cameBackBy (model prog w) A env NoE e s') s2 :=
  zib hT (znv elt target2 iter2 ifs2 _ scope pos it (.ref Dl) env) (zlL hE hA EO) hA EO hpn hsz hl nx A2 fun s' hh => wpAny_pure ⟨rfl, Acc.sub (sb.trans sb2) hh⟩
 refine zev (g := ⟨target2, iter2, ifs2, 0⟩) rfl rfl go ?_
 obtain ⟨l, H⟩ := S2.at
 exact ik.2 _ _ _ _ _ _ H go
theorem At.resumeKeep {L L' : Addr} {l l' : List (Str × Value)} {own own' : Own} {h : Heap} {oL : Obj} (H : At mg mb L' l' own fz h) (s : Rm (L, oL) own own') (N : NsO oL l) : ∃ oC, NsO oC l' ∧ At mg mb L l ((L', oC) :: own') fz h := by
 obtain ⟨g, c, le, gL, ⟨m, hm, km⟩, ow, nd, r⟩ := H
 obtain ⟨es, ep, hd, hs, hf⟩ := N
 obtain ⟨oC, es', ep', hoC, hd', hs', hf'⟩ := hm
 have A := ow _ s.mem
 refine ⟨oC, ⟨es', ep', hd', hs', fun p hp => (hf' _).trans (km p hp)⟩, g, c, le, A.2.2, ⟨nsFind es, ⟨oL, es, ep, A.1, hd, hs, fun _ => rfl⟩, hf⟩, fun p hp => ?_, ?_, r⟩
 · rcases List.mem_cons.mp hp with rfl | hp
   · exact ⟨hoC, fun q => A.2.1 q.symm, gL⟩
   · exact ⟨(ow p (s.sub.subset hp)).1, fun q => s.ne nd (List.mem_map.mpr ⟨p, hp, q⟩), (ow p (s.sub.subset hp)).2.2⟩
 · rw [List.map_cons, List.nodup_cons]
   refine ⟨fun q => ?_, nd.sublist (s.sub.map _)⟩
   obtain ⟨p, hp, q⟩ := List.mem_map.mp q
   exact (ow p (s.sub.subset hp)).2.1 q
theorem NsO.ns {oC : Obj} {L : Addr} {l : List (Str × Value)} {h : Heap} (N : NsO oC l) (e : h.get? L = some oC) : ∃ m, h.Ns L m := by
 obtain ⟨es, ep, hd, hs, hf⟩ := N
 exact ⟨nsFind es, oC, es, ep, e, hd, hs, fun _ => rfl⟩
theorem zp0 {x : Str} {cm : List (Str × Addr)} {κ : zbt} {Z : Own} (t : CR fz cm κ Z) : has x κ = true → ∃ c, cm.lookup x = some c := by
 have step : ∀ {y : Str} {c : Addr} {cm : List (Str × Addr)} {u : Option V} {κ : zbt}, (has x κ = true → ∃ c, cm.lookup x = some c) → has x ((y, u) :: κ) = true → ∃ c', List.lookup x ((y, c) :: cm) = some c' := fun {y c cm u κ} ih h => by
  by_cases q : x = y
  · subst q; exact ⟨c, by rw [List.lookup_cons, beq_self_eq_true]⟩
  · rw [zcj, decide_eq_false q, Bool.false_or] at h
    obtain ⟨c', hc⟩ := ih h
    exact ⟨c', by rw [List.lookup_cons, beq_false_of_ne q]; exact hc⟩
 induction t with
 | nil => exact fun h => by cases h
 | no _ _ ih => exact step ih
 | so _ _ _ ih => exact step ih
theorem CR.drop1 {x : Str} {c : Addr} {cm : List (Str × Addr)} {κ : zbt} {Z : Own} (h : CR fz ((x, c) :: cm) κ Z) : ∃ Z', CR fz cm (κ.drop 1) Z' ∧ Lo Z' Z := by
 cases h with
 | no e t => exact ⟨_, t, by (intro p_; simp only [zaa, zac, zai]; exact yh5)⟩
 | so e k t => exact ⟨_, t, by (intro p_; simp only [zaa, zac, zai]; exact yib)⟩
theorem SR.nones {l : List (Str × Value)} (xs : List Str) : SR l fz (xs.map (·, none)) [] := by
 induction xs with
 | nil => exact .nil
 | cons x xs ih => exact .no ih
inductive Done (mg : Str → Option Value) (mb : Bx) (env : Env) (cm : List (Str × Addr)) (pn : List (Str × Value)) (Rr : Own) (fz : Fz) (vs : List V) (σ' : St) (Dl Cl : Addr) (s' : Shared) : Prop
 | mk (fz' : Fz) (us : List Value) (n : Nat) (XA : Own) (oC : Obj) (sb : Sb fz fz') (k : VRL fz' vs us XA) (N : NsO oC []) (S : Sim mg mb env cm pn σ' ((Cl, oC) :: ((Dl, listOf (List.toArray us) n) :: (XA ++ Rr))) fz' s') : Done mg mb env cm pn Rr fz vs σ' Dl Cl s'
theorem inner {scope : Scope} {cl : List (Str × Addr)} {elt : Expr} {gens : List Comprehension} {pos : Pos} {it : Value} {vs : List V} {σF : St} {X : Own} {pr : Bool} {ds : List D} {Q : Value → Addr → Result → Shared → Prop}
 (hok : zbZ scope sc = true) (EO : EnvOk sc env cm) (hcl : ∀ x, (x, NameKind.free) ∈ scope.names → cl.lookup x = env.cells.lookup x)
 (S : Sim mg mb env cm pn σ (X ++ Rr) fz s)
 (loop : ∀ (Dl : Addr) (env' : Env) (cm' : List (Str × Addr)) (s' : Shared) (RR : Own) (fin : Result → Shared → Prop), EnvOk (zaF scope sc) env' cm' →
   Acc mg mb env' cm' [] Dl (X ++ RR) fz [] ⟨(zbi scope).map (·, none), (zaO scope).map (·, none) ++ σ.k⟩ s' →
   (∀ s'', Acc mg mb env' cm' [] Dl RR fz vs σF s'' → fin (.ok .next) s'') → codeAny (model prog w) A (.compStart (.ListComp elt gens scope pos) 0 it (.ref Dl) env') fin s')
 (hQ : ∀ Dl Cl s', Done mg mb env cm pn Rr fz vs ⟨σ.r, σF.k.drop (zaO scope).length⟩ Dl Cl s' → Q (.ref Dl) Cl (.ok .next) s') :
 wpAny (model prog w) A (newList []) (fun acc s₃ => wpAny (model prog w) A (newFunctionEnv scope env.globals cl [] env.qual none .none (some env)) (fun cenv s₄ =>
  codeAny (model prog w) A (.compStart (.ListComp elt gens scope pos) 0 it acc { cenv with scope := relabel scope env }) (Q acc cenv.locals) s₄) NoE s₃) NoE s := by
 obtain ⟨hk, hall, hle, hnd⟩ := zf7 hok
 obtain ⟨rs, nd, l, Y, Z, H, hS, hC, hp⟩ := S
 refine wpAny_newList ?_ (by simp)
 have H1 : At mg mb env.locals l ((s.heap.objs.size, listOf (List.toArray []) 0) :: (Y ++ (Z ++ (X ++ Rr)))) fz (s.heap.push { cls := .type "list", data := .seq ([] : List Value).toArray }) := H.push { cls := .type "list", data := .seq ([] : List Value).toArray }
 refine zv3 ?_
 dsimp only
 generalize hh1 : s.heap.push { cls := .type "list", data := .seq ([] : List Value).toArray } = h1 at H1 ⊢
 generalize hDl : s.heap.objs.size = Dl at H1 ⊢
 obtain ⟨oL, N, H2⟩ := H1.susp (L' := h1.objs.size) (l' := []) (zh6 { cls := .type "dict", data := .dict #[] }) zcR (Heap.Ns.new h1 (.type "dict")) (fun p hp => by cases hp)
 have relc : ∀ x, (zaF scope sc).names.lookup x = some .cell → (x ∈ zaO scope) ∨ ((x, NameKind.free) ∈ scope.names ∧ x ∉ zaO scope ∧ sc.names.lookup x = some .cell) := by
  intro x hx
  rw [zlH] at hx
  obtain ⟨kd, h1, h2⟩ := Option.map_eq_some_iff.mp hx
  have hm := mem_of_lookup h1
  split at h2
  · rename_i hc
    simp only [Bool.and_eq_true, beq_iff_eq] at hc
    have hkd : kd = .free := hc.1.1
    subst hkd
    refine .inr ⟨hm, fun q => ?_, hc.2⟩
    obtain ⟨y, hy, rfl⟩ := List.mem_map.mp q
    have hy' := List.mem_filter.mp hy
    have hy2 : y.2 = .cell := by simpa using hy'.2
    have := nmOk_c (hy2 ▸ hall y hy'.1)
    rw [this] at h1; cases h1
  · subst h2
    exact .inl (List.mem_map.mpr ⟨(x, .cell), List.mem_filter.mpr ⟨hm, by simp⟩, rfl⟩)
 have key : ∃ cm' Zc, At mg mb h1.objs.size [] (Zc ++ ((env.locals, oL) :: ((Dl, listOf (List.toArray []) 0) :: (Y ++ (Z ++ (X ++ Rr)))))) fz (pushCells (h1.push { cls := .type "dict", data := .dict #[] }) scope.names) ∧
  CR fz cm' ((zaO scope).map (·, none) ++ σ.k) (Zc ++ Z) ∧
  (∀ x, (zaF scope sc).names.lookup x = some .cell → (cellsFrom (h1.objs.size + 1) scope.names cl).lookup x = cm'.lookup x) ∧
  ∀ κ Z' fz', CR fz' cm' κ Z' → ∃ Z'', CR fz' cm (κ.drop (zaO scope).length) Z'' ∧ Lo Z'' Z' := by
  cases ho : zaO scope with
  | nil =>
   have hf : (scope.names.filter fun x => x.2 == .cell) = [] := by simpa [zaO] using ho
   obtain ⟨e1, e2⟩ := zjX scope.names (h1.push { cls := .type "dict", data := .dict #[] }) (h1.objs.size + 1) cl hf
   rw [e1, e2]
   refine ⟨cm, [], H2.lo (by (intro p_; simp only [zaa, zac, zai]; exact yiF)), hC, fun x hx => ?_, fun κ Z' fz' h => ⟨Z', h, Lo.refl _⟩⟩
   rcases relc x hx with h | ⟨h1', h2', h3'⟩
   · rw [ho] at h; cases h
   · rw [hcl x h1']; exact EO.c x h3'
  | cons x r =>
   have hr : r = [] := by rw [ho] at hle; cases r with | nil => rfl | cons => simp at hle
   subst hr
   obtain ⟨e1, e2⟩ := zr3 (x := x) scope.names (h1.push { cls := .type "dict", data := .dict #[] }) (h1.objs.size + 1) cl ho
   rw [e1, e2]
   have H3 := H2.push { cls := .type "cell", data := .cell none }
   rw [Heap.size_push] at H3
   refine ⟨(x, h1.objs.size + 1) :: cm, [(h1.objs.size + 1, { cls := .type "cell", data := .cell none })], H3.lo (by (intro p_; simp only [zaa, zac, zai]; exact yiE)), .no rfl hC, fun y hy => ?_, fun κ Z' fz' h => h.drop1⟩
   by_cases hxy : y = x
   · subst hxy; rw [List.lookup_cons, List.lookup_cons]; simp
   · have hb : (y == x) = false := by simpa using hxy
     rw [List.lookup_cons, List.lookup_cons, hb]
     rcases relc y hy with h | ⟨h1', h2', h3'⟩
     · rw [ho] at h; simp at h; exact absurd h hxy
     · show cl.lookup y = cm.lookup y
       rw [hcl y h1']; exact EO.c y h3'
 obtain ⟨cm', Zc, H4, hC', hcell, hdrop⟩ := key
 refine loop Dl _ cm' _ ((env.locals, oL) :: (Y ++ Rr)) _ ⟨zt9 EO.s, hk, EO.g, EO.b, hcell⟩ ⟨fz, [], 0, [], Sb.refl _, ⟨rfl, rfl⟩, rs, ?_, [], [], Zc ++ Z, ?_, SR.nones _, hC', fun p hp => by cases hp⟩ fun s'' hA => ?_
 · rw [List.map_map]
   have : (Prod.fst ∘ fun x : Str => ((x, none) : Str × Option V)) = id := rfl
   show (List.map ((fun x => x.1) ∘ fun x => (x, (none : Option V))) (zbi scope)).Nodup
   have e : ((fun x : Str × Option V => x.1) ∘ fun x : Str => (x, (none : Option V))) = id := rfl
   rw [e, List.map_id]
   exact hnd
 · exact H4.lo (by (intro p_; simp only [zaa, zac, zai]; exact yiD))
 · obtain ⟨fz2, us, n, XA, sb, hv, rs2, nd2, l2, Y2, Z2, H5, hS2, hC2, hp2⟩ := hA
   obtain ⟨Z3, hC3, lo3⟩ := hdrop _ _ _ hC2
   obtain ⟨oC, NC, H6⟩ := At.resumeKeep (H5.lo (own' := (env.locals, oL) :: (Y ++ (Z3 ++ ((Dl, listOf (List.toArray us) n) :: (XA ++ Rr))))) (fun p => by have := lo3 p; simp only [zaa, zac, zai]; exact yay this)) .hd N
   refine hQ Dl _ _ ⟨fz2, us, n, XA, oC, sb, hv, ?_, ?_⟩
   · obtain ⟨es, ep, a1, a2, a3⟩ := NC
     exact ⟨es, ep, a1, a2, fun p hp => by cases hp⟩
   · exact ⟨rs2, nd, l, Y, Z3, H6.lo (by (intro p_; simp only [zaa, zac, zai]; exact yiC)), hS.sub sb, hC3, hp⟩
end
section
variable {prog : Program} {w : World} {A : Around} {E : Value → Shared → Prop} {s : Shared} {mg : Str → Option Value} {mb : Bx} {k : Nat} {R : Rec} {Rr : Own} {fz fz' : Fz} {env : Env} {sc : Scope} {cm : List (Str × Addr)} {pn : List (Str × Value)} {σ σ' τ τ' : St} {C : Cfg} {e : Expr}
inductive Lost (mg : Str → Option Value) (mb : Bx) (env : Env) (cm : List (Str × Addr)) (pn : List (Str × Value)) (Rr : Own) (fz : Fz) (vs : List V) (σ' : St) (Dl : Addr) (s' : Shared) : Prop
 | mk (fz' : Fz) (us : List Value) (n : Nat) (XA : Own) (sb : Sb fz fz') (k : VRL fz' vs us XA) (S : Sim mg mb env cm pn σ' ((Dl, listOf (List.toArray us) n) :: (XA ++ Rr)) fz' s') : Lost mg mb env cm pn Rr fz vs σ' Dl s'
theorem Done.sub {vs Dl Cl s' fz₀} (sb : Sb fz₀ fz) (h : Done mg mb env cm pn Rr fz vs σ' Dl Cl s') : Done mg mb env cm pn Rr fz₀ vs σ' Dl Cl s' := by cases h with | mk f us n XA oC a b c d => exact ⟨f, us, n, XA, oC, sb.trans a, b, c, d⟩
theorem Done.lose {vs Dl Cl s'} (h : Done mg mb env cm pn Rr fz vs σ' Dl Cl s') : ∃ m, s'.heap.Ns Cl m ∧ ∀ h', Heap.SameBut Cl s'.heap h' → Lost mg mb env cm pn Rr fz vs σ' Dl { s' with heap := h' } := by
 cases h with | mk fz2 us n XA oC sb hv NC S =>
 obtain ⟨l, H⟩ := S.at
 obtain ⟨m, hm⟩ := NC.ns (H.get (.head _))
 refine ⟨m, hm, fun h' sbut => ⟨fz2, us, n, XA, sb, hv, Sim.by (tk := s'.toks) S fun l T H => ⟨Sb.refl _, ?_⟩⟩⟩
 exact At.lose (W := [(Cl, oC)]) (R := ((Dl, listOf (List.toArray us) n) :: (XA ++ Rr)) ++ T) H fun b o hb e => sbut.extBut b o (fun q => hb _ (.head _) q.symm) e
theorem zpm {env' : Env} {cm' : List (Str × Addr)} {Dl : Addr} {X RR : Own} {fz1 : Fz} {acc : List V} {τ : St} {s' : Shared} {it : Value} {pr : Bool} {ds : List D} {Q' : Value → Shared → Prop} (hacc : Acc mg mb env' cm' [] Dl (X ++ RR) fz1 acc τ s') (ik : ItOk prog w mg mb A it pr ds X fz1) (hq : Q' it s') : wpAny (model prog w) A (pyIter it) Q' NoE s' := by
 cases hacc with | mk fz2 us n XA sb hv S =>
 obtain ⟨l, H⟩ := S.at
 exact ik.2 _ _ ((Dl, listOf (List.toArray us) n) :: (XA ++ RR)) _ _ _ (H.lo (by (intro p_; simp only [zaa, zac, zai]; exact yiB))) hq
theorem comp_1 (hE : SndE prog w mg mb k R) (hT : SndT prog w mg mb k R) (hO : POk R) {elt target iter : Expr} {ifs : List Expr} {scope : Scope} {pos p0 : Pos} {use : Option (Value → Sem Unit)} {Q : Value → Shared → Prop} {it0 : List D × Bool} {σ1 σF : St} {vs : List V}
 (hok : zbZ scope sc = true) (hcells : ∀ x ∈ scope.names, x.2 = NameKind.free → ∃ c, env.cells.lookup x.1 = some c) (hcl : ∀ x, (x, NameKind.free) ∈ scope.names → (zr4 env scope.names []).lookup x = env.cells.lookup x)
 (h1 : zb2 R sc iter σ = some (it0, σ1)) (h3 : zcr C R (zaF scope sc) it0.2 target ifs (zep R (zaF scope sc) elt) it0.1 [] ⟨(zbi scope).map (·, none), (zaO scope).map (·, none) ++ σ1.k⟩ = some (vs, σF)) (hf : zaI vs.length = true)
 (hA : Ok k A) (EO : EnvOk sc env cm) (S : Sim mg mb env cm pn σ Rr fz s)
 (post : ∀ Dl Cl s', Done mg mb env cm pn Rr fz vs ⟨σ1.r, σF.k.drop (zaO scope).length⟩ Dl Cl s' → compPost (model prog w) A NoE use Q (.ref Dl) Cl (.ok .next) s') :
 wpAny (model prog w) A (comprehension (.ListComp elt [⟨target, iter, ifs, 0⟩] scope pos) scope env p0 (newList []) false (firstIter [⟨target, iter, ifs, 0⟩] env) use) Q NoE s := by
 obtain ⟨hk, hall, _, _⟩ := zf7 hok
 refine wpAny_comprehension_free rfl (zkC hO.toEOk h1) (zjY hcells) hk (fun x hx hl => zvi (hl ▸ hall x hx)) ?_
 refine wpAny_mono (zhU hE hO h1 hA EO S) (fun xv s1 hh => wpAny_mono hh (fun it s2 hh => ?_) fun _ _ x => x) fun _ _ x => x
 cases hh with | mk fz1 X sb1 S1 ik =>
 exact inner (vs := vs) (σF := σF) (ds := it0.1) (pr := it0.2) (Q := fun acc Cl r s' => compPost (model prog w) A NoE use Q acc Cl r s') hok EO hcl S1 (fun Dl env' cm' s' RR fin EO' hacc hfin =>
  have go := zib (fin := hfin) hT (zlI elt target iter ifs scope pos it (.ref Dl) env') (zlL hE hA EO') hA EO' (fun p hp => by cases hp) (zdt hf) h3 (zua ik.1 (zgK h3)) hacc
  zev (g := ⟨target, iter, ifs, 0⟩) rfl rfl go (zpm hacc ik go)) fun Dl Cl s' hd => post Dl Cl s' (hd.sub sb1)
theorem comp_2 (hE : SndE prog w mg mb k R) (hT : SndT prog w mg mb k R) (hO : POk R) {elt target iter target2 iter2 : Expr} {ifs2 : List Expr} {scope : Scope} {pos p0 : Pos} {use : Option (Value → Sem Unit)} {Q : Value → Shared → Prop} {ds : List D} {σ1 σF : St} {vs : List V}
 (hok : zbZ scope sc = true) (hcells : ∀ x ∈ scope.names, x.2 = NameKind.free → ∃ c, env.cells.lookup x.1 = some c) (hcl : ∀ x, (x, NameKind.free) ∈ scope.names → (zr4 env scope.names []).lookup x = env.cells.lookup x)
 (h1 : zb2 R sc iter σ = some ((ds, false), σ1)) (h3 : zcr C R (zaF scope sc) false target [] (zpU C R (zaF scope sc) elt ⟨target2, iter2, ifs2, 0⟩) ds [] ⟨(zbi scope).map (·, none), (zaO scope).map (·, none) ++ σ1.k⟩ = some (vs, σF)) (hf : zaI vs.length = true)
 (hA : Ok k A) (EO : EnvOk sc env cm) (S : Sim mg mb env cm pn σ Rr fz s)
 (post : ∀ Dl Cl s', Done mg mb env cm pn Rr fz vs ⟨σ1.r, σF.k.drop (zaO scope).length⟩ Dl Cl s' → compPost (model prog w) A NoE use Q (.ref Dl) Cl (.ok .next) s') :
 wpAny (model prog w) A (comprehension (.ListComp elt [⟨target, iter, [], 0⟩, ⟨target2, iter2, ifs2, 0⟩] scope pos) scope env p0 (newList []) false (firstIter [⟨target, iter, [], 0⟩, ⟨target2, iter2, ifs2, 0⟩] env) use) Q NoE s := by
 obtain ⟨hk, hall, _, _⟩ := zf7 hok
 refine wpAny_comprehension_free rfl (zkC hO.toEOk h1) (zjY hcells) hk (fun x hx hl => zvi (hl ▸ hall x hx)) ?_
 refine wpAny_mono (zhU hE hO h1 hA EO S) (fun xv s1 hh => wpAny_mono hh (fun it s2 hh => ?_) fun _ _ x => x) fun _ _ x => x
 cases hh with | mk fz1 X sb1 S1 ik =>
 exact inner (vs := vs) (σF := σF) (ds := ds) (pr := false) (Q := fun acc Cl r s' => compPost (model prog w) A NoE use Q acc Cl r s') hok EO hcl S1 (fun Dl env' cm' s' RR fin EO' hacc hfin =>
  have go := zib (fin := hfin) hT (zlJ elt target iter target2 iter2 [] ifs2 scope pos it (.ref Dl) env') (zr5 hE hT hO hA EO' (C := C) (fun p hp => by cases hp)) hA EO' (fun p hp => by cases hp) (zdt hf) h3 (zua ik.1 (zgK h3)) hacc
  zev (g := ⟨target, iter, [], 0⟩) rfl rfl go (zpm hacc ik go)) fun Dl Cl s' hd => post Dl Cl s' (hd.sub sb1)
theorem zlM (hE : SndE prog w mg mb k R) (hT : SndT prog w mg mb k R) (hO : POk R) {elt : Expr} {gens : List Comprehension} {scope : Scope} {pos p0 : Pos} {W : V} {use : Option (Value → Sem Unit)} {Q : Value → Shared → Prop}
 (he : zfo C R sc elt gens scope σ = some (W, σ')) (hA : Ok k A) (EO : EnvOk sc env cm) (S : Sim mg mb env cm pn σ Rr fz s)
 (post : ∀ Dl Cl s' vs, W = .o vs → Done mg mb env cm pn Rr fz vs σ' Dl Cl s' → compPost (model prog w) A NoE use Q (.ref Dl) Cl (.ok .next) s') :
 firstAsync gens = false ∧ wpAny (model prog w) A (comprehension (.ListComp elt gens scope pos) scope env p0 (newList []) false (firstIter gens env) use) Q NoE s := by
 refine zcB he fun hok he => ?_
 rw [Bool.and_eq_true, Bool.and_eq_true] at hok
 obtain ⟨⟨hok, hasync⟩, hfree⟩ := hok
 obtain ⟨hk, hall, _, _⟩ := zf7 hok
 have hcells : ∀ x ∈ scope.names, x.2 = NameKind.free → ∃ c, env.cells.lookup x.1 = some c := by
  intro x hx hf
  cases S with | mk rs nd l Y Z H hS hC hp =>
  have h1 := (List.all_eq_true.mp hfree) x hx
  rw [hf] at h1
  obtain ⟨c, hc⟩ := zp0 hC (x := x.1) h1
  exact ⟨c, (EO.c _ (nmOk_f (hf ▸ hall x hx))).trans hc⟩
 have hcl : ∀ x, (x, NameKind.free) ∈ scope.names → (zr4 env scope.names []).lookup x = env.cells.lookup x := by
  intro x hx
  obtain ⟨c, hc⟩ := hcells _ hx rfl
  rw [znt hc _ _ (.inl hx)]
  exact hc.symm
 clear hall hfree
 rename_i he0
 clear he0
 refine zvI he (fun g hg he1 => ?_) fun g g2 hg he1 => ?_
 · clear he
   subst hg
   obtain ⟨target, iter, ifs, a⟩ := g
   obtain rfl : a = 0 := by simpa using hasync
   refine zbn he1 fun it0 σ1 h1 h2 => zbn h2 fun vs σF h3 h4 => zcB h4 fun hf h4 => ?_
   cases h4
   exact ⟨rfl, comp_1 hE hT hO hok hcells hcl h1 h3 hf hA EO S fun Dl Cl s' hd => post Dl Cl s' vs rfl hd⟩
 · clear he
   subst hg
   obtain ⟨target, iter, ifs, a⟩ := g
   obtain ⟨target2, iter2, ifs2, a2⟩ := g2
   obtain ⟨rfl, rfl⟩ : a = 0 ∧ a2 = 0 := by simpa using hasync
   refine zcB he1 fun hifs he2 => ?_
   clear he1
   obtain rfl : ifs = [] := List.isEmpty_iff.mp hifs
   refine zbn he2 fun it0 σ1 h1 h2 => znk h2 fun hpr h2 => zbn h2 fun vs σF h3 h4 => zcB h4 fun hf h4 => ?_
   obtain ⟨ds, pr⟩ := it0
   cases pr with
   | true => exact absurd rfl hpr
   | false =>
   cases h4
   exact ⟨rfl, comp_2 hE hT hO hok hcells hcl h1 h3 hf hA EO S fun Dl Cl s' hd => post Dl Cl s' vs rfl hd⟩
theorem zr6 (hE : SndE prog w mg mb k R) (hT : SndT prog w mg mb k R) (hO : POk R) :
 ∀ sc elt gens scope pos σ W σ', zfo C R sc elt gens scope σ = some (W, σ') → ∀ A env cm pn Rr fz s, Ok k A → EnvOk sc env cm → Sim mg mb env cm pn σ Rr fz s → wpAny (model prog w) A (eval (.ListComp elt gens scope pos) env) (PE mg mb env cm pn Rr fz W σ') NoE s := by
 intro sc elt gens scope pos σ W σ' he A env cm pn Rr fz s hA EO S
 rw [eval_ListComp]
 obtain ⟨hf, hw⟩ := zlM (p0 := firstIterPos gens pos) (pos := pos) (use := none) (Q := PE mg mb env cm pn Rr fz W σ') hE hT hO he hA EO S (fun Dl Cl s' vs hW hd => by
  obtain ⟨m, hm, hl⟩ := hd.lose
  refine ⟨m, hm, fun h' sb => ?_⟩
  obtain ⟨fz', us, n, XA, a, b, c⟩ := hl h' sb
  rw [hW]
  exact ⟨fz', (Dl, listOf (List.toArray us) n) :: XA, a, ⟨Dl, us, n, XA, rfl, rfl, b⟩, c⟩)
 rw [hf]
 exact hw
theorem znx (hE : SndE prog w mg mb k R) (hT : SndT prog w mg mb k R) (hO : POk R) {elt : Expr} {gens : List Comprehension} {scope : Scope} {pos p0 spos py : Pos} {y : Str} {W : V} {σ2 : St} {Q : Flow → Shared → Prop}
 (he : zfo C R sc elt gens scope σ = some (W, σ')) (hput : σ'.put C sc y W = some σ2) (hA : Ok k A) (EO : EnvOk sc env cm) (hpn : ∀ p ∈ pn, p.1 ∈ C.pins) (S : Sim mg mb env cm pn σ Rr fz s)
 (hsw : swapsWith (.ListComp elt gens scope pos) (some (.Name y py)) spos.line env = pure true) (q : ∀ s', PU mg mb env cm pn Rr fz σ2 s' → Q .next s') :
 wpAny (model prog w) A (exec (.Assign [.Name y py] (.ListComp elt gens scope pos) spos) env) Q NoE s := by
 rw [exec_Assign_Name_used _ _ _ _ hsw]
 refine wpAny_bind (wpAny_standAt (wpAny_bind ?_))
 obtain ⟨hf, hw⟩ := zlM (p0 := firstIterPos gens pos) (pos := pos) (use := some (assign (.Name y py) env)) (Q := fun _ s' => Q .next s') hE hT hO he hA EO S (fun Dl Cl s' vs hW hd => by
  obtain ⟨fz2, us, n, XA, oC, sb, hv, NC, S⟩ := hd
  subst hW
  show wpAny (model prog w) A (assign (.Name y py) env (.ref Dl)) _ NoE s'
  refine wpAny_assign_Name (zns (X := (Dl, listOf (List.toArray us) n) :: XA) (R := (Cl, oC) :: Rr) EO hpn hput (S.lo (R' := ((Dl, listOf (List.toArray us) n) :: XA) ++ ((Cl, oC) :: Rr)) (by (intro p_; simp only [zaa, zac, zai]; exact yiA))) ⟨Dl, us, n, XA, rfl, rfl, hv⟩ fun h' tk S1 => ?_)
  obtain ⟨l, H⟩ := S1.at
  obtain ⟨m, hm⟩ := NC.ns (H.get (.head _))
  refine ⟨m, hm, fun h'' sbut => q _ ⟨fz2, sb, S1.by fun l T H => ⟨Sb.refl _, ?_⟩⟩⟩
  exact At.lose (W := [(Cl, oC)]) (R := Rr ++ T) H fun b o hb e => sbut.extBut b o (fun q => hb _ (.head _) q.symm) e)
 rw [show evalThenUse (.ListComp elt gens scope pos) env (assign (.Name y py) env) = (do let _ ← comprehension (.ListComp elt gens scope pos) scope env (firstIterPos gens pos) (newList []) (firstAsync gens) (firstIter gens env) (some (assign (.Name y py) env))) from rfl, hf]
 exact wpAny_bind (wpAny_mono hw (fun _ s' hq => wpAny_pure (wpAny_pure hq)) fun _ _ e => e)
end
section
variable {prog : Program} {w : World} {A : Around} {E : Value → Shared → Prop} {s : Shared} {mg : Str → Option Value} {mb : Bx} {k : Nat} {R : Rec} {Rr : Own} {fz fz' : Fz} {env : Env} {sc : Scope} {cm : List (Str × Addr)} {pn : List (Str × Value)} {σ σ' τ τ' : St} {C : Cfg} {e : Expr}
inductive TakeL (fz : Fz) (Ws : List V) (vs : List Value) (X : Own) (i : Nat) (W : V) : Prop
 | mk (v : Value) (Y T : Own) (g : vs[i]? = some v) (k : VR fz W v Y) (c : ∀ p, cnt p X = cnt p Y + cnt p T)
  (back : ∀ fz' W' v' Y', Sb fz fz' → VR fz' W' v' Y' → ∃ X', VRL fz' (Ws.set i W') (vs.set i v') X' ∧ ∀ p, cnt p X' = cnt p Y' + cnt p T) : TakeL fz Ws vs X i W
theorem VRL.take {Ws : List V} : ∀ {vs : List Value} {X : Own} (i : Nat) {W : V}, VRL fz Ws vs X → Ws[i]? = some W → TakeL fz Ws vs X i W := by
 induction Ws with
 | nil => exact fun i _ h e => zaM e
 | cons W Ws ih =>
  intro vs X i W' h e1
  obtain ⟨v, r, Y, Z, e, q, a, b⟩ := h
  subst e; subst q
  cases i with
  | zero =>
   cases e1
   exact ⟨v, Y, Z, rfl, a, fun p => zaa, fun fz' W' v' Y' sb h => ⟨Y' ++ Z, ⟨v', r, Y', Z, rfl, rfl, h, VRL.sub sb _ b⟩, fun p => zaa⟩⟩
  | succ i =>
   cases ih i b e1 with | mk v1 Y1 T1 h1 h2 h3 h4 =>
   refine ⟨v1, Y1, Y ++ T1, h1, h2, fun p => by have := h3 p; simp only [zaa]; exact yiz this, fun fz' W' v' Y' sb h => ?_⟩
   obtain ⟨X', g1, g2⟩ := h4 fz' W' v' Y' sb h
   exact ⟨Y ++ X', ⟨v, r.set i v', Y, X', rfl, rfl, VR.sub sb _ a, g1⟩, fun p => by have := g2 p; simp only [zaa]; exact yiz this⟩
theorem zny (hP : SndP prog w mg mb R) {x : Str} {px : Pos} {i : Expr} {kv : V} {ki : Int} {W : V} {v : Value} {Xv : Own} {Q : Value → Value → Unit → Shared → Prop} (hd : (x == ("__debug__" : Str)) = false) (q : R.q i = true) (hi : R.p sc i σ = some kv) (hki : kv.int = some ki)
 (hs : zb5 sc x ki W σ = some σ') (EO : EnvOk sc env cm) (S : Sim mg mb env cm pn σ (Xv ++ Rr) fz s) (hv : VR fz W v Xv) (fin : ∀ ov iv u s', PU mg mb env cm pn Rr fz σ' s' → Q ov iv u s') :
 wpAny (model prog w) A (eval (.Name x px) env) (fun ov s2 => wpAny (model prog w) A (eval i env) (fun iv s3 => wpAny (model prog w) A (setItem ov iv v) (Q ov iv) NoE s3) NoE s2) NoE s := by
 refine zaE hs fun o h1 h0 => ztV h0 fun vs0 ho h0 => zcB h0 fun hb h2 => ?_
 subst ho
 cases S with | mk rs nd l Y Z H hS hC hp =>
 cases zf9 (mg := mg) (mb := mb) (env := env) nd hS hC hp h1 with | mk ov X T kx cn nm back =>
 refine (nm.sub ztZ).eval hd EO H (hP.useI q hi hki EO rs H hS hC zrr zrs fun t s1 f1 a1 rs1 H1 => ?_)
 obtain ⟨a, vs, n, Yc, rfl, rfl, hh⟩ := kx
 have hlt : ki.toNat < vs0.length := by exact ya2 hb
 cases VRL.take ki.toNat hh (List.getElem?_eq_getElem hlt) with | mk v0 Y0 T0 g1 g2 g3 g4 =>
 obtain ⟨X', g5, g6⟩ := g4 f1 W v Xv a1 (VR.sub a1 _ hv)
 have hl := hh.length
 have H2 := H1.lo (own' := (a, listOf (List.toArray vs) n) :: (Yc ++ (T ++ (Xv ++ Rr)))) (fun p => by have := cn p; simp only [zaa, zac, zai] at *; exact yiy this)
 refine zpe H2 .hd hb.1 (yig hb) (yif hb hl) fun h' H3 => ?_
 obtain ⟨σ2, k1, k2⟩ := back f1 (.o (vs0.set ki.toNat W)) ((a, listOf (List.toArray (vs.set ki.toNat v)) n) :: X') { s1 with heap := h' } Rr _ rs1 a1 ⟨a, _, n, X', rfl, rfl, g5⟩ H3 (fun p => by have := g3 p; have := g6 p; simp only [zaa, zac, zai]; exact yix ‹_› this)
 rw [h2] at k1; cases k1
 exact fin _ _ _ _ ⟨f1, a1, k2⟩
theorem zlN (hP : SndP prog w mg mb R) {x : Str} {px sp : Pos} {i j : Expr} {kv jv : V} {ki ji : Int} {d : D} {v : Value} (hd : (x == ("__debug__" : Str)) = false) (qj : R.q j = true) (hj : R.p sc j σ = some jv) (hji : jv.int = some ji) (q : R.q i = true) (hi : R.p sc i σ = some kv) (hki : kv.int = some ki)
 (hq : QOk R) (hs : zci sc x ji ki (.f d) σ = some σ') (EO : EnvOk sc env cm) (S : Sim mg mb env cm pn σ Rr fz s) (hv : Kn fz v d) :
 wpAny (model prog w) A (eval (.Subscript (.Name x px) j sp) env) (fun ov s2 => wpAny (model prog w) A (eval i env) (fun iv s3 => wpAny (model prog w) A (setItem ov iv v) (fun _ s' => PU mg mb env cm pn Rr fz σ' s') NoE s3) NoE s2) NoE s := by
 refine zaE hs fun o h1 h0 => ztV h0 fun vs0 ho h0 => zcB h0 fun hb h0 => zaE h0 fun u hrow h0 => ztV h0 fun us0 hu h0 => zcB h0 fun hb2 h2 => ?_
 clear h0 hs
 subst ho
 subst hu
 cases S with | mk rs nd l Y Z H hS hC hp =>
 cases zf9 (mg := mg) (mb := mb) (env := env) nd hS hC hp h1 with | mk ov X T kx cn nm back =>
 refine Subscript_ ((nm.sub ztZ).eval hd EO H (hP.useI qj hj hji EO rs H hS hC zrr zrs fun t s1 f1 a1 rs1 H1 => ?_))
 obtain ⟨a, vs, n, Yc, rfl, rfl, hh⟩ := kx
 cases VRL.take ji.toNat hh hrow with | mk rv Yr T0 g1 g2 g3 g4 =>
 obtain ⟨b, us, m, Yrc, rfl, rfl, hr⟩ := g2
 have ma : (a, listOf (List.toArray vs) n) ∈ Y ++ (Z ++ Rr) := zb7.mp (by have := cn (a, listOf (List.toArray vs) n); simp only [zaa, zac, zai, zdN] at *; exact yii this)
 have hidx : idx vs ji = some (.ref b) := by unfold idx; rw [if_pos hb.1, if_pos (yiw hb)]; exact g1
 refine zhS (isL (H1.get ma)) (zhT fun a' b' c' d' hh => by rw [hh, hq.sl] at qj; cases qj) hidx (hP.useI q hi hki EO rs1 H1 (hS.sub a1) (hC.sub a1) zrr zrs fun t2 s2 f2 a2 rs2 H2 => ?_)
 have hlt : ki.toNat < us0.length := by exact ya2 hb2
 cases VRL.take ki.toNat hr (List.getElem?_eq_getElem hlt) with | mk v0 Y0 T1 e1 e2 e3 e4 =>
 obtain ⟨X', e5, e6⟩ := e4 f2 (.f d) v [] (a1.trans a2) (VR.of (hv.sub (a1.trans a2)))
 obtain ⟨X'', e7, e8⟩ := g4 f2 (.o (us0.set ki.toNat (.f d))) (.ref b) ((b, listOf (List.toArray (us.set ki.toNat v)) m) :: X') (a1.trans a2) ⟨b, _, m, X', rfl, rfl, e5⟩
 have hvs : vs.set ji.toNat (.ref b) = vs := by
  obtain ⟨hlt', e⟩ := List.getElem?_eq_some_iff.mp g1
  rw [← e, List.set_getElem_self]
 rw [hvs] at e7
 have hl := hr.length
 have H3 := H2.lo (own' := (b, listOf (List.toArray us) m) :: ((a, listOf (List.toArray vs) n) :: (Yrc ++ (T0 ++ (T ++ Rr))))) (fun p => by have := cn p; have := g3 p; simp only [zaa, zac, zai] at *; exact yiv ‹_› this)
 refine zpe H3 .hd hb2.1 (yig hb2) (yif hb2 hl) fun h' H4 => ?_
 obtain ⟨σ2, k1, k2⟩ := back f2 (.o (vs0.set ji.toNat (.o (us0.set ki.toNat (.f d))))) ((a, listOf (List.toArray vs) n) :: X'') { s2 with heap := h' } Rr _ rs2 (a1.trans a2) ⟨a, vs, n, X'', rfl, rfl, e7⟩ H4 (fun p => by have := e3 p; have := e6 p; have := e8 p; simp only [zaa, zac, zai] at *; exact yar ‹_› ‹_› this)
 rw [h2] at k1; cases k1
 exact ⟨f2, a1.trans a2, k2⟩
end
section
variable {prog : Program} {w : World} {A : Around} {E : Value → Shared → Prop} {s : Shared} {mg : Str → Option Value} {mb : Bx} {k : Nat} {R : Rec} {Rr : Own} {fz fz' : Fz} {env : Env} {sc : Scope} {cm : List (Str × Addr)} {pn : List (Str × Value)} {σ σ' τ τ' : St} {C : Cfg} {e : Expr}
theorem zpn {x y : Str} (h : x ≠ y) (a b : Option V) (ρ : zbt) : upd x a (upd y b ρ) = upd y b (upd x a ρ) := by
 induction ρ with
 | nil => rfl
 | cons p r ih =>
  obtain ⟨z, u⟩ := p
  simp only [upd]
  by_cases hx : z = x <;> by_cases hy : z = y
  · exact absurd (hx.symm.trans hy) h
  · rw [if_neg hy, if_pos hx]
    simp only [upd]
    rw [if_pos hx, if_neg h]
  · rw [if_pos hy, if_neg hx]
    simp only [upd]
    rw [if_neg (Ne.symm h), if_pos hy]
  · rw [if_neg hy, if_neg hx]
    simp only [upd]
    rw [if_neg hx, if_neg hy, ih]
theorem zkD {x y : Str} {v : Option V} {ρ : zbt} : has y (upd x v ρ) = has y ρ := by
 rw [Bool.eq_iff_iff, zrI, zrI, zf8]
theorem zv4 {x : Str} {v : V} {σ σ1 : St} {G : Prop} (h : σ.put C sc x v = some σ1)
 (k1 : sc.names.lookup x = some .local → has x σ.r = true → σ1 = ⟨upd x (some v) σ.r, σ.k⟩ → G) (k2 : sc.names.lookup x = some .cell → has x σ.k = true → σ1 = ⟨σ.r, upd x (some v) σ.k⟩ → G) : G := by
 refine znk h fun _ h => ?_
 unfold St.set at h
 split at h
 · exact zcB h fun h1 h2 => k1 (by assumption) h1 (Option.some.inj h2).symm
 · exact zcB h fun h1 h2 => k2 (by assumption) h1 (Option.some.inj h2).symm
 · exact zaM h
theorem zub {x : Str} {v : V} {σ : St} (hp : C.pins.contains x = false) (hk : sc.names.lookup x = some .local) (h : has x σ.r = true) : σ.put C sc x v = some ⟨upd x (some v) σ.r, σ.k⟩ := by
 unfold St.put St.set
 rw [hp, hk]
 exact if_pos h
theorem zuc {x : Str} {v : V} {σ : St} (hp : C.pins.contains x = false) (hk : sc.names.lookup x = some .cell) (h : has x σ.k = true) : σ.put C sc x v = some ⟨σ.r, upd x (some v) σ.k⟩ := by
 unfold St.put St.set
 rw [hp, hk]
 exact if_pos h
theorem zr7 {x : Str} {v : V} {σ σ1 : St} (h : σ.put C sc x v = some σ1) : C.pins.contains x = false := znk h fun h _ => by simpa using h
theorem zud {x y : Str} {v u : V} {σ1 σ2 : St} (h : x ≠ y) (h1 : σ.put C sc x v = some σ1) (h2 : σ1.put C sc y u = some σ2) : ∃ σ3, σ.put C sc y u = some σ3 ∧ σ3.put C sc x v = some σ2 := by
 have p1 := zr7 h1
 have p2 := zr7 h2
 refine zv4 h1 (fun a1 b1 c1 => ?_) fun a1 b1 c1 => ?_
 · subst c1
   refine zv4 h2 (fun a2 b2 c2 => ?_) fun a2 b2 c2 => ?_
   · rw [c2]
     rw [zkD] at b2
     exact ⟨_, zub p2 a2 b2, (zub p1 a1 (zkD.trans b1)).trans (by rw [zpn h])⟩
   · rw [c2]
     exact ⟨_, zuc p2 a2 b2, zub (σ := ⟨σ.r, _⟩) p1 a1 b1⟩
 · subst c1
   refine zv4 h2 (fun a2 b2 c2 => ?_) fun a2 b2 c2 => ?_
   · rw [c2]
     exact ⟨_, zub p2 a2 b2, zuc (σ := ⟨_, σ.k⟩) p1 a1 b1⟩
   · rw [c2]
     rw [zkD] at b2
     exact ⟨_, zuc p2 a2 b2, (zuc p1 a1 (zkD.trans b1)).trans (by rw [zpn h])⟩
theorem zr8 {x : Str} {W : V} {σ2 : St} {xs : List Str} : ∀ {Ws : List V} {σ σ1 : St}, zhQ C sc xs Ws σ = some σ1 → σ1.put C sc x W = some σ2 → zhQ C sc (xs ++ [x]) (Ws ++ [W]) σ = some σ2 := by
 induction xs with
 | nil =>
  intro Ws σ σ1 h h2
  cases Ws with
  | nil => cases h; show (St.put C sc x W σ).bind (zhQ C sc [] []) = _; rw [h2]; rfl
  | cons => exact zaM h
 | cons y ys ih =>
  intro Ws σ σ1 h h2
  cases Ws with
  | nil => exact zaM h
  | cons U Us => exact zaE h fun σ3 h3 h4 => by show (St.put C sc y U σ).bind (zhQ C sc (ys ++ [x]) (Us ++ [W])) = _; rw [h3]; exact ih h4 h2
theorem zr9 {x : Str} {W : V} {σ2 : St} {xs : List Str} : ∀ {Ws : List V} {σ σ1 : St}, x ∉ xs → σ.put C sc x W = some σ1 → zhQ C sc xs Ws σ1 = some σ2 → ∃ σ3, zhQ C sc xs Ws σ = some σ3 ∧ σ3.put C sc x W = some σ2 := by
 induction xs with
 | nil =>
  intro Ws σ σ1 _ h1 h2
  cases Ws with
  | nil => cases h2; exact ⟨σ, rfl, h1⟩
  | cons => exact zaM h2
 | cons y ys ih =>
  intro Ws σ σ1 hn h1 h2
  cases Ws with
  | nil => exact zaM h2
  | cons U Us =>
   refine zaE h2 fun σ3 h3 h4 => ?_
   rw [List.mem_cons, not_or] at hn
   obtain ⟨σ4, h5, h6⟩ := zud hn.1 h1 h3
   obtain ⟨σ5, h7, h8⟩ := ih hn.2 h6 h4
   exact ⟨σ5, by show (St.put C sc y U σ).bind _ = _; rw [h5]; exact h7, h8⟩
theorem zue {xs : List Str} : ∀ {Ws : List V} {σ σ' : St}, xs.Nodup → zhQ C sc xs Ws σ = some σ' → zhQ C sc xs.reverse Ws.reverse σ = some σ' := by
 induction xs with
 | nil =>
  intro Ws σ σ' _ h
  cases Ws with
  | nil => exact h
  | cons => exact zaM h
 | cons y ys ih =>
  intro Ws σ σ' hn h
  cases Ws with
  | nil => exact zaM h
  | cons U Us =>
   refine zaE h fun σ3 h3 h4 => ?_
   rw [List.nodup_cons] at hn
   obtain ⟨σ4, h5, h6⟩ := zr9 hn.1 h3 h4
   rw [List.reverse_cons, List.reverse_cons]
   exact zr8 (ih hn.2 h5) h6
theorem VRL.rev {Ws : List V} : ∀ {vs : List Value} {X : Own}, VRL fz Ws vs X → ∃ X', VRL fz Ws.reverse vs.reverse X' ∧ ∀ p, cnt p X' = cnt p X := by
 induction Ws with
 | nil => intro vs X h; obtain ⟨rfl, rfl⟩ := h; exact ⟨[], ⟨rfl, rfl⟩, fun p => rfl⟩
 | cons W Ws ih =>
  intro vs X h
  obtain ⟨v, r, Y, Z, e, q, a, b⟩ := h
  subst e; subst q
  obtain ⟨X', h1, h2⟩ := ih b
  refine ⟨X' ++ Y, ?_, fun p => by have := h2 p; simp only [zaa]; exact ybb this⟩
  rw [List.reverse_cons, List.reverse_cons]
  exact h1.app (VRL.single a)
theorem zic (f : Expr → Option Str) (hf : ∀ x p, f (.Name x p) = none ∨ f (.Name x p) = some x) {elts : List Expr} : ∀ {xs : List Str}, zbY elts = some xs → (elts.filterMap f).length = elts.length → elts.filterMap f = xs := by
 induction elts with
 | nil => exact fun h _ => by cases h; rfl
 | cons t r ih =>
  intro xs h hl
  obtain ⟨x, p, ys, rfl, rfl, h1⟩ := zg5 h
  have hle : (r.filterMap f).length ≤ r.length := List.length_filterMap_le _ _
  rcases hf x p with h2 | h2
  · rw [List.filterMap_cons_none h2, List.length_cons] at hl
    exact (yiu hl hle).elim
  · rw [List.filterMap_cons_some h2] at hl ⊢
    rw [ih h1 (Nat.succ.inj hl)]
theorem zp1 {elts vals : List Expr} {k1 k2 : Nat} {p1 p2 : Pos} {xs : List Str} (hn : zbY elts = some xs) (hc : vals.length = 2 ∨ vals.length = 3 → vals.all (constantsAlone 8) = false) :
 swappedStores [.Tuple elts k1 p1] (.Tuple vals k2 p2) env = pure none ∨ swappedStores [.Tuple elts k1 p1] (.Tuple vals k2 p2) env = pure (some xs) := by
 unfold swappedStores
 dsimp only
 split
 · exact .inl rfl
 rename_i h1
 split
 · exact .inl rfl
 split
 · exact .inl rfl
 rename_i h2
 split
 · exact .inl rfl
 split
 · rename_i h3
   exfalso
   have hv : vals.length = 2 ∨ vals.length = 3 := by
    simp only [Bool.or_eq_true, Bool.not_eq_true', bne_iff_ne, ne_eq, not_or, Bool.or_eq_false_iff, beq_eq_false_iff_ne, Bool.not_eq_false, not_and, Classical.not_not] at h1
    obtain ⟨⟨a, b⟩, c⟩ := h1
    by_cases q : elts.length = 2
    · left; exact ybF b q
    · right
      by_cases q3 : elts.length = 3
      · exact yit b q3
      · exfalso
        simp_all
   rw [hc hv] at h3
   cases h3
 · right
   congr 2
   refine zic _ (fun x p => ?_) hn ?_
   · dsimp only
     split
     · exact .inr rfl
     · exact .inl rfl
   · simp only [Bool.or_eq_true, bne_iff_ne, ne_eq, not_or, Classical.not_not] at h2
     exact h2.1
theorem zlO {a b c d : Expr} {i j i' j' : Expr} {p q r t : Pos} {k1 k2 : Nat} {p1 p2 : Pos} : swappedStores [.Tuple [.Subscript a i p, .Subscript b j q] k1 p1] (.Tuple [.Subscript c i' r, .Subscript d j' t] k2 p2) env = pure none := by
 unfold swappedStores
 dsimp only
 split
 · rfl
 split
 · rfl
 rfl
end
section
variable {prog : Program} {w : World} {A : Around} {E : Value → Shared → Prop} {s : Shared} {mg : Str → Option Value} {mb : Bx} {k : Nat} {R : Rec} {Rr : Own} {fz fz' : Fz} {env : Env} {sc : Scope} {cm : List (Str × Addr)} {pn : List (Str × Value)} {σ σ' τ τ' : St} {C : Cfg} {e : Expr}
theorem zp2 (hE : SndE prog w mg mb k R) (hO : POk R) {elts vals : List Expr} {k1 k2 : Nat} {p1 p2 pos : Pos} {xs : List Str} {Ws : List V} {σ1 : St} (hA : Ok k A) (EO : EnvOk sc env cm) (hpn : ∀ p ∈ pn, p.1 ∈ C.pins)
 (hn : zbY elts = some xs) (hv : evs R sc vals σ = some (Ws, σ1)) (hf : zaI Ws.length = true) (hnd : xs.Nodup) (hc : vals.length = 2 ∨ vals.length = 3 → vals.all (constantsAlone 8) = false) (hp : zhQ C sc xs Ws σ1 = some σ')
 (S : Sim mg mb env cm pn σ Rr fz s) : wpAny (model prog w) A (exec (.Assign [.Tuple elts k1 p1] (.Tuple vals k2 p2) pos) env) (fun g s' => g = .next ∧ PU mg mb env cm pn Rr fz σ' s') NoE s := by
 have hl := zpl hp
 have ev : ∀ {Q : Value → Shared → Prop}, (∀ t vs X fz1 (s1 : Shared), Sb fz fz1 → VRL fz1 Ws vs X → vs.length = xs.length → Sim mg mb env cm pn σ1 (((t, zen (List.toArray vs) 0) :: X) ++ Rr) fz1 s1 → Q (.ref t) s1) →
  wpAny (model prog w) A (eval (.Tuple vals k2 p2) env) Q NoE s := by
  intro Q q
  refine wpAny_Tuple (zky hE hO.toEOk hA EO hv S fun vs s1 f1 X a1 b1 S1 => ?_)
  cases S1 with | mk rs nd l Y Z H hS hC hp =>
  have hvl := b1.length
  refine ⟨by rw [hvl]; exact zdt hf, q _ vs X f1 _ a1 b1 (yis hl hvl) (Sim.close rs nd (H.push { cls := .type "tuple", data := .seq vs.toArray }) hS hC hp (Sb.refl _) ?_)⟩
  show Lo _ ((s1.heap.objs.size, zen (List.toArray vs) 0) :: (Y ++ (Z ++ (X ++ Rr))))
  (intro p_; simp only [zaa, zac, zai]; exact yir)
 rcases zp1 (env := env) (k1 := k1) (k2 := k2) (p1 := p1) (p2 := p2) hn hc with hw | hw
 · refine PyProof.Rows.Assign_Tuple (ev fun t vs X f1 s1 a1 b1 hvl S1 => ?_) rfl hw
   obtain ⟨n1, n2, n3⟩ := zlF (prog := prog) (w := w) (A := A) (env := env) hn
   obtain ⟨rs, nd, l, Y, Z, H, hS, hC, hp'⟩ := S1
   refine assign_Tuple_tuple hA.hd (isT (H.get (a := t) (o := zen (List.toArray vs) 0) (by simp))) (by rw [List.size_toArray, n1, hvl]) n2 fun h' he => ?_
   have H2 := H.ext (h' := h') fun b o e => he b o (Nat.ne_of_lt (Heap.lt_size e)) e
   have S2 : Sim mg mb env cm pn σ1 (X ++ Rr) f1 { s1 with heap := h' } := Sim.close rs nd H2 hS hC hp' (Sb.refl _) (by (intro p_; simp only [zaa, zac, zai]; exact yiq))
   exact wpAny_mono (zhV EO hpn n3 hp b1 S2) (fun _ s' h => ⟨rfl, f1, a1, h⟩) fun _ _ x => x
 · refine PyProof.Rows.Assign_Tuple_swapped (ev fun t vs X f1 s1 a1 b1 hvl S1 => ?_) rfl hw
   obtain ⟨rs, nd, l, Y, Z, H, hS, hC, hp'⟩ := S1
   have e : xs.length = (List.toArray vs).size := by rw [List.size_toArray, hvl]
   rw [e]
   refine PyProof.Rows.unpackItems_tuple hA.hd (isT (H.get (a := t) (o := zen (List.toArray vs) 0) (by simp))) fun h' he => ?_
   have H2 := H.ext (h' := h') fun b o e => he b o (Nat.ne_of_lt (Heap.lt_size e)) e
   obtain ⟨X', r1, r2⟩ := b1.rev
   have S2 : Sim mg mb env cm pn σ1 (X' ++ Rr) f1 { s1 with heap := h' } := Sim.close rs nd H2 hS hC hp' (Sb.refl _) (fun p => by have := r2 p; simp only [zaa, zac, zai]; exact yip this)
   exact wpAny_mono (zhV EO hpn (zt8 xs.reverse) (zue hnd hp) r1 S2) (fun _ s' h => ⟨rfl, f1, a1, h⟩) fun _ _ x => x
theorem zkE {x : Str} {px pos : Pos} {value : Expr} {W : V} {σ1 : St} (hE : SndE prog w mg mb k R) (hO : POk R) (hnc : ∀ a b c d, value ≠ .ListComp a b c d) (hA : Ok k A) (EO : EnvOk sc env cm) (hpn : ∀ p ∈ pn, p.1 ∈ C.pins)
 (hv : R.e sc value σ = some (W, σ1)) (hput : σ1.put C sc x W = some σ') (S : Sim mg mb env cm pn σ Rr fz s) :
 wpAny (model prog w) A (exec (.Assign [.Name x px] value pos) env) (fun g s' => g = .next ∧ PU mg mb env cm pn Rr fz σ' s') NoE s := by
 have hs : swapsWith value (some (.Name x px)) pos.line env = pure false := by
  cases value
  case ListComp => exact absurd rfl (hnc _ _ _ _)
  case SetComp => rw [hO.eSC] at hv; exact zaM hv
  case DictComp => rw [hO.eDC] at hv; exact zaM hv
  all_goals rfl
 exact wpAny_Assign_Name (hE.use hv hA EO S fun v s1 f1 X a b c => zns EO hpn hput c b fun h' tk S1 => ⟨rfl, f1, a, S1⟩) hs
theorem VRL.swap {Ws : List V} {vs : List Value} {X : Own} {i j : Nat} {Wi Wj : V} {vi vj : Value} (h : VRL fz Ws vs X) (hi : Ws[i]? = some Wi) (hj : Ws[j]? = some Wj) (gi : vs[i]? = some vi) (gj : vs[j]? = some vj) :
 ∃ X', VRL fz ((Ws.set i Wj).set j Wi) ((vs.set i vj).set j vi) X' ∧ ∀ p, cnt p X' = cnt p X := by
 by_cases hij : i = j
 · subst hij
   rw [hi] at hj; cases hj
   rw [gi] at gj; cases gj
   have e1 : (Ws.set i Wi).set i Wi = Ws := by
    obtain ⟨hlt, e⟩ := List.getElem?_eq_some_iff.mp hi
    subst e
    rw [List.set_getElem_self, List.set_getElem_self]
   have e2 : (vs.set i vi).set i vi = vs := by
    obtain ⟨hlt, e⟩ := List.getElem?_eq_some_iff.mp gi
    subst e
    rw [List.set_getElem_self, List.set_getElem_self]
   rw [e1, e2]
   exact ⟨X, h, fun _ => rfl⟩
 · obtain ⟨v1, Y1, T1, a1, a2, a3, a4⟩ := VRL.take i h hi
   rw [gi] at a1; cases a1
   obtain ⟨X1, b1, b2⟩ := a4 fz (.f .none) .none [] (Sb.refl _) (VR.of .none)
   have hj' : (Ws.set i (.f .none))[j]? = some Wj := by rw [List.getElem?_set_ne hij]; exact hj
   obtain ⟨v2, Y2, T2, c1, c2, c3, c4⟩ := VRL.take j b1 hj'
   rw [List.getElem?_set_ne hij, gj] at c1; cases c1
   obtain ⟨X2, d1, d2⟩ := c4 fz Wi vi Y1 (Sb.refl _) a2
   have hlt : i < Ws.length := (List.getElem?_eq_some_iff.mp hi).1
   have hi' : ((Ws.set i (.f .none)).set j Wi)[i]? = some (.f .none) := by rw [List.getElem?_set_ne (Ne.symm hij)]; simp [hlt]
   obtain ⟨v3, Y3, T3, e1, e2, e3, e4⟩ := VRL.take i d1 hi'
   obtain ⟨X3, f1, f2⟩ := e4 fz Wj vj Y2 (Sb.refl _) c2
   have hy3 : Y3 = [] := e2.2
   have q1 : ((Ws.set i (.f .none)).set j Wi).set i Wj = (Ws.set i Wj).set j Wi := by rw [List.set_comm _ _ (Ne.symm hij), List.set_set]
   have q2 : ((vs.set i .none).set j vi).set i vj = (vs.set i vj).set j vi := by rw [List.set_comm _ _ (Ne.symm hij), List.set_set]
   rw [q1, q2] at f1
   refine ⟨X3, f1, fun p => ?_⟩
   have := a3 p; have := b2 p; have := c3 p; have := d2 p; have := e3 p; have := f2 p
   subst hy3
   simp only [zai] at *
   exact yan ‹_› ‹_› ‹_› ‹_› ‹_› this
theorem asgSub {o i : Expr} {pos : Pos} {v : Value} {Q : Unit → Shared → Prop} (h : wpAny (model prog w) A (eval o env) (fun ov s1 => wpAny (model prog w) A (eval i env) (fun iv s2 => wpAny (model prog w) A (setItem ov iv v) Q NoE s2) NoE s1) NoE s) :
 wpAny (model prog w) A (assign (.Subscript o i pos) env v) Q NoE s := by
 rw [assign_Subscript]
 refine wpAny_bind (wpAny_holding (wpAny_mono h (fun ov s1 h1 => wpAny_bind (wpAny_holding (wpAny_mono h1 (fun iv s2 h2 => wpAny_bind (wpAny_standAt (wpAny_bind (wpAny_holding (wpAny_mono h2 (fun u s3 h3 => ?_) fun _ _ x => x))))) fun _ _ x => x))) fun _ _ x => x))
 exact wpAny_release' h3
theorem zp3 {i : Expr} {n : Int} (h : pI R sc i σ = some n) : R.q i = true ∧ ∃ W, R.p sc i σ = some W ∧ W.int = some n :=
 zcB h fun q h => zaE h fun W h1 h2 => ⟨q, W, h1, h2⟩
theorem zuf (hP : SndP prog w mg mb R) (hO : POk R) {a : Str} {pa pb pc pd q1 q2 q3 q4 p1 p2 pos : Pos} {k1 k2 : Nat} {i j i' j' : Expr} {ni nj : Int} {vs : List V} {x y : V} (hA : Ok k A) (EO : EnvOk sc env cm)
 (hd : (a == ("__debug__" : Str)) = false) (hl : sc.names.lookup a = some .local) (hi : pI R sc i { σ with r := upd a none σ.r } = some ni) (hj : pI R sc j { σ with r := upd a none σ.r } = some nj) (hi' : pI R sc i' σ = some nj) (hj' : pI R sc j' σ = some ni)
 (hget : σ.get sc a = some (.o vs)) (hb : 0 ≤ ni ∧ ni < vs.length ∧ 0 ≤ nj ∧ nj < vs.length) (hf : zaI vs.length = true) (hx : vs[ni.toNat]? = some x) (hy : vs[nj.toNat]? = some y) (hset : σ.set sc a (.o ((vs.set ni.toNat y).set nj.toNat x)) = some σ')
 (S : Sim mg mb env cm pn σ Rr fz s) :
 wpAny (model prog w) A (exec (.Assign [.Tuple [.Subscript (.Name a pa) i q1, .Subscript (.Name a pb) j q2] k1 p1] (.Tuple [.Subscript (.Name a pc) i' q3, .Subscript (.Name a pd) j' q4] k2 p2) pos) env) (fun g s' => g = .next ∧ PU mg mb env cm pn Rr fz σ' s') NoE s := by
 obtain ⟨rs, nd, l, Y, Z, H, hS, hC, hp⟩ := S
 have hslot : zfu a σ.r = some (.o vs) := by unfold St.get at hget; rw [hl] at hget; exact hget
 obtain ⟨ov, X, Y', ml, kx, cn, hrm, back⟩ := hS.rm hslot
 obtain ⟨ad, us, n, Yc, rfl, rfl, hh⟩ := kx
 have hul := hh.length
 have hsz := zdt hf
 have big : (sizeLine : Int) < 2 ^ 62 := by decide
 obtain ⟨qi, wi, ei, ii⟩ := zp3 hi
 obtain ⟨qj, wj, ej, ij⟩ := zp3 hj
 obtain ⟨qi', wi', ei', ii'⟩ := zp3 hi'
 obtain ⟨qj', wj', ej', ij'⟩ := zp3 hj'
 have ma : (ad, listOf (List.toArray us) n) ∈ Y ++ (Z ++ Rr) := zb7.mp (by have := cn (ad, listOf (List.toArray us) n); simp only [zaa, zac, zai, zdN] at *; exact yio this)
 have ui : ∃ vi, us[ni.toNat]? = some vi := ⟨_, List.getElem?_eq_getElem (yaN hb hul)⟩
 have uj : ∃ vj, us[nj.toNat]? = some vj := ⟨_, List.getElem?_eq_getElem (yaV hb hul)⟩
 obtain ⟨vi, gi⟩ := ui
 obtain ⟨vj, gj⟩ := uj
 have idxi : idx us ni = some vi := by unfold idx; rw [if_pos hb.1, if_pos (yin hb hsz big)]; exact gi
 have idxj : idx us nj = some vj := by unfold idx; rw [if_pos hb.2.2.1, if_pos (yim hb hsz big)]; exact gj
 have sub : ∀ {z : Expr}, R.q z = true → znn z := fun {z} hz => zhT fun a' b' c' d' q => by rw [q, hO.sl] at hz; cases hz
 have read : ∀ {z : Expr} {pz pp : Pos} {wz : V} {nz : Int} {vz : Value} {fz1 : Fz} {s1 : Shared} {Q : Value → Shared → Prop}, R.q z = true → R.p sc z σ = some wz → wz.int = some nz → idx us nz = some vz → Sb fz fz1 → Rs mb s1 → At mg mb env.locals l (Y ++ (Z ++ Rr)) fz1 s1.heap →
  (∀ fz2 (s2 : Shared), Sb fz1 fz2 → Rs mb s2 → At mg mb env.locals l (Y ++ (Z ++ Rr)) fz2 s2.heap → Q vz s2) → wpAny (model prog w) A (eval (.Subscript (.Name a pp) z pz) env) Q NoE s1 := by
  intro z pz pp wz nz vz fz1 s1 Q qz ez iz hidx sb rs1 H1 hq
  exact Subscript_ (znm H1 ml rfl EO.kf (EO.kd hl) hd (hP.useI qz ez iz EO rs1 H1 (hS.sub sb) (hC.sub sb) zrr zrs fun t s2 f2 a2 rs2 H2 => zhS (isL (H2.get ma)) (sub qz) hidx (hq f2 s2 a2 rs2 H2)))
 have store : ∀ {z : Expr} {pz pp : Pos} {wz : V} {nz : Int} {v' : Value} {ws : List Value} {fz1 : Fz} {s1 : Shared} {T : Own} {Q : Unit → Shared → Prop}, R.q z = true → R.p sc z { σ with r := upd a none σ.r } = some wz → wz.int = some nz → 0 ≤ nz → nz < ws.length → ws.length = us.length → Sb fz fz1 → Rs mb s1 →
  At mg mb env.locals l ((ad, listOf (List.toArray ws) n) :: (Y' ++ (Z ++ T))) fz1 s1.heap →
  (∀ fz2 h', Sb fz1 fz2 → At mg mb env.locals l ((ad, listOf (List.toArray (ws.set nz.toNat v')) n) :: (Y' ++ (Z ++ T))) fz2 h' → ∀ s2 : Shared, Rs mb s2 → s2.heap = h' → Q () s2) → wpAny (model prog w) A (assign (.Subscript (.Name a pp) z pz) env v') Q NoE s1 := by
  intro z pz pp wz nz v' ws fz1 s1 T Q qz ez iz h0 h1 h2 sb rs1 H1 hq
  exact asgSub (znm H1 ml rfl EO.kf (EO.kd hl) hd (hP.useI qz ez iz EO rs1 H1 (hrm.sub sb) (hC.sub sb) (fun p hp => .tail _ (zrr p hp)) (fun p hp => .tail _ (zrs p hp)) fun t s2 f2 a2 rs2 H2 => zpe H2 .hd h0 (yaE hul hsz big h1 h2) h1 fun h' H3 => hq f2 h' a2 H3 { s2 with heap := h' } rs2 rfl))
 refine PyProof.Rows.Assign_Tuple ?_ rfl zlO
 refine wpAny_Tuple (args_cons (read qi' ei' ii' idxj (Sb.refl _) rs H fun f1 s1 a1 rs1 H1 => ?_))
 refine args_cons (read qj' ej' ij' idxi a1 rs1 H1 fun f2 s2 a2 rs2 H2 => ?_)
 refine args_nil ⟨(by show 2 ≤ sizeLine; decide), ?_⟩
 have H3 := H2.push { cls := .type "tuple", data := .seq (List.toArray [vj, vi]) }
 refine assign_Tuple_tuple hA.hd (items := List.toArray [vj, vi]) (isT (n := 0) (H3.get (.head _))) rfl rfl fun h' he => ?_
 have H4 := (H3.ext (h' := h') fun b o e => he b o (Nat.ne_of_lt (Heap.lt_size e)) e).lo (own' := (ad, listOf (List.toArray us) n) :: (Y' ++ (Z ++ (Yc ++ Rr)))) (fun p => by have := cn p; simp only [zaa, zac, zai] at *; exact yil this)
 show wpAny (model prog w) A (assignInOrder [assign (.Subscript (.Name a pa) i q1) env, assign (.Subscript (.Name a pb) j q2) env] [vj, vi]) _ NoE _
 refine assignInOrder_cons (store (v' := vj) qi ei ii hb.1 (ybn hb hul) rfl (a1.trans a2) rs2 H4 fun f3 h3 a3 H5 s3 rs3 hs3 => ?_)
 subst hs3
 refine assignInOrder_cons (store (v' := vi) qj ej ij hb.2.2.1 (by rw [List.length_set]; exact yik hb hul) (by rw [List.length_set]) ((a1.trans a2).trans a3) rs3 H5 fun f4 h4 a4 H6 s4 rs4 hs4 => ?_)
 subst hs4
 refine assignInOrder_nil ⟨rfl, f4, ((a1.trans a2).trans a3).trans a4, ?_⟩
 have sb4 := ((a1.trans a2).trans a3).trans a4
 obtain ⟨X', e1, e2⟩ := VRL.swap hh hx hy gi gj
 obtain ⟨Y'', e3, e4⟩ := back f4 (.o ((vs.set ni.toNat y).set nj.toNat x)) ((ad, listOf (List.toArray ((us.set ni.toNat vj).set nj.toNat vi)) n) :: X') sb4 ⟨ad, _, n, X', rfl, rfl, VRL.sub sb4 _ e1⟩
 have hσ : σ' = ⟨upd a (some (.o ((vs.set ni.toNat y).set nj.toNat x))) σ.r, σ.k⟩ := by
  unfold St.set at hset
  rw [hl] at hset
  dsimp only at hset
  rw [if_pos (zhR hslot)] at hset
  cases hset; rfl
 subst hσ
 exact ⟨rs4, by rw [zf8]; exact nd, l, Y'', Z, H6.lo (fun p => by have := e2 p; have := e4 p; simp only [zaa, zac, zai] at *; exact yij ‹_› this), e3, hC.sub sb4, hp⟩
end
structure Good (prog : Program) (w : World) (mg : Str → Option Value) (mb : Bx) (k : Nat) (C : Cfg) (R : Rec) : Prop where
 p : SndP prog w mg mb R
 e : SndE prog w mg mb k R
 t : SndT prog w mg mb k R
 s : SndS prog w mg mb k C R
 o : POk R
 c : ∀ sc elt gens scope pos σ v, R.e sc (.ListComp elt gens scope pos) σ = some v → ∃ R₀, SndE prog w mg mb k R₀ ∧ SndT prog w mg mb k R₀ ∧ POk R₀ ∧ zfo C R₀ sc elt gens scope σ = some v
section
variable {prog : Program} {w : World} {A : Around} {E : Value → Shared → Prop} {s : Shared} {mg : Str → Option Value} {mb : Bx} {k : Nat} {R : Rec} {Rr : Own} {fz fz' : Fz} {env : Env} {sc : Scope} {cm : List (Str × Addr)} {pn : List (Str × Value)} {σ σ' τ τ' : St} {C : Cfg} {e : Expr}
theorem znz (G : Good prog w mg mb k C R) {x : Str} {px pos : Pos} {value : Expr} {W : V} {σ1 : St} (hA : Ok k A) (EO : EnvOk sc env cm) (hpn : ∀ p ∈ pn, p.1 ∈ C.pins)
 (hv : R.e sc value σ = some (W, σ1)) (hput : σ1.put C sc x W = some σ') (S : Sim mg mb env cm pn σ Rr fz s) :
 wpAny (model prog w) A (exec (.Assign [.Name x px] value pos) env) (fun g s' => g = .next ∧ PU mg mb env cm pn Rr fz σ' s') NoE s := by
 by_cases hc : ∃ a b c d, value = .ListComp a b c d
 · obtain ⟨elt, gens, scope, cp, rfl⟩ := hc
   obtain ⟨R₀, e0, t0, o0, hcs⟩ := G.c _ _ _ _ _ _ _ hv
   have hsw : ∃ b, swapsWith (.ListComp elt gens scope cp) (some (.Name x px)) pos.line env = pure b := ⟨_, rfl⟩
   obtain ⟨b, hb⟩ := hsw
   cases b with
   | true => exact znx (p0 := firstIterPos gens cp) e0 t0 o0 hcs hput hA EO hpn S hb fun s' h => ⟨rfl, h⟩
   | false =>
    exact wpAny_Assign_Name (G.e.use hv hA EO S fun v s1 f1 X a b c => zns EO hpn hput c b fun h' tk S1 => ⟨rfl, f1, a, S1⟩) hb
 · exact zkE G.e G.o (fun a b c d q => hc ⟨a, b, c, d, q⟩) hA EO hpn hv hput S
theorem zpo {value o i : Expr} {sp : Pos} {line : Nat} : swapsWith value (some (.Subscript o i sp)) line env = pure false := by cases value <;> rfl
theorem zsa (G : Good prog w mg mb k C R) {elts vals : List Expr} {k1 k2 : Nat} {p1 p2 pos : Pos} (he : zrH C R sc elts vals σ = some σ') (hA : Ok k A) (EO : EnvOk sc env cm) (hpn : ∀ p ∈ pn, p.1 ∈ C.pins) (S : Sim mg mb env cm pn σ Rr fz s) :
 wpAny (model prog w) A (exec (.Assign [.Tuple elts k1 p1] (.Tuple vals k2 p2) pos) env) (fun g s' => g = .next ∧ PU mg mb env cm pn Rr fz σ' s') NoE s := by
 unfold zrH at he
 cases hn : zbY elts with
 | some xs =>
  rw [hn] at he
  refine zbn he fun Ws σ1 h1 h2 => zcB h2 fun hc h2 => ?_
  rw [Bool.and_eq_true, Bool.and_eq_true, Bool.or_eq_true, decide_eq_true_eq, decide_eq_true_eq, Bool.not_eq_true'] at hc
  exact zp2 G.e G.o hA EO hpn hn h1 hc.1.1 hc.1.2 (fun q => hc.2.elim (fun h => (q.elim h.1 h.2).elim) id) h2 S
 | none =>
  rw [hn] at he
  refine duoE he fun e1 e2 hx he => duoE he fun v1 v2 hy he => zjU he fun o1 i q1 d1 he => zdr he fun a pa b1 he => zjU he fun o2 j q2 d2 he => zdr he fun b pb b2 he => zjU he fun o3 i' q3 d3 he => zdr he fun c pc b3 he => zjU he fun o4 j' q4 d4 he => zdr he fun d pd b4 he =>
   zcB he fun hc he => zaE he fun ni h1 h2 => zaE h2 fun nj h3 h4 => zaE h4 fun ni' h5 h6 => zaE h6 fun nj' h7 h8 => zaE h8 fun o h9 h10 => ztV h10 fun vs ho h10 => zcB h10 fun hb h10 => zaE h10 fun x h11 h12 => zaE h12 fun y h13 h14 => ?_
  rw [hx, hy, d1, d2, d3, d4, b1, b2, b3, b4, ← hc.2.2.1, ← hc.2.1, ← hc.1]
  exact zuf G.p G.o hA EO hc.2.2.2.1 hc.2.2.2.2 h1 h3 (hb.2.2.2.2.1 ▸ h5) (hb.2.2.2.2.2.1 ▸ h7) (ho ▸ h9) ⟨hb.1, hb.2.1, hb.2.2.1, hb.2.2.2.1⟩ hb.2.2.2.2.2.2 h11 h13 h14 S
theorem zug (G : Good prog w mg mb k C R) {target value : Expr} {pos : Pos} (he : zrq C R sc target value σ = some σ') (hA : Ok k A) (EO : EnvOk sc env cm) (hpn : ∀ p ∈ pn, p.1 ∈ C.pins) (S : Sim mg mb env cm pn σ Rr fz s) :
 wpAny (model prog w) A (exec (.Assign [target] value pos) env) (fun g s' => g = .next ∧ PU mg mb env cm pn Rr fz σ' s') NoE s := by
 have hk := kr target
 change asgK C R sc value σ (kind target) = some σ' at he
 generalize kind target = κ at hk he
 cases hk
 case n x p => exact zbn he fun W σ1 h1 h2 => znz G hA EO hpn h1 h2 S
 case tup elts k1 p1 => exact znp he fun vals k2 p2 hv he => by subst hv; exact zsa G he hA EO hpn S
 case sub o i sp =>
  have h0 : (if R.q i = true then match zeg o with
   | some x => asgIx R sc x i value σ
   | none => zlw o fun o' j => zdE o' fun x => asgXX R sc x j i value σ
   else none) = some σ' := he
  refine zcB h0 fun qi he => ?_
  cases ho : zeg o with
  | some x =>
   rw [ho] at he
   obtain ⟨px, rfl⟩ := zf5 ho
   exact znk he fun hd he => zbn he fun W σ1 h1 h2 => zaE h2 fun kv h3 h4 => zaE h4 fun ki h5 h6 => wpAny_Assign_Subscript (G.e.use h1 hA EO S fun v s1 f1 X a b c => zny (Q := fun _ _ _ s' => Flow.next = .next ∧ PU mg mb env cm pn Rr fz σ' s') G.p (by simpa using hd) qi h3 h5 h6 EO c b fun ov iv u s' h => ⟨rfl, PU.sub a h⟩) zpo
  | none =>
   rw [ho] at he
   refine zjU he fun o' j sp2 e1 he => zdr he fun x px e2 he => znk he fun hd he => zbn he fun W σ1 h1 h2 => zaE h2 fun jv h3 h4 => zaE h4 fun ji h5 h6 => zaE h6 fun kv h7 h8 => zaE h8 fun ki h9 h10 => onFE h10 fun d hW h10 => ?_
   rw [Bool.or_eq_true, not_or, Bool.not_eq_true, Bool.not_eq_true', Bool.not_eq_false] at hd
   have hW : W = .f d := hW
   subst hW
   subst e1
   subst e2
   exact wpAny_Assign_Subscript (G.e.use h1 hA EO S fun v s1 f1 X a b c => by obtain ⟨kn, rfl⟩ := b; exact wpAny_mono (zlN G.p hd.1 hd.2 h3 h5 qi h7 h9 G.o.toQOk h10 EO c kn) (fun ov s2 h => wpAny_mono h (fun iv s3 h => wpAny_mono h (fun u s4 h => ⟨rfl, PU.sub a h⟩) fun _ _ x => x) fun _ _ x => x) fun _ _ x => x) zpo
 all_goals exact zaM he
theorem zuh (G : Good prog w mg mb k C R) {x : Str} {px : Pos} {value : Expr} {op : Operator} {pos : Pos} (hop : op = .Add ∨ op = .Sub) (he : augN C R sc x op value σ = some σ') (hA : Ok k A) (EO : EnvOk sc env cm) (hpn : ∀ p ∈ pn, p.1 ∈ C.pins) (S : Sim mg mb env cm pn σ Rr fz s) :
 wpAny (model prog w) A (exec (.AugAssign (.Name x px) op value pos) env) (fun g s' => g = .next ∧ PU mg mb env cm pn Rr fz σ' s') NoE s :=
 znk he fun _ he => zaE he fun va h1 h2 => zaE h2 fun ia h3 h4 => zbn h4 fun ib σ1 h5 h6 => zaE h6 fun ic h7 h8 => by
  cases S.take h1 with | mk l v X T rs H kv _ n _ =>
  rw [V.int_eq h3] at kv
  obtain ⟨t, rfl⟩ := H.isInt kv.1
  exact wpAny_AugAssign_Name (n.load EO H (zcU G.e h5 hA EO S fun t2 s1 f1 a1 S1 => zrL hop h7 fun t3 tk => zns (X := []) EO hpn h8 S1.tk (VR.of (.int _ _)) fun h' tk S2 => ⟨rfl, f1, a1, S2⟩))
theorem zui (G : Good prog w mg mb k C R) {x : Str} {px sp : Pos} {i value : Expr} {op : Operator} {pos : Pos} (hop : op = .Add ∨ op = .Sub) (he : augX R sc x i op value σ = some σ') (EO : EnvOk sc env cm) (S : Sim mg mb env cm pn σ Rr fz s) :
 wpAny (model prog w) A (exec (.AugAssign (.Subscript (.Name x px) i sp) op value pos) env) (fun g s' => g = .next ∧ PU mg mb env cm pn Rr fz σ' s') NoE s := by
 refine zcB he fun _ h0 => zaE h0 fun ki h1 h0 => zaE h0 fun o h3 h0 => ztV h0 fun vs ho h0 => znk h0 fun hd h0 => zaE h0 fun va h5 h0 => zaE h0 fun ia h7 h0 => zaE h0 fun ib h9 h0 => zaE h0 fun ic h11 h0 => zaE h0 fun o2 h3' h0 => ztV h0 fun vs2 ho2 h0 => zcB h0 fun hb h12 => ?_
 clear h0 he
 rw [ho] at h3
 rw [h3, ho2] at h3'
 cases h3'
 obtain ⟨qi, kv, e1, e2⟩ := zp3 h1
 obtain ⟨qv, vv, e3, e4⟩ := zp3 h9
 cases S with | mk rs nd l Y Z H hS hC hp =>
 cases zf9 (mg := mg) (mb := mb) (env := env) nd hS hC hp h3 with | mk ov X T kx cn nm back =>
 obtain ⟨a, us, n, Yc, rfl, rfl, hh⟩ := kx
 have ma : (a, listOf (List.toArray us) n) ∈ Y ++ (Z ++ Rr) := zb7.mp (by have := cn (a, listOf (List.toArray us) n); simp only [zaa, zac, zai, zdN] at *; exact yii this)
 have hul := hh.length
 have hidx : vs[ki.toNat]? = some va := by unfold idx at h5; rw [if_pos hb.1, if_pos (yig hb)] at h5; exact h5
 cases VRL.take ki.toNat hh hidx with | mk v0 Y0 T0 g1 g2 g3 g4 =>
 rw [V.int_eq h7] at g2
 refine wpAny_AugAssign_SubscriptAny ((nm.sub ztZ).eval (by simpa using hd) EO H (G.p.useI qi e1 e2 EO rs H hS hC zrr zrs fun t s1 f1 a1 rs1 H1 => ?_)) (fun ov iv new => by
  cases i
  case Slice => rw [G.o.sl] at qi; cases qi
  all_goals rfl)
 obtain ⟨t0, rfl⟩ := H1.isInt (g2.1.sub a1)
 refine wpAny_getItem_list (isL (H1.get ma)) hb.1 (yig hb) (x := .int ia t0) (by simpa using g1) (G.p.useI qv e3 e4 EO rs1 H1 (hS.sub a1) (hC.sub a1) zrr zrs fun t2 s2 f2 a2 rs2 H2 => zrL hop h11 fun t3 tk => ?_)
 obtain ⟨X', g5, g6⟩ := g4 f2 (.f (.int ic)) (.int ic t3) [] (a1.trans a2) (VR.of (.int _ _))
 have H3 := H2.lo (own' := (a, listOf (List.toArray us) n) :: (Yc ++ (T ++ Rr))) (fun p => by have := cn p; simp only [zaa, zac, zai] at *; exact yih this)
 refine zpe (s := { s2 with toks := tk }) H3 .hd hb.1 (yig hb) (yif hb hul) fun h' H4 => ?_
 obtain ⟨σ2, k1, k2⟩ := back f2 (.o (vs.set ki.toNat (.f (.int ic)))) ((a, listOf (List.toArray (us.set ki.toNat (.int ic t3))) n) :: X') { s2 with heap := h', toks := tk } Rr _ rs2 (a1.trans a2) ⟨a, _, n, X', rfl, rfl, g5⟩ H4 (fun p => by have := g3 p; have := g6 p; simp only [zaa, zac, zai] at *; exact yie ‹_› this)
 rw [h12] at k1; cases k1
 exact ⟨rfl, f2, a1.trans a2, k2⟩
theorem zuj (G : Good prog w mg mb k C R) {target value : Expr} {op : Operator} {pos : Pos} (he : augS C R sc target op value σ = some σ') (hA : Ok k A) (EO : EnvOk sc env cm) (hpn : ∀ p ∈ pn, p.1 ∈ C.pins) (S : Sim mg mb env cm pn σ Rr fz s) :
 wpAny (model prog w) A (exec (.AugAssign target op value pos) env) (fun g s' => g = .next ∧ PU mg mb env cm pn Rr fz σ' s') NoE s := by
 refine zcB he fun hop he => ?_
 cases hn : zeg target with
 | some x =>
  rw [hn] at he
  obtain ⟨px, rfl⟩ := zf5 hn
  exact zuh G hop he hA EO hpn S
 | none =>
  rw [hn] at he
  exact zjU he fun o i sp e1 he => zdr he fun x px e2 he => by subst e1; subst e2; exact zui G hop he EO S
end
section
variable {prog : Program} {w : World} {A : Around} {E : Value → Shared → Prop} {s : Shared} {mg : Str → Option Value} {mb : Bx} {k : Nat} {R : Rec} {Rr : Own} {fz fz' : Fz} {env : Env} {sc : Scope} {cm : List (Str × Addr)} {pn : List (Str × Value)} {σ σ' τ τ' : St} {C : Cfg} {e : Expr}
theorem zp4 (G : Good prog w mg mb k C R) {x : Str} {xp apos cpos pos : Pos} {elt : Expr} {vs vs1 : List V} {W : V} {σ1 : St} (hA : Ok k A) (EO : EnvOk sc env cm) (hd : (x == ("__debug__" : Str)) = false) (hline : (apos.endLine == cpos.line) = true) (hl : sc.names.lookup x = some .local)
 (hg : σ.get sc x = some (.o vs)) (hv : R.e sc elt σ = some (W, σ1)) (hg1 : σ1.get sc x = some (.o vs1)) (hf : zaI vs1.length = true) (hset : σ1.set sc x (.o (vs1 ++ [W])) = some σ') (S : Sim mg mb env cm pn σ Rr fz s) :
 wpAny (model prog w) A (exec (.Expr (.Call (.Attribute (.Name x xp) "append" apos) [elt] [] cpos) pos) env) (fun g s' => g = .next ∧ PU mg mb env cm pn Rr fz σ' s') NoE s := by
 have hse : ∀ a b, elt ≠ .Starred a b := fun a b q => by rw [q, G.o.eSt] at hv; cases hv
 have hst : backTo cpos (starEach [elt] env) = [(false, eval elt env)] := by rw [zaW hse]; rfl
 have hint : interactive env = false := by unfold interactive; rw [EO.kf]; rfl
 refine wpAny_Expr (Q := fun g s' => g = .next ∧ PU mg mb env cm pn Rr fz σ' s') ?_ hint
 refine wpAny_Call_append rfl (by rw [hst]; rfl) hline hst ?_
 have Sp : ∃ u, Sim mg mb env cm ((x, u) :: pn) σ Rr fz s := by
  cases S with | mk rs nd l Y Z H hS hC hp =>
  refine getE hg (fun _ hs => ?_) fun hk => by rw [hl] at hk; cases hk
  obtain ⟨u, X, m, _⟩ := hS.get hs
  exact ⟨u, rs, nd, l, Y, Z, H, hS, hC, zlk m hp⟩
 obtain ⟨u, Sp⟩ := Sp
 cases Sp.take hg with | mk l v X T _ H kv hpl nm back =>
 have e0 : v = u := H.same_local (nm.isLoc hl) (hpl _ (.head _))
 subst e0
 refine nm.eval hd EO H ?_
 obtain ⟨a, us, n, Yc, rfl, rfl, hh⟩ := kv
 refine ⟨a, us.toArray, rfl, ⟨_, n, H.get (.head _), rfl, rfl, rfl⟩, G.e.use hv hA EO Sp fun y s1 f1 Xy a1 b1 S1 => ?_⟩
 cases S1.take hg1 with | mk l1 v1 X1 T1 rs1 H1 kv1 hp1 nm1 back1 =>
 have e : v1 = .ref a := H1.same_local (nm1.isLoc hl) (hp1 _ (.head _))
 subst e
 obtain ⟨a', us1, n1, Yc1, e1, rfl, hh1⟩ := kv1
 cases e1
 have hlen := hh1.length
 have H2 := H1.lo (own' := (a, listOf (List.toArray us1) n1) :: ((Yc1 ++ Xy) ++ (T1 ++ Rr))) (by (intro p_; simp only [zaa, zac, zai]; exact yid))
 refine zvh (f := fun n' => (a, listOf (List.toArray (us1 ++ [y])) n') :: ((Yc1 ++ Xy) ++ (T1 ++ Rr))) H2 (fun _ => .hd) (by rw [hlen]; exact zdt hf) fun h' n' H3 => ?_
 obtain ⟨σ2, k1, k2⟩ := back1 f1 (.o (vs1 ++ [W])) ((a, listOf (List.toArray (us1 ++ [y])) n') :: (Yc1 ++ Xy)) { s1 with heap := h' } Rr _ rs1 (Sb.refl _) ⟨a, _, n', _, rfl, rfl, hh1.app (VRL.single b1)⟩ H3 (by (intro p_; simp only [zaa, zac, zai]; exact yic))
 rw [hset] at k1; cases k1
 cases k2 with | mk rs nd l2 Y Z q1 q2 q3 q4 =>
 exact ⟨rfl, f1, a1, rs, nd, l2, Y, Z, q1, q2, q3, fun p hp => q4 p (.tail _ hp)⟩
theorem s_step (G : Good prog w mg mb k C R) (hR : ∀ sc g gp args pos σ W σ', zfp C R sc g args σ = some (W, σ') → ∀ A env cm pn Rr fz s, Ok k A → EnvOk sc env cm → Sim mg mb env cm pn σ Rr fz s → wpAny (model prog w) A (eval (.Call (.Name g gp) args [] pos) env) (PE mg mb env cm pn Rr fz W σ') NoE s)
 {st : Stmt} {f : Fl} (he : zbG C R sc st σ = some (f, σ')) (hA : Ok k A) (EO : EnvOk sc env cm) (hpn : ∀ p ∈ pn, p.1 ∈ C.pins) (S : Sim mg mb env cm pn σ Rr fz s) :
 wpAny (model prog w) A (exec st env) (PS mg mb env cm pn Rr fz f σ') NoE s := by
 have up : ∀ {c : Sem Flow}, wpAny (model prog w) A c (fun g s' => g = .next ∧ PU mg mb env cm pn Rr fz σ' s') NoE s → wpAny (model prog w) A c (PS mg mb env cm pn Rr fz .next σ') NoE s := fun h => wpAny_mono h (fun _ _ h => ⟨h.1, by cases h.2 with | mk f a b => exact ⟨f, a, b⟩⟩) fun _ _ x => x
 have hk := ksr st
 change sK C R sc σ (ztX st) = some (f, σ') at he
 generalize ztX st = κ at hk he
 cases hk
 case asg t v p => exact zft he fun σ1 h1 h2 => by cases h2; exact up (zug G h1 hA EO hpn S)
 case aug t op v p => exact zft he fun σ1 h1 h2 => by cases h2; exact up (zuj G h1 hA EO hpn S)
 case for_ t i b p =>
  refine zaE he fun it h1 h2 => wpAny_For (wpAny_mono (zhU G.e G.o h1 hA EO S) (fun xv s1 h => wpAny_mono h (fun it' s2 h => ?_) fun _ _ x => x) fun _ _ x => x) (zkC G.o.toEOk h1)
  cases h with | mk fz1 X sb1 S1 ik =>
  exact zv2 G.s hA EO hpn (need := fz1) (fun g s' h => PS.sub sb1 h) h2 (zua ik.1 (zpZ h2)) (Sb.refl _) S1
 case whl t b p => exact wpAny_While (zr2 G.s G.t hA EO hpn (need := fz) (fun g s' h => h) he (Sb.refl _) S)
 case if_ t b o p =>
  refine zbn he fun c σ1 h1 h2 => wpAny_If (G.t.use h1 hA EO S fun s1 f1 a1 S1 => ?_)
  cases c with
  | true => exact wpAny_mono (G.s _ _ _ _ _ h2 _ _ _ _ _ _ s1 hA EO hpn S1) (fun _ _ h => PS.sub a1 h) fun _ _ x => x
  | false => exact wpAny_mono (G.s _ _ _ _ _ h2 _ _ _ _ _ _ s1 hA EO hpn S1) (fun _ _ h => PS.sub a1 h) fun _ _ x => x
 case ret e p => exact znj he fun d σ1 h1 h2 => by cases h2; exact wpAny_Return_some (zcu G.e h1 hA EO S fun v s1 f1 a b c => ⟨v, rfl, f1, a, b, c⟩)
 case ex e pos =>
  change zvR C R sc e σ = _ at he
  unfold zvR at he
  cases hc : zly (kind e) with
  | some c =>
   rw [hc] at he
   refine zbn he fun W σ1 h1 h2 => onFE h2 fun d h3 h2 => zcB h2 fun h4 h2 => ?_
   have h3 : W = .f d := h3
   cases h2
   obtain ⟨gp, p, rfl⟩ := zrG (kr e) hc
   refine wpAny_Expr (wpAny_mono (hR _ _ _ _ _ _ _ _ h1 _ _ _ _ _ _ s hA EO S) (fun v s1 h => ?_) fun _ _ x => x) (by unfold interactive; rw [EO.kf]; rfl)
   cases h with | mk f1 X a1 b1 S1 =>
   rw [h3, zrS h4] at b1
   obtain ⟨kn, rfl⟩ := b1
   obtain ⟨l, H⟩ := S1.at
   rw [H.isNone kn]
   exact ⟨rfl, f1, a1, S1⟩
  | none =>
   rw [hc] at he
   refine zaE he fun c h1 h2 => zcB h2 fun h3 h2 => zaE h2 fun a h4 h2 => zdr h2 fun x xp h5 h2 => zhG h2 fun elt h6 h2 => zcB h2 fun hc h2 => zaE h2 fun v h7 h2 => ztV h2 fun vs h8 h2 => zbn h2 fun W σ1 h9 h2 => zaE h2 fun u h10 h2 => ztV h2 fun vs1 h11 h2 => zcB h2 fun h12 h2 => zft h2 fun σ2 h13 h14 => ?_
   cases h14
   obtain ⟨f, as, ks, cp⟩ := c
   obtain ⟨o, at_, ap⟩ := a
   have e1 := caOf_e h1
   have e2 := atOf_e h4
   have e3 : ks = [] := List.isEmpty_iff.mp h3
   have h5 : o = .Name x xp := h5
   have h6 : as = [elt] := h6
   have hat : at_ = "append" := hc.1
   have e2 : f = .Attribute o at_ ap := e2
   rw [e1, e3, e2, h5, h6, hat]
   exact up (zp4 G hA EO hc.2.1 hc.2.2.1 hc.2.2.2 (h8 ▸ h7) h9 (h11 ▸ h10) h12 h13 S)
 case no => exact zaM he
theorem zv5 (G : Good prog w mg mb k C R) (hR : ∀ sc g gp args pos σ W σ', zfp C R sc g args σ = some (W, σ') → ∀ A env cm pn Rr fz s, Ok k A → EnvOk sc env cm → Sim mg mb env cm pn σ Rr fz s → wpAny (model prog w) A (eval (.Call (.Name g gp) args [] pos) env) (PE mg mb env cm pn Rr fz W σ') NoE s) :
 ∀ sc (b : List Stmt) σ f σ', za6 C R sc b σ = some (f, σ') → ∀ A env cm pn Rr fz s, Ok k A → EnvOk sc env cm → (∀ p ∈ pn, p.1 ∈ C.pins) → Sim mg mb env cm pn σ Rr fz s → wpAny (model prog w) A (execs b env) (PS mg mb env cm pn Rr fz f σ') NoE s := by
 intro sc b
 induction b with
 | nil =>
  intro σ f σ' he A env cm pn Rr fz s hA EO hpn S
  cases he
  exact wpAny_execs_nil ⟨rfl, fz, Sb.refl _, S⟩
 | cons st rest ih =>
  intro σ f σ' he A env cm pn Rr fz s hA EO hpn S
  refine zbn he fun f1 σ1 h1 h2 => wpAny_execs_cons (wpAny_mono (s_step G hR h1 hA EO hpn S) (fun g s1 h => ?_) fun _ _ x => x)
  cases f1 with
  | next =>
   obtain ⟨rfl, fz1, sb1, S1⟩ := h
   exact wpAny_mono (ih _ _ _ h2 _ _ _ _ _ _ s1 hA EO hpn S1) (fun _ _ h => PS.sub sb1 h) fun _ _ x => x
  | ret d =>
   cases h2
   obtain ⟨v, rfl, h⟩ := h
   exact ⟨v, rfl, h⟩
theorem nq {e : Expr} (h : R.q e = false) (hk : eK C R sc σ (kind e) = none) : (step C R).e sc e σ = none := by
 show zdM C R sc e σ = none
 unfold zdM
 rw [h]
 exact hk
theorem zsb (hT : TOk prog w mg mb k C) (zjG : ∀ f, IsRec f → (f == ("__debug__" : Str)) = false) (G : Good prog w mg mb k C R) : Good prog w mg mb k C (step C R) := by
 have hcall := zrZ (k := k) (C := C) G.p G.e G.o hT zjG
 have hcomp := zr6 (C := C) (k := k) G.e G.t G.o
 exact
 { p := zrQ G.p G.o.toQOk,
   e := zrW G.p G.e G.t G.o ⟨hcomp, hcall⟩,
   t := zrT G.e G.o.toEOk G.t,
   s := zv5 G hcall,
   o := {
    sl := fun _ _ _ _ => rfl, st := fun _ _ => rfl, se := fun _ _ _ => rfl, sC := fun _ _ _ _ => rfl, dC := fun _ _ _ _ _ => rfl, lC := fun _ _ _ _ => rfl,
    eSet := fun sc a b c σ => nq (G.o.se _ _ _) rfl,
    eSl := fun sc a b c d σ => nq (G.o.sl _ _ _ _) rfl,
    eSt := fun sc a b σ => nq (G.o.st _ _) rfl,
    eSC := fun sc a b c d σ => nq (G.o.sC _ _ _ _) rfl,
    eDC := fun sc a b c d f σ => nq (G.o.dC _ _ _ _ _) rfl,
    pName := fun sc x pos σ W h => by
     exact znk (c := (x == ("__debug__" : Str)) = true) h fun q h => ⟨by simpa using q, h⟩ },
   c := fun sc elt gens scope pos σ v h => ⟨R, G.e, G.t, G.o, by
    have h : zdM C R sc (.ListComp elt gens scope pos) σ = some v := h
    unfold zdM at h
    rw [G.o.lC] at h
    exact h⟩ }
theorem zuk (hT : TOk prog w mg mb k C) (zjG : ∀ f, IsRec f → (f == ("__debug__" : Str)) = false) (n : Nat) : Good prog w mg mb k C (sem C n) := by
 induction n with
 | zero =>
  exact
  { p := (fun _ _ _ _ q => by cases q),
    e := fun _ _ _ _ _ h => zaM h,
    t := fun _ _ _ _ _ h => zaM h,
    s := fun _ _ _ _ _ h => zaM h,
    o := {
     sl := fun _ _ _ _ => rfl, st := fun _ _ => rfl, se := fun _ _ _ => rfl, sC := fun _ _ _ _ => rfl, dC := fun _ _ _ _ _ => rfl, lC := fun _ _ _ _ => rfl,
      eSet := fun _ _ _ _ _ => rfl, eSl := fun _ _ _ _ _ _ => rfl, eSt := fun _ _ _ _ => rfl, eSC := fun _ _ _ _ _ _ => rfl, eDC := fun _ _ _ _ _ _ _ => rfl,
      pName := fun _ _ _ _ _ h => zaM h },
    c := fun _ _ _ _ _ _ _ h => zaM h }
 | succ n ih => exact zsb hT zjG ih
end
structure DefOk (dr : DefRec) : Prop where
 kind : dr.scope.kind = .function
 co : dr.scope.isCoroutine = false
 gen : dr.scope.isGenerator = false
 bind : ∀ pm code doc args, args.length = dr.params.args.length → bindArgs (docDef dr.name dr.params dr.body dr.scope pm code doc) ⟨args, []⟩ = pure ((dr.params.args.map (·.arg)).zip args)
 names : (dr.scope.names.map (·.1)).Nodup
 params : (dr.params.args.map (·.arg)).Nodup
 kinds : ∀ x ∈ dr.params.args.map (·.arg), dr.scope.names.lookup x = some .local ∨ dr.scope.names.lookup x = some .cell
theorem ze4 {α : Type} {x : Str} {u : α} {r : List (Str × α)} : List.lookup x ((x, u) :: r) = some u := by rw [List.lookup_cons, beq_self_eq_true]
theorem zdF {α : Type} {x y : Str} {u : α} {r : List (Str × α)} (h : x ≠ y) : List.lookup x ((y, u) :: r) = r.lookup x := by rw [List.lookup_cons, beq_false_of_ne h]
theorem zp5 {α : Type} {x : Str} {u : α} {names : List (Str × α)} : (names.map (·.1)).Nodup → (x, u) ∈ names → names.lookup x = some u := by
 induction names with
 | nil => exact fun _ h => by cases h
 | cons p r ih =>
  intro hn h
  rw [List.map_cons, List.nodup_cons] at hn
  rcases List.mem_cons.mp h with e | h
  · subst e; exact ze4
  · exact (zdF fun q => hn.1 (List.mem_map.mpr ⟨_, h, q⟩)).trans (ih hn.2 h)
theorem zsc {K : Str → Option NameKind} {x : Str} (b : List (Str × Value)) : ∀ m : Str → Option Value, x ∉ b.map (·.1) → bindL K b m x = m x := by
 induction b with
 | nil => intro m _; rfl
 | cons p r ih =>
  intro m h
  obtain ⟨n, v⟩ := p
  rw [List.map_cons, List.mem_cons, not_or] at h
  unfold bindL
  rw [ih _ h.2]
  split
  · exact if_neg h.1
  · rfl
theorem zul {K : Str → Option NameKind} {x : Str} {v : Value} (hk : K x = some .local) (b : List (Str × Value)) : ∀ m : Str → Option Value, (b.map (·.1)).Nodup → (x, v) ∈ b → bindL K b m x = some v := by
 induction b with
 | nil => exact fun _ _ h => by cases h
 | cons p r ih =>
  intro m hn h
  rw [List.map_cons, List.nodup_cons] at hn
  rcases List.mem_cons.mp h with e | h
  · subst e
    unfold bindL
    rw [zsc r _ hn.1, if_pos hk]
    exact if_pos rfl
  · unfold bindL
    exact ih _ hn.2 h
theorem zlP {K : Str → Option NameKind} {x : Str} (b : List (Str × Value)) : ∀ m : Str → Option Value, x ∉ b.map (·.1) → bindC K b m x = m x := by
 induction b with
 | nil => intro m _; rfl
 | cons p r ih =>
  intro m h
  obtain ⟨n, v⟩ := p
  rw [List.map_cons, List.mem_cons, not_or] at h
  unfold bindC
  rw [ih _ h.2]
  split
  · rfl
  · exact if_neg h.1
theorem zum {K : Str → Option NameKind} {x : Str} {v : Value} (hk : K x ≠ some .local) (b : List (Str × Value)) : ∀ m : Str → Option Value, (b.map (·.1)).Nodup → (x, v) ∈ b → bindC K b m x = some v := by
 induction b with
 | nil => exact fun _ _ h => by cases h
 | cons p r ih =>
  intro m hn h
  rw [List.map_cons, List.nodup_cons] at hn
  rcases List.mem_cons.mp h with e | h
  · subst e
    unfold bindC
    rw [zlP r _ hn.1, if_neg hk]
    exact if_pos rfl
  · unfold bindC
    exact ih _ hn.2 h
theorem zkF {x : Str} (names : List (Str × NameKind)) : ∀ (n : Nat) (acc : List (Str × Addr)), ((x, NameKind.cell) ∈ names ∨ ∃ c, acc.lookup x = some c) → ∃ c, (cellsFrom n names acc).lookup x = some c := by
 induction names with
 | nil => exact fun n acc h => h.elim (fun h => by cases h) id
 | cons p r ih =>
  intro n acc h
  obtain ⟨y, k⟩ := p
  unfold cellsFrom
  by_cases hk : k = .cell
  · subst hk
    rw [if_pos (beq_self_eq_true _)]
    refine ih _ _ ?_
    by_cases hy : x = y
    · subst hy; exact .inr ⟨n, ze4⟩
    · rcases h with h | ⟨c, h⟩
      · rcases List.mem_cons.mp h with e | h
        · exact absurd (congrArg Prod.fst e) hy
        · exact .inl h
      · exact .inr ⟨c, (zdF hy).trans h⟩
  · rw [if_neg (by simpa using hk)]
    refine ih _ _ (h.imp_left fun h => ?_)
    rcases List.mem_cons.mp h with e | h
    · exact absurd (congrArg Prod.snd e).symm hk
    · exact h
section
variable {mg : Str → Option Value} {mb : Bx} {fz fz' : Fz} {own : Own} {h h' : Heap}
theorem At.enter {L : Addr} {l : List (Str × Value)} (H : At mg mb L l own fz h) : ∃ oL, NsO oL l ∧ ∀ (L' : Addr) (l' : List (Str × Value)) (m' : Str → Option Value) (Z0 : Own) (h' : Heap), Le h h' → h.get? L' = none → h'.Ns L' m' → (∀ p ∈ l', m' p.1 = some p.2) →
 (∀ p ∈ Z0, h'.get? p.1 = some p.2 ∧ h.get? p.1 = none ∧ p.1 ≠ L') → (Z0.map (·.1)).Nodup → At mg mb L' l' (Z0 ++ ((L, oL) :: own)) fz h' := by
 obtain ⟨g, c, le, gL, ⟨m, hm, km⟩, ow, nd, r⟩ := H
 obtain ⟨oL, es, ep, hoL, hd, hs, hf⟩ := hm
 refine ⟨oL, ⟨es, ep, hd, hs, fun p hp => (hf _).trans (km p hp)⟩, fun L' l' m' Z0 h' e hL hn hl hZ nz => ?_⟩
 have ne : ∀ {b : Addr} {o : Obj}, h.get? b = some o → b ≠ L' := fun x q => by rw [q, hL] at x; cases x
 have gnone : ∀ {b : Addr}, h.get? b = none → g.get? b = none := fun {b} hb => by
  cases q : g.get? b with
  | none => rfl
  | some o => rw [le _ _ q] at hb; cases hb
 refine ⟨g, c, le.trans e, gnone hL, ⟨m', hn, hl⟩, fun p hp => ?_, ?_, r⟩
 · rcases List.mem_append.mp hp with hp | hp
   · obtain ⟨h1, h2, h3⟩ := hZ p hp
     exact ⟨h1, h3, gnone h2⟩
   · rcases List.mem_cons.mp hp with rfl | hp
     · exact ⟨e _ _ hoL, ne hoL, gL⟩
     · exact ⟨e _ _ (ow p hp).1, ne (ow p hp).1, (ow p hp).2.2⟩
 · rw [List.map_append, List.nodup_append]
   refine ⟨nz, ?_, fun a ha b hb q => ?_⟩
   · rw [List.map_cons, List.nodup_cons]
     refine ⟨fun q => ?_, nd⟩
     obtain ⟨p, hp, q⟩ := List.mem_map.mp q
     exact (ow p hp).2.1 q
   · obtain ⟨p, hp, rfl⟩ := List.mem_map.mp ha
     have h2 := (hZ p hp).2.1
     obtain ⟨p', hp', rfl⟩ := List.mem_map.mp hb
     rcases List.mem_cons.mp hp' with rfl | hp'
     · rw [q] at h2; dsimp only at h2; rw [hoL] at h2; cases h2
     · rw [q, (ow p' hp').1] at h2; cases h2
end
theorem zp6 {fz : Fz} {h₁ : Heap} {cs : List (Str × Addr)} {cmv : Str → Option Value} {Lx : Addr} (X : Cl Lx cs h₁ cmv) (z : Str → Option V) (ad : Str → Addr) (ns : List Str) :
 (∀ x ∈ ns, cs.lookup x = some (ad x) ∧ (∀ W, z x = some W → ∃ v d, W = .f d ∧ Kn fz v d ∧ cmv x = some v) ∧ (z x = none → cmv x = none)) → ∃ Z0, CR fz (ns.map fun x => (x, ad x)) (ns.map fun x => (x, z x)) Z0 ∧ Z0.map (·.1) = ns.map ad ∧ ∀ p ∈ Z0, h₁.get? p.1 = some p.2 := by
 induction ns with
 | nil => exact fun _ => ⟨[], .nil, rfl, zrJ⟩
 | cons x ns ih =>
  intro hx
  obtain ⟨Z0, h1, h2, h3⟩ := ih fun y hy => hx y (.tail _ hy)
  obtain ⟨hx1, zk, zn⟩ := hx x (.head _)
  obtain ⟨o, ho, hd⟩ := X.cell x (ad x) hx1
  refine ⟨(ad x, o) :: Z0, ?_, by rw [List.map_cons, List.map_cons, h2], zlk ho h3⟩
  rw [List.map_cons, List.map_cons]
  cases q : z x with
  | none => exact .no (hd.trans (by rw [zn q])) h1
  | some W =>
   obtain ⟨v, d, rfl, kn, e⟩ := zk W q
   exact .so (X := []) (hd.trans (by rw [e])) (VR.of kn) h1
theorem znA {fz : Fz} {l : List (Str × Value)} (z : Str → Option V) (x0 : Str) (X0 : Own) (ns : List Str) : ns.Nodup → (∀ x ∈ ns, ∀ W, z x = some W → ∃ v X, (x, v) ∈ l ∧ VR fz W v X ∧ (X = [] ∨ (x = x0 ∧ X = X0))) →
 ∃ Y, SR l fz (ns.map fun x => (x, z x)) Y ∧ (x0 ∈ ns → ∀ p, cnt p Y ≤ cnt p X0) ∧ (x0 ∉ ns → Y = []) := by
 induction ns with
 | nil => exact fun _ _ => ⟨[], .nil, (fun h => by cases h), fun _ => rfl⟩
 | cons x ns ih =>
  intro hn hx
  rw [List.nodup_cons] at hn
  obtain ⟨Y, h1, h2, h3⟩ := ih hn.2 fun y hy => hx y (.tail _ hy)
  rw [List.map_cons]
  have old : ∀ {Y'}, Y' = Y → (x0 ∈ x :: ns → ∀ p, cnt p Y' ≤ cnt p X0) ∧ (x0 ∉ x :: ns → Y' = []) := fun e => by
   subst e
   refine ⟨fun h p => ?_, fun h => h3 fun q => h (.tail _ q)⟩
   by_cases q : x0 ∈ ns
   · exact h2 q p
   · rw [h3 q]; exact Nat.zero_le _
  cases q : z x with
  | none => exact ⟨Y, .no h1, old rfl⟩
  | some W =>
   obtain ⟨v, X, a, b, c⟩ := hx x (.head _) W q
   refine ⟨X ++ Y, .so a b h1, ?_⟩
   rcases c with rfl | ⟨rfl, rfl⟩
   · exact old rfl
   · rw [h3 hn.1, List.append_nil]
     exact ⟨fun _ p => Nat.le_refl _, fun h => absurd (.head _) h⟩
section
variable {prog : Program} {w : World} {A : Around} {mg : Str → Option Value} {mb : Bx} {k : Nat} {C : Cfg}
theorem zid {α β : Type} {x : Str} {W : α} {ps : List Str} : ∀ {Ws : List α} {vs : List β}, (ps.zip Ws).lookup x = some W → Ws.length = vs.length → ∃ (i : Nat) (v : β), ps[i]? = some x ∧ Ws[i]? = some W ∧ vs[i]? = some v ∧ (x, v) ∈ ps.zip vs := by
 induction ps with
 | nil => exact fun h _ => zaM h
 | cons p ps ih =>
  intro Ws vs h e
  cases Ws with
  | nil => exact zaM h
  | cons U Us =>
   cases vs with
   | nil => cases e
   | cons v vs =>
    rw [List.zip_cons_cons] at h
    by_cases q : x = p
    · subst q
      rw [ze4] at h
      exact ⟨0, v, rfl, h, rfl, .head _⟩
    · rw [zdF q] at h
      obtain ⟨i, v', a, b, c, d⟩ := ih h (Nat.succ.inj e)
      exact ⟨i + 1, v', a, b, c, .tail _ d⟩
theorem zie {α β : Type} {x : Str} {ps : List Str} : ∀ {Ws : List α} {vs : List β}, (ps.zip Ws).lookup x = none → Ws.length = vs.length → x ∉ (ps.zip vs).map (·.1) := by
 induction ps with
 | nil => exact fun _ _ h => by cases h
 | cons p ps ih =>
  intro Ws vs h e
  cases vs with
  | nil => exact fun h => by cases h
  | cons v vs =>
   cases Ws with
   | nil => cases e
   | cons W Ws =>
    rw [List.zip_cons_cons] at h
    by_cases q : x = p
    · subst q; rw [ze4] at h; cases h
    · rw [zdF q] at h
      rw [List.zip_cons_cons, List.map_cons, List.mem_cons, not_or]
      exact ⟨q, ih h (Nat.succ.inj e)⟩
end
section
variable {prog : Program} {w : World} {mg : Str → Option Value} {mb : Bx} {k : Nat} {C : Cfg}
theorem KnL.nth {fz : Fz} {vs : List Value} {ds : List D} (h : KnL fz vs ds) : ∀ (i : Nat) {v d}, vs[i]? = some v → ds[i]? = some d → Kn fz v d := by
 induction h with
 | nil => exact fun i _ _ e => zaM e
 | cons h t ih =>
  intro i v d e e'
  cases i with
  | zero => cases e; cases e'; exact h
  | succ i => exact ih i e e'
theorem zlQ {α β : Type} {f : α → β} {l : List α} : l.Nodup → (∀ x ∈ l, ∀ y ∈ l, f x = f y → x = y) → (l.map f).Nodup := by
 induction l with
 | nil => exact fun _ _ => List.Pairwise.nil
 | cons x l ih =>
  intro hn h
  rw [List.nodup_cons] at hn
  rw [List.map_cons, List.nodup_cons]
  refine ⟨fun q => ?_, ih hn.2 fun a ha b hb => h a (.tail _ ha) b (.tail _ hb)⟩
  obtain ⟨y, hy, e⟩ := List.mem_map.mp q
  exact hn.1 (h y (.tail _ hy) x (.head _) e ▸ hy)
theorem znB {β : Type} {ad : Str → β} {x : Str} {ns : List Str} : x ∈ ns → (ns.map fun x => (x, ad x)).lookup x = some (ad x) := by
 induction ns with
 | nil => exact fun h => by cases h
 | cons y ns ih =>
  intro h
  rw [List.map_cons]
  by_cases q : x = y
  · subst q; exact ze4
  · rw [zdF q]
    exact ih ((List.mem_cons.mp h).resolve_left q)
noncomputable def zun (dr : DefRec) (kd : NameKind) : List Str := (dr.scope.names.filter fun x => x.2 == kd).map (·.1)
theorem zvm {dr : DefRec} {kd : NameKind} (hn : (dr.scope.names.map (·.1)).Nodup) : ∀ x ∈ zun dr kd, dr.scope.names.lookup x = some kd := fun x hx => by
 obtain ⟨y, hy, rfl⟩ := List.mem_map.mp hx
 have hy' := List.mem_filter.mp hy
 have : y.2 = kd := eq_of_beq hy'.2
 exact zp5 hn (this ▸ hy'.1)
theorem zsd {dr : DefRec} {kd : NameKind} (hn : (dr.scope.names.map (·.1)).Nodup) : (zun dr kd).Nodup := hn.sublist (List.Sublist.map _ List.filter_sublist)
theorem nsOf_m {dr : DefRec} {kd : NameKind} {x : Str} (h : dr.scope.names.lookup x = some kd) : x ∈ zun dr kd := List.mem_map.mpr ⟨(x, kd), List.mem_filter.mpr ⟨mem_of_lookup h, beq_self_eq_true _⟩, rfl⟩
theorem zpp {dr : DefRec} {kd : NameKind} {z : List (Str × V)} : zds dr.scope.names kd z = (zun dr kd).map fun x => (x, z.lookup x) := by
 unfold zds zun
 rw [List.map_map]
 rfl
inductive ZAt (fz : Fz) (x0 : Str) (V₀ : V) (X0 : Own) (b : List (Str × Value)) (x : Str) (W : V) : Prop
 | mk (u : Value) (X : Own) (m : (x, u) ∈ b) (k : VR fz W u X) (e : X = [] ∨ (x = x0 ∧ X = X0)) (f : x ≠ x0 → ∃ d, W = .f d) (g : x = x0 → W = V₀) : ZAt fz x0 V₀ X0 b x W
theorem z_at {fz : Fz} {x0 : Str} {xs : List Str} {V₀ : V} {ds : List D} {v : Value} {vs : List Value} {X0 : Own} (hv : VR fz V₀ v X0) (hvs : KnL fz vs ds) {x : Str} {W : V} (hz : ((x0 :: xs).zip (V₀ :: ds.map .f)).lookup x = some W) : ZAt fz x0 V₀ X0 ((x0 :: xs).zip (v :: vs)) x W := by
 rw [List.zip_cons_cons] at hz
 by_cases q : x = x0
 · subst q
   rw [ze4] at hz
   cases hz
   exact ⟨v, X0, .head _, hv, .inr ⟨rfl, rfl⟩, fun h => absurd rfl h, fun _ => rfl⟩
 · rw [zdF q] at hz
   obtain ⟨j, u, a1, a2, a3, a4⟩ := zid (vs := vs) hz ((List.length_map _).trans hvs.length.symm)
   rw [List.getElem?_map] at a2
   obtain ⟨dd, e1, rfl⟩ := Option.map_eq_some_iff.mp a2
   exact ⟨u, [], .tail _ a4, VR.of (hvs.nth j a3 e1), .inl rfl, fun _ => ⟨dd, rfl⟩, fun h => absurd h q⟩
inductive Left (mg : Str → Option Value) (mb : Bx) (own : Own) (C : Cfg) (x0 : Str) (σ' : St) (v : Value) (fz : Fz) (h : Heap) : Prop
 | mk (L : Addr) (l : List (Str × Value)) (X1 : Own) (H : At mg mb L l (X1 ++ own) fz h) (k : ∀ W, C.pins = [x0] → zfu x0 σ'.r = some W → VR fz W v X1) : Left mg mb own C x0 σ' v fz h
theorem zse {env : Env} {cm : List (Str × Addr)} {pn : List (Str × Value)} {σ' : St} {own : Own} {fz : Fz} {s : Shared} {x0 : Str} {v : Value} (S : Sim mg mb env cm pn σ' own fz s) (hpn : C.pins = [x0] → (x0, v) ∈ pn) : Rs mb s ∧ Left mg mb own C x0 σ' v fz s.heap := by
 cases S with | mk rs nd l2 Y2 Z2 H2 hS hC hp =>
 refine ⟨rs, ?_⟩
 cases q : zfu x0 σ'.r with
 | none => exact ⟨_, l2, [], H2.lo (own' := own) (by (intro p_; simp only [zaa, zac, zai]; exact yib)), fun W _ h => by rw [q] at h; cases h⟩
 | some W =>
  cases hS.rm q with | mk v1 X1 Y' m1 m2 m3 =>
  refine ⟨_, l2, X1, H2.lo (own' := X1 ++ own) (fun p => by have := m3 p; simp only [zaa]; exact yia this), fun W' hpi h => ?_⟩
  rw [q] at h
  cases h
  exact H2.same_local m1 (hp _ (hpn hpi)) ▸ m2
theorem zlR (hT : TOk prog w mg mb k C) (zjG : ∀ f, IsRec f → (f == ("__debug__" : Str)) = false) {i n : Nat} {dr : DefRec} (hi : zbp i = some dr) (ok : DefOk dr) {x0 : Str} {xs : List Str} (hps : dr.params.args.map (·.arg) = x0 :: xs)
 {V₀ : V} {ds : List D} {d : D} {σ' : St} (hlen : ds.length = xs.length) (hrun : run C n dr (V₀ :: ds.map .f) = some (d, σ')) (h0 : (∃ d0, V₀ = .f d0) ∨ dr.scope.names.lookup x0 = some .local) (hpins : ∀ p ∈ C.pins, p = x0) (hp0 : C.pins = [] ∨ dr.scope.names.lookup x0 = some .local)
 {A : Around} {own X0 : Own} {fz : Fz} {s : Shared} {v : Value} {vs : List Value} {a : Addr}
 (hA : Ok (k + 1) A) (ha : mg dr.name = some (.ref a)) (rs : Rs mb s) (cx : Cx mg mb s.heap)
 (ent : ∀ (L' : Addr) (l' : List (Str × Value)) (m' : Str → Option Value) (Z0 : Own) (h' : Heap), Le s.heap h' → s.heap.get? L' = none → h'.Ns L' m' → (∀ p ∈ l', m' p.1 = some p.2) →
   (∀ p ∈ Z0, h'.get? p.1 = some p.2 ∧ s.heap.get? p.1 = none ∧ p.1 ≠ L') → (Z0.map (·.1)).Nodup → At mg mb L' l' (Z0 ++ (X0 ++ own)) fz h')
 (hv : VR fz V₀ v X0) (hvs : KnL fz vs ds) :
 wpAny (model prog w) A (call (.ref a) (v :: vs)) (fun r s' => ∃ fz', Sb fz fz' ∧ Kn fz' r d ∧ Rs mb s' ∧ Left mg mb own C x0 σ' v fz' s'.heap) NoE s := by
 obtain ⟨a', o, pm, code, doc, h1, h2, h3, h4⟩ := cx.fn i dr hi
 rw [ha] at h1; cases h1
 have hvl := hvs.length
 have hlb : (x0 :: xs).length = (v :: vs).length := by rw [List.length_cons, List.length_cons, hvl, hlen]
 have bl : ((x0 :: xs).zip (v :: vs)).map (·.1) = x0 :: xs := List.map_fst_zip (Nat.le_of_eq hlb)
 have hnd : (x0 :: xs).Nodup := hps ▸ ok.params
 have bnd : (((x0 :: xs).zip (v :: vs)).map (·.1)).Nodup := by rw [bl]; exact hnd
 have kinds : ∀ x ∈ (x0 :: xs), dr.scope.names.lookup x = some .local ∨ dr.scope.names.lookup x = some .cell := hps ▸ ok.kinds
 have cellHas : ∀ {x n}, dr.scope.names.lookup x = some .cell → ∃ c, (cellsFrom n dr.scope.names []).lookup x = some c := fun h => zkF _ _ _ (.inl (mem_of_lookup h))
 refine wpAny_call (call_cells_ret (binds := (x0 :: xs).zip (v :: vs)) hA.room h2 h3 cx.nolimit h4 ?_ ?_ (fun h₁ tk F X => ?_) ok.co ok.gen ok.kind)
 · rw [ok.bind _ _ _ _ (by rw [← hlb, ← hps, List.length_map]), hps]
 · intro x hx
   have : x.1 ∈ x0 :: xs := by rw [← bl]; exact List.mem_map.mpr ⟨x, hx, rfl⟩
   rcases kinds _ this with h | h
   · exact .inl h
   · obtain ⟨c, hc⟩ := cellHas (n := s.heap.objs.size + 1) h
     exact .inr ⟨h, by rw [hc]; rfl⟩
 generalize hb : (x0 :: xs).zip (v :: vs) = b at bl bnd F X
 obtain ⟨z, hz⟩ : ∃ z : Str → Option V, ∀ x, ((x0 :: xs).zip (V₀ :: ds.map .f)).lookup x = z x := ⟨_, fun _ => rfl⟩
 have zl : ∀ x W, z x = some W → ZAt fz x0 V₀ X0 b x W := fun x W h => hb ▸ z_at hv hvs ((hz x).trans h)
 have zn : ∀ x, z x = none → x ∉ b.map (·.1) := fun x h => hb ▸ zie (vs := v :: vs) ((hz x).trans h) (by rw [List.length_cons, List.length_cons, List.length_map, hvl])
 have hfst : dr.scope.names.lookup x0 = some .local → (x0, v) ∈ b.filter fun p => decide (dr.scope.names.lookup p.1 = some .local) := fun h => List.mem_filter.mpr ⟨hb ▸ .head _, decide_eq_true h⟩
 unfold run at hrun
 rw [hps] at hrun
 dsimp only at hrun
 rw [zpp, zpp] at hrun
 simp only [hz] at hrun
 clear hz
 have nsk := zvm (kd := .cell) ok.names
 have nlk := zvm (kd := .local) ok.names
 have nsnd := zsd (kd := .cell) ok.names
 have nlnd := zsd (kd := .local) ok.names
 have hcm : ∀ {x}, dr.scope.names.lookup x = some .cell → x ∈ zun dr .cell := nsOf_m
 obtain ⟨ad, adk⟩ : ∃ ad : Str → Addr, ∀ x ∈ zun dr .cell, (cellsFrom (s.heap.objs.size + 1) dr.scope.names []).lookup x = some (ad x) := ⟨fun x => ((cellsFrom (s.heap.objs.size + 1) dr.scope.names []).lookup x).getD 0, fun x hx => by
  obtain ⟨c, hc⟩ := cellHas (n := s.heap.objs.size + 1) (nsk x hx)
  dsimp only
  rw [hc]; rfl⟩
 generalize zun dr .cell = ns at nsk nsnd hcm adk hrun
 generalize zun dr .local = nl at nlk nlnd hrun
 clear kinds cellHas
 obtain ⟨Z0, c1, c2, c3⟩ := zp6 (fz := fz) X z ad ns fun x hx => ⟨adk x hx, fun W hz => by
  cases zl x W hz with | mk u X' m1 m2 m3 m4 m5 =>
  have hW : ∃ d, W = .f d := by
   by_cases q : x = x0
   · rcases h0 with ⟨d0, h0⟩ | h0
     · exact ⟨d0, (m5 q).trans h0⟩
     · rw [← q, nsk x hx] at h0; cases h0
   · exact m4 q
  obtain ⟨dd, rfl⟩ := hW
  exact ⟨u, dd, rfl, m2.1, zum (fun q => by rw [show (envOfC dr.name dr.scope s.heap.objs.size a code).kindOf x = dr.scope.names.lookup x from rfl, nsk x hx] at q; cases q) _ _ bnd m1⟩, fun hz => zlP _ _ (zn x hz)⟩
 have hl' : ∀ p ∈ b.filter fun p => decide (dr.scope.names.lookup p.1 = some .local), bindL (envOfC dr.name dr.scope s.heap.objs.size a code).kindOf b (fun _ => none) p.1 = some p.2 := fun p hp => by
  obtain ⟨h1, h2⟩ := List.mem_filter.mp hp
  exact zul (of_decide_eq_true h2 : dr.scope.names.lookup p.1 = some .local) _ _ bnd h1
 obtain ⟨Y, s1, s2, s3⟩ := znA (fz := fz) (l := b.filter fun p => decide (dr.scope.names.lookup p.1 = some .local)) z x0 X0 nl nlnd fun x hx W hz => by
  cases zl x W hz with | mk u X' m1 m2 m3 m4 m5 =>
  exact ⟨u, X', List.mem_filter.mpr ⟨m1, decide_eq_true (nlk x hx)⟩, m2, m3⟩
 generalize (b.filter fun p => decide (dr.scope.names.lookup p.1 = some .local)) = l' at hl' s1 hfst
 have H1 := ent s.heap.objs.size l' _ Z0 h₁ F.keep zcR F.ns hl' (fun p hp => by
  have hm : p.1 ∈ ns.map ad := by rw [← c2]; exact List.mem_map.mpr ⟨p, hp, rfl⟩
  obtain ⟨x, hx, e⟩ := List.mem_map.mp hm
  have hab := X.above x _ (mem_of_lookup (adk x hx))
  rw [e] at hab
  refine ⟨c3 p hp, ?_, Nat.ne_of_gt hab⟩
  cases q : s.heap.get? p.1 with
  | none => rfl
  | some o => exact absurd (Heap.lt_size q) (Nat.not_lt.mpr (Nat.le_of_lt hab))) (by
  rw [c2]
  exact zlQ nsnd fun x hx y hy e => name_of_addr X.apart (mem_of_lookup (adk x hx)) (e ▸ mem_of_lookup (adk y hy)))
 have EO : EnvOk dr.scope (envOfC dr.name dr.scope s.heap.objs.size a code) (ns.map fun x => (x, ad x)) := ⟨rfl, ok.kind, rfl, rfl, fun x hx => by
  rw [znB (hcm hx)]
  exact adk x (hcm hx)⟩
 have S0 : Sim mg mb (envOfC dr.name dr.scope s.heap.objs.size a code) (ns.map fun x => (x, ad x)) (C.pins.map fun _ => (x0, v)) ⟨nl.map fun x => (x, z x), ns.map fun x => (x, z x)⟩ own fz { s with heap := h₁, toks := tk } := by
  refine ⟨rs, ?_, l', Y, Z0, H1.lo (fun p => ?_), s1, c1, fun p hp => ?_⟩
  · rw [List.map_map, show ((fun x => x.1) ∘ fun x => (x, z x)) = (id : Str → Str) from rfl, List.map_id]
    exact nlnd
  · have : cnt p Y ≤ cnt p X0 := by
     by_cases q : x0 ∈ nl
     · exact s2 q p
     · rw [s3 q]; exact Nat.zero_le _
    simp only [zaa]
    exact yh9 this
  · obtain ⟨q, hq, rfl⟩ := List.mem_map.mp hp
    rcases hp0 with h | h
    · rw [h] at hq; cases hq
    · exact hfst h
 clear H1 hl' s1 s2 s3 c1 c2 c3 hcm adk zl zn X F hfst
 refine znj hrun fun f σ2 r1 r2 => wpAny_mono ((zuk hT zjG n).s _ _ _ _ _ r1 (A.deeper _) _ _ _ _ fz { s with heap := h₁, toks := tk } (hA.deeper _) EO (fun p hp => by
  obtain ⟨q, hq, rfl⟩ := List.mem_map.mp hp
  exact hpins q hq ▸ hq) S0) (fun g s2 hg => ?_) fun _ _ x => x
 have hpi : C.pins = [x0] → (x0, v) ∈ C.pins.map fun _ => (x0, v) := fun h => by rw [h]; exact .head _
 cases f with
 | next =>
  obtain ⟨rfl, fz', sb, S⟩ := hg
  cases r2
  exact ⟨fz', sb, .none, zse S hpi⟩
 | ret d' =>
  obtain ⟨r, rfl, fz', sb, kn, S⟩ := hg
  cases r2
  exact ⟨fz', sb, kn, zse S hpi⟩
theorem enter (hT : TOk prog w mg mb k C) (zjG : ∀ f, IsRec f → (f == ("__debug__" : Str)) = false) {i n : Nat} {dr : DefRec} (hi : zbp i = some dr) (ok : DefOk dr) {x0 : Str} {xs : List Str} (hps : dr.params.args.map (·.arg) = x0 :: xs)
 {V₀ : V} {ds : List D} {d : D} {σ' : St} (hlen : ds.length = xs.length) (hrun : run C n dr (V₀ :: ds.map .f) = some (d, σ')) (h0 : (∃ d0, V₀ = .f d0) ∨ dr.scope.names.lookup x0 = some .local) (hpins : ∀ p ∈ C.pins, p = x0) (hp0 : C.pins = [] ∨ dr.scope.names.lookup x0 = some .local)
 {A : Around} {L : Addr} {l : List (Str × Value)} {own X0 : Own} {fz : Fz} {s : Shared} {v : Value} {vs : List Value} {a : Addr}
 (hA : Ok (k + 1) A) (ha : mg dr.name = some (.ref a)) (rs : Rs mb s) (H : At mg mb L l (X0 ++ own) fz s.heap) (hv : VR fz V₀ v X0) (hvs : KnL fz vs ds) :
 wpAny (model prog w) A (call (.ref a) (v :: vs)) (fun r s' => ∃ fz', Sb fz fz' ∧ Kn fz' r d ∧ Rs mb s' ∧ (∃ X1, At mg mb L l (X1 ++ own) fz' s'.heap ∧
  (∀ W, C.pins = [x0] → zfu x0 σ'.r = some W → VR fz' W v X1))) NoE s := by
 obtain ⟨oL, N, en⟩ := H.enter
 refine wpAny_mono (zlR (own := (L, oL) :: own) hT zjG hi ok hps hlen hrun h0 hpins hp0 hA ha rs H.cx (fun L' l' m' Z0 h' a1 a2 a3 a4 a5 a6 => (en L' l' m' Z0 h' a1 a2 a3 a4 a5 a6).lo (by (intro p_; simp only [zaa, zac, zai]; exact yh8))) hv hvs) (fun r s' h => ?_) fun _ _ x => x
 obtain ⟨fz', sb, kn, rs', L', l', X1, H1, hW⟩ := h
 exact ⟨fz', sb, kn, rs', X1, At.resume (H1.lo (own' := (L, oL) :: (X1 ++ own)) (by (intro p_; simp only [zaa, zac, zai]; exact yh7))) .hd N, hW⟩
theorem zsf (hT : TOk prog w mg mb k C) (zjG : ∀ f, IsRec f → (f == ("__debug__" : Str)) = false) (hpin : C.pins = []) {i n : Nat} {dr : DefRec} (hi : zbp i = some dr) (ok : DefOk dr) {ds : List D} {d : D} {σ' : St} (hne : dr.params.args ≠ []) (hlen : ds.length = dr.params.args.length)
 (hrun : run C n dr (ds.map .f) = some (d, σ')) : SpecP prog w mg mb (k + 1) dr.name ds d := by
 refine ⟨⟨i, dr, hi, rfl⟩, fun A L l own fz s vs a hA ha rs H hvs => ?_⟩
 cases hps : dr.params.args.map (·.arg) with
 | nil => simp at hps; exact absurd hps hne
 | cons x0 xs =>
  have hl : dr.params.args.length = xs.length + 1 := by rw [← List.length_map (f := (·.arg)), hps]; rfl
  cases hvs with
  | nil => simp at hlen; exact (yh6 hl hlen).elim
  | cons hv hvs =>
   refine wpAny_mono (enter (X0 := []) hT zjG hi ok hps (V₀ := .f _) (by simp at hlen; exact ybE hl hlen) hrun (.inl ⟨_, rfl⟩) (fun p hp => by rw [hpin] at hp; cases hp) (.inl hpin) hA ha rs H (VR.of hv) hvs) (fun r s' h => ?_) fun _ _ x => x
   obtain ⟨fz', sb, kn, rs1, X1, H1, _⟩ := h
   exact ⟨fz', sb, kn, rs1, H1.lo (by (intro p_; simp only [zaa, zac, zai]; exact yh5))⟩
theorem zuo (hT : TOk prog w mg mb k C) (zjG : ∀ f, IsRec f → (f == ("__debug__" : Str)) = false) {i n : Nat} {dr : DefRec} (hi : zbp i = some dr) (ok : DefOk dr) {x0 : Str} {xs : List Str} (hps : dr.params.args.map (·.arg) = x0 :: xs) (hpin : C.pins = [x0]) (hloc : dr.scope.names.lookup x0 = some .local)
 {V₀ V₁ : V} {ds : List D} {d : D} {σ' : St} (hlen : ds.length = xs.length) (hrun : run C n dr (V₀ :: ds.map .f) = some (d, σ')) (hend : zfu x0 σ'.r = some V₁) : SpecR prog w mg mb (k + 1) dr.name V₀ ds d V₁ := by
 refine ⟨⟨i, dr, hi, rfl⟩, fun A L l own fz s v X vs a hA ha rs H hv hvs => ?_⟩
 refine wpAny_mono (enter hT zjG hi ok hps hlen hrun (.inr hloc) (fun p hp => by rw [hpin] at hp; simpa using hp) (.inr hloc) hA ha rs H hv hvs) (fun r s' h => ?_) fun _ _ x => x
 obtain ⟨fz', sb, kn, rs1, X1, H1, hW⟩ := h
 exact ⟨fz', X1, sb, kn, hW _ hpin hend, rs1, H1⟩
end
noncomputable def recs : List DefRec := (List.range 27).filterMap zbp
theorem zpq : PySem.Challenge.pw_xm0116_01.main.body.length = 27 := by rfl
theorem recs_len : recs.length = 21 := by decide +kernel
theorem zup : recs.all (fun d => !(d.name == ("__debug__" : Str))) = true := by decide +kernel
theorem znC {i : Nat} {d : DefRec} (h : zbp i = some d) : d ∈ recs := by
 refine List.mem_filterMap.mpr ⟨i, List.mem_range.mpr ?_, h⟩
 rcases Nat.lt_or_ge i 27 with q | q
 · exact q
 · unfold zbp at h
   rw [List.getElem?_eq_none (by rw [zpq]; exact q)] at h
   cases h
theorem zjG : ∀ f, IsRec f → (f == ("__debug__" : Str)) = false := by
 rintro f ⟨i, d, h, rfl⟩
 have := List.all_eq_true.mp zup d (znC h)
 simpa using this
noncomputable def chk (d : DefRec) : Bool :=
 d.scope.kind = .function && !d.scope.isCoroutine && !d.scope.isGenerator && decide ((d.scope.names.map (·.1)).Nodup) && decide ((d.params.args.map (·.arg)).Nodup) &&
  (d.params.args.map (·.arg)).all (fun x => d.scope.names.lookup x = some .local || d.scope.names.lookup x = some .cell) && !d.params.args.isEmpty
theorem zv6 : recs.all chk = true := by decide +kernel
theorem l_1 {α : Type} {l : List α} (h : l.length = 1) : ∃ a, l = [a] := List.length_eq_one_iff.mp h
theorem l_2 {α : Type} {l : List α} (h : l.length = 2) : ∃ a b, l = [a, b] := by
 cases l with
 | nil => cases h
 | cons a l => obtain ⟨b, rfl⟩ := l_1 (Nat.succ.inj h); exact ⟨a, b, rfl⟩
theorem l_3 {α : Type} {l : List α} (h : l.length = 3) : ∃ a b c, l = [a, b, c] := by
 cases l with
 | nil => cases h
 | cons a l => obtain ⟨b, c, rfl⟩ := l_2 (Nat.succ.inj h); exact ⟨a, b, c, rfl⟩
theorem l_4 {α : Type} {l : List α} (h : l.length = 4) : ∃ a b c d, l = [a, b, c, d] := by
 cases l with
 | nil => cases h
 | cons a l => obtain ⟨b, c, d, rfl⟩ := l_3 (Nat.succ.inj h); exact ⟨a, b, c, d, rfl⟩
noncomputable def Bnd (d : DefRec) : Prop := ∀ pm code doc args, args.length = d.params.args.length → bindArgs (docDef d.name d.params d.body d.scope pm code doc) ⟨args, []⟩ = pure ((d.params.args.map (·.arg)).zip args)
theorem bind0 : ∀ d, zbp 0 = some d → Bnd d := fun d h => by cases h
theorem bind1 : ∀ d, zbp 1 = some d → Bnd d := fun d h => by
 cases h
 intro pm code doc args h
 obtain ⟨a, rfl⟩ := l_1 h
 rfl
theorem bind2 : ∀ d, zbp 2 = some d → Bnd d := fun d h => by
 cases h
 intro pm code doc args h
 obtain ⟨a, b, rfl⟩ := l_2 h
 rfl
theorem bind3 : ∀ d, zbp 3 = some d → Bnd d := fun d h => by
 cases h
 intro pm code doc args h
 obtain ⟨a, rfl⟩ := l_1 h
 rfl
theorem bind4 : ∀ d, zbp 4 = some d → Bnd d := fun d h => by
 cases h
 intro pm code doc args h
 obtain ⟨a, b, rfl⟩ := l_2 h
 rfl
theorem bind5 : ∀ d, zbp 5 = some d → Bnd d := fun d h => by
 cases h
 intro pm code doc args h
 obtain ⟨a, b, rfl⟩ := l_2 h
 rfl
theorem bind6 : ∀ d, zbp 6 = some d → Bnd d := fun d h => by
 cases h
 intro pm code doc args h
 obtain ⟨a, b, rfl⟩ := l_2 h
 rfl
theorem bind7 : ∀ d, zbp 7 = some d → Bnd d := fun d h => by
 cases h
 intro pm code doc args h
 obtain ⟨a, b, rfl⟩ := l_2 h
 rfl
theorem bind8 : ∀ d, zbp 8 = some d → Bnd d := fun d h => by
 cases h
 intro pm code doc args h
 obtain ⟨a, b, rfl⟩ := l_2 h
 rfl
theorem bind9 : ∀ d, zbp 9 = some d → Bnd d := fun d h => by
 cases h
 intro pm code doc args h
 obtain ⟨a, b, rfl⟩ := l_2 h
 rfl
theorem bind10 : ∀ d, zbp 10 = some d → Bnd d := fun d h => by cases h
theorem bind11 : ∀ d, zbp 11 = some d → Bnd d := fun d h => by cases h
theorem bind12 : ∀ d, zbp 12 = some d → Bnd d := fun d h => by cases h
theorem bind13 : ∀ d, zbp 13 = some d → Bnd d := fun d h => by
 cases h
 intro pm code doc args h
 obtain ⟨a, b, rfl⟩ := l_2 h
 rfl
theorem bind14 : ∀ d, zbp 14 = some d → Bnd d := fun d h => by
 cases h
 intro pm code doc args h
 obtain ⟨a, b, c, rfl⟩ := l_3 h
 rfl
theorem bind15 : ∀ d, zbp 15 = some d → Bnd d := fun d h => by
 cases h
 intro pm code doc args h
 obtain ⟨a, rfl⟩ := l_1 h
 rfl
theorem bind16 : ∀ d, zbp 16 = some d → Bnd d := fun d h => by cases h
theorem bind17 : ∀ d, zbp 17 = some d → Bnd d := fun d h => by
 cases h
 intro pm code doc args h
 obtain ⟨a, rfl⟩ := l_1 h
 rfl
theorem bind18 : ∀ d, zbp 18 = some d → Bnd d := fun d h => by
 cases h
 intro pm code doc args h
 obtain ⟨a, b, rfl⟩ := l_2 h
 rfl
theorem bind19 : ∀ d, zbp 19 = some d → Bnd d := fun d h => by cases h
theorem bind20 : ∀ d, zbp 20 = some d → Bnd d := fun d h => by
 cases h
 intro pm code doc args h
 obtain ⟨a, b, rfl⟩ := l_2 h
 rfl
theorem bind21 : ∀ d, zbp 21 = some d → Bnd d := fun d h => by
 cases h
 intro pm code doc args h
 obtain ⟨a, rfl⟩ := l_1 h
 rfl
theorem bind22 : ∀ d, zbp 22 = some d → Bnd d := fun d h => by
 cases h
 intro pm code doc args h
 obtain ⟨a, b, rfl⟩ := l_2 h
 rfl
theorem bind23 : ∀ d, zbp 23 = some d → Bnd d := fun d h => by
 cases h
 intro pm code doc args h
 obtain ⟨a, b, c, d, rfl⟩ := l_4 h
 rfl
theorem bind24 : ∀ d, zbp 24 = some d → Bnd d := fun d h => by
 cases h
 intro pm code doc args h
 obtain ⟨a, rfl⟩ := l_1 h
 rfl
theorem bind25 : ∀ d, zbp 25 = some d → Bnd d := fun d h => by
 cases h
 intro pm code doc args h
 obtain ⟨a, b, rfl⟩ := l_2 h
 rfl
theorem bind26 : ∀ d, zbp 26 = some d → Bnd d := fun d h => by
 cases h
 intro pm code doc args h
 obtain ⟨a, rfl⟩ := l_1 h
 rfl
theorem zuq {i : Nat} {d : DefRec} (h : zbp i = some d) : Bnd d := by
 have hi : i < 27 := by
  rcases Nat.lt_or_ge i 27 with q | q
  · exact q
  · unfold zbp at h
    rw [List.getElem?_eq_none (by rw [zpq]; exact q)] at h
    cases h
 have all : ∀ i, i < 27 → ∀ d, zbp i = some d → Bnd d := by
  have go : ∀ (ps : List Nat) (_ : ∀ i ∈ ps, ∀ d, zbp i = some d → Bnd d) (i : Nat), i ∈ ps → ∀ d, zbp i = some d → Bnd d := fun _ h i hi => h i hi
  intro i hi
  refine go (List.range 27) ?_ i (List.mem_range.mpr hi)
  show ∀ i ∈ [0, 1, 2, 3, 4, 5, 6, 7, 8, 9, 10, 11, 12, 13, 14, 15, 16, 17, 18, 19, 20, 21, 22, 23, 24, 25, 26], _
  simp only [List.forall_mem_cons, List.not_mem_nil, false_imp_iff, implies_true, and_true]
  exact ⟨bind0, bind1, bind2, bind3, bind4, bind5, bind6, bind7, bind8, bind9, bind10, bind11, bind12, bind13, bind14, bind15, bind16, bind17, bind18, bind19, bind20, bind21, bind22, bind23, bind24, bind25, bind26⟩
 exact all i hi d h
theorem zpr {i : Nat} {d : DefRec} (h : zbp i = some d) : DefOk d ∧ d.params.args ≠ [] := by
 have c := List.all_eq_true.mp zv6 d (znC h)
 unfold chk at c
 simp only [Bool.and_eq_true, Bool.or_eq_true, decide_eq_true_eq, Bool.not_eq_true', List.all_eq_true] at c
 obtain ⟨⟨⟨⟨⟨⟨c1, c2⟩, c3⟩, c4⟩, c5⟩, c6⟩, c7⟩ := c
 exact ⟨⟨c1, c2, c3, zuq h, c4, c5, c6⟩, by cases e : d.params.args with | nil => rw [e] at c7; cases c7 | cons => simp⟩
noncomputable def zap (f : Str) : Option DefRec := recs.find? fun d => d.name == f
theorem zjZ {f : Str} {d : DefRec} (h : zap f = some d) : (∃ i, zbp i = some d) ∧ d.name = f := by
 have h1 := List.mem_of_find?_eq_some h
 have h2 := List.find?_some h
 obtain ⟨i, _, hi⟩ := List.mem_filterMap.mp h1
 exact ⟨⟨i, hi⟩, by simpa using h2⟩
noncomputable abbrev refs : List Str := ["_law_draw", "pivot_row", "bareiss_step"]
noncomputable def par0 (d : DefRec) : Option Str := (d.params.args.map (·.arg)).head?
noncomputable def tab : Nat → (Str → List D → Option D) × (Str → V → List D → Option (D × V))
 | 0 => (fun _ _ => none, fun _ _ _ => none)
 | n + 1 =>
  (fun f ds => (zap f).bind fun d => if ds.length = d.params.args.length then (run ⟨(tab n).1, (tab n).2, refs, [], 1000⟩ 60 d (ds.map .f)).map (·.1) else none,
   fun f v ds => (zap f).bind fun d => (par0 d).bind fun x => if ds.length + 1 = d.params.args.length ∧ d.scope.names.lookup x = some .local then
    (run ⟨(tab n).1, (tab n).2, refs, [x], 1000⟩ 60 d (v :: ds.map .f)).bind fun r => (zfu x r.2.r).map fun v => (r.1, v) else none)
noncomputable abbrev cfg (n : Nat) (pins : List Str) : Cfg := ⟨(tab n).1, (tab n).2, refs, pins, 1000⟩
theorem tab_ok {prog : Program} {w : World} {mg : Str → Option Value} {mb : Bx} (n : Nat) : ∀ pins, TOk prog w mg mb n (cfg n pins) := by
 induction n with
 | zero => exact fun _ => ⟨fun f ds d h => zaM h, fun f V ds d V' h => zaM h⟩
 | succ n ih =>
  refine fun _ => ⟨fun f ds d h => zaE h fun dr h1 h2 => zcB h2 fun hl h2 => znj h2 fun d' σ' h3 h4 => ?_, fun f V ds d V' h => zaE h fun dr h1 h2 => zaE h2 fun x h3 h4 => zcB h4 fun hl h4 => zbn h4 fun d' σ' h5 h6 => zft h6 fun V1 h7 h8 => ?_⟩
  · obtain ⟨⟨i, hi⟩, rfl⟩ := zjZ h1
    cases h4
    exact zsf (C := cfg n []) (ih []) zjG rfl hi (zpr hi).1 (zpr hi).2 hl h3
  · obtain ⟨⟨i, hi⟩, rfl⟩ := zjZ h1
    cases h8
    unfold par0 at h3
    cases hps : dr.params.args.map (·.arg) with
    | nil => rw [hps] at h3; exact zaM h3
    | cons x0 xs =>
     rw [hps] at h3
     cases h3
     exact zuo (C := cfg n [x]) (ih [x]) zjG hi (zpr hi).1 hps rfl hl.2 (Nat.succ.inj (hl.1.trans (by rw [← List.length_map (f := (·.arg)), hps]; rfl))) h5 h7
@[irreducible] noncomputable def ER (C : Cfg) (n : Nat) : Rec := sem C n
theorem zv7 {C : Cfg} {i : Nat} : (ER C (i + 1)).p = zvL (ER C i) := by unfold ER; rfl
theorem zps {C : Cfg} {i : Nat} : (ER C (i + 1)).q = zvK (ER C i) := by unfold ER; rfl
theorem zsg {C : Cfg} {i : Nat} : (ER C (i + 1)).e = zdM C (ER C i) := by unfold ER; rfl
theorem er_t {C : Cfg} {i : Nat} : (ER C (i + 1)).t = zvM (ER C i) := by unfold ER; rfl
theorem er_s {C : Cfg} {i : Nat} : (ER C (i + 1)).s = za6 C (ER C i) := by unfold ER; rfl
section
variable {C : Cfg} {R : Rec} {i n : Nat} {sc : Scope} {σ : St} {l r x y z e : Expr} {op : Operator} {p gp sp : Pos} {k : Nat} {g nm : Str} {es : List Expr}
theorem q_c {c : Const} : (ER C (i + 1)).q (.Constant c k p) = true := by rw [zps]; rfl
theorem q_n : (ER C (i + 1)).q (.Name nm p) = true := by rw [zps]; rfl
theorem q_b : (ER C (i + 1)).q (.BinOp l op r p) = ((ER C i).q l && (ER C i).q r) := by rw [zps]; rfl
theorem q_u {op : UnaryOp} : (ER C (i + 1)).q (.UnaryOp op x p) = (ER C i).q x := by rw [zps]; rfl
theorem q_s : (ER C (i + 1)).q (.Subscript x y p) = ((ER C i).q x && (ER C i).q y) := by rw [zps]; rfl
theorem za7 : (ER C (i + 1)).q (.Call (.Name g gp) [x] [] p) = (decide (g = "len") && (ER C i).q x) := by rw [zps]; rfl
theorem zif {kws : List Keyword} : (ER C (i + 1)).q (.Call (.Name g gp) (x :: y :: es) kws p) = false := by rw [zps]; cases kws <;> rfl
theorem q_cmp {ops : List CmpOp} : (ER C (i + 1)).q (.Compare l ops es p) = false := by rw [zps]; rfl
theorem q_if : (ER C (i + 1)).q (.IfExp x y z p) = false := by rw [zps]; rfl
theorem zew : (ER C (i + 1)).q (.List es p) = false := by rw [zps]; rfl
theorem q_tup : (ER C (i + 1)).q (.Tuple es k p) = false := by rw [zps]; rfl
theorem zvn {gs : List Comprehension} {s : Scope} : (ER C (i + 1)).q (.ListComp e gs s p) = false := by rw [zps]; rfl
theorem zsh {a b c : Option Expr} : (ER C (i + 1)).q (.Slice a b c p) = false := by rw [zps]; rfl
noncomputable def pInt : Option Int → Option V
 | some c => some (.f (.int c))
 | none => none
noncomputable def pBin (op : Operator) (a b : Option V) : Option V := a.bind fun a => a.int.bind fun a => b.bind fun b => b.int.bind fun b => (zbh op a b).map fun c => .f (.int c)
noncomputable def pNeg (a : Option V) : Option V := a.bind fun a => a.int.map fun a => .f (.int (-a))
noncomputable def zpt (a b : Option V) : Option V := a.bind fun a => b.bind fun k => k.int.bind fun k => a.item k
noncomputable def pLen (a : Option V) : Option V := a.bind fun a => a.len.map fun n => .f (.int n)
noncomputable def pF (d : Option D) : Option V := d.map .f
theorem p_c {c : Int} : (ER C (i + 1)).p sc (.Constant (.int c) k p) σ = some (.f (.int c)) := by rw [zv7]; rfl
theorem p_cn : (ER C (i + 1)).p sc (.Constant .none k p) σ = some (.f .none) := by rw [zv7]; rfl
theorem p_n (h : (nm == ("__debug__" : Str)) = false) : (ER C (i + 1)).p sc (.Name nm p) σ = σ.get sc nm := by
 rw [zv7]
 show (if nm == "__debug__" then none else σ.get sc nm) = _
 rw [h]; rfl
theorem p_b : (ER C (i + 1)).p sc (.BinOp l op r p) σ = pBin op ((ER C i).p sc l σ) ((ER C i).p sc r σ) := by rw [zv7]; rfl
theorem p_u : (ER C (i + 1)).p sc (.UnaryOp .USub x p) σ = pNeg ((ER C i).p sc x σ) := by rw [zv7]; rfl
theorem p_s : (ER C (i + 1)).p sc (.Subscript x y p) σ = zpt ((ER C i).p sc x σ) ((ER C i).p sc y σ) := by rw [zv7]; rfl
theorem zbK (h : zar sc "len" = true) : (ER C (i + 1)).p sc (.Call (.Name (Str.ofString "len") gp) [x] [] p) σ = pLen ((ER C i).p sc x σ) := by
 rw [zv7]
 show (if ("len" : Str) = "len" ∧ zar sc "len" then _ else none) = _
 rw [if_pos ⟨rfl, h⟩]; rfl
theorem za3 {a b : Int} : pBin op (some (.f (.int a))) (some (.f (.int b))) = pInt (zbh op a b) := by
 show (zbh op a b).map _ = _
 cases zbh op a b <;> rfl
theorem za4 {c : Int} : pInt (some c) = some (.f (.int c)) := rfl
theorem zeh {a : Int} : pNeg (some (.f (.int a))) = some (.f (.int (-a))) := rfl
theorem zei {ds : List D} {k : Int} : zpt (some (.f (.lst ds))) (some (.f (.int k))) = pF (idx ds k) := rfl
theorem zsi {ds : List D} {k : Int} : zpt (some (.f (.tup ds))) (some (.f (.int k))) = pF (idx ds k) := rfl
theorem zej {vs : List V} {k : Int} : zpt (some (.o vs)) (some (.f (.int k))) = idx vs k := rfl
theorem znD {d : D} : pF (some d) = some (.f d) := rfl
theorem zbw {ds : List D} (h : zaI ds.length = true) : pLen (some (.f (.lst ds))) = some (.f (.int ds.length)) := by
 show ((if zaI ds.length then some (ds.length : Int) else none).map fun n => V.f (.int n)) = _
 rw [h]; rfl
theorem zfv {vs : List V} (h : zaI vs.length = true) : pLen (some (.o vs)) = some (.f (.int vs.length)) := by
 show ((if zaI vs.length then some (vs.length : Int) else none).map fun n => V.f (.int n)) = _
 rw [h]; rfl
noncomputable def eV (σ : St) (v : Option V) : Option (V × St) := v.bind fun v => match v with
 | .f d => some (.f d, σ)
 | .o _ => none
noncomputable def eSet (v : V) (τ : Option St) : Option (V × St) := τ.map fun σ => (v, σ)
noncomputable def zfq (sc : Scope) (nm : Str) (σ : St) (v : Option V) : Option (V × St) := v.bind fun v => match v with
 | .f d => some (.f d, σ)
 | .o vs => eSet (.f (.lst (V.frzL vs))) (σ.set sc nm (.f (.lst (V.frzL vs))))
theorem zbN {d : D} : eV σ (some (.f d)) = some (.f d, σ) := rfl
theorem zcs {v : V} : eSet v (some σ) = some (v, σ) := rfl
theorem zab {d : D} : zfq sc nm σ (some (.f d)) = some (.f d, σ) := rfl
theorem zbu {vs : List V} : zfq sc nm σ (some (.o vs)) = eSet (.f (.lst (V.frzL vs))) (σ.set sc nm (.f (.lst (V.frzL vs)))) := rfl
theorem e_q (hn : zeg e = none) (hq : (ER C i).q e = true) : (ER C (i + 1)).e sc e σ = eV σ ((ER C i).p sc e σ) := by
 rw [zsg]
 unfold zdM
 rw [if_pos hq]
 unfold eV
 congr 1
 funext v
 cases v with
 | f d => rfl
 | o vs => show (zeg e).bind _ = _; rw [hn]; rfl
theorem e_c {c : Int} : (ER C (i + 2)).e sc (.Constant (.int c) k p) σ = some (.f (.int c), σ) := by rw [e_q rfl q_c, p_c]; rfl
theorem ztP : (ER C (i + 2)).e sc (.Constant .none k p) σ = some (.f .none, σ) := by rw [e_q rfl q_c, p_cn]; rfl
theorem e_n : (ER C (i + 2)).e sc (.Name nm p) σ = zfq sc nm σ ((ER C (i + 1)).p sc (.Name nm p) σ) := by
 rw [zsg]
 unfold zdM
 rw [if_pos q_n]
 rfl
theorem e_b (hq : (ER C i).q (.BinOp l op r p) = true) : (ER C (i + 1)).e sc (.BinOp l op r p) σ = eV σ ((ER C i).p sc (.BinOp l op r p) σ) := e_q rfl hq
theorem e_u {op : UnaryOp} (hq : (ER C i).q (.UnaryOp op x p) = true) : (ER C (i + 1)).e sc (.UnaryOp op x p) σ = eV σ ((ER C i).p sc (.UnaryOp op x p) σ) := e_q rfl hq
theorem e_s (hq : (ER C i).q (.Subscript x y p) = true) : (ER C (i + 1)).e sc (.Subscript x y p) σ = eV σ ((ER C i).p sc (.Subscript x y p) σ) := e_q rfl hq
theorem zck (hq : (ER C i).q (.Call (.Name (Str.ofString "len") gp) [x] [] p) = true) : (ER C (i + 1)).e sc (.Call (.Name (Str.ofString "len") gp) [x] [] p) σ = eV σ ((ER C i).p sc (.Call (.Name (Str.ofString "len") gp) [x] [] p) σ) := e_q rfl hq
noncomputable def toF (v : Option (V × St)) : Option (D × St) := v.map frzV
noncomputable def toI (v : Option (V × St)) : Option (Int × St) := (toF v).bind fun v => zeo v.1 fun i => some (i, v.2)
noncomputable def toL (v : Option (V × St)) : Option (List D × St) := (toF v).bind fun v => zlt v.1 fun ds => if zaI ds.length then some (ds, v.2) else none
theorem zg6 : evF R sc e σ = toF (R.e sc e σ) := rfl
theorem evI_of : evI R sc e σ = toI (R.e sc e σ) := rfl
theorem evL_of : evL R sc e σ = toL (R.e sc e σ) := rfl
theorem toF_s {v : V} : toF (some (v, σ)) = some (v.frz, σ) := rfl
theorem zbD {a : Int} : toI (some (.f (.int a), σ)) = some (a, σ) := rfl
theorem zhJ {ds : List D} (h : zaI ds.length = true) : toL (some (.f (.lst ds), σ)) = some (ds, σ) := by
 show (if zaI ds.length then some (ds, σ) else none) = _
 rw [h]; rfl
theorem zv8 {vs : List V} (h : zaI (V.frzL vs).length = true) : toL (some (.o vs, σ)) = some (V.frzL vs, σ) := by
 show (if zaI (V.frzL vs).length then some (V.frzL vs, σ) else none) = _
 rw [h]; rfl
theorem zaw {d : D} : V.frz (.f d) = d := rfl
theorem zdR {vs : List V} : V.frz (.o vs) = .lst (V.frzL vs) := rfl
theorem zbb : V.frzL [] = [] := rfl
theorem zbj {v : V} {vs : List V} : V.frzL (v :: vs) = v.frz :: V.frzL vs := rfl
noncomputable def eB3 (σ : St) (c : Option Int) : Option (V × St) := c.map fun c => (.f (.int c), σ)
noncomputable def eB2 (op : Operator) (a : Int) (b : Option (Int × St)) : Option (V × St) := b.bind fun b => eB3 b.2 (zbh op a b.1)
noncomputable def eRep (v : V) (k : Option (Int × St)) : Option (V × St) := k.bind fun k => if k.1 ≤ 2 ^ 24 ∧ -2 ^ 62 ≤ k.1 then some (V.o (List.replicate k.1.toNat (V.f v.frz)), k.2) else none
noncomputable def eCat (xs : List D) (b : Option (V × St)) : Option (V × St) := b.bind fun b => (zkv b.1).bind fun ys => if zaI (xs.length + ys.length) then some (.o ((xs ++ ys).map .f), b.2) else none
noncomputable def eB (R : Rec) (sc : Scope) (op : Operator) (r : Expr) (a : Option (V × St)) : Option (V × St) := a.bind fun a => eBin R sc op r a.1 a.2
theorem zj0 (hq : (ER C i).q (.BinOp l op r p) = false) : (ER C (i + 1)).e sc (.BinOp l op r p) σ = eB (ER C i) sc op r ((ER C i).e sc l σ) := by
 rw [zsg]
 unfold zdM
 rw [hq]
 rfl
theorem zur {a : Int} : eB R sc op r (some (.f (.int a), σ)) = eB2 op a (toI (R.e sc r σ)) := rfl
theorem zkG {a b : Int} : eB2 op a (some (b, σ)) = eB3 σ (zbh op a b) := rfl
theorem zkH {c : Int} : eB3 σ (some c) = some (.f (.int c), σ) := rfl
theorem zvo {v : V} : eB R sc .Mult r (some (.o [v], σ)) = eRep v (toI (R.e sc r σ)) := rfl
theorem zg7 {v : V} (h : n ≤ 100000) : eRep v (some ((n : Int), σ)) = some (.o (List.replicate n (V.f v.frz)), σ) := by
 show (if (n : Int) ≤ 2 ^ 24 ∧ -2 ^ 62 ≤ (n : Int) then some (V.o (List.replicate (n : Int).toNat (V.f v.frz)), σ) else none) = _
 rw [if_pos (ya5 h)]; rfl
theorem zv9 {ds : List D} (h : zaI ds.length = true) : zkv (.f (.lst ds)) = some ds := by
 show (if zaI ds.length then some ds else none) = _
 rw [h]; rfl
theorem zpu {vs : List V} (h : zaI (V.frzL vs).length = true) : zkv (.o vs) = some (V.frzL vs) := by
 show (if zaI (V.frzL vs).length then some (V.frzL vs) else none) = _
 rw [h]; rfl
theorem zp7 {vs : List V} (h : zaI (V.frzL vs).length = true) : eB R sc .Add r (some (.o vs, σ)) = eCat (V.frzL vs) (R.e sc r σ) := by
 show ((R.e sc r σ).bind fun b => (zkv (.o vs)).bind fun xs => _) = _
 rw [zpu h]; rfl
theorem eB_al {xs : List D} : eB R sc .Add r (some (.f (.lst xs), σ)) = eCat xs (R.e sc r σ) := rfl
theorem zvp {xs ys : List D} (h1 : zaI ys.length = true) (h : zaI (xs.length + ys.length) = true) : eCat xs (some (.f (.lst ys), σ)) = some (.o ((xs ++ ys).map .f), σ) := by
 show ((zkv (.f (.lst ys))).bind fun ys => if zaI (xs.length + ys.length) then some (V.o ((xs ++ ys).map .f), σ) else none) = _
 rw [zv9 h1, Option.bind_some, h]; rfl
theorem zpv {xs : List D} {vs : List V} (h1 : zaI (V.frzL vs).length = true) (h : zaI (xs.length + (V.frzL vs).length) = true) : eCat xs (some (.o vs, σ)) = some (.o ((xs ++ V.frzL vs).map .f), σ) := by
 show ((zkv (.o vs)).bind fun ys => if zaI (xs.length + ys.length) then some (V.o ((xs ++ ys).map .f), σ) else none) = _
 rw [zpu h1, Option.bind_some, h]; rfl
noncomputable def kB1 (σ : St) (v : Option V) : Option (List D × St) := v.bind fun v => match v with
 | .o vs => (znq vs).map fun ds => (ds, σ)
 | .f d => zlt d fun ds => some (ds, σ)
noncomputable def kPart (v : Option V) : Option (Option Int) := v.bind fun v => v.int.map some
noncomputable def eSl (R : Rec) (sc : Scope) (lo hi : Option Expr) (a : Option (List D × St)) : Option (V × St) := a.bind fun a => (zda R sc lo a.2).bind fun lo => (zda R sc hi a.2).bind fun hi =>
 if zaI a.1.length && zbQ lo && zbQ hi then some (V.o ((pick a.1 lo hi).map V.f), a.2) else none
noncomputable def eSl2 (σ : St) (ds : List D) (lo hi : Option (Option Int)) : Option (V × St) := lo.bind fun lo => hi.bind fun hi => if zaI ds.length && zbQ lo && zbQ hi then some (V.o ((pick ds lo hi).map V.f), σ) else none
theorem zwa {lo hi : Option Expr} : (ER C (i + 2)).e sc (.Subscript x (.Slice lo hi none sp) p) σ = eSl (ER C (i + 1)) sc lo hi (evB (ER C (i + 1)) sc x σ) := by
 rw [zsg]
 unfold zdM
 have : (ER C (i + 1)).q (.Subscript x (.Slice lo hi none sp) p) = false := by
  rw [q_s]
  cases i with
  | zero => show (_ && (ER C 0).q _) = false; unfold ER; simp [sem]
  | succ i => rw [zsh]; simp
 rw [this]
 rfl
theorem zp8 (hq : (ER C i).q e = true) : evB (ER C i) sc e σ = kB1 σ ((ER C i).p sc e σ) := by
 unfold evB
 rw [if_pos hq]; rfl
theorem evB_n (hq : (ER C i).q e = false) : evB (ER C i) sc e σ = toL ((ER C i).e sc e σ) := by
 unfold evB
 rw [hq]; rfl
theorem zwb {ds : List D} : kB1 σ (some (.f (.lst ds))) = some (ds, σ) := rfl
theorem znE {ds : List D} {lo hi : Option Expr} : eSl R sc lo hi (some (ds, σ)) = eSl2 σ ds (zda R sc lo σ) (zda R sc hi σ) := rfl
theorem ze5 : zda R sc none σ = some none := rfl
theorem zdS (hq : (ER C i).q e = true) : zda (ER C i) sc (some e) σ = kPart ((ER C i).p sc e σ) := by
 unfold zda
 dsimp only
 rw [if_pos hq]; rfl
theorem zfM {a : Int} : kPart (some (.f (.int a))) = some (some a) := rfl
theorem zig {ds : List D} {lo hi : Option Int} (h : zaI ds.length = true) (h1 : zbQ lo = true) (h2 : zbQ hi = true) : eSl2 σ ds (some lo) (some hi) = some (.o ((pick ds lo hi).map .f), σ) := by
 show (if zaI ds.length && zbQ lo && zbQ hi then some (V.o ((pick ds lo hi).map V.f), σ) else none) = _
 rw [h, h1, h2]; rfl
noncomputable def eIx (R : Rec) (sc : Scope) (y : Expr) (b : Option (D × St)) : Option (V × St) := b.bind fun b => if R.q y then (R.p sc y b.2).bind fun k => k.int.bind fun k => ((V.f b.1).item k).map fun x => (x, b.2) else none
noncomputable def eIx2 (σ : St) (v : Option V) : Option (V × St) := v.map fun x => (x, σ)
theorem e_ix {as : List Expr} {kk : Nat} {tp bp : Pos} (hq : (ER C i).q (.Subscript (.Tuple as kk tp) (.BinOp l op r bp) p) = false) : (ER C (i + 1)).e sc (.Subscript (.Tuple as kk tp) (.BinOp l op r bp) p) σ = eIx (ER C i) sc (.BinOp l op r bp) (toF ((ER C i).e sc (.Tuple as kk tp) σ)) := by
 rw [zsg]
 unfold zdM
 rw [hq]
 rfl
theorem eIx_s {d : D} (hq : (ER C i).q y = true) : eIx (ER C i) sc y (some (d, σ)) = eIx2 σ (zpt (some (.f d)) ((ER C i).p sc y σ)) := by
 unfold eIx
 rw [Option.bind_some, if_pos hq]
 unfold zpt eIx2
 rw [Option.bind_some]
 cases (ER C i).p sc y σ with
 | none => rfl
 | some v => simp only [Option.bind_some]; cases v.int <;> rfl
theorem eIx2_s {v : V} : eIx2 σ (some v) = some (v, σ) := rfl
noncomputable def eIf (R : Rec) (sc : Scope) (b o : Expr) (c : Option (Bool × St)) : Option (V × St) := c.bind fun c => if c.1 then R.e sc b c.2 else R.e sc o c.2
theorem zjH : (ER C (i + 2)).e sc (.IfExp x y z p) σ = eIf (ER C (i + 1)) sc y z ((ER C (i + 1)).t sc x σ) := by
 rw [zsg]
 unfold zdM
 rw [q_if]; rfl
theorem zgb : eIf R sc y z (some (true, σ)) = R.e sc y σ := rfl
theorem zjK : eIf R sc y z (some (false, σ)) = R.e sc z σ := rfl
noncomputable def evs1 (R : Rec) (sc : Scope) (es : List Expr) (v : Option (V × St)) : Option (List V × St) := v.bind fun v => (evs R sc es v.2).map fun vs => (v.1 :: vs.1, vs.2)
noncomputable def evs2 (v : V) (vs : Option (List V × St)) : Option (List V × St) := vs.map fun vs => (v :: vs.1, vs.2)
theorem za8 : evs R sc [] σ = some ([], σ) := rfl
theorem zbd : evs R sc (e :: es) σ = evs1 R sc es (R.e sc e σ) := rfl
theorem zaJ {v : V} : evs1 R sc es (some (v, σ)) = evs2 v (evs R sc es σ) := rfl
theorem zaK {v : V} {vs : List V} : evs2 v (some (vs, σ)) = some (v :: vs, σ) := rfl
noncomputable def eLi (v : Option (List V × St)) : Option (V × St) := v.bind fun v => if zaI v.1.length then some (.o v.1, v.2) else none
noncomputable def eTu (v : Option (List V × St)) : Option (V × St) := v.bind fun v => if zaI v.1.length then some (V.f (D.tup (V.frzL v.1)), v.2) else none
theorem zg8 : (ER C (i + 2)).e sc (.List es p) σ = eLi (evs (ER C (i + 1)) sc es σ) := by
 rw [zsg]
 unfold zdM
 rw [zew]; rfl
theorem e_tu : (ER C (i + 2)).e sc (.Tuple es k p) σ = eTu (evs (ER C (i + 1)) sc es σ) := by
 rw [zsg]
 unfold zdM
 rw [q_tup]; rfl
theorem zpw {α : Type} {vs : List α} (h : Nat.ble vs.length 100 = true) : zaI vs.length = true := by
 unfold zaI
 rw [decide_eq_true_eq]
 have := Nat.le_of_ble_eq_true h
 exact yh4 this
theorem bl_0 {n : Nat} : Nat.ble 0 n = true := by cases n <;> rfl
theorem bl_s {m n : Nat} : Nat.ble (m + 1) (n + 1) = Nat.ble m n := rfl
theorem zjL : eLi (some ([], σ)) = some (.o [], σ) := rfl
theorem zgc {v : V} : eLi (some ([v], σ)) = some (.o [v], σ) := rfl
theorem zwc {v w : V} : eLi (some ([v, w], σ)) = some (.o [v, w], σ) := rfl
theorem zsj {vs : List V} (h : Nat.ble vs.length 100 = true) : eTu (some (vs, σ)) = some (.f (.tup (V.frzL vs)), σ) := by
 show (if zaI vs.length then some (V.f (D.tup (V.frzL vs)), σ) else none) = _
 rw [zpw h]; rfl
theorem zbR {gs : List Comprehension} {s : Scope} : (ER C (i + 2)).e sc (.ListComp e gs s p) σ = zfo C (ER C (i + 1)) sc e gs s σ := by
 rw [zsg]
 unfold zdM
 rw [zvn]; rfl
noncomputable def eCm2 (σ : St) (c : Option Bool) : Option (V × St) := c.map fun c => (.f (.bool c), σ)
noncomputable def eCm1 (op : CmpOp) (d : D) (b : Option (V × St)) : Option (V × St) := b.bind fun b => eCm2 b.2 (cmp op d b.1.frz)
noncomputable def eCm0 (R : Rec) (sc : Scope) (op : CmpOp) (r : Expr) (a : Option (V × St)) : Option (V × St) := a.bind fun a => eCm1 op a.1.frz (R.e sc r a.2)
theorem e_cmp {o : CmpOp} : (ER C (i + 2)).e sc (.Compare l [o] [r] p) σ = eCm0 (ER C (i + 1)) sc o r ((ER C (i + 1)).e sc l σ) := by
 rw [zsg]
 unfold zdM
 rw [q_cmp]
 show ((evF (ER C (i + 1)) sc l σ).bind fun a => (evF (ER C (i + 1)) sc r a.2).bind fun b => (cmp o a.1 b.1).map fun c => (V.f (.bool c), b.2)) = _
 rw [zg6]
 unfold eCm0 toF
 cases (ER C (i + 1)).e sc l σ with
 | none => rfl
 | some v =>
  show ((evF (ER C (i + 1)) sc r v.2).bind fun b => (cmp o v.1.frz b.1).map fun c => (V.f (.bool c), b.2)) = eCm1 o v.1.frz ((ER C (i + 1)).e sc r v.2)
  rw [zg6]
  unfold eCm1 toF
  cases (ER C (i + 1)).e sc r v.2 <;> rfl
theorem eCm0_s {o : CmpOp} {v : V} : eCm0 R sc o r (some (v, σ)) = eCm1 o v.frz (R.e sc r σ) := rfl
theorem eCm1_s {o : CmpOp} {d : D} {v : V} : eCm1 o d (some (v, σ)) = eCm2 σ (cmp o d v.frz) := rfl
theorem eCm2_s {b : Bool} : eCm2 σ (some b) = some (.f (.bool b), σ) := rfl
noncomputable def zlS : List Str := ["max", "abs", "int", "list", "len"]
noncomputable def zch (C : Cfg) (sc : Scope) (g : Str) : Bool := zar sc g && !(zlS.contains g) && !(C.refs.contains g)
noncomputable def ztQ (C : Cfg) (sc : Scope) (g : Str) : Bool := zar sc g && !(zlS.contains g) && C.refs.contains g
theorem zwd (h : g ≠ "len") : (ER C (i + 1)).q (.Call (.Name g gp) es [] p) = false := by
 rw [zps]
 match es with
 | [] => rfl
 | [x] => show (decide (g = "len") && _) = false; simp [h]
 | _ :: _ :: _ => rfl
theorem zj1 (h : g ≠ "len") : (ER C (i + 2)).e sc (.Call (.Name g gp) es [] p) σ = zfp C (ER C (i + 1)) sc g es σ := by
 rw [zsg]
 unfold zdM
 rw [zwd h]; rfl
noncomputable def kMax1 (R : Rec) (sc : Scope) (y : Expr) (a : Option (Int × St)) : Option (V × St) := a.bind fun a => (evI R sc y a.2).map fun b => (.f (.int (max a.1 b.1)), b.2)
noncomputable def kMax2 (a : Int) (b : Option (Int × St)) : Option (V × St) := b.map fun b => (.f (.int (max a b.1)), b.2)
theorem e_max (h : zar sc "max" = true) : (ER C (i + 2)).e sc (.Call (.Name (Str.ofString "max") gp) [x, y] [] p) σ = kMax1 (ER C (i + 1)) sc y (toI ((ER C (i + 1)).e sc x σ)) := by
 rw [zj1 (by decide)]
 unfold zfp
 rw [if_pos h, if_pos rfl]; rfl
theorem zsk {a : Int} : kMax1 R sc y (some (a, σ)) = kMax2 a (toI (R.e sc y σ)) := rfl
theorem zsl {a b : Int} : kMax2 a (some (b, σ)) = some (.f (.int (max a b)), σ) := rfl
noncomputable def kAbs (a : Option (Int × St)) : Option (V × St) := a.map fun a => (.f (.int a.1.natAbs), a.2)
noncomputable def kInt (a : Option (Int × St)) : Option (V × St) := a.map fun a => (.f (.int a.1), a.2)
noncomputable def kList (a : Option (List D × St)) : Option (V × St) := a.map fun a => (.o (a.1.map .f), a.2)
theorem e_abs (h : zar sc "abs" = true) : (ER C (i + 2)).e sc (.Call (.Name (Str.ofString "abs") gp) [x] [] p) σ = kAbs (toI ((ER C (i + 1)).e sc x σ)) := by
 rw [zj1 (by decide)]
 unfold zfp
 rw [if_pos h, if_neg (by decide), if_pos rfl]; rfl
theorem e_int (h : zar sc "int" = true) : (ER C (i + 2)).e sc (.Call (.Name (Str.ofString "int") gp) [x] [] p) σ = kInt (toI ((ER C (i + 1)).e sc x σ)) := by
 rw [zj1 (by decide)]
 unfold zfp
 rw [if_pos h, if_neg (by decide), if_neg (by decide), if_pos rfl]; rfl
theorem zlT (h : zar sc "list" = true) : (ER C (i + 2)).e sc (.Call (.Name (Str.ofString "list") gp) [x] [] p) σ = kList (toL ((ER C (i + 1)).e sc x σ)) := by
 rw [zj1 (by decide)]
 unfold zfp
 rw [if_pos h, if_neg (by decide), if_neg (by decide), if_neg (by decide), if_pos rfl]; rfl
theorem kAbs_s {a : Int} : kAbs (some (a, σ)) = some (.f (.int a.natAbs), σ) := rfl
theorem kInt_s {a : Int} : kInt (some (a, σ)) = some (.f (.int a), σ) := rfl
theorem zih {ds : List D} : kList (some (ds, σ)) = some (.o (ds.map .f), σ) := rfl
noncomputable def kT2 (σ : St) (d : Option D) : Option (V × St) := d.map fun d => (.f d, σ)
noncomputable def kT (C : Cfg) (g : Str) (v : Option (List V × St)) : Option (V × St) := v.bind fun v => kT2 v.2 (C.T g (V.frzL v.1))
theorem zhW {g : Str} (h : (zlS.contains g) = false) : g ≠ "max" ∧ g ≠ "abs" ∧ g ≠ "int" ∧ g ≠ "list" ∧ g ≠ "len" := by
 refine ⟨?_, ?_, ?_, ?_, ?_⟩ <;> (rintro rfl; revert h; decide)
theorem zj2 (h : zch C sc g = true) : zfp C R sc g (x :: es) σ = kT C g (evs R sc (x :: es) σ) := by
 unfold zch at h
 rw [Bool.and_eq_true, Bool.and_eq_true, Bool.not_eq_true', Bool.not_eq_true'] at h
 obtain ⟨⟨h1, h2⟩, h3⟩ := h
 obtain ⟨a1, a2, a3, a4, a5⟩ := zhW h2
 unfold zfp
 rw [if_pos h1, if_neg a1, if_neg a2, if_neg a3, if_neg a4, h3]
 show ((evs R sc (x :: es) σ).map (fun v => (V.frzL v.1, v.2))).bind (fun ds => (C.T g ds.1).map fun d => (V.f d, ds.2)) = _
 cases evs R sc (x :: es) σ <;> rfl
theorem zbS (h : zch C sc g = true) : (ER C (i + 2)).e sc (.Call (.Name g gp) (x :: es) [] p) σ = kT C g (evs (ER C (i + 1)) sc (x :: es) σ) := by
 have h' := h
 unfold zch at h'
 rw [Bool.and_eq_true, Bool.and_eq_true, Bool.not_eq_true', Bool.not_eq_true'] at h'
 rw [zj1 (zhW h'.1.2).2.2.2.2, zj2 h]
theorem zhX {vs : List V} : kT C g (some (vs, σ)) = kT2 σ (C.T g (V.frzL vs)) := rfl
theorem zcV {d : D} : kT2 σ (some d) = some (.f d, σ) := rfl
noncomputable def kR3 (d : D) (τ : Option St) : Option (V × St) := τ.map fun σ => (.f d, σ)
noncomputable def kR2 (sc : Scope) (x : Str) (σ : St) (r : Option (D × V)) : Option (V × St) := r.bind fun r => kR3 r.1 (σ.set sc x r.2)
noncomputable def kR (C : Cfg) (sc : Scope) (g x : Str) (σ : St) (v : Option V) (ds : Option (List D)) : Option (V × St) := v.bind fun v => onO v fun vs => ds.bind fun ds => kR2 sc x σ (C.TR g (.o vs) ds)
theorem zii {xp : Pos} (h : ztQ C sc g = true) (hx : (nm == ("__debug__" : Str)) = false) : zfp C R sc g (.Name nm xp :: es) σ = kR C sc g nm σ (σ.get sc nm) (evP R sc es σ) := by
 unfold ztQ at h
 rw [Bool.and_eq_true, Bool.and_eq_true, Bool.not_eq_true'] at h
 obtain ⟨⟨h1, h2⟩, h3⟩ := h
 obtain ⟨a1, a2, a3, a4, a5⟩ := zhW h2
 unfold zfp
 rw [if_pos h1, if_neg a1, if_neg a2, if_neg a3, if_neg a4, if_pos h3]
 show (if nm == ("__debug__" : Str) then none else _) = _
 rw [hx]
 unfold kR kR2 kR3
 cases σ.get sc nm with
 | none => rfl
 | some v => cases v <;> rfl
theorem zsm {xp : Pos} (h : ztQ C sc g = true) (hx : (nm == ("__debug__" : Str)) = false) : (ER C (i + 2)).e sc (.Call (.Name g gp) (.Name nm xp :: es) [] p) σ = kR C sc g nm σ (σ.get sc nm) (evP (ER C (i + 1)) sc es σ) := by
 have h' := h
 unfold ztQ at h'
 rw [Bool.and_eq_true, Bool.and_eq_true, Bool.not_eq_true'] at h'
 rw [zj1 (zhW h'.1.2).2.2.2.2, zii h hx]
theorem kR_s {vs : List V} {ds : List D} : kR C sc g nm σ (some (.o vs)) (some ds) = kR2 sc nm σ (C.TR g (.o vs) ds) := rfl
theorem zsn {d : D} {v : V} : kR2 sc nm σ (some (d, v)) = kR3 d (σ.set sc nm v) := rfl
theorem zso {d : D} : kR3 d (some σ) = some (.f d, σ) := rfl
noncomputable def evP1 (R : Rec) (sc : Scope) (es : List Expr) (σ : St) (v : Option V) : Option (List D) := v.bind fun v => onF v fun d => (evP R sc es σ).map (d :: ·)
noncomputable def evP2 (d : D) (ds : Option (List D)) : Option (List D) := ds.map (d :: ·)
theorem zsp : evP R sc [] σ = some [] := rfl
theorem zsq (hq : (ER C i).q e = true) : evP (ER C i) sc (e :: es) σ = evP1 (ER C i) sc es σ ((ER C i).p sc e σ) := by
 show (if (ER C i).q e then _ else none) = _
 rw [if_pos hq]; rfl
theorem zlU {d : D} : evP1 R sc es σ (some (.f d)) = evP2 d (evP R sc es σ) := rfl
theorem zlV {d : D} {ds : List D} : evP2 d (some ds) = some (d :: ds) := rfl
noncomputable def tC3 (σ : St) (c : Option Bool) : Option (Bool × St) := c.map fun c => (c, σ)
noncomputable def tC2 (op : CmpOp) (d : D) (b : Option (V × St)) : Option (Bool × St) := b.bind fun b => tC3 b.2 (cmp op d b.1.frz)
noncomputable def tC1 (R : Rec) (sc : Scope) (op : CmpOp) (r : Expr) (a : Option (V × St)) : Option (Bool × St) := a.bind fun a => tC2 op a.1.frz (R.e sc r a.2)
theorem zaY {o : CmpOp} : (ER C (i + 1)).t sc (.Compare l [o] [r] p) σ = tC1 (ER C i) sc o r ((ER C i).e sc l σ) := by
 rw [er_t]
 show ((evF (ER C i) sc l σ).bind fun a => (evF (ER C i) sc r a.2).bind fun b => (cmp o a.1 b.1).map fun c => (c, b.2)) = _
 rw [zg6]
 unfold tC1 toF
 cases (ER C i).e sc l σ with
 | none => rfl
 | some v =>
  show ((evF (ER C i) sc r v.2).bind fun b => (cmp o v.1.frz b.1).map fun c => (c, b.2)) = tC2 o v.1.frz ((ER C i).e sc r v.2)
  rw [zg6]
  unfold tC2 toF
  cases (ER C i).e sc r v.2 <;> rfl
theorem zaZ {o : CmpOp} {v : V} : tC1 R sc o r (some (v, σ)) = tC2 o v.frz (R.e sc r σ) := rfl
theorem zaT {o : CmpOp} {d : D} {v : V} : tC2 o d (some (v, σ)) = tC3 σ (cmp o d v.frz) := rfl
theorem zaU {b : Bool} : tC3 σ (some b) = some (b, σ) := rfl
noncomputable def tAnd (R : Rec) (sc : Scope) (y : Expr) (a : Option (Bool × St)) : Option (Bool × St) := a.bind fun a => if a.1 then R.t sc y a.2 else some (false, a.2)
noncomputable def tOr (R : Rec) (sc : Scope) (y : Expr) (a : Option (Bool × St)) : Option (Bool × St) := a.bind fun a => if a.1 then some (true, a.2) else R.t sc y a.2
noncomputable def tOr3 (R : Rec) (sc : Scope) (y z : Expr) (a : Option (Bool × St)) : Option (Bool × St) := a.bind fun a => if a.1 then some (true, a.2) else tOr R sc z (R.t sc y a.2)
theorem zwe : (ER C (i + 1)).t sc (.BoolOp .And [x, y] p) σ = tAnd (ER C i) sc y ((ER C i).t sc x σ) := by rw [er_t]; rfl
theorem zpx : tOrs R sc [x] σ = R.t sc x σ := by
 show (R.t sc x σ).bind _ = _
 cases R.t sc x σ with
 | none => rfl
 | some a => obtain ⟨b, τ⟩ := a; cases b <;> rfl
theorem t_or : (ER C (i + 1)).t sc (.BoolOp .Or [x, y] p) σ = tOr (ER C i) sc y ((ER C i).t sc x σ) := by
 rw [er_t]
 show ((ER C i).t sc x σ).bind (fun a => if a.1 then some (true, a.2) else tOrs (ER C i) sc [y] a.2) = _
 simp only [zpx]; rfl
theorem t_or3 : (ER C (i + 1)).t sc (.BoolOp .Or [x, y, z] p) σ = tOr3 (ER C i) sc y z ((ER C i).t sc x σ) := by
 rw [er_t]
 show ((ER C i).t sc x σ).bind (fun a => if a.1 then some (true, a.2) else ((ER C i).t sc y a.2).bind fun b => if b.1 then some (true, b.2) else tOrs (ER C i) sc [z] b.2) = _
 simp only [zpx]; rfl
theorem zvq : tAnd R sc y (some (true, σ)) = R.t sc y σ := rfl
theorem tAnd_f : tAnd R sc y (some (false, σ)) = some (false, σ) := rfl
theorem tOr_t : tOr R sc y (some (true, σ)) = some (true, σ) := rfl
theorem zwf : tOr R sc y (some (false, σ)) = R.t sc y σ := rfl
theorem tOr3_t : tOr3 R sc y z (some (true, σ)) = some (true, σ) := rfl
theorem tOr3_f : tOr3 R sc y z (some (false, σ)) = tOr R sc z (R.t sc y σ) := rfl
noncomputable def tD3 (R : Rec) (sc : Scope) (o2 : CmpOp) (r2 : Expr) (d : D) (σ : St) (c : Option Bool) : Option (Bool × St) := c.bind fun c => if c then tC2 o2 d (R.e sc r2 σ) else some (false, σ)
noncomputable def tD2 (R : Rec) (sc : Scope) (o1 o2 : CmpOp) (r2 : Expr) (d : D) (b : Option (V × St)) : Option (Bool × St) := b.bind fun b => tD3 R sc o2 r2 b.1.frz b.2 (cmp o1 d b.1.frz)
noncomputable def tD1 (R : Rec) (sc : Scope) (o1 o2 : CmpOp) (r1 r2 : Expr) (a : Option (V × St)) : Option (Bool × St) := a.bind fun a => tD2 R sc o1 o2 r2 a.1.frz (R.e sc r1 a.2)
theorem zpy {o1 o2 : CmpOp} {r1 r2 : Expr} (hq : (ER C i).q r2 = true) : (ER C (i + 1)).t sc (.Compare l [o1, o2] [r1, r2] p) σ = tD1 (ER C i) sc o1 o2 r1 r2 ((ER C i).e sc l σ) := by
 rw [er_t]
 show (if !(ER C i).q r2 then none else (evF (ER C i) sc l σ).bind fun a => (evF (ER C i) sc r1 a.2).bind fun b => (cmp o1 a.1 b.1).bind fun c =>
  if c then (evF (ER C i) sc r2 b.2).bind fun d => (cmp o2 b.1 d.1).map fun c => (c, d.2) else some (false, b.2)) = _
 rw [hq, zg6]
 show (toF ((ER C i).e sc l σ)).bind _ = _
 unfold tD1
 cases (ER C i).e sc l σ with
 | none => rfl
 | some v =>
  show ((evF (ER C i) sc r1 v.2).bind fun b => (cmp o1 v.1.frz b.1).bind fun c => _) = tD2 (ER C i) sc o1 o2 r2 v.1.frz ((ER C i).e sc r1 v.2)
  rw [zg6]
  unfold tD2 toF
  cases (ER C i).e sc r1 v.2 with
  | none => rfl
  | some u =>
   show ((cmp o1 v.1.frz u.1.frz).bind fun c => if c then (evF (ER C i) sc r2 u.2).bind fun d => (cmp o2 u.1.frz d.1).map fun c => (c, d.2) else some (false, u.2)) = tD3 (ER C i) sc o2 r2 u.1.frz u.2 (cmp o1 v.1.frz u.1.frz)
   rw [zg6]
   unfold tD3 tC2 toF
   cases cmp o1 v.1.frz u.1.frz with
   | none => rfl
   | some c => cases c <;> (cases (ER C i).e sc r2 u.2 <;> rfl)
theorem zus {o1 o2 : CmpOp} {r1 r2 : Expr} {v : V} : tD1 R sc o1 o2 r1 r2 (some (v, σ)) = tD2 R sc o1 o2 r2 v.frz (R.e sc r1 σ) := rfl
theorem zut {o1 o2 : CmpOp} {r2 : Expr} {d : D} {v : V} : tD2 R sc o1 o2 r2 d (some (v, σ)) = tD3 R sc o2 r2 v.frz σ (cmp o1 d v.frz) := rfl
theorem tD3_t {o2 : CmpOp} {r2 : Expr} {d : D} : tD3 R sc o2 r2 d σ (some true) = tC2 o2 d (R.e sc r2 σ) := rfl
theorem tD3_f {o2 : CmpOp} {r2 : Expr} {d : D} : tD3 R sc o2 r2 d σ (some false) = some (false, σ) := rfl
theorem zjI {a b : Int} : cmp .Eq (.int a) (.int b) = some (a == b) := rfl
theorem zlW {a b : Int} : cmp .NotEq (.int a) (.int b) = some (!(a == b)) := rfl
theorem zsr {a b : Int} : cmp .Lt (.int a) (.int b) = some (decide (a < b)) := rfl
theorem c_le {a b : Int} : cmp .LtE (.int a) (.int b) = some (decide (a ≤ b)) := rfl
theorem zpz {a b : Int} : cmp .Gt (.int a) (.int b) = some (decide (a > b)) := rfl
theorem c_ge {a b : Int} : cmp .GtE (.int a) (.int b) = some (decide (a ≥ b)) := rfl
theorem zvr {a : Int} : cmp .Is (.int a) .none = some false := rfl
theorem zvs {a : List D} : cmp .Is (.lst a) .none = some false := rfl
theorem c_is_n : cmp .Is .none .none = some true := rfl
theorem zwg {a : List D} : cmp .IsNot (.lst a) .none = some true := rfl
theorem zwh : cmp .IsNot .none .none = some false := rfl
theorem zlX (l : List Int) : zlx (l.map .int) = some l := by
 induction l with
 | nil => rfl
 | cons i l ih => show (zlx (l.map .int)).map _ = _; rw [ih]; rfl
theorem zwi {a b : List Int} : cmp .NotEq (.lst (a.map .int)) (.lst (b.map .int)) = some (!(a == b)) := by
 show ((zlx (a.map .int)).bind fun x => (zlx (b.map .int)).map fun y => !(x == y)) = _
 rw [zlX, zlX]; rfl
end
section
variable {C : Cfg} {R : Rec} {i n : Nat} {sc : Scope} {σ : St} {l r x y z e : Expr} {op : Operator} {p gp sp xp : Pos} {k : Nat} {g nm : Str} {es : List Expr} {st : Stmt} {rest : List Stmt}
noncomputable def sSeq (C : Cfg) (R : Rec) (sc : Scope) (rest : List Stmt) (f : Option (Fl × St)) : Option (Fl × St) := f.bind fun f => match f.1 with
 | .next => za6 C R sc rest f.2
 | .ret v => some (.ret v, f.2)
theorem zer : za6 C R sc [] σ = some (.next, σ) := rfl
theorem zdD : za6 C R sc (st :: rest) σ = sSeq C R sc rest (zbG C R sc st σ) := rfl
theorem zbx : sSeq C R sc rest (some (.next, σ)) = za6 C R sc rest σ := rfl
theorem zg9 {d : D} : sSeq C R sc rest (some (.ret d, σ)) = some (.ret d, σ) := rfl
theorem r_s : (ER C (i + 1)).s sc rest σ = za6 C (ER C i) sc rest σ := by rw [er_s]
noncomputable def sIf (R : Rec) (sc : Scope) (b o : List Stmt) (c : Option (Bool × St)) : Option (Fl × St) := c.bind fun c => if c.1 then R.s sc b c.2 else R.s sc o c.2
theorem zes {b o : List Stmt} : zbG C R sc (.If x b o p) σ = sIf R sc b o (R.t sc x σ) := rfl
theorem zgd {b o : List Stmt} : sIf R sc b o (some (true, σ)) = R.s sc b σ := rfl
theorem zcW {b o : List Stmt} : sIf R sc b o (some (false, σ)) = R.s sc o σ := rfl
noncomputable def sRet (v : Option (V × St)) : Option (Fl × St) := v.map fun v => (.ret v.1.frz, v.2)
theorem zcl : zbG C R sc (.Return (some e) p) σ = sRet (R.e sc e σ) := by
 show (evF R sc e σ).map (fun d => (Fl.ret d.1, d.2)) = _
 rw [zg6]
 unfold sRet toF
 cases R.e sc e σ <;> rfl
theorem zby {v : V} : sRet (some (v, σ)) = some (.ret v.frz, σ) := rfl
noncomputable def sNx (τ : Option St) : Option (Fl × St) := τ.map fun σ => (.next, σ)
theorem zaV : sNx (some σ) = some (.next, σ) := rfl
theorem zct : zbG C R sc (.Assign [x] e p) σ = sNx (zrq C R sc x e σ) := rfl
theorem zp9 : zbG C R sc (.AugAssign x op e p) σ = sNx (augS C R sc x op e σ) := rfl
noncomputable def sCall (v : Option (V × St)) : Option (Fl × St) := v.bind fun v => onF v.1 fun d => if isN d then some (.next, v.2) else none
theorem zss : zbG C R sc (.Expr (.Call (.Name g gp) es [] sp) p) σ = sCall (zfp C R sc g es σ) := rfl
theorem znF : sCall (some (.f .none, σ)) = some (.next, σ) := rfl
noncomputable def zlY (sc : Scope) (x attr : Str) (a c : Pos) : Bool := decide (attr = "append") && !(x == "__debug__") && (a.endLine == c.line) && decide (sc.names.lookup x = some .local)
noncomputable def zwj (sc : Scope) (x : Str) (v : V) (σ : St) (o : Option V) : Option (Fl × St) := o.bind fun u => onO u fun vs => if zaI vs.length then (σ.set sc x (.o (vs ++ [v]))).map fun σ => (.next, σ) else none
noncomputable def zwk (sc : Scope) (x : Str) (v : Option (V × St)) : Option (Fl × St) := v.bind fun y => zwj sc x y.1 y.2 (y.2.get sc x)
noncomputable def sApp1 (R : Rec) (sc : Scope) (x : Str) (e : Expr) (σ : St) (v : Option V) : Option (Fl × St) := v.bind fun v => onO v fun _ => zwk sc x (R.e sc e σ)
theorem zst {attr : Str} {ap cp : Pos} (h : zlY sc nm attr ap cp = true) : zbG C R sc (.Expr (.Call (.Attribute (.Name nm xp) attr ap) [e] [] cp) p) σ = sApp1 R sc nm e σ (σ.get sc nm) := by
 unfold zlY at h
 rw [Bool.and_eq_true, Bool.and_eq_true, Bool.and_eq_true, Bool.not_eq_true', decide_eq_true_eq, decide_eq_true_eq] at h
 obtain ⟨⟨⟨h1, h2⟩, h3⟩, h4⟩ := h
 show appS R sc nm attr e ap cp σ = _
 unfold appS
 rw [if_pos ⟨h1, h2, h3, h4⟩]
 rfl
theorem zij {vs : List V} : sApp1 R sc nm e σ (some (.o vs)) = zwk sc nm (R.e sc e σ) := rfl
theorem zik {v : V} : zwk sc nm (some (v, σ)) = zwj sc nm v σ (σ.get sc nm) := rfl
theorem zil {v : V} {vs : List V} (h : zaI vs.length = true) : zwj sc nm v σ (some (.o vs)) = sNx (σ.set sc nm (.o (vs ++ [v]))) := by
 show (if zaI vs.length then _ else none) = _
 rw [h]; rfl
noncomputable def aN (C : Cfg) (sc : Scope) (nm : Str) (v : Option (V × St)) : Option St := v.bind fun v => v.2.put C sc nm v.1
theorem a_n : zrq C R sc (.Name nm xp) e σ = aN C sc nm (R.e sc e σ) := rfl
theorem zdb {v : V} : aN C sc nm (some (v, σ)) = σ.put C sc nm v := rfl
noncomputable def aIx (R : Rec) (sc : Scope) (nm : Str) (j : Expr) (v : Option (V × St)) : Option St := v.bind fun v => (R.p sc j v.2).bind fun k => k.int.bind fun k => zb5 sc nm k v.1 v.2
noncomputable def aIx2 (sc : Scope) (nm : Str) (v : V) (σ : St) (k : Option V) : Option St := k.bind fun k => k.int.bind fun k => zb5 sc nm k v σ
theorem a_ix (hq : (ER C i).q y = true) (hx : (nm == ("__debug__" : Str)) = false) : zrq C (ER C i) sc (.Subscript (.Name nm xp) y p) e σ = aIx (ER C i) sc nm y ((ER C i).e sc e σ) := by
 show (if (ER C i).q y then (if nm == "__debug__" then none else _) else none) = _
 rw [if_pos hq, hx]; rfl
theorem zuu {v : V} : aIx R sc nm y (some (v, σ)) = aIx2 sc nm v σ (R.p sc y σ) := rfl
theorem zpA {v : V} {k : Int} : aIx2 sc nm v σ (some (.f (.int k))) = zb5 sc nm k v σ := rfl
theorem zuv {β : Type} {vs : List V} {f : List V → Option β} : onO (.o vs) f = f vs := rfl
theorem ze6 {k : Nat} {v : V} {vs : List V} (hg : σ.get sc nm = some (.o vs)) (h : k < vs.length) (h2 : k ≤ 100000) : zb5 sc nm (k : Int) v σ = σ.set sc nm (.o (vs.set k v)) := by
 unfold zb5
 rw [hg, Option.bind_some, zuv, if_pos (yaR h h2)]
 rfl
noncomputable def aXX (R : Rec) (sc : Scope) (nm : Str) (j kx : Expr) (v : Option (V × St)) : Option St := v.bind fun v => (R.p sc j v.2).bind fun j => j.int.bind fun j => (R.p sc kx v.2).bind fun k => k.int.bind fun k => onF v.1 fun d => zci sc nm j k (.f d) v.2
noncomputable def aXX2 (sc : Scope) (nm : Str) (d : D) (σ : St) (j k : Option V) : Option St := j.bind fun j => j.int.bind fun j => k.bind fun k => k.int.bind fun k => zci sc nm j k (.f d) σ
theorem a_xx {sp2 : Pos} (hy : (ER C i).q y = true) (hz : (ER C i).q z = true) (hx : (nm == ("__debug__" : Str)) = false) : zrq C (ER C i) sc (.Subscript (.Subscript (.Name nm xp) y sp2) z p) e σ = aXX (ER C i) sc nm y z ((ER C i).e sc e σ) := by
 show (if (ER C i).q z then (if nm == "__debug__" || !(ER C i).q y then none else _) else none) = _
 rw [if_pos hz, hx, hy]; rfl
theorem aXX_s {d : D} : aXX R sc nm y z (some (.f d, σ)) = aXX2 sc nm d σ (R.p sc y σ) (R.p sc z σ) := by
 unfold aXX aXX2
 rw [Option.bind_some]
 rfl
theorem zvt {d : D} {j k : Int} : aXX2 sc nm d σ (some (.f (.int j))) (some (.f (.int k))) = zci sc nm j k (.f d) σ := rfl
theorem zim {j k : Nat} {v : V} {vs us : List V} (hg : σ.get sc nm = some (.o vs)) (h : vs[j]? = some (.o us)) (hk : k < us.length) (h2 : j ≤ 100000) (h3 : k ≤ 100000) : zci sc nm (j : Int) (k : Int) v σ = σ.set sc nm (.o (vs.set j (.o (us.set k v)))) := by
 unfold zci
 rw [hg, Option.bind_some, zuv, if_pos (yh3 h2), show ((j : Int)).toNat = j from rfl, h, Option.bind_some, zuv, if_pos (yaR hk h3)]
 rfl
noncomputable def aT (C : Cfg) (sc : Scope) (xs : List Str) (v : Option (List V × St)) : Option St := v.bind fun v => if zaI v.1.length then zhQ C sc xs v.1 v.2 else none
noncomputable def znG (es : List Expr) : List Str := (zbY es).getD []
noncomputable def zsu (es vals : List Expr) : Bool := (zbY es).isSome && decide (znG es).Nodup && (decide (vals.length ≠ 2 ∧ vals.length ≠ 3) || !(vals.all (constantsAlone 8)))
theorem zkI {β : Type} {f : Str → Option β} : zdE (.Name nm p) f = f nm := rfl
theorem a_t {k1 k2 : Nat} {p1 p2 : Pos} {vals : List Expr} (h : zsu es vals = true) : zrq C R sc (.Tuple es k1 p1) (.Tuple vals k2 p2) σ = aT C sc (znG es) (evs R sc vals σ) := by
 unfold zsu at h
 rw [Bool.and_eq_true, Bool.and_eq_true] at h
 obtain ⟨⟨h1, h2⟩, h3⟩ := h
 obtain ⟨xs, hxs⟩ := Option.isSome_iff_exists.mp h1
 have e1 : znG es = xs := by unfold znG; rw [hxs]; rfl
 rw [e1] at h2 ⊢
 show zrH C R sc es vals σ = _
 unfold zrH
 rw [hxs]
 dsimp only
 unfold aT
 cases evs R sc vals σ with
 | none => rfl
 | some v =>
  rw [Option.bind_some, Option.bind_some, h2, h3]
  simp only [Bool.and_true]
theorem zpB {xs : List Str} {vs : List V} (h : Nat.ble vs.length 100 = true) : aT C sc xs (some (vs, σ)) = zhQ C sc xs vs σ := by
 unfold aT
 rw [Option.bind_some]
 dsimp only
 rw [zpw h]; rfl
noncomputable def puts1 (C : Cfg) (sc : Scope) (xs : List Str) (vs : List V) (τ : Option St) : Option St := τ.bind (zhQ C sc xs vs)
theorem zcd : zhQ C sc [] [] σ = some σ := rfl
theorem zb3 {xs : List Str} {v : V} {vs : List V} : zhQ C sc (nm :: xs) (v :: vs) σ = puts1 C sc xs vs (σ.put C sc nm v) := rfl
theorem zbC {xs : List Str} {vs : List V} : puts1 C sc xs vs (some σ) = zhQ C sc xs vs σ := rfl
theorem nms_2 {a b : Str} {pa pb : Pos} : znG [.Name a pa, .Name b pb] = [a, b] := rfl
theorem nms_3 {a b c : Str} {pa pb pc : Pos} : znG [.Name a pa, .Name b pb, .Name c pc] = [a, b, c] := rfl
theorem zrt {a b : Str} {pa pb p1 p2 : Pos} {k1 k2 : Nat} {v w : Expr} (h : a ≠ b) (hc : (constantsAlone 8 v && constantsAlone 8 w) = false) : zrq C R sc (.Tuple [.Name a pa, .Name b pb] k1 p1) (.Tuple [v, w] k2 p2) σ = aT C sc [a, b] (evs R sc [v, w] σ) := by
 rw [a_t]
 · rfl
 · unfold zsu
   rw [nms_2]
   simp [zbY, zkI, h, hc]
theorem a_t3 {a b c : Str} {pa pb pc p1 p2 : Pos} {k1 k2 : Nat} {v w u : Expr} (h : a ≠ b) (h2 : a ≠ c) (h3 : b ≠ c) (hc : (constantsAlone 8 v && (constantsAlone 8 w && constantsAlone 8 u)) = false) : zrq C R sc (.Tuple [.Name a pa, .Name b pb, .Name c pc] k1 p1) (.Tuple [v, w, u] k2 p2) σ = aT C sc [a, b, c] (evs R sc [v, w, u] σ) := by
 rw [a_t]
 · rfl
 · unfold zsu
   rw [nms_3]
   simp only [List.all_cons, List.all_nil, Bool.and_true, hc]
   simp [zbY, zkI, h, h2, h3]
theorem a_t4 {a b c d : Str} {pa pb pc pd p1 p2 : Pos} {k1 k2 : Nat} {v w u t : Expr} (h : [a, b, c, d].Nodup) : zrq C R sc (.Tuple [.Name a pa, .Name b pb, .Name c pc, .Name d pd] k1 p1) (.Tuple [v, w, u, t] k2 p2) σ = aT C sc [a, b, c, d] (evs R sc [v, w, u, t] σ) := by
 rw [a_t]
 · rfl
 · unfold zsu
   rw [show znG [.Name a pa, .Name b pb, .Name c pc, .Name d pd] = [a, b, c, d] from rfl]
   rw [decide_eq_true h]
   simp [zbY, zkI]
theorem zwl {n : Nat} {c : Const} {k : Nat} {p : Pos} : constantsAlone n (.Constant c k p) = true := by cases n <;> rfl
theorem ca_n {n : Nat} {x : Str} {p : Pos} : constantsAlone n (.Name x p) = (x == ("__debug__" : Str)) := by cases n <;> rfl
theorem zwm {n : Nat} {l r : Expr} {op : Operator} {p : Pos} : constantsAlone (n + 1) (.BinOp l op r p) = (constantsAlone n l && constantsAlone n r) := rfl
theorem ca_s {n : Nat} {v i : Expr} {p : Pos} : constantsAlone (n + 1) (.Subscript v i p) = (constantsAlone n v && constantsAlone n i) := rfl
theorem ca_u {n : Nat} {v : Expr} {op : UnaryOp} {p : Pos} : constantsAlone (n + 1) (.UnaryOp op v p) = constantsAlone n v := rfl
theorem zex {n : Nat} {f : Expr} {as : List Expr} {ks : List Keyword} {p : Pos} : constantsAlone n (.Call f as ks p) = false := by cases n <;> rfl
theorem zkJ {n : Nat} {es : List Expr} {p : Pos} : constantsAlone n (.List es p) = false := by cases n <;> rfl
theorem zsv {n : Nat} {e : Expr} {gs : List Comprehension} {s : Scope} {p : Pos} : constantsAlone n (.ListComp e gs s p) = false := by cases n <;> rfl
noncomputable def gN3 (C : Cfg) (sc : Scope) (nm : Str) (σ : St) (c : Option Int) : Option St := c.bind fun c => σ.put C sc nm (.f (.int c))
noncomputable def gN2 (C : Cfg) (sc : Scope) (nm : Str) (op : Operator) (a : Int) (b : Option (Int × St)) : Option St := b.bind fun b => gN3 C sc nm b.2 (zbh op a b.1)
noncomputable def gN1 (C : Cfg) (R : Rec) (sc : Scope) (nm : Str) (op : Operator) (e : Expr) (σ : St) (a : Option V) : Option St := a.bind fun a => a.int.bind fun a => gN2 C sc nm op a (toI (R.e sc e σ))
theorem g_na (hx : (nm == ("__debug__" : Str)) = false) : augS C R sc (.Name nm xp) .Add e σ = gN1 C R sc nm .Add e σ (σ.get sc nm) := by
 show augN C R sc nm .Add e σ = _
 unfold augN
 rw [hx]; rfl
theorem g_ns (hx : (nm == ("__debug__" : Str)) = false) : augS C R sc (.Name nm xp) .Sub e σ = gN1 C R sc nm .Sub e σ (σ.get sc nm) := by
 show augN C R sc nm .Sub e σ = _
 unfold augN
 rw [hx]; rfl
theorem zsw {a : Int} : gN1 C R sc nm op e σ (some (.f (.int a))) = gN2 C sc nm op a (toI (R.e sc e σ)) := rfl
theorem zsx {a b : Int} : gN2 C sc nm op a (some (b, σ)) = gN3 C sc nm σ (zbh op a b) := rfl
theorem zsy {c : Int} : gN3 C sc nm σ (some c) = σ.put C sc nm (.f (.int c)) := rfl
noncomputable def gX3 (sc : Scope) (nm : Str) (σ : St) (k : Int) (c : Option Int) : Option St := c.bind fun c => zb5 sc nm k (.f (.int c)) σ
noncomputable def gX2 (sc : Scope) (nm : Str) (σ : St) (op : Operator) (k : Int) (a b : Option V) : Option St := a.bind fun a => a.int.bind fun a => (b.bind V.int).bind fun b => gX3 sc nm σ k (zbh op a b)
noncomputable def gX1 (R : Rec) (sc : Scope) (nm : Str) (op : Operator) (e : Expr) (σ : St) (o k : Option V) : Option St := (k.bind V.int).bind fun k => o.bind fun o => onO o fun vs => gX2 sc nm σ op k (idx vs k) (R.p sc e σ)
theorem g_xa (hq : (ER C i).q y = true) (hq2 : (ER C i).q e = true) (hx : (nm == ("__debug__" : Str)) = false) : augS C (ER C i) sc (.Subscript (.Name nm xp) y p) .Add e σ = gX1 (ER C i) sc nm .Add e σ (σ.get sc nm) ((ER C i).p sc y σ) := by
 show augX (ER C i) sc nm y .Add e σ = _
 unfold augX
 rw [hq, hq2]
 unfold pI
 rw [if_pos hq, if_pos hq2, hx]
 rfl
theorem gX1_s {vs : List V} {k : Int} : gX1 R sc nm op e σ (some (.o vs)) (some (.f (.int k))) = gX2 sc nm σ op k (idx vs k) (R.p sc e σ) := rfl
theorem gX2_s {a b k : Int} : gX2 sc nm σ op k (some (.f (.int a))) (some (.f (.int b))) = gX3 sc nm σ k (zbh op a b) := rfl
theorem gX3_s {c k : Int} : gX3 sc nm σ k (some c) = zb5 sc nm k (.f (.int c)) σ := rfl
noncomputable def iR2 (a : Int) (b : Option (Int × St)) : Option ((List D × Bool) × St) := b.bind fun b => (zjV a b.1).map fun ds => ((ds, false), b.2)
noncomputable def iR (R : Rec) (sc : Scope) (y : Expr) (a : Option (Int × St)) : Option ((List D × Bool) × St) := a.bind fun a => (evI R sc y a.2).bind fun b => (zjV a.1 b.1).map fun ds => ((ds, false), b.2)
noncomputable def iE (v : Option (List D × St)) : Option ((List D × Bool) × St) := v.map fun v => ((zfn 0 v.1, true), v.2)
noncomputable def iV (v : Option (List D × St)) : Option ((List D × Bool) × St) := v.map fun v => ((v.1.reverse, false), v.2)
noncomputable def iP (v : Option (List D × St)) : Option ((List D × Bool) × St) := v.map fun v => ((v.1, false), v.2)
noncomputable def iZ2 (ds : List D) (v : Option (List D × St)) : Option ((List D × Bool) × St) := v.map fun u => ((zlj ds u.1, true), u.2)
noncomputable def iZ (R : Rec) (sc : Scope) (y : Expr) (v : Option (List D × St)) : Option ((List D × Bool) × St) := v.bind fun v => (evL R sc y v.2).map fun u => ((zlj v.1 u.1, true), u.2)
theorem zqa (h : zar sc "range" = true) : zb2 R sc (.Call (.Name (Str.ofString "range") gp) [x] [] p) σ = iR2 0 (toI (R.e sc x σ)) := by
 show zhH R sc "range" [x] σ = _
 unfold zhH
 rw [if_pos h, if_pos rfl]; rfl
theorem i_r2 (h : zar sc "range" = true) : zb2 R sc (.Call (.Name (Str.ofString "range") gp) [x, y] [] p) σ = iR R sc y (toI (R.e sc x σ)) := by
 show zhH R sc "range" [x, y] σ = _
 unfold zhH
 rw [if_pos h, if_pos rfl]; rfl
theorem i_rev (h : zar sc "reversed" = true) : zb2 R sc (.Call (.Name (Str.ofString "reversed") gp) [x] [] p) σ = iV (toL (R.e sc x σ)) := by
 show zhH R sc "reversed" [x] σ = _
 unfold zhH
 rw [if_pos h, if_neg (by decide), if_pos rfl]; rfl
theorem zpC (h : zar sc "enumerate" = true) : zb2 R sc (.Call (.Name (Str.ofString "enumerate") gp) [x] [] p) σ = iE (toL (R.e sc x σ)) := by
 show zhH R sc "enumerate" [x] σ = _
 unfold zhH
 rw [if_pos h, if_neg (by decide), if_neg (by decide), if_pos rfl]; rfl
theorem zwn (h : zar sc "zip" = true) : zb2 R sc (.Call (.Name (Str.ofString "zip") gp) [x, y] [] p) σ = iZ R sc y (toL (R.e sc x σ)) := by
 show zhH R sc "zip" [x, y] σ = _
 unfold zhH
 rw [if_pos h, if_neg (by decide), if_neg (by decide), if_neg (by decide), if_pos rfl]; rfl
theorem iR_s {a : Int} : iR R sc y (some (a, σ)) = iR2 a (toI (R.e sc y σ)) := rfl
theorem zsz {a b : Nat} (h : a ≤ 100000) (h2 : b ≤ 100000) : iR2 (a : Int) (some ((b : Int), σ)) = some ((zb6 (a : Int) (b - a), false), σ) := by
 unfold iR2
 rw [Option.bind_some]
 unfold zjV
 rw [if_pos (by omega), show ((b : Int) - (a : Int)).toNat = b - a by exact yam]
 rfl
theorem zgL {b : Nat} (h2 : b ≤ 100000) : iR2 0 (some ((b : Int), σ)) = some ((zb6 0 b, false), σ) := zsz (a := 0) (yh2) h2
theorem iE_s {ds : List D} : iE (some (ds, σ)) = some ((zfn 0 ds, true), σ) := rfl
theorem iV_s {ds : List D} : iV (some (ds, σ)) = some ((ds.reverse, false), σ) := rfl
theorem zll {ds : List D} : iP (some (ds, σ)) = some ((ds, false), σ) := rfl
theorem iZ_s {ds : List D} : iZ R sc y (some (ds, σ)) = iZ2 ds (toL (R.e sc y σ)) := rfl
theorem zwo {ds es : List D} : iZ2 ds (some (es, σ)) = some ((zlj ds es, true), σ) := rfl
noncomputable def toLT (v : Option (V × St)) : Option (List D × St) := (toF v).bind fun v => (seqOf v.1).bind fun ds => if zaI ds.length then some (ds, v.2) else none
theorem i_n : zb2 R sc (.Name nm xp) σ = iP (toLT (R.e sc (.Name nm xp) σ)) := rfl
theorem zwp : zb2 R sc (.Subscript x y p) σ = iP (toLT (R.e sc (.Subscript x y p) σ)) := rfl
theorem i_tup : zb2 R sc (.Tuple es k p) σ = iP (toLT (R.e sc (.Tuple es k p) σ)) := rfl
theorem zdc {ds : List D} (h : zaI ds.length = true) : toLT (some (.f (.lst ds), σ)) = some (ds, σ) := by
 show (if zaI ds.length then some (ds, σ) else none) = _
 rw [h]; rfl
theorem toLT_t {ds : List D} (h : zaI ds.length = true) : toLT (some (.f (.tup ds), σ)) = some (ds, σ) := by
 show (if zaI ds.length then some (ds, σ) else none) = _
 rw [h]; rfl
theorem zsA {vs : List V} (h : zaI (V.frzL vs).length = true) : toLT (some (.o vs, σ)) = some (V.frzL vs, σ) := by
 show (if zaI (V.frzL vs).length then some (V.frzL vs, σ) else none) = _
 rw [h]; rfl
noncomputable def aF (C : Cfg) (sc : Scope) (xs : List Str) (ds : List D) (σ : St) : Option St := zhQ C sc xs (ds.map .f) σ
theorem zdu {d : D} : zku C sc false (.Name nm xp) d σ = σ.put C sc nm (.f d) := rfl
theorem zlZ {a b : Str} {pa pb : Pos} {f : Bool} {ds : List D} : zku C sc f (.Tuple [.Name a pa, .Name b pb] k p) (.tup ds) σ = zhQ C sc [a, b] (ds.map .f) σ := rfl
theorem asg_t3 {a b c : Str} {pa pb pc : Pos} {f : Bool} {ds : List D} : zku C sc f (.Tuple [.Name a pa, .Name b pb, .Name c pc] k p) (.tup ds) σ = zhQ C sc [a, b, c] (ds.map .f) σ := rfl
theorem zam {ρ κ : zbt} (h : sc.names.lookup nm = some .local) : St.get sc nm ⟨ρ, κ⟩ = zfu nm ρ := by
 unfold St.get
 rw [h]
theorem zin {ρ κ : zbt} (h : sc.names.lookup nm = some .cell) : St.get sc nm ⟨ρ, κ⟩ = zfu nm κ := by
 unfold St.get
 rw [h]
end
theorem zha {a b : String} (h : Str.ofString a = Str.ofString b) : a = b := by
 rw [Str.ofString_eq_toList, Str.ofString_eq_toList] at h
 injection h with h
 have h := congrArg Array.toList h
 simp only at h
 have inj : ∀ (l m : List Char), l.map Char.toNat = m.map Char.toNat → l = m := by
  intro l
  induction l with
  | nil => intro m h; cases m with | nil => rfl | cons => cases h
  | cons x l ih =>
   intro m h
   cases m with
   | nil => cases h
   | cons y m =>
    rw [List.map_cons, List.map_cons] at h
    injection h with h1 h2
    rw [ih m h2]
    congr 1
    exact Char.ext (UInt32.toNat_inj.mp h1)
 exact String.toList_inj.mp (inj _ _ h)
theorem zaB (a b : String) : (Str.ofString a == Str.ofString b) = (a == b) := by
 rw [Bool.eq_iff_iff]
 simp only [beq_iff_eq]
 exact ⟨zha, fun h => h ▸ rfl⟩
theorem zcX (a b : String) : (Str.ofString a = Str.ofString b) = (a = b) := propext ⟨zha, fun h => h ▸ rfl⟩
theorem zaG (a b : Int) : zbh .Add a b = some (a + b) := id rfl
theorem zaN (a b : Int) : zbh .Sub a b = some (a - b) := id rfl
theorem zbT {a b : Int} (h : zbo a ∨ zbo b) : zbh .Mult a b = some (a * b) := by simp only [zbh]; rw [if_pos h]
theorem zey {a b : Int} (h : b ≠ 0) (ha : zbo a) (hb : zbo b) : zbh .FloorDiv a b = some (a.fdiv b) := by simp only [zbh]; rw [if_pos ⟨h, ha, hb⟩]
theorem zge {a b : Int} (h : b ≠ 0) : zbh .Mod a b = some (a.fmod b) := by simp only [zbh]; rw [if_pos h]
theorem zsB {a : Int} {n : Nat} (ha : zbo a) (h : n < 1000) : zbh .Pow a n = some (a ^ n) := by simp only [zbh]; rw [if_pos ⟨by exact yff, by exact yh1 h, ha⟩]; simp
theorem zcv : zbQ none = true := id rfl
theorem zio {i : Int} (h1 : -100000 ≤ i) (h2 : i ≤ 100000) : zbQ (some i) = true := by
 unfold zbQ
 rw [decide_eq_true_eq]
 exact ybu h1 h2
theorem zae {n : Nat} (h : n ≤ 100000) : zaI n = true := by
 unfold zaI
 rw [decide_eq_true_eq]
 exact yh0 h
theorem ze7 {a : Int} (h1 : -1000000000000 ≤ a) (h2 : a ≤ 1000000000000) : zbo a := by
 unfold zbo
 exact yhZ h1 h2
theorem zez {α : Type} (l : List α) (k : Nat) (h : k ≤ 1000000) : idx l (k : Int) = l[k]? := by
 unfold idx
 rw [if_pos (yff), if_pos (yhY h)]
 rfl
theorem zkK {α : Type} (l : List α) : idx l (-1) = l.getLast? := by
 unfold idx
 rw [if_neg (by decide), if_pos rfl]
theorem znH {α : Type} (l : List α) (k : Nat) : pick l none (some (k : Int)) = l.take k := by
 rw [zls l (yff)]; rfl
theorem zuw {C : Cfg} {R : Rec} {sc : Scope} {pairs : Bool} {target : Expr} {ifs : List Expr} {em : St → Option (List V × St)} (f : Nat → St) (g : Nat → List V) (ds : List D) : ∀ (i : Nat) (acc : List V), (∀ j d, ds[j]? = some d → ∃ τ, zku C sc pairs target d (f (i + j)) = some τ ∧
 ((zet R sc ifs τ = some (true, τ) ∧ em τ = some (g (i + j), f (i + j + 1))) ∨ (zet R sc ifs τ = some (false, f (i + j + 1)) ∧ g (i + j) = []))) →
 zcr C R sc pairs target ifs em ds acc (f i) = some (acc ++ ((List.range ds.length).map fun j => g (i + j)).flatten, f (i + ds.length)) := by
 induction ds with
 | nil => intro i acc _; show some (acc, f i) = some (acc ++ [], f i); rw [List.append_nil]
 | cons d ds ih =>
  intro i acc h
  obtain ⟨τ, h1, h2⟩ := h 0 d rfl
  have rcc := fun acc => ih (i + 1) acc (fun j d hd => by
   rw [Nat.add_right_comm i 1 j]
   exact h (j + 1) d hd)
  have e1 : ((List.range (d :: ds).length).map fun j => g (i + j)).flatten = g i ++ ((List.range ds.length).map fun j => g (i + 1 + j)).flatten := by
   rw [List.length_cons, List.range_succ_eq_map, List.map_cons, List.flatten_cons, List.map_map]
   congr 3
   funext j
   show g (i + (j + 1)) = _
   rw [Nat.add_right_comm i 1 j]; rfl
  rw [Nat.add_zero] at h1 h2
  show (zku C sc pairs target d (f i)).bind _ = _
  rw [h1, e1, Option.bind_some, List.length_cons, ← Nat.add_assoc, Nat.add_right_comm]
  rcases h2 with ⟨h2, h3⟩ | ⟨h2, h3⟩
  · rw [h2, Option.bind_some]
    show (em τ).bind _ = _
    rw [h3, Option.bind_some]
    show zcr C R sc pairs target ifs em ds (acc ++ g i) (f (i + 1)) = _
    rw [rcc, List.append_assoc]
  · rw [h2, Option.bind_some]
    show zcr C R sc pairs target ifs em ds acc (f (i + 1)) = _
    rw [rcc, h3, List.nil_append]
theorem ziq {C : Cfg} {R : Rec} {sc : Scope} {pairs : Bool} {target : Expr} {ifs : List Expr} {em : St → Option (List V × St)} (f : Nat → St) (g : Nat → List V) (ds : List D) (h : ∀ j d, ds[j]? = some d → ∃ τ, zku C sc pairs target d (f j) = some τ ∧
 ((zet R sc ifs τ = some (true, τ) ∧ em τ = some (g j, f (j + 1))) ∨ (zet R sc ifs τ = some (false, f (j + 1)) ∧ g j = []))) :
 zcr C R sc pairs target ifs em ds [] (f 0) = some (((List.range ds.length).map g).flatten, f ds.length) := by
 have := zuw (C := C) (R := R) (sc := sc) (pairs := pairs) (target := target) (ifs := ifs) (em := em) f g ds 0 [] (fun j d hd => by rw [Nat.zero_add]; exact h j d hd)
 simp only [Nat.zero_add, List.nil_append] at this
 exact this
theorem zbq (ds : List D) : V.frzL (ds.map .f) = ds := by
 induction ds with
 | nil => rfl
 | cons d ds ih => show d :: V.frzL (ds.map .f) = _; rw [ih]
theorem zwq (ds : List D) : znq (ds.map .f) = some ds := by
 induction ds with
 | nil => rfl
 | cons d ds ih => show (znq (ds.map .f)).map (d :: ·) = _; rw [ih]; rfl
theorem getElem?_ints {xs : List Int} {k : Nat} : (xs.map D.int)[k]? = (xs[k]?).map D.int := by simp
theorem zir {C : Cfg} {R : Rec} {sc scope : Scope} {σ σ1 τ' : St} {elt : Expr} {g : Comprehension} {ds : List D} {pr : Bool} {vs : List V} (h1 : zbZ scope sc = true) (h2 : (decide (g.is_async = 0)) = true) (h3 : (scope.names.all fun x => x.2 != .free || has x.1 σ.k) = true)
 (hi : zb2 R sc g.iter σ = some ((ds, pr), σ1)) (hl : zcr C R (zaF scope sc) pr g.target g.ifs (zep R (zaF scope sc) elt) ds [] ⟨(zbi scope).map (·, none), (zaO scope).map (·, none) ++ σ1.k⟩ = some (vs, τ')) (hf : zaI vs.length = true) :
 zfo C R sc elt [g] scope σ = some (.o vs, ⟨σ1.r, τ'.k.drop (zaO scope).length⟩) := by
 unfold zfo
 rw [h1, h3, List.all_cons, h2]
 show (zb2 R sc g.iter σ).bind _ = _
 rw [hi, Option.bind_some]
 show (zcr C R (zaF scope sc) pr g.target g.ifs (zep R (zaF scope sc) elt) ds [] ⟨(zbi scope).map (·, none), (zaO scope).map (·, none) ++ σ1.k⟩).bind _ = _
 rw [hl, Option.bind_some, hf]
 rfl
theorem tab_of {f : Str} {dr : DefRec} {n : Nat} {ds : List D} {d : D} (h1 : zap f = some dr) (h2 : ds.length = dr.params.args.length) (h3 : (run (cfg n []) 60 dr (ds.map .f)).map (·.1) = some d) : (tab (n + 1)).1 f ds = some d := by
 show ((zap f).bind fun d => if ds.length = d.params.args.length then (run ⟨(tab n).1, (tab n).2, refs, [], 1000⟩ 60 d (ds.map .f)).map (·.1) else none) = _
 rw [h1, Option.bind_some, if_pos h2]
 exact h3
theorem zsC (n : Nat) : ∀ (a : Int) (j : Nat), j < n → (zb6 a n)[j]? = some (.int (a + j)) := by
 induction n with
 | zero => intro a j h; exact absurd h (Nat.not_lt_zero _)
 | succ n ih =>
  intro a j h
  cases j with
  | zero => show some (D.int a) = some (.int (a + (0 : Nat))); rw [Int.natCast_zero, Int.add_zero]
  | succ j =>
   show (zb6 (a + 1) n)[j]? = _
   rw [ih (a + 1) j (Nat.lt_of_succ_lt_succ h), Int.natCast_succ, Int.add_assoc, Int.add_comm 1]
theorem zaD (n : Nat) : ∀ a : Int, (zb6 a n).length = n := by
 induction n with
 | zero => intro a; rfl
 | succ n ih => intro a; show (zb6 (a + 1) n).length + 1 = _; rw [ih]
theorem zaS {n : Nat} {a : Int} {j : Nat} {d : D} (h : (zb6 a n)[j]? = some d) : d = .int (a + j) ∧ j < n := by
 have hl : j < n := by
  rcases List.getElem?_eq_some_iff.mp h with ⟨q, _⟩
  rwa [zaD] at q
 rw [zsC n a j hl] at h
 cases h
 exact ⟨rfl, hl⟩
theorem zdT {α : Type} (g : Nat → α) (n : Nat) : ((List.range n).map fun j => [g j]).flatten = (List.range n).map g := by
 induction List.range n with
 | nil => rfl
 | cons x r ih => simp [ih]
noncomputable def zgM (ds : List D) : Nat → Option V
 | 0 => none
 | j + 1 => (ds[j]?).map .f
theorem zcY {C : Cfg} {sc : Scope} {x : Str} {v : V} {σ : St} (hp : C.pins = []) (hk : sc.names.lookup x = some .local) (hh : has x σ.r = true) : σ.put C sc x v = some ⟨upd x (some v) σ.r, σ.k⟩ := by
 unfold St.put St.set
 rw [hp, hk]
 simp only [List.contains_nil, Bool.false_eq_true, if_false, hh, if_true]
theorem zsD {C : Cfg} {R : Rec} {sc : Scope} {x : Str} {p : Pos} {elt : Expr} {κ : zbt} {ds : List D} (v : Nat → V) (hp : C.pins = []) (hk : sc.names.lookup x = some .local) (hx : x ≠ ".0")
 (h : ∀ j d, ds[j]? = some d → R.e sc elt ⟨[(".0", none), (x, some (.f d))], κ⟩ = some (v j, ⟨[(".0", none), (x, some (.f d))], κ⟩)) :
 zcr C R sc false (.Name x p) [] (zep R sc elt) ds [] ⟨[(".0", none), (x, none)], κ⟩ = some ((List.range ds.length).map v, ⟨[(".0", none), (x, zgM ds ds.length)], κ⟩) := by
 have := ziq (C := C) (R := R) (sc := sc) (pairs := false) (target := .Name x p) (ifs := []) (em := zep R sc elt) (fun j => ⟨[(".0", none), (x, zgM ds j)], κ⟩) (fun j => [v j]) ds fun j d hd => by
  refine ⟨⟨[(".0", none), (x, some (.f d))], κ⟩, ?_, .inl ⟨rfl, ?_⟩⟩
  · rw [zdu, zcY hp hk (by simp only [zcj]; simp)]
    simp only [upd, if_neg (Ne.symm hx), if_true]
  · have e : zgM ds (j + 1) = some (.f d) := by simp only [zgM, hd, Option.map_some]
    simp only [zep, h j d hd, Option.map_some, e]
 rw [zdT] at this
 exact this
theorem zbe {C : Cfg} {R : Rec} {sc scope : Scope} {σ σ1 : St} {elt iter : Expr} {x : Str} {p : Pos} {ds : List D} (v : Nat → V) (hp : C.pins = []) (h1 : zbZ scope sc = true) (h3 : (scope.names.all fun x => x.2 != .free || has x.1 σ.k) = true)
 (hl : zbi scope = [(".0" : Str), x]) (hc : zaO scope = []) (hk : (zaF scope sc).names.lookup x = some .local) (hx : x ≠ ".0") (hi : zb2 R sc iter σ = some ((ds, false), σ1)) (hf : zaI ds.length = true)
 (h : ∀ j d, ds[j]? = some d → R.e (zaF scope sc) elt ⟨[(".0", none), (x, some (.f d))], σ1.k⟩ = some (v j, ⟨[(".0", none), (x, some (.f d))], σ1.k⟩)) :
 zfo C R sc elt [⟨.Name x p, iter, [], 0⟩] scope σ = some (.o ((List.range ds.length).map v), σ1) := by
 have := zir (C := C) (R := R) (sc := sc) (scope := scope) (σ := σ) (elt := elt) (g := ⟨.Name x p, iter, [], 0⟩) h1 rfl h3 hi (by
  rw [hl, hc]
  exact zsD v hp hk hx h) (by rw [List.length_map, List.length_range]; exact hf)
 rw [this, hc]
 rfl
theorem zj3 {α : Type} (xs : List Int) (g : Int → α) : (List.range xs.length).map (fun j => g (xs.getD j 0)) = xs.map g := by
 apply List.ext_getElem?
 intro i
 rw [List.getElem?_map, List.getElem?_map]
 by_cases h : i < xs.length
 · rw [List.getElem?_range h, List.getElem?_eq_getElem h]
   simp [List.getD, List.getElem?_eq_getElem h]
 · rw [List.getElem?_eq_none (by simp; exact ycZ h), List.getElem?_eq_none (ycZ h)]
   rfl
theorem zhY {n : Nat} (g : Nat → D) : V.frzL ((List.range n).map fun j => V.f (g j)) = (List.range n).map g := by
 have := zbq ((List.range n).map g)
 rw [List.map_map] at this
 exact this
theorem zfw {xs : List Int} {g : Int → Int} : V.frzL ((List.range (xs.map D.int).length).map fun j => V.f (.int (g (xs.getD j 0)))) = (xs.map g).map D.int := by
 rw [zhY, List.length_map, zj3 xs fun v => D.int (g v), List.map_map]
 rfl
theorem zbU {C : Cfg} {dr : DefRec} {args : List V} {d : D} (names : List (Str × NameKind)) (sc : Scope) (σ0 : St) (hs : dr.scope = sc) (hn : sc.names = names)
 (h0 : (⟨zds names .local ((dr.params.args.map (·.arg)).zip args), zds names .cell ((dr.params.args.map (·.arg)).zip args)⟩ : St) = σ0)
 (h : ∃ σ', za6 C (ER C 59) sc dr.body σ0 = some (.ret d, σ')) : (run C 60 dr args).map (·.1) = some d := by
 obtain ⟨σ', h⟩ := h
 unfold run
 dsimp only
 rw [hs, hn, h0, show (sem C 60).s sc dr.body σ0 = za6 C (ER C 59) sc dr.body σ0 by unfold ER; rfl, h]
 rfl
theorem zwr {C : Cfg} {dr : DefRec} {args : List V} (names : List (Str × NameKind)) (sc : Scope) (σ0 : St) (hs : dr.scope = sc) (hn : sc.names = names)
 (h0 : (⟨zds names .local ((dr.params.args.map (·.arg)).zip args), zds names .cell ((dr.params.args.map (·.arg)).zip args)⟩ : St) = σ0)
 (h : ∃ σ', za6 C (ER C 59) sc dr.body σ0 = some (.next, σ')) : (run C 60 dr args).map (·.1) = some .none := by
 obtain ⟨σ', h⟩ := h
 unfold run
 dsimp only
 rw [hs, hn, h0, show (sem C 60).s sc dr.body σ0 = za6 C (ER C 59) sc dr.body σ0 by unfold ER; rfl, h]
 rfl
theorem zdv {f : Str} {dr : DefRec} {sc : Scope} (h : zap f = some dr) (hs : (zap f).map (·.scope) = some sc) : dr.scope = sc := by rw [h] at hs; exact Option.some.inj hs
theorem zad {C : Cfg} {sc : Scope} {σ : St} {x : Str} {v : Option V} {i : Nat} {p : Pos} (hx : (x == ("__debug__" : Str)) = false) (h : σ.get sc x = v) : (ER C (i + 1)).p sc (.Name x p) σ = v := (p_n hx).trans h
theorem zax {sc : Scope} {x : Str} {v : V} {ρ κ : zbt} (hk : sc.names.lookup x = some .local) (hh : has x ρ = true) : St.set sc x v ⟨ρ, κ⟩ = some ⟨upd x (some v) ρ, κ⟩ := by
 unfold St.set
 rw [hk]
 dsimp only
 rw [hh]; rfl
theorem zl0 {sc : Scope} {x : Str} {v : V} {ρ κ : zbt} (hk : sc.names.lookup x = some .cell) (hh : has x κ = true) : St.set sc x v ⟨ρ, κ⟩ = some ⟨ρ, upd x (some v) κ⟩ := by
 unfold St.set
 rw [hk]
 dsimp only
 rw [hh]; rfl
theorem zan {C : Cfg} {sc : Scope} {x : Str} {v : V} {σ : St} {τ : Option St} (hp : C.pins.contains x = false) (h : σ.set sc x v = τ) : σ.put C sc x v = τ := by
 unfold St.put
 rw [hp]; exact h
theorem zaz {sc : Scope} {x : Str} (h : sc.names.lookup x = some .globalImplicit) : zar sc x = true := by
 unfold zar
 rw [h]; rfl
theorem zbl {C : Cfg} {sc : Scope} {g : Str} (hr : C.refs = refs) (h : sc.names.lookup g = some .globalImplicit) (hb : (zlS.contains g || refs.contains g) = false) : zch C sc g = true := by
 unfold zch
 rw [zaz h, hr]
 rw [Bool.or_eq_false_iff] at hb
 rw [hb.1, hb.2]; rfl
theorem zl1 {C : Cfg} {sc : Scope} {g : Str} (hr : C.refs = refs) (h : sc.names.lookup g = some .globalImplicit) (hb : (zlS.contains g || !refs.contains g) = false) : ztQ C sc g = true := by
 unfold ztQ
 rw [zaz h, hr]
 rw [Bool.or_eq_false_iff, Bool.not_eq_false'] at hb
 rw [hb.1, hb.2]; rfl
structure Cg (C : Cfg) : Prop where
 W : C.W = 1000
 pins : C.pins = []
 refs : C.refs = refs
theorem zcm (n : Nat) : Cg (cfg n []) := ⟨rfl, rfl, rfl⟩
noncomputable def zeq (C : Cfg) (f : Str) (args : List D) (d : D) : Prop := ∃ dr, zap f = some dr ∧ args.length = dr.params.args.length ∧ (run C 60 dr (args.map .f)).map (·.1) = some d
theorem za9 {n : Nat} {f : Str} {args : List D} {d : D} (h : zeq (cfg n []) f args d) : (tab (n + 1)).1 f args = some d := by
 obtain ⟨dr, h1, h2, h3⟩ := h
 exact tab_of h1 h2 h3
theorem zbL {xs : List Int} {j : Nat} {d : D} (h : (xs.map D.int)[j]? = some d) : d = .int (xs.getD j 0) := by
 rw [List.getElem?_map] at h
 obtain ⟨x, hx, rfl⟩ := Option.map_eq_some_iff.mp h
 simp [List.getD, hx]
theorem zhZ {C : Cfg} {R : Rec} {sc : Scope} {σ : St} {test : Expr} {body : List Stmt} {p : Pos} (P : Nat → St → Prop) (h : ∀ n σ, P n σ → (R.t sc test σ = some (false, σ) ∧ n = 0) ∨ (R.t sc test σ = some (true, σ) ∧ ∃ τ, R.s sc body σ = some (.next, τ) ∧ ∃ m, m < n ∧ P m τ)) {n : Nat} (hn : n < C.W) (h0 : P n σ) : ∃ τ, zbG C R sc (.While test body [] p) σ = some (.next, τ) ∧ P 0 τ := by
 show ∃ τ, znr R sc test body C.W σ = _ ∧ _
 generalize C.W = W at hn
 induction W generalizing n σ with
 | zero => exact (yeq hn).elim
 | succ W ih =>
  rcases h n σ h0 with ⟨h1, rfl⟩ | ⟨h1, τ, h2, m, hm, hq⟩
  · refine ⟨σ, ?_, h0⟩
    simp only [znr, h1, Option.bind_some, Bool.false_eq_true, if_false]
  · obtain ⟨σ', h3, h4⟩ := ih hq (yhX hn hm)
    refine ⟨σ', ?_, h4⟩
    simp only [znr, h1, Option.bind_some, if_true, h2, h3]
theorem zj4 {C : Cfg} {R : Rec} {sc : Scope} {σ σ1 : St} {st : Stmt} {rest : List Stmt} {fl : Fl} (h : zbG C R sc st σ = some (.next, σ1)) (h2 : ∃ σ', za6 C R sc rest σ1 = some (fl, σ')) : ∃ σ', za6 C R sc (st :: rest) σ = some (fl, σ') := by
 rw [zdD, h]; exact h2
theorem zsE {C : Cfg} {R : Rec} {sc : Scope} {σ : St} {st : Stmt} {rest : List Stmt} {fl : Fl} {P : St → Prop} (h : ∃ τ, zbG C R sc st σ = some (.next, τ) ∧ P τ) (h2 : ∀ σ1, P σ1 → ∃ σ', za6 C R sc rest σ1 = some (fl, σ')) : ∃ σ', za6 C R sc (st :: rest) σ = some (fl, σ') := by
 obtain ⟨σ1, h, hp⟩ := h
 rw [zdD, h]; exact h2 σ1 hp
theorem zlm {C : Cfg} {R : Rec} {sc : Scope} {σ σ1 : St} {st : Stmt} {rest : List Stmt} {d : D} (h : zbG C R sc st σ = some (.ret d, σ1)) : ∃ σ', za6 C R sc (st :: rest) σ = some (.ret d, σ') := by
 rw [zdD, h]; exact ⟨_, rfl⟩
noncomputable def Nxt (r : Option (Fl × St)) (P : St → Prop) : Prop := ∃ σ', r = some (.next, σ') ∧ P σ'
section
variable {C : Cfg} {R : Rec} {i : Nat} {sc : Scope} {σ σ1 : St} {st : Stmt} {rest : List Stmt} {P Q : St → Prop}
theorem zis {r : Option (Fl × St)} (h : Nxt r P) (hi : ∀ σ, P σ → Q σ) : Nxt r Q := ⟨h.choose, h.choose_spec.1, hi _ h.choose_spec.2⟩
theorem zru (h : Nxt (za6 C (ER C i) sc rest σ) P) : Nxt ((ER C (i + 1)).s sc rest σ) P := by rw [r_s]; exact h
theorem zvu (h : P σ) : Nxt (za6 C R sc [] σ) P := ⟨σ, rfl, h⟩
theorem zfx (h : zbG C R sc st σ = some (.next, σ1)) (h2 : Nxt (za6 C R sc rest σ1) P) : Nxt (za6 C R sc (st :: rest) σ) P := by rw [zdD, h]; exact h2
theorem zgN (h : Nxt (zbG C R sc st σ) Q) (h2 : ∀ σ1, Q σ1 → Nxt (za6 C R sc rest σ1) P) : Nxt (za6 C R sc (st :: rest) σ) P := zfx h.choose_spec.1 (h2 _ h.choose_spec.2)
theorem zdd (h : Nxt (zbG C R sc st σ) P) : Nxt (za6 C R sc [st] σ) P := zgN h fun _ hp => zvu hp
theorem nx_if {x : Expr} {b o : List Stmt} {p : Pos} (c : Bool) (ht : R.t sc x σ = some (c, σ1)) (h : Nxt (R.s sc (if c then b else o) σ1) P) : Nxt (zbG C R sc (.If x b o p) σ) P := by
 rw [zes, ht]
 cases c <;> exact h
end
noncomputable def zl2 (xs : List Int) : Nat → Nat
 | 0 => 0
 | k + 1 => if xs[k]? = some 0 then zl2 xs k else k + 1
theorem znI (xs : List Int) : ∀ k, zl2 xs k ≤ k
 | 0 => Nat.le_refl _
 | k + 1 => by
  unfold zl2
  split
  · exact Nat.le_succ_of_le (znI xs k)
  · exact Nat.le_refl _
theorem zkL (xs : List Int) : ∀ k j, zl2 xs k < j → j ≤ k → xs[j - 1]? = some 0
 | 0, j, h, h2 => by exact (yhW h h2).elim
 | k + 1, j, h, h2 => by
  unfold zl2 at h
  split at h
  · rename_i h0
    by_cases q : j = k + 1
    · subst q; simpa using h0
    · exact zkL xs k j h (yba h2 q)
  · exact (yhV h2 h).elim
theorem zkM (xs : List Int) : ∀ k, 0 < zl2 xs k → xs[zl2 xs k - 1]? ≠ some 0
 | 0, h => by simp [zl2] at h
 | k + 1, h => by
  unfold zl2 at h ⊢
  split
  · rename_i h0
    rw [if_pos h0] at h
    exact zkM xs k h
  · rename_i h0; simpa using h0
noncomputable def trim (xs : List Int) : List Int := xs.take (zl2 xs xs.length)
noncomputable def zkN : List (Str × NameKind) := [("row", .local), ("size", .local), ("len", .globalImplicit), ("list", .globalImplicit)]
section
variable {C : Cfg} {i : Nat} {p : Pos} (a b : Option V)
@[irreducible] noncomputable def zb8 : St := ⟨[("row", a), ("size", b)], []⟩
theorem zqb : ⟨[("row", a), ("size", b)], []⟩ = zb8 a b := by unfold zb8; rfl
theorem zdU : ∃ sc : Scope, sc.names = zkN ∧ sc.kind = .function ∧ (zap "ztrim").map (·.scope) = some sc := ⟨_, rfl, rfl, rfl⟩
noncomputable def zbO : Scope := Classical.choose zdU
theorem zdG : zbO.names = zkN := (Classical.choose_spec zdU).1
theorem zws : zbO.kind = .function := (Classical.choose_spec zdU).2.1
theorem znJ {dr : DefRec} (h : zap "ztrim" = some dr) : dr.scope = zbO := zdv h (Classical.choose_spec zdU).2.2
theorem znK : zbO.names.lookup ("row" : Str) = some .local := by rw [zdG]; rfl
theorem zeA : zbO.names.lookup ("size" : Str) = some .local := by rw [zdG]; rfl
theorem znL : zbO.names.lookup ("len" : Str) = some .globalImplicit := by rw [zdG]; rfl
theorem zl3 : zbO.names.lookup ("list" : Str) = some .globalImplicit := by rw [zdG]; rfl
theorem zdV : (ER C (i + 1)).p zbO (.Name "row" p) (zb8 a b) = a := zad rfl (by unfold zb8; exact (zam znK).trans rfl)
theorem zde : (ER C (i + 1)).p zbO (.Name "size" p) (zb8 a b) = b := zad rfl (by unfold zb8; exact (zam zeA).trans rfl)
theorem zhb (hp : C.pins = []) (w : V) : St.put C zbO "size" w (zb8 a b) = some (zb8 a (some w)) := zan (by rw [hp]; rfl) (by unfold zb8; exact (zax zeA rfl).trans rfl)
theorem zl4 : St.get zbO "size" (zb8 a b) = b := (by unfold zb8; exact (zam zeA).trans rfl)
end
theorem znM : zar zbO "len" = true := zaz znL
theorem zl5 : zar zbO "list" = true := zaz zl3
theorem znN {C : Cfg} {xs : List Int} (hC : Cg C) (hl : xs.length < 900) : zeq C "ztrim" [D.ints xs] (D.ints (trim xs)) := by
 refine ⟨_, rfl, rfl, ?_⟩
 refine zbU zkN zbO _ (znJ rfl) zdG (zqb (some (.f (D.ints xs))) none) ?_
 have hCp := hC.pins
 have hCr := hC.refs
 have hf : zaI xs.length = true := zae (ygA hl)
 have hle := znI xs xs.length
 refine zj4 (σ1 := zb8 (some (.f (D.ints xs))) (some (.f (.int xs.length)))) ?_ (zsE (zhZ (n := xs.length - zl2 xs xs.length) (P := fun n σ => ∃ j : Nat, j = zl2 xs xs.length + n ∧ j ≤ xs.length ∧ σ = zb8 (some (.f (D.ints xs))) (some (.f (.int j)))) ?_ (by rw [hC.W]; exact ybp hl) ⟨xs.length, by exact ybl hle, Nat.le_refl _, rfl⟩) ?_)
 · simp -implicitDefEqProofs only [zct, a_n, za7, decide_true, q_n, Bool.and_true, zck, znM, zbK, zdV, List.length_map, zbw, zbN, zdb, zhb, zaV, *]
 · rintro n σ ⟨j, hj, hjl, rfl⟩
   by_cases h0 : n = 0
   · left
     refine ⟨?_, h0⟩
     by_cases hz : j = 0
     · have h1 : decide ((j : Int) > 0) = false := by rw [decide_eq_false_iff_not]; exact ygQ hz
       clear hz h0 hj
       simp -implicitDefEqProofs only [zwe, zaY, e_n, zde, zab, zaZ, zaw, e_c, zaT, zpz, zaU, tAnd_f, *]
     · have h1 : decide ((j : Int) > 0) = true := by rw [decide_eq_true_eq]; exact ygP hz
       have h2 := zkM xs xs.length (ybq hj h0 hz)
       have e : ((j : Int)) - 1 = ((j - 1 : Nat) : Int) := by exact yaz hz
       obtain ⟨v, hv⟩ : ∃ v, xs[j - 1]? = some v := ⟨_, List.getElem?_eq_getElem (yhU hjl e)⟩
       have hi : idx (List.map D.int xs) ((j - 1 : Nat) : Int) = some (.int v) := by rw [zez _ _ (ybj hl hjl), getElem?_ints, hv]; rfl
       have hz : (v == 0) = false := by rw [show zl2 xs xs.length = j by exact yhT hj h0, hv] at h2; simpa using h2
       clear h0 h2 hv hj
       simp -implicitDefEqProofs only [zwe, zaY, e_n, zde, zab, zaZ, zaw, e_c, zaT, zpz, zaU, zvq, q_s, q_n, q_b, q_c, Bool.and_true, e_s, p_s, zdV, p_b, p_c, za3, zaN, za4, zei, znD, zbN, zjI, *]
   · right
     have h1 : decide ((j : Int) > 0) = true := by rw [decide_eq_true_eq]; exact yhS hj h0
     have h2 := zkL xs xs.length j (yhR hj h0) (yfi hjl)
     have e : ((j : Int)) - 1 = ((j - 1 : Nat) : Int) := by exact yal hj h0
     have hi : idx (List.map D.int xs) ((j - 1 : Nat) : Int) = some (.int 0) := by rw [zez _ _ (ybj hl hjl), getElem?_ints, h2]; rfl
     have hz : ((0 : Int) == 0) = true := rfl
     refine ⟨?_, zb8 (some (.f (D.ints xs))) (some (.f (.int ((j - 1 : Nat) : Int)))), ?_, n - 1, by exact yeV h0, j - 1, by exact yai hj h0, by exact yhQ hjl, rfl⟩
     · clear h0 h2 hj
       simp -implicitDefEqProofs only [zwe, zaY, e_n, zde, zab, zaZ, zaw, e_c, zaT, zpz, zaU, zvq, q_s, q_n, q_b, q_c, Bool.and_true, e_s, p_s, zdV, p_b, p_c, za3, zaN, za4, zei, znD, zbN, zjI, beq_self_eq_true, *]
     · clear h0 h2 hj
       simp -implicitDefEqProofs only [r_s, zdD, zp9, zaB, String.reduceBEq, g_ns, zl4, zsw, e_c, zbD, zsx, zaN, zsy, zhb, zaV, zbx, zer, *]
 · rintro σ ⟨j, hj, hjl, rfl⟩
   have hpk : zbQ (some (j : Int)) = true := zio (yed) (yhP hl hle hj)
   have hpick : pick (List.map D.int xs) none (some (j : Int)) = (trim xs).map D.int := by rw [znH, ← List.map_take, hj]; rfl
   have hf2 : zaI (trim xs).length = true := zae (by unfold trim; rw [List.length_take]; exact yax hl)
   clear hj
   refine zlm (σ1 := zb8 (some (.f (D.ints xs))) (some (.f (.int j)))) ?_
   simp -implicitDefEqProofs only [zcl, zl5, zlT, zwa, q_n, zp8, zdV, zwb, znE, ze5, zdS, zde, zfM, List.length_map, zcv, zig, zbq, zv8, zih, zby, zdR, *]
theorem zqc {C : Cfg} {sc : Scope} {x : Str} {d : D} {κ : zbt} {i : Nat} {p : Pos} (hk : sc.names.lookup x = some .local) (hx : (x == (".0" : Str)) = false) (hd : (x == ("__debug__" : Str)) = false) : (ER C (i + 1)).p sc (.Name x p) ⟨[(".0", none), (x, some (.f d))], κ⟩ = some (.f d) := by
 refine zad hd ((zam hk).trans ?_)
 unfold zfu
 rw [List.lookup_cons, hx, List.lookup_cons, beq_self_eq_true]; rfl
theorem zrv {C : Cfg} {sc : Scope} {x : Str} {ρ κ : zbt} {v : Option V} {i : Nat} {p : Pos} (hk : sc.names.lookup x = some .cell) (hs : zfu x κ = v) (hd : (x == ("__debug__" : Str)) = false) : (ER C (i + 1)).p sc (.Name x p) ⟨ρ, κ⟩ = v := zad hd ((zin hk).trans hs)
theorem zcw {scope sc : Scope} {x : Str} : (zaF scope sc).names.lookup x = (scope.names.lookup x).map fun k => if (k == .free && sc.kind == .function && sc.names.lookup x == some .cell) then .cell else k := by
 unfold zaF
 dsimp only
 generalize scope.names = l
 induction l with
 | nil => rfl
 | cons p r ih =>
  obtain ⟨y, k⟩ := p
  have e : ∀ (c : Bool), (if c = true then (y, NameKind.cell) else (y, k)) = (y, if c = true then NameKind.cell else k) := fun c => by cases c <;> rfl
  rw [List.map_cons]
  dsimp only
  rw [e, List.lookup_cons, List.lookup_cons]
  cases hb : x == y with
  | true =>
   obtain rfl := beq_iff_eq.mp hb
   rfl
  | false => exact ih
theorem zav {scope sc : Scope} {x : Str} (h : scope.names.lookup x = some .local) : (zaF scope sc).names.lookup x = some .local := by rw [zcw, h]; rfl
theorem zdw {scope sc : Scope} {x : Str} (h : scope.names.lookup x = some .globalImplicit) : (zaF scope sc).names.lookup x = some .globalImplicit := by rw [zcw, h]; rfl
theorem zb9 {scope sc : Scope} {x : Str} (hs : sc.kind = .function) (hc : sc.names.lookup x = some .cell) (h : scope.names.lookup x = some .free) : (zaF scope sc).names.lookup x = some .cell := by rw [zcw, h, Option.map_some, hs, hc]; rfl
theorem zaH {scope sc : Scope} (hn : ∃ l, sc.names = l ∧ zf6 scope l = true) : zbZ scope sc = true := by
 obtain ⟨l, rfl, h⟩ := hn
 exact h
theorem zcI {C : Cfg} {R : Rec} {sc : Scope} {σ σ2 : St} {target iter : Expr} {body : List Stmt} {p : Pos} {ds : List D} {pr : Bool} (P : Nat → St → Prop) (hi : zb2 R sc iter σ = some ((ds, pr), σ2)) (h0 : P 0 σ2) (h : ∀ j d τ, ds[j]? = some d → P j τ → ∃ τ1, zku C sc pr target d τ = some τ1 ∧ ∃ τ2, R.s sc body τ1 = some (.next, τ2) ∧ P (j + 1) τ2) :
 ∃ τ, zbG C R sc (.For target iter body [] p) σ = some (.next, τ) ∧ P ds.length τ := by
 have key : ∀ (es : List D) (i : Nat) (σ : St), P i σ → (∀ j d, es[j]? = some d → ds[i + j]? = some d) → ∃ τ, zjJ C R sc pr target body es σ = some (.next, τ) ∧ P (i + es.length) τ := by
  intro es
  induction es with
  | nil => exact fun i σ h0 _ => ⟨σ, rfl, h0⟩
  | cons d es ih =>
   intro i σ h0 hes
   obtain ⟨τ1, h1, τ2, h2, h3⟩ := h i d σ (hes 0 d rfl) h0
   obtain ⟨τ, h4, h5⟩ := ih (i + 1) τ2 h3 fun j d hd => by rw [show i + 1 + j = i + (j + 1) by exact ygC]; exact hes (j + 1) d (by simpa using hd)
   refine ⟨τ, ?_, by rw [List.length_cons, show i + (es.length + 1) = i + 1 + es.length by exact ygD]; exact h5⟩
   unfold zjJ
   rw [h1, Option.bind_some, h2]
   exact h4
 obtain ⟨τ, h1, h2⟩ := key ds 0 σ2 h0 fun j d hd => by rwa [Nat.zero_add]
 refine ⟨τ, ?_, by rwa [Nat.zero_add] at h2⟩
 show (zb2 R sc iter σ).bind _ = _
 rw [hi]; exact h1
noncomputable def znO : List (Str × NameKind) := [("p", .local)]
section
variable {C : Cfg} {i : Nat} {p : Pos} (a : Option V)
@[irreducible] noncomputable def zj5 : St := ⟨[("p", a)], []⟩
theorem zsF : ⟨[("p", a)], []⟩ = zj5 a := by unfold zj5; rfl
theorem ze8 : ∃ sc : Scope, sc.names = znO ∧ sc.kind = .function ∧ (zap "zneg").map (·.scope) = some sc := ⟨_, rfl, rfl, rfl⟩
noncomputable def zgO : Scope := Classical.choose ze8
theorem zit : zgO.names = znO := (Classical.choose_spec ze8).1
theorem sc_zneg_kd : zgO.kind = .function := (Classical.choose_spec ze8).2.1
theorem zqd {dr : DefRec} (h : zap "zneg" = some dr) : dr.scope = zgO := zdv h (Classical.choose_spec ze8).2.2
theorem zux : zgO.names.lookup ("p" : Str) = some .local := by rw [zit]; rfl
theorem zuy : (ER C (i + 1)).p zgO (.Name "p" p) (zj5 a) = a := zad rfl (by unfold zj5; exact (zam zux).trans rfl)
end
theorem zqe {C : Cfg} {xs : List Int} (hC : Cg C) (hl : xs.length < 900) : zeq C "zneg" [D.ints xs] (D.ints (xs.map fun x => -x)) := by
 refine ⟨_, rfl, rfl, ?_⟩
 refine zbU znO zgO _ (zqd rfl) zit (zsF (some (.f (D.ints xs)))) ?_
 have hCp := hC.pins
 have hCr := hC.refs
 have hf : zaI xs.length = true := zae (ygA hl)
 refine zlm (σ1 := zj5 (some (.f (D.ints xs)))) ?_
 simp -implicitDefEqProofs only [zcl, zbR, *]
 rw [zbe (ds := xs.map .int) (σ1 := zj5 (some (.f (D.ints xs)))) (fun j => V.f (.int (-(xs.getD j 0)))) hC.pins (zaH ⟨_, zit, rfl⟩) rfl rfl rfl (zav rfl) (by decide)]
 · rw [zby, zdR, zfw (g := fun x => -x)]
 · simp -implicitDefEqProofs only [i_n, e_n, zuy, zab, List.length_map, zdc, zll, *]
 · rw [List.length_map]; exact hf
 · intro j d hd
   obtain rfl := zbL hd
   have h1 := @zqc C
   generalize hsc : zaF _ _ = sc'
   have e1 : sc'.names.lookup ("number" : Str) = some .local := by rw [← hsc]; exact zav rfl
   clear hsc
   simp -implicitDefEqProofs only [q_u, q_n, e_u, p_u, zaB, String.reduceBEq, zeh, zbN, *]
noncomputable def ziu : List (Str × NameKind) := [("p", .local), ("k", .cell)]
section
variable {C : Cfg} {i : Nat} {p : Pos} (a b : Option V)
@[irreducible] noncomputable def zcC : St := ⟨[("p", a)], [("k", b)]⟩
theorem znP : ⟨[("p", a)], [("k", b)]⟩ = zcC a b := by unfold zcC; rfl
theorem zj6 : (zcC a b).k = [(("k" : Str), b)] := by unfold zcC; rfl
theorem zdf : ∃ sc : Scope, sc.names = ziu ∧ sc.kind = .function ∧ (zap "zscale").map (·.scope) = some sc := ⟨_, rfl, rfl, rfl⟩
noncomputable def zcJ : Scope := Classical.choose zdf
theorem zcZ : zcJ.names = ziu := (Classical.choose_spec zdf).1
theorem zl6 : zcJ.kind = .function := (Classical.choose_spec zdf).2.1
theorem zl7 {dr : DefRec} (h : zap "zscale" = some dr) : dr.scope = zcJ := zdv h (Classical.choose_spec zdf).2.2
theorem zqf : zcJ.names.lookup ("p" : Str) = some .local := by rw [zcZ]; rfl
theorem zqg : zcJ.names.lookup ("k" : Str) = some .cell := by rw [zcZ]; rfl
theorem zqh : (ER C (i + 1)).p zcJ (.Name "p" p) (zcC a b) = a := zad rfl (by unfold zcC; exact (zam zqf).trans rfl)
theorem zj7 : (ER C (i + 1)).p zcJ (.Name "k" p) (zcC a b) = b := zad rfl (by unfold zcC; exact (zin zqg).trans rfl)
theorem zl8 {C : Cfg} {xs : List Int} {k : Int} (hC : Cg C) (hl : xs.length < 900) (hk : zbo k) : zeq C "zscale" [D.ints xs, .int k] (D.ints (if k = 0 then [] else xs.map fun x => x * k)) := by
 refine ⟨_, rfl, rfl, ?_⟩
 refine zbU ziu zcJ _ (zl7 rfl) zcZ (znP (some (.f (D.ints xs))) (some (.f (.int k)))) ?_
 have hCp := hC.pins
 have hCr := hC.refs
 have hf : zaI xs.length = true := zae (ygA hl)
 refine zlm (σ1 := zcC (some (.f (D.ints xs))) (some (.f (.int k)))) ?_
 by_cases h0 : k = 0
 · have e : (!(k == 0)) = false := by rw [h0]; rfl
   rw [if_pos h0]
   clear h0 hk
   simp -implicitDefEqProofs only [zcl, zjH, zaY, e_n, zj7, zab, zaZ, zaw, e_c, zaT, zlW, zaU, zjK, zg8, za8, zjL, zby, zdR, zbb, *]
   rfl
 · have e : (!(k == 0)) = true := by simpa using h0
   rw [if_neg h0]
   clear h0
   simp -implicitDefEqProofs only [zcl, zjH, zaY, e_n, zj7, zab, zaZ, zaw, e_c, zaT, zlW, zaU, zgb, zbR, *]
   rw [zbe (ds := xs.map .int) (σ1 := zcC (some (.f (D.ints xs))) (some (.f (.int k)))) (fun j => V.f (.int (xs.getD j 0 * k))) hC.pins (zaH ⟨_, zcZ, rfl⟩) (by rw [zj6]; rfl) rfl rfl (zav rfl) (by decide)]
   · rw [zby, zdR, zfw (g := fun x => x * k)]
   · simp -implicitDefEqProofs only [i_n, e_n, zqh, zab, List.length_map, zdc, zll, *]
   · rw [List.length_map]; exact hf
   · intro j d hd
     obtain rfl := zbL hd
     rw [zj6]
     have e2 : zbh .Mult (xs.getD j 0) k = some (xs.getD j 0 * k) := zbT (.inr hk)
     have h1 := @zqc C
     generalize hsc : zaF _ _ = sc'
     have e1 : sc'.names.lookup ("number" : Str) = some .local := by rw [← hsc]; exact zav rfl
     have e3 : ∀ (i : Nat) (p : Pos) (ρ : zbt), (ER C (i + 1)).p sc' (.Name "k" p) ⟨ρ, [("k", some (.f (.int k)))]⟩ = some (.f (.int k)) := fun i p ρ => zrv (by rw [← hsc]; exact zb9 zl6 (by rw [zcZ]; rfl) rfl) rfl rfl
     clear hsc hk
     simp -implicitDefEqProofs only [q_b, q_n, Bool.and_true, e_b, p_b, zaB, String.reduceBEq, za3, za4, zbN, *]
noncomputable def ziv : List (Str × NameKind) := [("p", .local), ("many", .local), ("len", .globalImplicit), ("list", .globalImplicit)]
@[irreducible] noncomputable def zdW : St := ⟨[("p", a), ("many", b)], []⟩
theorem znQ : ⟨[("p", a), ("many", b)], []⟩ = zdW a b := by unfold zdW; rfl
theorem zdg : ∃ sc : Scope, sc.names = ziv ∧ sc.kind = .function ∧ (zap "zraise").map (·.scope) = some sc := ⟨_, rfl, rfl, rfl⟩
noncomputable def zbM : Scope := Classical.choose zdg
theorem zc0 : zbM.names = ziv := (Classical.choose_spec zdg).1
theorem zvv : zbM.kind = .function := (Classical.choose_spec zdg).2.1
theorem zl9 {dr : DefRec} (h : zap "zraise" = some dr) : dr.scope = zbM := zdv h (Classical.choose_spec zdg).2.2
theorem zqi : zbM.names.lookup ("p" : Str) = some .local := by rw [zc0]; rfl
theorem zkO : zbM.names.lookup ("many" : Str) = some .local := by rw [zc0]; rfl
theorem zma : zbM.names.lookup ("len" : Str) = some .globalImplicit := by rw [zc0]; rfl
theorem zkP : zbM.names.lookup ("list" : Str) = some .globalImplicit := by rw [zc0]; rfl
theorem zj8 : (ER C (i + 1)).p zbM (.Name "p" p) (zdW a b) = a := zad rfl (by unfold zdW; exact (zam zqi).trans rfl)
theorem zkQ : (ER C (i + 1)).p zbM (.Name "many" p) (zdW a b) = b := zad rfl (by unfold zdW; exact (zam zkO).trans rfl)
end
theorem zhc : zar zbM "len" = true := zaz zma
theorem zkR : zar zbM "list" = true := zaz zkP
theorem zmb {C : Cfg} {xs : List Int} {k : Nat} (hC : Cg C) (hl : xs.length < 900) (hk : k < 900) : zeq C "zraise" [D.ints xs, .int k] (D.ints (if xs.length = 0 then [] else List.replicate k 0 ++ xs)) := by
 refine ⟨_, rfl, rfl, ?_⟩
 refine zbU ziv zbM _ (zl9 rfl) zc0 (znQ (some (.f (D.ints xs))) (some (.f (.int k)))) ?_
 have hCp := hC.pins
 have hCr := hC.refs
 have hf : zaI xs.length = true := zae (ygA hl)
 have hf2 : zaI k = true := zae (ygA hk)
 have hf3 : zaI (k + xs.length) = true := zae (yhO hl hk)
 refine zlm (σ1 := zdW (some (.f (D.ints xs))) (some (.f (.int k)))) ?_
 by_cases h0 : xs.length = 0
 · have e : decide ((xs.length : Int) > 0) = false := by rw [decide_eq_false_iff_not]; exact ygQ h0
   rw [if_pos h0]
   clear h0
   simp -implicitDefEqProofs only [zcl, zjH, zaY, za7, decide_true, q_n, Bool.and_true, zck, zhc, zbK, zj8, List.length_map, zbw, zbN, zaZ, zaw, e_c, zaT, zpz, zaU, zjK, zg8, za8, zjL, zby, zdR, zbb, *]
   rfl
 · have e : decide ((xs.length : Int) > 0) = true := by rw [decide_eq_true_eq]; exact ygP h0
   have e1 : k ≤ 100000 := by exact ygA hk
   have e2 : V.frzL (List.replicate k (V.f (D.int 0))) = List.replicate k (D.int 0) := by
    have := zbq (List.replicate k (D.int 0))
    rwa [List.map_replicate] at this
   have e3 : (List.replicate k (D.int 0)).length = k := List.length_replicate
   have e4 : D.ints (List.replicate k 0 ++ xs) = D.lst (List.replicate k (D.int 0) ++ List.map D.int xs) := by unfold D.ints; rw [List.map_append, List.map_replicate]
   rw [if_neg h0]
   clear h0
   simp -implicitDefEqProofs only [zcl, zjH, zaY, za7, decide_true, q_n, Bool.and_true, zck, zhc, zbK, zj8, List.length_map, zbw, zbN, zaZ, zaw, e_c, zaT, zpz, zaU, zgb, q_b, zew, zcX, String.reduceEq, decide_false, Bool.and_false, zj0, zg8, zbd, zaJ, za8, zaK, zgc, zvo, e_n, zkQ, zab, zbD, zg7, zp7, zkR, zlT, zhJ, zih, zbq, zpv, zby, zdR, *]
noncomputable def zsG : List (Str × NameKind) := [("p", .local), ("n", .local), ("found", .local), ("number", .local), ("reversed", .globalImplicit)]
section
variable {C : Cfg} {i : Nat} {p : Pos} (a b c d : Option V)
@[irreducible] noncomputable def zdX : St := ⟨[("p", a), ("n", b), ("found", c), ("number", d)], []⟩
theorem zuz : ⟨[("p", a), ("n", b), ("found", c), ("number", d)], []⟩ = zdX a b c d := by unfold zdX; rfl
theorem zgf : ∃ sc : Scope, sc.names = zsG ∧ sc.kind = .function ∧ (zap "zat").map (·.scope) = some sc := ⟨_, rfl, rfl, rfl⟩
noncomputable def zcQ : Scope := Classical.choose zgf
theorem ze9 : zcQ.names = zsG := (Classical.choose_spec zgf).1
theorem sc_zat_kd : zcQ.kind = .function := (Classical.choose_spec zgf).2.1
theorem zsH {dr : DefRec} (h : zap "zat" = some dr) : dr.scope = zcQ := zdv h (Classical.choose_spec zgf).2.2
theorem zwt : zcQ.names.lookup ("p" : Str) = some .local := by rw [ze9]; rfl
theorem zwu : zcQ.names.lookup ("n" : Str) = some .local := by rw [ze9]; rfl
theorem ziw : zcQ.names.lookup ("found" : Str) = some .local := by rw [ze9]; rfl
theorem zhd : zcQ.names.lookup ("number" : Str) = some .local := by rw [ze9]; rfl
theorem zjM : zcQ.names.lookup ("reversed" : Str) = some .globalImplicit := by rw [ze9]; rfl
theorem zwv : (ER C (i + 1)).p zcQ (.Name "p" p) (zdX a b c d) = a := zad rfl (by unfold zdX; exact (zam zwt).trans rfl)
theorem zww : (ER C (i + 1)).p zcQ (.Name "n" p) (zdX a b c d) = b := zad rfl (by unfold zdX; exact (zam zwu).trans rfl)
theorem zix : (ER C (i + 1)).p zcQ (.Name "found" p) (zdX a b c d) = c := zad rfl (by unfold zdX; exact (zam ziw).trans rfl)
theorem ziy (hp : C.pins = []) (w : V) : St.put C zcQ "found" w (zdX a b c d) = some (zdX a b (some w) d) := zan (by rw [hp]; rfl) (by unfold zdX; exact (zax ziw rfl).trans rfl)
theorem zmc : (ER C (i + 1)).p zcQ (.Name "number" p) (zdX a b c d) = d := zad rfl (by unfold zdX; exact (zam zhd).trans rfl)
theorem zmd (hp : C.pins = []) (w : V) : St.put C zcQ "number" w (zdX a b c d) = some (zdX a b c (some w)) := zan (by rw [hp]; rfl) (by unfold zdX; exact (zax zhd rfl).trans rfl)
end
theorem zjN : zar zcQ "reversed" = true := zaz zjM
theorem zsI {C : Cfg} {xs : List Int} {n : Int} (hC : Cg C) (hl : xs.length < 900) (hn : zbo n) : zeq C "zat" [D.ints xs, .int n] (.int (xs.foldr (fun c acc => c + n * acc) 0)) := by
 refine ⟨_, rfl, rfl, ?_⟩
 refine zbU zsG zcQ _ (zsH rfl) ze9 (zuz (some (.f (D.ints xs))) (some (.f (.int n))) none none) ?_
 have hCp := hC.pins
 have hCr := hC.refs
 have hf : zaI xs.length = true := zae (ygA hl)
 let F : Nat → Option V → St := fun j o => zdX (some (.f (D.ints xs))) (some (.f (.int n))) (some (.f (.int ((xs.drop (xs.length - j)).foldr (fun c acc => c + n * acc) 0)))) o
 refine zj4 (σ1 := F 0 none) ?_ (zsE (zcI (ds := (xs.map D.int).reverse) (pr := false) (σ2 := F 0 none) (fun j σ => ∃ o, σ = F j o) ?_ ⟨none, rfl⟩ ?_) ?_)
 · dsimp only [F]
   rw [Nat.sub_zero, List.drop_length, List.foldr_nil]
   simp -implicitDefEqProofs only [zct, a_n, e_c, zdb, ziy, zaV, *]
 · dsimp only [F]
   simp -implicitDefEqProofs only [zjN, i_rev, e_n, zwv, zab, List.length_map, zhJ, iV_s, *]
 · rintro j d τ hd ⟨o, rfl⟩
   have hj : j < xs.length := by have := (List.getElem?_eq_some_iff.mp hd).1; simpa using this
   rw [List.getElem?_reverse (by simpa using hj), List.length_map] at hd
   obtain rfl := zbL hd
   have e2 : (xs.drop (xs.length - (j + 1))).foldr (fun c acc => c + n * acc) 0 = (xs.drop (xs.length - j)).foldr (fun c acc => c + n * acc) 0 * n + xs.getD (xs.length - 1 - j) 0 := by
    rw [show xs.length - (j + 1) = xs.length - 1 - j by exact yhN, List.drop_eq_getElem_cons (yhM hj), List.foldr_cons, show xs.length - 1 - j + 1 = xs.length - j by exact yau hj, Int.mul_comm, Int.add_comm]
    congr 1
    simp only [List.getD, List.getElem?_eq_getElem (show xs.length - 1 - j < xs.length by exact yhM hj), Option.getD_some]
   have e3 : ∀ a, zbh .Mult a n = some (a * n) := fun a => zbT (.inr hn)
   clear hn hd hl hj hf
   dsimp only [F]
   generalize (xs.drop (xs.length - j)).foldr (fun c acc => c + n * acc) 0 = A at e2 ⊢
   generalize xs.getD (xs.length - 1 - j) 0 = B at e2 ⊢
   refine ⟨zdX (some (.f (D.ints xs))) (some (.f (.int n))) (some (.f (.int A))) (some (.f (.int B))), ?_, zdX (some (.f (D.ints xs))) (some (.f (.int n))) (some (.f (.int (A * n + B)))) (some (.f (.int B))), ?_, _, by rw [e2]⟩
   · clear e2
     simp -implicitDefEqProofs only [zdu, zmd, *]
   · clear e2
     simp -implicitDefEqProofs only [r_s, zdD, zct, a_n, q_b, q_n, Bool.and_true, e_b, p_b, zix, zww, za3, za4, zmc, zaG, zbN, zdb, ziy, zaV, zbx, zer, *]
 · rintro σ ⟨o, rfl⟩
   refine zlm (σ1 := F xs.length o) ?_
   dsimp only [F]
   rw [List.length_reverse, List.length_map, Nat.sub_self, List.drop_zero]
   simp -implicitDefEqProofs only [zcl, e_n, zix, zab, zby, zaw, *]
noncomputable def ziz : List (Str × NameKind) := [("p", .local), ("len", .globalImplicit), ("CasFail", .globalImplicit)]
section
variable {C : Cfg} {i : Nat} {p : Pos} (a : Option V)
@[irreducible] noncomputable def zgg : St := ⟨[("p", a)], []⟩
theorem znR : ⟨[("p", a)], []⟩ = zgg a := by unfold zgg; rfl
theorem zdh : ∃ sc : Scope, sc.names = ziz ∧ sc.kind = .function ∧ (zap "check_bottom").map (·.scope) = some sc := ⟨_, rfl, rfl, rfl⟩
noncomputable def zcK : Scope := Classical.choose zdh
theorem zfN : zcK.names = ziz := (Classical.choose_spec zdh).1
theorem zvw : zcK.kind = .function := (Classical.choose_spec zdh).2.1
theorem zme {dr : DefRec} (h : zap "check_bottom" = some dr) : dr.scope = zcK := zdv h (Classical.choose_spec zdh).2.2
theorem zqj : zcK.names.lookup ("p" : Str) = some .local := by rw [zfN]; rfl
theorem zmf : zcK.names.lookup ("len" : Str) = some .globalImplicit := by rw [zfN]; rfl
theorem zqk : (ER C (i + 1)).p zcK (.Name "p" p) (zgg a) = a := zad rfl (by unfold zgg; exact (zam zqj).trans rfl)
end
theorem zmg : zar zcK "len" = true := zaz zmf
theorem zmh {C : Cfg} {xs : List Int} (hC : Cg C) (hl : xs.length < 900) (h0 : 0 < xs.length) : zeq C "check_bottom" [D.ints xs] .none := by
 refine ⟨_, rfl, rfl, ?_⟩
 refine zwr ziz zcK _ (zme rfl) zfN (znR (some (.f (D.ints xs)))) ?_
 have hCp := hC.pins
 have hCr := hC.refs
 have hf : zaI xs.length = true := zae (ygA hl)
 have e : ((xs.length : Int) == 0) = false := by rw [beq_eq_false_iff_ne]; exact ygY h0
 refine zj4 (σ1 := zgg (some (.f (D.ints xs)))) ?_ ⟨_, rfl⟩
 clear h0
 simp -implicitDefEqProofs only [zes, zaY, za7, decide_true, q_n, Bool.and_true, zck, zmg, zbK, zqk, List.length_map, zbw, zbN, zaZ, zaw, e_c, zaT, zjI, zaU, zcW, r_s, zer, *]
noncomputable def zhe (a b : List Int) : List Int := (List.range (max a.length b.length)).map fun j => a.getD j 0 + b.getD j 0
noncomputable def znS : List (Str × NameKind) := [("a", .cell), ("b", .cell), ("size", .local), ("max", .globalImplicit), ("len", .globalImplicit), ("ztrim", .globalImplicit), ("range", .globalImplicit)]
section
variable {C : Cfg} {i : Nat} {p : Pos} (a b c : Option V)
@[irreducible] noncomputable def zdi : St := ⟨[("size", a)], [("a", b), ("b", c)]⟩
theorem zsJ : ⟨[("size", a)], [("a", b), ("b", c)]⟩ = zdi a b c := by unfold zdi; rfl
theorem zpD : (zdi a b c).k = [(("a" : Str), b), (("b" : Str), c)] := by unfold zdi; rfl
theorem zfa : ∃ sc : Scope, sc.names = znS ∧ sc.kind = .function ∧ (zap "zadd").map (·.scope) = some sc := ⟨_, rfl, rfl, rfl⟩
noncomputable def zbH : Scope := Classical.choose zfa
theorem zbV : zbH.names = znS := (Classical.choose_spec zfa).1
theorem zj9 : zbH.kind = .function := (Classical.choose_spec zfa).2.1
theorem zql {dr : DefRec} (h : zap "zadd" = some dr) : dr.scope = zbH := zdv h (Classical.choose_spec zfa).2.2
theorem zuA : zbH.names.lookup ("a" : Str) = some .cell := by rw [zbV]; rfl
theorem zuB : zbH.names.lookup ("b" : Str) = some .cell := by rw [zbV]; rfl
theorem ziA : zbH.names.lookup ("size" : Str) = some .local := by rw [zbV]; rfl
theorem zqm : zbH.names.lookup ("max" : Str) = some .globalImplicit := by rw [zbV]; rfl
theorem zqn : zbH.names.lookup ("len" : Str) = some .globalImplicit := by rw [zbV]; rfl
theorem zmi : zbH.names.lookup ("ztrim" : Str) = some .globalImplicit := by rw [zbV]; rfl
theorem zmj : zbH.names.lookup ("range" : Str) = some .globalImplicit := by rw [zbV]; rfl
theorem zuC : (ER C (i + 1)).p zbH (.Name "a" p) (zdi a b c) = b := zad rfl (by unfold zdi; exact (zin zuA).trans rfl)
theorem zuD : (ER C (i + 1)).p zbH (.Name "b" p) (zdi a b c) = c := zad rfl (by unfold zdi; exact (zin zuB).trans rfl)
theorem znT : (ER C (i + 1)).p zbH (.Name "size" p) (zdi a b c) = a := zad rfl (by unfold zdi; exact (zam ziA).trans rfl)
theorem znU (hp : C.pins = []) (w : V) : St.put C zbH "size" w (zdi a b c) = some (zdi (some w) b c) := zan (by rw [hp]; rfl) (by unfold zdi; exact (zax ziA rfl).trans rfl)
end
theorem zqo : zar zbH "max" = true := zaz zqm
theorem zqp : zar zbH "len" = true := zaz zqn
theorem zmk {C : Cfg} (hr : C.refs = refs) : zch C zbH "ztrim" = true := zbl hr zmi rfl
theorem zml : zar zbH "range" = true := zaz zmj
theorem zqq {C : Cfg} {a b : List Int} (hC : Cg C) (ha : a.length < 900) (hb : b.length < 900) (hT : ∀ xs : List Int, xs.length < 900 → C.T "ztrim" [D.ints xs] = some (D.ints (trim xs))) : zeq C "zadd" [D.ints a, D.ints b] (D.ints (trim (zhe a b))) := by
 refine ⟨_, rfl, rfl, ?_⟩
 refine zbU znS zbH _ (zql rfl) zbV (zsJ none (some (.f (D.ints a))) (some (.f (D.ints b)))) ?_
 have hCp := hC.pins
 have hCr := hC.refs
 have hfa : zaI a.length = true := zae (ygA ha)
 have hfb : zaI b.length = true := zae (ygA hb)
 have em : max (a.length : Int) (b.length : Int) = ((max a.length b.length : Nat) : Int) := by exact yhL
 let τ : St := zdi (some (.f (.int ((max a.length b.length : Nat) : Int)))) (some (.f (D.ints a))) (some (.f (D.ints b)))
 refine zj4 (σ1 := τ) ?_ (zlm (σ1 := τ) ?_)
 · dsimp only [τ]
   simp -implicitDefEqProofs only [zct, a_n, zqo, e_max, za7, decide_true, q_n, Bool.and_true, zck, zqp, zbK, zuC, List.length_map, zbw, zbN, zbD, zsk, zuD, zsl, zdb, znU, zaV, *]
 · dsimp only [τ]
   have hT' := hT (zhe a b) (by unfold zhe; rw [List.length_map, List.length_range]; exact yhK ha hb)
   have hm : max a.length b.length ≤ 100000 := by exact yhJ ha hb
   clear hT
   simp -implicitDefEqProofs only [zcl, zmk, zbS, zbd, zbR, *]
   rw [zbe (ds := zb6 0 (max a.length b.length)) (σ1 := τ) (fun j => V.f (.int (a.getD j 0 + b.getD j 0))) hC.pins (zaH ⟨_, zbV, rfl⟩) (by rw [zpD]; rfl) rfl rfl (zav rfl) (by decide)]
   · have e9 : V.frzL [V.o ((List.range (zb6 0 (max a.length b.length)).length).map fun j => V.f (.int (a.getD j 0 + b.getD j 0)))] = [D.ints (zhe a b)] := by
      rw [zbj, zdR, zhY, zbb, zaD]
      unfold zhe D.ints
      rw [List.map_map]; rfl
     rw [zaJ, za8, zaK, zhX, e9, hT', zcV, zby, zaw]
   · simp -implicitDefEqProofs only [zml, zqa, e_n, znT, zab, zbD, zgL, *]
     rfl
   · rw [zaD]; exact zae (yhI hm)
   · intro j d hd
     obtain ⟨rfl, hj⟩ := zaS hd
     rw [Int.zero_add, show τ.k = [(("a" : Str), some (V.f (D.ints a))), (("b" : Str), some (V.f (D.ints b)))] from zpD ..]
     have h1 := @zqc C
     generalize hsc : zaF _ _ = sc'
     have e1 : sc'.names.lookup ("at" : Str) = some .local := by rw [← hsc]; exact zav rfl
     have e2 : ∀ (i : Nat) (p : Pos) (ρ : zbt), (ER C (i + 1)).p sc' (.Name "a" p) ⟨ρ, [("a", some (.f (D.ints a))), ("b", some (.f (D.ints b)))]⟩ = some (.f (D.ints a)) := fun i p ρ => zrv (by rw [← hsc]; exact zb9 zj9 (by rw [zbV]; rfl) rfl) rfl rfl
     have e3 : ∀ (i : Nat) (p : Pos) (ρ : zbt), (ER C (i + 1)).p sc' (.Name "b" p) ⟨ρ, [("a", some (.f (D.ints a))), ("b", some (.f (D.ints b)))]⟩ = some (.f (D.ints b)) := fun i p ρ => zrv (by rw [← hsc]; exact zb9 zj9 (by rw [zbV]; rfl) rfl) rfl rfl
     have e4 : zar sc' "len" = true := zaz (by rw [← hsc]; exact zdw rfl)
     clear hsc
     clear hd hT'
     have i1 : idx (List.map D.int a) (j : Int) = (a[j]?).map .int := by rw [zez _ _ (yhH hm hj), getElem?_ints]
     have i2 : idx (List.map D.int b) (j : Int) = (b[j]?).map .int := by rw [zez _ _ (yhH hm hj), getElem?_ints]
     rcases Nat.lt_or_ge j a.length with qa | qa <;> rcases Nat.lt_or_ge j b.length with qb | qb
     · have c1 : decide ((j : Int) < (a.length : Int)) = true := by rw [decide_eq_true_eq]; exact ygX qa
       have c2 : decide ((j : Int) < (b.length : Int)) = true := by rw [decide_eq_true_eq]; exact ygX qb
       have g1 : a[j]? = some (a.getD j 0) := by simp [List.getD, List.getElem?_eq_getElem qa]
       have g2 : b[j]? = some (b.getD j 0) := by simp [List.getD, List.getElem?_eq_getElem qb]
       rw [g1, Option.map_some] at i1
       rw [g2, Option.map_some] at i2
       clear g1 g2 qa qb
       simp -implicitDefEqProofs only [q_b, q_if, Bool.and_false, zj0, zjH, zaY, e_n, zaB, String.reduceBEq, zab, zaZ, zaw, za7, decide_true, q_n, Bool.and_true, zck, zbK, List.length_map, zbw, zbN, zaT, zsr, zaU, zgb, q_s, e_s, p_s, zei, znD, zur, zbD, zkG, zaG, zkH, *]
     · have c1 : decide ((j : Int) < (a.length : Int)) = true := by rw [decide_eq_true_eq]; exact ygX qa
       have c2 : decide ((j : Int) < (b.length : Int)) = false := by rw [decide_eq_false_iff_not]; exact yhG qb
       have g1 : a[j]? = some (a.getD j 0) := by simp [List.getD, List.getElem?_eq_getElem qa]
       have g2 : b.getD j 0 = 0 := by simp [List.getD, List.getElem?_eq_none qb]
       rw [g1, Option.map_some] at i1
       rw [g2]
       clear g1 i2 qa qb g2
       simp -implicitDefEqProofs only [q_b, q_if, Bool.and_false, zj0, zjH, zaY, e_n, zaB, String.reduceBEq, zab, zaZ, zaw, za7, decide_true, q_n, Bool.and_true, zck, zbK, List.length_map, zbw, zbN, zaT, zsr, zaU, zgb, q_s, e_s, p_s, zei, znD, zur, zjK, e_c, zbD, zkG, zaG, zkH, *]
     · have c1 : decide ((j : Int) < (a.length : Int)) = false := by rw [decide_eq_false_iff_not]; exact yhG qa
       have c2 : decide ((j : Int) < (b.length : Int)) = true := by rw [decide_eq_true_eq]; exact ygX qb
       have g1 : a.getD j 0 = 0 := by simp [List.getD, List.getElem?_eq_none qa]
       have g2 : b[j]? = some (b.getD j 0) := by simp [List.getD, List.getElem?_eq_getElem qb]
       rw [g2, Option.map_some] at i2
       rw [g1]
       clear g2 i1 qa qb g1
       simp -implicitDefEqProofs only [q_b, q_if, Bool.and_false, zj0, zjH, zaY, e_n, zaB, String.reduceBEq, zab, zaZ, zaw, za7, decide_true, q_n, Bool.and_true, zck, zbK, List.length_map, zbw, zbN, zaT, zsr, zaU, zjK, e_c, zur, zgb, q_s, e_s, p_s, zei, znD, zbD, zkG, zaG, zkH, *]
     · exact (yhF hj qa qb).elim
noncomputable def znV : List (Str × NameKind) := [("a", .local), ("b", .local), ("zadd", .globalImplicit), ("zneg", .globalImplicit)]
section
variable {C : Cfg} {i : Nat} {p : Pos} (a b : Option V)
@[irreducible] noncomputable def ziB : St := ⟨[("a", a), ("b", b)], []⟩
theorem zsK : ⟨[("a", a), ("b", b)], []⟩ = ziB a b := by unfold ziB; rfl
theorem zfb : ∃ sc : Scope, sc.names = znV ∧ sc.kind = .function ∧ (zap "zsub").map (·.scope) = some sc := ⟨_, rfl, rfl, rfl⟩
noncomputable def zcP : Scope := Classical.choose zfb
theorem zeB : zcP.names = znV := (Classical.choose_spec zfb).1
theorem sc_zsub_kd : zcP.kind = .function := (Classical.choose_spec zfb).2.1
theorem zqr {dr : DefRec} (h : zap "zsub" = some dr) : dr.scope = zcP := zdv h (Classical.choose_spec zfb).2.2
theorem zuE : zcP.names.lookup ("a" : Str) = some .local := by rw [zeB]; rfl
theorem zuF : zcP.names.lookup ("b" : Str) = some .local := by rw [zeB]; rfl
theorem znW : zcP.names.lookup ("zadd" : Str) = some .globalImplicit := by rw [zeB]; rfl
theorem znX : zcP.names.lookup ("zneg" : Str) = some .globalImplicit := by rw [zeB]; rfl
theorem zuG : (ER C (i + 1)).p zcP (.Name "a" p) (ziB a b) = a := zad rfl (by unfold ziB; exact (zam zuE).trans rfl)
theorem zuH : (ER C (i + 1)).p zcP (.Name "b" p) (ziB a b) = b := zad rfl (by unfold ziB; exact (zam zuF).trans rfl)
end
theorem znY {C : Cfg} (hr : C.refs = refs) : zch C zcP "zadd" = true := zbl hr znW rfl
theorem znZ {C : Cfg} (hr : C.refs = refs) : zch C zcP "zneg" = true := zbl hr znX rfl
theorem zqs {C : Cfg} {a b : List Int} (hC : Cg C) (ha : a.length < 900) (hb : b.length < 900) (hT : ∀ a b : List Int, a.length < 900 → b.length < 900 → C.T "zadd" [D.ints a, D.ints b] = some (D.ints (trim (zhe a b))))
 (hN : ∀ a : List Int, a.length < 900 → C.T "zneg" [D.ints a] = some (D.ints (a.map fun x => -x))) : zeq C "zsub" [D.ints a, D.ints b] (D.ints (trim (zhe a (b.map fun x => -x)))) := by
 refine ⟨_, rfl, rfl, ?_⟩
 refine zbU znV zcP _ (zqr rfl) zeB (zsK (some (.f (D.ints a))) (some (.f (D.ints b)))) ?_
 have hCp := hC.pins
 have hCr := hC.refs
 refine zlm (σ1 := ziB (some (.f (D.ints a))) (some (.f (D.ints b)))) ?_
 have hN' := hN b hb
 have hT' := hT a (b.map fun x => -x) ha (by rw [List.length_map]; exact hb)
 clear hT hN
 simp -implicitDefEqProofs only [zcl, znY, zbS, zbd, e_n, zuG, zab, zaJ, znZ, zuH, za8, zaK, zhX, zbj, zaw, zbb, zcV, zby, *]
theorem zsL : ∀ {ds : List D} {i : Int} {j : Nat} {d : D}, (zfn i ds)[j]? = some d → ∃ x, ds[j]? = some x ∧ d = .tup [.int (i + j), x] := by
 intro ds
 induction ds with
 | nil => intro i j d h; cases h
 | cons x ds ih =>
  intro i j d h
  cases j with
  | zero =>
   simp only [zfn, List.getElem?_cons_zero, Option.some.injEq] at h
   exact ⟨x, rfl, by subst h; simp⟩
  | succ j =>
   simp only [zfn, List.getElem?_cons_succ] at h
   obtain ⟨y, h1, h2⟩ := ih h
   refine ⟨y, by simpa using h1, ?_⟩
   rw [h2, show i + 1 + (j : Int) = i + ((j + 1 : Nat) : Int) by exact yhE]
theorem zh0 (ds : List D) : ∀ i : Int, (zfn i ds).length = ds.length := by
 induction ds with
 | nil => exact fun _ => rfl
 | cons x ds ih => intro i; rw [zfn, List.length_cons, ih, List.length_cons]
theorem zgh {a : List Int} {j : Nat} {d : D} (h : (zfn 0 (a.map D.int))[j]? = some d) : j < a.length ∧ d = .tup [.int (j : Int), .int (a.getD j 0)] := by
 obtain ⟨x, h1, h2⟩ := zsL h
 obtain rfl := zbL h1
 refine ⟨?_, by rw [h2, Int.zero_add]⟩
 have := (List.getElem?_eq_some_iff.mp h1).1
 simpa using this
theorem zpE {k : Nat} : List.replicate k (V.f (D.int 0)) = ((List.replicate k (0 : Int)).map D.int).map V.f := by rw [List.map_replicate, List.map_replicate]
theorem zvx {l : List Int} {k : Nat} {v : Int} : ((l.map D.int).map V.f).set k (V.f (D.int v)) = ((l.set k v).map D.int).map V.f := by rw [List.map_set, List.map_set]
noncomputable def zqt (l : List Int) (k : Nat) (v : Int) : List Int := l.set k (l.getD k 0 + v)
noncomputable def zdj (b : List Int) (c : Int) (i : Nat) (l : List Int) : Nat → List Int
 | 0 => l
 | j + 1 => zqt (zdj b c i l j) (i + j) (c * b.getD j 0)
noncomputable def zeC (a b l : List Int) : Nat → List Int
 | 0 => l
 | i + 1 => if a.getD i 0 = 0 then zeC a b l i else zdj b (a.getD i 0) i (zeC a b l i) b.length
noncomputable def zb0 (a b : List Int) : List Int := if a.length = 0 ∨ b.length = 0 then [] else zeC a b (List.replicate (a.length + b.length - 1) 0) a.length
theorem zgP (b : List Int) (c : Int) (i : Nat) (l : List Int) : ∀ j, (zdj b c i l j).length = l.length := by
 intro j
 induction j with
 | zero => rfl
 | succ j ih => rw [zdj, zqt, List.length_set, ih]
theorem zgi (a b l : List Int) : ∀ j, (zeC a b l j).length = l.length := by
 intro j
 induction j with
 | zero => rfl
 | succ j ih =>
  rw [zeC]
  by_cases h : a.getD j 0 = 0
  · rw [if_pos h, ih]
  · rw [if_neg h, zgP, ih]
noncomputable def zn0 : List (Str × NameKind) := [("a", .local), ("b", .local), ("found", .local), ("one", .local), ("left", .local), ("other", .local), ("right", .local), ("len", .globalImplicit), ("enumerate", .globalImplicit)]
section
variable {C : Cfg} {i : Nat} {p : Pos} (a b c d e f g : Option V)
@[irreducible] noncomputable def za1 : St := ⟨[("a", a), ("b", b), ("found", c), ("one", d), ("left", e), ("other", f), ("right", g)], []⟩
theorem zsM : ⟨[("a", a), ("b", b), ("found", c), ("one", d), ("left", e), ("other", f), ("right", g)], []⟩ = za1 a b c d e f g := by unfold za1; rfl
theorem zfc : ∃ sc : Scope, sc.names = zn0 ∧ sc.kind = .function ∧ (zap "zmul").map (·.scope) = some sc := ⟨_, rfl, rfl, rfl⟩
noncomputable def za5 : Scope := Classical.choose zfc
theorem zb4 : za5.names = zn0 := (Classical.choose_spec zfc).1
theorem sc_zmul_kd : za5.kind = .function := (Classical.choose_spec zfc).2.1
theorem zqu {dr : DefRec} (h : zap "zmul" = some dr) : dr.scope = za5 := zdv h (Classical.choose_spec zfc).2.2
theorem zuI : za5.names.lookup ("a" : Str) = some .local := by rw [zb4]; rfl
theorem zuJ : za5.names.lookup ("b" : Str) = some .local := by rw [zb4]; rfl
theorem zdk : za5.names.lookup ("found" : Str) = some .local := by rw [zb4]; rfl
theorem zka : za5.names.lookup ("one" : Str) = some .local := by rw [zb4]; rfl
theorem ziC : za5.names.lookup ("left" : Str) = some .local := by rw [zb4]; rfl
theorem zhf : za5.names.lookup ("other" : Str) = some .local := by rw [zb4]; rfl
theorem zhg : za5.names.lookup ("right" : Str) = some .local := by rw [zb4]; rfl
theorem zqv : za5.names.lookup ("len" : Str) = some .globalImplicit := by rw [zb4]; rfl
theorem zhK : za5.names.lookup ("enumerate" : Str) = some .globalImplicit := by rw [zb4]; rfl
theorem zgj : (ER C (i + 1)).p za5 (.Name "a" p) (za1 a b c d e f g) = a := zad rfl (by unfold za1; exact (zam zuI).trans rfl)
theorem zh1 : (ER C (i + 1)).p za5 (.Name "b" p) (za1 a b c d e f g) = b := zad rfl (by unfold za1; exact (zam zuJ).trans rfl)
theorem zmm : (ER C (i + 1)).p za5 (.Name "found" p) (za1 a b c d e f g) = c := zad rfl (by unfold za1; exact (zam zdk).trans rfl)
theorem zhh : St.get za5 "found" (za1 a b c d e f g) = c := (by unfold za1; exact (zam zdk).trans rfl)
theorem zhi (w : V) : St.set za5 "found" w (za1 a b c d e f g) = some (za1 a b (some w) d e f g) := (by unfold za1; exact (zax zdk rfl).trans rfl)
theorem zmn (hp : C.pins = []) (w : V) : St.put C za5 "found" w (za1 a b c d e f g) = some (za1 a b (some w) d e f g) := zan (by rw [hp]; rfl) (by unfold za1; exact (zax zdk rfl).trans rfl)
theorem zqw : (ER C (i + 1)).p za5 (.Name "one" p) (za1 a b c d e f g) = d := zad rfl (by unfold za1; exact (zam zka).trans rfl)
theorem zqx (hp : C.pins = []) (w : V) : St.put C za5 "one" w (za1 a b c d e f g) = some (za1 a b c (some w) e f g) := zan (by rw [hp]; rfl) (by unfold za1; exact (zax zka rfl).trans rfl)
theorem zfO : (ER C (i + 1)).p za5 (.Name "left" p) (za1 a b c d e f g) = e := zad rfl (by unfold za1; exact (zam ziC).trans rfl)
theorem zn1 (hp : C.pins = []) (w : V) : St.put C za5 "left" w (za1 a b c d e f g) = some (za1 a b c d (some w) f g) := zan (by rw [hp]; rfl) (by unfold za1; exact (zax ziC rfl).trans rfl)
theorem zmo : (ER C (i + 1)).p za5 (.Name "other" p) (za1 a b c d e f g) = f := zad rfl (by unfold za1; exact (zam zhf).trans rfl)
theorem zmp (hp : C.pins = []) (w : V) : St.put C za5 "other" w (za1 a b c d e f g) = some (za1 a b c d e (some w) g) := zan (by rw [hp]; rfl) (by unfold za1; exact (zax zhf rfl).trans rfl)
theorem zmq : (ER C (i + 1)).p za5 (.Name "right" p) (za1 a b c d e f g) = g := zad rfl (by unfold za1; exact (zam zhg).trans rfl)
theorem zmr (hp : C.pins = []) (w : V) : St.put C za5 "right" w (za1 a b c d e f g) = some (za1 a b c d e f (some w)) := zan (by rw [hp]; rfl) (by unfold za1; exact (zax zhg rfl).trans rfl)
end
theorem zfd : zar za5 "len" = true := zaz zqv
theorem zek : zar za5 "enumerate" = true := zaz zhK
theorem zqy {C : Cfg} {a b : List Int} (hC : Cg C) (ha : a.length < 900) (hb : b.length < 900) (hs : ∀ x ∈ a, zbo x) : zeq C "zmul" [D.ints a, D.ints b] (D.ints (zb0 a b)) := by
 refine ⟨_, rfl, rfl, ?_⟩
 refine zbU zn0 za5 _ (zqu rfl) zb4 (zsM (some (.f (D.ints a))) (some (.f (D.ints b))) none none none none none) ?_
 have hCp := hC.pins
 have hCr := hC.refs
 have hfa : zaI a.length = true := zae (ygA ha)
 have hfb : zaI b.length = true := zae (ygA hb)
 unfold zb0
 by_cases h0 : a.length = 0 ∨ b.length = 0
 · rw [if_pos h0]
   refine zlm (σ1 := za1 (some (.f (D.ints a))) (some (.f (D.ints b))) none none none none none) ?_
   by_cases h1 : a.length = 0
   · have c1 : ((a.length : Int) == 0) = true := by rw [beq_iff_eq]; exact yhD h1
     clear h0 h1 hs
     simp -implicitDefEqProofs only [zes, t_or, zaY, za7, decide_true, q_n, Bool.and_true, zck, zfd, zbK, zgj, List.length_map, zbw, zbN, zaZ, zaw, e_c, zaT, zjI, zaU, tOr_t, zgd, r_s, zdD, zcl, zg8, za8, zjL, zby, zdR, zbb, zg9, *]
     rfl
   · have c1 : ((a.length : Int) == 0) = false := by rw [beq_eq_false_iff_ne]; exact yhC h1
     have c2 : ((b.length : Int) == 0) = true := by rw [beq_iff_eq]; exact yhB h0 h1
     clear h0 h1 hs
     simp -implicitDefEqProofs only [zes, t_or, zaY, za7, decide_true, q_n, Bool.and_true, zck, zfd, zbK, zgj, List.length_map, zbw, zbN, zaZ, zaw, e_c, zaT, zjI, zaU, zwf, zh1, zgd, r_s, zdD, zcl, zg8, za8, zjL, zby, zdR, zbb, zg9, *]
     rfl
 rw [if_neg h0]
 have c1 : ((a.length : Int) == 0) = false := by rw [beq_eq_false_iff_ne]; exact yhA h0
 have c2 : ((b.length : Int) == 0) = false := by rw [beq_eq_false_iff_ne]; exact yhz h0
 have hla : (List.replicate (a.length + b.length - 1) (0 : Int)).length = a.length + b.length - 1 := List.length_replicate
 let F : List Int → Option V → Option V → Option V → Option V → St := fun l o1 o2 o3 o4 => za1 (some (.f (D.ints a))) (some (.f (D.ints b))) (some (V.o ((l.map D.int).map V.f))) o1 o2 o3 o4
 refine zj4 (σ1 := za1 (some (.f (D.ints a))) (some (.f (D.ints b))) none none none none none) ?_ (zj4 (σ1 := F (List.replicate (a.length + b.length - 1) 0) none none none none) ?_ ?_)
 · clear hs h0
   simp -implicitDefEqProofs only [zes, t_or, zaY, za7, decide_true, q_n, Bool.and_true, zck, zfd, zbK, zgj, List.length_map, zbw, zbN, zaZ, zaw, e_c, zaT, zjI, zaU, zwf, zh1, zcW, r_s, zer, *]
 · have e1 : (a.length : Int) + (b.length : Int) - 1 = ((a.length + b.length - 1 : Nat) : Int) := by exact ybf h0
   have e2 : a.length + b.length - 1 ≤ 100000 := by exact yaS ha hb
   clear hs h0
   dsimp only [F]
   rw [← zpE]
   simp -implicitDefEqProofs only [zct, a_n, q_b, zew, za7, decide_true, q_n, Bool.and_true, q_c, zj0, zg8, zbd, e_c, zaJ, za8, zaK, zgc, zvo, e_b, p_b, zfd, zbK, zgj, List.length_map, zbw, zh1, za3, zaG, za4, p_c, zaN, zbN, zbD, zg7, zaw, zdb, zmn, zaV, *]
 · generalize List.replicate (a.length + b.length - 1) (0 : Int) = Z at hla ⊢
   refine zsE (zcI (ds := zfn 0 (a.map D.int)) (pr := true) (σ2 := F Z none none none none) (fun j σ => ∃ o1 o2 o3 o4, σ = F (zeC a b Z j) o1 o2 o3 o4) ?_ ⟨none, none, none, none, rfl⟩ ?_) ?_
   · clear hs h0
     dsimp only [F]
     simp -implicitDefEqProofs only [zek, zpC, e_n, zgj, zab, List.length_map, zhJ, iE_s, *]
   · rintro j d τ hd ⟨o1, o2, o3, o4, rfl⟩
     obtain ⟨hj, rfl⟩ := zgh hd
     have hsm := hs (a.getD j 0) (by simp only [List.getD, List.getElem?_eq_getElem hj, Option.getD_some]; exact List.getElem_mem hj)
     have hm : ∀ y, zbh .Mult (a.getD j 0) y = some (a.getD j 0 * y) := fun y => zbT (.inl hsm)
     have hlen : (zeC a b Z j).length = a.length + b.length - 1 := by rw [zgi]; exact hla
     have hmg : zeC a b Z (j + 1) = if a.getD j 0 = 0 then zeC a b Z j else zdj b (a.getD j 0) j (zeC a b Z j) b.length := rfl
     clear hs hd hsm
     refine ⟨F (zeC a b Z j) (some (.f (.int (j : Int)))) (some (.f (.int (a.getD j 0)))) o3 o4, ?_, ?_⟩
     · dsimp only [F]
       clear hm h0 hmg
       simp -implicitDefEqProofs only [zlZ, List.map_cons, List.map_nil, zb3, zqx, zbC, zn1, zcd, *]
     rw [hmg]
     generalize a.getD j 0 = x at hm ⊢
     generalize zeC a b Z j = l0 at hlen ⊢
     clear hmg hla
     by_cases hz : x = 0
     · rw [if_pos hz]
       have e1 : (!(x == 0)) = false := by rw [hz]; rfl
       refine zru (zdd (nx_if (σ1 := F l0 (some (.f (.int (j : Int)))) (some (.f (.int x))) o3 o4) false ?_ (zru (zvu ⟨_, _, _, _, rfl⟩))))
       dsimp only [F]
       clear hz hm h0 hlen
       simp -implicitDefEqProofs only [zaY, e_n, zfO, zab, zaZ, zaw, e_c, zaT, zlW, zaU, *]
     · rw [if_neg hz]
       have e1 : (!(x == 0)) = true := by simpa using hz
       refine zru (zdd (nx_if (σ1 := F l0 (some (.f (.int (j : Int)))) (some (.f (.int x))) o3 o4) true ?_ (zru (zdd (zis (zcI (ds := zfn 0 (b.map D.int)) (pr := true) (σ2 := F l0 (some (.f (.int (j : Int)))) (some (.f (.int x))) o3 o4)
        (fun t σ => ∃ o3 o4, σ = F (zdj b x j l0 t) (some (.f (.int (j : Int)))) (some (.f (.int x))) o3 o4) ?_ ⟨_, _, rfl⟩ ?_) ?_)))))
       · dsimp only [F]
         clear hz hm h0 hlen
         simp -implicitDefEqProofs only [zaY, e_n, zfO, zab, zaZ, zaw, e_c, zaT, zlW, zaU, *]
       · dsimp only [F]
         clear hz hm h0 hlen
         simp -implicitDefEqProofs only [zek, zpC, e_n, zh1, zab, List.length_map, zhJ, iE_s, *]
       · rintro t d τ hd ⟨o3, o4, rfl⟩
         obtain ⟨ht, rfl⟩ := zgh hd
         have hl2 : (zdj b x j l0 t).length = a.length + b.length - 1 := by rw [zgP, hlen]
         refine ⟨F (zdj b x j l0 t) (some (.f (.int (j : Int)))) (some (.f (.int x))) (some (.f (.int (t : Int)))) (some (.f (.int (b.getD t 0)))), ?_, F (zdj b x j l0 (t + 1)) (some (.f (.int (j : Int)))) (some (.f (.int x))) (some (.f (.int (t : Int)))) (some (.f (.int (b.getD t 0)))), ?_, _, _, rfl⟩
         · dsimp only [F]
           clear hz hm h0 hlen hl2 hd
           simp -implicitDefEqProofs only [zlZ, List.map_cons, List.map_nil, zb3, zmp, zbC, zmr, zcd, *]
         · show _ = some (Fl.next, F (zqt (zdj b x j l0 t) (j + t) (x * b.getD t 0)) _ _ _ _)
           generalize zdj b x j l0 t = l at hl2 ⊢
           have e1 : (j : Int) + (t : Int) = ((j + t : Nat) : Int) := by exact ygf
           have e2 : idx ((l.map D.int).map V.f) ((j + t : Nat) : Int) = some (V.f (.int (l.getD (j + t) 0))) := by
            rw [zez _ _ (ybK ha hb hj ht)]
            simp [List.getD, List.getElem?_eq_getElem (show j + t < l.length by exact yaB hj ht hl2)]
           have e4 := fun (w : Int) => (ze6 (k := j + t) (v := V.f (D.int w)) (zhh (some (.f (D.ints a))) (some (.f (D.ints b))) (some (V.o ((l.map D.int).map V.f))) (some (.f (.int (j : Int)))) (some (.f (.int x))) (some (.f (.int (t : Int)))) (some (.f (.int (b.getD t 0))))) (by simp only [List.length_map]; exact yaB hj ht hl2) (ybL ha hb hj ht)).trans ((zhi _ _ _ _ _ _ _ _).trans (by rw [zvx]))
           unfold zqt
           dsimp only [F]
           clear hz h0 hlen hl2 hd
           simp -implicitDefEqProofs only [r_s, zdD, zp9, q_b, q_n, Bool.and_true, zaB, String.reduceBEq, g_xa, zhh, p_b, zqw, zmo, za3, zaG, za4, gX1_s, zfO, zmq, gX2_s, gX3_s, zaV, zbx, zer, *]
       · rintro σ ⟨o3, o4, rfl⟩
         rw [zh0, List.length_map]
         exact ⟨_, _, _, _, rfl⟩
   · rintro σ1 ⟨o1, o2, o3, o4, rfl⟩
     rw [zh0, List.length_map]
     refine zlm (σ1 := za1 (some (.f (D.ints a))) (some (.f (D.ints b))) (some (.f (D.ints (zeC a b Z a.length)))) o1 o2 o3 o4) ?_
     dsimp only [F]
     generalize zeC a b Z a.length = l
     clear hs h0
     simp -implicitDefEqProofs only [zcl, e_n, zmm, zbu, zbq, zhi, zcs, zby, zaw, *]
noncomputable def ev (l : List Int) (X : Int) : Int := l.foldr (fun c acc => c + X * acc) 0
theorem zbr (X : Int) : ev [] X = 0 := rfl
theorem zba (c : Int) (l : List Int) (X : Int) : ev (c :: l) X = c + X * ev l X := rfl
theorem ziD (a b : List Int) (X : Int) : ev (a ++ b) X = ev a X + X ^ a.length * ev b X := by
 induction a with
 | nil => simp [zbr]
 | cons c a ih => simp only [List.cons_append, zba, ih, List.length_cons]; grind
theorem zdY (n : Nat) (X : Int) : ev (List.replicate n 0) X = 0 := by
 induction n with
 | zero => rfl
 | succ n ih => simp only [List.replicate_succ, zba, ih]; grind
theorem zh2 (l : List Int) (k X : Int) : ev (l.map fun x => x * k) X = ev l X * k := by
 induction l with
 | nil => simp [zbr]
 | cons c l ih => simp only [List.map_cons, zba, ih]; grind
theorem zvy (l : List Int) (X : Int) : ev (l.map fun x => -x) X = -ev l X := by
 induction l with
 | nil => simp [zbr]
 | cons c l ih => simp only [List.map_cons, zba, ih]; grind
theorem zaq (c : Int) (l : List Int) (j : Nat) : (c :: l).getD (j + 1) 0 = l.getD j 0 := by simp [List.getD]
theorem zcL (j : Nat) : ([] : List Int).getD j 0 = 0 := by simp [List.getD]
theorem zcD : ∀ (a b : List Int), (∀ j, a.getD j 0 = b.getD j 0) → ∀ X, ev a X = ev b X
 | [], [], _, _ => rfl
 | [], c :: b, h, X => by
  have h0 := h 0
  have := zcD [] b (fun j => by have := h (j + 1); rw [zaq] at this; rw [← this, zcL, zcL]) X
  simp [List.getD] at h0
  rw [zba, ← this, ← h0, zbr]; grind
 | c :: a, [], h, X => by
  have h0 := h 0
  have := zcD a [] (fun j => by have := h (j + 1); rw [zaq] at this; rw [this, zcL, zcL]) X
  simp [List.getD] at h0
  rw [zba, this, h0, zbr]; grind
 | c :: a, d :: b, h, X => by
  have h0 := h 0
  have := zcD a b (fun j => by have := h (j + 1); rwa [zaq, zaq] at this) X
  simp [List.getD] at h0
  rw [zba, zba, this, h0]
theorem zcn (a b : List Int) (j : Nat) : (zhe a b).getD j 0 = a.getD j 0 + b.getD j 0 := by
 unfold zhe
 by_cases h : j < max a.length b.length
 · simp only [List.getD, List.getElem?_map, List.getElem?_range h, Option.map_some, Option.getD_some]
 · have h1 : a.length ≤ j := by exact ybS h
   have h2 : b.length ≤ j := by exact yaY h
   simp [List.getD, List.getElem?_eq_none h1, List.getElem?_eq_none h2, List.getElem?_range', h]
theorem zh3 (a b : List Int) : (zhe a b).length = max a.length b.length := by unfold zhe; rw [List.length_map, List.length_range]
theorem ziE : ∀ (a b : List Int) (X : Int), ev (zhe a b) X = ev a X + ev b X
 | [], b, X => by rw [zcD _ b fun j => by rw [zcn, zcL, Int.zero_add], zbr, Int.zero_add]
 | c :: a, [], X => by rw [zcD _ (c :: a) fun j => by rw [zcn, zcL, Int.add_zero], zbr, Int.add_zero]
 | c :: a, d :: b, X => by
  have := ziE a b X
  rw [zcD (zhe (c :: a) (d :: b)) ((c + d) :: zhe a b) fun j => by
   rw [zcn]
   cases j with
   | zero => simp [List.getD]
   | succ j => rw [zaq, zaq, zaq, zcn]]
  simp only [zba, this]
  grind
theorem zsN : ∀ (l : List Int) (k : Nat) (v X : Int), k < l.length → ev (l.set k v) X = ev l X + (v - l.getD k 0) * X ^ k
 | [], k, v, X, h => by simp at h
 | c :: l, 0, v, X, h => by simp only [List.set_cons_zero, zba, List.getD]; simp; grind
 | c :: l, k + 1, v, X, h => by
  simp only [List.set_cons_succ, zba, zaq]
  rw [zsN l k v X (by simpa using h)]
  grind
theorem zuK (l : List Int) (k : Nat) (v X : Int) (h : k < l.length) : ev (zqt l k v) X = ev l X + v * X ^ k := by
 unfold zqt
 rw [zsN l k _ X h]
 grind
theorem zeD (b : List Int) (j : Nat) (X : Int) : ev (b.take (j + 1)) X = ev (b.take j) X + b.getD j 0 * X ^ j := by
 induction b generalizing j with
 | nil => simp [zbr]
 | cons c b ih =>
  cases j with
  | zero => simp [zba, zbr]
  | succ j => simp only [List.take_succ_cons, zba, ih, zaq]; grind
theorem zms (b : List Int) (c : Int) (i : Nat) (l : List Int) (X : Int) : ∀ j, j ≤ b.length → i + b.length ≤ l.length → ev (zdj b c i l j) X = ev l X + c * X ^ i * ev (b.take j) X
 | 0, _, _ => by simp [zdj, zbr]
 | j + 1, h, h2 => by
  rw [zdj, zuK _ _ _ _ (by rw [zgP]; exact ybP h h2), zms b c i l X j (yfp h) h2, zeD]
  grind
theorem zpF (a b l : List Int) (X : Int) : ∀ j, j ≤ a.length → a.length + b.length ≤ l.length + 1 → ev (zeC a b l j) X = ev l X + ev (a.take j) X * ev b X
 | 0, _, _ => by simp [zeC, zbr]
 | j + 1, h, h2 => by
  rw [zeC, zeD]
  have ih := zpF a b l X j (yfp h) h2
  split
  · rename_i h0
    rw [ih, h0]; grind
  · rw [zms _ _ _ _ _ _ (Nat.le_refl _) (by rw [zgi]; exact yhy h h2), ih, List.take_length]
    grind
theorem zmt (a b : List Int) (X : Int) : ev (zb0 a b) X = ev a X * ev b X := by
 unfold zb0
 split
 · rename_i h
   rcases h with h | h <;> rw [List.length_eq_zero_iff.mp h] <;> simp [zbr]
 · rename_i h
   rw [zpF a b _ X _ (Nat.le_refl _) (by rw [List.length_replicate]; exact yaZ), zdY, List.take_length, Int.zero_add]
theorem zpG (a b : List Int) (ha : a ≠ []) (hb : b ≠ []) : (zb0 a b).length = a.length + b.length - 1 := by
 unfold zb0
 rw [if_neg (by have := List.length_pos_iff.mpr ha; have := List.length_pos_iff.mpr hb; exact yhx ‹_› this), zgi, List.length_replicate]
theorem zfP (a b : List Int) : (zb0 a b).length ≤ a.length + b.length := by
 unfold zb0
 split
 · simp
 · rw [zgi, List.length_replicate]; exact yhw
noncomputable def Trd (l : List Int) : Prop := l.getD (l.length - 1) 0 = 0 → l = []
theorem zc1 (l : List Int) : (trim l).length ≤ l.length := by unfold trim; rw [List.length_take]; exact yhv
theorem zmu (l : List Int) (j : Nat) : (trim l).getD j 0 = l.getD j 0 := by
 unfold trim
 by_cases h : j < zl2 l l.length
 · simp [List.getD, List.getElem?_take, h]
 · rw [List.getD, List.getElem?_take, if_neg h]
   by_cases h2 : j < l.length
   · have := zkL l l.length (j + 1) (yhu h) (yht h2)
     simp at this
     simp [List.getD, this]
   · simp [List.getD, List.getElem?_eq_none (show l.length ≤ j by exact ycZ h2)]
theorem zcx (l : List Int) (X : Int) : ev (trim l) X = ev l X := zcD _ _ (zmu l) X
theorem zdZ (l : List Int) : Trd (trim l) := by
 intro h
 have hle := znI l l.length
 have hlen : (trim l).length = zl2 l l.length := by unfold trim; rw [List.length_take]; exact yhs hle
 rw [zmu, hlen] at h
 by_cases h0 : zl2 l l.length = 0
 · exact List.length_eq_zero_iff.mp (by rw [hlen]; exact h0)
 · exfalso
   have h1 := zkM l l.length (ydi h0)
   apply h1
   rw [List.getElem?_eq_getElem (ybo hle h0)]
   simp only [List.getD, List.getElem?_eq_getElem (show zl2 l l.length - 1 < l.length by exact ybo hle h0), Option.getD_some] at h
   rw [h]
theorem zsO : ∀ (l : List Int) (N : Int), (∀ X, N < X → ev l X = 0) → ∀ j, l.getD j 0 = 0
 | [], _, _, j => zcL j
 | c :: l, N, h, j => by
  have hc : c = 0 := by
   have h1 := h ((max N 0) + c.natAbs + 1) (yhr)
   rw [zba] at h1
   generalize ev l _ = e at h1
   have hX : (c.natAbs : Int) < (max N 0) + c.natAbs + 1 := by exact yhq
   generalize (max N 0) + (c.natAbs : Int) + 1 = X at h1 hX
   have hd : X ∣ c := ⟨-e, by grind⟩
   have := Int.eq_zero_of_dvd_of_natAbs_lt_natAbs hd (yhp hX)
   exact this
  have ht := zsO l (max N 0) (fun X hX => by
   have h1 := h X (ybw hX)
   rw [zba, hc, Int.zero_add] at h1
   rcases Int.mul_eq_zero.mp h1 with q | q
   · exact yho hX q
   · exact q)
  cases j with
  | zero => simpa [List.getD] using hc
  | succ j => rw [zaq]; exact ht j
theorem zsP {a b : List Int} (h : ∀ X, ev a X = ev b X) (j : Nat) : a.getD j 0 = b.getD j 0 := by
 have h1 := zsO (zhe a (b.map fun x => -x)) 0 (fun X _ => by rw [ziE, zvy, h X]; exact yhn) j
 rw [zcn] at h1
 have h2 : (b.map fun x => -x).getD j 0 = -(b.getD j 0) := by
  simp only [List.getD, List.getElem?_map]
  cases b[j]? <;> simp
 exact yhm h1 h2
theorem zcS {a b : List Int} (ha : Trd a) (hb : Trd b) (h : ∀ X, ev a X = ev b X) : a = b := by
 have hg := zsP h
 have key : ∀ {a b : List Int}, Trd a → (∀ j, a.getD j 0 = b.getD j 0) → a.length ≤ b.length := by
  intro a b ha hg
  rcases Nat.lt_or_ge b.length a.length with q | q
  · exfalso
    have h1 := hg (a.length - 1)
    have h2 : b.getD (a.length - 1) 0 = 0 := by simp [List.getD, List.getElem?_eq_none (show b.length ≤ a.length - 1 by exact yhl q)]
    have := ha (h1.trans h2)
    subst this
    simp at q
  · exact q
 have hl : a.length = b.length := Nat.le_antisymm (key ha hg) (key hb fun j => (hg j).symm)
 apply List.ext_getElem hl
 intro i h1 h2
 have := hg i
 simpa [List.getD, List.getElem?_eq_getElem h1, List.getElem?_eq_getElem h2] using this
theorem zfQ {l : List Int} (h : Trd l) : trim l = l := zcS (zdZ l) h (zcx l)
theorem zwx {a b : List Int} (h : ∀ X, ev a X = ev b X) : trim a = trim b := zcS (zdZ a) (zdZ b) fun X => by rw [zcx, zcx, h]
noncomputable def cv : List Int → List Int → List Int
 | [], _ => []
 | x :: a, b => zhe (b.map fun y => y * x) (0 :: cv a b)
theorem zwy (a b : List Int) (X : Int) : ev (cv a b) X = ev a X * ev b X := by
 induction a with
 | nil => simp [cv, zbr]
 | cons x a ih => simp only [cv, ziE, zba, zh2, ih]; grind
theorem zmv : ∀ (a b : List Int), a ≠ [] → b ≠ [] → (cv a b).length = a.length + b.length - 1 ∧ (cv a b).getD (a.length + b.length - 2) 0 = a.getD (a.length - 1) 0 * b.getD (b.length - 1) 0
 | [], b, h, _ => absurd rfl h
 | [x], b, _, hb => by
  have := List.length_pos_iff.mpr hb
  have hm : (b.map fun y => y * x).getD (b.length - 1) 0 = b.getD (b.length - 1) 0 * x := by
   simp only [List.getD, List.getElem?_map]; cases b[b.length - 1]? <;> simp
  refine ⟨?_, ?_⟩
  · simp only [cv, zh3, List.length_map, List.length_cons, List.length_nil]; exact yhk this
  · simp only [cv, zcn, List.length_cons, List.length_nil]
    rw [show 0 + 1 + b.length - 2 = b.length - 1 by exact yhj, hm]
    have : [(0 : Int)].getD (b.length - 1) 0 = 0 := by
     cases b.length - 1 with
     | zero => rfl
     | succ n => rw [zaq, zcL]
    rw [this]
    simp [List.getD]
    grind
 | x :: y :: a, b, _, hb => by
  have := List.length_pos_iff.mpr hb
  obtain ⟨h1, h2⟩ := zmv (y :: a) b (by simp) hb
  refine ⟨?_, ?_⟩
  · rw [cv, zh3, List.length_map, List.length_cons, h1]; simp only [List.length_cons]; exact yhi
  · rw [cv, zcn]
    have e1 : (b.map fun y => y * x).getD ((x :: y :: a).length + b.length - 2) 0 = 0 := by
     simp only [List.getD]; rw [List.getElem?_eq_none (by simp only [List.length_map, List.length_cons]; exact yhh)]; rfl
    have e2 : (x :: y :: a).length + b.length - 2 = ((y :: a).length + b.length - 2) + 1 := by simp only [List.length_cons]; exact yaP this
    rw [e1, e2, zaq, h2, Int.zero_add, show (x :: y :: a).length - 1 = ((y :: a).length - 1) + 1 by simp only [List.length_cons]; exact yhg, zaq]
theorem zgQ {l : List Int} (h : Trd l) (hn : l ≠ []) : l.getD (l.length - 1) 0 ≠ 0 := fun q => hn (h q)
theorem cv_trd {a b : List Int} (ha : Trd a) (hb : Trd b) (na : a ≠ []) (nb : b ≠ []) : Trd (cv a b) := by
 intro h
 obtain ⟨h1, h2⟩ := zmv a b na nb
 exfalso
 rw [h1, show a.length + b.length - 1 - 1 = a.length + b.length - 2 by exact yhf, h2] at h
 rcases Int.mul_eq_zero.mp h with q | q
 · exact zgQ ha na q
 · exact zgQ hb nb q
theorem zpH {a b r : List Int} (ha : Trd a) (hb : Trd b) (hr : Trd r) (na : a ≠ []) (nb : b ≠ []) (h : ∀ X, ev r X = ev a X * ev b X) : r.length = a.length + b.length - 1 ∧ r.getD (r.length - 1) 0 = a.getD (a.length - 1) 0 * b.getD (b.length - 1) 0 := by
 obtain ⟨h1, h2⟩ := zmv a b na nb
 have : r = cv a b := zcS hr (cv_trd ha hb na nb) fun X => by rw [h, zwy]
 subst this
 refine ⟨h1, ?_⟩
 rw [h1, show a.length + b.length - 1 - 1 = a.length + b.length - 2 by exact yhf, h2]
theorem zuL {a b : List Int} (ha : Trd a) (hb : Trd b) : Trd (zb0 a b) := by
 by_cases na : a = []
 · subst na; intro; unfold zb0; simp
 by_cases nb : b = []
 · subst nb; intro; unfold zb0; simp
 obtain ⟨h1, h2⟩ := zmv a b na nb
 have hg := zsP (a := zb0 a b) (b := cv a b) fun X => by rw [zmt, zwy]
 intro h
 rw [hg, zpG a b na nb, show a.length + b.length - 1 - 1 = a.length + b.length - 2 by exact yhf, h2] at h
 exfalso
 rcases Int.mul_eq_zero.mp h with q | q
 · exact zgQ ha na q
 · exact zgQ hb nb q
theorem ziF {l : List Int} (h : l ≠ []) : (l.map D.int).getLast? = some (.int (l.getD (l.length - 1) 0)) := by
 have := List.length_pos_iff.mpr h
 rw [List.getLast?_eq_getElem?, List.length_map, getElem?_ints]
 simp [List.getD, List.getElem?_eq_getElem (show l.length - 1 < l.length by exact yha this)]
theorem zn2 {l : List Int} (h : l ≠ []) (X : Int) : ev l X = ev l.dropLast X + l.getD (l.length - 1) 0 * X ^ (l.length - 1) := by
 have := zeD l (l.length - 1) X
 have hp := List.length_pos_iff.mpr h
 rw [show l.length - 1 + 1 = l.length by exact ycM hp, List.take_length] at this
 rw [this, List.dropLast_eq_take]
theorem zuM {l : List Int} {x : Int} (h : x ∈ trim l) : x ∈ l := List.mem_of_mem_take h
theorem zcE {l : List Int} {j : Nat} (h : j < l.length) : l.getD j 0 ∈ l := by
 simp only [List.getD, List.getElem?_eq_getElem h, Option.getD_some]; exact List.getElem_mem h
structure Zt (C : Cfg) : Prop where
 bottom : ∀ xs : List Int, xs.length < 900 → 0 < xs.length → C.T "check_bottom" [D.ints xs] = some .none
 trim : ∀ xs : List Int, xs.length < 900 → C.T "ztrim" [D.ints xs] = some (D.ints (Mine.trim xs))
 scale : ∀ (xs : List Int) (k : Int), xs.length < 900 → zbo k → C.T "zscale" [D.ints xs, .int k] = some (D.ints (if k = 0 then [] else xs.map fun x => x * k))
 raise : ∀ (xs : List Int) (k : Nat), xs.length < 900 → k < 900 → C.T "zraise" [D.ints xs, .int k] = some (D.ints (if xs.length = 0 then [] else List.replicate k 0 ++ xs))
 sub : ∀ (a b : List Int), a.length < 900 → b.length < 900 → C.T "zsub" [D.ints a, D.ints b] = some (D.ints (Mine.trim (zhe a (b.map fun x => -x))))
theorem zwz {x y : Int} : (y * x).fmod y = 0 := by
 exact Int.mul_fmod_right y x
noncomputable def ziG : List (Str × NameKind) := [("a", .local), ("b", .local), ("rest", .local), ("found", .local), ("number", .local), ("power", .local), ("check_bottom", .globalImplicit), ("list", .globalImplicit), ("max", .globalImplicit), ("len", .globalImplicit), ("zsub", .globalImplicit), ("zraise", .globalImplicit), ("zscale", .globalImplicit), ("ztrim", .globalImplicit)]
section
variable {C : Cfg} {i : Nat} {p : Pos} (a b c d e f : Option V)
@[irreducible] noncomputable def zau : St := ⟨[("a", a), ("b", b), ("rest", c), ("found", d), ("number", e), ("power", f)], []⟩
theorem zn3 : ⟨[("a", a), ("b", b), ("rest", c), ("found", d), ("number", e), ("power", f)], []⟩ = zau a b c d e f := by unfold zau; rfl
theorem zdl : ∃ sc : Scope, sc.names = ziG ∧ sc.kind = .function ∧ (zap "zexact").map (·.scope) = some sc := ⟨_, rfl, rfl, rfl⟩
noncomputable def zal : Scope := Classical.choose zdl
theorem zaX : zal.names = ziG := (Classical.choose_spec zdl).1
theorem zvz : zal.kind = .function := (Classical.choose_spec zdl).2.1
theorem zmw {dr : DefRec} (h : zap "zexact" = some dr) : dr.scope = zal := zdv h (Classical.choose_spec zdl).2.2
theorem zqz : zal.names.lookup ("a" : Str) = some .local := by rw [zaX]; rfl
theorem zqA : zal.names.lookup ("b" : Str) = some .local := by rw [zaX]; rfl
theorem zd0 : zal.names.lookup ("rest" : Str) = some .local := by rw [zaX]; rfl
theorem zcF : zal.names.lookup ("found" : Str) = some .local := by rw [zaX]; rfl
theorem zeE : zal.names.lookup ("number" : Str) = some .local := by rw [zaX]; rfl
theorem zfy : zal.names.lookup ("power" : Str) = some .local := by rw [zaX]; rfl
theorem zeF : zal.names.lookup ("check_bottom" : Str) = some .globalImplicit := by rw [zaX]; rfl
theorem zkS : zal.names.lookup ("list" : Str) = some .globalImplicit := by rw [zaX]; rfl
theorem zmx : zal.names.lookup ("max" : Str) = some .globalImplicit := by rw [zaX]; rfl
theorem zmy : zal.names.lookup ("len" : Str) = some .globalImplicit := by rw [zaX]; rfl
theorem zkT : zal.names.lookup ("zsub" : Str) = some .globalImplicit := by rw [zaX]; rfl
theorem ziH : zal.names.lookup ("zraise" : Str) = some .globalImplicit := by rw [zaX]; rfl
theorem ziI : zal.names.lookup ("zscale" : Str) = some .globalImplicit := by rw [zaX]; rfl
theorem zjO : zal.names.lookup ("ztrim" : Str) = some .globalImplicit := by rw [zaX]; rfl
theorem zqB : (ER C (i + 1)).p zal (.Name "a" p) (zau a b c d e f) = a := zad rfl (by unfold zau; exact (zam zqz).trans rfl)
theorem zce : (ER C (i + 1)).p zal (.Name "b" p) (zau a b c d e f) = b := zad rfl (by unfold zau; exact (zam zqA).trans rfl)
theorem zbz : (ER C (i + 1)).p zal (.Name "rest" p) (zau a b c d e f) = c := zad rfl (by unfold zau; exact (zam zd0).trans rfl)
theorem zkU (w : V) : St.set zal "rest" w (zau a b c d e f) = some (zau a b (some w) d e f) := (by unfold zau; exact (zax zd0 rfl).trans rfl)
theorem zd1 (hp : C.pins = []) (w : V) : St.put C zal "rest" w (zau a b c d e f) = some (zau a b (some w) d e f) := zan (by rw [hp]; rfl) (by unfold zau; exact (zax zd0 rfl).trans rfl)
theorem zfz : (ER C (i + 1)).p zal (.Name "found" p) (zau a b c d e f) = d := zad rfl (by unfold zau; exact (zam zcF).trans rfl)
theorem zjP : St.get zal "found" (zau a b c d e f) = d := (by unfold zau; exact (zam zcF).trans rfl)
theorem zdx (w : V) : St.set zal "found" w (zau a b c d e f) = some (zau a b c (some w) e f) := (by unfold zau; exact (zax zcF rfl).trans rfl)
theorem zjQ (hp : C.pins = []) (w : V) : St.put C zal "found" w (zau a b c d e f) = some (zau a b c (some w) e f) := zan (by rw [hp]; rfl) (by unfold zau; exact (zax zcF rfl).trans rfl)
theorem zeG : (ER C (i + 1)).p zal (.Name "number" p) (zau a b c d e f) = e := zad rfl (by unfold zau; exact (zam zeE).trans rfl)
theorem zeH (hp : C.pins = []) (w : V) : St.put C zal "number" w (zau a b c d e f) = some (zau a b c d (some w) f) := zan (by rw [hp]; rfl) (by unfold zau; exact (zax zeE rfl).trans rfl)
theorem zfA : (ER C (i + 1)).p zal (.Name "power" p) (zau a b c d e f) = f := zad rfl (by unfold zau; exact (zam zfy).trans rfl)
theorem zfB (hp : C.pins = []) (w : V) : St.put C zal "power" w (zau a b c d e f) = some (zau a b c d e (some w)) := zan (by rw [hp]; rfl) (by unfold zau; exact (zax zfy rfl).trans rfl)
end
theorem zeI {C : Cfg} (hr : C.refs = refs) : zch C zal "check_bottom" = true := zbl hr zeF rfl
theorem zkV : zar zal "list" = true := zaz zkS
theorem zmz : zar zal "max" = true := zaz zmx
theorem zbA : zar zal "len" = true := zaz zmy
theorem zgk {C : Cfg} (hr : C.refs = refs) : zch C zal "zsub" = true := zbl hr zkT rfl
theorem zeJ {C : Cfg} (hr : C.refs = refs) : zch C zal "zraise" = true := zbl hr ziH rfl
theorem zeK {C : Cfg} (hr : C.refs = refs) : zch C zal "zscale" = true := zbl hr ziI rfl
theorem zfC {C : Cfg} (hr : C.refs = refs) : zch C zal "ztrim" = true := zbl hr zjO rfl
noncomputable def sZx (a b : List Int) (rv : V) (fd : List Int) (o1 o2 : Option V) : St := zau (some (.f (D.ints a))) (some (.f (D.ints b))) (some rv) (some (V.o ((fd.map D.int).map V.f))) o1 o2
inductive ZxI (a b q : List Int) (n : Nat) : St → Prop
 | mk (q' rest fd : List Int) (rv : V) (o1 o2 : Option V) (h1 : q'.length = n) (h2 : n ≤ q.length) (h3 : Trd q') (h4 : Trd rest) (h5 : rv = V.o ((rest.map D.int).map V.f) ∨ rv = V.f (D.ints rest)) (h6 : rest.length < 400) (h7 : ∀ X, ev rest X = ev b X * ev q' X)
  (h8 : fd.length = q.length) (h9 : ∀ X, ev fd X + ev q' X = ev q X) (h10 : ∀ i, i < n → fd.getD i 0 = 0) (h11 : ∀ x ∈ q', x ∈ q) : ZxI a b q n (sZx a b rv fd o1 o2)
theorem zmA {C : Cfg} {a b q : List Int} (hC : Cg C) (hZ : Zt C) (ha : a.length < 200) (hb : b.length < 200) (hql : q.length < 200) (ta : Trd a) (tb : Trd b) (tq : Trd q) (nb : b ≠ []) (hev : ∀ X, ev a X = ev b X * ev q X) (bb : ∀ x ∈ b, x.natAbs ≤ 1000000000) (bq : ∀ x ∈ q, x.natAbs ≤ 1000000000) :
 zeq C "zexact" [D.ints a, D.ints b] (D.ints q) := by
 refine ⟨_, rfl, rfl, ?_⟩
 refine zbU ziG zal _ (zmw rfl) zaX (zn3 (some (.f (D.ints a))) (some (.f (D.ints b))) none none none none) ?_
 have hCp := hC.pins
 have hCr := hC.refs
 have hbp := List.length_pos_iff.mpr nb
 have hfa : zaI a.length = true := zae (yhe ha)
 have hfb : zaI b.length = true := zae (yhe hb)
 have hla : a.length = if q = [] then 0 else b.length + q.length - 1 := by
  by_cases h : q = []
  · rw [if_pos h]
    have : a = [] := zcS ta (fun _ => rfl) fun X => by rw [hev, h, zbr]; simp
    rw [this]; rfl
  · rw [if_neg h]
    exact (zpH tb tq ta nb h hev).1
 refine zj4 (σ1 := zau (some (.f (D.ints a))) (some (.f (D.ints b))) none none none none) ?_ (zj4 (σ1 := sZx a b (V.o ((a.map D.int).map V.f)) (List.replicate q.length 0) none none) ?_ (zsE (P := ZxI a b q 0) ?_ ?_))
 · have := hZ.bottom b (yg7 hb) hbp
   clear hZ bb bq nb hev
   simp -implicitDefEqProofs only [zss, zeI, zj2, zbd, e_n, zce, zab, zaJ, za8, zaK, zhX, zbj, zaw, zbb, zcV, znF, *]
 · have e2 : max 0 ((a.length : Int) - (b.length : Int) + 1) = (q.length : Int) := by
    rw [hla]
    by_cases h : q = []
    · rw [if_pos h, h]; simp; exact ya0 hbp
    · rw [if_neg h]; have := List.length_pos_iff.mpr h; exact yaq this
   have e3 : q.length ≤ 100000 := by exact yhe hql
   clear hZ bb bq nb hev hla
   dsimp only [sZx]
   rw [← zpE]
   simp -implicitDefEqProofs only [zct, ne_eq, zcX, String.reduceEq, not_false_eq_true, zex, zwm, zkJ, Bool.and_false, zrt, zbd, zkV, zlT, e_n, zqB, zab, List.length_map, zhJ, zih, zaJ, q_b, zew, zif, zj0, zg8, e_c, za8, zaK, zgc, zvo, zmz, e_max, zbD, zsk, za7, decide_true, q_n, Bool.and_true, q_c, e_b, p_b, zbA, zbK, zbw, zce, za3, zaN, za4, p_c, zaG, zbN, zsl, zg7, zaw, List.length_cons, List.length_nil, bl_0, bl_s, zpB, zb3, zd1, zbC, zjQ, zcd, zaV, *]
 · refine zhZ (ZxI a b q) ?_ (n := q.length) (by rw [hC.W]; exact yhd hql) ?_
   · rintro n σ ⟨q', rest, fd, rv, o1, o2, hn, hnq, tq', tr, hrv, hrl, her, hfl, hfe, hfz, hmem⟩
     have hfr : zaI rest.length = true := zae (ygZ hrl)
     have ho : V.frzL (List.map V.f (List.map D.int rest)) = rest.map D.int := zbq _
     by_cases h0 : n = 0
     · left
       refine ⟨?_, h0⟩
       have hq0 : q' = [] := List.length_eq_zero_iff.mp (yhc hn h0)
       have hr0 : rest = [] := zcS tr (fun _ => rfl) fun X => by rw [her, hq0, zbr]; simp
       have c1 : decide ((rest.length : Int) ≥ (b.length : Int)) = false := by rw [decide_eq_false_iff_not, hr0]; simp only [List.length_nil]; exact yhb hbp
       clear hZ bb bq nb hev hla hq0 hr0 her hfe hfz hmem hn h0
       dsimp only [sZx]
       rcases hrv with rfl | rfl
       · simp -implicitDefEqProofs only [zaY, za7, decide_true, q_n, Bool.and_true, zck, zbA, zbK, zbz, List.length_map, zfv, zbN, zaZ, zaw, zce, zbw, zaT, c_ge, zaU, *]
       · simp -implicitDefEqProofs only [zaY, za7, decide_true, q_n, Bool.and_true, zck, zbA, zbK, zbz, List.length_map, zbw, zbN, zaZ, zaw, zce, zaT, c_ge, zaU, *]
     · right
       have nq' : q' ≠ [] := fun h => h0 (by rw [← hn, h]; rfl)
       obtain ⟨hl1, hl2⟩ := zpH tb tq' tr nb nq' her
       have c1 : decide ((rest.length : Int) ≥ (b.length : Int)) = true := by rw [decide_eq_true_eq]; exact ybi hn h0 hl1
       have nr : rest ≠ [] := fun h => by rw [h] at hl1; simp at hl1; exact yaJ hbp hn h0 hl1
       have i1 : idx (rest.map D.int) (-1) = some (D.int (rest.getD (rest.length - 1) 0)) := by rw [zkK, ziF nr]
       have i2 : idx ((rest.map D.int).map V.f) (-1) = some (V.f (D.int (rest.getD (rest.length - 1) 0))) := by rw [zkK, List.getLast?_map, ziF nr]; rfl
       have i3 : idx (b.map D.int) (-1) = some (D.int (b.getD (b.length - 1) 0)) := by rw [zkK, ziF nb]
       have hv := zgQ tq' nq'
       have hw := zgQ tb nb
       have bv := bq _ (hmem _ (zcE (l := q') (j := q'.length - 1) (ybZ hn h0)))
       have bw := bb _ (zcE (l := b) (j := b.length - 1) (yha hbp))
       have hdl := fun X => zn2 nq' X
       rw [hl2] at i1 i2
       generalize q'.getD (q'.length - 1) 0 = v at hv bv i1 i2 hdl
       generalize b.getD (b.length - 1) 0 = w at hw bw i1 i2 i3
       have m1 : zbh .Mod (w * v) w = some 0 := by rw [zge hw, zwz]
       have m2 : zbh .FloorDiv (w * v) w = some v := by
        have hb : zbo (w * v) := by
         have h1 : (w * v).natAbs = w.natAbs * v.natAbs := Int.natAbs_mul w v
         have h2 : w.natAbs * v.natAbs ≤ 1000000000 * 1000000000 := Nat.mul_le_mul (yg9 bw) (yg9 bv)
         unfold zbo
         exact yg8 h1 h2
        rw [zey hw hb (ze7 (ya8 bw) (ya9 bw)), Int.mul_fdiv_cancel_left _ hw]
       have m3 : (!((0 : Int) == 0)) = false := rfl
       have e1 : (rest.length : Int) - (b.length : Int) = ((n - 1 : Nat) : Int) := by exact yaw hn h0 hl1
       have t1 := hZ.scale b v (yg7 hb) (ze7 (ya8 bv) (ya9 bv))
       rw [if_neg hv] at t1
       have t2 := hZ.raise (b.map fun x => x * v) (n - 1) (by rw [List.length_map]; exact yg7 hb) (ybN hrl e1)
       rw [if_neg (by rw [List.length_map]; exact yg6 hbp)] at t2
       have t3 := hZ.sub rest (List.replicate (n - 1) 0 ++ b.map fun x => x * v) (yg5 hrl) (by rw [List.length_append, List.length_replicate, List.length_map]; exact ybO hrl e1)
       have hlen : (trim q'.dropLast).length ≤ n - 1 := by have := zc1 q'.dropLast; rw [List.length_dropLast] at this; exact yap hl1 e1 this
       rw [hn] at hdl
       have hP : ZxI a b q (trim q'.dropLast).length (sZx a b (V.f (D.ints (trim (zhe rest ((List.replicate (n - 1) 0 ++ b.map fun x => x * v).map fun x => -x))))) (fd.set (n - 1) v) (some (.f (.int v))) (some (.f (.int ((n - 1 : Nat) : Int))))) := by
        refine ⟨trim q'.dropLast, _, fd.set (n - 1) v, _, _, _, rfl, by exact ya1 hnq hlen, zdZ _, zdZ _, .inr rfl, ?_, fun X => ?_, by rw [List.length_set]; exact hfl, fun X => ?_, fun i hi => ?_, fun x hx => ?_⟩
        · have := zc1 (zhe rest ((List.replicate (n - 1) 0 ++ b.map fun x => x * v).map fun x => -x))
          rw [zh3, List.length_map, List.length_append, List.length_replicate, List.length_map] at this
          exact yaC hrl e1 this
        · rw [zcx, zcx, ziE, zvy, ziD, zdY, zh2, List.length_replicate, her, hdl]
          clear m1 m2 i1 i2 i3 t1 t2 t3 her hev hdl hfe
          grind
        · rw [zcx, zsN _ _ _ _ (yat hbp hn hnq hfl hl1 e1), hfz _ (yaD hbp hn hl1 e1), ← hfe, hdl]
          clear m1 m2 i1 i2 i3 t1 t2 t3 her hev hdl hfe
          grind
        · have h1 : n - 1 ≠ i := by exact yg4 hlen hi
          have e := hfz i (ya3 hlen hi)
          simp only [List.getD, List.getElem?_set, h1, if_false] at e ⊢
          exact e
        · exact hmem x (by have := zuM hx; rw [List.dropLast_eq_take] at this; exact List.mem_of_mem_take this)
       have e4 := fun (rv : V) => (ze6 (k := n - 1) (v := V.f (D.int v)) (zjP (some (.f (D.ints a))) (some (.f (D.ints b))) (some rv) (some (V.o ((fd.map D.int).map V.f))) (some (.f (.int v))) (some (.f (.int ((n - 1 : Nat) : Int))))) (by simp only [List.length_map]; exact yat hbp hn hnq hfl hl1 e1) (ybM hrl e1)).trans ((zdx _ _ _ _ _ _ _).trans (by rw [zvx]))
       have hlt : (trim q'.dropLast).length < n := by exact yaH hbp hn hl1 e1 hlen
       generalize trim q'.dropLast = r' at hlt hP
       clear hZ bb bq nb hev hla her hfe hfz hmem hv hw bv bw hl1 hl2 hn hdl hlen h0 nq' nr
       generalize fd.set (n - 1) v = fd' at e4 hP
       refine ⟨?_, _, ?_, _, hlt, hP⟩
       · clear hP
         dsimp only [sZx]
         rcases hrv with rfl | rfl
         · simp -implicitDefEqProofs only [zaY, za7, decide_true, q_n, Bool.and_true, zck, zbA, zbK, zbz, List.length_map, zfv, zbN, zaZ, zaw, zce, zbw, zaT, c_ge, zaU, *]
         · simp -implicitDefEqProofs only [zaY, za7, decide_true, q_n, Bool.and_true, zck, zbA, zbK, zbz, List.length_map, zbw, zbN, zaZ, zaw, zce, zaT, c_ge, zaU, *]
       · clear hP
         dsimp only [sZx]
         rcases hrv with rfl | rfl
         · simp -implicitDefEqProofs only [r_s, zdD, zes, zaY, q_b, q_s, q_n, q_u, q_c, Bool.and_true, e_b, p_b, p_s, zbz, p_u, p_c, zeh, zej, zce, zei, znD, za3, za4, zbN, zaZ, zaw, e_c, zaT, zlW, beq_self_eq_true, Bool.not_true, zaU, zcW, zer, zbx, zct, ne_eq, zcX, String.reduceEq, not_false_eq_true, zwm, ca_s, ca_n, zaB, String.reduceBEq, ca_u, zwl, Bool.and_false, zex, zrt, zbd, zaJ, za7, decide_true, zbA, zbK, List.length_map, zfv, zbw, zaN, za8, zaK, List.length_cons, List.length_nil, bl_0, bl_s, zpB, zb3, zeH, zbC, zfB, zcd, zaV, a_ix, e_n, zeG, zab, zuu, zfA, zpA, a_n, zgk, zbS, zbu, zkU, zcs, zeJ, zeK, zhX, zbj, zbb, zcV, zdb, zd1, *]
         · simp -implicitDefEqProofs only [r_s, zdD, zes, zaY, q_b, q_s, q_n, q_u, q_c, Bool.and_true, e_b, p_b, p_s, zbz, p_u, p_c, zeh, zei, znD, zce, za3, za4, zbN, zaZ, zaw, e_c, zaT, zlW, beq_self_eq_true, Bool.not_true, zaU, zcW, zer, zbx, zct, ne_eq, zcX, String.reduceEq, not_false_eq_true, zwm, ca_s, ca_n, zaB, String.reduceBEq, ca_u, zwl, Bool.and_false, zex, zrt, zbd, zaJ, za7, decide_true, zbA, zbK, List.length_map, zbw, zaN, za8, zaK, List.length_cons, List.length_nil, bl_0, bl_s, zpB, zb3, zeH, zbC, zfB, zcd, zaV, a_ix, e_n, zeG, zab, zuu, zfA, zpA, a_n, zgk, zbS, zeJ, zeK, zhX, zbj, zbb, zcV, zdb, zd1, *]
   · refine ⟨q, a, List.replicate q.length 0, _, none, none, rfl, Nat.le_refl _, tq, ta, .inl rfl, by exact yg3 ha, hev, List.length_replicate, fun X => ?_, fun i hi => ?_, fun x hx => hx⟩
     · rw [zdY, Int.zero_add]
     · simp only [List.getD, List.getElem?_replicate, hi, if_true, Option.getD_some]
 · rintro σ ⟨q', rest, fd, rv, o1, o2, hn, hnq, tq', tr, hrv, hrl, her, hfl, hfe, hfz, hmem⟩
   have hq0 : q' = [] := List.length_eq_zero_iff.mp (yg2 hn)
   have hr0 : rest = [] := zcS tr (fun _ => rfl) fun X => by rw [her, hq0, zbr]; simp
   have hfd : trim fd = q := by rw [← zfQ tq]; exact zwx fun X => by have := hfe X; rw [hq0, zbr] at this; exact yg1 this
   have t1 := hZ.trim fd (yg0 hql hfl)
   rw [hfd] at t1
   have c1 : ((rest.length : Int) == 0) = true := by rw [hr0]; rfl
   have hfr : zaI rest.length = true := zae (ygZ hrl)
   refine zlm (σ1 := zau (some (.f (D.ints a))) (some (.f (D.ints b))) (some rv) (some (V.f (D.ints fd))) o1 o2) ?_
   clear hZ bb bq nb hev hla her hfe hfz hmem hfd hq0 hr0
   dsimp only [sZx]
   rcases hrv with rfl | rfl
   · simp -implicitDefEqProofs only [zcl, zjH, zaY, za7, decide_true, q_n, Bool.and_true, zck, zbA, zbK, zbz, List.length_map, zfv, zbN, zaZ, zaw, e_c, zaT, zjI, zaU, zgb, zfC, zbS, zbd, e_n, zfz, zbu, zbq, zdx, zcs, zaJ, za8, zaK, zhX, zbj, zbb, zcV, zby, *]
   · simp -implicitDefEqProofs only [zcl, zjH, zaY, za7, decide_true, q_n, Bool.and_true, zck, zbA, zbK, zbz, List.length_map, zbw, zbN, zaZ, zaw, e_c, zaT, zjI, zaU, zgb, zfC, zbS, zbd, e_n, zfz, zbu, zbq, zdx, zcs, zaJ, za8, zaK, zhX, zbj, zbb, zcV, zby, *]
theorem zh4 {n : Nat} {f x : Str} {dr : DefRec} {v v' : V} {ds : List D} {d : D} (names : List (Str × NameKind)) (sc : Scope) (σ0 : St) (h1 : zap f = some dr) (hx : par0 dr = some x) (hl : ds.length + 1 = dr.params.args.length) (hs : dr.scope = sc) (hn : sc.names = names) (hloc : names.lookup x = some .local)
 (h0 : (⟨zds names .local ((dr.params.args.map (·.arg)).zip (v :: ds.map .f)), zds names .cell ((dr.params.args.map (·.arg)).zip (v :: ds.map .f))⟩ : St) = σ0)
 (h : ∃ σ', (za6 (cfg n [x]) (ER (cfg n [x]) 59) sc dr.body σ0 = some (.ret d, σ') ∨ (d = .none ∧ za6 (cfg n [x]) (ER (cfg n [x]) 59) sc dr.body σ0 = some (.next, σ'))) ∧ σ'.get sc x = some v') : (tab (n + 1)).2 f v ds = some (d, v') := by
 obtain ⟨σ', hq, hg⟩ := h
 have hss : zfu x σ'.r = some v' := by
  obtain ⟨ρ, κ⟩ := σ'
  rw [zam (by rw [hn]; exact hloc)] at hg
  exact hg
 have hr : run (cfg n [x]) 60 dr (v :: ds.map .f) = some (d, σ') := by
  unfold run
  dsimp only
  rw [hs, hn, h0, show (sem (cfg n [x]) 60).s sc dr.body σ0 = za6 (cfg n [x]) (ER (cfg n [x]) 59) sc dr.body σ0 by unfold ER; rfl]
  rcases hq with hq | ⟨e, hq⟩
  · rw [hq]; rfl
  · rw [hq, e]; rfl
 show ((zap f).bind fun d => (par0 d).bind fun x => if ds.length + 1 = d.params.args.length ∧ d.scope.names.lookup x = some .local then
  (run ⟨(tab n).1, (tab n).2, refs, [x], 1000⟩ 60 d (v :: ds.map .f)).bind fun r => (zfu x r.2.r).map fun v => (r.1, v) else none) = _
 rw [h1, Option.bind_some, hx, Option.bind_some, if_pos ⟨hl, by rw [hs, hn]; exact hloc⟩]
 show (run (cfg n [x]) 60 dr (v :: ds.map .f)).bind _ = _
 rw [hr, Option.bind_some, hss]
 rfl
noncomputable def zbE (cells : List Int) (k : Nat) : V := .o [.o ((cells.map D.int).map V.f), .f (.int k)]
noncomputable def zkW : List (Str × NameKind) := [("pool", .local), ("many", .local), ("spot", .local), ("len", .globalImplicit), ("abs", .globalImplicit)]
section
variable {C : Cfg} {i : Nat} {p : Pos} (a b c : Option V)
@[irreducible] noncomputable def zbX : St := ⟨[("pool", a), ("many", b), ("spot", c)], []⟩
theorem zmB : ⟨[("pool", a), ("many", b), ("spot", c)], []⟩ = zbX a b c := by unfold zbX; rfl
theorem zfe : ∃ sc : Scope, sc.names = zkW ∧ sc.kind = .function ∧ (zap "_law_draw").map (·.scope) = some sc := ⟨_, rfl, rfl, rfl⟩
noncomputable def zbF : Scope := Classical.choose zfe
theorem zc2 : zbF.names = zkW := (Classical.choose_spec zfe).1
theorem sc_draw_kd : zbF.kind = .function := (Classical.choose_spec zfe).2.1
theorem zkb {dr : DefRec} (h : zap "_law_draw" = some dr) : dr.scope = zbF := zdv h (Classical.choose_spec zfe).2.2
theorem zfR : zbF.names.lookup ("pool" : Str) = some .local := by rw [zc2]; rfl
theorem zn4 : zbF.names.lookup ("many" : Str) = some .local := by rw [zc2]; rfl
theorem ziJ : zbF.names.lookup ("spot" : Str) = some .local := by rw [zc2]; rfl
theorem zqC : zbF.names.lookup ("len" : Str) = some .globalImplicit := by rw [zc2]; rfl
theorem zqD : zbF.names.lookup ("abs" : Str) = some .globalImplicit := by rw [zc2]; rfl
theorem ziK : (ER C (i + 1)).p zbF (.Name "pool" p) (zbX a b c) = a := zad rfl (by unfold zbX; exact (zam zfR).trans rfl)
theorem zd2 : St.get zbF "pool" (zbX a b c) = a := (by unfold zbX; exact (zam zfR).trans rfl)
theorem ziL (w : V) : St.set zbF "pool" w (zbX a b c) = some (zbX (some w) b c) := (by unfold zbX; exact (zax zfR rfl).trans rfl)
theorem ziM : (ER C (i + 1)).p zbF (.Name "many" p) (zbX a b c) = b := zad rfl (by unfold zbX; exact (zam zn4).trans rfl)
theorem ziN : (ER C (i + 1)).p zbF (.Name "spot" p) (zbX a b c) = c := zad rfl (by unfold zbX; exact (zam ziJ).trans rfl)
end
theorem ziO {C : Cfg} (hp : C.pins = [("pool" : Str)]) (a b c : Option V) (w : V) : St.put C zbF "spot" w (zbX a b c) = some (zbX a b (some w)) := zan (by rw [hp]; rfl) (by unfold zbX; exact (zax ziJ rfl).trans rfl)
theorem zkc : zar zbF "len" = true := zaz zqC
theorem zqE : zar zbF "abs" = true := zaz zqD
theorem zwA {xs : List Int} {t : Nat} (h : t < xs.length) : (xs.map D.int)[t]? = some (.int xs[t]) := by rw [List.getElem?_map, List.getElem?_eq_getElem h]; rfl
theorem zqF {n : Nat} {cells : List Int} {k m : Nat} (hc : cells.length ≤ 100) (hk : k ≤ 1000) (hm : 0 < m) (hm2 : m ≤ 100) : ∃ v : Int, (0 ≤ v ∧ v < m) ∧ (tab (n + 1)).2 "_law_draw" (zbE cells k) [.int m] = some (.int v, zbE cells (k + 1)) := by
 have hmod : ∀ a : Int, zbh .Mod a m = some (a.fmod m) := fun a => zge (ygY hm)
 have hrng : ∀ a : Int, 0 ≤ a.fmod m ∧ a.fmod m < m := fun a => ⟨Int.fmod_nonneg_of_pos a (yel hm), Int.fmod_lt_of_pos a (yel hm)⟩
 by_cases hlt : k < cells.length
 · refine ⟨((((cells.getD k 0).natAbs : Nat) : Int)).fmod m, hrng _, ?_⟩
   refine zh4 zkW zbF _ rfl rfl rfl (zkb rfl) zc2 rfl (zmB (some (zbE cells k)) (some (.f (.int m))) none) ?_
   have hCp : (cfg n ["pool"]).pins = [("pool" : Str)] := rfl
   have hCr : (cfg n ["pool"]).refs = refs := rfl
   refine ⟨zbX (some (zbE cells (k + 1))) (some (.f (.int m))) (some (.f (.int k))), .inl ?_, zd2 _ _ _⟩
   have hf : zaI cells.length = true := zae (yew hc)
   have i1 : idx [V.o ((cells.map D.int).map V.f), V.f (.int k)] 1 = some (V.f (.int k)) := rfl
   have i2 : idx [V.o ((cells.map D.int).map V.f), V.f (.int ((k : Int) + 1))] 0 = some (V.o ((cells.map D.int).map V.f)) := rfl
   have i3 : idx ((cells.map D.int).map V.f) (k : Int) = some (V.f (.int (cells.getD k 0))) := by
    rw [zez _ _ (ygx hk)]
    simp [List.getD, List.getElem?_eq_getElem hlt]
   have i4 : ∀ (o2 : Option V) (w : V), zb5 zbF "pool" 1 w (zbX (some (V.o [V.o ((cells.map D.int).map V.f), V.f (.int k)])) (some (.f (.int m))) o2) = some (zbX (some (V.o [V.o ((cells.map D.int).map V.f), w])) (some (.f (.int m))) o2) := fun o2 w => (ze6 (k := 1) (vs := [V.o ((cells.map D.int).map V.f), V.f (.int k)]) (zd2 _ _ _) (Nat.lt_succ_self 1) (by decide)).trans (ziL _ _ _ _)
   have c1 : decide ((k : Int) < (cells.length : Int)) = true := by rw [decide_eq_true_eq]; exact ygX hlt
   have e0 : ((k + 1 : Nat) : Int) = (k : Int) + 1 := by exact ygT
   clear hlt hrng
   unfold zbE
   rw [e0]
   clear e0
   simp -implicitDefEqProofs only [zdD, zct, a_n, q_s, q_n, q_c, Bool.and_true, e_s, p_s, ziK, p_c, zej, zbN, zdb, ziO, zaV, zbx, zaB, String.reduceBEq, a_ix, q_b, e_b, p_b, ziN, za3, zaG, za4, zuu, zpA, zes, zaY, e_n, zab, zaZ, zaw, za7, decide_true, zck, zkc, zbK, List.length_map, zfv, zaT, zsr, zaU, zgd, r_s, zcl, zcX, String.reduceEq, decide_false, zj0, zqE, e_abs, zbD, kAbs_s, zur, ziM, zkG, zkH, zby, zg9, *]
 · have c1 : decide ((k : Int) < (cells.length : Int)) = false := by rw [decide_eq_false_iff_not]; exact ygW hlt
   obtain ⟨v, hv⟩ : ∃ v : Int, idx [D.int 0, .int 5, .int 1, .int 4, .int 1, .int 2, .int 2, .int 4, .int 6, .int 5] ((k : Int).fmod 10) = some (.int v) := by
    have e : (k : Int).fmod 10 = ((k % 10 : Nat) : Int) := by rw [Int.fmod_eq_emod_of_nonneg _ (by decide)]; exact ygV
    have hlt : k % 10 < 10 := Nat.mod_lt _ (by decide)
    rw [e, zez _ _ (ygU)]
    generalize k % 10 = t at hlt
    exact ⟨_, zwA (xs := [0, 5, 1, 4, 1, 2, 2, 4, 6, 5]) hlt⟩
   refine ⟨v.fmod m, hrng _, ?_⟩
   refine zh4 zkW zbF _ rfl rfl rfl (zkb rfl) zc2 rfl (zmB (some (zbE cells k)) (some (.f (.int m))) none) ?_
   have hCp : (cfg n ["pool"]).pins = [("pool" : Str)] := rfl
   have hCr : (cfg n ["pool"]).refs = refs := rfl
   refine ⟨zbX (some (zbE cells (k + 1))) (some (.f (.int m))) (some (.f (.int k))), .inl ?_, zd2 _ _ _⟩
   have hf : zaI cells.length = true := zae (yew hc)
   have i1 : idx [V.o ((cells.map D.int).map V.f), V.f (.int k)] 1 = some (V.f (.int k)) := rfl
   have i2 : idx [V.o ((cells.map D.int).map V.f), V.f (.int ((k : Int) + 1))] 0 = some (V.o ((cells.map D.int).map V.f)) := rfl
   have i4 : ∀ (o2 : Option V) (w : V), zb5 zbF "pool" 1 w (zbX (some (V.o [V.o ((cells.map D.int).map V.f), V.f (.int k)])) (some (.f (.int m))) o2) = some (zbX (some (V.o [V.o ((cells.map D.int).map V.f), w])) (some (.f (.int m))) o2) := fun o2 w => (ze6 (k := 1) (vs := [V.o ((cells.map D.int).map V.f), V.f (.int k)]) (zd2 _ _ _) (Nat.lt_succ_self 1) (by decide)).trans (ziL _ _ _ _)
   have e0 : ((k + 1 : Nat) : Int) = (k : Int) + 1 := by exact ygT
   have hm10 : ∀ a : Int, zbh .Mod a 10 = some (a.fmod 10) := fun a => zge (by decide)
   clear hlt hrng
   unfold zbE
   rw [e0]
   clear e0
   simp -implicitDefEqProofs only [zdD, zct, a_n, q_s, q_n, q_c, Bool.and_true, e_s, p_s, ziK, p_c, zej, zbN, zdb, ziO, zaV, zbx, zaB, String.reduceBEq, a_ix, q_b, e_b, p_b, ziN, za3, zaG, za4, zuu, zpA, zes, zaY, e_n, zab, zaZ, zaw, za7, decide_true, zck, zkc, zbK, List.length_map, zfv, zaT, zsr, zaU, zcW, r_s, zer, zcl, q_tup, zj0, e_ix, e_tu, zbd, e_c, zaJ, za8, zaK, List.length_cons, List.length_nil, bl_0, bl_s, zsj, zbj, zbb, toF_s, eIx_s, zsi, znD, eIx2_s, zur, ziM, zbD, zkG, zkH, zby, zg9, *]
noncomputable def Rv (l : List Int) (v : V) : Prop := v = .o ((l.map D.int).map V.f) ∨ v = .f (D.ints l)
theorem ziP {sc : Scope} {x : Str} {σ τ : St} {l : List Int} {v : V} (h : Rv l v) (hs : σ.set sc x (.f (D.ints l)) = some τ) (he : v = .f (D.ints l) → σ = τ) : zfq sc x σ (some v) = some (.f (D.ints l), τ) := by
 rcases h with rfl | rfl
 · rw [zbu, zbq]
   show eSet (.f (D.ints l)) (σ.set sc x (.f (D.ints l))) = _
   rw [hs]; rfl
 · rw [zab, he rfl]
noncomputable def zsQ : Nat → List Int → List Int → Nat → List Int
 | 0, f, _, _ => f
 | n + 1, f, g, m => if m = 0 then f else zsQ n (if m % 2 = 1 then zb0 f g else f) (if 1 < m then zb0 g g else g) (m / 2)
noncomputable def zsR : Nat → List Int → List Int → Nat → Prop
 | 0, _, _, m => m = 0
 | n + 1, f, g, m => m = 0 ∨ (f.length < 900 ∧ g.length < 900 ∧ (∀ x ∈ f, x.natAbs < 1000) ∧ (∀ x ∈ g, x.natAbs < 1000) ∧ zsR n (if m % 2 = 1 then zb0 f g else f) (if 1 < m then zb0 g g else g) (m / 2))
theorem powF_0 {n : Nat} {f g : List Int} : zsQ n f g 0 = f := by cases n <;> rfl
theorem zwB {n m : Nat} {f g : List Int} (h0 : m ≠ 0) (h : zsR n f g m) : ∃ k, n = k + 1 ∧ f.length < 900 ∧ g.length < 900 ∧ (∀ x ∈ f, x.natAbs < 1000) ∧ (∀ x ∈ g, x.natAbs < 1000) ∧ zsR k (if m % 2 = 1 then zb0 f g else f) (if 1 < m then zb0 g g else g) (m / 2) ∧ zsQ n f g m = zsQ k (if m % 2 = 1 then zb0 f g else f) (if 1 < m then zb0 g g else g) (m / 2) := by
 cases n with
 | zero => exact absurd h h0
 | succ k =>
  rcases h with h | ⟨h1, h2, h3, h4, h5⟩
  · exact absurd h h0
  · refine ⟨k, rfl, h1, h2, h3, h4, h5, ?_⟩
    rw [zsQ, if_neg h0]
theorem zkd {x : Int} (h : x.natAbs < 1000) : zbo x := by unfold zbo; exact ygS h
noncomputable def ziQ : List (Str × NameKind) := [("p", .local), ("many", .local), ("found", .local), ("factor", .local), ("list", .globalImplicit), ("zmul", .globalImplicit)]
section
variable {C : Cfg} {i : Nat} {p : Pos} (a b c d : Option V)
@[irreducible] noncomputable def zaC : St := ⟨[("p", a), ("many", b), ("found", c), ("factor", d)], []⟩
theorem zn5 : ⟨[("p", a), ("many", b), ("found", c), ("factor", d)], []⟩ = zaC a b c d := by unfold zaC; rfl
theorem zdm : ∃ sc : Scope, sc.names = ziQ ∧ sc.kind = .function ∧ (zap "zpower").map (·.scope) = some sc := ⟨_, rfl, rfl, rfl⟩
noncomputable def zaL : Scope := Classical.choose zdm
theorem zca : zaL.names = ziQ := (Classical.choose_spec zdm).1
theorem zvA : zaL.kind = .function := (Classical.choose_spec zdm).2.1
theorem zmC {dr : DefRec} (h : zap "zpower" = some dr) : dr.scope = zaL := zdv h (Classical.choose_spec zdm).2.2
theorem zqG : zaL.names.lookup ("p" : Str) = some .local := by rw [zca]; rfl
theorem zgl : zaL.names.lookup ("many" : Str) = some .local := by rw [zca]; rfl
theorem zdy : zaL.names.lookup ("found" : Str) = some .local := by rw [zca]; rfl
theorem zc3 : zaL.names.lookup ("factor" : Str) = some .local := by rw [zca]; rfl
theorem zkX : zaL.names.lookup ("list" : Str) = some .globalImplicit := by rw [zca]; rfl
theorem zkY : zaL.names.lookup ("zmul" : Str) = some .globalImplicit := by rw [zca]; rfl
theorem zqH : (ER C (i + 1)).p zaL (.Name "p" p) (zaC a b c d) = a := zad rfl (by unfold zaC; exact (zam zqG).trans rfl)
theorem zco : (ER C (i + 1)).p zaL (.Name "many" p) (zaC a b c d) = b := zad rfl (by unfold zaC; exact (zam zgl).trans rfl)
theorem zd3 (hp : C.pins = []) (w : V) : St.put C zaL "many" w (zaC a b c d) = some (zaC a (some w) c d) := zan (by rw [hp]; rfl) (by unfold zaC; exact (zax zgl rfl).trans rfl)
theorem zdz : (ER C (i + 1)).p zaL (.Name "found" p) (zaC a b c d) = c := zad rfl (by unfold zaC; exact (zam zdy).trans rfl)
theorem zfD (w : V) : St.set zaL "found" w (zaC a b c d) = some (zaC a b (some w) d) := (by unfold zaC; exact (zax zdy rfl).trans rfl)
theorem zdA (hp : C.pins = []) (w : V) : St.put C zaL "found" w (zaC a b c d) = some (zaC a b (some w) d) := zan (by rw [hp]; rfl) (by unfold zaC; exact (zax zdy rfl).trans rfl)
theorem zc4 : (ER C (i + 1)).p zaL (.Name "factor" p) (zaC a b c d) = d := zad rfl (by unfold zaC; exact (zam zc3).trans rfl)
theorem ziR (w : V) : St.set zaL "factor" w (zaC a b c d) = some (zaC a b c (some w)) := (by unfold zaC; exact (zax zc3 rfl).trans rfl)
theorem zcp (hp : C.pins = []) (w : V) : St.put C zaL "factor" w (zaC a b c d) = some (zaC a b c (some w)) := zan (by rw [hp]; rfl) (by unfold zaC; exact (zax zc3 rfl).trans rfl)
end
theorem zkZ : zar zaL "list" = true := zaz zkX
theorem zd4 {C : Cfg} (hr : C.refs = refs) : zch C zaL "zmul" = true := zbl hr zkY rfl
theorem zhj {C : Cfg} {p : List Int} {N M : Nat} (hC : Cg C) (hl : p.length < 900) (hM : M < 900) (hok : zsR N [1] p M) (hT : ∀ a b : List Int, a.length < 900 → b.length < 900 → (∀ x ∈ a, zbo x) → C.T "zmul" [D.ints a, D.ints b] = some (D.ints (zb0 a b))) :
 zeq C "zpower" [D.ints p, .int M] (D.ints (zsQ N [1] p M)) := by
 refine ⟨_, rfl, rfl, ?_⟩
 refine zbU ziQ zaL _ (zmC rfl) zca (zn5 (some (.f (D.ints p))) (some (.f (.int M))) none none) ?_
 have hCp := hC.pins
 have hCr := hC.refs
 have hf : zaI p.length = true := zae (ygA hl)
 let G : V → V → Nat → St := fun v w m => zaC (some (.f (D.ints p))) (some (.f (.int m))) (some v) (some w)
 refine zj4 (σ1 := G (V.o (([1].map D.int).map V.f)) (V.o ((p.map D.int).map V.f)) M) ?_ (zsE (zhZ (n := M) (P := fun m σ => ∃ n f g v w, σ = G v w m ∧ Rv f v ∧ Rv g w ∧ m < 900 ∧ zsR n f g m ∧ zsQ n f g m = zsQ N [1] p M) ?_ (by rw [hC.W]; exact ygR hM) ⟨N, [1], p, _, _, rfl, .inl rfl, .inl rfl, hM, hok, rfl⟩) ?_)
 · clear hok hT
   dsimp only [G]
   simp -implicitDefEqProofs only [zct, ne_eq, zcX, String.reduceEq, not_false_eq_true, zkJ, zex, Bool.and_false, zrt, zbd, zg8, e_c, zaJ, za8, zaK, zgc, zkZ, zlT, e_n, zqH, zab, List.length_map, zhJ, zih, List.length_cons, List.length_nil, bl_0, bl_s, zpB, zb3, zdA, zbC, zcp, zcd, zaV, List.map_cons, List.map_nil, *]
 · rintro m σ ⟨n, f, g, v, w, rfl, hv, hw, hm9, hpk, he⟩
   by_cases h0 : m = 0
   · left
     refine ⟨?_, h0⟩
     have c1 : decide ((m : Int) > 0) = false := by rw [decide_eq_false_iff_not]; exact ygQ h0
     clear h0 hpk he hok hT hv hw
     dsimp only [G]
     simp -implicitDefEqProofs only [zaY, e_n, zco, zab, zaZ, zaw, e_c, zaT, zpz, zaU, *]
   · right
     have c1 : decide ((m : Int) > 0) = true := by rw [decide_eq_true_eq]; exact ygP h0
     obtain ⟨k, rfl, hf1, hg1, hfs, hgs, hok', he'⟩ := zwB h0 hpk
     have t1 := hT f g hf1 hg1 fun x hx => zkd (hfs x hx)
     have t2 := hT g g hg1 hg1 fun x hx => zkd (hgs x hx)
     have hm2 : zbh .Mod m 2 = some ((m % 2 : Nat) : Int) := by rw [zge (by decide), Int.fmod_eq_emod_of_nonneg _ (by decide)]; congr 1
     have hd2 : zbh .FloorDiv m 2 = some ((m / 2 : Nat) : Int) := by rw [zey (by decide) (ze7 (yeF) (ygO hm9)) (by decide), Int.fdiv_eq_ediv_of_nonneg _ (by decide)]; congr 1
     have n1 : ∀ u : Option V, zfq zaL "found" (zaC (some (.f (D.ints p))) (some (.f (.int m))) (some v) u) (some v) = some (.f (D.ints f), zaC (some (.f (D.ints p))) (some (.f (.int m))) (some (.f (D.ints f))) u) := fun u => ziP hv (zfD _ _ _ _ _) fun e => by rw [e]
     have n2 : ∀ u : Option V, zfq zaL "factor" (zaC (some (.f (D.ints p))) (some (.f (.int m))) u (some w)) (some w) = some (.f (D.ints g), zaC (some (.f (D.ints p))) (some (.f (.int m))) u (some (.f (D.ints g)))) := fun u => ziP hw (ziR _ _ _ _ _) fun e => by rw [e]
     rw [he'] at he
     refine ⟨?_, ?_⟩
     · clear hok hT hok' he' he hpk hfs hgs h0 hv hw
       dsimp only [G]
       simp -implicitDefEqProofs only [zaY, e_n, zco, zab, zaZ, zaw, e_c, zaT, zpz, zaU, *]
     · by_cases ho : m % 2 = 1
       · have c2 : (((m % 2 : Nat) : Int) == 1) = true := by rw [beq_iff_eq]; exact ygN ho
         rw [if_pos ho] at he hok'
         by_cases h1 : 1 < m
         · have c3 : decide ((m : Int) > 1) = true := by rw [decide_eq_true_eq]; exact ygJ h1
           rw [if_pos h1] at he hok'
           refine ⟨G (.f (D.ints (zb0 f g))) (.f (D.ints (zb0 g g))) (m / 2), ?_, m / 2, by exact ygI h1, k, _, _, _, _, rfl, .inr rfl, .inr rfl, by exact ygH hm9, hok', he⟩
           clear hok hT hok' he' he hpk hfs hgs h0 ho h1 hv hw
           dsimp only [G]
           simp -implicitDefEqProofs only [r_s, zdD, zes, zaY, q_b, q_n, q_c, Bool.and_true, e_b, p_b, zco, p_c, za3, za4, zbN, zaZ, zaw, e_c, zaT, zjI, zaU, zgd, zct, a_n, zd4, zbS, zbd, e_n, zdz, zaJ, zc4, za8, zaK, zhX, zbj, zbb, zcV, zdb, zdA, zaV, zbx, zer, zjH, zab, zpz, zgb, zcp, zd3, *]
         · have c3 : decide ((m : Int) > 1) = false := by rw [decide_eq_false_iff_not]; exact ygM h1
           rw [if_neg h1] at he hok'
           refine ⟨G (.f (D.ints (zb0 f g))) (.f (D.ints g)) (m / 2), ?_, m / 2, by exact ybJ ho, k, _, _, _, _, rfl, .inr rfl, .inr rfl, by exact ygL h1, hok', he⟩
           clear hok hT hok' he' he hpk hfs hgs h0 ho h1 hv hw
           dsimp only [G]
           simp -implicitDefEqProofs only [r_s, zdD, zes, zaY, q_b, q_n, q_c, Bool.and_true, e_b, p_b, zco, p_c, za3, za4, zbN, zaZ, zaw, e_c, zaT, zjI, zaU, zgd, zct, a_n, zd4, zbS, zbd, e_n, zdz, zaJ, zc4, za8, zaK, zhX, zbj, zbb, zcV, zdb, zdA, zaV, zbx, zer, zjH, zab, zpz, zjK, zcp, zd3, *]
       · have c2 : (((m % 2 : Nat) : Int) == 1) = false := by rw [beq_eq_false_iff_ne]; exact ygK ho
         rw [if_neg ho] at he hok'
         have h1 : 1 < m := by exact ybA h0 ho
         have c3 : decide ((m : Int) > 1) = true := by rw [decide_eq_true_eq]; exact ygJ h1
         rw [if_pos h1] at he hok'
         refine ⟨G v (.f (D.ints (zb0 g g))) (m / 2), ?_, m / 2, by exact ygI h1, k, _, _, _, _, rfl, hv, .inr rfl, by exact ygH hm9, hok', he⟩
         clear hok hT hok' he' he hpk hfs hgs h0 ho h1 hv hw
         dsimp only [G]
         simp -implicitDefEqProofs only [r_s, zdD, zes, zaY, q_b, q_n, q_c, Bool.and_true, e_b, p_b, zco, p_c, za3, za4, zbN, zaZ, zaw, e_c, zaT, zjI, zaU, zcW, zer, zbx, zct, a_n, zjH, e_n, zab, zpz, zgb, zd4, zbS, zbd, zc4, zaJ, za8, zaK, zhX, zbj, zbb, zcV, zdb, zcp, zaV, zd3, *]
 · rintro σ ⟨n, f, g, v, w, rfl, hv, hw, hm9, hpk, he⟩
   rw [powF_0] at he
   have n1 : ∀ u : Option V, zfq zaL "found" (zaC (some (.f (D.ints p))) (some (.f (.int ((0 : Nat) : Int)))) (some v) u) (some v) = some (.f (D.ints f), zaC (some (.f (D.ints p))) (some (.f (.int ((0 : Nat) : Int)))) (some (.f (D.ints f))) u) := fun u => ziP hv (zfD _ _ _ _ _) fun e => by rw [e]
   refine zlm (σ1 := zaC (some (.f (D.ints p))) (some (.f (.int ((0 : Nat) : Int)))) (some (.f (D.ints f))) (some w)) ?_
   rw [← he]
   clear hok hT he hpk hv hw
   dsimp only [G]
   simp -implicitDefEqProofs only [zcl, e_n, zdz, zby, zaw, *]
noncomputable def chF (n : Int) : Nat → Int
 | 0 => 1
 | j + 1 => (chF n j * (n - j)).fdiv (j + 1)
noncomputable def ziS : List (Str × NameKind) := [("n", .local), ("many", .local), ("found", .local), ("at", .local), ("range", .globalImplicit)]
section
variable {C : Cfg} {i : Nat} {p : Pos} (a b c d : Option V)
@[irreducible] noncomputable def zbB : St := ⟨[("n", a), ("many", b), ("found", c), ("at", d)], []⟩
theorem zn6 : ⟨[("n", a), ("many", b), ("found", c), ("at", d)], []⟩ = zbB a b c d := by unfold zbB; rfl
theorem zdn : ∃ sc : Scope, sc.names = ziS ∧ sc.kind = .function ∧ (zap "_law_choose").map (·.scope) = some sc := ⟨_, rfl, rfl, rfl⟩
noncomputable def zbk : Scope := Classical.choose zdn
theorem zcy : zbk.names = ziS := (Classical.choose_spec zdn).1
theorem zvB : zbk.kind = .function := (Classical.choose_spec zdn).2.1
theorem zmD {dr : DefRec} (h : zap "_law_choose" = some dr) : dr.scope = zbk := zdv h (Classical.choose_spec zdn).2.2
theorem zqI : zbk.names.lookup ("n" : Str) = some .local := by rw [zcy]; rfl
theorem zk0 : zbk.names.lookup ("many" : Str) = some .local := by rw [zcy]; rfl
theorem zfE : zbk.names.lookup ("found" : Str) = some .local := by rw [zcy]; rfl
theorem ziT : zbk.names.lookup ("at" : Str) = some .local := by rw [zcy]; rfl
theorem zjR : zbk.names.lookup ("range" : Str) = some .globalImplicit := by rw [zcy]; rfl
theorem zqJ : (ER C (i + 1)).p zbk (.Name "n" p) (zbB a b c d) = a := zad rfl (by unfold zbB; exact (zam zqI).trans rfl)
theorem zk1 : (ER C (i + 1)).p zbk (.Name "many" p) (zbB a b c d) = b := zad rfl (by unfold zbB; exact (zam zk0).trans rfl)
theorem zfF : (ER C (i + 1)).p zbk (.Name "found" p) (zbB a b c d) = c := zad rfl (by unfold zbB; exact (zam zfE).trans rfl)
theorem zfG (hp : C.pins = []) (w : V) : St.put C zbk "found" w (zbB a b c d) = some (zbB a b (some w) d) := zan (by rw [hp]; rfl) (by unfold zbB; exact (zax zfE rfl).trans rfl)
theorem zn7 : (ER C (i + 1)).p zbk (.Name "at" p) (zbB a b c d) = d := zad rfl (by unfold zbB; exact (zam ziT).trans rfl)
theorem zn8 (hp : C.pins = []) (w : V) : St.put C zbk "at" w (zbB a b c d) = some (zbB a b c (some w)) := zan (by rw [hp]; rfl) (by unfold zbB; exact (zax ziT rfl).trans rfl)
end
theorem zjS : zar zbk "range" = true := zaz zjR
theorem zmE {C : Cfg} {n : Int} {m : Nat} (hC : Cg C) (hm : m < 900) (hs : ∀ j, j < m → zbo (n - j) ∧ zbo (chF n j * (n - j))) : zeq C "_law_choose" [.int n, .int m] (.int (chF n m)) := by
 refine ⟨_, rfl, rfl, ?_⟩
 refine zbU ziS zbk _ (zmD rfl) zcy (zn6 (some (.f (.int n))) (some (.f (.int m))) none none) ?_
 have hCp := hC.pins
 have hCr := hC.refs
 have hm1 : m ≤ 100000 := by exact ygA hm
 let G : Nat → Option V → St := fun j o => zbB (some (.f (.int n))) (some (.f (.int m))) (some (.f (.int (chF n j)))) o
 refine zj4 (σ1 := G 0 none) ?_ (zsE (zcI (ds := zb6 0 m) (pr := false) (σ2 := G 0 none) (fun j σ => ∃ o, σ = G j o) ?_ ⟨none, rfl⟩ ?_) ?_)
 · clear hs
   dsimp only [G]
   simp -implicitDefEqProofs only [zct, a_n, e_c, zdb, zfG, zaV, *]
   rfl
 · clear hs
   dsimp only [G]
   simp -implicitDefEqProofs only [zjS, zqa, e_n, zk1, zab, zbD, zgL, *]
 · rintro j d τ hd ⟨o, rfl⟩
   obtain ⟨rfl, hj⟩ := zaS hd
   obtain ⟨h1, h2⟩ := hs j hj
   have e1 : zbh .Mult (chF n j) (n - j) = some (chF n j * (n - j)) := zbT (.inr h1)
   have e2 : zbh .FloorDiv (chF n j * (n - j)) ((j : Int) + 1) = some (chF n (j + 1)) := zey (ygG) h2 (ze7 (ygF) (ygE hm hj))
   rw [Int.zero_add]
   refine ⟨G j (some (.f (.int j))), ?_, G (j + 1) (some (.f (.int j))), ?_, _, rfl⟩
   · clear hs hd h1 h2 hj
     dsimp only [G]
     simp -implicitDefEqProofs only [zdu, zn8, *]
   · clear hs hd h1 h2 hj
     dsimp only [G]
     simp -implicitDefEqProofs only [r_s, zdD, zct, a_n, q_b, q_n, Bool.and_true, q_c, e_b, p_b, zfF, zqJ, zn7, za3, zaN, za4, p_c, zaG, zbN, zdb, zfG, zaV, zbx, zer, *]
 · rintro σ ⟨o, rfl⟩
   rw [zaD]
   refine zlm (σ1 := G m o) ?_
   clear hs
   dsimp only [G]
   simp -implicitDefEqProofs only [zcl, e_n, zfF, zab, zby, zaw, *]
theorem zn9 {C : Cfg} {R : Rec} {sc : Scope} {σ σ2 : St} {target iter : Expr} {body : List Stmt} {p : Pos} {ds : List D} {pr : Bool} (P : Nat → St → Prop) (Q : D → St → Prop) (hi : zb2 R sc iter σ = some ((ds, pr), σ2)) (h0 : P 0 σ2)
 (h : ∀ j d τ, ds[j]? = some d → P j τ → ∃ τ1, zku C sc pr target d τ = some τ1 ∧ (Nxt (R.s sc body τ1) (P (j + 1)) ∨ ∃ v τ2, R.s sc body τ1 = some (.ret v, τ2) ∧ Q v τ2)) :
 Nxt (zbG C R sc (.For target iter body [] p) σ) (P ds.length) ∨ ∃ v τ2, zbG C R sc (.For target iter body [] p) σ = some (.ret v, τ2) ∧ Q v τ2 := by
 have key : ∀ (es : List D) (i : Nat) (σ : St), P i σ → (∀ j d, es[j]? = some d → ds[i + j]? = some d) → Nxt (zjJ C R sc pr target body es σ) (P (i + es.length)) ∨ ∃ v τ2, zjJ C R sc pr target body es σ = some (.ret v, τ2) ∧ Q v τ2 := by
  intro es
  induction es with
  | nil => exact fun i σ h0 _ => .inl ⟨σ, rfl, h0⟩
  | cons d es ih =>
   intro i σ h0 hes
   obtain ⟨τ1, h1, h2⟩ := h i d σ (hes 0 d rfl) h0
   unfold zjJ
   rw [h1, Option.bind_some]
   rcases h2 with ⟨τ2, h2, h3⟩ | ⟨v, τ2, h2, h3⟩
   · rw [h2, List.length_cons, show i + (es.length + 1) = i + 1 + es.length by exact ygD]
     exact ih (i + 1) τ2 h3 fun j d hd => by rw [show i + 1 + j = i + (j + 1) by exact ygC]; exact hes (j + 1) d (by simpa using hd)
   · rw [h2]
     exact .inr ⟨v, τ2, rfl, h3⟩
 have := key ds 0 σ2 h0 fun j d hd => by rwa [Nat.zero_add]
 rw [Nat.zero_add] at this
 show Nxt ((zb2 R sc iter σ).bind _) _ ∨ ∃ v τ2, ((zb2 R sc iter σ).bind _) = _ ∧ _
 rw [hi]
 exact this
theorem seqFR {C : Cfg} {R : Rec} {sc : Scope} {σ : St} {st : Stmt} {rest : List Stmt} {d : D} {P : St → Prop} {Q : D → St → Prop} (h : Nxt (zbG C R sc st σ) P ∨ ∃ v τ2, zbG C R sc st σ = some (.ret v, τ2) ∧ Q v τ2) (hq : ∀ v τ, Q v τ → v = d) (hp : ∀ τ, P τ → ∃ σ', za6 C R sc rest τ = some (.ret d, σ')) : ∃ σ', za6 C R sc (st :: rest) σ = some (.ret d, σ') := by
 rcases h with ⟨τ, h, h2⟩ | ⟨v, τ, h, h2⟩
 · rw [zdD, h]; exact hp τ h2
 · rw [zdD, h, hq v τ h2]; exact ⟨_, rfl⟩
noncomputable def Ret (r : Option (Fl × St)) (d : D) (T : St → Prop) : Prop := ∃ σ', r = some (.ret d, σ') ∧ T σ'
theorem ret_FR {C : Cfg} {R : Rec} {sc : Scope} {σ : St} {st : Stmt} {rest : List Stmt} {d : D} {P T : St → Prop} {Q : D → St → Prop} (h : Nxt (zbG C R sc st σ) P ∨ ∃ v τ2, zbG C R sc st σ = some (.ret v, τ2) ∧ Q v τ2) (hq : ∀ v τ, Q v τ → v = d ∧ T τ) (hp : ∀ τ, P τ → Ret (za6 C R sc rest τ) d T) : Ret (za6 C R sc (st :: rest) σ) d T := by
 rcases h with ⟨τ, h, h2⟩ | ⟨v, τ, h, h2⟩
 · rw [zdD, h]; exact hp τ h2
 · obtain ⟨rfl, h3⟩ := hq v τ h2
   rw [zdD, h]; exact ⟨τ, rfl, h3⟩
noncomputable def prevA (ds : List D) : Nat → Option V
 | 0 => none
 | j + 1 => match ds[j]? with | some (.tup [a, _]) => some (.f a) | _ => none
noncomputable def prevB (ds : List D) : Nat → Option V
 | 0 => none
 | j + 1 => match ds[j]? with | some (.tup [_, b]) => some (.f b) | _ => none
theorem zgR {C : Cfg} {R : Rec} {sc scope : Scope} {σ σ1 : St} {elt iter : Expr} {x y : Str} {p px py : Pos} {k : Nat} {pr : Bool} {ds : List D} (v : Nat → V) (hp : C.pins = []) (h1 : zbZ scope sc = true) (h3 : (scope.names.all fun x => x.2 != .free || has x.1 σ.k) = true)
 (hl : zbi scope = [(".0" : Str), x, y]) (hc : zaO scope = []) (hkx : (zaF scope sc).names.lookup x = some .local) (hky : (zaF scope sc).names.lookup y = some .local) (hx : x ≠ ".0") (hy : y ≠ ".0") (hxy : x ≠ y) (hi : zb2 R sc iter σ = some ((ds, pr), σ1)) (hf : zaI ds.length = true)
 (h : ∀ j d, ds[j]? = some d → ∃ a b, d = .tup [a, b] ∧ R.e (zaF scope sc) elt ⟨[(".0", none), (x, some (.f a)), (y, some (.f b))], σ1.k⟩ = some (v j, ⟨[(".0", none), (x, some (.f a)), (y, some (.f b))], σ1.k⟩)) :
 zfo C R sc elt [⟨.Tuple [.Name x px, .Name y py] k p, iter, [], 0⟩] scope σ = some (.o ((List.range ds.length).map v), σ1) := by
 have hL := ziq (C := C) (R := R) (sc := zaF scope sc) (pairs := pr) (target := .Tuple [.Name x px, .Name y py] k p) (ifs := []) (em := zep R (zaF scope sc) elt) (fun j => ⟨[(".0", none), (x, prevA ds j), (y, prevB ds j)], σ1.k⟩) (fun j => [v j]) ds fun j d hd => by
  obtain ⟨a, b, rfl, he⟩ := h j d hd
  refine ⟨⟨[(".0", none), (x, some (.f a)), (y, some (.f b))], σ1.k⟩, ?_, .inl ⟨rfl, ?_⟩⟩
  · have hy' := Ne.symm hy
    have hx' := Ne.symm hx
    rw [zlZ, List.map_cons, List.map_cons, List.map_nil, zb3, zcY hp hkx (by simp only [zcj]; simp), zbC, zb3, zcY hp hky (by simp only [upd, if_neg hx', if_true, zcj]; simp), zbC, zcd]
    simp only [upd, if_neg hx', if_neg hy', if_neg hxy, if_true]
  · have e1 : prevA ds (j + 1) = some (.f a) := by show (match ds[j]? with | some (.tup [a, _]) => some (V.f a) | _ => none) = _; rw [hd]
    have e2 : prevB ds (j + 1) = some (.f b) := by show (match ds[j]? with | some (.tup [_, b]) => some (V.f b) | _ => none) = _; rw [hd]
    simp only [zep, he, Option.map_some, e1, e2]
 rw [zdT] at hL
 have := zir (C := C) (R := R) (sc := sc) (scope := scope) (σ := σ) (elt := elt) (g := ⟨.Tuple [.Name x px, .Name y py] k p, iter, [], 0⟩) h1 rfl h3 hi (by
  rw [hl, hc]
  exact hL) (by rw [List.length_map, List.length_range]; exact hf)
 rw [this, hc]
 rfl
theorem in_a {C : Cfg} {sc : Scope} {x y : Str} {a b : D} {κ : zbt} {i : Nat} {p : Pos} (hk : sc.names.lookup x = some .local) (hx : (x == (".0" : Str)) = false) (hd : (x == ("__debug__" : Str)) = false) : (ER C (i + 1)).p sc (.Name x p) ⟨[(".0", none), (x, some (.f a)), (y, some (.f b))], κ⟩ = some (.f a) := by
 refine zad hd ((zam hk).trans ?_)
 unfold zfu
 rw [List.lookup_cons, hx, List.lookup_cons, beq_self_eq_true]; rfl
theorem in_b {C : Cfg} {sc : Scope} {x y : Str} {a b : D} {κ : zbt} {i : Nat} {p : Pos} (hk : sc.names.lookup y = some .local) (hx : (y == (".0" : Str)) = false) (hxy : (y == x) = false) (hd : (y == ("__debug__" : Str)) = false) : (ER C (i + 1)).p sc (.Name y p) ⟨[(".0", none), (x, some (.f a)), (y, some (.f b))], κ⟩ = some (.f b) := by
 refine zad hd ((zam hk).trans ?_)
 unfold zfu
 rw [List.lookup_cons, hx, List.lookup_cons, hxy, List.lookup_cons, beq_self_eq_true]; rfl
theorem zk2 (a : List Int) : ∀ (b : List Int) (j : Nat) (d : D), (zlj (a.map D.int) (b.map D.int))[j]? = some d → j < a.length ∧ j < b.length ∧ d = .tup [.int (a.getD j 0), .int (b.getD j 0)] := by
 induction a with
 | nil => intro b j d h; cases h
 | cons x a ih =>
  intro b j d h
  cases b with
  | nil => cases h
  | cons y b =>
   cases j with
   | zero => cases h; exact ⟨by simp, by simp, rfl⟩
   | succ j =>
    obtain ⟨h1, h2, h3⟩ := ih b j d h
    exact ⟨by simpa using h1, by simpa using h2, by rw [h3]; simp [List.getD]⟩
theorem zgS (a : List Int) : ∀ b : List Int, (zlj (a.map D.int) (b.map D.int)).length = min a.length b.length := by
 induction a with
 | nil => intro b; simp [zlj]
 | cons x a ih =>
  intro b
  cases b with
  | nil => rfl
  | cons y b =>
   show (zlj (a.map D.int) (b.map D.int)).length + 1 = _
   rw [ih, List.length_cons, List.length_cons]; exact ygB
noncomputable def zfS : Int → List Int → Option Int
 | last, [] => some last
 | last, x :: xs => if x = last then none else zfS (if x = 0 then last else x) xs
noncomputable def zc9 (a b : List Int) : List Int := (List.range (min a.length b.length)).map fun j => b.getD j 0 - a.getD j 0
noncomputable def zel (one other : List Int) : Option (List Int) := if zfS (-1) (zc9 one other) = some 1 then some (zc9 one other) else none
noncomputable def optD : Option (List Int) → D
 | some l => D.ints l
 | none => .none
noncomputable def zk3 : List (Str × NameKind) := [("one", .local), ("other", .local), ("row", .local), ("last", .local), ("number", .local), ("zip", .globalImplicit)]
section
variable {C : Cfg} {i : Nat} {p : Pos} (a b c d e : Option V)
@[irreducible] noncomputable def zbc : St := ⟨[("one", a), ("other", b), ("row", c), ("last", d), ("number", e)], []⟩
theorem zqK : ⟨[("one", a), ("other", b), ("row", c), ("last", d), ("number", e)], []⟩ = zbc a b c d e := by unfold zbc; rfl
theorem zd5 : ∃ sc : Scope, sc.names = zk3 ∧ sc.kind = .function ∧ (zap "_law_turns").map (·.scope) = some sc := ⟨_, rfl, rfl, rfl⟩
noncomputable def zbf : Scope := Classical.choose zd5
theorem zcf : zbf.names = zk3 := (Classical.choose_spec zd5).1
theorem zwC : zbf.kind = .function := (Classical.choose_spec zd5).2.1
theorem zoa {dr : DefRec} (h : zap "_law_turns" = some dr) : dr.scope = zbf := zdv h (Classical.choose_spec zd5).2.2
theorem zob : zbf.names.lookup ("one" : Str) = some .local := by rw [zcf]; rfl
theorem zk4 : zbf.names.lookup ("other" : Str) = some .local := by rw [zcf]; rfl
theorem zfT : zbf.names.lookup ("row" : Str) = some .local := by rw [zcf]; rfl
theorem zhk : zbf.names.lookup ("last" : Str) = some .local := by rw [zcf]; rfl
theorem zfH : zbf.names.lookup ("number" : Str) = some .local := by rw [zcf]; rfl
theorem zoc : zbf.names.lookup ("zip" : Str) = some .globalImplicit := by rw [zcf]; rfl
theorem zod : (ER C (i + 1)).p zbf (.Name "one" p) (zbc a b c d e) = a := zad rfl (by unfold zbc; exact (zam zob).trans rfl)
theorem zk5 : (ER C (i + 1)).p zbf (.Name "other" p) (zbc a b c d e) = b := zad rfl (by unfold zbc; exact (zam zk4).trans rfl)
theorem ziU : (ER C (i + 1)).p zbf (.Name "row" p) (zbc a b c d e) = c := zad rfl (by unfold zbc; exact (zam zfT).trans rfl)
theorem zoe (w : V) : St.set zbf "row" w (zbc a b c d e) = some (zbc a b (some w) d e) := (by unfold zbc; exact (zax zfT rfl).trans rfl)
theorem zof (hp : C.pins = []) (w : V) : St.put C zbf "row" w (zbc a b c d e) = some (zbc a b (some w) d e) := zan (by rw [hp]; rfl) (by unfold zbc; exact (zax zfT rfl).trans rfl)
theorem zcM : (ER C (i + 1)).p zbf (.Name "last" p) (zbc a b c d e) = d := zad rfl (by unfold zbc; exact (zam zhk).trans rfl)
theorem zeL (hp : C.pins = []) (w : V) : St.put C zbf "last" w (zbc a b c d e) = some (zbc a b c (some w) e) := zan (by rw [hp]; rfl) (by unfold zbc; exact (zax zhk rfl).trans rfl)
theorem zdB : (ER C (i + 1)).p zbf (.Name "number" p) (zbc a b c d e) = e := zad rfl (by unfold zbc; exact (zam zfH).trans rfl)
theorem zjT (hp : C.pins = []) (w : V) : St.put C zbf "number" w (zbc a b c d e) = some (zbc a b c d (some w)) := zan (by rw [hp]; rfl) (by unfold zbc; exact (zax zfH rfl).trans rfl)
end
theorem zog : zar zbf "zip" = true := zaz zoc
theorem zoh {C : Cfg} {one other : List Int} (hC : Cg C) (h1 : one.length < 900) (h2 : other.length < 900) : zeq C "_law_turns" [D.ints one, D.ints other] (optD (zel one other)) := by
 refine ⟨_, rfl, rfl, ?_⟩
 refine zbU zk3 zbf _ (zoa rfl) zcf (zqK (some (.f (D.ints one))) (some (.f (D.ints other))) none none none) ?_
 have hCp := hC.pins
 have hCr := hC.refs
 have hf1 : zaI one.length = true := zae (ygA h1)
 have hf2 : zaI other.length = true := zae (ygA h2)
 have hlr : (zc9 one other).length = min one.length other.length := by unfold zc9; rw [List.length_map, List.length_range]
 let G : V → Option V → Option V → St := fun r la nu => zbc (some (.f (D.ints one))) (some (.f (D.ints other))) (some r) la nu
 have hcomp : ∀ R : Nat, ∃ τ, True := fun _ => ⟨G (.f .none) none none, trivial⟩
 refine zj4 (σ1 := G (.o (((zc9 one other).map D.int).map V.f)) (some (.f (.int (-1)))) none) ?_ (seqFR (zn9 (ds := (zc9 one other).map D.int) (pr := false) (σ2 := G (.f (D.ints (zc9 one other))) (some (.f (.int (-1)))) none)
  (fun j σ => ∃ la nu, σ = G (.f (D.ints (zc9 one other))) (some (.f (.int la))) nu ∧ zfS (-1) (zc9 one other) = zfS la ((zc9 one other).drop j)) (fun v _ => v = optD (zel one other)) ?_ ⟨_, _, rfl, rfl⟩ ?_) (fun v _ h => h) ?_)
 · dsimp only [G]
   simp -implicitDefEqProofs only [zct, ne_eq, zcX, String.reduceEq, not_false_eq_true, zsv, ca_u, zwl, Bool.and_true, zrt, zbd, zbR, *]
   rw [zgR (ds := zlj (one.map D.int) (other.map D.int)) (pr := true) (σ1 := zbc (some (.f (D.ints one))) (some (.f (D.ints other))) none none none) (fun j => V.f (.int (other.getD j 0 - one.getD j 0))) hC.pins (zaH ⟨_, zcf, rfl⟩) rfl rfl rfl (zav rfl) (zav rfl) (by decide) (by decide) (by decide)]
   · have e : (List.range (zlj (one.map D.int) (other.map D.int)).length).map (fun j => V.f (.int (other.getD j 0 - one.getD j 0))) = ((zc9 one other).map D.int).map V.f := by
      rw [zgS]; unfold zc9; rw [List.map_map, List.map_map]; rfl
     rw [e]
     generalize zc9 one other = l
     simp -implicitDefEqProofs only [zaJ, zbd, q_u, q_c, e_u, p_u, p_c, zeh, zbN, za8, zaK, List.length_cons, List.length_nil, bl_0, bl_s, zpB, zb3, zof, zbC, zeL, zcd, zaV, *]
   · simp -implicitDefEqProofs only [zog, zwn, e_n, zod, zab, List.length_map, zhJ, iZ_s, zk5, zwo, *]
   · rw [zgS]; exact zae (ygz h2)
   · intro j d hd
     obtain ⟨_, _, rfl⟩ := zk2 _ _ _ _ hd
     refine ⟨_, _, rfl, ?_⟩
     have g1 := @in_a C
     have g2 := @in_b C
     generalize hsc : zaF _ _ = sc'
     have e1 : sc'.names.lookup ("here" : Str) = some .local := by rw [← hsc]; exact zav rfl
     have e2 : sc'.names.lookup ("there" : Str) = some .local := by rw [← hsc]; exact zav rfl
     clear hsc hd
     simp -implicitDefEqProofs only [q_b, q_n, Bool.and_true, e_b, p_b, zaB, String.reduceBEq, za3, zaN, za4, zbN, *]
 · have hf3 : zaI (zc9 one other).length = true := zae (ybD h2 hlr)
   generalize zc9 one other = l at hf3
   dsimp only [G]
   simp -implicitDefEqProofs only [i_n, e_n, ziU, zbu, zbq, zoe, zcs, List.length_map, zdc, zll, *]
 · rintro j d τ hd ⟨la, nu, rfl, he⟩
   obtain rfl := zbL hd
   have hj : j < (zc9 one other).length := by have := (List.getElem?_eq_some_iff.mp hd).1; simpa using this
   have hdr : (zc9 one other).drop j = (zc9 one other).getD j 0 :: (zc9 one other).drop (j + 1) := by
    rw [List.drop_eq_getElem_cons hj]
    simp [List.getD, List.getElem?_eq_getElem hj]
   have htn : zfS (-1) (zc9 one other) = none → optD (zel one other) = .none := fun q => by unfold zel; rw [q]; rfl
   rw [hdr, zfS] at he
   generalize hl : zc9 one other = l at *
   generalize l.getD j 0 = x at *
   refine ⟨G (.f (D.ints l)) (some (.f (.int la))) (some (.f (.int x))), ?_, ?_⟩
   · clear hd hdr he htn hl
     dsimp only [G]
     simp -implicitDefEqProofs only [zdu, zjT, *]
   · by_cases q : x = la
     · right
       rw [if_pos q] at he
       have c1 : (x == la) = true := by rw [beq_iff_eq]; exact q
       refine ⟨.none, G (.f (D.ints l)) (some (.f (.int la))) (some (.f (.int x))), ?_, (htn he).symm⟩
       clear hd hdr he htn hl q
       dsimp only [G]
       simp -implicitDefEqProofs only [r_s, zdD, zes, zaY, e_n, zdB, zab, zaZ, zaw, zcM, zaT, zjI, zaU, zgd, zcl, ztP, zby, zg9, *]
     · left
       rw [if_neg q] at he
       have c1 : (x == la) = false := by rw [beq_eq_false_iff_ne]; exact q
       by_cases q0 : x = 0
       · rw [if_pos q0] at he
         have c2 : (!(x == 0)) = false := by rw [q0]; rfl
         refine ⟨G (.f (D.ints l)) (some (.f (.int la))) (some (.f (.int x))), ?_, _, _, rfl, he⟩
         clear hd hdr he htn hl q q0
         dsimp only [G]
         simp -implicitDefEqProofs only [r_s, zdD, zes, zaY, e_n, zdB, zab, zaZ, zaw, zcM, zaT, zjI, zaU, zcW, zer, zbx, zct, a_n, zjH, e_c, zlW, zjK, zdb, zeL, zaV, *]
       · rw [if_neg q0] at he
         have c2 : (!(x == 0)) = true := by simpa using q0
         refine ⟨G (.f (D.ints l)) (some (.f (.int x))) (some (.f (.int x))), ?_, _, _, rfl, he⟩
         clear hd hdr he htn hl q q0
         dsimp only [G]
         simp -implicitDefEqProofs only [r_s, zdD, zes, zaY, e_n, zdB, zab, zaZ, zaw, zcM, zaT, zjI, zaU, zcW, zer, zbx, zct, a_n, zjH, e_c, zlW, zgb, zdb, zeL, zaV, *]
 · rintro τ ⟨la, nu, rfl, he⟩
   rw [List.length_map, List.drop_length, zfS] at he
   refine zlm (σ1 := G (.f (D.ints (zc9 one other))) (some (.f (.int la))) nu) ?_
   unfold zel
   rw [he]
   by_cases q : la = 1
   · have c1 : (la == 1) = true := by rw [beq_iff_eq]; exact q
     rw [if_pos (by rw [q])]
     clear he q
     dsimp only [G]
     simp -implicitDefEqProofs only [zcl, zjH, zaY, e_n, zcM, zab, zaZ, zaw, e_c, zaT, zjI, zaU, zgb, ziU, zby, *]
     rfl
   · have c1 : (la == 1) = false := by rw [beq_eq_false_iff_ne]; exact q
     rw [if_neg (by intro h; exact q (Option.some.inj h))]
     clear he q
     dsimp only [G]
     simp -implicitDefEqProofs only [zcl, zjH, zaY, e_n, zcM, zab, zaZ, zaw, e_c, zaT, zjI, zaU, zjK, ztP, zby, *]
     rfl
noncomputable def zeM (l s u : Int) (q : Int × Int × Int × Int) : Int × Int × Int × Int :=
 (if s = 0 then q.1 else q.1 * l, if s = 0 then q.2.1 else if s = -1 then q.2.1 + s * q.2.2.2 - 1 else q.2.1 + s * q.2.2.2, if s = -1 then q.2.2.1 + 1 else q.2.2.1, q.2.2.2 + (1 - u))
noncomputable def zcg (line row sums : List Int) : Nat → Int × Int × Int × Int
 | 0 => (1, 0, 0, 0)
 | j + 1 => zeM (line.getD j 0) (row.getD j 0) (sums.getD j 0) (zcg line row sums j)
noncomputable def zdo (l : List Int) : List Int := (List.range (min l.length ((0 : Int) :: l).length)).map fun j => l.getD j 0 + ((0 : Int) :: l).getD j 0
noncomputable def zcN (l : List Int) : Nat → List Int
 | 0 => l
 | t + 1 => zdo (zcN l t)
theorem zff (l : List Int) : (zdo l).length = l.length := by unfold zdo; rw [List.length_map, List.length_range, List.length_cons]; exact ygy
theorem zgT (l : List Int) : ∀ t, (zcN l t).length = l.length := by
 intro t
 induction t with
 | zero => rfl
 | succ t ih => rw [zcN, zff, ih]
noncomputable def zoi (N : Int) (p m : Nat) (told : List Int) : List Int := (List.replicate p 0 ++ zcN (told.map fun x => N * x) m).take told.length
theorem zpI {l : List Int} {j : Nat} (h : j < l.length) (h2 : j ≤ 1000) : idx (l.map D.int) (j : Int) = some (.int (l.getD j 0)) := by
 rw [zez _ _ (ygx h2)]
 simp [List.getD, List.getElem?_eq_getElem h]
theorem zcz (l : List Int) (g : Int → Int) : (List.range l.length).map (fun j => V.f (.int (g (l.getD j 0)))) = ((l.map g).map D.int).map V.f := by
 rw [zj3 l fun x => V.f (.int (g x)), List.map_map, List.map_map]; rfl
noncomputable def zoj : List (Str × NameKind) := [("line", .local), ("row", .local), ("sums", .local), ("told", .local), ("number", .cell), ("power", .local), ("many", .local), ("free", .local), ("at", .local), ("sign", .local), ("found", .local), ("turn", .local), ("enumerate", .globalImplicit), ("range", .globalImplicit), ("zip", .globalImplicit), ("len", .globalImplicit)]
section
variable {C : Cfg} {i : Nat} {p : Pos} (a b c d e f g h j k l m : Option V)
@[irreducible] noncomputable def zaA : St := ⟨[("line", a), ("row", b), ("sums", c), ("told", d), ("power", e), ("many", f), ("free", g), ("at", h), ("sign", j), ("found", k), ("turn", l)], [("number", m)]⟩
theorem zsS : ⟨[("line", a), ("row", b), ("sums", c), ("told", d), ("power", e), ("many", f), ("free", g), ("at", h), ("sign", j), ("found", k), ("turn", l)], [("number", m)]⟩ = zaA a b c d e f g h j k l m := by unfold zaA; rfl
theorem zpJ : (zaA a b c d e f g h j k l m).k = [(("number" : Str), m)] := by unfold zaA; rfl
theorem zfg : ∃ sc : Scope, sc.names = zoj ∧ sc.kind = .function ∧ (zap "_law_step").map (·.scope) = some sc := ⟨_, rfl, rfl, rfl⟩
noncomputable def zay : Scope := Classical.choose zfg
theorem za0 : zay.names = zoj := (Classical.choose_spec zfg).1
theorem zqL : zay.kind = .function := (Classical.choose_spec zfg).2.1
theorem zqM {dr : DefRec} (h : zap "_law_step" = some dr) : dr.scope = zay := zdv h (Classical.choose_spec zfg).2.2
theorem zok : zay.names.lookup ("line" : Str) = some .local := by rw [za0]; rfl
theorem zqN : zay.names.lookup ("row" : Str) = some .local := by rw [za0]; rfl
theorem zol : zay.names.lookup ("sums" : Str) = some .local := by rw [za0]; rfl
theorem zom : zay.names.lookup ("told" : Str) = some .local := by rw [za0]; rfl
theorem zgm : zay.names.lookup ("number" : Str) = some .cell := by rw [za0]; rfl
theorem zhl : zay.names.lookup ("power" : Str) = some .local := by rw [za0]; rfl
theorem ziV : zay.names.lookup ("many" : Str) = some .local := by rw [za0]; rfl
theorem zfU : zay.names.lookup ("free" : Str) = some .local := by rw [za0]; rfl
theorem zmF : zay.names.lookup ("at" : Str) = some .local := by rw [za0]; rfl
theorem ziW : zay.names.lookup ("sign" : Str) = some .local := by rw [za0]; rfl
theorem zeN : zay.names.lookup ("found" : Str) = some .local := by rw [za0]; rfl
theorem zon : zay.names.lookup ("turn" : Str) = some .local := by rw [za0]; rfl
theorem zhL : zay.names.lookup ("enumerate" : Str) = some .globalImplicit := by rw [za0]; rfl
theorem zmG : zay.names.lookup ("range" : Str) = some .globalImplicit := by rw [za0]; rfl
theorem zqO : zay.names.lookup ("zip" : Str) = some .globalImplicit := by rw [za0]; rfl
theorem zqP : zay.names.lookup ("len" : Str) = some .globalImplicit := by rw [za0]; rfl
theorem ziX : (ER C (i + 1)).p zay (.Name "line" p) (zaA a b c d e f g h j k l m) = a := zad rfl (by unfold zaA; exact (zam zok).trans rfl)
theorem zqQ : (ER C (i + 1)).p zay (.Name "row" p) (zaA a b c d e f g h j k l m) = b := zad rfl (by unfold zaA; exact (zam zqN).trans rfl)
theorem zfV : (ER C (i + 1)).p zay (.Name "sums" p) (zaA a b c d e f g h j k l m) = c := zad rfl (by unfold zaA; exact (zam zol).trans rfl)
theorem ziY : (ER C (i + 1)).p zay (.Name "told" p) (zaA a b c d e f g h j k l m) = d := zad rfl (by unfold zaA; exact (zam zom).trans rfl)
theorem zgn : (ER C (i + 1)).p zay (.Name "number" p) (zaA a b c d e f g h j k l m) = m := zad rfl (by unfold zaA; exact (zin zgm).trans rfl)
theorem zd6 (hp : C.pins = []) (w : V) : St.put C zay "number" w (zaA a b c d e f g h j k l m) = some (zaA a b c d e f g h j k l (some w)) := zan (by rw [hp]; rfl) (by unfold zaA; exact (zl0 zgm rfl).trans rfl)
theorem zeO : (ER C (i + 1)).p zay (.Name "power" p) (zaA a b c d e f g h j k l m) = e := zad rfl (by unfold zaA; exact (zam zhl).trans rfl)
theorem zeP (hp : C.pins = []) (w : V) : St.put C zay "power" w (zaA a b c d e f g h j k l m) = some (zaA a b c d (some w) f g h j k l m) := zan (by rw [hp]; rfl) (by unfold zaA; exact (zax zhl rfl).trans rfl)
theorem ziZ : (ER C (i + 1)).p zay (.Name "many" p) (zaA a b c d e f g h j k l m) = f := zad rfl (by unfold zaA; exact (zam ziV).trans rfl)
theorem zi0 (hp : C.pins = []) (w : V) : St.put C zay "many" w (zaA a b c d e f g h j k l m) = some (zaA a b c d e (some w) g h j k l m) := zan (by rw [hp]; rfl) (by unfold zaA; exact (zax ziV rfl).trans rfl)
theorem zi1 : (ER C (i + 1)).p zay (.Name "free" p) (zaA a b c d e f g h j k l m) = g := zad rfl (by unfold zaA; exact (zam zfU).trans rfl)
theorem zfW : St.get zay "free" (zaA a b c d e f g h j k l m) = g := (by unfold zaA; exact (zam zfU).trans rfl)
theorem zd7 (hp : C.pins = []) (w : V) : St.put C zay "free" w (zaA a b c d e f g h j k l m) = some (zaA a b c d e f (some w) h j k l m) := zan (by rw [hp]; rfl) (by unfold zaA; exact (zax zfU rfl).trans rfl)
theorem zi2 : (ER C (i + 1)).p zay (.Name "at" p) (zaA a b c d e f g h j k l m) = h := zad rfl (by unfold zaA; exact (zam zmF).trans rfl)
theorem zsT (hp : C.pins = []) (w : V) : St.put C zay "at" w (zaA a b c d e f g h j k l m) = some (zaA a b c d e f g (some w) j k l m) := zan (by rw [hp]; rfl) (by unfold zaA; exact (zax zmF rfl).trans rfl)
theorem zfX : (ER C (i + 1)).p zay (.Name "sign" p) (zaA a b c d e f g h j k l m) = j := zad rfl (by unfold zaA; exact (zam ziW).trans rfl)
theorem zoo (hp : C.pins = []) (w : V) : St.put C zay "sign" w (zaA a b c d e f g h j k l m) = some (zaA a b c d e f g h (some w) k l m) := zan (by rw [hp]; rfl) (by unfold zaA; exact (zax ziW rfl).trans rfl)
theorem zhm : (ER C (i + 1)).p zay (.Name "found" p) (zaA a b c d e f g h j k l m) = k := zad rfl (by unfold zaA; exact (zam zeN).trans rfl)
theorem zhn (w : V) : St.set zay "found" w (zaA a b c d e f g h j k l m) = some (zaA a b c d e f g h j (some w) l m) := (by unfold zaA; exact (zax zeN rfl).trans rfl)
theorem zho (hp : C.pins = []) (w : V) : St.put C zay "found" w (zaA a b c d e f g h j k l m) = some (zaA a b c d e f g h j (some w) l m) := zan (by rw [hp]; rfl) (by unfold zaA; exact (zax zeN rfl).trans rfl)
theorem zop (hp : C.pins = []) (w : V) : St.put C zay "turn" w (zaA a b c d e f g h j k l m) = some (zaA a b c d e f g h j k (some w) m) := zan (by rw [hp]; rfl) (by unfold zaA; exact (zax zon rfl).trans rfl)
end
theorem zhM : zar zay "enumerate" = true := zaz zhL
theorem zmH : zar zay "range" = true := zaz zmG
theorem zqR : zar zay "zip" = true := zaz zqO
theorem zqS : zar zay "len" = true := zaz zqP
theorem zqT {C : Cfg} {line row sums told : List Int} {n : Nat} {N fr : Int} {p m : Nat} (hC : Cg C) (hl : line.length = n) (hr : row.length = n) (hs : sums.length = n) (hn : n ≤ 100) (ht : told.length ≤ 100) (hsl : ∀ x ∈ line, zbo x) (hsr : ∀ x ∈ row, zbo x)
 (hgo : zcg line row sums n = (N, (p : Int), (m : Int), fr)) (hN : zbo N) (hp : p ≤ 100) (hm : m ≤ 100) : zeq C "_law_step" [D.ints line, D.ints row, D.ints sums, D.ints told] (D.ints (zoi N p m told)) := by
 refine ⟨_, rfl, rfl, ?_⟩
 refine zbU zoj zay _ (zqM rfl) za0 (zsS (some (.f (D.ints line))) (some (.f (D.ints row))) (some (.f (D.ints sums))) (some (.f (D.ints told))) none none none none none none none none) ?_
 have hCp := hC.pins
 have hCr := hC.refs
 have hf1 : zaI n = true := zae (yew hn)
 have hf2 : zaI told.length = true := zae (yew ht)
 let G : Option V → Option V → Option V → Option V → Int × Int × Int × Int → St := fun at_ sg fd tu q => zaA (some (.f (D.ints line))) (some (.f (D.ints row))) (some (.f (D.ints sums))) (some (.f (D.ints told))) (some (.f (.int q.2.1))) (some (.f (.int q.2.2.1))) (some (.f (.int q.2.2.2))) at_ sg fd tu (some (.f (.int q.1)))
 have nd : [("number" : Str), "power", "many", "free"].Nodup := by decide +kernel
 refine zj4 (σ1 := G none none none none (1, 0, 0, 0)) ?_ (zsE (zcI (ds := zfn 0 (row.map D.int)) (pr := true) (σ2 := G none none none none (1, 0, 0, 0)) (fun j σ => ∃ at_ sg, σ = G at_ sg none none (zcg line row sums j)) ?_ ⟨none, none, rfl⟩ ?_) ?_)
 · dsimp only [G]
   clear hsl hsr hgo
   simp -implicitDefEqProofs only [zct, a_t4, zbd, e_c, zaJ, za8, zaK, List.length_cons, List.length_nil, bl_0, bl_s, zpB, zb3, zd6, zbC, zeP, zi0, zd7, zcd, zaV, *]
 · dsimp only [G]
   clear hsl hsr hgo nd
   simp -implicitDefEqProofs only [zhM, zpC, e_n, zqQ, zab, List.length_map, zhJ, iE_s, *]
 · rintro j d τ hd ⟨at_, sg, rfl⟩
   obtain ⟨hj, rfl⟩ := zgh hd
   have m1 : ∀ a : Int, zbh .Mult a (line.getD j 0) = some (a * line.getD j 0) := fun a => zbT (.inr (hsl _ (zcE (ygw hl hr hj))))
   have m2 : ∀ a : Int, zbh .Mult (row.getD j 0) a = some (row.getD j 0 * a) := fun a => zbT (.inl (hsr _ (zcE hj)))
   have i1 : idx (line.map D.int) (j : Int) = some (.int (line.getD j 0)) := zpI (ygw hl hr hj) (ygu hr hn hj)
   have i2 : idx (sums.map D.int) (j : Int) = some (.int (sums.getD j 0)) := zpI (ygv hr hs hj) (ygu hr hn hj)
   show ∃ τ1, _ ∧ Nxt _ (fun σ => ∃ at_ sg, σ = G at_ sg none none (zeM (line.getD j 0) (row.getD j 0) (sums.getD j 0) (zcg line row sums j)))
   generalize zcg line row sums j = q at *
   obtain ⟨q1, q2, q3, q4⟩ := q
   generalize row.getD j 0 = s at *
   refine ⟨G (some (.f (.int j))) (some (.f (.int s))) none none (q1, q2, q3, q4), ?_, ?_⟩
   · clear hsl hsr hgo nd hd
     dsimp only [G]
     simp -implicitDefEqProofs only [zlZ, List.map_cons, List.map_nil, zb3, zsT, zbC, zoo, zcd, *]
   · unfold zeM
     dsimp only
     by_cases s0 : s = 0
     · have c1 : (!(s == 0)) = false := by rw [s0]; rfl
       have c2 : (s == -1) = false := by rw [s0]; rfl
       rw [if_pos s0, if_pos s0, if_neg (ygt s0)]
       refine ⟨_, ?_, some (.f (.int j)), some (.f (.int s)), rfl⟩
       clear hsl hsr hgo nd hd s0
       dsimp only [G]
       simp -implicitDefEqProofs only [r_s, zdD, zes, zaY, e_n, zfX, zab, zaZ, zaw, e_c, zaT, zlW, zaU, zcW, zer, zbx, q_u, q_c, e_u, p_u, p_c, zeh, zbN, zjI, zp9, zaB, String.reduceBEq, g_na, zfW, zsw, q_b, q_s, q_n, Bool.and_true, e_b, p_b, p_s, zfV, zi2, zei, znD, za3, zaN, za4, zbD, zsx, zaG, zsy, zd7, zaV, *]
     · have c1 : (!(s == 0)) = true := by simpa using s0
       rw [if_neg s0, if_neg s0]
       by_cases s1 : s = -1
       · have c2 : (s == -1) = true := by rw [s1]; rfl
         rw [if_pos s1, if_pos s1]
         refine ⟨_, ?_, some (.f (.int j)), some (.f (.int s)), rfl⟩
         clear hsl hsr hgo nd hd s0 s1
         dsimp only [G]
         simp -implicitDefEqProofs only [r_s, zdD, zes, zaY, e_n, zfX, zab, zaZ, zaw, e_c, zaT, zlW, zaU, zgd, zct, ne_eq, zcX, String.reduceEq, not_false_eq_true, zwm, ca_n, zaB, String.reduceBEq, ca_s, Bool.and_false, zrt, zbd, q_b, q_n, q_s, Bool.and_true, e_b, p_b, zgn, p_s, ziX, zi2, zei, znD, za3, za4, zbN, zaJ, zeO, zi1, zaG, za8, zaK, List.length_cons, List.length_nil, bl_0, bl_s, zpB, zb3, zd6, zbC, zeP, zcd, zaV, zbx, zer, q_u, q_c, e_u, p_u, p_c, zeh, zjI, zwl, zaN, ziZ, zi0, zp9, g_na, zfW, zsw, zfV, zbD, zsx, zsy, zd7, *]
       · have c2 : (s == -1) = false := by rw [beq_eq_false_iff_ne]; exact s1
         rw [if_neg s1, if_neg s1]
         refine ⟨_, ?_, some (.f (.int j)), some (.f (.int s)), rfl⟩
         clear hsl hsr hgo nd hd s0 s1
         dsimp only [G]
         simp -implicitDefEqProofs only [r_s, zdD, zes, zaY, e_n, zfX, zab, zaZ, zaw, e_c, zaT, zlW, zaU, zgd, zct, ne_eq, zcX, String.reduceEq, not_false_eq_true, zwm, ca_n, zaB, String.reduceBEq, ca_s, Bool.and_false, zrt, zbd, q_b, q_n, q_s, Bool.and_true, e_b, p_b, zgn, p_s, ziX, zi2, zei, znD, za3, za4, zbN, zaJ, zeO, zi1, zaG, za8, zaK, List.length_cons, List.length_nil, bl_0, bl_s, zpB, zb3, zd6, zbC, zeP, zcd, zaV, zbx, zer, q_u, q_c, e_u, p_u, p_c, zeh, zjI, zcW, zp9, g_na, zfW, zsw, zfV, zaN, zbD, zsx, zsy, zd7, *]
 · rintro σ ⟨at_, sg, rfl⟩
   rw [zh0, List.length_map, hr, hgo]
   clear hsl hsr nd hgo
   let f0 : List Int := told.map fun x => N * x
   have hf0 : f0.length = told.length := List.length_map ..
   refine zj4 (σ1 := G at_ sg (some (.o ((f0.map D.int).map V.f))) none (N, (p : Int), (m : Int), fr)) ?_ (zsE (zcI (ds := zb6 0 m) (pr := false) (σ2 := G at_ sg (some (.o ((f0.map D.int).map V.f))) none (N, (p : Int), (m : Int), fr)) (fun t σ => ∃ tu, σ = G at_ sg (some (.o (((zcN f0 t).map D.int).map V.f))) tu (N, (p : Int), (m : Int), fr)) ?_ ⟨none, rfl⟩ ?_) ?_)
   · dsimp only [G]
     simp -implicitDefEqProofs only [zct, a_n, zbR, *]
     rw [zbe (ds := told.map .int) (σ1 := zaA (some (.f (D.ints line))) (some (.f (D.ints row))) (some (.f (D.ints sums))) (some (.f (D.ints told))) (some (.f (.int p))) (some (.f (.int m))) (some (.f (.int fr))) at_ sg none none (some (.f (.int N)))) (fun j => V.f (.int (N * told.getD j 0))) hC.pins (zaH ⟨_, za0, rfl⟩) (by rw [zpJ]; rfl) rfl rfl (zav rfl) (by decide)]
     · rw [List.length_map, zcz told fun x => N * x]
       rw [show (told.map fun x => N * x) = f0 from rfl]
       clear_value f0
       simp -implicitDefEqProofs only [zdb, zho, zaV, *]
     · simp -implicitDefEqProofs only [i_n, e_n, ziY, zab, List.length_map, zdc, zll, *]
     · rw [List.length_map]; exact hf2
     · intro j d hd
       obtain rfl := zbL hd
       rw [zpJ]
       have e2 : zbh .Mult N (told.getD j 0) = some (N * told.getD j 0) := zbT (.inl hN)
       have h1 := @zqc C
       generalize hsc : zaF _ _ = sc'
       have e1 : sc'.names.lookup ("one" : Str) = some .local := by rw [← hsc]; exact zav rfl
       have e3 : ∀ (i : Nat) (p : Pos) (ρ : zbt), (ER C (i + 1)).p sc' (.Name "number" p) ⟨ρ, [("number", some (.f (.int N)))]⟩ = some (.f (.int N)) := fun i p ρ => zrv (by rw [← hsc]; exact zb9 zqL (by rw [za0]; rfl) rfl) rfl rfl
       clear hsc hd
       simp -implicitDefEqProofs only [q_b, q_n, Bool.and_true, e_b, p_b, zaB, String.reduceBEq, za3, za4, zbN, *]
   · have e1 : m ≤ 100000 := by exact yew hm
     dsimp only [G]
     simp -implicitDefEqProofs only [zmH, zqa, e_n, ziZ, zab, zbD, zgL, *]
   · rintro t d τ hd ⟨tu, rfl⟩
     obtain ⟨rfl, htm⟩ := zaS hd
     have hlen : (zcN f0 t).length = told.length := by rw [zgT, hf0]
     show ∃ τ1, _ ∧ Nxt _ (fun σ => ∃ tu, σ = G at_ sg (some (.o (((zdo (zcN f0 t)).map D.int).map V.f))) tu (N, (p : Int), (m : Int), fr))
     generalize zcN f0 t = l at hlen ⊢
     have hf3 : zaI l.length = true := zae (ygo ht hlen)
     have hf4 : zaI (1 + l.length) = true := zae (ygs ht hlen)
     have hf4' : zaI (l.length + 1) = true := zae (ygr ht hlen)
     have hf5 : zaI (0 + 1) = true := zae (ygq)
     refine ⟨G at_ sg (some (.o ((l.map D.int).map V.f))) (some (.f (.int (0 + (t : Int))))) (N, (p : Int), (m : Int), fr), ?_, G at_ sg (some (.o (((zdo l).map D.int).map V.f))) (some (.f (.int (0 + (t : Int))))) (N, (p : Int), (m : Int), fr), ?_, _, rfl⟩
     · clear hd
       dsimp only [G]
       simp -implicitDefEqProofs only [zdu, zop, *]
     · clear hd
       dsimp only [G]
       simp -implicitDefEqProofs only [r_s, zdD, zct, a_n, zbR, *]
       rw [zgR (ds := zlj (l.map D.int) (((0 : Int) :: l).map D.int)) (pr := true) (σ1 := zaA (some (.f (D.ints line))) (some (.f (D.ints row))) (some (.f (D.ints sums))) (some (.f (D.ints told))) (some (.f (.int p))) (some (.f (.int m))) (some (.f (.int fr))) at_ sg (some (.f (D.ints l))) (some (.f (.int (0 + (t : Int))))) (some (.f (.int N)))) (fun j => V.f (.int (l.getD j 0 + ((0 : Int) :: l).getD j 0))) hC.pins (zaH ⟨_, za0, rfl⟩) rfl rfl rfl (zav rfl) (zav rfl) (by decide) (by decide) (by decide)]
       · have e : (List.range (zlj (l.map D.int) (((0 : Int) :: l).map D.int)).length).map (fun j => V.f (.int (l.getD j 0 + ((0 : Int) :: l).getD j 0))) = ((zdo l).map D.int).map V.f := by
          rw [zgS]; unfold zdo; rw [List.map_map, List.map_map]; rfl
         rw [e]
         generalize zdo l = l'
         simp -implicitDefEqProofs only [zdb, zho, zaV, zbx, zer, *]
       · have e7 : ([D.int 0] ++ l.map D.int).length = 1 + l.length := by rw [List.length_append, List.length_map]; rfl
         clear hlen
         simp -implicitDefEqProofs only [zqR, zwn, e_n, zhm, zbu, zbq, zhn, zcs, List.length_map, zhJ, iZ_s, q_b, zew, q_n, Bool.and_true, zj0, zg8, zbd, e_c, zaJ, za8, zaK, zgc, zbj, zaw, zbb, List.length_cons, List.length_nil, zp7, zab, zvp, zv8, zwo, List.map_cons, *]
         rfl
       · rw [zgS]; exact zae (ygp ht hlen)
       · intro j d hd
         obtain ⟨_, _, rfl⟩ := zk2 _ _ _ _ hd
         refine ⟨_, _, rfl, ?_⟩
         have g1 := @in_a C
         have g2 := @in_b C
         generalize hsc : zaF _ _ = sc'
         have e1 : sc'.names.lookup ("one" : Str) = some .local := by rw [← hsc]; exact zav rfl
         have e2 : sc'.names.lookup ("other" : Str) = some .local := by rw [← hsc]; exact zav rfl
         clear hsc hd
         generalize ((0 : Int) :: l).getD j 0 = y
         simp -implicitDefEqProofs only [q_b, q_n, Bool.and_true, e_b, p_b, zaB, String.reduceBEq, za3, zaG, za4, zbN, *]
   · rintro σ ⟨tu, rfl⟩
     rw [zaD]
     have hlen : (zcN f0 m).length = told.length := by rw [zgT, hf0]
     refine zlm (σ1 := G at_ sg (some (.f (D.ints (zcN f0 m)))) tu (N, (p : Int), (m : Int), fr)) ?_
     show _ = some (Fl.ret (D.ints ((List.replicate p 0 ++ zcN f0 m).take told.length)), _)
     generalize zcN f0 m = l at hlen ⊢
     have hf3 : zaI l.length = true := zae (ygo ht hlen)
     have hf4 : zaI p = true := zae (yew hp)
     have hf5 : zaI (p + l.length) = true := zae (ygn ht hp hlen)
     have hp1 : p ≤ 100000 := by exact yew hp
     have hpk : zbQ (some (told.length : Int)) = true := zio (yed) (ygm ht)
     clear hlen
     have e5 : V.frzL (List.replicate p (V.f (D.int 0))) = List.replicate p (D.int 0) := by
      have := zbq (List.replicate p (D.int 0))
      rwa [List.map_replicate] at this
     have e6 : (List.replicate p (D.int 0)).length = p := List.length_replicate
     have e7 : (List.replicate p (D.int 0) ++ l.map D.int).length = p + l.length := by rw [List.length_append, e6, List.length_map]
     have hpick : pick (List.replicate p (D.int 0) ++ l.map D.int) none (some (told.length : Int)) = ((List.replicate p 0 ++ l).take told.length).map D.int := by rw [znH, List.map_take, List.map_append, List.map_replicate]
     dsimp only [G]
     simp -implicitDefEqProofs only [zcl, zwa, q_b, zew, q_n, Bool.and_true, evB_n, zj0, zg8, zbd, e_c, zaJ, za8, zaK, zgc, zvo, e_n, zeO, zab, zbD, zg7, zaw, zp7, zhm, zbu, zbq, zhn, zcs, List.length_map, zvp, zv8, znE, ze5, za7, decide_true, zdS, zqS, zbK, ziY, zbw, zfM, zcv, zig, zby, zdR, *]
noncomputable def zfI (n : Nat) (g : Nat → Int) : List V := (List.range n).map fun j => .f (.int (g j))
noncomputable def zdC (n : Nat) (f : Nat → Nat → Int) : List V := (List.range n).map fun i => .o (zfI n (f i))
theorem zpK {n : Nat} {g : Nat → Int} : (zfI n g).length = n := by unfold zfI; rw [List.length_map, List.length_range]
theorem zfh {n : Nat} {f : Nat → Nat → Int} : (zdC n f).length = n := by unfold zdC; rw [List.length_map, List.length_range]
theorem zwD {n j : Nat} {g : Nat → Int} (h : j < n) : (zfI n g)[j]? = some (.f (.int (g j))) := by unfold zfI; rw [List.getElem?_map, List.getElem?_range h]; rfl
theorem zi3 {n i : Nat} {f : Nat → Nat → Int} (h : i < n) : (zdC n f)[i]? = some (.o (zfI n (f i))) := by unfold zdC; rw [List.getElem?_map, List.getElem?_range h]; rfl
theorem zgU {n j : Nat} {g : Nat → Int} (h : j < n) (h2 : n ≤ 1000) : idx (zfI n g) (j : Int) = some (.f (.int (g j))) := by rw [zez _ _ (ygl h h2), zwD h]
theorem zgV {n i : Nat} {f : Nat → Nat → Int} (h : i < n) (h2 : n ≤ 1000) : idx (zdC n f) (i : Int) = some (.o (zfI n (f i))) := by rw [zez _ _ (ygl h h2), zi3 h]
theorem zfi {n : Nat} {g g' : Nat → Int} (h : ∀ j, j < n → g j = g' j) : zfI n g = zfI n g' := by
 unfold zfI
 exact List.map_congr_left fun j hj => by rw [h j (List.mem_range.mp hj)]
theorem zqU {n : Nat} {f f' : Nat → Nat → Int} (h : ∀ i j, i < n → j < n → f i j = f' i j) : zdC n f = zdC n f' := by
 unfold zdC
 exact List.map_congr_left fun i hi => by rw [zfi fun j hj => h i j (List.mem_range.mp hi) hj]
noncomputable def zuN (f : Nat → Nat → Int) (i j : Nat) (v : Int) : Nat → Nat → Int := fun a b => if a = i ∧ b = j then v else f a b
theorem zgo {α : Type} (n i : Nat) (g : Nat → α) (v : α) : ((List.range n).map g).set i v = (List.range n).map fun a => if a = i then v else g a := by
 apply List.ext_getElem?
 intro k
 rw [List.getElem?_set, List.length_map, List.length_range]
 by_cases hk : k < n
 · rw [List.getElem?_map, List.getElem?_map, List.getElem?_range hk]
   by_cases e : i = k
   · subst e; simp [hk]
   · rw [if_neg e]; simp [Ne.symm e]
 · rw [List.getElem?_eq_none (by simp; exact ycZ hk), List.getElem?_eq_none (by simp; exact ycZ hk)]
   split
   · split
     · exact (ygk hk ‹_› ‹_›).elim
     · rfl
   · rfl
theorem zpL {n i j : Nat} {f : Nat → Nat → Int} {v : Int} : (zdC n f).set i (.o ((zfI n (f i)).set j (.f (.int v)))) = zdC n (zuN f i j v) := by
 unfold zdC
 rw [zgo]
 apply List.map_congr_left
 intro a _
 by_cases e : a = i
 · subst e
   rw [if_pos rfl]
   unfold zfI
   rw [zgo]
   congr 1
   apply List.map_congr_left
   intro b _
   unfold zuN
   by_cases e2 : b = j
   · rw [if_pos e2, if_pos ⟨rfl, e2⟩]
   · rw [if_neg e2, if_neg (fun h => e2 h.2)]
 · rw [if_neg e]
   congr 1
   apply zfi
   intro b _
   unfold zuN
   rw [if_neg (fun h => e h.1)]
theorem zuO (f : Nat → Int) (k : Nat) : ∀ m, (∀ i, k ≤ i → i < k + m → f i = 0) ∨ ∃ r, k ≤ r ∧ r < k + m ∧ f r ≠ 0 ∧ ∀ i, k ≤ i → i < r → f i = 0 := by
 intro m
 induction m with
 | zero => exact .inl fun i h1 h2 => by exact ygg h1 h2
 | succ m ih =>
  rcases ih with h | ⟨r, h1, h2, h3, h4⟩
  · by_cases q : f (k + m) = 0
    · left
      intro i h1 h2
      by_cases e : i = k + m
      · rw [e]; exact q
      · exact h i h1 (yge h2 e)
    · exact .inr ⟨k + m, by exact ygc, by exact ygj, q, fun i a b => h i a b⟩
  · exact .inr ⟨r, h1, by exact ygi h2, h3, h4⟩
noncomputable def zsU : List (Str × NameKind) := [("a", .local), ("step", .local), ("row", .local), ("range", .globalImplicit), ("len", .globalImplicit)]
section
variable {C : Cfg} {i : Nat} {p : Pos} (a b c : Option V)
@[irreducible] noncomputable def zgp : St := ⟨[("a", a), ("step", b), ("row", c)], []⟩
theorem zuP : ⟨[("a", a), ("step", b), ("row", c)], []⟩ = zgp a b c := by unfold zgp; rfl
theorem zgq : ∃ sc : Scope, sc.names = zsU ∧ sc.kind = .function ∧ (zap "pivot_row").map (·.scope) = some sc := ⟨_, rfl, rfl, rfl⟩
noncomputable def zcO : Scope := Classical.choose zgq
theorem zfj : zcO.names = zsU := (Classical.choose_spec zgq).1
theorem sc_piv_kd : zcO.kind = .function := (Classical.choose_spec zgq).2.1
theorem zsV {dr : DefRec} (h : zap "pivot_row" = some dr) : dr.scope = zcO := zdv h (Classical.choose_spec zgq).2.2
theorem zsW : zcO.names.lookup ("a" : Str) = some .local := by rw [zfj]; rfl
theorem zqV : zcO.names.lookup ("step" : Str) = some .local := by rw [zfj]; rfl
theorem zmI : zcO.names.lookup ("row" : Str) = some .local := by rw [zfj]; rfl
theorem zoq : zcO.names.lookup ("range" : Str) = some .globalImplicit := by rw [zfj]; rfl
theorem zsX : zcO.names.lookup ("len" : Str) = some .globalImplicit := by rw [zfj]; rfl
theorem zor : (ER C (i + 1)).p zcO (.Name "a" p) (zgp a b c) = a := zad rfl (by unfold zgp; exact (zam zsW).trans rfl)
theorem zwE : St.get zcO "a" (zgp a b c) = a := (by unfold zgp; exact (zam zsW).trans rfl)
theorem zgW : (ER C (i + 1)).p zcO (.Name "step" p) (zgp a b c) = b := zad rfl (by unfold zgp; exact (zam zqV).trans rfl)
theorem zmJ : (ER C (i + 1)).p zcO (.Name "row" p) (zgp a b c) = c := zad rfl (by unfold zgp; exact (zam zmI).trans rfl)
end
theorem zsY {C : Cfg} (hp : C.pins = [("a" : Str)]) (a b c : Option V) (w : V) : St.put C zcO "row" w (zgp a b c) = some (zgp a b (some w)) := zan (by rw [hp]; rfl) (by unfold zgp; exact (zax zmI rfl).trans rfl)
theorem zos : zar zcO "range" = true := zaz zoq
theorem zsZ : zar zcO "len" = true := zaz zsX
theorem zs0 {N n k : Nat} {f : Nat → Nat → Int} (hn : n ≤ 100) (hk : k ≤ n) : ∃ d, (tab (N + 1)).2 "pivot_row" (.o (zdC n f)) [.int k] = some (d, .o (zdC n f)) ∧ ((d = .none ∧ ∀ i, k ≤ i → i < n → f i k = 0) ∨ ∃ r : Nat, d = .int r ∧ k ≤ r ∧ r < n ∧ f r k ≠ 0) := by
 have hl : zaI n = true := zae (yew hn)
 have hl2 : (zdC n f).length = n := zfh
 have hn1 : n ≤ 100000 := by exact yew hn
 have hk1 : k ≤ 100000 := by exact ygh hn hk
 have main : ∀ d, (d = .none → ∀ i, k ≤ i → i < n → f i k = 0) → (d ≠ .none → ∃ r : Nat, d = .int r ∧ k ≤ r ∧ r < n ∧ f r k ≠ 0 ∧ ∀ i, k ≤ i → i < r → f i k = 0) → (tab (N + 1)).2 "pivot_row" (.o (zdC n f)) [.int k] = some (d, .o (zdC n f)) := by
  intro d hd1 hd2
  refine zh4 zsU zcO _ rfl rfl rfl (zsV rfl) zfj rfl (zuP (some (.o (zdC n f))) (some (.f (.int k))) none) ?_
  have hCp : (cfg N ["a"]).pins = [("a" : Str)] := rfl
  have hCr : (cfg N ["a"]).refs = refs := rfl
  let G : Option V → St := fun o => zgp (some (.o (zdC n f))) (some (.f (.int k))) o
  suffices h : Ret (za6 (cfg N ["a"]) (ER (cfg N ["a"]) 59) zcO _ (G none)) d (fun σ => ∃ o, σ = G o) by
   obtain ⟨σ', h, o, rfl⟩ := h
   exact ⟨_, .inl h, zwE _ _ _⟩
  refine ret_FR (zn9 (ds := zb6 k (n - k)) (pr := false) (σ2 := G none) (fun j σ => (∃ o, σ = G o) ∧ ∀ i, k ≤ i → i < k + j → f i k = 0) (fun v σ => v = d ∧ ∃ o, σ = G o) ?_ ⟨⟨_, rfl⟩, fun i a b => by exact ygg a b⟩ ?_) (fun v τ h => h) ?_
  · clear hd1 hd2
    dsimp only [G]
    simp -implicitDefEqProofs only [zos, i_r2, e_n, zgW, zab, zbD, iR_s, za7, decide_true, q_n, Bool.and_true, zck, zsZ, zbK, zor, zfv, zbN, zsz, *]
  · rintro j d' τ hd ⟨⟨o, rfl⟩, hz⟩
    obtain ⟨rfl, hj⟩ := zaS hd
    have e1 : (k : Int) + (j : Int) = ((k + j : Nat) : Int) := by exact ygf
    have i1 : idx (zdC n f) ((k + j : Nat) : Int) = some (.o (zfI n (f (k + j)))) := zgV (ygd hj) (yf1 hn)
    have i2 : idx (zfI n (f (k + j))) (k : Int) = some (.f (.int (f (k + j) k))) := zgU (ybx hj) (yf1 hn)
    rw [e1]
    refine ⟨G (some (.f (.int ((k + j : Nat) : Int)))), ?_, ?_⟩
    · clear hd1 hd2 hz hd
      dsimp only [G]
      simp -implicitDefEqProofs only [zdu, zsY, *]
    · by_cases q : f (k + j) k = 0
      · left
        have c1 : (!(f (k + j) k == 0)) = false := by rw [q]; rfl
        refine ⟨G (some (.f (.int ((k + j : Nat) : Int)))), ?_, ⟨_, rfl⟩, fun i a b => ?_⟩
        · clear hd1 hd2 hz hd q
          dsimp only [G]
          simp -implicitDefEqProofs only [r_s, zdD, zes, zaY, q_s, q_n, Bool.and_true, e_s, p_s, zor, zmJ, zej, zgW, zbN, zaZ, zaw, e_c, zaT, zlW, zaU, zcW, zer, zbx, *]
        · by_cases e : i = k + j
          · rw [e]; exact q
          · exact hz i a (yge b e)
      · right
        have c1 : (!(f (k + j) k == 0)) = true := by simpa using q
        refine ⟨.int ((k + j : Nat) : Int), G (some (.f (.int ((k + j : Nat) : Int)))), ?_, ?_, _, rfl⟩
        · clear hd1 hd2 hz hd q
          dsimp only [G]
          simp -implicitDefEqProofs only [r_s, zdD, zes, zaY, q_s, q_n, Bool.and_true, e_s, p_s, zor, zmJ, zej, zgW, zbN, zaZ, zaw, e_c, zaT, zlW, zaU, zgd, zcl, e_n, zab, zby, zg9, *]
        · by_cases hdn : d = .none
          · exact absurd (hd1 hdn (k + j) (ygc) (ygd hj)) q
          · obtain ⟨r, rfl, h1, h2, h3, h4⟩ := hd2 hdn
            rcases Nat.lt_trichotomy (k + j) r with h | h | h
            · exact absurd (h4 _ (ygc) h) q
            · rw [h]
            · exact absurd (hz r h1 (ygb h)) h3
  · rintro τ ⟨⟨o, rfl⟩, hz⟩
    have hdn : d = .none := by
     by_cases hdn : d = .none
     · exact hdn
     · obtain ⟨r, rfl, h1, h2, h3, h4⟩ := hd2 hdn
       rw [zaD] at hz
       exact absurd (hz r h1 (yaU h2)) h3
    rw [hdn]
    refine ⟨G o, ?_, _, rfl⟩
    clear hd1 hd2 hz hdn
    dsimp only [G]
    simp -implicitDefEqProofs only [zdD, zcl, ztP, zby, zaw, zg9, *]
 rcases zuO (fun i => f i k) k (n - k) with h | ⟨r, h1, h2, h3, h4⟩
 · exact ⟨.none, main _ (fun _ i a b => h i a (yaU b)) (fun q => absurd rfl q), .inl ⟨rfl, fun i a b => h i a (yaU b)⟩⟩
 · exact ⟨.int r, main _ (fun q => by cases q) (fun _ => ⟨r, rfl, h1, by exact yga hk h2, h3, h4⟩), .inr ⟨r, rfl, h1, by exact yga hk h2, h3⟩⟩
noncomputable def zh5 (f : Nat → Nat → Int) (k : Nat) (h : Int) (i j : Nat) : Int := if k < i then if k < j then (f i j * f k k - f i k * f k j).fdiv h else if j = k then 0 else f i j else f i j
noncomputable def zs1 : List (Str × NameKind) := [("a", .local), ("step", .local), ("ahead", .local), ("lead", .local), ("row", .local), ("first", .local), ("column", .local), ("range", .globalImplicit), ("len", .globalImplicit)]
section
variable {C : Cfg} {i : Nat} {p : Pos} (a b c d e f g : Option V)
@[irreducible] noncomputable def zbW : St := ⟨[("a", a), ("step", b), ("ahead", c), ("lead", d), ("row", e), ("first", f), ("column", g)], []⟩
theorem zuQ : ⟨[("a", a), ("step", b), ("ahead", c), ("lead", d), ("row", e), ("first", f), ("column", g)], []⟩ = zbW a b c d e f g := by unfold zbW; rfl
theorem zgr : ∃ sc : Scope, sc.names = zs1 ∧ sc.kind = .function ∧ (zap "bareiss_step").map (·.scope) = some sc := ⟨_, rfl, rfl, rfl⟩
noncomputable def zbs : Scope := Classical.choose zgr
theorem zcG : zbs.names = zs1 := (Classical.choose_spec zgr).1
theorem sc_bar_kd : zbs.kind = .function := (Classical.choose_spec zgr).2.1
theorem zs2 {dr : DefRec} (h : zap "bareiss_step" = some dr) : dr.scope = zbs := zdv h (Classical.choose_spec zgr).2.2
theorem zot : zbs.names.lookup ("a" : Str) = some .local := by rw [zcG]; rfl
theorem zqW : zbs.names.lookup ("step" : Str) = some .local := by rw [zcG]; rfl
theorem zou : zbs.names.lookup ("ahead" : Str) = some .local := by rw [zcG]; rfl
theorem zke : zbs.names.lookup ("lead" : Str) = some .local := by rw [zcG]; rfl
theorem zmK : zbs.names.lookup ("row" : Str) = some .local := by rw [zcG]; rfl
theorem zi4 : zbs.names.lookup ("first" : Str) = some .local := by rw [zcG]; rfl
theorem zhp : zbs.names.lookup ("column" : Str) = some .local := by rw [zcG]; rfl
theorem zov : zbs.names.lookup ("range" : Str) = some .globalImplicit := by rw [zcG]; rfl
theorem zs3 : zbs.names.lookup ("len" : Str) = some .globalImplicit := by rw [zcG]; rfl
theorem zi5 : (ER C (i + 1)).p zbs (.Name "a" p) (zbW a b c d e f g) = a := zad rfl (by unfold zbW; exact (zam zot).trans rfl)
theorem zow : St.get zbs "a" (zbW a b c d e f g) = a := (by unfold zbW; exact (zam zot).trans rfl)
theorem zs4 (w : V) : St.set zbs "a" w (zbW a b c d e f g) = some (zbW (some w) b c d e f g) := (by unfold zbW; exact (zax zot rfl).trans rfl)
theorem zcT : (ER C (i + 1)).p zbs (.Name "step" p) (zbW a b c d e f g) = b := zad rfl (by unfold zbW; exact (zam zqW).trans rfl)
theorem zox : (ER C (i + 1)).p zbs (.Name "ahead" p) (zbW a b c d e f g) = c := zad rfl (by unfold zbW; exact (zam zou).trans rfl)
theorem zqX : (ER C (i + 1)).p zbs (.Name "lead" p) (zbW a b c d e f g) = d := zad rfl (by unfold zbW; exact (zam zke).trans rfl)
theorem zqY {C : Cfg} (hp : C.pins = [("a" : Str)]) (a b c d e f g : Option V) (w : V) : St.put C zbs "lead" w (zbW a b c d e f g) = some (zbW a b c (some w) e f g) := zan (by rw [hp]; rfl) (by unfold zbW; exact (zax zke rfl).trans rfl)
theorem zi6 : (ER C (i + 1)).p zbs (.Name "row" p) (zbW a b c d e f g) = e := zad rfl (by unfold zbW; exact (zam zmK).trans rfl)
theorem zs5 {C : Cfg} (hp : C.pins = [("a" : Str)]) (a b c d e f g : Option V) (w : V) : St.put C zbs "row" w (zbW a b c d e f g) = some (zbW a b c d (some w) f g) := zan (by rw [hp]; rfl) (by unfold zbW; exact (zax zmK rfl).trans rfl)
theorem zoy : (ER C (i + 1)).p zbs (.Name "first" p) (zbW a b c d e f g) = f := zad rfl (by unfold zbW; exact (zam zi4).trans rfl)
theorem zoz {C : Cfg} (hp : C.pins = [("a" : Str)]) (a b c d e f g : Option V) (w : V) : St.put C zbs "first" w (zbW a b c d e f g) = some (zbW a b c d e (some w) g) := zan (by rw [hp]; rfl) (by unfold zbW; exact (zax zi4 rfl).trans rfl)
theorem zmL : (ER C (i + 1)).p zbs (.Name "column" p) (zbW a b c d e f g) = g := zad rfl (by unfold zbW; exact (zam zhp).trans rfl)
end
theorem zmM {C : Cfg} (hp : C.pins = [("a" : Str)]) (a b c d e f g : Option V) (w : V) : St.put C zbs "column" w (zbW a b c d e f g) = some (zbW a b c d e f (some w)) := zan (by rw [hp]; rfl) (by unfold zbW; exact (zax zhp rfl).trans rfl)
theorem zi7 : zar zbs "range" = true := zaz zov
theorem zmN : zar zbs "len" = true := zaz zs3
theorem zs6 {N n k : Nat} {f : Nat → Nat → Int} {h : Int} (hn : n ≤ 100) (hk : k < n) (h0 : h ≠ 0) (hh : zbo h) (hl : zbo (f k k)) (hf : ∀ i, k < i → i < n → zbo (f i k)) (hx : ∀ i j, k < i → i < n → k < j → j < n → zbo (f i j * f k k - f i k * f k j)) :
 (tab (N + 1)).2 "bareiss_step" (.o (zdC n f)) [.int k, .int h] = some (.none, .o (zdC n (zh5 f k h))) := by
 refine zh4 zs1 zbs _ rfl rfl rfl (zs2 rfl) zcG rfl (zuQ (some (.o (zdC n f))) (some (.f (.int k))) (some (.f (.int h))) none none none none) ?_
 have hCp : (cfg N ["a"]).pins = [("a" : Str)] := rfl
 have hCr : (cfg N ["a"]).refs = refs := rfl
 have hfn : zaI n = true := zae (yew hn)
 have hn1 : n ≤ 100000 := by exact yew hn
 have hk1 : k + 1 ≤ 100000 := by exact yf9 hn hk
 have e1 : (k : Int) + 1 = ((k + 1 : Nat) : Int) := by exact ye4
 have hdb : (("a" : Str) == ("__debug__" : Str)) = false := rfl
 let G : (Nat → Nat → Int) → Option V → Option V → Option V → St := fun g o1 o2 o3 => zbW (some (.o (zdC n g))) (some (.f (.int k))) (some (.f (.int h))) (some (.f (.int (f k k)))) o1 o2 o3
 let A : Nat → (Nat → Nat → Int) → Prop := fun t g => ∀ i j, i < n → j < n → g i j = if i < k + 1 + t then zh5 f k h i j else f i j
 suffices hs : Nxt (za6 (cfg N ["a"]) (ER (cfg N ["a"]) 59) zbs _ (zbW (some (.o (zdC n f))) (some (.f (.int k))) (some (.f (.int h))) none none none none)) (fun σ => ∃ o1 o2 o3, σ = G (zh5 f k h) o1 o2 o3) by
  obtain ⟨σ', q, o1, o2, o3, rfl⟩ := hs
  exact ⟨_, .inr ⟨rfl, q⟩, zow _ _ _ _ _ _ _⟩
 refine zfx (σ1 := G f none none none) ?_ (zdd (zis (zcI (ds := zb6 ((k + 1 : Nat) : Int) (n - (k + 1))) (pr := false) (σ2 := G f none none none) (fun t σ => ∃ g o1 o2 o3, σ = G g o1 o2 o3 ∧ A t g) ?_ ⟨f, none, none, none, rfl, ?_⟩ ?_) ?_))
 · have i1 : idx (zdC n f) (k : Int) = some (.o (zfI n (f k))) := zgV hk (yf1 hn)
   have i2 : idx (zfI n (f k)) (k : Int) = some (.f (.int (f k k))) := zgU hk (yf1 hn)
   clear hf hx
   dsimp only [G]
   simp -implicitDefEqProofs only [zct, a_n, q_s, q_n, Bool.and_true, e_s, p_s, zi5, zcT, zej, zbN, zdb, zqY, zaV, *]
 · have hl2 : (zdC n f).length = n := zfh
   clear hf hx
   dsimp only [G]
   simp -implicitDefEqProofs only [zi7, i_r2, q_b, q_n, q_c, Bool.and_true, e_b, p_b, zcT, p_c, za3, zaG, za4, zbN, zbD, iR_s, za7, decide_true, zck, zmN, zbK, zi5, zfv, zsz, *]
 · intro i j hi hj
   unfold zh5
   split
   · rw [if_neg (yf8 ‹_›)]
   · rfl
 · rintro t d τ hd ⟨g, o1, o2, o3, rfl, hA⟩
   obtain ⟨rfl, ht⟩ := zaS hd
   have e2 : ((k + 1 : Nat) : Int) + (t : Int) = ((k + 1 + t : Nat) : Int) := by exact yf6
   rw [e2]
   have hr : k + 1 + t < n := by exact yf5 ht
   generalize hrd : k + 1 + t = r at hr
   have hrk : g r k = f r k := by rw [hA r k hr hk, if_neg (yfS hrd)]
   have i1 : idx (zdC n g) (r : Int) = some (.o (zfI n (g r))) := zgV hr (yf1 hn)
   have i2 : idx (zfI n (g r)) (k : Int) = some (.f (.int (f r k))) := by rw [zgU hk (yf1 hn), hrk]
   have hl2 : (zdC n g).length = n := zfh
   refine ⟨G g (some (.f (.int r))) o2 o3, ?_, zru (zfx (σ1 := G g (some (.f (.int r))) (some (.f (.int (f r k)))) o3) ?_ (zgN (zcI (ds := zb6 ((k + 1 : Nat) : Int) (n - (k + 1))) (pr := false) (σ2 := G g (some (.f (.int r))) (some (.f (.int (f r k)))) o3)
    (fun s σ => ∃ g' o3, σ = G g' (some (.f (.int r))) (some (.f (.int (f r k)))) o3 ∧ ∀ i j, i < n → j < n → g' i j = if i = r ∧ k < j ∧ j < k + 1 + s then zh5 f k h i j else g i j) ?_ ⟨g, o3, rfl, ?_⟩ ?_) ?_))⟩
   · clear hf hx hA hd hrd
     dsimp only [G]
     simp -implicitDefEqProofs only [zdu, zs5, *]
   · clear hf hx hA hd hrd
     dsimp only [G]
     simp -implicitDefEqProofs only [zct, a_n, q_s, q_n, Bool.and_true, e_s, p_s, zi5, zi6, zej, zcT, zbN, zdb, zoz, zaV, *]
   · clear hf hx hA hd hrd
     dsimp only [G]
     simp -implicitDefEqProofs only [zi7, i_r2, q_b, q_n, q_c, Bool.and_true, e_b, p_b, zcT, p_c, za3, zaG, za4, zbN, zbD, iR_s, za7, decide_true, zck, zmN, zbK, zi5, zfv, zsz, *]
   · intro i j _ _
     rw [if_neg (yf7)]
   · rintro s d τ hd' ⟨g', o3, rfl, hB⟩
     obtain ⟨rfl, hs⟩ := zaS hd'
     have e3 : ((k + 1 : Nat) : Int) + (s : Int) = ((k + 1 + s : Nat) : Int) := by exact yf6
     rw [e3]
     have hc : k + 1 + s < n := by exact yf5 hs
     generalize hcd : k + 1 + s = c at hc
     have hrc : g' r c = f r c := by rw [hB r c hr hc, if_neg (yf4 hcd), hA r c hr hc, if_neg (yfS hrd)]
     have hkc : g' k c = f k c := by rw [hB k c hk hc, if_neg (yf3 hcd), hA k c hk hc, if_pos (yf2)]; unfold zh5; rw [if_neg (yfn)]
     have i3 : idx (zdC n g') (r : Int) = some (.o (zfI n (g' r))) := zgV hr (yf1 hn)
     have i4 : idx (zfI n (g' r)) (c : Int) = some (.f (.int (f r c))) := by rw [zgU hc (yf1 hn), hrc]
     have i5 : idx (zdC n g') (k : Int) = some (.o (zfI n (g' k))) := zgV hk (yf1 hn)
     have i6 : idx (zfI n (g' k)) (c : Int) = some (.f (.int (f k c))) := by rw [zgU hc (yf1 hn), hkc]
     have m1 : zbh .Mult (f r c) (f k k) = some (f r c * f k k) := zbT (.inr hl)
     have m2 : zbh .Mult (f r k) (f k c) = some (f r k * f k c) := zbT (.inl (hf r (yfR hrd) hr))
     have m3 : zbh .FloorDiv (f r c * f k k - f r k * f k c) h = some (zh5 f k h r c) := by
      unfold zh5
      rw [if_pos (yfR hrd), if_pos (yfR hcd)]
      exact zey h0 (hx r c (yfR hrd) hr (yfR hcd) hc) hh
     have s1 : zci zbs "a" (r : Int) (c : Int) (.f (.int (zh5 f k h r c))) (G g' (some (.f (.int r))) (some (.f (.int (f r k)))) (some (.f (.int c)))) = some (G (zuN g' r c (zh5 f k h r c)) (some (.f (.int r))) (some (.f (.int (f r k)))) (some (.f (.int c)))) := by
      dsimp only [G]
      rw [zim (zow _ _ _ _ _ _ _) (zi3 hr) (by rw [zpK]; exact hc) (yfY hn hr) (yfY hn hc), zs4, zpL]
     refine ⟨G g' (some (.f (.int r))) (some (.f (.int (f r k)))) (some (.f (.int c))), ?_, G (zuN g' r c (zh5 f k h r c)) (some (.f (.int r))) (some (.f (.int (f r k)))) (some (.f (.int c))), ?_, _, _, rfl, fun i j hi hj => ?_⟩
     · clear hf hx hA hd hrd hB hd' hcd s1
       dsimp only [G]
       simp -implicitDefEqProofs only [zdu, zmM, *]
     · clear hf hx hA hd hrd hB hd' hcd hrc hkc
       dsimp only [G] at s1 ⊢
       generalize zh5 f k h r c = v at *
       simp -implicitDefEqProofs only [r_s, zdD, zct, q_n, a_xx, q_b, q_s, Bool.and_true, e_b, p_b, p_s, zi5, zi6, zej, zmL, zqX, za3, za4, zoy, zcT, zaN, zox, zbN, aXX_s, zvt, zaV, zbx, zer, *]
     · unfold zuN
       by_cases q : i = r ∧ j = c
       · rw [if_pos q, if_pos (yf0 hcd q), q.1, q.2]
       · rw [if_neg q, hB i j hi hj]
         by_cases q2 : i = r ∧ k < j ∧ j < k + 1 + s
         · rw [if_pos q2, if_pos (ya4 q2)]
         · rw [if_neg q2, if_neg (yfZ hcd q q2)]
   · rintro σ ⟨g', o3, rfl, hB⟩
     rw [zaD] at hB
     have s1 : zci zbs "a" (r : Int) (k : Int) (.f (.int 0)) (G g' (some (.f (.int r))) (some (.f (.int (f r k)))) o3) = some (G (zuN g' r k 0) (some (.f (.int r))) (some (.f (.int (f r k)))) o3) := by
      dsimp only [G]
      rw [zim (zow _ _ _ _ _ _ _) (zi3 hr) (by rw [zpK]; exact hk) (yfY hn hr) (yfX hk1), zs4, zpL]
     refine zdd ⟨G (zuN g' r k 0) (some (.f (.int r))) (some (.f (.int (f r k)))) o3, ?_, _, _, _, _, rfl, fun i j hi hj => ?_⟩
     · clear hf hx hA hd hrd hB
       dsimp only [G] at s1 ⊢
       simp -implicitDefEqProofs only [zct, q_n, a_xx, e_c, aXX_s, zi6, zcT, zvt, zaV, *]
     · unfold zuN
       by_cases q : i = r ∧ j = k
       · rw [if_pos q, if_pos (yfW hrd q)]
         unfold zh5
         rw [if_pos (yfV hrd q), if_neg (yfU q), if_pos q.2]
       · rw [if_neg q, hB i j hi hj, hA i j hi hj]
         by_cases q1 : i = r
         · subst q1
           rw [if_pos (show i < k + 1 + (t + 1) by exact yfT hrd), if_neg (show ¬ i < k + 1 + t by exact yfS hrd)]
           by_cases q3 : k < j
           · rw [if_pos ⟨rfl, q3, by exact yaT hj⟩]
           · rw [if_neg (fun h => q3 h.2.1)]
             unfold zh5
             rw [if_pos (yfR hrd), if_neg q3, if_neg (fun h => q ⟨rfl, h⟩)]
         · rw [if_neg (fun h => q1 h.1)]
           by_cases q2 : i < k + 1 + t
           · rw [if_pos q2, if_pos (yfQ q2)]
           · rw [if_neg q2, if_neg (yfP hrd q1 q2)]
 · rintro σ ⟨g, o1, o2, o3, rfl, hA⟩
   rw [zaD] at hA
   refine ⟨o1, o2, o3, ?_⟩
   dsimp only [G]
   rw [zqU (f' := zh5 f k h) fun i j hi hj => by rw [hA i j hi hj, if_pos (yaT hi)]]
noncomputable def d3 (a b c d e f g h i : Int) : Int := a * (e * i - f * h) - b * (d * i - f * g) + c * (d * h - e * g)
noncomputable def d4 (a b c d e f g h i j k l m n o p : Int) : Int := a * d3 f g h j k l n o p - b * d3 e g h i k l m o p + c * d3 e f h i j l m n p - d * d3 e f g i j k m n o
noncomputable def mk (M : Nat → Nat → Int) : Nat → Nat → Nat → Int
 | 1, i, j => M i j
 | 2, i, j => M 0 0 * M i j - M 0 j * M i 0
 | 3, i, j => d3 (M 0 0) (M 0 1) (M 0 j) (M 1 0) (M 1 1) (M 1 j) (M i 0) (M i 1) (M i j)
 | 4, i, j => d4 (M 0 0) (M 0 1) (M 0 2) (M 0 j) (M 1 0) (M 1 1) (M 1 2) (M 1 j) (M 2 0) (M 2 1) (M 2 2) (M 2 j) (M i 0) (M i 1) (M i 2) (M i j)
 | _, _, _ => 0
noncomputable def zpM (M : Nat → Nat → Int) : Nat → Int
 | 0 => 1
 | k + 1 => mk M (k + 1) k k
theorem id3 (a b c d e f g h i : Int) : (a * e - b * d) * (a * i - c * g) - (a * f - c * d) * (a * h - b * g) = d3 a b c d e f g h i * a := by unfold d3; grind
theorem id4 (a b c d e f g h i j k l m n o p : Int) : d3 a b d e f h m n p * d3 a b c e f g i j k - d3 a b c e f g m n o * d3 a b d e f h i j l = d4 a b c d e f g h i j k l m n o p * (a * f - b * e) := by unfold d4 d3; grind
theorem le2c {k : Nat} (h : k ≤ 2) : k = 0 ∨ k = 1 ∨ k = 2 := (by decide : ∀ k, k < 3 → k = 0 ∨ k = 1 ∨ k = 2) k (Nat.lt_succ_of_le h)
theorem le3c {k : Nat} (h : k ≤ 3) : k = 0 ∨ k = 1 ∨ k = 2 ∨ k = 3 := (by decide : ∀ k, k < 4 → k = 0 ∨ k = 1 ∨ k = 2 ∨ k = 3) k (Nat.lt_succ_of_le h)
theorem le4c {k : Nat} (h : k ≤ 4) : k = 0 ∨ k = 1 ∨ k = 2 ∨ k = 3 ∨ k = 4 := (by decide : ∀ k, k < 5 → k = 0 ∨ k = 1 ∨ k = 2 ∨ k = 3 ∨ k = 4) k (Nat.lt_succ_of_le h)
set_option synthInstance.maxSize 4000 in
set_option synthInstance.maxHeartbeats 0 in
theorem tri : ∀ n, n < 5 → ∀ r, r < n → ∀ k, k < r → n = 2 ∧ k = 0 ∧ r = 1 ∨ n = 3 ∧ k = 0 ∧ r = 1 ∨ n = 3 ∧ k = 0 ∧ r = 2 ∨ n = 3 ∧ k = 1 ∧ r = 2 ∨ n = 4 ∧ k = 0 ∧ r = 1 ∨ n = 4 ∧ k = 0 ∧ r = 2 ∨ n = 4 ∧ k = 0 ∧ r = 3 ∨ n = 4 ∧ k = 1 ∧ r = 2 ∨ n = 4 ∧ k = 1 ∧ r = 3 ∨ n = 4 ∧ k = 2 ∧ r = 3 := by decide
set_option synthInstance.maxSize 4000 in
set_option synthInstance.maxHeartbeats 0 in
theorem bi : ∀ n, n < 5 → ∀ k, k < n → n = 1 ∧ k = 0 ∨ n = 2 ∧ k = 0 ∨ n = 3 ∧ k = 0 ∨ n = 4 ∧ k = 0 ∨ n = 2 ∧ k = 1 ∨ n = 3 ∧ k = 1 ∨ n = 4 ∧ k = 1 ∨ n = 3 ∧ k = 2 ∨ n = 4 ∧ k = 2 ∨ n = 4 ∧ k = 3 := by decide
theorem zs7 {M : Nat → Nat → Int} {k i j : Nat} (hk : k ≤ 2) : mk M (k + 1) i j * mk M (k + 1) k k - mk M (k + 1) i k * mk M (k + 1) k j = mk M (k + 2) i j * zpM M k := by
 rcases le2c hk with rfl | rfl | rfl
 · show M i j * M 0 0 - M i 0 * M 0 j = (M 0 0 * M i j - M 0 j * M i 0) * 1; grind
 · show (M 0 0 * M i j - M 0 j * M i 0) * (M 0 0 * M 1 1 - M 0 1 * M 1 0) - (M 0 0 * M i 1 - M 0 1 * M i 0) * (M 0 0 * M 1 j - M 0 j * M 1 0) = d3 (M 0 0) (M 0 1) (M 0 j) (M 1 0) (M 1 1) (M 1 j) (M i 0) (M i 1) (M i j) * M 0 0
   rw [← id3]; grind
 · show d3 (M 0 0) (M 0 1) (M 0 j) (M 1 0) (M 1 1) (M 1 j) (M i 0) (M i 1) (M i j) * d3 (M 0 0) (M 0 1) (M 0 2) (M 1 0) (M 1 1) (M 1 2) (M 2 0) (M 2 1) (M 2 2) - d3 (M 0 0) (M 0 1) (M 0 2) (M 1 0) (M 1 1) (M 1 2) (M i 0) (M i 1) (M i 2) * d3 (M 0 0) (M 0 1) (M 0 j) (M 1 0) (M 1 1) (M 1 j) (M 2 0) (M 2 1) (M 2 j) = d4 (M 0 0) (M 0 1) (M 0 2) (M 0 j) (M 1 0) (M 1 1) (M 1 2) (M 1 j) (M 2 0) (M 2 1) (M 2 2) (M 2 j) (M i 0) (M i 1) (M i 2) (M i j) * (M 0 0 * M 1 1 - M 0 1 * M 1 0)
   exact id4 ..
noncomputable def zaR (f : Nat → Nat → Int) (k r : Nat) : Nat → Nat → Int := fun i j => if i = k then f r j else if i = r then f k j else f i j
noncomputable def znl (M : Nat → Nat → Int) (n : Nat) : Int := mk M n (n - 1) (n - 1)
theorem zqZ {M : Nat → Nat → Int} {k r i j : Nat} (hk : k ≤ 3) (hr : k < r) (hi : k ≤ i) : mk (zaR M k r) (k + 1) i j = zaR (mk M (k + 1)) k r i j := by
 have o : ∀ a b, a < k → zaR M k r a b = M a b := fun a b h => by unfold zaR; rw [if_neg (yfO h), if_neg (yfN hr h)]
 have key : mk (zaR M k r) (k + 1) i j = mk M (k + 1) (if i = k then r else if i = r then k else i) j := by
  have e : ∀ b, zaR M k r i b = M (if i = k then r else if i = r then k else i) b := fun b => by unfold zaR; split; rfl; split <;> rfl
  rcases le3c hk with rfl | rfl | rfl | rfl
  · exact e j
  · show zaR M 1 r 0 0 * zaR M 1 r i j - zaR M 1 r 0 j * zaR M 1 r i 0 = _; rw [o 0 0 (yct), o 0 j (yct), e, e]; rfl
  · show d3 (zaR M 2 r 0 0) (zaR M 2 r 0 1) (zaR M 2 r 0 j) (zaR M 2 r 1 0) (zaR M 2 r 1 1) (zaR M 2 r 1 j) (zaR M 2 r i 0) (zaR M 2 r i 1) (zaR M 2 r i j) = _; rw [o 0 0 (ycr), o 0 1 (ycr), o 0 j (ycr), o 1 0 (ydB), o 1 1 (ydB), o 1 j (ydB), e, e, e]; rfl
  · show d4 (zaR M 3 r 0 0) (zaR M 3 r 0 1) (zaR M 3 r 0 2) (zaR M 3 r 0 j) (zaR M 3 r 1 0) (zaR M 3 r 1 1) (zaR M 3 r 1 2) (zaR M 3 r 1 j) (zaR M 3 r 2 0) (zaR M 3 r 2 1) (zaR M 3 r 2 2) (zaR M 3 r 2 j) (zaR M 3 r i 0) (zaR M 3 r i 1) (zaR M 3 r i 2) (zaR M 3 r i j) = _; rw [o 0 0 (ydA), o 0 1 (ydA), o 0 2 (ydA), o 0 j (ydA), o 1 0 (ydz), o 1 1 (ydz), o 1 2 (ydz), o 1 j (ydz), o 2 0 (ydy), o 2 1 (ydy), o 2 2 (ydy), o 2 j (ydy), e, e, e, e]; rfl
 rw [key]
 unfold zaR
 split
 · rfl
 · split <;> rfl
theorem zs8 {M : Nat → Nat → Int} {k r : Nat} (hk : k ≤ 3) (hr : k < r) : zpM (zaR M k r) k = zpM M k := by
 have o : ∀ a b, a < k → zaR M k r a b = M a b := fun a b h => by unfold zaR; rw [if_neg (yfO h), if_neg (yfN hr h)]
 rcases le3c hk with rfl | rfl | rfl | rfl
 · rfl
 · exact o 0 0 (yct)
 · show zaR M 2 r 0 0 * zaR M 2 r 1 1 - zaR M 2 r 0 1 * zaR M 2 r 1 0 = M 0 0 * M 1 1 - M 0 1 * M 1 0; rw [o 0 0 (ycr), o 1 1 (ydB), o 0 1 (ycr), o 1 0 (ydB)]
 · show d3 (zaR M 3 r 0 0) (zaR M 3 r 0 1) (zaR M 3 r 0 2) (zaR M 3 r 1 0) (zaR M 3 r 1 1) (zaR M 3 r 1 2) (zaR M 3 r 2 0) (zaR M 3 r 2 1) (zaR M 3 r 2 2) = d3 (M 0 0) (M 0 1) (M 0 2) (M 1 0) (M 1 1) (M 1 2) (M 2 0) (M 2 1) (M 2 2); rw [o 0 0 (ydA), o 0 1 (ydA), o 0 2 (ydA), o 1 0 (ydz), o 1 1 (ydz), o 1 2 (ydz), o 2 0 (ydy), o 2 1 (ydy), o 2 2 (ydy)]
theorem zuR {M : Nat → Nat → Int} {n k r : Nat} (hn : n ≤ 4) (hr : k < r) (hrn : r < n) : znl (zaR M k r) n = -znl M n := by
 have h3 : ∀ a b c d e f g h i : Int, d3 d e f a b c g h i = -d3 a b c d e f g h i ∧ d3 g h i d e f a b c = -d3 a b c d e f g h i ∧ d3 a b c g h i d e f = -d3 a b c d e f g h i := by
  intros; unfold d3; refine ⟨?_, ?_, ?_⟩ <;> grind
 have h4 : ∀ a b c d e f g h i j k l m n o p : Int, d4 e f g h a b c d i j k l m n o p = -d4 a b c d e f g h i j k l m n o p ∧ d4 i j k l e f g h a b c d m n o p = -d4 a b c d e f g h i j k l m n o p ∧ d4 m n o p e f g h i j k l a b c d = -d4 a b c d e f g h i j k l m n o p ∧
  d4 a b c d i j k l e f g h m n o p = -d4 a b c d e f g h i j k l m n o p ∧ d4 a b c d m n o p i j k l e f g h = -d4 a b c d e f g h i j k l m n o p ∧ d4 a b c d e f g h m n o p i j k l = -d4 a b c d e f g h i j k l m n o p := by
  intros; unfold d4 d3; refine ⟨?_, ?_, ?_, ?_, ?_, ?_⟩ <;> grind
 rcases tri n (Nat.lt_succ_of_le hn) r hrn k hr with ⟨rfl, rfl, rfl⟩ | ⟨rfl, rfl, rfl⟩ | ⟨rfl, rfl, rfl⟩ | ⟨rfl, rfl, rfl⟩ | ⟨rfl, rfl, rfl⟩ | ⟨rfl, rfl, rfl⟩ | ⟨rfl, rfl, rfl⟩ | ⟨rfl, rfl, rfl⟩ | ⟨rfl, rfl, rfl⟩ | ⟨rfl, rfl, rfl⟩
 · show M 1 0 * M 0 1 - M 1 1 * M 0 0 = -(M 0 0 * M 1 1 - M 0 1 * M 1 0); grind
 · exact (h3 ..).1
 · exact (h3 ..).2.1
 · exact (h3 ..).2.2
 · exact (h4 ..).1
 · exact (h4 ..).2.1
 · exact (h4 ..).2.2.1
 · exact (h4 ..).2.2.2.1
 · exact (h4 ..).2.2.2.2.1
 · exact (h4 ..).2.2.2.2.2
theorem zuS {M : Nat → Nat → Int} {n k : Nat} (hn : n ≤ 4) (hk : k < n) (h0 : zpM M k ≠ 0) (hz : ∀ i, k ≤ i → i < n → mk M (k + 1) i k = 0) : znl M n = 0 := by
 have c : ∀ {a b : Int}, b * a = 0 → a ≠ 0 → b = 0 := fun h h' => (Int.mul_eq_zero.mp h).resolve_right h'
 rcases bi n (Nat.lt_succ_of_le hn) k hk with ⟨rfl, rfl⟩ | ⟨rfl, rfl⟩ | ⟨rfl, rfl⟩ | ⟨rfl, rfl⟩ | ⟨rfl, rfl⟩ | ⟨rfl, rfl⟩ | ⟨rfl, rfl⟩ | ⟨rfl, rfl⟩ | ⟨rfl, rfl⟩ | ⟨rfl, rfl⟩
 · exact hz 0 (yfM) (yct)
 · have a := hz 0 (yfM) (ycr); have b := hz 1 (yfL) (ydB)
   change M 0 0 = 0 at a; change M 1 0 = 0 at b
   show M 0 0 * M 1 1 - M 0 1 * M 1 0 = 0
   rw [a, b]; grind
 · have a := hz 0 (yfM) (ydA); have b := hz 1 (yfL) (ydz); have d := hz 2 (yfK) (ydy)
   change M 0 0 = 0 at a; change M 1 0 = 0 at b; change M 2 0 = 0 at d
   show d3 (M 0 0) (M 0 1) (M 0 2) (M 1 0) (M 1 1) (M 1 2) (M 2 0) (M 2 1) (M 2 2) = 0
   rw [a, b, d]; unfold d3; grind
 · have a := hz 0 (yfM) (ydx); have b := hz 1 (yfL) (ydw); have d := hz 2 (yfK) (ydv); have e := hz 3 (yfJ) (ydu)
   change M 0 0 = 0 at a; change M 1 0 = 0 at b; change M 2 0 = 0 at d; change M 3 0 = 0 at e
   show d4 (M 0 0) (M 0 1) (M 0 2) (M 0 3) (M 1 0) (M 1 1) (M 1 2) (M 1 3) (M 2 0) (M 2 1) (M 2 2) (M 2 3) (M 3 0) (M 3 1) (M 3 2) (M 3 3) = 0
   rw [a, b, d, e]; unfold d4 d3; grind
 · exact hz 1 (yfI) (ydB)
 · have a := hz 1 (yfI) (ydz); have b := hz 2 (yfH) (ydy)
   change M 0 0 * M 1 1 - M 0 1 * M 1 0 = 0 at a; change M 0 0 * M 2 1 - M 0 1 * M 2 0 = 0 at b
   change M 0 0 ≠ 0 at h0
   show d3 (M 0 0) (M 0 1) (M 0 2) (M 1 0) (M 1 1) (M 1 2) (M 2 0) (M 2 1) (M 2 2) = 0
   refine c ?_ h0
   have : ∀ a b c d e f g h i : Int, d3 a b c d e f g h i * a = (a * e - b * d) * (a * i - c * g) - (a * f - c * d) * (a * h - b * g) := fun a b c d e f g h i => (id3 ..).symm
   rw [this, a, b]; grind
 · have a := hz 1 (yfI) (ydw); have b := hz 2 (yfH) (ydv); have d := hz 3 (yfG) (ydu)
   change M 0 0 * M 1 1 - M 0 1 * M 1 0 = 0 at a; change M 0 0 * M 2 1 - M 0 1 * M 2 0 = 0 at b; change M 0 0 * M 3 1 - M 0 1 * M 3 0 = 0 at d
   change M 0 0 ≠ 0 at h0
   show d4 (M 0 0) (M 0 1) (M 0 2) (M 0 3) (M 1 0) (M 1 1) (M 1 2) (M 1 3) (M 2 0) (M 2 1) (M 2 2) (M 2 3) (M 3 0) (M 3 1) (M 3 2) (M 3 3) = 0
   refine c ?_ h0
   have : ∀ a b c d e f g h i j k l m n o p : Int, d4 a b c d e f g h i j k l m n o p * a = (a * f - b * e) * (a * (k * p - l * o) - c * (i * p - l * m) + d * (i * o - k * m)) - (a * j - b * i) * (a * (g * p - h * o) - c * (e * p - h * m) + d * (e * o - g * m)) + (a * n - b * m) * (a * (g * l - h * k) - c * (e * l - h * i) + d * (e * k - g * i)) := by
    intros; unfold d4 d3; grind
   rw [this, a, b, d]; grind
 · exact hz 2 (yfE) (ydy)
 · have a := hz 2 (yfE) (ydv); have b := hz 3 (yfF) (ydu)
   have s := zs7 (M := M) (k := 2) (i := 3) (j := 3) (yfE)
   rw [a, b] at s
   refine c (a := zpM M 2) ?_ h0
   show mk M 4 3 3 * zpM M 2 = 0
   rw [← s]; grind
 · exact hz 3 (yfD) (ydu)
theorem zcq {a b : Int} {A B : Nat} (ha : a.natAbs ≤ A) (hb : b.natAbs ≤ B) : (a * b).natAbs ≤ A * B := by rw [Int.natAbs_mul]; exact Nat.mul_le_mul ha hb
theorem zs9 {a b c d e f g h i : Int} (ha : a.natAbs ≤ 20) (hb : b.natAbs ≤ 20) (hc : c.natAbs ≤ 20) (hd : d.natAbs ≤ 20) (he : e.natAbs ≤ 20) (hf : f.natAbs ≤ 20) (hg : g.natAbs ≤ 20) (hh : h.natAbs ≤ 20) (hi : i.natAbs ≤ 20) : (d3 a b c d e f g h i).natAbs ≤ 48000 := by
 have q : ∀ {x y z u : Int}, x.natAbs ≤ 20 → y.natAbs ≤ 20 → z.natAbs ≤ 20 → u.natAbs ≤ 20 → (x * y - z * u).natAbs ≤ 800 := fun h1 h2 h3 h4 => by have := zcq h1 h2; have := zcq h3 h4; exact yaW ‹_› this
 have := zcq ha (q he hi hf hh); have := zcq hb (q hd hi hf hg); have := zcq hc (q hd hh he hg)
 unfold d3; exact yaf ‹_› ‹_› this
theorem mk_le {M : Nat → Nat → Int} {n k i j : Nat} (hn : n ≤ 4) (hb : ∀ i j, i < n → j < n → (M i j).natAbs ≤ 20) (hk : k < n) (hi : k ≤ i) (hi2 : i < n) (hj : k ≤ j) (hj2 : j < n) : (mk M (k + 1) i j).natAbs ≤ 4000000 := by
 rcases le3c (show k ≤ 3 by exact yfj hn hi hi2) with rfl | rfl | rfl | rfl
 · exact Nat.le_trans (hb i j hi2 hj2) (yfC)
 · have := zcq (hb 0 0 (yfB hk) (yfB hk)) (hb i j hi2 hj2); have := zcq (hb 0 j (yfB hk) hj2) (hb i 0 hi2 (yfB hk))
   show (M 0 0 * M i j - M 0 j * M i 0).natAbs ≤ _
   exact yaF ‹_› this
 · exact Nat.le_trans (zs9 (hb _ _ (yfA hk) (yfA hk)) (hb _ _ (yfA hk) (yfz hk)) (hb _ _ (yfA hk) (yfy hj2)) (hb _ _ (yfz hk) (yfA hk)) (hb _ _ (yfz hk) (yfz hk)) (hb _ _ (yfz hk) (yfy hj2)) (hb _ _ (yfy hi2) (yfA hk)) (hb _ _ (yfy hi2) (yfz hk)) (hb _ _ (yfy hi2) (yfy hj2))) (yfx)
 · have b := fun {i j : Nat} (h1 : i < n) (h2 : j < n) => hb i j h1 h2
   have t1 := zcq (b (show 0 < n by exact yfw hk) (show 0 < n by exact yfw hk)) (zs9 (b (show 1 < n by exact yfv hk) (show 1 < n by exact yfv hk)) (b (show 1 < n by exact yfv hk) (show 2 < n by exact yfu hk)) (b (show 1 < n by exact yfv hk) hj2) (b (show 2 < n by exact yfu hk) (show 1 < n by exact yfv hk)) (b (show 2 < n by exact yfu hk) (show 2 < n by exact yfu hk)) (b (show 2 < n by exact yfu hk) hj2) (b hi2 (show 1 < n by exact yfv hk)) (b hi2 (show 2 < n by exact yfu hk)) (b hi2 hj2))
   have t2 := zcq (b (show 0 < n by exact yfw hk) (show 1 < n by exact yfv hk)) (zs9 (b (show 1 < n by exact yfv hk) (show 0 < n by exact yfw hk)) (b (show 1 < n by exact yfv hk) (show 2 < n by exact yfu hk)) (b (show 1 < n by exact yfv hk) hj2) (b (show 2 < n by exact yfu hk) (show 0 < n by exact yfw hk)) (b (show 2 < n by exact yfu hk) (show 2 < n by exact yfu hk)) (b (show 2 < n by exact yfu hk) hj2) (b hi2 (show 0 < n by exact yfw hk)) (b hi2 (show 2 < n by exact yfu hk)) (b hi2 hj2))
   have t3 := zcq (b (show 0 < n by exact yfw hk) (show 2 < n by exact yfu hk)) (zs9 (b (show 1 < n by exact yfv hk) (show 0 < n by exact yfw hk)) (b (show 1 < n by exact yfv hk) (show 1 < n by exact yfv hk)) (b (show 1 < n by exact yfv hk) hj2) (b (show 2 < n by exact yfu hk) (show 0 < n by exact yfw hk)) (b (show 2 < n by exact yfu hk) (show 1 < n by exact yfv hk)) (b (show 2 < n by exact yfu hk) hj2) (b hi2 (show 0 < n by exact yfw hk)) (b hi2 (show 1 < n by exact yfv hk)) (b hi2 hj2))
   have t4 := zcq (b (show 0 < n by exact yfw hk) hj2) (zs9 (b (show 1 < n by exact yfv hk) (show 0 < n by exact yfw hk)) (b (show 1 < n by exact yfv hk) (show 1 < n by exact yfv hk)) (b (show 1 < n by exact yfv hk) (show 2 < n by exact yfu hk)) (b (show 2 < n by exact yfu hk) (show 0 < n by exact yfw hk)) (b (show 2 < n by exact yfu hk) (show 1 < n by exact yfv hk)) (b (show 2 < n by exact yfu hk) (show 2 < n by exact yfu hk)) (b hi2 (show 0 < n by exact yfw hk)) (b hi2 (show 1 < n by exact yfv hk)) (b hi2 (show 2 < n by exact yfu hk)))
   show (d4 ..).natAbs ≤ _
   unfold d4
   exact yae t1 t2 t3 t4
theorem zuT {C : Cfg} {R : Rec} {sc scope : Scope} {σ σ1 : St} {elt iter t : Expr} {x : Str} {p : Pos} {ds : List D} (hp : C.pins = []) (h1 : zbZ scope sc = true) (h3 : (scope.names.all fun x => x.2 != .free || has x.1 σ.k) = true)
 (hl : zbi scope = [(".0" : Str), x]) (hc : zaO scope = []) (hk : (zaF scope sc).names.lookup x = some .local) (hx : x ≠ ".0") (hi : zb2 R sc iter σ = some ((ds, false), σ1))
 (h : ∀ (j : Nat) (d : D), ds[j]? = some d → R.t (zaF scope sc) t ⟨[(".0", none), (x, some (.f d))], σ1.k⟩ = some (false, ⟨[(".0", none), (x, some (.f d))], σ1.k⟩)) :
 zfo C R sc elt [⟨.Name x p, iter, [t], 0⟩] scope σ = some (.o [], σ1) := by
 have hL := ziq (C := C) (R := R) (sc := zaF scope sc) (pairs := false) (target := .Name x p) (ifs := [t]) (em := zep R (zaF scope sc) elt) (fun j => ⟨[(".0", none), (x, zgM ds j)], σ1.k⟩) (fun _ => ([] : List V)) ds fun j d hd => by
  refine ⟨⟨[(".0", none), (x, some (.f d))], σ1.k⟩, ?_, .inr ⟨?_, rfl⟩⟩
  · rw [zdu, zcY hp hk (by simp only [zcj]; simp)]
    simp only [upd, if_neg (Ne.symm hx), if_true]
  · have e : zgM ds (j + 1) = some (.f d) := by simp only [zgM, hd, Option.map_some]
    show R.t (zaF scope sc) t _ = _
    rw [h j d hd, e]
 have e : ((List.range ds.length).map fun _ => ([] : List V)).flatten = [] := by
  rw [List.flatten_eq_nil_iff]
  intro l hl
  obtain ⟨_, _, rfl⟩ := List.mem_map.mp hl
  rfl
 rw [e] at hL
 have := zir (C := C) (R := R) (sc := sc) (scope := scope) (σ := σ) (elt := elt) (g := ⟨.Name x p, iter, [t], 0⟩) h1 rfl h3 hi (by
  rw [hl, hc]
  exact hL) rfl
 rw [this, hc]
 rfl
theorem a_swap {C : Cfg} {i : Nat} {sc : Scope} {σ : St} {a x y : Str} {k k' : Nat} {p p1 p2 p3 p4 p5 p6 q q1 q2 q3 q4 q5 q6 : Pos} {r s : Int} {vs : List V} {X Y : V} (hdb : (a == ("__debug__" : Str)) = false) (hl : sc.names.lookup a = some .local)
 (hx0 : (ER C (i + 1)).p sc (.Name x p2) { σ with r := upd a none σ.r } = some (.f (.int r))) (hy0 : (ER C (i + 1)).p sc (.Name y p5) { σ with r := upd a none σ.r } = some (.f (.int s)))
 (hy : (ER C (i + 1)).p sc (.Name y q2) σ = some (.f (.int s))) (hx : (ER C (i + 1)).p sc (.Name x q5) σ = some (.f (.int r))) (hg : σ.get sc a = some (.o vs)) (h1 : 0 ≤ r ∧ r < vs.length ∧ 0 ≤ s ∧ s < vs.length) (hf : zaI vs.length = true)
 (vx : vs[r.toNat]? = some X) (vy : vs[s.toNat]? = some Y) :
 zrq C (ER C (i + 1)) sc (.Tuple [.Subscript (.Name a p1) (.Name x p2) p3, .Subscript (.Name a p4) (.Name y p5) p6] k p) (.Tuple [.Subscript (.Name a q1) (.Name y q2) q3, .Subscript (.Name a q4) (.Name x q5) q6] k' q) σ = σ.set sc a (.o ((vs.set r.toNat Y).set s.toNat X)) := by
 show (if a = a ∧ a = a ∧ a = a ∧ (a == ("__debug__" : Str)) = false ∧ sc.names.lookup a = some .local then zvQ (ER C (i + 1)) sc a (.Name x p2) (.Name y p5) (.Name y q2) (.Name x q5) σ else none) = _
 have e : ∀ {nm : Str} {p : Pos} {σ : St} {r : Int}, (ER C (i + 1)).p sc (.Name nm p) σ = some (.f (.int r)) → pI (ER C (i + 1)) sc (.Name nm p) σ = some r := fun h => by
  unfold pI
  rw [if_pos q_n, h]; rfl
 rw [if_pos ⟨rfl, rfl, rfl, hdb, hl⟩]
 unfold zvQ
 rw [e hx0, e hy0, e hy, e hx, hg]
 simp only [Option.bind_some]
 rw [zuv, if_pos ⟨h1.1, h1.2.1, h1.2.2.1, h1.2.2.2, trivial, trivial, hf⟩, vx, vy]
 rfl
noncomputable def ent (rows : List (List Int)) (i j : Nat) : Int := (rows.getD i []).getD j 0
theorem zi8 {rows : List (List Int)} {i : Nat} {d : D} (h : (rows.map D.ints)[i]? = some d) : i < rows.length ∧ d = D.ints (rows.getD i []) := by
 rw [List.getElem?_map] at h
 obtain ⟨x, hx, rfl⟩ := Option.map_eq_some_iff.mp h
 obtain ⟨hi, rfl⟩ := List.getElem?_eq_some_iff.mp hx
 exact ⟨hi, by simp [List.getD, List.getElem?_eq_getElem hi]⟩
theorem zwF {l : List Int} {n : Nat} (h : l.length = n) : (l.map D.int).map V.f = zfI n fun j => l.getD j 0 := by
 subst h
 unfold zfI
 have := zcz l id
 rw [List.map_id] at this
 exact this.symm
theorem zuU {n r k : Nat} {f : Nat → Nat → Int} (hr : r < n) (hk : k < n) : ((zdC n f).set r (.o (zfI n (f k)))).set k (.o (zfI n (f r))) = zdC n (zaR f k r) := by
 unfold zdC
 rw [zgo, zgo]
 apply List.map_congr_left
 intro a _
 unfold zaR
 by_cases e : a = k
 · subst e; simp
 · rw [if_neg e]
   by_cases e2 : a = r
   · subst e2
     rw [if_pos rfl]
     congr 1
     exact zfi fun j _ => by rw [if_neg e, if_pos rfl]
   · rw [if_neg e2]
     congr 1
     exact zfi fun j _ => by rw [if_neg e, if_neg e2]
noncomputable def zta : List (Str × NameKind) := [("a", .cell), ("row", .local), ("found", .local), ("sign", .local), ("ahead", .local), ("step", .local), ("CasFail", .globalImplicit), ("range", .globalImplicit), ("len", .globalImplicit), ("pivot_row", .globalImplicit), ("bareiss_step", .globalImplicit)]
section
variable {C : Cfg} {i : Nat} {p : Pos} (a b c d e f : Option V)
@[irreducible] noncomputable def zbv : St := ⟨[("row", a), ("found", b), ("sign", c), ("ahead", d), ("step", e)], [("a", f)]⟩
theorem zuV : ⟨[("row", a), ("found", b), ("sign", c), ("ahead", d), ("step", e)], [("a", f)]⟩ = zbv a b c d e f := by unfold zbv; rfl
theorem zk6 : (zbv a b c d e f).k = [(("a" : Str), f)] := by unfold zbv; rfl
theorem zgs : ∃ sc : Scope, sc.names = zta ∧ sc.kind = .function ∧ (zap "determinant").map (·.scope) = some sc := ⟨_, rfl, rfl, rfl⟩
noncomputable def zbm : Scope := Classical.choose zgs
theorem zbI : zbm.names = zta := (Classical.choose_spec zgs).1
theorem ztb : zbm.kind = .function := (Classical.choose_spec zgs).2.1
theorem ztc {dr : DefRec} (h : zap "determinant" = some dr) : dr.scope = zbm := zdv h (Classical.choose_spec zgs).2.2
theorem zwG : zbm.names.lookup ("a" : Str) = some .cell := by rw [zbI]; rfl
theorem zmO : zbm.names.lookup ("row" : Str) = some .local := by rw [zbI]; rfl
theorem zd8 : zbm.names.lookup ("found" : Str) = some .local := by rw [zbI]; rfl
theorem zkf : zbm.names.lookup ("sign" : Str) = some .local := by rw [zbI]; rfl
theorem zi9 : zbm.names.lookup ("ahead" : Str) = some .local := by rw [zbI]; rfl
theorem zkg : zbm.names.lookup ("step" : Str) = some .local := by rw [zbI]; rfl
theorem zoA : zbm.names.lookup ("range" : Str) = some .globalImplicit := by rw [zbI]; rfl
theorem ztd : zbm.names.lookup ("len" : Str) = some .globalImplicit := by rw [zbI]; rfl
theorem zja : zbm.names.lookup ("pivot_row" : Str) = some .globalImplicit := by rw [zbI]; rfl
theorem zgt : zbm.names.lookup ("bareiss_step" : Str) = some .globalImplicit := by rw [zbI]; rfl
theorem zoB : (ER C (i + 1)).p zbm (.Name "a" p) (zbv a b c d e f) = f := zad rfl (by unfold zbv; exact (zin zwG).trans rfl)
theorem zeQ : (ER C (i + 1)).p zbm (.Name "row" p) (zbv a b c d e f) = a := zad rfl (by unfold zbv; exact (zam zmO).trans rfl)
theorem zjb (hp : C.pins = []) (w : V) : St.put C zbm "row" w (zbv a b c d e f) = some (zbv (some w) b c d e f) := zan (by rw [hp]; rfl) (by unfold zbv; exact (zax zmO rfl).trans rfl)
theorem zjc : (ER C (i + 1)).p zbm (.Name "found" p) (zbv a b c d e f) = b := zad rfl (by unfold zbv; exact (zam zd8).trans rfl)
theorem zd9 : St.get zbm "found" (zbv a b c d e f) = b := (by unfold zbv; exact (zam zd8).trans rfl)
theorem zea (w : V) : St.set zbm "found" w (zbv a b c d e f) = some (zbv a (some w) c d e f) := (by unfold zbv; exact (zax zd8 rfl).trans rfl)
theorem zoC (hp : C.pins = []) (w : V) : St.put C zbm "found" w (zbv a b c d e f) = some (zbv a (some w) c d e f) := zan (by rw [hp]; rfl) (by unfold zbv; exact (zax zd8 rfl).trans rfl)
theorem zkh : (ER C (i + 1)).p zbm (.Name "sign" p) (zbv a b c d e f) = c := zad rfl (by unfold zbv; exact (zam zkf).trans rfl)
theorem zki (hp : C.pins = []) (w : V) : St.put C zbm "sign" w (zbv a b c d e f) = some (zbv a b (some w) d e f) := zan (by rw [hp]; rfl) (by unfold zbv; exact (zax zkf rfl).trans rfl)
theorem zfY : (ER C (i + 1)).p zbm (.Name "ahead" p) (zbv a b c d e f) = d := zad rfl (by unfold zbv; exact (zam zi9).trans rfl)
theorem zfZ (hp : C.pins = []) (w : V) : St.put C zbm "ahead" w (zbv a b c d e f) = some (zbv a b c (some w) e f) := zan (by rw [hp]; rfl) (by unfold zbv; exact (zax zi9 rfl).trans rfl)
theorem zdH : (ER C (i + 1)).p zbm (.Name "step" p) (zbv a b c d e f) = e := zad rfl (by unfold zbv; exact (zam zkg).trans rfl)
theorem zq0 (hp : C.pins = []) (w : V) : St.put C zbm "step" w (zbv a b c d e f) = some (zbv a b c d (some w) f) := zan (by rw [hp]; rfl) (by unfold zbv; exact (zax zkg rfl).trans rfl)
end
theorem zoD : zar zbm "range" = true := zaz zoA
theorem zte : zar zbm "len" = true := zaz ztd
theorem zc5 {C : Cfg} (hr : C.refs = refs) : ztQ C zbm "pivot_row" = true := zl1 hr zja rfl
theorem zdp {C : Cfg} (hr : C.refs = refs) : ztQ C zbm "bareiss_step" = true := zl1 hr zgt rfl
theorem zmP (r f s h t a : Option V) : { zbv r f s h t a with r := upd "found" none (zbv r f s h t a).r } = zbv r none s h t a := by unfold zbv; rfl
structure Dt (C : Cfg) (n : Nat) : Prop where
 piv : ∀ (f : Nat → Nat → Int) (k : Nat), k ≤ n → ∃ d, C.TR "pivot_row" (.o (zdC n f)) [.int k] = some (d, .o (zdC n f)) ∧ ((d = .none ∧ ∀ i, k ≤ i → i < n → f i k = 0) ∨ ∃ r : Nat, d = .int r ∧ k ≤ r ∧ r < n ∧ f r k ≠ 0)
 bar : ∀ (f : Nat → Nat → Int) (k : Nat) (h : Int), k < n → h ≠ 0 → zbo h → zbo (f k k) → (∀ i, k < i → i < n → zbo (f i k)) → (∀ i j, k < i → i < n → k < j → j < n → zbo (f i j * f k k - f i k * f k j)) → C.TR "bareiss_step" (.o (zdC n f)) [.int k, .int h] = some (.none, .o (zdC n (zh5 f k h)))
noncomputable def sDt (n : Nat) (A : V) (ro : Option V) (f : Nat → Nat → Int) (s h : Int) (st : Option V) : St := zbv ro (some (.o (zdC n f))) (some (.f (.int s))) (some (.f (.int h))) st (some A)
inductive DtI (rows : List (List Int)) (n : Nat) (A : V) (k : Nat) : St → Prop
 | mk (ro st : Option V) (f : Nat → Nat → Int) (s h : Int) (M : Nat → Nat → Int) (hs : s = 1 ∨ s = -1) (hd : s * znl M n = znl (ent rows) n) (hh : h = zpM M k) (h0 : h ≠ 0) (hb : ∀ i j, i < n → j < n → (M i j).natAbs ≤ 20) (hf : ∀ i j, k ≤ i → i < n → k ≤ j → j < n → f i j = mk M (k + 1) i j) : DtI rows n A k (sDt n A ro f s h st)
theorem ztf {C : Cfg} {rows : List (List Int)} {n : Nat} (hC : Cg C) (hT : Dt C n) (hn : n ≤ 4) (hn0 : 0 < n) (hl : rows.length = n) (hr : ∀ i, i < n → (rows.getD i []).length = n) (hb : ∀ i j, i < n → j < n → (ent rows i j).natAbs ≤ 20) : zeq C "determinant" [.lst (rows.map D.ints)] (.int (znl (ent rows) n)) := by
 refine ⟨_, rfl, rfl, ?_⟩
 refine zbU zta zbm _ (ztc rfl) zbI (zuV none none none none none (some (.f (.lst (rows.map D.ints))))) ?_
 have hCp := hC.pins
 have hCr := hC.refs
 have hf : zaI n = true := zae (yeh hn)
 have hf0 : zaI 0 = true := rfl
 have hn1 : n ≤ 100000 := by exact yeh hn
 let A : V := .f (.lst (rows.map D.ints))
 refine zj4 (σ1 := zbv none none none none none (some A)) ?_ (zj4 (σ1 := sDt n A none (ent rows) 1 1 none) ?_ (seqFR (zn9 (ds := zb6 0 n) (pr := false) (σ2 := sDt n A none (ent rows) 1 1 none)
  (DtI rows n A)
  (fun v _ => v = .int (znl (ent rows) n)) ?_ ⟨none, none, ent rows, 1, 1, ent rows, .inl rfl, by exact yft, rfl, by exact yfs, hb, fun _ _ _ _ _ _ => rfl⟩ ?_) (fun v _ h => h) ?_))
 · have c0 : cmp .NotEq (.lst []) (.lst []) = some false := rfl
   have hr' := hr
   clear hb hr hT
   dsimp only [A]
   simp -implicitDefEqProofs only [zes, zaY, zbR, *]
   rw [zuT (ds := rows.map D.ints) (σ1 := zbv none none none none none (some (.f (.lst (rows.map D.ints))))) hC.pins (zaH ⟨_, zbI, rfl⟩) (by rw [zk6]; rfl) rfl rfl (zav rfl) (by decide)]
   · simp -implicitDefEqProofs only [zaZ, zdR, zbb, zg8, za8, zjL, zaT, zaU, zcW, r_s, zer, *]
   · simp -implicitDefEqProofs only [i_n, e_n, zoB, zab, List.length_map, zdc, zll, *]
   · intro j d hd
     obtain ⟨hj, rfl⟩ := zi8 hd
     rw [zk6]
     have hlr : (rows.getD j []).length = n := hr' j (ye9 hl hj)
     have h1 := @zqc C
     generalize rows.getD j [] = row at *
     generalize hsc : zaF _ _ = sc'
     have e1 : sc'.names.lookup ("row" : Str) = some .local := by rw [← hsc]; exact zav rfl
     have e3 : ∀ (i : Nat) (p : Pos) (ρ : zbt), (ER C (i + 1)).p sc' (.Name "a" p) ⟨ρ, [("a", some (.f (.lst (rows.map D.ints))))]⟩ = some (.f (.lst (rows.map D.ints))) := fun i p ρ => zrv (by rw [← hsc]; exact zb9 ztb (by rw [zbI]; rfl) rfl) rfl rfl
     have e4 : zar sc' "len" = true := zaz (by rw [← hsc]; exact zdw rfl)
     have c1 : (!((n : Int) == (n : Int))) = false := by simp
     clear hsc hd
     simp -implicitDefEqProofs only [zaY, za7, decide_true, q_n, Bool.and_true, zck, zbK, zaB, String.reduceBEq, List.length_map, zbw, zbN, zaZ, zaw, zaT, zlW, beq_self_eq_true, Bool.not_true, zaU, *]
 · clear hb hT
   dsimp only [A]
   simp -implicitDefEqProofs only [zct, ne_eq, zcX, String.reduceEq, not_false_eq_true, zsv, zwl, Bool.and_true, a_t3, zbd, zbR, *]
   rw [zbe (ds := rows.map D.ints) (σ1 := zbv none none none none none (some (.f (.lst (rows.map D.ints))))) (fun j => V.o (zfI n fun k => (rows.getD j []).getD k 0)) hC.pins (zaH ⟨_, zbI, rfl⟩) (by rw [zk6]; rfl) rfl rfl (zav rfl) (by decide)]
   · rw [List.length_map, hl]
     simp -implicitDefEqProofs only [zaJ, zbd, e_c, za8, zaK, List.length_cons, List.length_nil, bl_0, bl_s, zpB, zb3, zoC, zbC, zki, zfZ, zcd, zaV, *]
     rfl
   · simp -implicitDefEqProofs only [i_n, e_n, zoB, zab, List.length_map, zdc, zll, *]
   · rw [List.length_map, hl]; exact hf
   · intro j d hd
     obtain ⟨hj, rfl⟩ := zi8 hd
     rw [zk6]
     have hlr : (rows.getD j []).length = n := hr j (ye9 hl hj)
     have h1 := @zqc C
     have e9 := zwF hlr
     generalize rows.getD j [] = row at *
     generalize hsc : zaF _ _ = sc'
     have e1 : sc'.names.lookup ("row" : Str) = some .local := by rw [← hsc]; exact zav rfl
     have e4 : zar sc' "list" = true := zaz (by rw [← hsc]; exact zdw rfl)
     clear hsc hd hr
     simp -implicitDefEqProofs only [zlT, e_n, zaB, String.reduceBEq, zab, List.length_map, zhJ, zih, *]
 · clear hb hr hT
   dsimp only [sDt, A]
   simp -implicitDefEqProofs only [zoD, zqa, za7, decide_true, q_n, Bool.and_true, zck, zte, zbK, zoB, List.length_map, zbw, zbN, zbD, zgL, *]
 · rintro k d τ hd ⟨ro, st, f, s, h, M, hs, hdet, hh, h0, hbM, hfM⟩
   obtain ⟨rfl, hk⟩ := zaS hd
   rw [Int.zero_add]
   refine ⟨sDt n A ro f s h (some (.f (.int k))), ?_, ?_⟩
   · clear hb hr hT hfM hbM hh hdet hd hl
     dsimp only [sDt, A]
     simp -implicitDefEqProofs only [zdu, zq0, *]
   obtain ⟨d, hp, hpd⟩ := hT.piv f k (yeA hk)
   rcases hpd with ⟨rfl, hz⟩ | ⟨r, rfl, hkr, hrn, hne⟩
   · right
     refine ⟨.int 0, sDt n A (some (.f .none)) f s h (some (.f (.int k))), ?_, ?_⟩
     · clear hb hr hT hfM hbM hh hdet hd hl hz
       dsimp only [sDt, A]
       simp -implicitDefEqProofs only [r_s, zdD, zct, a_n, zc5, zaB, String.reduceBEq, zsm, zd9, q_n, zsq, zdH, zlU, zsp, zlV, kR_s, zsn, zea, zso, zdb, zjb, zaV, zbx, zes, zaY, e_n, zeQ, zab, zaZ, zaw, ztP, zaT, c_is_n, zaU, zgd, zcl, e_c, zby, zg9, *]
     · rw [← hdet, zuS hn hk (by rw [← hh]; exact h0) fun i a b => by rw [← hfM i k a b (Nat.le_refl _) hk]; exact hz i a b]
       rw [Int.mul_zero]
   · left
     have main : ∀ (f' M' : Nat → Nat → Int) (s' : Int), (s' = 1 ∨ s' = -1) → s' * znl M' n = znl (ent rows) n → h = zpM M' k → (∀ i j, i < n → j < n → (M' i j).natAbs ≤ 20) → (∀ i j, k ≤ i → i < n → k ≤ j → j < n → f' i j = mk M' (k + 1) i j) → f' k k ≠ 0 →
      C.TR "bareiss_step" (.o (zdC n f')) [.int k, .int h] = some (.none, .o (zdC n (zh5 f' k h))) ∧ ∀ ro st, DtI rows n A (k + 1) (sDt n A ro (zh5 f' k h) s' (f' k k) st) := by
      intro f' M' s' hs' hd' hh' hb' hf' hn'
      have sm : ∀ i j, k ≤ i → i < n → k ≤ j → j < n → (f' i j).natAbs ≤ 4000000 := fun i j a b c d => by rw [hf' i j a b c d]; exact mk_le hn hb' hk a b c d
      have hhs : h.natAbs ≤ 4000000 := by
       rw [hh']
       cases k with
       | zero => exact (by decide : (1 : Int).natAbs ≤ 4000000)
       | succ k => exact mk_le hn hb' (ych hk) (Nat.le_refl _) (ych hk) (Nat.le_refl _) (ych hk)
      have sx : ∀ {x : Int}, x.natAbs ≤ 4000000 → zbo x := fun hx => by unfold zbo; exact yfr hx
      refine ⟨hT.bar f' k h hk h0 (sx hhs) (sx (sm k k (yfh) hk (yfh) hk)) (fun i a b => sx (sm i k (yb8 a) b (yfh) hk)) fun i j a b c d => ?_, fun ro st => ⟨ro, st, zh5 f' k h, s', f' k k, M', hs', hd', hf' k k (yfh) hk (yfh) hk, hn', hb', fun i j a b c d => ?_⟩⟩
      · have t1 := zcq (sm i j (yb8 a) b (yb8 c) d) (sm k k (yfh) hk (yfh) hk)
        have t2 := zcq (sm i k (yb8 a) b (yfh) hk) (sm k j (yfh) hk (yb8 c) d)
        unfold zbo
        exact yah t1 t2
      · unfold zh5
        rw [if_pos (yfq a), if_pos (yfq c), hf' i j (yfp a) b (yfp c) d, hf' k k (yfh) hk (yfh) hk, hf' i k (yfp a) b (yfh) hk, hf' k j (yfh) hk (yfp c) d, zs7 (yfo hn c d), ← hh', Int.mul_fdiv_cancel _ h0]
     have kk : ∀ f' : Nat → Nat → Int, zh5 f' k h k k = f' k k := fun f' => by unfold zh5; rw [if_neg (yfn)]
     have x1 : ∀ f' : Nat → Nat → Int, idx (zdC n f') (k : Int) = some (.o (zfI n (f' k))) := fun f' => zgV hk (yfm hn)
     have x2 : ∀ g : Nat → Int, idx (zfI n g) (k : Int) = some (.f (.int (g k))) := fun g => zgU hk (yfm hn)
     by_cases e : r = k
     · subst e
       obtain ⟨hb1, hP⟩ := main f M s hs hdet hh hbM hfM hne
       have c1 : (!((r : Int) == (r : Int))) = false := by simp
       have kk' := kk f
       refine ⟨sDt n A (some (.f (.int r))) (zh5 f r h) s (f r r) (some (.f (.int r))), ?_, hP _ _⟩
       clear hb hr hT hfM hbM hh hdet hd hl main hP kk hs hne hkr hC
       dsimp only [sDt, A]
       simp -implicitDefEqProofs only [r_s, zdD, zct, a_n, zc5, zaB, String.reduceBEq, zsm, zd9, q_n, zsq, zdH, zlU, zsp, zlV, kR_s, zsn, zea, zso, zdb, zjb, zaV, zbx, zes, zaY, e_n, zeQ, zab, zaZ, zaw, ztP, zaT, zvr, zaU, zcW, zer, zlW, beq_self_eq_true, Bool.not_true, zss, zdp, zii, zfY, znF, q_s, Bool.and_true, e_s, p_s, zjc, zej, zbN, zfZ, *]
     · have hkr' : k < r := by exact yfl hkr e
       obtain ⟨hb1, hP⟩ := main (zaR f k r) (zaR M k r) (-s) (ybB hs) (by rw [zuR hn hkr' hrn, Int.neg_mul_neg]; exact hdet) (by rw [zs8 (yfk hn hk) hkr']; exact hh) (fun i j a b => by
        unfold zaR
        split
        · exact hbM r j hrn b
        · split
          · exact hbM k j hk b
          · exact hbM i j a b) (fun i j a b c d => by
        rw [zqZ (yfj hn c d) hkr' a]
        unfold zaR
        split
        · exact hfM r j (yfi hkr) hrn c d
        · split
          · exact hfM k j (yfh) hk c d
          · exact hfM i j a b c d) (by unfold zaR; rw [if_pos rfl]; exact hne)
       have c1 : (!((r : Int) == (k : Int))) = true := by simp; exact yfg hkr'
       have kk' := kk (zaR f k r)
       have sw : ∀ (i : Nat) (p p' q1 q2 q3 q4 q5 q6 q7 q8 q9 qa qb qc : Pos) (k1 k2 : Nat), zrq C (ER C (i + 1)) zbm (.Tuple [.Subscript (.Name "found" q1) (.Name "row" q2) q3, .Subscript (.Name "found" q4) (.Name "step" q5) q6] k1 p) (.Tuple [.Subscript (.Name "found" q7) (.Name "step" q8) q9, .Subscript (.Name "found" qa) (.Name "row" qb) qc] k2 p') (sDt n A (some (.f (.int r))) f s h (some (.f (.int k)))) = some (sDt n A (some (.f (.int r))) (zaR f k r) s h (some (.f (.int k)))) := by
        intros
        dsimp only [sDt, A]
        rw [a_swap (r := (r : Int)) (s := (k : Int)) (vs := zdC n f) (X := .o (zfI n (f r))) (Y := .o (zfI n (f k))) rfl (by rw [zbI]; rfl) (by rw [zmP, zeQ]) (by rw [zmP, zdH]) (by rw [zdH]) (by rw [zeQ]) (zd9 _ _ _ _ _ _) ⟨by exact yff, by rw [zfh]; exact yfe hrn, by exact yff, by rw [zfh]; exact yfe hk⟩ (by rw [zfh]; exact hf) (zi3 hrn) (zi3 hk), zea]
        show some (zbv _ (some (V.o (((zdC n f).set r _).set k _))) _ _ _ _) = _
        rw [zuU hrn hk]
       refine ⟨sDt n A (some (.f (.int r))) (zh5 (zaR f k r) k h) (-s) (zaR f k r k k) (some (.f (.int k))), ?_, hP _ _⟩
       clear hb hr hT hfM hbM hh hdet hd hl main hP kk hs hne hkr hkr' e hC
       dsimp only [sDt, A] at sw ⊢
       generalize zaR f k r = f' at *
       simp -implicitDefEqProofs only [r_s, zdD, zct, a_n, zc5, zaB, String.reduceBEq, zsm, zd9, q_n, zsq, zdH, zlU, zsp, zlV, kR_s, zsn, zea, zso, zdb, zjb, zaV, zbx, zes, zaY, e_n, zeQ, zab, zaZ, zaw, ztP, zaT, zvr, zaU, zcW, zer, zlW, zgd, q_u, e_u, p_u, zkh, zeh, zbN, zki, zss, zdp, zii, zfY, znF, q_s, Bool.and_true, e_s, p_s, zjc, zej, zfZ, *]
 · rintro τ ⟨ro, st, f, s, h, M, hs, hdet, hh, h0, hbM, hf⟩
   rw [zaD] at hh
   have m1 : zbh .Mult s h = some (s * h) := zbT (.inl (by rcases hs with rfl | rfl <;> decide))
   have hd : znl (ent rows) n = s * h := by
    rw [← hdet, hh]
    obtain ⟨k, rfl⟩ := Nat.exists_eq_succ_of_ne_zero (Nat.ne_of_gt hn0)
    rfl
   rw [hd]
   refine zlm (σ1 := sDt n A ro f s h st) ?_
   clear hb hr hT hf hbM hh hdet hd
   dsimp only [sDt, A]
   simp -implicitDefEqProofs only [zcl, q_b, q_n, Bool.and_true, e_b, p_b, zkh, zfY, za3, za4, zbN, zby, zaw, *]
noncomputable def pmV (n : Nat) (L : Nat → Nat → List Int) : List V := (List.range n).map fun i => .o ((List.range n).map fun j => .f (D.ints (L i j)))
noncomputable def pmR (m : Nat) (N : Nat → List Int) : D := .lst ((List.range m).map fun j => D.ints (N j))
noncomputable def pmD (n : Nat) (L : Nat → Nat → List Int) : D := .lst ((List.range n).map fun i => pmR n (L i))
noncomputable def Pm (n : Nat) (L : Nat → Nat → List Int) (v : V) : Prop := v = .o (pmV n L) ∨ v = .f (pmD n L)
theorem zwH {n : Nat} {L : Nat → Nat → List Int} : V.frzL (pmV n L) = (List.range n).map fun i => pmR n (L i) := by
 unfold pmV pmR
 generalize List.range n = l
 have : ∀ l' : List Nat, V.frzL (l'.map fun i => V.o (l.map fun j => .f (D.ints (L i j)))) = l'.map fun i => D.lst (l.map fun j => D.ints (L i j)) := by
  intro l'
  induction l' with
  | nil => rfl
  | cons i l' ih =>
   rw [List.map_cons, zbj, zdR, ih, List.map_cons]
   congr 2
   have := zbq (l.map fun j => D.ints (L i j))
   rw [List.map_map] at this
   exact this
 exact this l
theorem Pm.len {n : Nat} {L : Nat → Nat → List Int} {v : V} (h : Pm n L v) (hn : n ≤ 100) : pLen (some v) = some (.f (.int n)) := by
 have hf : zaI n = true := zae (yew hn)
 rcases h with rfl | rfl
 · have e : (pmV n L).length = n := by unfold pmV; rw [List.length_map, List.length_range]
   rw [zfv (by rw [e]; exact hf), e]
 · unfold pmD
   rw [zbw (by rw [List.length_map, List.length_range]; exact hf), List.length_map, List.length_range]
theorem zgu {α : Type} {n i : Nat} {g : Nat → α} (h : i < n) (hn : n ≤ 100) : idx ((List.range n).map g) (i : Int) = some (g i) := by
 rw [zez _ _ (yfd h hn), List.getElem?_map, List.getElem?_range h]; rfl
theorem Pm.at {n i j : Nat} {L : Nat → Nat → List Int} {v : V} (h : Pm n L v) (hn : n ≤ 100) (hi : i < n) (hj : j < n) : zpt (zpt (some v) (some (.f (.int (i : Int))))) (some (.f (.int (j : Int)))) = some (.f (D.ints (L i j))) := by
 rcases h with rfl | rfl
 · unfold pmV
   rw [zej, zgu hi hn, zej, zgu hj hn]
 · unfold pmD pmR
   rw [zei, zgu hi hn, znD, zei, zgu hj hn, znD]
theorem Pm.name {sc : Scope} {x : Str} {σ τ : St} {n : Nat} {L : Nat → Nat → List Int} {v : V} (h : Pm n L v) (hs : σ.set sc x (.f (pmD n L)) = some τ) (he : v = .f (pmD n L) → σ = τ) : zfq sc x σ (some v) = some (.f (pmD n L), τ) := by
 rcases h with rfl | rfl
 · rw [zbu, zwH]
   show eSet (.f (pmD n L)) (σ.set sc x (.f (pmD n L))) = _
   rw [hs]; rfl
 · rw [zab, he rfl]
noncomputable def Cd (C : Cfg) (n : Nat) (A : Nat → Nat → Nat → List Int) : Prop := ∀ k i j, k + 1 < n → i + k + 1 < n → j + k + 1 < n → ∃ pq rs up su, C.T "zmul" [D.ints (A (k + 1) i j), D.ints (A (k + 1) (i + 1) (j + 1))] = some (D.ints pq) ∧
 C.T "zmul" [D.ints (A (k + 1) i (j + 1)), D.ints (A (k + 1) (i + 1) j)] = some (D.ints rs) ∧ C.T "zraise" [D.ints rs, .int 1] = some (D.ints up) ∧ C.T "zadd" [D.ints pq, D.ints up] = some (D.ints su) ∧ C.T "zexact" [D.ints su, D.ints (A k (i + 1) (j + 1))] = some (D.ints (A (k + 2) i j))
noncomputable def zrw (N : Nat → List Int) (t : Nat) : List V := (List.range t).map fun j => .f (D.ints (N j))
theorem rowW_s {N : Nat → List Int} {t : Nat} : zrw N t ++ [.f (D.ints (N t))] = zrw N (t + 1) := by unfold zrw; rw [List.range_succ, List.map_append]; rfl
theorem zuW {N : Nat → List Int} {t : Nat} : (zrw N t).length = t := by unfold zrw; rw [List.length_map, List.length_range]
theorem zuX {N : Nat → List Int} {t : Nat} : V.frzL (zrw N t) = (List.range t).map fun j => D.ints (N j) := zhY _
noncomputable def zk7 (m : Nat) (N : Nat → Nat → List Int) (t : Nat) : List V := (List.range t).map fun i => .f (pmR m (N i))
theorem latV_s {m : Nat} {N : Nat → Nat → List Int} {t : Nat} : zk7 m N t ++ [.f (pmR m (N t))] = zk7 m N (t + 1) := by unfold zk7; rw [List.range_succ, List.map_append]; rfl
theorem zuY {m : Nat} {N : Nat → Nat → List Int} {t : Nat} : (zk7 m N t).length = t := by unfold zk7; rw [List.length_map, List.length_range]
theorem zuZ {m : Nat} {N : Nat → Nat → List Int} {t : Nat} : V.frzL (zk7 m N t) = (List.range t).map fun i => pmR m (N i) := zhY _
noncomputable def zoE : List (Str × NameKind) := [("a", .cell), ("row", .local), ("ahead", .local), ("here", .local), ("later", .local), ("i", .local), ("j", .local), ("along", .local), ("across", .local), ("told", .local), ("range", .globalImplicit), ("len", .globalImplicit), ("zmul", .globalImplicit), ("zexact", .globalImplicit), ("zadd", .globalImplicit), ("zraise", .globalImplicit)]
section
variable {C : Cfg} {i : Nat} {p : Pos} (a b c d e f g h j k : Option V)
@[irreducible] noncomputable def zak : St := ⟨[("row", a), ("ahead", b), ("here", c), ("later", d), ("i", e), ("j", f), ("along", g), ("across", h), ("told", j)], [("a", k)]⟩
theorem ztg : ⟨[("row", a), ("ahead", b), ("here", c), ("later", d), ("i", e), ("j", f), ("along", g), ("across", h), ("told", j)], [("a", k)]⟩ = zak a b c d e f g h j k := by unfold zak; rfl
theorem zk8 : (zak a b c d e f g h j k).k = [(("a" : Str), k)] := by unfold zak; rfl
theorem zfk : ∃ sc : Scope, sc.names = zoE ∧ sc.kind = .function ∧ (zap "_law_condensed").map (·.scope) = some sc := ⟨_, rfl, rfl, rfl⟩
noncomputable def zao : Scope := Classical.choose zfk
theorem zaP : zao.names = zoE := (Classical.choose_spec zfk).1
theorem zq1 : zao.kind = .function := (Classical.choose_spec zfk).2.1
theorem zq2 {dr : DefRec} (h : zap "_law_condensed" = some dr) : dr.scope = zao := zdv h (Classical.choose_spec zfk).2.2
theorem zu0 : zao.names.lookup ("a" : Str) = some .cell := by rw [zaP]; rfl
theorem zfl : zao.names.lookup ("row" : Str) = some .local := by rw [zaP]; rfl
theorem zhq : zao.names.lookup ("ahead" : Str) = some .local := by rw [zaP]; rfl
theorem zf0 : zao.names.lookup ("here" : Str) = some .local := by rw [zaP]; rfl
theorem zdq : zao.names.lookup ("later" : Str) = some .local := by rw [zaP]; rfl
theorem zpN : zao.names.lookup ("i" : Str) = some .local := by rw [zaP]; rfl
theorem zpO : zao.names.lookup ("j" : Str) = some .local := by rw [zaP]; rfl
theorem zhr : zao.names.lookup ("along" : Str) = some .local := by rw [zaP]; rfl
theorem zgv : zao.names.lookup ("across" : Str) = some .local := by rw [zaP]; rfl
theorem zjd : zao.names.lookup ("told" : Str) = some .local := by rw [zaP]; rfl
theorem zmQ : zao.names.lookup ("range" : Str) = some .globalImplicit := by rw [zaP]; rfl
theorem zq3 : zao.names.lookup ("len" : Str) = some .globalImplicit := by rw [zaP]; rfl
theorem zoF : zao.names.lookup ("zmul" : Str) = some .globalImplicit := by rw [zaP]; rfl
theorem zk9 : zao.names.lookup ("zexact" : Str) = some .globalImplicit := by rw [zaP]; rfl
theorem zoG : zao.names.lookup ("zadd" : Str) = some .globalImplicit := by rw [zaP]; rfl
theorem zla : zao.names.lookup ("zraise" : Str) = some .globalImplicit := by rw [zaP]; rfl
theorem zpP : (ER C (i + 1)).p zao (.Name "a" p) (zak a b c d e f g h j k) = k := zad rfl (by unfold zak; exact (zin zu0).trans rfl)
theorem zq4 : (ER C (i + 1)).p zao (.Name "row" p) (zak a b c d e f g h j k) = a := zad rfl (by unfold zak; exact (zam zfl).trans rfl)
theorem zkj (w : V) : St.set zao "row" w (zak a b c d e f g h j k) = some (zak (some w) b c d e f g h j k) := (by unfold zak; exact (zax zfl rfl).trans rfl)
theorem zq5 : St.get zao "row" (zak a b c d e f g h j k) = a := (by unfold zak; exact (zam zfl).trans rfl)
theorem zq6 (hp : C.pins = []) (w : V) : St.put C zao "row" w (zak a b c d e f g h j k) = some (zak (some w) b c d e f g h j k) := zan (by rw [hp]; rfl) (by unfold zak; exact (zax zfl rfl).trans rfl)
theorem zmR : (ER C (i + 1)).p zao (.Name "ahead" p) (zak a b c d e f g h j k) = b := zad rfl (by unfold zak; exact (zam zhq).trans rfl)
theorem zhs (hp : C.pins = []) (w : V) : St.put C zao "ahead" w (zak a b c d e f g h j k) = some (zak a (some w) c d e f g h j k) := zan (by rw [hp]; rfl) (by unfold zak; exact (zax zhq rfl).trans rfl)
theorem zcb : (ER C (i + 1)).p zao (.Name "here" p) (zak a b c d e f g h j k) = c := zad rfl (by unfold zak; exact (zam zf0).trans rfl)
theorem zoH (w : V) : St.set zao "here" w (zak a b c d e f g h j k) = some (zak a b (some w) d e f g h j k) := (by unfold zak; exact (zax zf0 rfl).trans rfl)
theorem zje (hp : C.pins = []) (w : V) : St.put C zao "here" w (zak a b c d e f g h j k) = some (zak a b (some w) d e f g h j k) := zan (by rw [hp]; rfl) (by unfold zak; exact (zax zf0 rfl).trans rfl)
theorem zmS : (ER C (i + 1)).p zao (.Name "later" p) (zak a b c d e f g h j k) = d := zad rfl (by unfold zak; exact (zam zdq).trans rfl)
theorem zht (w : V) : St.set zao "later" w (zak a b c d e f g h j k) = some (zak a b c (some w) e f g h j k) := (by unfold zak; exact (zax zdq rfl).trans rfl)
theorem zmT : St.get zao "later" (zak a b c d e f g h j k) = d := (by unfold zak; exact (zam zdq).trans rfl)
theorem zmU (hp : C.pins = []) (w : V) : St.put C zao "later" w (zak a b c d e f g h j k) = some (zak a b c (some w) e f g h j k) := zan (by rw [hp]; rfl) (by unfold zak; exact (zax zdq rfl).trans rfl)
theorem zu1 : (ER C (i + 1)).p zao (.Name "i" p) (zak a b c d e f g h j k) = e := zad rfl (by unfold zak; exact (zam zpN).trans rfl)
theorem zu2 (hp : C.pins = []) (w : V) : St.put C zao "i" w (zak a b c d e f g h j k) = some (zak a b c d (some w) f g h j k) := zan (by rw [hp]; rfl) (by unfold zak; exact (zax zpN rfl).trans rfl)
theorem zu3 : (ER C (i + 1)).p zao (.Name "j" p) (zak a b c d e f g h j k) = f := zad rfl (by unfold zak; exact (zam zpO).trans rfl)
theorem zu4 (hp : C.pins = []) (w : V) : St.put C zao "j" w (zak a b c d e f g h j k) = some (zak a b c d e (some w) g h j k) := zan (by rw [hp]; rfl) (by unfold zak; exact (zax zpO rfl).trans rfl)
theorem zmV : (ER C (i + 1)).p zao (.Name "along" p) (zak a b c d e f g h j k) = g := zad rfl (by unfold zak; exact (zam zhr).trans rfl)
theorem zmW (hp : C.pins = []) (w : V) : St.put C zao "along" w (zak a b c d e f g h j k) = some (zak a b c d e f (some w) h j k) := zan (by rw [hp]; rfl) (by unfold zak; exact (zax zhr rfl).trans rfl)
theorem zlb : (ER C (i + 1)).p zao (.Name "across" p) (zak a b c d e f g h j k) = h := zad rfl (by unfold zak; exact (zam zgv).trans rfl)
theorem zlc (hp : C.pins = []) (w : V) : St.put C zao "across" w (zak a b c d e f g h j k) = some (zak a b c d e f g (some w) j k) := zan (by rw [hp]; rfl) (by unfold zak; exact (zax zgv rfl).trans rfl)
theorem zoI : (ER C (i + 1)).p zao (.Name "told" p) (zak a b c d e f g h j k) = j := zad rfl (by unfold zak; exact (zam zjd).trans rfl)
theorem zoJ (hp : C.pins = []) (w : V) : St.put C zao "told" w (zak a b c d e f g h j k) = some (zak a b c d e f g h (some w) k) := zan (by rw [hp]; rfl) (by unfold zak; exact (zax zjd rfl).trans rfl)
end
theorem zeR : zar zao "range" = true := zaz zmQ
theorem zdI : zar zao "len" = true := zaz zq3
theorem zoK {C : Cfg} (hr : C.refs = refs) : zch C zao "zmul" = true := zbl hr zoF rfl
theorem zld {C : Cfg} (hr : C.refs = refs) : zch C zao "zexact" = true := zbl hr zk9 rfl
theorem zoL {C : Cfg} (hr : C.refs = refs) : zch C zao "zadd" = true := zbl hr zoG rfl
theorem zle {C : Cfg} (hr : C.refs = refs) : zch C zao "zraise" = true := zbl hr zla rfl
inductive CnA (X : Option V) (A : Nat → Nat → Nat → List Int) (n m : Nat) : St → Prop
 | mk (k : Nat) (v w : V) (o1 o2 o3 o4 o5 o6 o7 : Option V) (e : k + m + 1 = n) (h1 : Pm (m + 2) (A k) v) (h2 : Pm (m + 1) (A (k + 1)) w) : CnA X A n m (zak o1 (some v) (some w) o2 o3 o4 o5 o6 o7 X)
inductive CnB (X v w r : Option V) : St → Prop
 | mk (o1 o3 o4 o5 o6 o7 : Option V) : CnB X v w r (zak o1 v w r o3 o4 o5 o6 o7 X)
inductive CnC (X r v w l i : Option V) : St → Prop
 | mk (o4 o5 o6 o7 : Option V) : CnC X r v w l i (zak r v w l i o4 o5 o6 o7 X)
theorem zq7 {C : Cfg} {rows : List (List Int)} {n : Nat} {A : Nat → Nat → Nat → List Int} (hC : Cg C) (hT : Cd C n A) (hz : ∀ xs : List Int, xs.length < 900 → C.T "ztrim" [D.ints xs] = some (D.ints (trim xs))) (hn : n ≤ 10) (hn0 : 0 < n) (hl : rows.length = n) (hr : ∀ i, i < n → (rows.getD i []).length = n)
 (h0 : ∀ i j, A 0 i j = [1]) (h1 : ∀ i j, i < n → j < n → A 1 i j = trim [ent rows i j]) : zeq C "_law_condensed" [.lst (rows.map D.ints)] (D.ints (A n 0 0)) := by
 refine ⟨_, rfl, rfl, ?_⟩
 refine zbU zoE zao _ (zq2 rfl) zaP (ztg none none none none none none none none none (some (.f (.lst (rows.map D.ints))))) ?_
 have hCp := hC.pins
 have hCr := hC.refs
 have hf : zaI n = true := zae (yeb hn)
 let X : Option V := some (.f (.lst (rows.map D.ints)))
 refine zj4 (σ1 := zak none (some (.o (pmV (n + 1) fun _ _ => [1]))) none none none none none none none X) ?_ (zj4 (σ1 := zak none (some (.o (pmV (n + 1) fun _ _ => [1]))) (some (.o (pmV n fun i j => trim [ent rows i j]))) none none none none none none X) ?_ (zsE (zhZ (CnA X A n) ?_ (n := n - 1) (by rw [hC.W]; exact yfc hn) ⟨0, _, _, none, none, none, none, none, none, none, by exact ybX hn0, .inl ?_, .inl ?_⟩) ?_))
 · have e1 : (n : Int) + 1 = ((n + 1 : Nat) : Int) := by exact ye4
   have e2 : n + 1 ≤ 100000 := by exact yfb hn
   clear hT hz hr h0 h1
   dsimp only [X]
   simp -implicitDefEqProofs only [zct, a_n, zbR, *]
   rw [zbe (ds := zb6 0 (n + 1)) (σ1 := zak none none none none none none none none none (some (.f (.lst (rows.map D.ints))))) (fun _ => V.o (List.replicate (n + 1) (V.f (D.lst [D.int 1])))) hC.pins (zaH ⟨_, zaP, rfl⟩) (by rw [zk8]; rfl) rfl rfl (zav rfl) (by decide)]
   · rw [zaD]
     have e3 : (List.range (n + 1)).map (fun _ => V.o (List.replicate (n + 1) (V.f (D.lst [D.int 1])))) = pmV (n + 1) fun _ _ => [1] := by
      unfold pmV
      rw [List.map_const', List.map_const', List.map_const', List.length_range]; rfl
     rw [e3]
     simp -implicitDefEqProofs only [zdb, zhs, zaV, *]
   · simp -implicitDefEqProofs only [zeR, zqa, q_b, za7, decide_true, q_n, Bool.and_true, q_c, e_b, p_b, zdI, zbK, zpP, List.length_map, zbw, p_c, za3, zaG, za4, zbN, zbD, zgL, *]
   · rw [zaD]; exact zae (yfa e2)
   · intro j d hd
     obtain ⟨rfl, hj⟩ := zaS hd
     rw [zk8]
     have h1 := @zqc C
     generalize hsc : zaF _ _ = sc'
     have e4 : ∀ (i : Nat) (p : Pos) (ρ : zbt), (ER C (i + 1)).p sc' (.Name "a" p) ⟨ρ, [("a", some (.f (.lst (rows.map D.ints))))]⟩ = some (.f (.lst (rows.map D.ints))) := fun i p ρ => zrv (by rw [← hsc]; exact zb9 zq1 (by rw [zaP]; rfl) rfl) rfl rfl
     have e5 : zar sc' "len" = true := zaz (by rw [← hsc]; exact zdw rfl)
     have e6 := @zg7
     clear hsc hd
     simp -implicitDefEqProofs only [q_b, zew, za7, decide_true, q_n, Bool.and_true, q_c, zj0, zg8, zbd, e_c, zaJ, za8, zaK, zgc, zvo, e_b, p_b, zbK, List.length_map, zbw, p_c, za3, zaG, za4, zbN, zbD, zdR, zbj, zaw, zbb, *]
 · clear hT h0 h1
   dsimp only [X]
   simp -implicitDefEqProofs only [zct, a_n, zbR, *]
   rw [zbe (ds := rows.map D.ints) (σ1 := zak none (some (.o (pmV (n + 1) fun _ _ => [1]))) none none none none none none none (some (.f (.lst (rows.map D.ints))))) (fun i => V.o ((List.range n).map fun j => .f (D.ints (trim [ent rows i j])))) hC.pins (zaH ⟨_, zaP, rfl⟩) rfl rfl rfl (zav rfl) (by decide)]
   · rw [List.length_map, hl]
     simp -implicitDefEqProofs only [zdb, zje, zaV, *]
     rfl
   · simp -implicitDefEqProofs only [i_n, e_n, zpP, zab, List.length_map, zdc, zll, *]
   · rw [List.length_map, hl]; exact hf
   · intro i d hd
     obtain ⟨hi, rfl⟩ := zi8 hd
     have hlr : (rows.getD i []).length = n := hr i (ye9 hl hi)
     have h1 := @zqc C
     rw [show ent rows i = fun j => (rows.getD i []).getD j 0 from rfl]
     generalize rows.getD i [] = row at *
     generalize hsc : zaF _ _ = sc'
     have e1 : sc'.names.lookup ("row" : Str) = some .local := by rw [← hsc]; exact zav rfl
     have e2 : sc'.kind = .function := by rw [← hsc]; rfl
     rw [zk8, zbR]
     rw [zbe (ds := row.map D.int) (σ1 := ⟨[(".0", none), ("row", some (.f (D.ints row)))], [("a", some (.f (.lst (rows.map D.ints))))]⟩) (fun j => V.f (D.ints (trim [row.getD j 0]))) hC.pins (zaH ⟨_, rfl, rfl⟩) rfl rfl rfl (zav rfl) (by decide)]
     · rw [List.length_map, hlr]
     · clear hsc hd hr
       simp -implicitDefEqProofs only [i_n, e_n, zaB, String.reduceBEq, zab, List.length_map, zdc, zll, *]
     · rw [List.length_map, hlr]; exact hf
     · intro j d hd
       obtain rfl := zbL hd
       have ht := hz [row.getD j 0] (by show 1 < 900; decide)
       generalize hsc2 : zaF _ _ = sc2
       have g1 : sc2.names.lookup ("number" : Str) = some .local := by rw [← hsc2]; exact zav rfl
       have g2 : zch C sc2 "ztrim" = true := zbl hC.refs (by rw [← hsc2]; exact zdw rfl) rfl
       have g3 : D.ints [row.getD j 0] = .lst [D.int (row.getD j 0)] := rfl
       rw [g3] at ht
       clear hsc2 hsc hd hr hz
       simp -implicitDefEqProofs only [zbS, zbd, zg8, e_n, zaB, String.reduceBEq, zab, zaJ, za8, zaK, zgc, zhX, zbj, zdR, zaw, zbb, zcV, *]
 · rintro m σ ⟨k, v, w, o1, o2, o3, o4, o5, o6, o7, hk, hv, hw⟩
   have lw := hw.len (ye1 hn hk)
   by_cases hm0 : m = 0
   · left
     refine ⟨?_, hm0⟩
     have c1 : decide (((m + 1 : Nat) : Int) > 1) = false := by rw [decide_eq_false_iff_not]; exact ye8 hm0
     clear hT hz hr h0 h1 hv hw hm0
     dsimp only [X]
     simp -implicitDefEqProofs only [zaY, za7, decide_true, q_n, Bool.and_true, zck, zdI, zbK, zcb, zbN, zaZ, zaw, e_c, zaT, zpz, zaU, *]
   · right
     have c1 : decide (((m + 1 : Nat) : Int) > 1) = true := by rw [decide_eq_true_eq]; exact ye7 hm0
     refine ⟨?_, ?_⟩
     · clear hT hz hr h0 h1 hv hw hm0
       dsimp only [X]
       simp -implicitDefEqProofs only [zaY, za7, decide_true, q_n, Bool.and_true, zck, zdI, zbK, zcb, zbN, zaZ, zaw, e_c, zaT, zpz, zaU, *]
     have em : ((m + 1 : Nat) : Int) - 1 = (m : Int) := by exact ye6
     have hm1 : m ≤ 100000 := by exact ye5 hn hk
     refine zru (zfx (σ1 := zak o1 (some v) (some w) (some (.o (zk7 m (A (k + 2)) 0))) o3 o4 o5 o6 o7 X) ?_ (zgN (zcI (ds := zb6 0 m) (pr := false) (σ2 := zak o1 (some v) (some w) (some (.o (zk7 m (A (k + 2)) 0))) o3 o4 o5 o6 o7 X)
      (fun i σ => CnB X (some v) (some w) (some (.o (zk7 m (A (k + 2)) i))) σ) ?_ ⟨_, _, _, _, _, _⟩ ?_) ?_))
     · clear hT hz hr h0 h1 hv hw hm0
       dsimp only [X]
       simp -implicitDefEqProofs only [zct, a_n, zg8, za8, zjL, zdb, zmU, zaV, *]
       rfl
     · clear hT hz hr h0 h1 hv hw hm0
       dsimp only [X]
       simp -implicitDefEqProofs only [zeR, zqa, q_b, za7, decide_true, q_n, Bool.and_true, q_c, e_b, p_b, zdI, zbK, zcb, p_c, za3, zaN, za4, zbN, zbD, zgL, *]
     · rintro i d τ hd ⟨o1, o3, o4, o5, o6, o7⟩
       obtain ⟨rfl, hi⟩ := zaS hd
       rw [Int.zero_add]
       have ei : (i : Int) + 1 = ((i + 1 : Nat) : Int) := by exact ye4
       have oka : ∀ (x : Str) (a c : Pos), zao.names.lookup x = some .local → (x == ("__debug__" : Str)) = false → (a.endLine == c.line) = true → zlY zao x "append" a c = true := fun x a c h1 h2 h3 => by
        unfold zlY
        rw [h1, h2, h3]; rfl
       have lk1 : zao.names.lookup ("row" : Str) = some .local := by rw [zaP]; rfl
       have lk2 : zao.names.lookup ("later" : Str) = some .local := by rw [zaP]; rfl
       refine ⟨zak o1 (some v) (some w) (some (.o (zk7 m (A (k + 2)) i))) (some (.f (.int i))) o4 o5 o6 o7 X, ?_, zru (zfx (σ1 := zak (some (.o (zrw (A (k + 2) i) 0))) (some v) (some w) (some (.o (zk7 m (A (k + 2)) i))) (some (.f (.int i))) o4 o5 o6 o7 X) ?_ (zgN (zcI (ds := zb6 0 m) (pr := false) (σ2 := zak (some (.o (zrw (A (k + 2) i) 0))) (some v) (some w) (some (.o (zk7 m (A (k + 2)) i))) (some (.f (.int i))) o4 o5 o6 o7 X)
        (fun j σ => CnC X (some (.o (zrw (A (k + 2) i) j))) (some v) (some w) (some (.o (zk7 m (A (k + 2)) i))) (some (.f (.int i))) σ) ?_ ⟨_, _, _, _⟩ ?_) ?_))⟩
       · clear hT hz hr h0 h1 hv hw hm0 hd
         dsimp only [X]
         simp -implicitDefEqProofs only [zdu, zu2, *]
       · clear hT hz hr h0 h1 hv hw hm0 hd
         dsimp only [X]
         simp -implicitDefEqProofs only [zct, a_n, zg8, za8, zjL, zdb, zq6, zaV, *]
         rfl
       · clear hT hz hr h0 h1 hv hw hm0 hd
         dsimp only [X]
         simp -implicitDefEqProofs only [zeR, zqa, q_b, za7, decide_true, q_n, Bool.and_true, q_c, e_b, p_b, zdI, zbK, zcb, p_c, za3, zaN, za4, zbN, zbD, zgL, *]
       · rintro j d τ hd ⟨o4, o5, o6, o7⟩
         obtain ⟨rfl, hj⟩ := zaS hd
         rw [Int.zero_add]
         have ej : (j : Int) + 1 = ((j + 1 : Nat) : Int) := by exact ye4
         obtain ⟨pq, rs, up, su, t1, t2, t3, t4, t5⟩ := hT k i j (ye3 hk hi) (ye2 hk hi) (ye2 hk hj)
         have w1 := hw.at (i := i) (j := j) (ye1 hn hk) (yeZ hi) (yeZ hj)
         have w2 := hw.at (i := i + 1) (j := j + 1) (ye1 hn hk) (ye0 hi) (ye0 hj)
         have w3 := hw.at (i := i) (j := j + 1) (ye1 hn hk) (yeZ hi) (ye0 hj)
         have w4 := hw.at (i := i + 1) (j := j) (ye1 hn hk) (ye0 hi) (yeZ hj)
         have w5 := hv.at (i := i + 1) (j := j + 1) (yeY hn hk) (yeX hi) (yeX hj)
         have hfr : zaI (zrw (A (k + 2) i) j).length = true := by rw [zuW]; exact zae (yeW hm1 hj)
         have er := rowW_s (N := A (k + 2) i) (t := j)
         generalize A (k + 2) i j = nn at *
         refine ⟨zak (some (.o (zrw (A (k + 2) i) j))) (some v) (some w) (some (.o (zk7 m (A (k + 2)) i))) (some (.f (.int i))) (some (.f (.int j))) o5 o6 o7 X, ?_, zak (some (.o (zrw (A (k + 2) i) (j + 1)))) (some v) (some w) (some (.o (zk7 m (A (k + 2)) i))) (some (.f (.int i))) (some (.f (.int j))) (some (.f (D.ints pq))) (some (.f (D.ints rs))) (some (.f (D.ints nn))) X, ?_, _, _, _, _⟩
         · clear hT hz hr h0 h1 hv hw hm0 hd
           dsimp only [X]
           simp -implicitDefEqProofs only [zdu, zu4, *]
         · clear hT hz hr h0 h1 hv hw hm0 hd
           dsimp only [X]
           simp -implicitDefEqProofs only [r_s, zdD, zct, ne_eq, zcX, String.reduceEq, not_false_eq_true, zex, Bool.and_false, zrt, zbd, zoK, zbS, q_s, q_n, Bool.and_true, e_s, p_s, zcb, zu1, zu3, zbN, zaJ, q_b, q_c, p_b, p_c, za3, zaG, za4, za8, zaK, zhX, zbj, zaw, zbb, zcV, List.length_cons, List.length_nil, bl_0, bl_s, zpB, zb3, zmW, zbC, zlc, zcd, zaV, zbx, a_n, zld, zoL, e_n, zmV, zab, zle, zlb, e_c, zmR, zdb, zoJ, zes, zaY, zoI, zaZ, ztP, zaT, zvs, zaU, zcW, zer, zaB, String.reduceBEq, beq_self_eq_true, zst, zq5, zij, zik, zil, zkj, *]
       · rintro σ ⟨o4, o5, o6, o7⟩
         rw [zaD]
         have hfr : zaI (zk7 m (A (k + 2)) i).length = true := by rw [zuY]; exact zae (yeW hm1 hi)
         have er := latV_s (m := m) (N := A (k + 2)) (t := i)
         have ef : D.lst ((List.range m).map fun j => D.ints (A (k + 2) i j)) = pmR m (A (k + 2) i) := rfl
         have rf := zuX (N := A (k + 2) i) (t := m)
         refine zdd ⟨zak (some (.f (pmR m (A (k + 2) i)))) (some v) (some w) (some (.o (zk7 m (A (k + 2)) (i + 1)))) (some (.f (.int i))) o4 o5 o6 o7 X, ?_, _, _, _, _, _, _⟩
         clear hT hz hr h0 h1 hv hw hm0 hd
         dsimp only [X]
         simp -implicitDefEqProofs only [zaB, String.reduceBEq, beq_self_eq_true, zst, zmT, zij, e_n, zq4, zbu, zkj, zcs, zik, zil, zht, zaV, *]
     · rintro σ ⟨o1, o3, o4, o5, o6, o7⟩
       rw [zaD]
       have nw : zfq zao "here" (zak o1 (some v) (some w) (some (.o (zk7 m (A (k + 2)) m))) o3 o4 o5 o6 o7 X) (some w) = some (.f (pmD (m + 1) (A (k + 1))), zak o1 (some v) (some (.f (pmD (m + 1) (A (k + 1))))) (some (.o (zk7 m (A (k + 2)) m))) o3 o4 o5 o6 o7 X) := hw.name (zoH ..) fun e => by rw [e]
       have lf := zuZ (m := m) (N := A (k + 2)) (t := m)
       have ld : D.lst ((List.range m).map fun i => pmR m (A (k + 2) i)) = pmD m (A (k + 2)) := rfl
       refine zdd ⟨zak o1 (some (.f (pmD (m + 1) (A (k + 1))))) (some (.f (pmD m (A (k + 2))))) (some (.f (pmD m (A (k + 2))))) o3 o4 o5 o6 o7 X, ?_, m - 1, by exact yeV hm0, k + 1, _, _, o1, _, o3, o4, o5, o6, o7, by exact yaX hk hm0, ?_, ?_⟩
       · clear hT hz hr h0 h1 hv hw hm0
         dsimp only [X] at nw ⊢
         simp -implicitDefEqProofs only [zct, ne_eq, zcX, String.reduceEq, not_false_eq_true, ca_n, zaB, String.reduceBEq, Bool.and_false, zrt, zbd, e_n, zcb, zaJ, zmS, zbu, zht, zcs, za8, zaK, List.length_cons, List.length_nil, bl_0, bl_s, zpB, zb3, zhs, zbC, zje, zcd, zaV, *]
       · rw [show m - 1 + 2 = m + 1 by exact yb1 hm0]; exact .inr rfl
       · rw [show m - 1 + 1 = m by exact yeU hm0]; exact .inr rfl
 · rw [show n - 1 + 2 = n + 1 by exact ybY hn0]
   congr 1
   unfold pmV
   simp only [h0]
 · rw [show n - 1 + 1 = n by exact ycM hn0]
   congr 1
   unfold pmV
   apply List.map_congr_left
   intro i hi
   congr 1
   apply List.map_congr_left
   intro j hj
   rw [h1 i j (List.mem_range.mp hi) (List.mem_range.mp hj)]
 · rintro σ ⟨k, v, w, o1, o2, o3, o4, o5, o6, o7, hk, hv, hw⟩
   refine zlm (σ1 := zak o1 (some v) (some w) o2 o3 o4 o5 o6 o7 X) ?_
   have e1 := hw.at (i := 0) (j := 0) (yeT) (yeS) (yeS)
   rw [show k + 1 = n by exact yeR hk] at e1
   have e2 : zpt (zpt (some w) (some (.f (.int 0)))) (some (.f (.int 0))) = some (.f (D.ints (A n 0 0))) := e1
   clear hT hz hr h0 h1 hv hw e1 hk
   dsimp only [X]
   simp -implicitDefEqProofs only [zcl, q_s, q_n, q_c, Bool.and_true, e_s, p_s, zcb, p_c, zbN, zby, zaw, *]
theorem zth {C : Cfg} {R : Rec} {sc scope : Scope} {σ σ1 : St} {elt iter iter2 : Expr} {x y : Str} {px py : Pos} {ds : List D} {e0 e1 : D} (v : D → D → V) (hp : C.pins = []) (h1 : zbZ scope sc = true) (h3 : (scope.names.all fun x => x.2 != .free || has x.1 σ.k) = true)
 (hl : zbi scope = [(".0" : Str), x, y]) (hc : zaO scope = []) (hkx : (zaF scope sc).names.lookup x = some .local) (hky : (zaF scope sc).names.lookup y = some .local) (hx : x ≠ ".0") (hy : y ≠ ".0") (hxy : x ≠ y) (hi : zb2 R sc iter σ = some ((ds, false), σ1)) (hf : ds.length ≤ 1000)
 (hi2 : ∀ (d : D) (u : Option V), d ∈ ds → zb2 R (zaF scope sc) iter2 ⟨[(".0", none), (x, some (.f d)), (y, u)], σ1.k⟩ = some (([e0, e1], false), ⟨[(".0", none), (x, some (.f d)), (y, u)], σ1.k⟩))
 (h : ∀ d e, d ∈ ds → e = e0 ∨ e = e1 → R.e (zaF scope sc) elt ⟨[(".0", none), (x, some (.f d)), (y, some (.f e))], σ1.k⟩ = some (v d e, ⟨[(".0", none), (x, some (.f d)), (y, some (.f e))], σ1.k⟩)) :
 zfo C R sc elt [⟨.Name x px, iter, [], 0⟩, ⟨.Name y py, iter2, [], 0⟩] scope σ = some (.o (ds.flatMap fun d => [v d e0, v d e1]), σ1) := by
 have hx' := Ne.symm hx
 have hy' := Ne.symm hy
 have pty : ∀ (d : D) (u : Option V) (e : D), zku C (zaF scope sc) false (.Name y py) e ⟨[(".0", none), (x, some (.f d)), (y, u)], σ1.k⟩ = some ⟨[(".0", none), (x, some (.f d)), (y, some (.f e))], σ1.k⟩ := fun d u e => by
  rw [zdu, zcY hp hky (by simp only [zcj]; simp)]
  simp only [upd, if_neg hy', if_neg hxy, if_true]
 have ptx : ∀ (d : D) (a u : Option V), zku C (zaF scope sc) false (.Name x px) d ⟨[(".0", none), (x, a), (y, u)], σ1.k⟩ = some ⟨[(".0", none), (x, some (.f d)), (y, u)], σ1.k⟩ := fun d a u => by
  rw [zdu, zcY hp hkx (by simp only [zcj]; simp)]
  simp only [upd, if_neg hx', if_true]
 have em : ∀ (d : D) (u : Option V), d ∈ ds → zpU C R (zaF scope sc) elt ⟨.Name y py, iter2, [], 0⟩ ⟨[(".0", none), (x, some (.f d)), (y, u)], σ1.k⟩ = some ([v d e0, v d e1], ⟨[(".0", none), (x, some (.f d)), (y, some (.f e1))], σ1.k⟩) := fun d u hd => by
  unfold zpU
  rw [hi2 d u hd, Option.bind_some]
  simp only [zcr, pty, Option.bind_some, zet, zep, h d e0 hd (.inl rfl), h d e1 hd (.inr rfl), if_true, Option.map_some, List.nil_append, List.cons_append, Bool.false_eq_true, if_false]
 have key : ∀ (es : List D) (acc : List V) (a u : Option V), (∀ d ∈ es, d ∈ ds) → ∃ a' u', zcr C R (zaF scope sc) false (.Name x px) [] (zpU C R (zaF scope sc) elt ⟨.Name y py, iter2, [], 0⟩) es acc ⟨[(".0", none), (x, a), (y, u)], σ1.k⟩ = some (acc ++ es.flatMap (fun d => [v d e0, v d e1]), ⟨[(".0", none), (x, a'), (y, u')], σ1.k⟩) := by
  intro es
  induction es with
  | nil => exact fun acc a u _ => ⟨a, u, by simp [zcr]⟩
  | cons d es ih =>
   intro acc a u hes
   obtain ⟨a', u', hr⟩ := ih (acc ++ [v d e0, v d e1]) (some (.f d)) (some (.f e1)) fun d hd => hes d (.tail _ hd)
   refine ⟨a', u', ?_⟩
   simp only [zcr, ptx, Option.bind_some, zet, if_true, em d u (hes d (.head _))]
   rw [hr]
   simp [List.flatMap_cons]
 obtain ⟨a', u', hL⟩ := key ds [] none none fun d hd => hd
 have hlen : zaI (ds.flatMap fun d => [v d e0, v d e1]).length = true := by
  have : ∀ l : List D, (l.flatMap fun d => [v d e0, v d e1]).length = 2 * l.length := by
   intro l
   induction l with
   | nil => rfl
   | cons d l ih => rw [List.flatMap_cons, List.length_append, ih, List.length_cons]; simp; exact yeP
  rw [this]
  exact zae (yeQ hf)
 unfold zfo
 rw [h1, h3]
 show (zb2 R sc iter σ).bind _ = _
 rw [hi, Option.bind_some, hl, hc]
 show (zcr C R (zaF scope sc) false (.Name x px) [] _ ds [] ⟨[(".0", none), (x, none), (y, none)], [] ++ σ1.k⟩).bind _ = _
 rw [List.nil_append, hL, Option.bind_some, List.nil_append]
 dsimp only
 rw [hlen]
 rfl
noncomputable abbrev Ent := List Int × List Int × Int
noncomputable def zhu (e : Ent) : D := .tup [D.ints e.1, D.ints e.2.1, .int e.2.2]
noncomputable def za2 (f g : List Int) : List Int := (List.range (min f.length g.length)).map fun j => f.getD j 0 + g.getD j 0
noncomputable def zti (SR : List Int → List Int → List Int → List Int → List Int) (line sums : List Int) (acc : List Int × Int) (e : Ent) : List Int × Int :=
 match zel e.1 sums with
 | none => acc
 | some row => (za2 acc.1 (SR line row sums e.2.1), acc.2 + e.2.2)
noncomputable def ztj (SR : List Int → List Int → List Int → List Int → List Int) (N : Nat) (line : List Int) (K : List Ent) (sums : List Int) : List Ent :=
 let r := K.foldl (zti SR line sums) (List.replicate N 0, 0)
 if 0 < r.2 then [(sums, r.1, r.2)] else []
noncomputable def zfr (SR : List Int → List Int → List Int → List Int → List Int) (N : Nat) (lots : List (List Int)) (K : List Ent) (line : List Int) : List Ent := lots.flatMap (ztj SR N line K)
noncomputable def zbP : Nat → List (List Int)
 | 0 => [[]]
 | t + 1 => (zbP t).flatMap fun l => [l ++ [0], l ++ [1]]
noncomputable def zbg (SR : List Int → List Int → List Int → List Int → List Int) (N n : Nat) (rows : List (List Int)) : Nat → List Ent
 | 0 => [(List.replicate n 0, 1 :: List.replicate (N - 1) 0, 1)]
 | i + 1 => zfr SR N (zbP n) (zbg SR N n rows i) (rows.getD i [])
theorem zmX : ∀ n, (zbP n).length = 2 ^ n := by
 have : ∀ l : List (List Int), (l.flatMap fun l => [l ++ [0], l ++ [1]]).length = 2 * l.length := by
  intro l
  induction l with
  | nil => rfl
  | cons d l ih => rw [List.flatMap_cons, List.length_append, ih, List.length_cons]; simp; exact yeP
 intro n
 induction n with
 | zero => rfl
 | succ n ih => rw [zbP, this, ih]; omega
theorem zgw : ∀ n l, l ∈ zbP n → l.length = n := by
 intro n
 induction n with
 | zero => intro l h; rw [zbP, List.mem_singleton] at h; rw [h]; rfl
 | succ n ih =>
  intro l h
  rw [zbP, List.mem_flatMap] at h
  obtain ⟨m, hm, h⟩ := h
  have := ih m hm
  rcases List.mem_cons.mp h with rfl | h
  · simp [this]
  · rw [List.mem_singleton] at h; rw [h]; simp [this]
noncomputable def Kv (K : List Ent) (v : V) : Prop := v = .o ((K.map zhu).map V.f) ∨ v = .f (.lst (K.map zhu))
theorem Kv.name {sc : Scope} {x : Str} {σ τ : St} {K : List Ent} {v : V} (h : Kv K v) (hs : σ.set sc x (.f (.lst (K.map zhu))) = some τ) (he : v = .f (.lst (K.map zhu)) → σ = τ) : zfq sc x σ (some v) = some (.f (.lst (K.map zhu)), τ) := by
 rcases h with rfl | rfl
 · rw [zbu, zbq]
   show eSet (.f (.lst (K.map zhu))) (σ.set sc x (.f (.lst (K.map zhu)))) = _
   rw [hs]; rfl
 · rw [zab, he rfl]
theorem Kv.first {e : Ent} {K : List Ent} {v : V} (h : Kv (e :: K) v) : zpt (zpt (some v) (some (.f (.int 0)))) (some (.f (.int 1))) = some (.f (D.ints e.2.1)) ∧ zpt (zpt (some v) (some (.f (.int 0)))) (some (.f (.int 2))) = some (.f (.int e.2.2)) := by
 rcases h with rfl | rfl <;> exact ⟨rfl, rfl⟩
noncomputable def zln (l : List (List Int)) : List V := l.map fun l => .o ((l.map D.int).map V.f)
theorem zlf (l : List (List Int)) : V.frzL (zln l) = l.map D.ints := by
 unfold zln
 induction l with
 | nil => rfl
 | cons x l ih => rw [List.map_cons, zbj, zdR, zbq, ih]; rfl
noncomputable def Lv (l : List (List Int)) (v : V) : Prop := v = .o (zln l) ∨ v = .f (.lst (l.map D.ints))
theorem Lv.name {sc : Scope} {x : Str} {σ τ : St} {l : List (List Int)} {v : V} (h : Lv l v) (hs : σ.set sc x (.f (.lst (l.map D.ints))) = some τ) (he : v = .f (.lst (l.map D.ints)) → σ = τ) : zfq sc x σ (some v) = some (.f (.lst (l.map D.ints)), τ) := by
 rcases h with rfl | rfl
 · rw [zbu, zlf]
   show eSet (.f (.lst (l.map D.ints))) (σ.set sc x (.f (.lst (l.map D.ints)))) = _
   rw [hs]; rfl
 · rw [zab, he rfl]
theorem zwI {k : Nat} : V.frzL (List.replicate k (V.f (D.int 0))) = (List.replicate k (0 : Int)).map D.int := by rw [zpE, zbq]
theorem zq8 {α β : Type} (f : β → α → β) (b : β) (l : List α) (t : Nat) (x : α) (h : l[t]? = some x) : (l.take (t + 1)).foldl f b = f ((l.take t).foldl f b) x := by
 rw [List.take_succ_eq_append_getElem (List.getElem?_eq_some_iff.mp h).1, List.foldl_append]
 rw [(List.getElem?_eq_some_iff.mp h).2]; rfl
theorem ztk {α β : Type} (f : α → List β) (l : List α) (t : Nat) (x : α) (h : l[t]? = some x) : (l.take (t + 1)).flatMap f = (l.take t).flatMap f ++ f x := by
 rw [List.take_succ_eq_append_getElem (List.getElem?_eq_some_iff.mp h).1, List.flatMap_append]
 rw [(List.getElem?_eq_some_iff.mp h).2, List.flatMap_singleton]
theorem ztl {α β : Type} {f : α → List β} (h : ∀ x, (f x).length ≤ 1) (l : List α) : (l.flatMap f).length ≤ l.length := by
 induction l with
 | nil => exact Nat.le_refl _
 | cons x l ih => rw [List.flatMap_cons, List.length_append, List.length_cons]; have := h x; exact yeO ih this
noncomputable def zu5 (d e : D) : V := match d with | .lst xs => .o ((xs ++ [e]).map V.f) | _ => .o []
noncomputable def zoM : List (Str × NameKind) := [("a", .local), ("lots", .local), ("turn", .local), ("known", .local), ("line", .local), ("more", .local), ("sums", .local), ("found", .local), ("many", .local), ("here", .local), ("told", .local), ("ways", .local), ("row", .local), ("range", .globalImplicit), ("len", .globalImplicit), ("_law_turns", .globalImplicit), ("zip", .globalImplicit), ("_law_step", .globalImplicit)]
section
variable {C : Cfg} {i : Nat} {p : Pos} (a b c d e f g h j k l m n : Option V)
@[irreducible] noncomputable def zaf : St := ⟨[("a", a), ("lots", b), ("turn", c), ("known", d), ("line", e), ("more", f), ("sums", g), ("found", h), ("many", j), ("here", k), ("told", l), ("ways", m), ("row", n)], []⟩
theorem ztm : ⟨[("a", a), ("lots", b), ("turn", c), ("known", d), ("line", e), ("more", f), ("sums", g), ("found", h), ("many", j), ("here", k), ("told", l), ("ways", m), ("row", n)], []⟩ = zaf a b c d e f g h j k l m n := by unfold zaf; rfl
theorem zfm : ∃ sc : Scope, sc.names = zoM ∧ sc.kind = .function ∧ (zap "_law_signed").map (·.scope) = some sc := ⟨_, rfl, rfl, rfl⟩
noncomputable def zaj : Scope := Classical.choose zfm
theorem zaQ : zaj.names = zoM := (Classical.choose_spec zfm).1
theorem sc_sign_kd : zaj.kind = .function := (Classical.choose_spec zfm).2.1
theorem zq9 {dr : DefRec} (h : zap "_law_signed" = some dr) : dr.scope = zaj := zdv h (Classical.choose_spec zfm).2.2
theorem zu6 : zaj.names.lookup ("a" : Str) = some .local := by rw [zaQ]; rfl
theorem zf1 : zaj.names.lookup ("lots" : Str) = some .local := by rw [zaQ]; rfl
theorem zoN : zaj.names.lookup ("turn" : Str) = some .local := by rw [zaQ]; rfl
theorem zeS : zaj.names.lookup ("known" : Str) = some .local := by rw [zaQ]; rfl
theorem zjf : zaj.names.lookup ("line" : Str) = some .local := by rw [zaQ]; rfl
theorem zeb : zaj.names.lookup ("more" : Str) = some .local := by rw [zaQ]; rfl
theorem zjg : zaj.names.lookup ("sums" : Str) = some .local := by rw [zaQ]; rfl
theorem zeT : zaj.names.lookup ("found" : Str) = some .local := by rw [zaQ]; rfl
theorem zf2 : zaj.names.lookup ("many" : Str) = some .local := by rw [zaQ]; rfl
theorem zjh : zaj.names.lookup ("here" : Str) = some .local := by rw [zaQ]; rfl
theorem zji : zaj.names.lookup ("told" : Str) = some .local := by rw [zaQ]; rfl
theorem zjj : zaj.names.lookup ("ways" : Str) = some .local := by rw [zaQ]; rfl
theorem zkk : zaj.names.lookup ("row" : Str) = some .local := by rw [zaQ]; rfl
theorem zmY : zaj.names.lookup ("range" : Str) = some .globalImplicit := by rw [zaQ]; rfl
theorem zra : zaj.names.lookup ("len" : Str) = some .globalImplicit := by rw [zaQ]; rfl
theorem zgX : zaj.names.lookup ("_law_turns" : Str) = some .globalImplicit := by rw [zaQ]; rfl
theorem zrb : zaj.names.lookup ("zip" : Str) = some .globalImplicit := by rw [zaQ]; rfl
theorem zhN : zaj.names.lookup ("_law_step" : Str) = some .globalImplicit := by rw [zaQ]; rfl
theorem zlg : (ER C (i + 1)).p zaj (.Name "a" p) (zaf a b c d e f g h j k l m n) = a := zad rfl (by unfold zaf; exact (zam zu6).trans rfl)
theorem zjk : (ER C (i + 1)).p zaj (.Name "lots" p) (zaf a b c d e f g h j k l m n) = b := zad rfl (by unfold zaf; exact (zam zf1).trans rfl)
theorem zjl (w : V) : St.set zaj "lots" w (zaf a b c d e f g h j k l m n) = some (zaf a (some w) c d e f g h j k l m n) := (by unfold zaf; exact (zax zf1 rfl).trans rfl)
theorem zjm (hp : C.pins = []) (w : V) : St.put C zaj "lots" w (zaf a b c d e f g h j k l m n) = some (zaf a (some w) c d e f g h j k l m n) := zan (by rw [hp]; rfl) (by unfold zaf; exact (zax zf1 rfl).trans rfl)
theorem zoO (hp : C.pins = []) (w : V) : St.put C zaj "turn" w (zaf a b c d e f g h j k l m n) = some (zaf a b (some w) d e f g h j k l m n) := zan (by rw [hp]; rfl) (by unfold zaf; exact (zax zoN rfl).trans rfl)
theorem zeU : (ER C (i + 1)).p zaj (.Name "known" p) (zaf a b c d e f g h j k l m n) = d := zad rfl (by unfold zaf; exact (zam zeS).trans rfl)
theorem zmZ (w : V) : St.set zaj "known" w (zaf a b c d e f g h j k l m n) = some (zaf a b c (some w) e f g h j k l m n) := (by unfold zaf; exact (zax zeS rfl).trans rfl)
theorem zhv (hp : C.pins = []) (w : V) : St.put C zaj "known" w (zaf a b c d e f g h j k l m n) = some (zaf a b c (some w) e f g h j k l m n) := zan (by rw [hp]; rfl) (by unfold zaf; exact (zax zeS rfl).trans rfl)
theorem zoP : (ER C (i + 1)).p zaj (.Name "line" p) (zaf a b c d e f g h j k l m n) = e := zad rfl (by unfold zaf; exact (zam zjf).trans rfl)
theorem zoQ (hp : C.pins = []) (w : V) : St.put C zaj "line" w (zaf a b c d e f g h j k l m n) = some (zaf a b c d (some w) f g h j k l m n) := zan (by rw [hp]; rfl) (by unfold zaf; exact (zax zjf rfl).trans rfl)
theorem zoR : (ER C (i + 1)).p zaj (.Name "more" p) (zaf a b c d e f g h j k l m n) = f := zad rfl (by unfold zaf; exact (zam zeb).trans rfl)
theorem zjn (w : V) : St.set zaj "more" w (zaf a b c d e f g h j k l m n) = some (zaf a b c d e (some w) g h j k l m n) := (by unfold zaf; exact (zax zeb rfl).trans rfl)
theorem zoS : St.get zaj "more" (zaf a b c d e f g h j k l m n) = f := (by unfold zaf; exact (zam zeb).trans rfl)
theorem zoT (hp : C.pins = []) (w : V) : St.put C zaj "more" w (zaf a b c d e f g h j k l m n) = some (zaf a b c d e (some w) g h j k l m n) := zan (by rw [hp]; rfl) (by unfold zaf; exact (zax zeb rfl).trans rfl)
theorem zec : (ER C (i + 1)).p zaj (.Name "sums" p) (zaf a b c d e f g h j k l m n) = g := zad rfl (by unfold zaf; exact (zam zjg).trans rfl)
theorem zoU (hp : C.pins = []) (w : V) : St.put C zaj "sums" w (zaf a b c d e f g h j k l m n) = some (zaf a b c d e f (some w) h j k l m n) := zan (by rw [hp]; rfl) (by unfold zaf; exact (zax zjg rfl).trans rfl)
theorem zhw : (ER C (i + 1)).p zaj (.Name "found" p) (zaf a b c d e f g h j k l m n) = h := zad rfl (by unfold zaf; exact (zam zeT).trans rfl)
theorem zhx (w : V) : St.set zaj "found" w (zaf a b c d e f g h j k l m n) = some (zaf a b c d e f g (some w) j k l m n) := (by unfold zaf; exact (zax zeT rfl).trans rfl)
theorem zhy (hp : C.pins = []) (w : V) : St.put C zaj "found" w (zaf a b c d e f g h j k l m n) = some (zaf a b c d e f g (some w) j k l m n) := zan (by rw [hp]; rfl) (by unfold zaf; exact (zax zeT rfl).trans rfl)
theorem zjo : (ER C (i + 1)).p zaj (.Name "many" p) (zaf a b c d e f g h j k l m n) = j := zad rfl (by unfold zaf; exact (zam zf2).trans rfl)
theorem zoV : St.get zaj "many" (zaf a b c d e f g h j k l m n) = j := (by unfold zaf; exact (zam zf2).trans rfl)
theorem zjp (hp : C.pins = []) (w : V) : St.put C zaj "many" w (zaf a b c d e f g h j k l m n) = some (zaf a b c d e f g h (some w) k l m n) := zan (by rw [hp]; rfl) (by unfold zaf; exact (zax zf2 rfl).trans rfl)
theorem zjq : (ER C (i + 1)).p zaj (.Name "here" p) (zaf a b c d e f g h j k l m n) = k := zad rfl (by unfold zaf; exact (zam zjh).trans rfl)
theorem zoW (hp : C.pins = []) (w : V) : St.put C zaj "here" w (zaf a b c d e f g h j k l m n) = some (zaf a b c d e f g h j (some w) l m n) := zan (by rw [hp]; rfl) (by unfold zaf; exact (zax zjh rfl).trans rfl)
theorem zoX : (ER C (i + 1)).p zaj (.Name "told" p) (zaf a b c d e f g h j k l m n) = l := zad rfl (by unfold zaf; exact (zam zji).trans rfl)
theorem zoY (hp : C.pins = []) (w : V) : St.put C zaj "told" w (zaf a b c d e f g h j k l m n) = some (zaf a b c d e f g h j k (some w) m n) := zan (by rw [hp]; rfl) (by unfold zaf; exact (zax zji rfl).trans rfl)
theorem zoZ : (ER C (i + 1)).p zaj (.Name "ways" p) (zaf a b c d e f g h j k l m n) = m := zad rfl (by unfold zaf; exact (zam zjj).trans rfl)
theorem zo0 (hp : C.pins = []) (w : V) : St.put C zaj "ways" w (zaf a b c d e f g h j k l m n) = some (zaf a b c d e f g h j k l (some w) n) := zan (by rw [hp]; rfl) (by unfold zaf; exact (zax zjj rfl).trans rfl)
theorem zgY : (ER C (i + 1)).p zaj (.Name "row" p) (zaf a b c d e f g h j k l m n) = n := zad rfl (by unfold zaf; exact (zam zkk).trans rfl)
theorem zkl (hp : C.pins = []) (w : V) : St.put C zaj "row" w (zaf a b c d e f g h j k l m n) = some (zaf a b c d e f g h j k l m (some w)) := zan (by rw [hp]; rfl) (by unfold zaf; exact (zax zkk rfl).trans rfl)
end
theorem zm5 : zar zaj "range" = true := zaz zmY
theorem zgZ : zar zaj "len" = true := zaz zra
theorem zdJ {C : Cfg} (hr : C.refs = refs) : zch C zaj "_law_turns" = true := zbl hr zgX rfl
theorem zrc : zar zaj "zip" = true := zaz zrb
theorem zhO {C : Cfg} (hr : C.refs = refs) : zch C zaj "_law_step" = true := zbl hr zhN rfl
inductive SgA (X : Option V) (lots : List (List Int)) (tu : Option V) (K : List Ent) : St → Prop
 | mk (lv kv : V) (li mo su fo ma he to wa ro : Option V) (h1 : Lv lots lv) (h2 : Kv K kv) : SgA X lots tu K (zaf X (some lv) tu (some kv) li mo su fo ma he to wa ro)
inductive SgB (X : Option V) (lv : V) (tu : Option V) (K : List Ent) (li mo : Option V) : St → Prop
 | mk (kv : V) (su fo ma he to wa ro : Option V) (h : Kv K kv) : SgB X lv tu K li mo (zaf X (some lv) tu (some kv) li mo su fo ma he to wa ro)
inductive SgC (X lv tu kv li mo su : Option V) (N : Nat) (a : List Int × Int) : St → Prop
 | mk (he to wa ro : Option V) (h : a.1.length = N) : SgC X lv tu kv li mo su N a (zaf X lv tu kv li mo su (some (.o ((a.1.map D.int).map V.f))) (some (.f (.int a.2))) he to wa ro)
theorem zrd {C : Cfg} {rows : List (List Int)} {n N : Nat} {SR : List Int → List Int → List Int → List Int → List Int} (hC : Cg C) (hn : n ≤ 6) (hn0 : 0 < n) (hl : rows.length = n) (hN : N = n * (n - 1) / 2 + 1)
 (ht : ∀ one other : List Int, one.length < 900 → other.length < 900 → C.T "_law_turns" [D.ints one, D.ints other] = some (optD (zel one other)))
 (hs : ∀ i, i < n → ∀ e ∈ zbg SR N n rows i, ∀ sums ∈ zbP n, ∀ row, zel e.1 sums = some row → C.T "_law_step" [D.ints (rows.getD i []), D.ints row, D.ints sums, D.ints e.2.1] = some (D.ints (SR (rows.getD i []) row sums e.2.1)))
 (hk : ∀ i, i ≤ n → ∃ e K, zbg SR N n rows i = e :: K ∧ K.length ≤ 100 ∧ ∀ e' ∈ e :: K, e'.1.length = n ∧ e'.2.1.length = N)
 (hSR : ∀ line row sums told, told.length = N → (SR line row sums told).length = N) :
 ∃ e K, zbg SR N n rows n = e :: K ∧ zeq C "_law_signed" [.lst (rows.map D.ints)] (.tup [D.ints e.2.1, .int e.2.2]) := by
 obtain ⟨eN, KN, hKN, _, _⟩ := hk n (Nat.le_refl _)
 refine ⟨eN, KN, hKN, _, rfl, rfl, ?_⟩
 let X : Option V := some (.f (.lst (rows.map D.ints)))
 refine zbU zoM zaj _ (zq9 rfl) zaQ (ztm X none none none none none none none none none none none none) ?_
 have hCp := hC.pins
 have hCr := hC.refs
 have hf : zaI n = true := zae (yeN hn)
 have hn1 : n ≤ 100000 := by exact yeN hn
 have hN100 : N ≤ 100 := by
  have : n * (n - 1) ≤ 6 * 6 := Nat.mul_le_mul hn (yeG hn)
  exact yeM hN this
 have hNp : 0 < N := by exact yeL hN
 let v0 : V := .o ((((zbg SR N n rows 0)).map zhu).map V.f)
 refine zj4 (σ1 := zaf X (some (.o (zln (zbP 0)))) none none none none none none none none none none none) ?_ (zsE (zcI (ds := zb6 0 n) (pr := false) (σ2 := zaf X (some (.o (zln (zbP 0)))) none none none none none none none none none none none)
  (fun t σ => ∃ tu, σ = zaf X (some (.o (zln (zbP t)))) tu none none none none none none none none none none) ?_ ⟨_, rfl⟩ ?_) ?_)
 · clear ht hs hk hSR
   dsimp only [X]
   simp -implicitDefEqProofs only [zct, a_n, zg8, zbd, za8, zjL, zaJ, zaK, zgc, zdb, zjm, zaV, *]
   rfl
 · clear ht hs hk hSR
   dsimp only [X]
   simp -implicitDefEqProofs only [zm5, zqa, za7, decide_true, q_n, Bool.and_true, zck, zgZ, zbK, zlg, List.length_map, zbw, zbN, zbD, zgL, *]
 · rintro t d τ hd ⟨tu, rfl⟩
   obtain ⟨rfl, htn⟩ := zaS hd
   have hll : (zbP t).length ≤ 64 := by rw [zmX]; exact Nat.le_trans (Nat.pow_le_pow_right (by decide) (show t ≤ 6 by exact yeK hn htn)) (by decide)
   have e1 : zln (zbP (t + 1)) = ((zbP t).map D.ints).flatMap fun d => [zu5 d (.int 0), zu5 d (.int 1)] := by
    rw [zbP]
    unfold zln
    generalize zbP t = l
    induction l with
    | nil => rfl
    | cons x l ih =>
     rw [List.flatMap_cons, List.map_append, ih]
     simp [D.ints, zu5, List.flatMap_cons]
   rw [Int.zero_add, e1]
   have hlm : ∀ l ∈ zbP t, l.length ≤ 6 := fun l h => by rw [zgw t l h]; exact yeK hn htn
   generalize zbP t = l at *
   have n1 : ∀ o, zfq zaj "lots" (zaf X (some (.o (zln l))) o none none none none none none none none none none) (some (.o (zln l))) = some (.f (.lst (l.map D.ints)), zaf X (some (.f (.lst (l.map D.ints)))) o none none none none none none none none none none) := fun o => (Lv.name (.inl rfl) (zjl ..) fun e => by cases e)
   have hfl : zaI l.length = true := zae (yev hll)
   refine ⟨zaf X (some (.o (zln l))) (some (.f (.int t))) none none none none none none none none none none, ?_, zru (zdd ⟨zaf X (some (.o _)) (some (.f (.int t))) none none none none none none none none none none, ?_, _, rfl⟩)⟩
   · clear ht hs hk hSR hd e1
     dsimp only [X]
     simp -implicitDefEqProofs only [zdu, zoO, *]
   · clear ht hs hk hSR hd e1
     dsimp only [X] at n1 ⊢
     simp -implicitDefEqProofs only [zct, a_n, zbR, *]
     rw [zth (ds := l.map D.ints) (e0 := .int 0) (e1 := .int 1) (σ1 := zaf (some (.f (.lst (rows.map D.ints)))) (some (.f (.lst (l.map D.ints)))) (some (.f (.int t))) none none none none none none none none none none) zu5 hC.pins (zaH ⟨_, zaQ, rfl⟩) rfl rfl rfl (zav rfl) (zav rfl) (by decide) (by decide) (by decide)]
     · simp -implicitDefEqProofs only [zdb, zjm, zaV, *]
     · simp -implicitDefEqProofs only [i_n, e_n, zjk, List.length_map, zdc, zll, *]
     · rw [List.length_map]; exact yeJ hll
     · intro d u hd
       generalize hsc : zaF _ _ = sc'
       clear hsc
       have e5 : zaI (1 + 1) = true := rfl
       have e6 : zaI (0 + 1 + 1) = true := rfl
       simp -implicitDefEqProofs only [i_tup, e_tu, zbd, e_c, zaJ, za8, zaK, List.length_cons, List.length_nil, bl_0, bl_s, zsj, zbj, zaw, zbb, toLT_t, zll, *]
     · intro d e hd he
       obtain ⟨x, hx, rfl⟩ := List.mem_map.mp hd
       have hxl := hlm x hx
       have g1 := @in_a C
       have g2 := @in_b C
       generalize hsc : zaF _ _ = sc'
       have e1 : sc'.names.lookup ("lot" : Str) = some .local := by rw [← hsc]; exact zav rfl
       have e2 : sc'.names.lookup ("number" : Str) = some .local := by rw [← hsc]; exact zav rfl
       have e5 : zaI (0 + 1) = true := rfl
       have e6 : zaI (x.length + (0 + 1)) = true := zae (yeI hxl)
       clear hsc hd he
       show _ = some (V.o ((x.map D.int ++ [e]).map V.f), _)
       simp -implicitDefEqProofs only [q_b, q_n, zew, Bool.and_false, zj0, e_n, zaB, String.reduceBEq, zab, eB_al, zg8, zbd, zaJ, za8, zaK, zgc, zbj, zaw, zbb, List.length_cons, List.length_nil, List.length_map, zpv, *]
 · rintro σ ⟨tu, rfl⟩
   rw [zaD]
   have hlm := zgw n
   have hll : (zbP n).length ≤ 64 := by rw [zmX]; exact Nat.le_trans (Nat.pow_le_pow_right (by decide) hn) (by decide)
   generalize hlots : zbP n = lots at *
   have hfl : zaI lots.length = true := zae (yev hll)
   let F : V → Option V → V → Option V → Option V → Option V → Option V → Option V → Option V → Option V → Option V → Option V → St := fun lv tu kv li mo su fo ma he to wa ro => zaf X (some lv) tu (some kv) li mo su fo ma he to wa ro
   refine zj4 (σ1 := F (.o (zln lots)) tu v0 none none none none none none none none none) ?_ (zsE (zcI (ds := rows.map D.ints) (pr := false) (σ2 := F (.o (zln lots)) tu v0 none none none none none none none none none)
    (fun i σ => SgA X lots tu (zbg SR N n rows i) σ) ?_ ⟨_, _, none, none, none, none, none, none, none, none, none, .inl rfl, .inl rfl⟩ ?_) ?_)
   · have m1 : zbh .Mult (n : Int) ((n : Int) - 1) = some (((n * (n - 1) : Nat) : Int)) := by
      rw [zbT (.inl (ze7 (yeF) (yeH hn)))]
      congr 1
      rw [Int.natCast_mul, Int.natCast_sub hn0]; rfl
     have hb : n * (n - 1) ≤ 36 := Nat.le_trans (Nat.mul_le_mul hn (show n - 1 ≤ 6 by exact yeG hn)) (by decide)
     have m2 : zbh .FloorDiv ((n * (n - 1) : Nat) : Int) 2 = some ((N - 1 : Nat) : Int) := by
      rw [zey (by decide) (ze7 (yeF) (yeE hb)) (by decide), Int.fdiv_eq_ediv_of_nonneg _ (by decide), hN]
      congr 1
     have hN1 : N - 1 ≤ 100000 := by exact yeD hN100
     have hfN : zaI (N - 1) = true := zae (yeC hN1)
     have hfN2 : zaI (0 + 1 + (N - 1)) = true := zae (yeB hN100)
     have hf01 : zaI (0 + 1) = true := rfl
     have e0 : v0 = .o [.f (.tup [D.ints (List.replicate n 0), D.ints (1 :: List.replicate (N - 1) 0), .int 1])] := rfl
     have e1 : D.ints (1 :: List.replicate (N - 1) 0) = .lst (.int 1 :: (List.replicate (N - 1) (0 : Int)).map D.int) := rfl
     have e2 := @zwI
     have e3 : ∀ k, (List.replicate k (0 : Int)).length = k := fun k => List.length_replicate
     have e4 : ∀ l : List D, [D.int 1] ++ l = .int 1 :: l := fun _ => rfl
     rw [e0, e1]
     clear ht hs hk hSR hKN hlm e0 e1 hN hlots
     clear_value v0
     dsimp only [X, F]
     simp -implicitDefEqProofs only [zct, a_n, zg8, zbd, e_tu, q_b, zew, za7, decide_true, q_n, Bool.and_true, zj0, e_c, zaJ, za8, zaK, zgc, zvo, zck, zgZ, zbK, zlg, List.length_map, zbw, zbN, zbD, zg7, zaw, q_c, Bool.and_false, zbj, zbb, List.length_cons, List.length_nil, zp7, e_b, p_b, p_c, za3, zaN, za4, zpv, List.map_cons, bl_0, bl_s, zsj, zdR, zbq, zdb, zhv, zaV, *]
   · clear ht hs hk hSR hKN hlm
     dsimp only [X, F]
     simp -implicitDefEqProofs only [i_n, e_n, zlg, zab, List.length_map, zdc, zll, *]
   · rintro i d τ hd ⟨lv, kv, li, mo, su, fo, ma, he, to, wa, ro, hlv, hkv⟩
     obtain ⟨hi, rfl⟩ := zi8 hd
     rw [hl] at hi
     obtain ⟨e1, K1, hK1, hKl, hKe⟩ := hk i (yeA hi)
     have hs' := hs i hi
     have hkn : zbg SR N n rows (i + 1) = lots.flatMap (ztj SR N (rows.getD i []) (zbg SR N n rows i)) := by rw [← hlots]; rfl
     rw [hkn]
     generalize rows.getD i [] = line at *
     generalize zbg SR N n rows i = K at *
     have nl : ∀ o1 o2 o3 o4 o5 o6 o7 o8 o9 oa ob, zfq zaj "lots" (F lv o1 o2 o3 o4 o5 o6 o7 o8 o9 oa ob) (some lv) = some (.f (.lst (lots.map D.ints)), F (.f (.lst (lots.map D.ints))) o1 o2 o3 o4 o5 o6 o7 o8 o9 oa ob) := fun o1 o2 o3 o4 o5 o6 o7 o8 o9 oa ob => hlv.name (zjl ..) fun e => by rw [e]
     let M : List Ent → Option V := fun l => some (.o ((l.map zhu).map V.f))
     refine ⟨F lv tu kv (some (.f (D.ints line))) mo su fo ma he to wa ro, ?_, zru (zfx (σ1 := F lv tu kv (some (.f (D.ints line))) (M []) su fo ma he to wa ro) ?_ (zgN (zcI (ds := lots.map D.ints) (pr := false) (σ2 := F (.f (.lst (lots.map D.ints))) tu kv (some (.f (D.ints line))) (M []) su fo ma he to wa ro)
      (fun j σ => SgB X (.f (.lst (lots.map D.ints))) tu K (some (.f (D.ints line))) (M ((lots.take j).flatMap (ztj SR N line K))) σ) ?_ ⟨kv, _, _, _, _, _, _, _, hkv⟩ ?_) ?_))⟩
     · clear ht hs hk hSR hKN hlm hs' hkn hlv hkv hd nl hlots hK1 hKe
       dsimp only [X, F]
       simp -implicitDefEqProofs only [zdu, zoQ, *]
     · clear ht hs hk hSR hKN hlm hs' hkn hlv hkv hd nl hlots hK1 hKe
       dsimp only [X, F, M]
       simp -implicitDefEqProofs only [zct, a_n, zg8, za8, zjL, zdb, zoT, zaV, List.map_nil, *]
     · clear ht hs hk hSR hKN hlm hs' hkn hlv hkv hd hlots hK1 hKe
       dsimp only [X, F, M] at nl ⊢
       simp -implicitDefEqProofs only [List.map_nil, i_n, e_n, zjk, List.length_map, zdc, zll, *]
     · rintro j d τ hd' ⟨kv, su, fo, ma, he, to, wa, ro, hkv⟩
       obtain ⟨hj, rfl⟩ := zi8 hd'
       have hsm : lots.getD j [] ∈ lots := by simp only [List.getD, List.getElem?_eq_getElem hj, Option.getD_some]; exact List.getElem_mem hj
       have hsl := hlm _ hsm
       have hs2 := fun e he row hr => hs' e he (lots.getD j []) hsm row hr
       have hft := ztk (ztj SR N line K) lots j (lots.getD j []) (by simp [List.getD, List.getElem?_eq_getElem hj])
       rw [hft]
       have hml : ((lots.take j).flatMap (ztj SR N line K)).length ≤ 64 := by
        have := ztl (f := ztj SR N line K) (fun x => by unfold ztj; dsimp only; split <;> simp) (lots.take j)
        rw [List.length_take] at this
        exact ybc hll this
       generalize (lots.take j).flatMap (ztj SR N line K) = more at hml ⊢
       generalize lots.getD j [] = sums at *
       rw [hK1] at hkv
       have kf := hkv.first.1
       rw [← hK1] at hkv
       have hln := (hKe e1 (.head _)).2
       have nk : ∀ o2 o3 o4 o5 o6 o7 o8 o9 oa ob, zfq zaj "known" (F (.f (.lst (lots.map D.ints))) o2 kv o3 o4 o5 o6 o7 o8 o9 oa ob) (some kv) = some (.f (.lst (K.map zhu)), F (.f (.lst (lots.map D.ints))) o2 (.f (.lst (K.map zhu))) o3 o4 o5 o6 o7 o8 o9 oa ob) := fun o2 o3 o4 o5 o6 o7 o8 o9 oa ob => hkv.name (zmZ ..) fun e => by rw [e]
       have hKl2 : K.length ≤ 101 := by rw [hK1, List.length_cons]; exact yez hKl
       have hfK : zaI K.length = true := zae (yey hKl2)
       let G : Option V → List Int × Int → Option V → Option V → Option V → Option V → St := fun kv a he to wa ro => zaf X (some (.f (.lst (lots.map D.ints)))) tu kv (some (.f (D.ints line))) (M more) (some (.f (D.ints sums))) (some (.o ((a.1.map D.int).map V.f))) (some (.f (.int a.2))) he to wa ro
       refine ⟨F (.f (.lst (lots.map D.ints))) tu kv (some (.f (D.ints line))) (M more) (some (.f (D.ints sums))) fo ma he to wa ro, ?_, zru (zfx (σ1 := G (some kv) (List.replicate N 0, 0) he to wa ro) ?_ (zgN (zcI (ds := K.map zhu) (pr := false) (σ2 := G (some (.f (.lst (K.map zhu)))) (List.replicate N 0, 0) he to wa ro)
        (fun t σ => SgC X (some (.f (.lst (lots.map D.ints)))) tu (some (.f (.lst (K.map zhu)))) (some (.f (D.ints line))) (M more) (some (.f (D.ints sums))) N ((K.take t).foldl (zti SR line sums) (List.replicate N 0, 0)) σ) ?_ ⟨he, to, wa, ro, List.length_replicate⟩ ?_) ?_))⟩
       · clear ht hs hk hSR hKN hlm hs' hkn hlv hkv hd hd' hs2 nl nk kf hlots hK1 hKe hft
         dsimp only [X, F, M]
         simp -implicitDefEqProofs only [zdu, zoU, *]
       · have hfN : zaI N = true := zae (yew hN100)
         have hN1 : N ≤ 100000 := by exact yew hN100
         clear ht hs hk hSR hKN hlm hs' hkn hlv hkv hd hd' hs2 nl nk hlots hK1 hKe hft hN
         dsimp only [X, F, M, G]
         rw [← zpE]
         simp -implicitDefEqProofs only [zct, ne_eq, zcX, String.reduceEq, not_false_eq_true, zwm, zkJ, zex, Bool.and_false, zwl, Bool.and_true, zrt, zbd, q_b, zew, za7, decide_true, q_s, q_n, q_c, zj0, zg8, e_c, zaJ, za8, zaK, zgc, zvo, zck, zgZ, zbK, p_s, zeU, p_c, List.length_map, zbw, zbN, zbD, zg7, zaw, List.length_cons, List.length_nil, bl_0, bl_s, zpB, zb3, zhy, zbC, zjp, zcd, zaV, *]
       · clear ht hs hk hSR hKN hlm hs' hkn hlv hkv hd hd' hs2 nl kf hlots hK1 hKe hft hln hN
         dsimp only [X, F, M, G] at nk ⊢
         simp -implicitDefEqProofs only [i_n, e_n, zeU, List.length_map, zdc, zll, *]
       · rintro t d τ hd2 ⟨he, to, wa, ro, hal⟩
         rw [List.getElem?_map] at hd2
         obtain ⟨e, het, rfl⟩ := Option.map_eq_some_iff.mp hd2
         have heK : e ∈ K := List.mem_of_getElem? het
         have hel := hKe e (hK1 ▸ heK)
         rw [zq8 _ _ _ _ _ het]
         generalize (K.take t).foldl (zti SR line sums) (List.replicate N 0, 0) = acc at *
         obtain ⟨fnd, cnt⟩ := acc
         obtain ⟨s, told, ways⟩ := e
         have hal : fnd.length = N := hal
         have hsl1 : s.length = n := hel.1
         have htl : told.length = N := hel.2
         have tt := ht s sums (yex hn hsl1) (yex hn hsl)
         refine ⟨G (some (.f (.lst (K.map zhu)))) (fnd, cnt) (some (.f (D.ints s))) (some (.f (D.ints told))) (some (.f (.int ways))) ro, ?_, ?_⟩
         · clear ht hs hk hSR hKN hlm hs' hkn hlv hkv hd hd' hs2 nl nk kf hlots hK1 hKe hft hln hN hel hd2 het heK tt
           dsimp only [X, F, M, G, zhu]
           simp -implicitDefEqProofs only [asg_t3, List.map_cons, List.map_nil, zb3, zoW, zbC, zoY, zo0, zcd, *]
         · show Nxt _ (SgC _ _ _ _ _ _ _ N (zti SR line sums (fnd, cnt) (s, told, ways)))
           unfold zti
           dsimp only
           cases hq : zel s sums with
           | none =>
            rw [hq] at tt
            replace tt : C.T "_law_turns" [D.ints s, D.ints sums] = some .none := tt
            refine ⟨G (some (.f (.lst (K.map zhu)))) (fnd, cnt) (some (.f (D.ints s))) (some (.f (D.ints told))) (some (.f (.int ways))) (some (.f .none)), ?_, _, _, _, _, hal⟩
            clear ht hs hk hSR hKN hlm hs' hkn hlv hkv hd hd' hs2 nl nk kf hlots hK1 hKe hft hln hN hel hd2 het heK hq
            dsimp only [X, F, M, G]
            simp -implicitDefEqProofs only [r_s, zdD, zct, a_n, zdJ, zbS, zbd, e_n, zjq, zab, zaJ, zec, za8, zaK, zhX, zbj, zaw, zbb, zcV, zdb, zkl, zaV, zbx, zes, zaY, zgY, zaZ, ztP, zaT, zwh, zaU, zcW, zer, *]
           | some row =>
            rw [hq] at tt
            replace tt : C.T "_law_turns" [D.ints s, D.ints sums] = some (D.ints row) := tt
            have st := hs2 (s, told, ways) heK row hq
            have hrl : (SR line row sums told).length = N := hSR line row sums told htl
            dsimp only at st ⊢
            generalize SR line row sums told = res at *
            have hal2 : (za2 fnd res).length = N := by unfold za2; rw [List.length_map, List.length_range, hal, hrl, Nat.min_self]
            have hfN : zaI N = true := zae (yew hN100)
            refine ⟨G (some (.f (.lst (K.map zhu)))) (za2 fnd res, cnt + ways) (some (.f (D.ints s))) (some (.f (D.ints told))) (some (.f (.int ways))) (some (.f (D.ints row))), ?_, _, _, _, _, hal2⟩
            clear ht hs hk hSR hKN hlm hs' hkn hlv hkv hd hd' hs2 nl nk kf hlots hK1 hKe hft hln hel hd2 het heK hq hN htl hsl1 hsl hal2
            dsimp only [X, F, M, G]
            simp -implicitDefEqProofs only [r_s, zdD, zct, a_n, zdJ, zbS, zbd, e_n, zjq, zab, zaJ, zec, za8, zaK, zhX, zbj, zaw, zbb, zcV, zdb, zkl, zaV, zbx, zes, zaY, zgY, zaZ, ztP, zaT, zwg, zaU, zgd, zbR, *]
            rw [zgR (ds := zlj (fnd.map D.int) (res.map D.int)) (pr := true) (σ1 := zaf (some (.f (.lst (rows.map D.ints)))) (some (.f (.lst (lots.map D.ints)))) tu (some (.f (.lst (K.map zhu)))) (some (.f (D.ints line))) (some (.o ((more.map zhu).map V.f))) (some (.f (D.ints sums))) (some (.f (D.ints fnd))) (some (.f (.int cnt))) (some (.f (D.ints s))) (some (.f (D.ints told))) (some (.f (.int ways))) (some (.f (D.ints row)))) (fun j => V.f (.int (fnd.getD j 0 + res.getD j 0))) hC.pins (zaH ⟨_, zaQ, rfl⟩) rfl rfl rfl (zav rfl) (zav rfl) (by decide) (by decide) (by decide)]
            · have e : (List.range (zlj (fnd.map D.int) (res.map D.int)).length).map (fun j => V.f (.int (fnd.getD j 0 + res.getD j 0))) = ((za2 fnd res).map D.int).map V.f := by
               rw [zgS]; unfold za2; rw [List.map_map, List.map_map]; rfl
              rw [e]
              generalize za2 fnd res = l'
              simp -implicitDefEqProofs only [zdb, zhy, zaV, zbx, zdD, zp9, zaB, String.reduceBEq, g_na, zoV, zsw, e_n, zoZ, zab, zbD, zsx, zaG, zsy, zjp, zer, *]
            · simp -implicitDefEqProofs only [zrc, zwn, e_n, zhw, zbu, zbq, zhx, zcs, List.length_map, zhJ, iZ_s, zhO, zbS, zbd, zoP, zab, zaJ, zgY, zec, zoX, za8, zaK, zhX, zbj, zaw, zbb, zcV, zwo, *, *]
            · rw [zgS, hal, hrl, Nat.min_self]; exact hfN
            · intro j d hd
              obtain ⟨_, _, rfl⟩ := zk2 _ _ _ _ hd
              refine ⟨_, _, rfl, ?_⟩
              have g1 := @in_a C
              have g2 := @in_b C
              generalize hsc : zaF _ _ = sc'
              have e1 : sc'.names.lookup ("one" : Str) = some .local := by rw [← hsc]; exact zav rfl
              have e2 : sc'.names.lookup ("other" : Str) = some .local := by rw [← hsc]; exact zav rfl
              clear hsc hd
              simp -implicitDefEqProofs only [q_b, q_n, Bool.and_true, e_b, p_b, zaB, String.reduceBEq, za3, zaG, za4, zbN, *]
       · rintro σ ⟨he, to, wa, ro, hal⟩
         rw [List.length_map, List.take_length] at *
         show Nxt _ (SgB _ _ _ K _ (M (more ++ (if 0 < (K.foldl (zti SR line sums) (List.replicate N 0, 0)).2 then [(sums, (K.foldl (zti SR line sums) (List.replicate N 0, 0)).1, (K.foldl (zti SR line sums) (List.replicate N 0, 0)).2)] else []))))
         generalize K.foldl (zti SR line sums) (List.replicate N 0, 0) = acc at *
         obtain ⟨fnd, cnt⟩ := acc
         dsimp only at hal ⊢
         by_cases hc : 0 < cnt
         · rw [if_pos hc]
           have c1 : decide (cnt > 0) = true := by rw [decide_eq_true_eq]; exact hc
           have oka : ∀ (x : Str) (a c : Pos), zaj.names.lookup x = some .local → (x == ("__debug__" : Str)) = false → (a.endLine == c.line) = true → zlY zaj x "append" a c = true := fun x a c h1 h2 h3 => by
            unfold zlY
            rw [h1, h2, h3]; rfl
           have lk2 : zaj.names.lookup ("more" : Str) = some .local := by rw [zaQ]; rfl
           have em : ((more ++ [(sums, fnd, cnt)]).map zhu).map V.f = ((more.map zhu).map V.f) ++ [.f (.tup [D.ints sums, D.ints fnd, .int cnt])] := by rw [List.map_append, List.map_append]; rfl
           have hfm : zaI more.length = true := zae (yev hml)
           refine zdd ⟨F (.f (.lst (lots.map D.ints))) tu (.f (.lst (K.map zhu))) (some (.f (D.ints line))) (M (more ++ [(sums, fnd, cnt)])) (some (.f (D.ints sums))) (some (.f (D.ints fnd))) (some (.f (.int cnt))) he to wa ro, ?_, _, _, _, _, _, _, _, _, .inr rfl⟩
           clear ht hs hk hSR hKN hlm hs' hkn hlv hkv hd hd' hs2 nl nk kf hlots hK1 hKe hft hln hN hc
           dsimp only [X, F, M, G]
           rw [em]
           simp -implicitDefEqProofs only [zes, zaY, e_n, zjo, zab, zaZ, zaw, e_c, zaT, zpz, zaU, zgd, r_s, zdD, zaB, String.reduceBEq, beq_self_eq_true, zst, zoS, zij, e_tu, zbd, zec, zaJ, zhw, zbu, zbq, zhx, zcs, za8, zaK, List.length_cons, List.length_nil, bl_0, bl_s, zsj, zbj, zbb, zik, List.length_map, zil, zjn, zaV, zbx, zer, *]
         · rw [if_neg hc, List.append_nil]
           have c1 : decide (cnt > 0) = false := by rw [decide_eq_false_iff_not]; exact hc
           refine zdd ⟨G (some (.f (.lst (K.map zhu)))) (fnd, cnt) he to wa ro, ?_, _, _, _, _, _, _, _, _, .inr rfl⟩
           clear ht hs hk hSR hKN hlm hs' hkn hlv hkv hd hd' hs2 nl nk kf hlots hK1 hKe hft hln hN hc
           dsimp only [X, F, M, G]
           simp -implicitDefEqProofs only [zes, zaY, e_n, zjo, zab, zaZ, zaw, e_c, zaT, zpz, zaU, zcW, r_s, zer, *]
     · rintro σ ⟨kv, su, fo, ma, he, to, wa, ro, hkv⟩
       rw [List.length_map, List.take_length]
       generalize lots.flatMap (ztj SR N line K) = more
       refine zdd ⟨F (.f (.lst (lots.map D.ints))) tu (.f (.lst (more.map zhu))) (some (.f (D.ints line))) (some (.f (.lst (more.map zhu)))) su fo ma he to wa ro, ?_, _, _, _, _, _, _, _, _, _, _, _, .inr rfl, .inr rfl⟩
       clear ht hs hk hSR hKN hlm hs' hkn hlv hkv hd nl hlots hK1 hKe
       dsimp only [X, F, M]
       simp -implicitDefEqProofs only [zct, a_n, e_n, zoR, zbu, zbq, zjn, zcs, zdb, zhv, zaV, *]
   · rintro σ ⟨lv, kv, li, mo, su, fo, ma, he, to, wa, ro, hlv, hkv⟩
     rw [List.length_map, hl, hKN] at hkv
     obtain ⟨k1, k2⟩ := hkv.first
     refine zlm (σ1 := F lv tu kv li mo su fo ma he to wa ro) ?_
     clear ht hs hk hSR hKN hlm hlv hkv
     dsimp only [X, F]
     simp -implicitDefEqProofs only [zcl, e_tu, zbd, q_s, q_n, q_c, Bool.and_true, e_s, p_s, zeU, p_c, zbN, zaJ, za8, zaK, List.length_cons, List.length_nil, bl_0, bl_s, zsj, zbj, zaw, zbb, zby, *]
noncomputable def zcc : List Stmt := ((zap "law").map (·.body)).getD []
theorem zem {C : Cfg} {R : Rec} {sc : Scope} {σ σ1 : St} {i : Nat} {st : Stmt} {fl : Fl} {body : List Stmt} (hst : body[i]? = some st) (h : zbG C R sc st σ = some (.next, σ1)) (h2 : ∃ σ', za6 C R sc (body.drop (i + 1)) σ1 = some (fl, σ')) : ∃ σ', za6 C R sc (body.drop i) σ = some (fl, σ') := by
 obtain ⟨hi, rfl⟩ := List.getElem?_eq_some_iff.mp hst
 rw [List.drop_eq_getElem_cons hi]
 exact zj4 h h2
theorem ret_at {C : Cfg} {R : Rec} {sc : Scope} {σ σ1 : St} {i : Nat} {st : Stmt} {d : D} {body : List Stmt} (hst : body[i]? = some st) (h : zbG C R sc st σ = some (.ret d, σ1)) : ∃ σ', za6 C R sc (body.drop i) σ = some (.ret d, σ') := by
 obtain ⟨hi, rfl⟩ := List.getElem?_eq_some_iff.mp hst
 rw [List.drop_eq_getElem_cons hi]
 exact zlm h
theorem zwJ {σ : St} {ds : List D} : kB1 σ (some (.o (ds.map V.f))) = some (ds, σ) := by
 show (znq (ds.map V.f)).map (fun ds => (ds, σ)) = _
 rw [zwq]; rfl
theorem ztn {C : Cfg} {sc : Scope} {g x : Str} {σ : St} {cells : List Int} {k : Nat} {ds : List D} : kR C sc g x σ (some (zbE cells k)) (some ds) = kR2 sc x σ (C.TR g (zbE cells k) ds) := rfl
theorem nm_law_ok : True := trivial
noncomputable def zto : List (Str × NameKind) := [("script", .local), ("pool", .cell), ("n", .cell), ("a", .local), ("i", .local), ("j", .local), ("row", .local), ("values", .cell), ("value", .local), ("told", .local), ("due", .local), ("product", .local), ("one", .local), ("counts", .local), ("_law_draw", .globalImplicit), ("range", .globalImplicit), ("_law_condensed", .globalImplicit), ("_law_signed", .globalImplicit), ("ztrim", .globalImplicit), ("zat", .globalImplicit), ("determinant", .globalImplicit), ("zpower", .globalImplicit), ("enumerate", .globalImplicit), ("zmul", .globalImplicit)]
section
variable {C : Cfg} {i : Nat} {p : Pos} (a b c d e f g h j k l m n o : Option V)
@[irreducible] noncomputable def zah : St := ⟨[("script", a), ("a", b), ("i", c), ("j", d), ("row", e), ("value", f), ("told", g), ("due", h), ("product", j), ("one", k), ("counts", l)], [("pool", m), ("n", n), ("values", o)]⟩
theorem zu7 : ⟨[("script", a), ("a", b), ("i", c), ("j", d), ("row", e), ("value", f), ("told", g), ("due", h), ("product", j), ("one", k), ("counts", l)], [("pool", m), ("n", n), ("values", o)]⟩ = zah a b c d e f g h j k l m n o := by unfold zah; rfl
theorem zc6 : (zah a b c d e f g h j k l m n o).k = [(("pool" : Str), m), (("n" : Str), n), (("values" : Str), o)] := by unfold zah; rfl
theorem zgx : ∃ sc : Scope, sc.names = zto ∧ sc.kind = .function ∧ (zap "law").map (·.scope) = some sc := ⟨_, rfl, rfl, rfl⟩
noncomputable def zag : Scope := Classical.choose zgx
theorem zas : zag.names = zto := (Classical.choose_spec zgx).1
theorem zdK : zag.kind = .function := (Classical.choose_spec zgx).2.1
theorem ztp {dr : DefRec} (h : zap "law" = some dr) : dr.scope = zag := zdv h (Classical.choose_spec zgx).2.2
theorem zm6 : zag.names.lookup ("script" : Str) = some .local := by rw [zas]; rfl
theorem zg0 : zag.names.lookup ("pool" : Str) = some .cell := by rw [zas]; rfl
theorem ztq : zag.names.lookup ("n" : Str) = some .cell := by rw [zas]; rfl
theorem zjr : zag.names.lookup ("a" : Str) = some .local := by rw [zas]; rfl
theorem ztr : zag.names.lookup ("i" : Str) = some .local := by rw [zas]; rfl
theorem zgy : zag.names.lookup ("row" : Str) = some .local := by rw [zas]; rfl
theorem zts : zag.names.lookup ("j" : Str) = some .local := by rw [zas]; rfl
theorem zeV : zag.names.lookup ("values" : Str) = some .cell := by rw [zas]; rfl
theorem zjs : zag.names.lookup ("value" : Str) = some .local := by rw [zas]; rfl
theorem zkm : zag.names.lookup ("told" : Str) = some .local := by rw [zas]; rfl
theorem zm7 : zag.names.lookup ("due" : Str) = some .local := by rw [zas]; rfl
theorem zed : zag.names.lookup ("product" : Str) = some .local := by rw [zas]; rfl
theorem zm8 : zag.names.lookup ("one" : Str) = some .local := by rw [zas]; rfl
theorem zeW : zag.names.lookup ("counts" : Str) = some .local := by rw [zas]; rfl
theorem zjt : zag.names.lookup ("_law_draw" : Str) = some .globalImplicit := by rw [zas]; rfl
theorem zo1 : zag.names.lookup ("range" : Str) = some .globalImplicit := by rw [zas]; rfl
theorem zfs : zag.names.lookup ("_law_condensed" : Str) = some .globalImplicit := by rw [zas]; rfl
theorem zg1 : zag.names.lookup ("_law_signed" : Str) = some .globalImplicit := by rw [zas]; rfl
theorem zo2 : zag.names.lookup ("ztrim" : Str) = some .globalImplicit := by rw [zas]; rfl
theorem ztt : zag.names.lookup ("zat" : Str) = some .globalImplicit := by rw [zas]; rfl
theorem zg2 : zag.names.lookup ("determinant" : Str) = some .globalImplicit := by rw [zas]; rfl
theorem zm9 : zag.names.lookup ("zpower" : Str) = some .globalImplicit := by rw [zas]; rfl
theorem zju : zag.names.lookup ("enumerate" : Str) = some .globalImplicit := by rw [zas]; rfl
theorem zre : zag.names.lookup ("zmul" : Str) = some .globalImplicit := by rw [zas]; rfl
theorem zna : (ER C (i + 1)).p zag (.Name "script" p) (zah a b c d e f g h j k l m n o) = a := zad rfl (by unfold zah; exact (zam zm6).trans rfl)
theorem zrf : St.get zag "pool" (zah a b c d e f g h j k l m n o) = m := (by unfold zah; exact (zin zg0).trans rfl)
theorem zrg (w : V) : St.set zag "pool" w (zah a b c d e f g h j k l m n o) = some (zah a b c d e f g h j k l (some w) n o) := (by unfold zah; exact (zl0 zg0 rfl).trans rfl)
theorem zrh (hp : C.pins = []) (w : V) : St.put C zag "pool" w (zah a b c d e f g h j k l m n o) = some (zah a b c d e f g h j k l (some w) n o) := zan (by rw [hp]; rfl) (by unfold zah; exact (zl0 zg0 rfl).trans rfl)
theorem zee : (ER C (i + 1)).p zag (.Name "n" p) (zah a b c d e f g h j k l m n o) = n := zad rfl (by unfold zah; exact (zin ztq).trans rfl)
theorem zwK (hp : C.pins = []) (w : V) : St.put C zag "n" w (zah a b c d e f g h j k l m n o) = some (zah a b c d e f g h j k l m (some w) o) := zan (by rw [hp]; rfl) (by unfold zah; exact (zl0 ztq rfl).trans rfl)
theorem ztu : (ER C (i + 1)).p zag (.Name "a" p) (zah a b c d e f g h j k l m n o) = b := zad rfl (by unfold zah; exact (zam zjr).trans rfl)
theorem zo3 (w : V) : St.set zag "a" w (zah a b c d e f g h j k l m n o) = some (zah a (some w) c d e f g h j k l m n o) := (by unfold zah; exact (zax zjr rfl).trans rfl)
theorem ztv : St.get zag "a" (zah a b c d e f g h j k l m n o) = b := (by unfold zah; exact (zam zjr).trans rfl)
theorem zwL (hp : C.pins = []) (w : V) : St.put C zag "a" w (zah a b c d e f g h j k l m n o) = some (zah a (some w) c d e f g h j k l m n o) := zan (by rw [hp]; rfl) (by unfold zah; exact (zax zjr rfl).trans rfl)
theorem zlh : (ER C (i + 1)).p zag (.Name "i" p) (zah a b c d e f g h j k l m n o) = c := zad rfl (by unfold zah; exact (zam ztr).trans rfl)
theorem zwM (hp : C.pins = []) (w : V) : St.put C zag "i" w (zah a b c d e f g h j k l m n o) = some (zah a b (some w) d e f g h j k l m n o) := zan (by rw [hp]; rfl) (by unfold zah; exact (zax ztr rfl).trans rfl)
theorem zeX : (ER C (i + 1)).p zag (.Name "row" p) (zah a b c d e f g h j k l m n o) = e := zad rfl (by unfold zah; exact (zam zgy).trans rfl)
theorem znb (w : V) : St.set zag "row" w (zah a b c d e f g h j k l m n o) = some (zah a b c d (some w) f g h j k l m n o) := (by unfold zah; exact (zax zgy rfl).trans rfl)
theorem g_law_row : St.get zag "row" (zah a b c d e f g h j k l m n o) = e := (by unfold zah; exact (zam zgy).trans rfl)
theorem znc (hp : C.pins = []) (w : V) : St.put C zag "row" w (zah a b c d e f g h j k l m n o) = some (zah a b c d (some w) f g h j k l m n o) := zan (by rw [hp]; rfl) (by unfold zah; exact (zax zgy rfl).trans rfl)
theorem zwN : (ER C (i + 1)).p zag (.Name "j" p) (zah a b c d e f g h j k l m n o) = d := zad rfl (by unfold zah; exact (zam zts).trans rfl)
theorem zwO (hp : C.pins = []) (w : V) : St.put C zag "j" w (zah a b c d e f g h j k l m n o) = some (zah a b c (some w) e f g h j k l m n o) := zan (by rw [hp]; rfl) (by unfold zah; exact (zax zts rfl).trans rfl)
theorem zeY : (ER C (i + 1)).p zag (.Name "values" p) (zah a b c d e f g h j k l m n o) = o := zad rfl (by unfold zah; exact (zin zeV).trans rfl)
theorem zhz (w : V) : St.set zag "values" w (zah a b c d e f g h j k l m n o) = some (zah a b c d e f g h j k l m n (some w)) := (by unfold zah; exact (zl0 zeV rfl).trans rfl)
theorem zhA (hp : C.pins = []) (w : V) : St.put C zag "values" w (zah a b c d e f g h j k l m n o) = some (zah a b c d e f g h j k l m n (some w)) := zan (by rw [hp]; rfl) (by unfold zah; exact (zl0 zeV rfl).trans rfl)
theorem zo4 : (ER C (i + 1)).p zag (.Name "value" p) (zah a b c d e f g h j k l m n o) = f := zad rfl (by unfold zah; exact (zam zjs).trans rfl)
theorem zo5 (hp : C.pins = []) (w : V) : St.put C zag "value" w (zah a b c d e f g h j k l m n o) = some (zah a b c d e (some w) g h j k l m n o) := zan (by rw [hp]; rfl) (by unfold zah; exact (zax zjs rfl).trans rfl)
theorem zri : (ER C (i + 1)).p zag (.Name "told" p) (zah a b c d e f g h j k l m n o) = g := zad rfl (by unfold zah; exact (zam zkm).trans rfl)
theorem zrj (hp : C.pins = []) (w : V) : St.put C zag "told" w (zah a b c d e f g h j k l m n o) = some (zah a b c d e f (some w) h j k l m n o) := zan (by rw [hp]; rfl) (by unfold zah; exact (zax zkm rfl).trans rfl)
theorem znd : (ER C (i + 1)).p zag (.Name "due" p) (zah a b c d e f g h j k l m n o) = h := zad rfl (by unfold zah; exact (zam zm7).trans rfl)
theorem ztw (hp : C.pins = []) (w : V) : St.put C zag "due" w (zah a b c d e f g h j k l m n o) = some (zah a b c d e f g (some w) j k l m n o) := zan (by rw [hp]; rfl) (by unfold zah; exact (zax zm7 rfl).trans rfl)
theorem zgz : (ER C (i + 1)).p zag (.Name "product" p) (zah a b c d e f g h j k l m n o) = j := zad rfl (by unfold zah; exact (zam zed).trans rfl)
theorem zgA (w : V) : St.set zag "product" w (zah a b c d e f g h j k l m n o) = some (zah a b c d e f g h (some w) k l m n o) := (by unfold zah; exact (zax zed rfl).trans rfl)
theorem zgB (hp : C.pins = []) (w : V) : St.put C zag "product" w (zah a b c d e f g h j k l m n o) = some (zah a b c d e f g h (some w) k l m n o) := zan (by rw [hp]; rfl) (by unfold zah; exact (zax zed rfl).trans rfl)
theorem ztx : (ER C (i + 1)).p zag (.Name "one" p) (zah a b c d e f g h j k l m n o) = k := zad rfl (by unfold zah; exact (zam zm8).trans rfl)
theorem zty (hp : C.pins = []) (w : V) : St.put C zag "one" w (zah a b c d e f g h j k l m n o) = some (zah a b c d e f g h j (some w) l m n o) := zan (by rw [hp]; rfl) (by unfold zah; exact (zax zm8 rfl).trans rfl)
theorem zne : (ER C (i + 1)).p zag (.Name "counts" p) (zah a b c d e f g h j k l m n o) = l := zad rfl (by unfold zah; exact (zam zeW).trans rfl)
theorem znf (w : V) : St.set zag "counts" w (zah a b c d e f g h j k l m n o) = some (zah a b c d e f g h j k (some w) m n o) := (by unfold zah; exact (zax zeW rfl).trans rfl)
theorem zng (hp : C.pins = []) (w : V) : St.put C zag "counts" w (zah a b c d e f g h j k l m n o) = some (zah a b c d e f g h j k (some w) m n o) := zan (by rw [hp]; rfl) (by unfold zah; exact (zax zeW rfl).trans rfl)
end
theorem zjv {C : Cfg} (hr : C.refs = refs) : ztQ C zag "_law_draw" = true := zl1 hr zjt rfl
theorem zcA : zar zag "range" = true := zaz zo1
theorem zb1 {C : Cfg} (hr : C.refs = refs) : zch C zag "_law_condensed" = true := zbl hr zfs rfl
theorem zg3 {C : Cfg} (hr : C.refs = refs) : zch C zag "_law_signed" = true := zbl hr zg1 rfl
theorem zo6 {C : Cfg} (hr : C.refs = refs) : zch C zag "ztrim" = true := zbl hr zo2 rfl
theorem ztz {C : Cfg} (hr : C.refs = refs) : zch C zag "zat" = true := zbl hr ztt rfl
theorem zdL {C : Cfg} (hr : C.refs = refs) : zch C zag "determinant" = true := zbl hr zg2 rfl
theorem znh {C : Cfg} (hr : C.refs = refs) : zch C zag "zpower" = true := zbl hr zm9 rfl
theorem zjw : zar zag "enumerate" = true := zaz zju
theorem zrk {C : Cfg} (hr : C.refs = refs) : zch C zag "zmul" = true := zbl hr zre rfl
theorem law_0 : ∃ st, zcc[0]? = some st ∧ ∀ {C : Cfg} (hC : Cg C) (zs : List Int), zs.length ≤ 63 → zbG C (ER C 59) zag st (zah (some (.f (D.ints zs))) none none none none none none none none none none none none none) = some (.next, zah (some (.f (D.ints zs))) none none none none none none none none none none (some (zbE (zs.take 21) 0)) none none) := by
 refine ⟨_, rfl, fun {C} hC zs hl => ?_⟩
 have hCp := hC.pins
 have hf : zaI zs.length = true := zae (yet hl)
 have hpk : zbQ (some (21 : Int)) = true := rfl
 have hp : pick (zs.map D.int) none (some (21 : Int)) = (zs.take 21).map D.int := by rw [zls _ (by decide), List.map_take]; rfl
 have hl2 : (zs.take 21).length ≤ 63 := by rw [List.length_take]; exact yeu
 unfold zbE
 simp -implicitDefEqProofs only [zct, a_n, zg8, zbd, zbR, *]
 generalize zs.take 21 = cells at *
 have hf2 : zaI cells.length = true := zae (yet hl2)
 rw [zbe (ds := cells.map .int) (σ1 := zah (some (.f (D.ints zs))) none none none none none none none none none none none none none) (fun j => V.f (.int (cells.getD j 0))) hC.pins (zaH ⟨_, zas, rfl⟩) rfl rfl rfl (zav rfl) (by decide)]
 · rw [List.length_map, zcz cells fun x => x, List.map_id']
   simp -implicitDefEqProofs only [zaJ, zbd, e_c, za8, zaK, zwc, zdb, zrh, zaV, *]
   rfl
 · simp -implicitDefEqProofs only [zwp, zwa, q_n, zp8, zna, zwb, znE, ze5, q_c, zdS, p_c, zfM, List.length_map, zcv, zig, zbq, zsA, zll, *]
 · rw [List.length_map]; exact hf2
 · intro j d hd
   obtain rfl := zbL hd
   have h1 := @zqc C
   generalize hsc : zaF _ _ = sc'
   have e1 : sc'.names.lookup ("cell" : Str) = some .local := by rw [← hsc]; exact zav rfl
   have e4 : zar sc' "int" = true := zaz (by rw [← hsc]; exact zdw rfl)
   clear hsc hd
   simp -implicitDefEqProofs only [e_int, e_n, zaB, String.reduceBEq, zab, zbD, kInt_s, *]
structure Dr (C : Cfg) (cells : List Int) (dv : Nat → Nat → Int) : Prop where
 rng : ∀ (k m : Nat), 0 < m → 0 ≤ dv k m ∧ dv k m < m
 tr : ∀ (k m : Nat), k ≤ 1000 → 0 < m → m ≤ 100 → C.TR "_law_draw" (zbE cells k) [.int (m : Int)] = some (.int (dv k m), zbE cells (k + 1))
theorem law_1 : ∃ st, zcc[1]? = some st ∧ ∀ {C : Cfg} (hC : Cg C) {cells : List Int} {dv : Nat → Nat → Int} (hD : Dr C cells dv) (s : Option V), zbG C (ER C 59) zag st (zah s none none none none none none none none none none (some (zbE cells 0)) none none) = some (.next, zah s (some (.o [])) none none none none none none none none none (some (zbE cells 1)) (some (.f (.int (3 + dv 0 2)))) none) := by
 refine ⟨_, rfl, fun {C} hC cells dv hD s => ?_⟩
 have hCp := hC.pins
 have hCr := hC.refs
 have t := hD.tr 0 2 (by decide) (by decide) (by decide)
 have t' : C.TR "_law_draw" (zbE cells 0) [.int 2] = some (.int (dv 0 2), zbE cells 1) := t
 clear t hD
 simp -implicitDefEqProofs only [zct, ne_eq, zcX, String.reduceEq, not_false_eq_true, zwm, zwl, zex, Bool.and_false, zkJ, zrt, zbd, q_b, q_c, zif, zj0, e_c, zur, zjv, zaB, String.reduceBEq, zsm, zrf, zsq, p_c, zlU, zsp, zlV, ztn, zsn, zrg, zso, zbD, zkG, zaG, zkH, zaJ, zg8, za8, zjL, zaK, List.length_cons, List.length_nil, bl_0, bl_s, zpB, zb3, zwK, zbC, zwL, zcd, zaV, *]
theorem zni {C : Cfg} {R : Rec} {sc scope : Scope} {σ σ1 : St} {elt iter : Expr} {x : Str} {p : Pos} {ds : List D} (κs : Nat → zbt) (v : Nat → V) (hp : C.pins = []) (h1 : zbZ scope sc = true) (h3 : (scope.names.all fun x => x.2 != .free || has x.1 σ.k) = true)
 (hl : zbi scope = [(".0" : Str), x]) (hc : zaO scope = []) (hk : (zaF scope sc).names.lookup x = some .local) (hx : x ≠ ".0") (hi : zb2 R sc iter σ = some ((ds, false), σ1)) (hf : zaI ds.length = true) (h0 : σ1.k = κs 0)
 (h : ∀ (j : Nat) (d : D), ds[j]? = some d → R.e (zaF scope sc) elt ⟨[(".0", none), (x, some (.f d))], κs j⟩ = some (v j, ⟨[(".0", none), (x, some (.f d))], κs (j + 1)⟩)) :
 zfo C R sc elt [⟨.Name x p, iter, [], 0⟩] scope σ = some (.o ((List.range ds.length).map v), ⟨σ1.r, κs ds.length⟩) := by
 have hL := ziq (C := C) (R := R) (sc := zaF scope sc) (pairs := false) (target := .Name x p) (ifs := []) (em := zep R (zaF scope sc) elt) (fun j => ⟨[(".0", none), (x, zgM ds j)], κs j⟩) (fun j => [v j]) ds fun j d hd => by
  refine ⟨⟨[(".0", none), (x, some (.f d))], κs j⟩, ?_, .inl ⟨rfl, ?_⟩⟩
  · rw [zdu, zcY hp hk (by simp only [zcj]; simp)]
    simp only [upd, if_neg (Ne.symm hx), if_true]
  · have e : zgM ds (j + 1) = some (.f d) := by simp only [zgM, hd, Option.map_some]
    simp only [zep, h j d hd, Option.map_some, e]
 rw [zdT] at hL
 have := zir (C := C) (R := R) (sc := sc) (scope := scope) (σ := σ) (elt := elt) (g := ⟨.Name x p, iter, [], 0⟩) h1 rfl h3 hi (by
  rw [hl, hc]
  show zcr C R (zaF scope sc) false _ _ _ ds [] ⟨[(".0", none), (x, none)], σ1.k⟩ = _
  rw [h0]
  exact hL) (by rw [List.length_map, List.length_range]; exact hf)
 rw [this, hc]
 rfl
theorem zkn {a1 a2 a3 a4 a5 a6 a7 a8 a9 a10 a11 p p' n v : Option V} : (⟨(zah a1 a2 a3 a4 a5 a6 a7 a8 a9 a10 a11 p n v).r, [("pool", p'), ("n", n), ("values", v)]⟩ : St) = zah a1 a2 a3 a4 a5 a6 a7 a8 a9 a10 a11 p' n v := by unfold zah; rfl
theorem ztA {C : Cfg} {cells : List Int} {dv : Nat → Nat → Int} (hD : Dr C cells dv) {sc : Scope} {ρ : zbt} {a b : Option V} {i k m : Nat} {p q r s t u : Pos} {w w' : Nat} {c : Int} (h1 : sc.names.lookup ("pool" : Str) = some .cell) (h2 : ztQ C sc "_law_draw" = true) (hk : k ≤ 1000) (hm : 0 < m) (hm2 : m ≤ 100) :
 (ER C (i + 4)).e sc (.BinOp (.Call (.Name "_law_draw" p) [.Name "pool" q, .Constant (.int (m : Int)) w r] [] s) .Sub (.Constant (.int c) w' t) u) ⟨ρ, [("pool", some (zbE cells k)), ("n", a), ("values", b)]⟩ = some (.f (.int (dv k m - c)), ⟨ρ, [("pool", some (zbE cells (k + 1))), ("n", a), ("values", b)]⟩) := by
 have g1 : St.get sc "pool" ⟨ρ, [("pool", some (zbE cells k)), ("n", a), ("values", b)]⟩ = some (zbE cells k) := (zin h1).trans rfl
 have g2 : ∀ w, St.set sc "pool" w ⟨ρ, [("pool", some (zbE cells k)), ("n", a), ("values", b)]⟩ = some ⟨ρ, [("pool", some w), ("n", a), ("values", b)]⟩ := fun w => (zl0 h1 rfl).trans rfl
 have t := hD.tr k m hk hm hm2
 clear hD
 simp -implicitDefEqProofs only [q_b, zif, q_c, Bool.and_true, zj0, zaB, String.reduceBEq, zsm, zsq, p_c, zlU, zsp, zlV, ztn, zsn, zso, zur, e_c, zbD, zkG, zaN, zkH, *]
noncomputable def sg (x : Int) : Int := if 0 ≤ x then 1 else -1
noncomputable def ztR (r : List Int) : List Int := pick r none (some 1) ++ (pick r (some 1) (some (-1))).map sg ++ pick r (some (-1)) none
noncomputable def ztB (n i : Nat) (r : List Int) : Prop := r.length = n ∧ (∀ x ∈ r, -3 ≤ x ∧ x ≤ 3) ∧ (0 < i → i + 1 < n → ∀ j, 0 < j → j + 1 < n → r.getD j 0 = 1 ∨ r.getD j 0 = -1)
theorem zwP {n i : Nat} (hn : n = 3 ∨ n = 4) {r : List Int} (hl : r.length = n) (hb : ∀ x ∈ r, -3 ≤ x ∧ x ≤ 3) : ztB n i (ztR r) := by
 have sgb : ∀ x, (sg x = 1 ∨ sg x = -1) := fun x => by unfold sg; split <;> simp
 rcases hn with rfl | rfl
 · obtain ⟨a, b, c, rfl⟩ := l_3 hl
   · have e : ztR [a, b, c] = [a, sg b, c] := rfl
     rw [e]
     refine ⟨rfl, fun x hx => ?_, fun _ _ j h1 h2 => ?_⟩
     · have := sgb b; have := hb a (by simp); have := hb c (by simp)
       simp only [List.mem_cons, List.not_mem_nil, or_false] at hx
       rcases hx with rfl | rfl | rfl <;> omega
     · obtain rfl : j = 1 := by exact yes h1 h2
       exact sgb b
 · obtain ⟨a, b, c, d, rfl⟩ := l_4 hl
   · have e : ztR [a, b, c, d] = [a, sg b, sg c, d] := rfl
     rw [e]
     refine ⟨rfl, fun x hx => ?_, fun _ _ j h1 h2 => ?_⟩
     · have := sgb b; have := sgb c; have := hb a (by simp); have := hb d (by simp)
       simp only [List.mem_cons, List.not_mem_nil, or_false] at hx
       rcases hx with rfl | rfl | rfl | rfl <;> omega
     · obtain rfl | rfl : j = 1 ∨ j = 2 := by exact yer h1 h2
       · exact sgb b
       · exact sgb c
theorem law_2 : ∃ st, zcc[2]? = some st ∧ ∀ {C : Cfg} (hC : Cg C) {cells : List Int} {dv : Nat → Nat → Int} (hD : Dr C cells dv) (s : Option V) {n : Nat} (hn : n = 3 ∨ n = 4), Nxt (zbG C (ER C 59) zag st (zah s (some (.o [])) none none none none none none none none none (some (zbE cells 1)) (some (.f (.int n))) none))
 (fun σ => ∃ (rows : List (List Int)) (i ro : Option V), σ = zah s (some (.o ((rows.map D.ints).map V.f))) i none ro none none none none none none (some (zbE cells (1 + n * n))) (some (.f (.int n))) none ∧ rows.length = n ∧ ∀ r, r < n → ztB n r (rows.getD r [])) := by
 refine ⟨_, rfl, fun {C} hC cells dv hD s n hn => ?_⟩
 have hCp := hC.pins
 have hCr := hC.refs
 have hnn : n ≤ 100000 := by exact yee hn
 let G : List (List Int) → Option V → Option V → Nat → St := fun rows i ro k => zah s (some (.o ((rows.map D.ints).map V.f))) i none ro none none none none none none (some (zbE cells k)) (some (.f (.int n))) none
 refine zis (zcI (ds := zb6 0 n) (pr := false) (σ2 := G [] none none 1) (fun t σ => ∃ rows i ro, σ = G rows i ro (1 + n * t) ∧ rows.length = t ∧ ∀ r, r < t → ztB n r (rows.getD r [])) ?_ ⟨[], none, none, rfl, rfl, fun r h => by exact (yeq h).elim⟩ ?_) ?_
 · clear hD
   dsimp only [G]
   simp -implicitDefEqProofs only [zcA, zqa, e_n, zee, zab, zbD, zgL, List.map_nil, *]
 · rintro t d τ hd ⟨rows, io, ro, rfl, hl, hok⟩
   obtain ⟨rfl, ht⟩ := zaS hd
   rw [Int.zero_add]
   have hk : 1 + n * t ≤ 20 := by rcases hn with rfl | rfl <;> omega
   have ek : 1 + n * (t + 1) = 1 + n * t + n := by rw [Nat.mul_add]; exact yep
   rw [ek]
   generalize 1 + n * t = k at hk
   let r0 : List Int := (List.range n).map fun j => dv (k + j) 7 - 3
   have hr0 : r0.length = n := by simp [r0]
   have hb0 : ∀ x ∈ r0, -3 ≤ x ∧ x ≤ 3 := fun x hx => by
    obtain ⟨j, _, rfl⟩ := List.mem_map.mp hx
    have := hD.rng (k + j) 7 (by decide)
    exact ybG this
   have hf : zaI n = true := zae (yd8 hnn)
   have oka : ∀ (x : Str) (a c : Pos), zag.names.lookup x = some .local → (x == ("__debug__" : Str)) = false → (a.endLine == c.line) = true → zlY zag x "append" a c = true := fun x a c h1 h2 h3 => by
    unfold zlY
    rw [h1, h2, h3]; rfl
   have lk2 : zag.names.lookup ("a" : Str) = some .local := zjr
   have hfr : zaI rows.length = true := zae (yeo hnn hl ht)
   have fin : ∀ r : List Int, ztB n t r → (rows ++ [r]).length = t + 1 ∧ ∀ q, q < t + 1 → ztB n q ((rows ++ [r]).getD q []) := fun r hr => ⟨by simp [hl], fun q hq => by
    by_cases e : q = t
    · subst e
      have : (rows ++ [r]).getD q [] = r := by simp [List.getD, ← hl]
      rw [this]; exact hr
    · have : (rows ++ [r]).getD q [] = rows.getD q [] := by simp [List.getD, List.getElem?_append_left (show q < rows.length by exact yen hl hq e)]
      rw [this]; exact hok q (yem hq e)⟩
   have em : ∀ r : List Int, ((rows ++ [r]).map D.ints).map V.f = (rows.map D.ints).map V.f ++ [.f (D.ints r)] := fun r => by rw [List.map_append, List.map_append]; rfl
   refine ⟨G rows (some (.f (.int t))) ro k, ?_, zru (zfx (σ1 := G rows (some (.f (.int t))) (some (.o ((r0.map D.int).map V.f))) (k + n)) ?_ ?_)⟩
   · clear hD hok hd fin oka
     dsimp only [G]
     simp -implicitDefEqProofs only [zdu, zwM, *]
   · clear hok hd fin oka
     dsimp only [G]
     simp -implicitDefEqProofs only [zct, a_n, zbR, *]
     rw [zni (ds := zb6 0 n) (σ1 := zah s (some (.o ((rows.map D.ints).map V.f))) (some (.f (.int t))) none ro none none none none none none (some (zbE cells k)) (some (.f (.int n))) none) (fun j => [("pool", some (zbE cells (k + j))), ("n", some (.f (.int n))), ("values", none)]) (fun j => V.f (.int (dv (k + j) 7 - 3))) hC.pins (zaH ⟨_, zas, rfl⟩) (by rw [zc6]; rfl) rfl rfl (zav rfl) (by decide)]
     · rw [zaD, zkn]
       have e : (List.range n).map (fun j => V.f (.int (dv (k + j) 7 - 3))) = ((r0.map D.int).map V.f) := by simp [r0]
       rw [e]
       clear_value r0
       simp -implicitDefEqProofs only [zdb, znc, zaV, *]
     · clear hD
       simp -implicitDefEqProofs only [zcA, zqa, e_n, zee, zab, zbD, zgL, *]
     · rw [zaD]; exact hf
     · rw [zc6]; rfl
     · intro j d hd
       obtain ⟨rfl, hj⟩ := zaS hd
       exact ztA hD (by exact zb9 zdK (by rw [zas]; rfl) rfl) (zl1 hCr (zdw rfl) rfl) (ybt hn hk hj) (by decide) (by decide)
   · clear_value r0
     clear hD
     have hcase : (decide ((0 : Int) < (t : Int)) = true ∧ decide ((t : Int) < (n : Int) - 1) = true) ∨ ((decide ((0 : Int) < (t : Int)) = false ∨ decide ((t : Int) < (n : Int) - 1) = false) ∧ ¬(0 < t ∧ t + 1 < n)) := by
      by_cases h1 : 0 < t
      · by_cases h2 : t + 1 < n
        · left; exact ⟨by rw [decide_eq_true_eq]; exact yel h1, by rw [decide_eq_true_eq]; exact yek h2⟩
        · right; exact ⟨.inr (by rw [decide_eq_false_iff_not]; exact yej h2), fun h => h2 h.2⟩
      · right; exact ⟨.inl (by rw [decide_eq_false_iff_not]; exact yei h1), fun h => h1 h.1⟩
     rcases hcase with ⟨c1, c2⟩ | ⟨hc, hno⟩
     · obtain ⟨h1, h2⟩ := fin (ztR r0) (zwP hn hr0 hb0)
       refine zfx (σ1 := G rows (some (.f (.int t))) (some (.o (((ztR r0).map D.int).map V.f))) (k + n)) ?_ (zdd ⟨G (rows ++ [ztR r0]) (some (.f (.int t))) (some (.f (D.ints (ztR r0)))) (k + n), ?_, _, _, _, rfl, h1, h2⟩)
       · have p0 : zbQ (some (1 : Int)) = true := rfl
         have p1 : zbQ (some (-1 : Int)) = true := rfl
         have q0 : pick (r0.map D.int) none (some 1) = (pick r0 none (some 1)).map D.int := zkt ..
         have q1 : pick (r0.map D.int) (some 1) (some (-1)) = (pick r0 (some 1) (some (-1))).map D.int := zkt ..
         have q2 : pick (r0.map D.int) (some (-1)) none = (pick r0 (some (-1)) none).map D.int := zkt ..
         have er : ((ztR r0).map D.int).map V.f = ((pick r0 none (some 1)).map D.int ++ ((pick r0 (some 1) (some (-1))).map sg).map D.int ++ (pick r0 (some (-1)) none).map D.int).map V.f := by unfold ztR; simp
         have b0 : (pick r0 none (some 1)).length ≤ 4 := by unfold pick; rw [List.length_take, List.length_drop]; exact yaj hn hr0
         have b1 : (pick r0 (some 1) (some (-1))).length ≤ 4 := by unfold pick; rw [List.length_take, List.length_drop]; exact yaj hn hr0
         have b2 : (pick r0 (some (-1)) none).length ≤ 4 := by unfold pick; rw [List.length_take, List.length_drop]; exact yaA hn hr0
         generalize ztR r0 = r1 at *
         generalize pick r0 none (some 1) = x0 at *
         generalize pick r0 (some 1) (some (-1)) = x1 at *
         generalize pick r0 (some (-1)) none = x2 at *
         rw [er]
         have y0 : zaI x0.length = true := zae (yeh b0)
         have y1 : zaI x1.length = true := zae (yeh b1)
         have y2 : zaI x2.length = true := zae (yeh b2)
         have y3 : zaI (x0.length + x1.length) = true := zae (yeg b0 b1)
         have y4 : zaI (x0.length + x1.length + x2.length) = true := zae (yef b0 b1 b2)
         have y5 := fun (a b : List D) => List.length_append (as := a) (bs := b)
         clear h1 h2 hok hd fin oka em er hb0
         dsimp only [G]
         simp -implicitDefEqProofs only [zes, q_b, q_n, q_c, Bool.and_true, zpy, e_c, zus, zaw, e_n, zlh, zab, zut, zsr, tD3_t, e_b, p_b, zee, p_c, za3, zaN, za4, zbN, zaT, zaU, zgd, r_s, zdD, zct, a_n, q_s, zsh, Bool.and_false, zvn, zj0, zwa, zp8, zeX, zwJ, znE, ze5, zdS, zfM, List.length_map, zcv, zig, zbq, zp7, zbR, *]
         rw [zbe (ds := x1.map D.int) (σ1 := zah s (some (.o ((rows.map D.ints).map V.f))) (some (.f (.int t))) none (some (.o ((r0.map D.int).map V.f))) none none none none none none (some (zbE cells (k + n))) (some (.f (.int n))) none) (fun j => V.f (.int (sg (x1.getD j 0)))) hC.pins (zaH ⟨_, zas, rfl⟩) rfl rfl rfl (zav rfl) (by decide)]
         · rw [List.length_map, zcz x1 sg]
           have yl : (x1.map sg).length = x1.length := List.length_map ..
           generalize x1.map sg = x3 at *
           simp -implicitDefEqProofs only [zbq, List.length_map, zpv, zp7, zwa, q_n, zp8, zeX, zwJ, znE, q_u, q_c, zdS, p_u, p_c, zeh, zfM, ze5, zcv, zig, zdb, znc, zaV, zbx, zer, *]
         · simp -implicitDefEqProofs only [zwp, zwa, q_n, zp8, zeX, zwJ, znE, q_c, zdS, p_c, zfM, q_u, p_u, zeh, List.length_map, zig, zbq, zsA, zll, *]
         · rw [List.length_map]; exact y1
         · intro j d hd
           obtain rfl := zbL hd
           have h1 := @zqc C
           generalize hsc : zaF _ _ = sc'
           have e1 : sc'.names.lookup ("number" : Str) = some .local := by rw [← hsc]; exact zav rfl
           clear hsc hd
           generalize x1.getD j 0 = x
           unfold sg
           by_cases q : 0 ≤ x
           · have c3 : decide (x ≥ 0) = true := by rw [decide_eq_true_eq]; exact q
             rw [if_pos q]
             clear q
             simp -implicitDefEqProofs only [zjH, zaY, e_n, zaB, String.reduceBEq, zab, zaZ, zaw, e_c, zaT, c_ge, zaU, zgb, *]
           · have c3 : decide (x ≥ 0) = false := by rw [decide_eq_false_iff_not]; exact q
             rw [if_neg q]
             clear q
             simp -implicitDefEqProofs only [zjH, zaY, e_n, zaB, String.reduceBEq, zab, zaZ, zaw, e_c, zaT, c_ge, zaU, zjK, q_u, q_c, e_u, p_u, p_c, zeh, zbN, *]
       · clear hok hd fin h1 h2
         clear hl
         dsimp only [G]
         rw [em]
         simp -implicitDefEqProofs only [zaB, String.reduceBEq, beq_self_eq_true, zst, ztv, zij, e_n, zeX, zbu, zbq, znb, zcs, zik, List.length_map, zil, zo3, zaV, *]
     · obtain ⟨h1, h2⟩ := fin r0 ⟨hr0, hb0, fun a b => absurd ⟨a, b⟩ hno⟩
       refine zfx (σ1 := G rows (some (.f (.int t))) (some (.o ((r0.map D.int).map V.f))) (k + n)) ?_ (zdd ⟨G (rows ++ [r0]) (some (.f (.int t))) (some (.f (D.ints r0))) (k + n), ?_, _, _, _, rfl, h1, h2⟩)
       · clear hok hd fin h1 h2 oka em hno
         dsimp only [G]
         rcases hc with c1 | c2
         · simp -implicitDefEqProofs only [zes, q_b, q_n, q_c, Bool.and_true, zpy, e_c, zus, zaw, e_n, zlh, zab, zut, zsr, tD3_f, zcW, r_s, zer, *]
         · rcases hq : decide ((0 : Int) < (t : Int)) with _ | _
           · simp -implicitDefEqProofs only [zes, q_b, q_n, q_c, Bool.and_true, zpy, e_c, zus, zaw, e_n, zlh, zab, zut, zsr, tD3_f, zcW, r_s, zer, *]
           · simp -implicitDefEqProofs only [zes, q_b, q_n, q_c, Bool.and_true, zpy, e_c, zus, zaw, e_n, zlh, zab, zut, zsr, tD3_t, e_b, p_b, zee, p_c, za3, zaN, za4, zbN, zaT, zaU, zcW, r_s, zer, *]
       · clear hok hd fin h1 h2 hno hc
         clear hl
         dsimp only [G]
         rw [em]
         simp -implicitDefEqProofs only [zaB, String.reduceBEq, beq_self_eq_true, zst, ztv, zij, e_n, zeX, zbu, zbq, znb, zcs, zik, List.length_map, zil, zo3, zaV, *]
 · rintro σ ⟨rows, i, ro, rfl, hl, hok⟩
   rw [zaD] at hl hok ⊢
   exact ⟨rows, i, ro, rfl, hl, hok⟩
noncomputable def zwQ (x : Int) : Int := if x < 0 then x else x + 1
theorem law_3 : ∃ st, zcc[3]? = some st ∧ ∀ {C : Cfg} (hC : Cg C) {cells : List Int} {dv : Nat → Nat → Int} (hD : Dr C cells dv) (s a i ro : Option V) {n k : Nat} (hn : n = 3 ∨ n = 4) (hk : k ≤ 50), zbG C (ER C 59) zag st (zah s a i none ro none none none none none none (some (zbE cells k)) (some (.f (.int n))) none) =
 some (.next, zah s a i none ro none none none none none none (some (zbE cells (k + n))) (some (.f (.int n))) (some (.o ((((List.range n).map fun j => dv (k + j) 6 - 3).map D.int).map V.f)))) := by
 refine ⟨_, rfl, fun {C} hC cells dv hD s a i ro n k hn hk => ?_⟩
 have hCp := hC.pins
 have hCr := hC.refs
 have hnn : n ≤ 100000 := by exact yee hn
 have hf : zaI n = true := zae (yd8 hnn)
 have e : (List.range n).map (fun j => V.f (.int (dv (k + j) 6 - 3))) = ((((List.range n).map fun j => dv (k + j) 6 - 3).map D.int).map V.f) := by simp
 simp -implicitDefEqProofs only [zct, a_n, zbR, *]
 rw [zni (ds := zb6 0 n) (σ1 := zah s a i none ro none none none none none none (some (zbE cells k)) (some (.f (.int n))) none) (fun j => [("pool", some (zbE cells (k + j))), ("n", some (.f (.int n))), ("values", none)]) (fun j => V.f (.int (dv (k + j) 6 - 3))) hC.pins (zaH ⟨_, zas, rfl⟩) (by rw [zc6]; rfl) rfl rfl (zav rfl) (by decide)]
 · rw [zaD, zkn, e]
   generalize (List.range n).map (fun j => dv (k + j) 6 - 3) = r0
   simp -implicitDefEqProofs only [zdb, zhA, zaV, *]
 · clear hD
   simp -implicitDefEqProofs only [zcA, zqa, e_n, zee, zab, zbD, zgL, *]
 · rw [zaD]; exact hf
 · rw [zc6]; rfl
 · intro j d hd
   obtain ⟨rfl, hj⟩ := zaS hd
   exact ztA hD (by exact zb9 zdK (by rw [zas]; rfl) rfl) (zl1 hCr (zdw rfl) rfl) (ybs hn hk hj) (by decide) (by decide)
theorem law_4 : ∃ st, zcc[4]? = some st ∧ ∀ {C : Cfg} (hC : Cg C) (s a i ro p n : Option V) {vs : List Int} (hl : vs.length ≤ 10), zbG C (ER C 59) zag st (zah s a i none ro none none none none none none p n (some (.o ((vs.map D.int).map V.f)))) =
 some (.next, zah s a i none ro none none none none none none p n (some (.o (((vs.map zwQ).map D.int).map V.f)))) := by
 refine ⟨_, rfl, fun {C} hC s a i ro p n vs hl => ?_⟩
 have hCp := hC.pins
 have hf : zaI vs.length = true := zae (yeb hl)
 simp -implicitDefEqProofs only [zct, a_n, zbR, *]
 rw [zbe (ds := vs.map .int) (σ1 := zah s a i none ro none none none none none none p n (some (.f (D.ints vs)))) (fun j => V.f (.int (zwQ (vs.getD j 0)))) hC.pins (zaH ⟨_, zas, rfl⟩) rfl rfl rfl (zav rfl) (by decide)]
 · rw [List.length_map, zcz vs zwQ]
   generalize vs.map zwQ = ws
   simp -implicitDefEqProofs only [zdb, zhA, zaV, *]
 · simp -implicitDefEqProofs only [i_n, e_n, zeY, zbu, zbq, zhz, zcs, List.length_map, zdc, zll, *]
 · rw [List.length_map]; exact hf
 · intro j d hd
   obtain rfl := zbL hd
   rw [zc6]
   have h1 := @zqc C
   generalize hsc : zaF _ _ = sc'
   have e1 : sc'.names.lookup ("value" : Str) = some .local := by rw [← hsc]; exact zav rfl
   clear hsc hd
   generalize vs.getD j 0 = x
   unfold zwQ
   by_cases q : x < 0
   · have c3 : decide (x < 0) = true := by rw [decide_eq_true_eq]; exact q
     rw [if_pos q]
     clear q
     simp -implicitDefEqProofs only [zjH, zaY, e_n, zaB, String.reduceBEq, zab, zaZ, zaw, e_c, zaT, zsr, zaU, zgb, *]
   · have c3 : decide (x < 0) = false := by rw [decide_eq_false_iff_not]; exact q
     rw [if_neg q]
     clear q
     simp -implicitDefEqProofs only [zjH, zaY, e_n, zaB, String.reduceBEq, zab, zaZ, zaw, e_c, zaT, zsr, zaU, zjK, q_b, q_n, q_c, Bool.and_true, e_b, p_b, p_c, za3, zaG, za4, zbN, *]
theorem law_5 : ∃ st, zcc[5]? = some st ∧ ∀ {C : Cfg} (hC : Cg C) (s i ro p n v : Option V) {rows : List (List Int)} {td du : List Int} {w : Int} (t1 : C.T "_law_condensed" [.lst (rows.map D.ints)] = some (D.ints td)) (t2 : C.T "_law_signed" [.lst (rows.map D.ints)] = some (.tup [D.ints du, .int w])), zbG C (ER C 59) zag st (zah s (some (.o ((rows.map D.ints).map V.f))) i none ro none none none none none none p n v) =
 some (.next, zah s (some (.f (.lst (rows.map D.ints)))) i none ro none (some (.f (D.ints td))) (some (.f (.tup [D.ints du, .int w]))) none none none p n v) := by
 refine ⟨_, rfl, fun {C} hC s i ro p n v rows td du w t1 t2 => ?_⟩
 have hCp := hC.pins
 have hCr := hC.refs
 simp -implicitDefEqProofs only [zct, ne_eq, zcX, String.reduceEq, not_false_eq_true, zex, Bool.and_false, zrt, zbd, zb1, zbS, e_n, ztu, zbu, zbq, zo3, zcs, zaJ, za8, zaK, zhX, zbj, zaw, zbb, zcV, zg3, zab, List.length_cons, List.length_nil, bl_0, bl_s, zpB, zb3, zrj, zbC, ztw, zcd, zaV, *]
theorem law_6 : ∃ st, zcc[6]? = some st ∧ ∀ {C : Cfg} (hC : Cg C) (s i ro p n v : Option V) {rows : List (List Int)} {td du : List Int} {w z : Int} (t1 : C.T "ztrim" [D.ints du] = some (D.ints td)) (t2 : C.T "zat" [D.ints td, .int (-1)] = some (.int z)) (t3 : C.T "determinant" [.lst (rows.map D.ints)] = some (.int z)), zbG C (ER C 59) zag st (zah s (some (.f (.lst (rows.map D.ints)))) i none ro none (some (.f (D.ints td))) (some (.f (.tup [D.ints du, .int w]))) none none none p n v) =
 some (.next, zah s (some (.f (.lst (rows.map D.ints)))) i none ro none (some (.f (D.ints td))) (some (.f (.tup [D.ints du, .int w]))) none none none p n v) := by
 refine ⟨_, rfl, fun {C} hC s i ro p n v rows td du w z t1 t2 t3 => ?_⟩
 have hCp := hC.pins
 have hCr := hC.refs
 have i1 : idx [D.ints du, .int w] 0 = some (D.ints du) := rfl
 have c1 : (!(td == td)) = false := by rw [beq_self_eq_true]; rfl
 have c2 : (!(z == z)) = false := by rw [beq_self_eq_true]; rfl
 simp -implicitDefEqProofs only [zes, t_or3, zaY, e_n, zri, zab, zaZ, zaw, ztP, zaT, zvs, zaU, tOr3_f, zo6, zbS, zbd, q_s, q_n, q_c, Bool.and_true, e_s, p_s, znd, p_c, zsi, znD, zbN, zaJ, za8, zaK, zhX, zbj, zbb, zcV, zwi, beq_self_eq_true, Bool.not_true, zwf, ztz, q_u, e_u, p_u, zeh, zdL, ztu, zlW, zcW, r_s, zer, *]
theorem law_7 : ∃ st, zcc[7]? = some st ∧ ∀ {C : Cfg} (hC : Cg C) (s a i ro td du p v : Option V) {n : Nat} (hn : n = 3 ∨ n = 4) {pw : List Int} (t1 : C.T "_law_condensed" [.lst ((List.replicate n (List.replicate n (1 : Int))).map D.ints)] = some (D.ints pw)) (t2 : C.T "zpower" [D.ints [1, 1], .int ((n * (n - 1) / 2 : Nat) : Int)] = some (D.ints pw)), zbG C (ER C 59) zag st (zah s a i none ro none td du none none none p (some (.f (.int n))) v) = some (.next, zah s a i none ro none td du none none none p (some (.f (.int n))) v) := by
 refine ⟨_, rfl, fun {C} hC s a i ro td du p v n hn pw t1 t2 => ?_⟩
 have hCp := hC.pins
 have hCr := hC.refs
 have hnn : n ≤ 100000 := by exact yee hn
 have hf : zaI n = true := zae (yd8 hnn)
 have m1 : zbh .Mult (n : Int) ((n : Int) - 1) = some (((n * (n - 1) : Nat) : Int)) := by rcases hn with rfl | rfl <;> rfl
 have m2 : zbh .FloorDiv ((n * (n - 1) : Nat) : Int) 2 = some ((n * (n - 1) / 2 : Nat) : Int) := by rcases hn with rfl | rfl <;> rfl
 have c1 : (!(pw == pw)) = false := by rw [beq_self_eq_true]; rfl
 have e1 : V.frzL [V.o ((List.range n).map fun _ => V.o (List.replicate n (V.f (.int 1))))] = [.lst ((List.replicate n (List.replicate n (1 : Int))).map D.ints)] := by rcases hn with rfl | rfl <;> rfl
 simp -implicitDefEqProofs only [zes, zaY, zb1, zbS, zbd, zbR, *]
 rw [zbe (ds := zb6 0 n) (σ1 := zah s a i none ro none td du none none none p (some (.f (.int n))) v) (fun _ => V.o (List.replicate n (V.f (.int 1)))) hC.pins (zaH ⟨_, zas, rfl⟩) (by rw [zc6]; rfl) rfl rfl (zav rfl) (by decide)]
 · rw [zaD, zaJ, za8, zaK, zhX, e1, t1]
   clear t1 e1
   have e2 : V.frzL [V.o [V.f (D.int 1), V.f (D.int 1)], V.f (D.int ((n * (n - 1) / 2 : Nat) : Int))] = [D.ints [1, 1], .int ((n * (n - 1) / 2 : Nat) : Int)] := rfl
   have e3 : D.ints [1, 1] = .lst [.int 1, .int 1] := rfl
   rw [e3] at t2
   clear e3 e2
   simp -implicitDefEqProofs only [zcV, zaZ, zaw, znh, zbS, zbd, zg8, e_c, zaJ, za8, zaK, zwc, q_b, q_n, q_c, Bool.and_true, e_b, p_b, zee, p_c, za3, zaN, za4, zbN, zhX, zbj, zdR, zbb, zaT, zwi, beq_self_eq_true, Bool.not_true, zaU, zcW, r_s, zer, *]
 · simp -implicitDefEqProofs only [zcA, zqa, e_n, zee, zab, zbD, zgL, *]
 · rw [zaD]; exact hf
 · intro j d hd
   obtain ⟨rfl, hj⟩ := zaS hd
   rw [zc6]
   generalize hsc : zaF _ _ = sc'
   have e3 : ∀ (i : Nat) (q : Pos) (ρ : zbt), (ER C (i + 1)).p sc' (.Name "n" q) ⟨ρ, [("pool", p), ("n", some (.f (.int n))), ("values", v)]⟩ = some (.f (.int n)) := fun i p ρ => zrv (by rw [← hsc]; exact zb9 zdK (by rw [zas]; rfl) rfl) rfl rfl
   clear hsc hd t1 t2 e1
   simp -implicitDefEqProofs only [q_b, zew, q_n, Bool.and_true, zj0, zg8, zbd, e_c, zaJ, za8, zaK, zgc, zvo, e_n, zab, zbD, zg7, zaw, *]
noncomputable def prI (vs : List Int) (j : Nat) (acc : List Int) : Nat → List Int
 | 0 => acc
 | t + 1 => zb0 (prI vs j acc t) [vs.getD t 0, vs.getD j 0]
noncomputable def prO (vs : List Int) : Nat → List Int
 | 0 => [1]
 | j + 1 => prI vs j (prO vs j) j
theorem zko {C : Cfg} {R : Rec} {sc scope : Scope} {σ σ1 : St} {elt iter : Expr} {x : Str} {p : Pos} {ds : List D} (v : Nat → V) (hp : C.pins = []) (h1 : zbZ scope sc = true) (h3 : (scope.names.all fun x => x.2 != .free || has x.1 σ.k) = true)
 (hl : zbi scope = [(".0" : Str)]) (hc : zaO scope = [x]) (hk : (zaF scope sc).names.lookup x = some .cell) (hi : zb2 R sc iter σ = some ((ds, false), σ1)) (hf : zaI ds.length = true)
 (h : ∀ (j : Nat) (d : D), ds[j]? = some d → R.e (zaF scope sc) elt ⟨[(".0", none)], (x, some (.f d)) :: σ1.k⟩ = some (v j, ⟨[(".0", none)], (x, some (.f d)) :: σ1.k⟩)) :
 zfo C R sc elt [⟨.Name x p, iter, [], 0⟩] scope σ = some (.o ((List.range ds.length).map v), σ1) := by
 have hL := ziq (C := C) (R := R) (sc := zaF scope sc) (pairs := false) (target := .Name x p) (ifs := []) (em := zep R (zaF scope sc) elt) (fun j => ⟨[(".0", none)], (x, zgM ds j) :: σ1.k⟩) (fun j => [v j]) ds fun j d hd => by
  refine ⟨⟨[(".0", none)], (x, some (.f d)) :: σ1.k⟩, ?_, .inl ⟨rfl, ?_⟩⟩
  · rw [zdu]
    refine zan (by rw [hp]; rfl) ((zl0 hk (by simp only [zcj]; simp)).trans ?_)
    simp only [upd, if_true]
  · have e : zgM ds (j + 1) = some (.f d) := by simp only [zgM, hd, Option.map_some]
    simp only [zep, h j d hd, Option.map_some, e]
 rw [zdT] at hL
 have := zir (C := C) (R := R) (sc := sc) (scope := scope) (σ := σ) (elt := elt) (g := ⟨.Name x p, iter, [], 0⟩) h1 rfl h3 hi (by
  rw [hl, hc]
  exact hL) (by rw [List.length_map, List.length_range]; exact hf)
 rw [this, hc]
 rfl
theorem law_8 : ∃ st, zcc[8]? = some st ∧ ∀ {C : Cfg} (hC : Cg C) (s a i ro td du p n v : Option V), zbG C (ER C 59) zag st (zah s a i none ro none td du none none none p n v) = some (.next, zah s a i none ro none td du (some (.o (([1].map D.int).map V.f))) none none p n v) := by
 refine ⟨_, rfl, fun {C} hC s a i ro td du p n v => ?_⟩
 have hCp := hC.pins
 simp -implicitDefEqProofs only [zct, a_n, zg8, zbd, e_c, zaJ, za8, zaK, zgc, zdb, zgB, zaV, List.map_cons, List.map_nil, *]
theorem law_9 : ∃ st, zcc[9]? = some st ∧ ∀ {C : Cfg} (hC : Cg C) (s a i ro td du p n : Option V) {vs : List Int} (hl : vs.length ≤ 10) (hz : ∀ j t, j < vs.length → t < j → C.T "zmul" [D.ints (prI vs j (prO vs j) t), D.ints [vs.getD t 0, vs.getD j 0]] = some (D.ints (prI vs j (prO vs j) (t + 1)))),
 Nxt (zbG C (ER C 59) zag st (zah s a i none ro none td du (some (.o (([1].map D.int).map V.f))) none none p n (some (.o ((vs.map D.int).map V.f))))) (fun σ => ∃ jo vo pv oo, σ = zah s a i jo ro vo td du (some pv) oo none p n (some (.f (D.ints vs))) ∧ Rv (prO vs vs.length) pv) := by
 refine ⟨_, rfl, fun {C} hC s a i ro td du p n vs hl hz => ?_⟩
 have hCp := hC.pins
 have hCr := hC.refs
 have hf : zaI vs.length = true := zae (yeb hl)
 let G : Option V → Option V → V → Option V → St := fun jo vo pv oo => zah s a i jo ro vo td du (some pv) oo none p n (some (.f (D.ints vs)))
 refine zis (zcI (ds := zfn 0 (vs.map D.int)) (pr := true) (σ2 := G none none (.o (([1].map D.int).map V.f)) none) (fun j σ => ∃ jo vo pv oo, σ = G jo vo pv oo ∧ Rv (prO vs j) pv) ?_ ⟨_, _, _, _, rfl, .inl rfl⟩ ?_) ?_
 · clear hz
   dsimp only [G]
   simp -implicitDefEqProofs only [List.map_cons, List.map_nil, zjw, zpC, e_n, zeY, zbu, zbq, zhz, zcs, List.length_map, zhJ, iE_s, *]
 · rintro j d τ hd ⟨jo, vo, pv, oo, rfl, hpv⟩
   obtain ⟨hj, rfl⟩ := zgh hd
   have hz' := hz j
   have he : prO vs (j + 1) = prI vs j (prO vs j) j := rfl
   rw [he]
   generalize prO vs j = acc at *
   refine ⟨G (some (.f (.int j))) (some (.f (.int (vs.getD j 0)))) pv oo, ?_, zru (zdd (zis (zcI (ds := (vs.take j).map D.int) (pr := false) (σ2 := G (some (.f (.int j))) (some (.f (.int (vs.getD j 0)))) pv oo) (fun t σ => ∃ pv oo, σ = G (some (.f (.int j))) (some (.f (.int (vs.getD j 0)))) pv oo ∧ Rv (prI vs j acc t) pv) ?_ ⟨_, _, rfl, hpv⟩ ?_) ?_))⟩
   · clear hz hz' hd hpv he
     dsimp only [G]
     simp -implicitDefEqProofs only [zlZ, List.map_cons, List.map_nil, zb3, zwO, zbC, zo5, zcd, *]
   · have hpk : zbQ (some (j : Int)) = true := zio (yed) (yec hl hj)
     have hp : pick (vs.map D.int) none (some (j : Int)) = (vs.take j).map D.int := by rw [znH, List.map_take]
     have hf2 : zaI (vs.take j).length = true := zae (by rw [List.length_take]; exact ybz hl)
     clear hz hz' hd hpv he
     dsimp only [G]
     simp -implicitDefEqProofs only [zwp, zwa, q_n, zp8, zeY, zwb, znE, ze5, zdS, zwN, zfM, List.length_map, zcv, zig, zbq, zsA, zll, *]
   · rintro t d τ hd2 ⟨pv, oo, rfl, hpv⟩
     have ht : t < j := by have := (List.getElem?_eq_some_iff.mp hd2).1; rw [List.length_map, List.length_take] at this; exact ybV this
     obtain rfl := zbL hd2
     have e1 : (vs.take j).getD t 0 = vs.getD t 0 := by simp [List.getD, List.getElem?_take, ht]
     have t1 := hz' t hj ht
     rw [e1]
     have e2 : D.ints [vs.getD t 0, vs.getD j 0] = .lst [.int (vs.getD t 0), .int (vs.getD j 0)] := rfl
     rw [e2] at t1
     generalize prI vs j acc (t + 1) = acc2 at *
     generalize prI vs j acc t = acc1 at *
     generalize vs.getD t 0 = x at *
     generalize vs.getD j 0 = y at *
     have n1 : ∀ oo, zfq zag "product" (zah s a i (some (.f (.int j))) ro (some (.f (.int y))) td du (some pv) oo none p n (some (.f (D.ints vs)))) (some pv) = some (.f (D.ints acc1), zah s a i (some (.f (.int j))) ro (some (.f (.int y))) td du (some (.f (D.ints acc1))) oo none p n (some (.f (D.ints vs)))) := fun oo => ziP hpv (zgA ..) fun e => by rw [e]
     refine ⟨G (some (.f (.int j))) (some (.f (.int y))) pv (some (.f (.int x))), ?_, G (some (.f (.int j))) (some (.f (.int y))) (.f (D.ints acc2)) (some (.f (.int x))), ?_, _, _, rfl, .inr rfl⟩
     · clear hz hz' hd hpv hd2 he
       dsimp only [G]
       simp -implicitDefEqProofs only [zdu, zty, *]
     · clear hz hz' hd hpv hd2 he
       dsimp only [G]
       simp -implicitDefEqProofs only [r_s, zdD, zct, a_n, zrk, zbS, zbd, e_n, zgz, zaJ, zg8, ztx, zab, zo4, za8, zaK, zwc, zhX, zbj, zaw, zdR, zbb, zcV, zdb, zgB, zaV, zbx, zer, *]
   · rintro σ ⟨pv, oo, rfl, hpv⟩
     rw [List.length_map, List.length_take, Nat.min_eq_left (yb8 hj)] at hpv
     exact ⟨_, _, _, _, rfl, hpv⟩
 · rintro σ ⟨jo, vo, pv, oo, rfl, hpv⟩
   rw [zh0, List.length_map] at hpv
   exact ⟨_, _, _, _, rfl, hpv⟩
theorem law_12 : ∃ st, zcc[12]? = some st ∧ ∀ {C : Cfg} (hC : Cg C) (s a i jo ro vo td pd oo p n v : Option V) {cr : List (List Int)} {du : List Int} {w : Int} (t1 : C.T "determinant" [.lst (cr.map D.ints)] = some (.int w)), ∃ σ', zbG C (ER C 59) zag st (zah s a i jo ro vo td (some (.f (.tup [D.ints du, .int w]))) pd oo (some (.o (zln cr))) p n v) = some (.ret (.bool true), σ') := by
 refine ⟨_, rfl, fun {C} hC s a i jo ro vo td pd oo p n v cr du w t1 => ?_⟩
 have hCp := hC.pins
 have hCr := hC.refs
 have i1 : idx [D.ints du, .int w] 1 = some (.int w) := rfl
 have e1 := zlf cr
 refine ⟨zah s a i jo ro vo td (some (.f (.tup [D.ints du, .int w]))) pd oo (some (.f (.lst (cr.map D.ints)))) p n v, ?_⟩
 simp -implicitDefEqProofs only [zcl, e_cmp, zdL, zbS, zbd, e_n, zne, zbu, znf, zcs, zaJ, za8, zaK, zhX, zbj, zaw, zbb, zcV, eCm0_s, q_s, q_n, q_c, Bool.and_true, e_s, p_s, znd, p_c, zsi, znD, zbN, eCm1_s, zjI, beq_self_eq_true, eCm2_s, zby, *]
noncomputable def vdm (vs : List Int) (n : Nat) : List (List Int) := (List.range n).map fun i => vs.map fun x => x ^ (n - 1 - i)
theorem zvC (f : Nat → List Int) (n : Nat) : (List.range n).map (fun i => V.o (((f i).map D.int).map V.f)) = zln ((List.range n).map f) := by
 unfold zln
 rw [List.map_map]; rfl
theorem law_10 : ∃ st, zcc[10]? = some st ∧ ∀ {C : Cfg} (hC : Cg C) (s a i jo ro vo td du oo p : Option V) {n : Nat} (hn : n ≤ 10) {vs : List Int} (hl : vs.length = n) (hb : ∀ x ∈ vs, zbo x) {pd : List Int} {pv : V} (hpv : Rv pd pv) (t1 : C.T "_law_condensed" [.lst ((vdm vs n).map D.ints)] = some (D.ints pd)), ∃ τ, zbG C (ER C 59) zag st (zah s a i jo ro vo td du (some pv) oo none p (some (.f (.int n))) (some (.f (D.ints vs)))) = some (.next, τ) ∧ τ = zah s a i jo ro vo td du (some (.f (D.ints pd))) oo none p (some (.f (.int n))) (some (.f (D.ints vs))) := by
 refine ⟨_, rfl, fun {C} hC s a i jo ro vo td du oo p n hn vs hl hb pd pv hpv t1 => ⟨_, ?_, rfl⟩⟩
 have hCp := hC.pins
 have hCr := hC.refs
 have hnn : n ≤ 100000 := by exact yeb hn
 have hf : zaI n = true := zae (yd8 hnn)
 have c1 : (!(pd == pd)) = false := by rw [beq_self_eq_true]; rfl
 have n1 : zfq zag "product" (zah s a i jo ro vo td du (some pv) oo none p (some (.f (.int n))) (some (.f (D.ints vs)))) (some pv) = some (.f (D.ints pd), zah s a i jo ro vo td du (some (.f (D.ints pd))) oo none p (some (.f (.int n))) (some (.f (D.ints vs)))) := ziP hpv (zgA ..) fun e => by rw [e]
 simp -implicitDefEqProofs only [zes, zaY, zb1, zbS, zbd, zbR, *]
 rw [zko (ds := zb6 0 n) (σ1 := zah s a i jo ro vo td du (some pv) oo none p (some (.f (.int n))) (some (.f (D.ints vs)))) (fun i => V.o (((vs.map fun x => x ^ (n - 1 - i)).map D.int).map V.f)) hC.pins (zaH ⟨_, zas, rfl⟩) (by rw [zc6]; rfl) rfl rfl (by rw [zcw]; rfl)]
 · have e1 : V.frzL [V.o ((List.range (zb6 0 n).length).map fun i => V.o (((vs.map fun x => x ^ (n - 1 - i)).map D.int).map V.f))] = [.lst ((vdm vs n).map D.ints)] := by
    rw [zaD, zvC fun i => vs.map fun x => x ^ (n - 1 - i), zbj, zdR, zlf]; rfl
   rw [zaJ, za8, zaK, zhX, e1, t1]
   clear t1 e1 hpv
   simp -implicitDefEqProofs only [zcV, zaZ, zaw, e_n, zgz, zaT, zwi, beq_self_eq_true, Bool.not_true, zaU, zcW, r_s, zer, *]
 · simp -implicitDefEqProofs only [zcA, zqa, e_n, zee, zab, zbD, zgL, *]
 · rw [zaD]; exact hf
 · intro k d hd
   obtain ⟨rfl, hk⟩ := zaS hd
   rw [zc6, Int.zero_add]
   clear t1 n1 hpv hd
   generalize hsc : zaF _ _ = sc'
   have ln : sc'.names.lookup ("n" : Str) = some .cell := by rw [← hsc]; exact zb9 zdK (by rw [zas]; rfl) rfl
   have lv : sc'.names.lookup ("values" : Str) = some .cell := by rw [← hsc]; exact zb9 zdK (by rw [zas]; rfl) rfl
   have li : sc'.names.lookup ("i" : Str) = some .cell := by rw [← hsc, zcw]; rfl
   have kd : sc'.kind = .function := by rw [← hsc]; rfl
   have e4 : ∀ (i : Nat) (q : Pos), (ER C (i + 1)).p sc' (.Name "values" q) ⟨[(".0", none)], [("i", some (.f (.int k))), ("pool", p), ("n", some (.f (.int n))), ("values", some (.f (D.ints vs)))]⟩ = some (.f (D.ints vs)) := fun i q => zrv lv rfl rfl
   have hf2 : zaI vs.length = true := by rw [hl]; exact hf
   rw [zbR, zbe (ds := vs.map D.int) (σ1 := ⟨[(".0", none)], [("i", some (.f (.int k))), ("pool", p), ("n", some (.f (.int n))), ("values", some (.f (D.ints vs)))]⟩) (fun j => V.f (.int (vs.getD j 0 ^ (n - 1 - k)))) hC.pins (by unfold zbZ zf6; simp only [List.all_cons, List.all_nil, zvN, li, ln]; rfl) rfl rfl rfl (zav rfl) (by decide)]
   · rw [List.length_map, zcz vs fun x => x ^ (n - 1 - k)]
   · clear hsc
     simp -implicitDefEqProofs only [i_n, e_n, zab, List.length_map, zdc, zll, *]
   · rw [List.length_map]; exact hf2
   · intro j d hd
     obtain rfl := zbL hd
     have hj : j < vs.length := by have := (List.getElem?_eq_some_iff.mp hd).1; simpa using this
     have hx := hb _ (zcE hj)
     generalize vs.getD j 0 = x at hx
     have h1 := @zqc C
     have ee : (n : Int) - 1 - (k : Int) = ((n - 1 - k : Nat) : Int) := by exact yaI hk
     have pw : zbh .Pow x ((n - 1 - k : Nat) : Int) = some (x ^ (n - 1 - k)) := zsB hx (yaO hn)
     generalize hsc2 : zaF _ sc' = sc2
     have g1 : sc2.names.lookup ("value" : Str) = some .local := by rw [← hsc2]; exact zav rfl
     have g2 : ∀ (i : Nat) (q : Pos) (ρ : zbt), (ER C (i + 1)).p sc2 (.Name "n" q) ⟨ρ, [("i", some (.f (.int k))), ("pool", p), ("n", some (.f (.int n))), ("values", some (.f (D.ints vs)))]⟩ = some (.f (.int n)) := fun i q ρ => zrv (by rw [← hsc2]; exact zb9 kd ln rfl) rfl rfl
     have g3 : ∀ (i : Nat) (q : Pos) (ρ : zbt), (ER C (i + 1)).p sc2 (.Name "i" q) ⟨ρ, [("i", some (.f (.int k))), ("pool", p), ("n", some (.f (.int n))), ("values", some (.f (D.ints vs)))]⟩ = some (.f (.int k)) := fun i q ρ => zrv (by rw [← hsc2]; exact zb9 kd li rfl) rfl rfl
     clear hsc2 hsc hd hb hx
     simp -implicitDefEqProofs only [q_b, q_n, q_c, Bool.and_true, e_b, p_b, zaB, String.reduceBEq, p_c, za3, zaN, za4, zbN, *]
noncomputable def ztC (n : Nat) : List (List Int) := (List.range (n - 1)).map fun a => (List.range (n - 1)).map fun b => chF (((1 + a : Nat) : Int) + ((1 + b : Nat) : Int)) b + (if a = b then 1 else 0)
theorem law_11 : ∃ st, zcc[11]? = some st ∧ ∀ {C : Cfg} (hC : Cg C) (s a i jo ro vo td du pd oo p v : Option V) {n : Nat} (hn : n ≤ 10) (hn1 : 1 ≤ n) (t1 : ∀ a b, a < n - 1 → b < n - 1 → C.T "_law_choose" [.int (((1 + a : Nat) : Int) + ((1 + b : Nat) : Int)), .int (b : Int)] = some (.int (chF (((1 + a : Nat) : Int) + ((1 + b : Nat) : Int)) b))), zbG C (ER C 59) zag st (zah s a i jo ro vo td du pd oo none p (some (.f (.int n))) v) = some (.next, zah s a i jo ro vo td du pd oo (some (.o (zln (ztC n)))) p (some (.f (.int n))) v) := by
 refine ⟨_, rfl, fun {C} hC s a i jo ro vo td du pd oo p v n hn hn1 t1 => ?_⟩
 have hCp := hC.pins
 have hCr := hC.refs
 have hnn : n ≤ 100000 := by exact yeb hn
 have h1n : 1 ≤ 100000 := by decide
 have hf : zaI (n - 1) = true := zae (yea hn)
 have ir : ∀ σ : St, iR2 1 (some ((n : Int), σ)) = some ((zb6 1 (n - 1), false), σ) := fun σ => zsz (a := 1) (yd9) (yd8 hnn)
 clear h1n
 simp -implicitDefEqProofs only [zct, a_n, zbR, *]
 rw [zko (ds := zb6 1 (n - 1)) (σ1 := zah s a i jo ro vo td du pd oo none p (some (.f (.int n))) v) (fun i => V.o ((((List.range (n - 1)).map fun b => chF (((1 + i : Nat) : Int) + ((1 + b : Nat) : Int)) b + (if i = b then 1 else 0)).map D.int).map V.f)) hC.pins (zaH ⟨_, zas, rfl⟩) (by rw [zc6]; rfl) rfl rfl (by rw [zcw]; rfl)]
 · rw [zaD, zvC fun a => (List.range (n - 1)).map fun b => chF (((1 + a : Nat) : Int) + ((1 + b : Nat) : Int)) b + (if a = b then 1 else 0)]
   show _ = some (Fl.next, zah _ _ _ _ _ _ _ _ _ _ (some (.o (zln (ztC n)))) _ _ _)
   rw [show (List.range (n - 1)).map (fun a => (List.range (n - 1)).map fun b => chF (((1 + a : Nat) : Int) + ((1 + b : Nat) : Int)) b + (if a = b then 1 else 0)) = ztC n from rfl]
   generalize ztC n = cc
   clear t1
   simp -implicitDefEqProofs only [zdb, zng, zaV, *]
 · clear t1
   simp -implicitDefEqProofs only [zcA, i_r2, e_c, zbD, iR_s, e_n, zee, zab, *]
 · rw [zaD]; exact hf
 · intro k d hd
   obtain ⟨rfl, hk⟩ := zaS hd
   have ek : (1 : Int) + (k : Int) = ((1 + k : Nat) : Int) := by exact yd7
   rw [zc6, ek]
   have t2 := fun b hb => t1 k b hk hb
   clear t1 hd
   generalize hsc : zaF _ _ = sc'
   have ln : sc'.names.lookup ("n" : Str) = some .cell := by rw [← hsc]; exact zb9 zdK (by rw [zas]; rfl) rfl
   have li : sc'.names.lookup ("i" : Str) = some .cell := by rw [← hsc, zcw]; rfl
   have lr : zar sc' "range" = true := zaz (by rw [← hsc]; exact zdw rfl)
   have kd : sc'.kind = .function := by rw [← hsc]; rfl
   have e4 : ∀ (i : Nat) (q : Pos), (ER C (i + 1)).p sc' (.Name "n" q) ⟨[(".0", none)], [("i", some (.f (.int ((1 + k : Nat) : Int)))), ("pool", p), ("n", some (.f (.int n))), ("values", v)]⟩ = some (.f (.int n)) := fun i q => zrv ln rfl rfl
   rw [zbR, zbe (ds := zb6 1 (n - 1)) (σ1 := ⟨[(".0", none)], [("i", some (.f (.int ((1 + k : Nat) : Int)))), ("pool", p), ("n", some (.f (.int n))), ("values", v)]⟩) (fun b => V.f (.int (chF (((1 + k : Nat) : Int) + ((1 + b : Nat) : Int)) b + (if k = b then 1 else 0)))) hC.pins (by unfold zbZ zf6; simp only [List.all_cons, List.all_nil, zvN, li]; rfl) rfl rfl rfl (zav rfl) (by decide)]
   · rw [zaD, List.map_map, List.map_map]; rfl
   · clear hsc t2
     simp -implicitDefEqProofs only [i_r2, e_c, zbD, iR_s, e_n, zab, *]
   · rw [zaD]; exact hf
   · intro b d hd
     obtain ⟨rfl, hb⟩ := zaS hd
     have eb : (1 : Int) + (b : Int) = ((1 + b : Nat) : Int) := by exact yd7
     rw [eb]
     have t3 := t2 b hb
     have e5 : ((1 + b : Nat) : Int) - 1 = (b : Int) := by exact yd6
     have h1 := @zqc C
     generalize hsc2 : zaF _ sc' = sc2
     have g1 : sc2.names.lookup ("j" : Str) = some .local := by rw [← hsc2]; exact zav rfl
     have g3 : ∀ (i : Nat) (q : Pos) (ρ : zbt), (ER C (i + 1)).p sc2 (.Name "i" q) ⟨ρ, [("i", some (.f (.int ((1 + k : Nat) : Int)))), ("pool", p), ("n", some (.f (.int n))), ("values", v)]⟩ = some (.f (.int ((1 + k : Nat) : Int))) := fun i q ρ => zrv (by rw [← hsc2]; exact zb9 kd li rfl) rfl rfl
     have g4 : zch C sc2 "_law_choose" = true := zbl hC.refs (by rw [← hsc2]; exact zdw rfl) rfl
     generalize chF (((1 + k : Nat) : Int) + ((1 + b : Nat) : Int)) b = x at *
     clear hsc2 hsc hd t2
     by_cases q : k = b
     · have c1 : (((1 + k : Nat) : Int) == ((1 + b : Nat) : Int)) = true := by rw [beq_iff_eq]; exact yd5 q
       rw [if_pos q]
       clear q
       simp -implicitDefEqProofs only [q_b, zif, q_if, Bool.and_false, zj0, zbS, zbd, q_n, Bool.and_true, e_b, p_b, zaB, String.reduceBEq, za3, zaG, za4, zbN, zaJ, q_c, p_c, zaN, za8, zaK, zhX, zbj, zaw, zbb, zcV, zur, zjH, zaY, e_n, zab, zaZ, zaT, zjI, zaU, zgb, e_c, zbD, zkG, zkH, *]
     · have c1 : (((1 + k : Nat) : Int) == ((1 + b : Nat) : Int)) = false := by rw [beq_eq_false_iff_ne]; exact yd4 q
       rw [if_neg q]
       clear q
       simp -implicitDefEqProofs only [q_b, zif, q_if, Bool.and_false, zj0, zbS, zbd, q_n, Bool.and_true, e_b, p_b, zaB, String.reduceBEq, za3, zaG, za4, zbN, zaJ, q_c, p_c, zaN, za8, zaK, zhX, zbj, zaw, zbb, zcV, zur, zjH, zaY, e_n, zab, zaZ, zaT, zjI, zaU, zjK, e_c, zbD, zkG, zkH, *]
theorem zpQ (n : Nat) (xs : List Int) (h : xs.length < 900) : (tab (n + 1)).1 "ztrim" [D.ints xs] = some (D.ints (trim xs)) := za9 (znN (zcm n) h)
theorem t_neg (n : Nat) (xs : List Int) (h : xs.length < 900) : (tab (n + 1)).1 "zneg" [D.ints xs] = some (D.ints (xs.map fun x => -x)) := za9 (zqe (zcm n) h)
theorem zwR (n : Nat) (xs : List Int) (k : Int) (h : xs.length < 900) (hk : zbo k) : (tab (n + 1)).1 "zscale" [D.ints xs, .int k] = some (D.ints (if k = 0 then [] else xs.map fun x => x * k)) := za9 (zl8 (zcm n) h hk)
theorem ztD (n : Nat) (xs : List Int) (k : Nat) (h : xs.length < 900) (hk : k < 900) : (tab (n + 1)).1 "zraise" [D.ints xs, .int k] = some (D.ints (if xs.length = 0 then [] else List.replicate k 0 ++ xs)) := za9 (zmb (zcm n) h hk)
theorem t_zat (n : Nat) (xs : List Int) (z : Int) (h : xs.length < 900) (hz : zbo z) : (tab (n + 1)).1 "zat" [D.ints xs, .int z] = some (.int (ev xs z)) := za9 (zsI (zcm n) h hz)
theorem ztE (n : Nat) (a b : List Int) (ha : a.length < 900) (hb : b.length < 900) (hs : ∀ x ∈ a, zbo x) : (tab (n + 1)).1 "zmul" [D.ints a, D.ints b] = some (D.ints (zb0 a b)) := za9 (zqy (zcm n) ha hb hs)
theorem t_add (n : Nat) (a b : List Int) (ha : a.length < 900) (hb : b.length < 900) : (tab (n + 2)).1 "zadd" [D.ints a, D.ints b] = some (D.ints (trim (zhe a b))) := za9 (zqq (zcm (n + 1)) ha hb (zpQ n))
theorem t_sub (n : Nat) (a b : List Int) (ha : a.length < 900) (hb : b.length < 900) : (tab (n + 3)).1 "zsub" [D.ints a, D.ints b] = some (D.ints (trim (zhe a (b.map fun x => -x)))) := za9 (zqs (zcm (n + 2)) ha hb (t_add n) (t_neg (n + 1)))
theorem zt (n : Nat) : Zt (cfg (n + 3) []) := ⟨fun xs h h0 => za9 (zmh (zcm (n + 2)) h h0), zpQ (n + 2), zwR (n + 2), ztD (n + 2), t_sub n⟩
theorem zwS (n : Nat) {a b q : List Int} (ha : a.length < 200) (hb : b.length < 200) (hql : q.length < 200) (ta : Trd a) (tb : Trd b) (tq : Trd q) (nb : b ≠ []) (hev : ∀ X, ev a X = ev b X * ev q X) (bb : ∀ x ∈ b, x.natAbs ≤ 1000000000) (bq : ∀ x ∈ q, x.natAbs ≤ 1000000000) : (tab (n + 4)).1 "zexact" [D.ints a, D.ints b] = some (D.ints q) :=
 za9 (zmA (zcm (n + 3)) (zt n) ha hb hql ta tb tq nb hev bb bq)
theorem zwT (n : Nat) (a b : List Int) (ha : a.length < 900) (hb : b.length < 900) : (tab (n + 1)).1 "_law_turns" [D.ints a, D.ints b] = some (optD (zel a b)) := za9 (zoh (zcm n) ha hb)
theorem dt (n m : Nat) (hm : m ≤ 4) : Dt (cfg (n + 1) []) m := by
 constructor
 · intro f k hk
   have h := @zs0 n m k f (yd3 hm) hk
   dsimp only [cfg]
   exact h
 · intro f k h a b c d e g
   have h := @zs6 n m k f h (yd3 hm) a b c d e g
   dsimp only [cfg]
   exact h
theorem zwU (n m : Nat) {rows : List (List Int)} (hm : m ≤ 4) (hm0 : 0 < m) (hl : rows.length = m) (hr : ∀ i, i < m → (rows.getD i []).length = m) (hb : ∀ i j, i < m → j < m → (ent rows i j).natAbs ≤ 20) : (tab (n + 2)).1 "determinant" [.lst (rows.map D.ints)] = some (.int (znl (ent rows) m)) :=
 za9 (ztf (zcm (n + 1)) (dt n m hm) hm hm0 hl hr hb)
noncomputable def nrm (l : List Int) : Nat := (l.map Int.natAbs).sum
theorem zjx {l : List Int} {x : Int} (h : x ∈ l) : x.natAbs ≤ nrm l := by
 unfold nrm
 induction l with
 | nil => cases h
 | cons y l ih =>
  rw [List.map_cons, List.sum_cons]
  rcases List.mem_cons.mp h with rfl | h
  · exact yd2
  · have := ih h; exact yd1 this
theorem zbJ (x : Int) (l : List Int) : nrm (x :: l) = x.natAbs + nrm l := by unfold nrm; rw [List.map_cons, List.sum_cons]
theorem zjy (l : List Int) (k : Int) : nrm (l.map fun x => x * k) = nrm l * k.natAbs := by
 induction l with
 | nil => simp [nrm]
 | cons x l ih => rw [List.map_cons, zbJ, zbJ, ih, Int.natAbs_mul, Nat.add_mul]
theorem zrl (l : List Int) (k : Int) : nrm (l.map fun x => k * x) = k.natAbs * nrm l := by
 rw [← Nat.mul_comm, ← zjy]; simp only [Int.mul_comm]
theorem ztF (f : Nat → Int) : ∀ n, nrm ((List.range n).map f) ≤ ((List.range n).map fun j => (f j).natAbs).sum := fun n => by unfold nrm; rw [List.map_map]; exact Nat.le_refl _
theorem zpR (l : List Int) : ∀ n, ((List.range n).map fun j => (l.getD j 0).natAbs).sum ≤ nrm l := by
 induction l with
 | nil =>
  intro n
  have : ∀ l : List Nat, (l.map fun j => (([] : List Int).getD j 0).natAbs).sum = 0 := by
   intro l
   induction l with
   | nil => rfl
   | cons x l ih => rw [List.map_cons, List.sum_cons, ih]; rfl
  rw [this]; exact Nat.zero_le _
 | cons x l ih =>
  intro n
  cases n with
  | zero => simp
  | succ n =>
   rw [List.range_succ_eq_map, List.map_cons, List.sum_cons, List.map_map, zbJ]
   have := ih n
   have e : ((fun j => ((x :: l).getD j 0).natAbs) ∘ Nat.succ) = fun j => (l.getD j 0).natAbs := by funext j; simp [List.getD]
   rw [e]
   simp only [List.getD, List.getElem?_cons_zero, Option.getD_some] at *
   exact yd0 this
theorem zwV (f g : Nat → Nat) : ∀ l : List Nat, (l.map fun j => f j + g j).sum = (l.map f).sum + (l.map g).sum := by
 intro l
 induction l with
 | nil => rfl
 | cons x l ih => simp only [List.map_cons, List.sum_cons, ih]; exact ydZ
theorem sum_le (f g : Nat → Nat) (h : ∀ j, f j ≤ g j) : ∀ l : List Nat, (l.map f).sum ≤ (l.map g).sum := by
 intro l
 induction l with
 | nil => exact Nat.le_refl _
 | cons x l ih => simp only [List.map_cons, List.sum_cons]; have := h x; exact ybR ih this
theorem zli (a b : List Int) (n : Nat) : nrm ((List.range n).map fun j => a.getD j 0 + b.getD j 0) ≤ nrm a + nrm b := by
 refine Nat.le_trans (ztF _ n) ?_
 refine Nat.le_trans (sum_le _ (fun j => (a.getD j 0).natAbs + (b.getD j 0).natAbs) (fun j => Int.natAbs_add_le _ _) _) ?_
 rw [zwV]
 have := zpR a n; have := zpR b n
 exact ydY ‹_› this
theorem zu8 (a b : List Int) : nrm (zhe a b) ≤ nrm a + nrm b := zli a b _
theorem zu9 (a b : List Int) : nrm (za2 a b) ≤ nrm a + nrm b := zli a b _
theorem zef (l : List Int) : nrm (0 :: l) = nrm l := by rw [zbJ]; simp
theorem zrm (l : List Int) : nrm (zdo l) ≤ 2 * nrm l := by
 have := zli l (0 :: l) (min l.length ((0 : Int) :: l).length)
 rw [zef] at this
 unfold zdo; exact ydX this
theorem zkp (a b : List Int) : nrm (a ++ b) = nrm a + nrm b := by unfold nrm; rw [List.map_append, List.sum_append]
theorem zo7 (k : Nat) : nrm (List.replicate k 0) = 0 := by
 induction k with
 | zero => rfl
 | succ k ih => rw [List.replicate_succ, zef, ih]
theorem zpS (l : List Int) (k : Nat) : nrm (l.take k) ≤ nrm l := by
 have := zkp (l.take k) (l.drop k)
 rw [List.take_append_drop] at this
 exact ydW this
theorem zva (l : List Int) : nrm (trim l) ≤ nrm l := zpS l _
theorem nrm_cv (a b : List Int) : nrm (cv a b) ≤ nrm a * nrm b := by
 induction a with
 | nil => simp [cv, nrm]
 | cons x a ih =>
  rw [cv, zbJ]
  refine Nat.le_trans (zu8 _ _) ?_
  rw [zjy, zef, Nat.add_mul, Nat.mul_comm (nrm b)]
  exact ydV ih
theorem zwW (a b : List Int) (na : a ≠ []) (nb : b ≠ []) : zb0 a b = cv a b := by
 have hg := zsP (a := zb0 a b) (b := cv a b) fun X => by rw [zmt, zwy]
 apply List.ext_getElem (by rw [zpG a b na nb, (zmv a b na nb).1])
 intro i h1 h2
 have := hg i
 simpa [List.getD, List.getElem?_eq_getElem h1, List.getElem?_eq_getElem h2] using this
theorem zwX (a b : List Int) : nrm (zb0 a b) ≤ nrm a * nrm b := by
 by_cases na : a = []
 · subst na; unfold zb0; simp [nrm]
 by_cases nb : b = []
 · subst nb; unfold zb0; simp [nrm]
 rw [zwW a b na nb]
 exact nrm_cv a b
theorem zo8 {x : Int} {B : Nat} (h : x.natAbs ≤ B) (hB : B ≤ 1000000000) : zbo x := by unfold zbo; exact ydU h hB
theorem zwY {n : Nat} {A : Nat → Nat → Nat → List Int} (ht : ∀ k i j, k < n + 1 → i + k < n + 1 → j + k < n + 1 → Trd (A k i j) ∧ (A k i j).length < 60 ∧ nrm (A k i j) ≤ 1000000000) (hne : ∀ k i j, k + 1 < n → i + k + 1 < n → j + k + 1 < n → A k (i + 1) (j + 1) ≠ [])
 (hev : ∀ k i j, k + 1 < n → i + k + 1 < n → j + k + 1 < n → ∀ X, ev (A (k + 1) i j) X * ev (A (k + 1) (i + 1) (j + 1)) X + X * (ev (A (k + 1) i (j + 1)) X * ev (A (k + 1) (i + 1) j) X) = ev (A k (i + 1) (j + 1)) X * ev (A (k + 2) i j) X) : Cd (cfg 6 []) n A := by
 intro k i j hk hi hj
 obtain ⟨tP, lP, nP⟩ := ht (k + 1) i j (ydT hk) (ydS hi) (ydS hj)
 obtain ⟨tQ, lQ, nQ⟩ := ht (k + 1) (i + 1) (j + 1) (ydT hk) (ybm hi) (ybm hj)
 obtain ⟨tR, lR, nR⟩ := ht (k + 1) i (j + 1) (ydT hk) (ydS hi) (ybm hj)
 obtain ⟨tS, lS, nS⟩ := ht (k + 1) (i + 1) j (ydT hk) (ybm hi) (ydS hj)
 obtain ⟨tB, lB, nB⟩ := ht k (i + 1) (j + 1) (ybQ hk) (ydR hi) (ydR hj)
 obtain ⟨tN, lN, nN⟩ := ht (k + 2) i j (ydQ hk) (ydP hi) (ydP hj)
 have hv := hev k i j hk hi hj
 have hb := hne k i j hk hi hj
 generalize A (k + 1) i j = P at *
 generalize A (k + 1) (i + 1) (j + 1) = Q at *
 generalize A (k + 1) i (j + 1) = R at *
 generalize A (k + 1) (i + 1) j = S at *
 generalize A k (i + 1) (j + 1) = B at *
 generalize A (k + 2) i j = N at *
 have l1 := zfP P Q
 have l2 := zfP R S
 let up := if (zb0 R S).length = 0 then ([] : List Int) else List.replicate 1 0 ++ zb0 R S
 have lu : up.length ≤ (zb0 R S).length + 1 := by
  simp only [up]; split
  · simp
  · rw [List.length_append, List.length_replicate]; exact ydO
 have eu : ∀ X, ev up X = X * (ev R X * ev S X) := fun X => by
  rw [← zmt]
  simp only [up]; split
  · rename_i h; rw [List.length_eq_zero_iff.mp h]; simp [zbr]
  · rw [ziD, zdY, List.length_replicate, Int.pow_succ, Int.pow_zero, Int.one_mul, Int.zero_add]
 refine ⟨zb0 P Q, zb0 R S, up, trim (zhe (zb0 P Q) up), ztE 5 P Q (ydN lP) (ydN lQ) (fun x hx => zo8 (Nat.le_trans (zjx hx) nP) (Nat.le_refl _)), ztE 5 R S (ydN lR) (ydN lS) (fun x hx => zo8 (Nat.le_trans (zjx hx) nR) (Nat.le_refl _)), ztD 5 _ 1 (yby lR lS l2) (ydM), t_add 4 _ _ (yby lP lQ l1) (ydL lR lS l2 lu), ?_⟩
 refine zwS 2 ?_ (ydK lB) (ydK lN) (zdZ _) tB tN hb (fun X => ?_) (fun x hx => Nat.le_trans (zjx hx) nB) (fun x hx => Nat.le_trans (zjx hx) nN)
 · have := zc1 (zhe (zb0 P Q) up)
   rw [zh3] at this
   exact yav lP lQ lR lS l1 l2 lu this
 · rw [zcx, ziE, zmt, eu, hv]
theorem ztG {n : Nat} {A : Nat → Nat → Nat → List Int} {rows : List (List Int)} (hT : Cd (cfg 6 []) n A) (hn : n ≤ 10) (hn0 : 0 < n) (hl : rows.length = n) (hr : ∀ i, i < n → (rows.getD i []).length = n) (h0 : ∀ i j, A 0 i j = [1]) (h1 : ∀ i j, i < n → j < n → A 1 i j = trim [ent rows i j]) : (tab 7).1 "_law_condensed" [.lst (rows.map D.ints)] = some (D.ints (A n 0 0)) :=
 za9 (zq7 (zcm 6) hT (zpQ 5) hn hn0 hl hr h0 h1)
noncomputable def zvb : Nat → List Int
 | 0 => [1]
 | 1 => [1]
 | 2 => [1, 1]
 | 3 => [1, 3, 3, 1]
 | _ => [1, 6, 15, 20, 15, 6, 1]
theorem zc7 {l : List Int} (h : l.getD (l.length - 1) 0 ≠ 0) : Trd l := fun q => absurd q h
theorem zvc {n : Nat} (hn : n = 3 ∨ n = 4) : (tab 7).1 "_law_condensed" [.lst ((List.replicate n (List.replicate n (1 : Int))).map D.ints)] = some (D.ints (zvb n)) := by
 refine ztG (A := fun k _ _ => zvb k) (zwY (fun k i j hk _ _ => ?_) (fun k i j hk _ _ => ?_) fun k i j hk _ _ X => ?_) (yb4 hn) (ycf hn) List.length_replicate (fun i hi => ?_) (fun _ _ => rfl) fun i j hi hj => ?_
 · rcases le4c (show k ≤ 4 by exact ydJ hn hk) with rfl | rfl | rfl | rfl | rfl
   · exact ⟨zc7 (by decide), by decide, by decide⟩
   · exact ⟨zc7 (by decide), by decide, by decide⟩
   · exact ⟨zc7 (by decide), by decide, by decide⟩
   · exact ⟨zc7 (by decide), by decide, by decide⟩
   · exact ⟨zc7 (by decide), by decide, by decide⟩
 · rcases le4c (show k ≤ 4 by exact ydI hn hk) with rfl | rfl | rfl | rfl | rfl
   · exact List.cons_ne_nil _ _
   · exact List.cons_ne_nil _ _
   · exact List.cons_ne_nil _ _
   · exact List.cons_ne_nil _ _
   · exact List.cons_ne_nil _ _
 · rcases le2c (show k ≤ 2 by exact ydb hn hk) with rfl | rfl | rfl
   · simp only [zvb, zba, zbr]; grind
   · simp only [zvb, zba, zbr]; grind
   · simp only [zvb, zba, zbr]; grind
 · simp [List.getD, hi]
 · have : ent (List.replicate n (List.replicate n (1 : Int))) i j = 1 := by simp [ent, List.getD, hi, hj]
   rw [this]; exact (zfQ (zc7 (by decide))).symm
theorem mu1 : zb0 [1] [1, 1] = [1, 1] := by decide +kernel
theorem mu2 : zb0 [1, 1] [1, 1] = [1, 2, 1] := by decide +kernel
theorem mu3 : zb0 [1, 1] [1, 2, 1] = [1, 3, 3, 1] := by decide +kernel
theorem mu4 : zb0 [1] [1, 2, 1] = [1, 2, 1] := by decide +kernel
theorem mu5 : zb0 [1, 2, 1] [1, 2, 1] = [1, 4, 6, 4, 1] := by decide +kernel
theorem mu6 : zb0 [1, 2, 1] [1, 4, 6, 4, 1] = [1, 6, 15, 20, 15, 6, 1] := by decide +kernel
theorem zwZ {n : Nat} (hn : n = 3 ∨ n = 4) : (tab 7).1 "zpower" [D.ints [1, 1], .int ((n * (n - 1) / 2 : Nat) : Int)] = some (D.ints (zvb n)) := by
 rcases hn with rfl | rfl
 · have e : zsQ 2 [1] [1, 1] 3 = zvb 3 := by
    simp only [zsQ, mu1, mu2, mu3, zvb, Nat.reduceMod, Nat.reduceDiv, Nat.reduceLT, Nat.reduceEqDiff, if_true, if_false]
   rw [← e]
   refine za9 (zhj (M := 3) (zcm 6) (by decide) (by decide) ?_ (ztE 5))
   refine .inr ⟨by decide, by decide, by decide, by decide, .inr ⟨?_, ?_, ?_, ?_, ?_⟩⟩
   · show (zb0 [1] [1, 1]).length < 900; rw [mu1]; decide
   · show (zb0 [1, 1] [1, 1]).length < 900; rw [mu2]; decide
   · show ∀ x ∈ zb0 [1] [1, 1], _; rw [mu1]; decide
   · show ∀ x ∈ zb0 [1, 1] [1, 1], _; rw [mu2]; decide
   · rfl
 · have e : zsQ 3 [1] [1, 1] 6 = zvb 4 := by
    show zb0 (zb0 [1] (zb0 [1, 1] [1, 1])) (zb0 (zb0 [1, 1] [1, 1]) (zb0 [1, 1] [1, 1])) = _
    rw [mu2, mu4, mu5, mu6]; rfl
   rw [← e]
   refine za9 (zhj (M := 6) (zcm 6) (by decide) (by decide) ?_ (ztE 5))
   refine .inr ⟨by decide, by decide, by decide, by decide, .inr ⟨?_, ?_, ?_, ?_, .inr ⟨?_, ?_, ?_, ?_, ?_⟩⟩⟩
   · decide
   · show (zb0 [1, 1] [1, 1]).length < 900; rw [mu2]; decide
   · decide
   · show ∀ x ∈ zb0 [1, 1] [1, 1], _; rw [mu2]; decide
   · show (zb0 [1] (zb0 [1, 1] [1, 1])).length < 900; rw [mu2, mu4]; decide
   · show (zb0 (zb0 [1, 1] [1, 1]) (zb0 [1, 1] [1, 1])).length < 900; rw [mu2, mu5]; decide
   · show ∀ x ∈ zb0 [1] (zb0 [1, 1] [1, 1]), _; rw [mu2, mu4]; decide
   · show ∀ x ∈ zb0 (zb0 [1, 1] [1, 1]) (zb0 [1, 1] [1, 1]), _; rw [mu2, mu5]; decide
   · rfl
theorem zeZ {vs : List Int} (j : Nat) (hj : vs.getD j 0 ≠ 0) (hb : ∀ i, (vs.getD i 0).natAbs ≤ 3) {acc : List Int} (ht : Trd acc) {L B : Nat} (hl : acc.length ≤ L) (hn : nrm acc ≤ B) : ∀ t, Trd (prI vs j acc t) ∧ (prI vs j acc t).length ≤ L + 2 * t ∧ nrm (prI vs j acc t) ≤ B * 6 ^ t := by
 intro t
 induction t with
 | zero => exact ⟨ht, by rw [prI]; exact ydH hl, by rw [prI]; exact ydG hn⟩
 | succ t ih =>
  obtain ⟨h1, h2, h3⟩ := ih
  rw [prI]
  refine ⟨zuL h1 (zc7 (by simpa [List.getD] using hj)), ?_, ?_⟩
  · have := zfP (prI vs j acc t) [vs.getD t 0, vs.getD j 0]
    simp only [List.length_cons, List.length_nil] at this
    exact ydF h2 this
  · refine Nat.le_trans (zwX _ _) ?_
    have e : nrm [vs.getD t 0, vs.getD j 0] ≤ 6 := by
     have := hb t; have := hb j
     rw [zbJ, zbJ, show nrm [] = 0 from rfl]; exact ydE ‹_› this
    rw [Nat.pow_succ, ← Nat.mul_assoc]
    exact Nat.mul_le_mul h3 e
theorem ztH {vs : List Int} (h0 : ∀ j, j < 4 → vs.getD j 0 ≠ 0 ∨ vs.length ≤ j) (hb : ∀ i, (vs.getD i 0).natAbs ≤ 3) : ∀ m, m ≤ 4 → m ≤ vs.length → Trd (prO vs m) ∧ (prO vs m).length ≤ 13 ∧ nrm (prO vs m) ≤ 46656 := by
 intro m hm hml
 have n0 : ∀ j, j < m → vs.getD j 0 ≠ 0 := fun j hj => (h0 j (ydD hm hj)).resolve_right (ydC hml hj)
 have s0 : Trd (prO vs 0) ∧ (prO vs 0).length ≤ 1 ∧ nrm (prO vs 0) ≤ 1 := ⟨zc7 (by simp [prO]), by simp [prO], by simp [prO, nrm]⟩
 rcases le4c hm with rfl | rfl | rfl | rfl | rfl
 · exact ⟨s0.1, by omega, by omega⟩
 · have s1 := zeZ 0 (n0 0 (yct)) hb s0.1 s0.2.1 s0.2.2 0
   exact ⟨s1.1, by have := s1.2.1; simp only [prO] at *; omega, by have := s1.2.2; simp only [prO] at *; omega⟩
 · have s1 := zeZ 0 (n0 0 (ycr)) hb s0.1 s0.2.1 s0.2.2 0
   have s2 := zeZ 1 (n0 1 (ydB)) hb s1.1 s1.2.1 s1.2.2 1
   exact ⟨s2.1, by have := s2.2.1; simp only [prO] at *; omega, by have := s2.2.2; simp only [prO] at *; omega⟩
 · have s1 := zeZ 0 (n0 0 (ydA)) hb s0.1 s0.2.1 s0.2.2 0
   have s2 := zeZ 1 (n0 1 (ydz)) hb s1.1 s1.2.1 s1.2.2 1
   have s3 := zeZ 2 (n0 2 (ydy)) hb s2.1 s2.2.1 s2.2.2 2
   exact ⟨s3.1, by have := s3.2.1; simp only [prO] at *; omega, by have := s3.2.2; simp only [prO] at *; omega⟩
 · have s1 := zeZ 0 (n0 0 (ydx)) hb s0.1 s0.2.1 s0.2.2 0
   have s2 := zeZ 1 (n0 1 (ydw)) hb s1.1 s1.2.1 s1.2.2 1
   have s3 := zeZ 2 (n0 2 (ydv)) hb s2.1 s2.2.1 s2.2.2 2
   have s4 := zeZ 3 (n0 3 (ydu)) hb s3.1 s3.2.1 s3.2.2 3
   exact ⟨s4.1, by have := s4.2.1; simp only [prO] at *; exact ydt this, by have := s4.2.2; simp only [prO] at *; exact yds this⟩
noncomputable def prJ (vs : List Int) (j m : Nat) : List Int := prO (vs.drop j) m
theorem ze0 (vs : List Int) (j i : Nat) : (vs.drop j).getD i 0 = vs.getD (j + i) 0 := by simp [List.getD, List.getElem?_drop]
theorem ztI (vs : List Int) (j : Nat) (X : Int) : ev (prJ vs j 0) X = 1 ∧ ev (prJ vs j 1) X = 1 ∧ ev (prJ vs j 2) X = vs.getD j 0 + X * vs.getD (j + 1) 0 ∧
 ev (prJ vs j 3) X = (vs.getD j 0 + X * vs.getD (j + 1) 0) * (vs.getD j 0 + X * vs.getD (j + 2) 0) * (vs.getD (j + 1) 0 + X * vs.getD (j + 2) 0) ∧
 ev (prJ vs j 4) X = (vs.getD j 0 + X * vs.getD (j + 1) 0) * (vs.getD j 0 + X * vs.getD (j + 2) 0) * (vs.getD (j + 1) 0 + X * vs.getD (j + 2) 0) * (vs.getD j 0 + X * vs.getD (j + 3) 0) * (vs.getD (j + 1) 0 + X * vs.getD (j + 3) 0) * (vs.getD (j + 2) 0 + X * vs.getD (j + 3) 0) := by
 unfold prJ
 simp only [prO, prI, zmt, zba, zbr, ze0, Nat.add_zero]
 refine ⟨?_, ?_, ?_, ?_, ?_⟩ <;> grind
noncomputable def zf3 (vs : List Int) (j : Nat) : Nat → Int
 | 0 => 1
 | m + 1 => zf3 vs j m * vs.getD (j + m) 0
noncomputable def ztS (vs : List Int) (n : Nat) : Nat → Nat → Nat → List Int
 | 0, _, _ => [1]
 | k + 1, i, j => (prJ vs j (k + 1)).map fun x => x * zf3 vs j (k + 1) ^ (n - 1 - i - k)
theorem zhB {vs : List Int} {n k i j : Nat} {X : Int} : ev (ztS vs n (k + 1) i j) X = ev (prJ vs j (k + 1)) X * zf3 vs j (k + 1) ^ (n - 1 - i - k) := by
 show ev ((prJ vs j (k + 1)).map fun x => x * zf3 vs j (k + 1) ^ (n - 1 - i - k)) X = _
 rw [zh2]
theorem pow_bd {v : Int} {k e : Nat} (hv : v.natAbs ≤ 3 ^ (k + 1)) (hk : k ≤ 3) (he : e ≤ 3 - k) : (v ^ e).natAbs ≤ 6561 := by
 rw [Int.natAbs_pow]
 refine Nat.le_trans (Nat.pow_le_pow_left hv _) ?_
 rw [← Nat.pow_mul]
 have h : (k + 1) * e ≤ 8 := by
  obtain rfl | rfl | rfl | rfl : k = 0 ∨ k = 1 ∨ k = 2 ∨ k = 3 := by exact ydr hk
  · omega
  · omega
  · omega
  · omega
 exact Nat.le_trans (Nat.pow_le_pow_right (by decide) h) (by decide)
theorem zvd {n : Nat} (hn : n = 3 ∨ n = 4) {vs : List Int} (hl : vs.length = n) (h0 : ∀ x ∈ vs, x ≠ 0 ∧ x.natAbs ≤ 3) : (tab 7).1 "_law_condensed" [.lst ((vdm vs n).map D.ints)] = some (D.ints (prO vs n)) := by
 have g0 : ∀ j, j < n → vs.getD j 0 ≠ 0 := fun j hj => (h0 _ (zcE (yc7 hl hj))).1
 have gb : ∀ j, (vs.getD j 0).natAbs ≤ 3 := fun j => by
  rcases Nat.lt_or_ge j vs.length with q | q
  · exact (h0 _ (zcE q)).2
  · simp [List.getD, List.getElem?_eq_none q]
 have vp0 : ∀ j m, j + m ≤ n → zf3 vs j m ≠ 0 := fun j m => by
  induction m with
  | zero => intro _; show (1 : Int) ≠ 0; decide
  | succ m ih => intro h; exact Int.mul_ne_zero (ih (ydq h)) (g0 _ (ydp h))
 have vpb : ∀ j m, (zf3 vs j m).natAbs ≤ 3 ^ m := fun j m => by
  induction m with
  | zero => exact Nat.le_refl _
  | succ m ih => rw [zf3, Int.natAbs_mul, Nat.pow_succ]; exact Nat.mul_le_mul ih (gb _)
 have e : prO vs n = ztS vs n n 0 0 := by
  obtain ⟨k, rfl⟩ : ∃ k, n = k + 1 := ⟨n - 1, by exact yb0 hn⟩
  have h : ztS vs (k + 1) (k + 1) 0 0 = (prJ vs 0 (k + 1)).map fun x => x * zf3 vs 0 (k + 1) ^ (k + 1 - 1 - 0 - k) := rfl
  rw [h, show k + 1 - 1 - 0 - k = 0 by exact ydo]
  simp only [Int.pow_zero, Int.mul_one, List.map_id']
  unfold prJ
  rw [List.drop_zero]
 rw [e]
 have scal : ∀ {l : List Int} {c : Int}, Trd l → c ≠ 0 → Trd (l.map fun x => x * c) := fun {l c} h hc q => by
  have e : (l.map fun x => x * c).getD (l.length - 1) 0 = l.getD (l.length - 1) 0 * c := by simp only [List.getD, List.getElem?_map]; cases l[l.length - 1]? <;> simp
  rw [List.length_map, e] at q
  rw [h ((Int.mul_eq_zero.mp q).resolve_right hc)]; rfl
 have ok : ∀ k i j, k ≤ n → 0 < k → i + k < n + 1 → j + k < n + 1 → Trd (ztS vs n k i j) ∧ (ztS vs n k i j).length < 60 ∧ nrm (ztS vs n k i j) ≤ 1000000000 := fun k i j hk h0k hi hj => by
  obtain ⟨k, rfl⟩ := Nat.exists_eq_succ_of_ne_zero (Nat.ne_of_gt h0k)
  · obtain ⟨a, b, c⟩ := ztH (vs := vs.drop j) (fun t ht => by
     rcases Nat.lt_or_ge (j + t) n with q | q
     · left; rw [ze0]; exact g0 _ q
     · right; rw [List.length_drop]; exact ybd hl q) (fun t => by rw [ze0]; exact gb _) (k + 1) (ydn hn hk) (by rw [List.length_drop]; exact ydm hl hj)
    refine ⟨scal a (Int.pow_ne_zero (vp0 j (k + 1) (ydl hj))), ?_, ?_⟩
    · show ((prJ vs j (k + 1)).map _).length < 60
      rw [List.length_map]; exact Nat.lt_of_le_of_lt b (by decide)
    · show nrm ((prJ vs j (k + 1)).map fun x => x * zf3 vs j (k + 1) ^ (n - 1 - i - k)) ≤ _
      rw [zjy]
      have h1 := pow_bd (vpb j (k + 1)) (show k ≤ 3 by exact ydk hn hk) (show n - 1 - i - k ≤ 3 - k by exact yak hn)
      refine Nat.le_trans (Nat.mul_le_mul c h1) (by decide)
 refine ztG (zwY (fun k i j hk hi hj => ?_) (fun k i j hk hi hj => ?_) fun k i j hk hi hj X => ?_) (yb4 hn) (ycf hn) (by unfold vdm; rw [List.length_map, List.length_range]) (fun i hi => ?_) (fun _ _ => rfl) fun i j hi hj => ?_
 · by_cases h : k = 0
   · subst h; exact ⟨zc7 (by simp [ztS]), by simp [ztS], by simp [ztS, nrm]⟩
   · exact ok k i j (ydj hk) (ydi h) hi hj
 · rcases k with _ | k
   · exact List.cons_ne_nil _ _
   · intro q
     have := @zhB vs n k (i + 1) (j + 1) 1
     rw [q, zbr] at this
     have hz := (Int.mul_eq_zero.mp this.symm).resolve_right (Int.pow_ne_zero (vp0 _ _ (ydh hj)))
     obtain ⟨a, b, c⟩ := ztH (vs := vs.drop (j + 1)) (fun t ht => by
      rcases Nat.lt_or_ge (j + 1 + t) n with q | q
      · left; rw [ze0]; exact g0 _ q
      · right; rw [List.length_drop]; exact ybe hl q) (fun t => by rw [ze0]; exact gb _) (k + 1) (ydg hn hk) (by rw [List.length_drop]; exact yaG hl hj)
     have hnil : prJ vs (j + 1) (k + 1) = [] := by
      have : ((prJ vs (j + 1) (k + 1)).map fun x => x * zf3 vs (j + 1) (k + 1) ^ (n - 1 - (i + 1) - k)) = [] := q
      exact List.map_eq_nil_iff.mp this
     obtain ⟨x0, x1, x2, x3, x4⟩ := ztI vs (j + 1) 0
     have p0 := g0 (j + 1) (ydf hj)
     rcases le2c (show k ≤ 2 by exact yde hn hk) with rfl | rfl | rfl
     · rw [hnil, zbr] at x1; exact ydd x1
     · rw [hnil, zbr] at x2; simp at x2; exact p0 x2.symm
     · exact ydc hn hk
 · obtain ⟨a0, a1, a2, a3, a4⟩ := ztI vs j X
   obtain ⟨b0, b1, b2, b3, b4⟩ := ztI vs (j + 1) X
   have hk2 : k ≤ 2 := by exact ydb hn hk
   obtain ⟨m, hm⟩ : ∃ m, n - 1 - i - k = m + 1 := ⟨n - 1 - i - k - 1, by exact yao hi⟩
   have m1 : n - 1 - (i + 1) - k = m := by exact yag hm
   have m2 : n - 1 - i - (k + 1) = m := by exact yda m1
   rw [zhB, zhB, zhB, zhB, zhB, hm, m1, m2]
   rcases le2c hk2 with rfl | rfl | rfl
   · simp only [ztS, zba, zbr, zf3, a1, b1, a2, Nat.add_zero, Int.pow_succ, Int.one_mul, Int.mul_pow]
     generalize vs.getD j 0 = a
     generalize vs.getD (j + 1) 0 = b
     generalize a ^ m = am
     generalize b ^ m = bm
     grind
   · rw [zhB, show n - 1 - (i + 1) - 0 = m + 1 by exact yc9 hm]
     simp only [zf3, b1, a2, b2, a3, Nat.add_zero, Int.pow_succ, Int.one_mul, Int.mul_pow, show j + 1 + 1 = j + 2 from rfl]
     generalize vs.getD j 0 = a
     generalize vs.getD (j + 1) 0 = b
     generalize vs.getD (j + 2) 0 = c
     generalize a ^ m = am
     generalize b ^ m = bm
     generalize c ^ m = cm
     grind
   · rw [zhB, show n - 1 - (i + 1) - 1 = m + 1 by exact yc8 hm]
     simp only [zf3, b2, a3, b3, a4, Nat.add_zero, Int.pow_succ, Int.one_mul, Int.mul_pow, show j + 1 + 1 = j + 2 from rfl, show j + 1 + 2 = j + 3 from rfl]
     generalize vs.getD j 0 = a
     generalize vs.getD (j + 1) 0 = b
     generalize vs.getD (j + 2) 0 = c
     generalize vs.getD (j + 3) 0 = d
     generalize a ^ m = am
     generalize b ^ m = bm
     generalize c ^ m = cm
     generalize d ^ m = dm
     grind
 · unfold vdm
   simp [List.getD, hi, hl]
 · have e1 : ent (vdm vs n) i j = vs.getD j 0 ^ (n - 1 - i) := by
    unfold ent vdm
    simp only [List.getD, List.getElem?_map, List.getElem?_range hi, Option.map_some, Option.getD_some]
    rw [List.getElem?_eq_getElem (yc7 hl hj)]
    simp
   rw [e1]
   have c0 : vs.getD j 0 ^ (n - 1 - i) ≠ 0 := Int.pow_ne_zero (g0 j hj)
   rw [zfQ (zc7 (by simpa [List.getD] using c0))]
   show (prO (vs.drop j) 1).map (fun x => x * zf3 vs j 1 ^ (n - 1 - i - 0)) = _
   simp [prO, prI, zf3]
noncomputable def SRn (n : Nat) (line row sums told : List Int) : List Int := zoi (zcg line row sums n).1 (zcg line row sums n).2.1.toNat (zcg line row sums n).2.2.1.toNat told
theorem ztJ (N : Int) (p m : Nat) (t : List Int) : (zoi N p m t).length = t.length := by
 unfold zoi
 rw [List.length_take, List.length_append, List.length_replicate, zgT, List.length_map]; exact ycW
theorem ztK (n : Nat) (line row sums told : List Int) : (SRn n line row sums told).length = told.length := ztJ ..
structure Pl (N : Nat) (t : List Int) (d B : Nat) (f : Int → Int) : Prop where
 len : t.length = N
 deg : ∀ j, d < j → t.getD j 0 = 0
 nrm : nrm t ≤ B
 ev : ∀ X, ev t X = f X
theorem zjz (l : List Int) (j : Nat) (h : j < l.length) : (zdo l).getD j 0 = l.getD j 0 + ((0 : Int) :: l).getD j 0 := by
 unfold zdo
 simp only [List.getD, List.getElem?_map]
 rw [List.getElem?_range (by rw [List.length_cons]; exact yc6 h)]; rfl
theorem zc8 {l : List Int} {j : Nat} (h : l.length ≤ j) : l.getD j 0 = 0 := by simp [List.getD, List.getElem?_eq_none h]
theorem Pl.shift {N : Nat} {t : List Int} {d B : Nat} {f : Int → Int} (h : Pl N t d B f) (hd : d + 1 < N) : Pl N (zdo t) (d + 1) (2 * B) (fun X => (1 + X) * f X) := by
 have tl := h.len
 refine ⟨by rw [zff, tl], fun j hj => ?_, Nat.le_trans (zrm t) (Nat.mul_le_mul_left 2 h.nrm), fun X => ?_⟩
 · rcases Nat.lt_or_ge j t.length with q | q
   · obtain ⟨k, rfl⟩ : ∃ k, j = k + 1 := ⟨j - 1, by exact ybk hj⟩
     rw [zjz t _ q, zaq, h.deg _ (yc5 hj), h.deg _ (yc4 hj)]; rfl
   · exact zc8 (by rw [zff]; exact q)
 · have e : Mine.ev (zdo t) X = Mine.ev (zhe t (0 :: t)) X := zcD _ _ (fun j => by
    rw [zcn]
    rcases Nat.lt_or_ge j t.length with q | q
    · exact zjz t j q
    · obtain ⟨k, rfl⟩ : ∃ k, j = k + 1 := ⟨j - 1, by exact yaK hd tl q⟩
      rw [zc8 (by rw [zff]; exact q), zc8 q, zaq, h.deg k (yc3 hd tl q)]; rfl) X
   rw [e, ziE, zba, h.ev X]
   grind
theorem Pl.shifts {N : Nat} {t : List Int} {d B : Nat} {f : Int → Int} (h : Pl N t d B f) : ∀ m, d + m < N → Pl N (zcN t m) (d + m) (2 ^ m * B) (fun X => (1 + X) ^ m * f X) := by
 intro m
 induction m with
 | zero => intro _; exact ⟨h.len, h.deg, by rw [Nat.pow_zero, Nat.one_mul]; exact h.nrm, fun X => by rw [Int.pow_zero, Int.one_mul]; exact h.ev X⟩
 | succ m ih =>
  intro hm
  have := (ih (yc2 hm)).shift (yc1 hm)
  exact ⟨this.len, this.deg, Nat.le_trans this.nrm (by rw [Nat.pow_succ, Nat.mul_comm (2 ^ m) 2, Nat.mul_assoc]; exact Nat.le_refl _), fun X => by rw [Int.pow_succ]; have := this.ev X; rw [zcN, this]; grind⟩
theorem Pl.step {N n : Nat} {t line row sums : List Int} {d B : Nat} {f : Int → Int} {num fr : Int} {p m : Nat} (h : Pl N t d B f) (hg : zcg line row sums n = (num, (p : Int), (m : Int), fr)) (hn : num.natAbs ≤ 27) (hd : d + m + p < N) :
 Pl N (SRn n line row sums t) (d + m + p) (2 ^ m * (27 * B)) (fun X => X ^ p * ((1 + X) ^ m * (num * f X))) := by
 unfold SRn
 rw [hg]
 show Pl N (zoi num (p : Int).toNat (m : Int).toNat t) _ _ _
 rw [show (p : Int).toNat = p from rfl, show (m : Int).toNat = m from rfl]
 have s1 : Pl N (t.map fun x => num * x) d (27 * B) (fun X => num * f X) := by
  refine ⟨by rw [List.length_map, h.len], fun j hj => ?_, ?_, fun X => ?_⟩
  · have : (t.map fun x => num * x).getD j 0 = num * t.getD j 0 := by simp only [List.getD, List.getElem?_map]; cases t[j]? <;> simp
    rw [this, h.deg j hj, Int.mul_zero]
  · rw [zrl]; exact Nat.mul_le_mul hn h.nrm
  · have := zh2 t num X
    simp only [Int.mul_comm num]
    rw [this, h.ev X]
 have es : zoi num p m t = (List.replicate p 0 ++ zcN (t.map fun x => num * x) m).take N := by unfold zoi; rw [h.len]
 rw [es]
 have s2 := s1.shifts m (yc0 hd)
 generalize (t.map fun x => num * x) = t1 at s1 s2
 have lt : (zcN t1 m).length = N := s2.len
 generalize zcN t1 m = u at s2 lt
 have gu : ∀ j, (List.replicate p 0 ++ u).getD j 0 = if j < p then 0 else u.getD (j - p) 0 := fun j => by
  simp only [List.getD]
  split
  · rw [List.getElem?_append_left (by rw [List.length_replicate]; assumption), List.getElem?_replicate, if_pos (by assumption)]; rfl
  · rw [List.getElem?_append_right (by rw [List.length_replicate]; exact ycZ ‹_›), List.length_replicate]
 have gz : ∀ j, d + m + p < j → (List.replicate p 0 ++ u).getD j 0 = 0 := fun j hj => by
  rw [gu, if_neg (ycY hj)]; exact s2.deg _ (ycX hj)
 refine ⟨by rw [List.length_take, List.length_append, List.length_replicate, lt]; exact ycW, fun j hj => ?_, ?_, fun X => ?_⟩
 · rcases Nat.lt_or_ge j N with q | q
   · simp only [List.getD, List.getElem?_take, q, if_true]; exact gz j hj
   · exact zc8 (by rw [List.length_take]; exact ybr q)
 · refine Nat.le_trans (zpS _ _) ?_
   rw [zkp, zo7, Nat.zero_add]
   exact s2.nrm
 · have e : Mine.ev ((List.replicate p 0 ++ u).take N) X = Mine.ev (List.replicate p 0 ++ u) X := zcD _ _ (fun j => by
    rcases Nat.lt_or_ge j N with q | q
    · simp only [List.getD, List.getElem?_take, q, if_true]
    · rw [zc8 (by rw [List.length_take]; exact ybr q), gz j (ycV hd q)]) X
   rw [e, ziD, zdY, List.length_replicate, s2.ev X, Int.zero_add]
theorem Pl.zero {N : Nat} : Pl N (List.replicate N 0) 0 0 (fun _ => 0) := ⟨List.length_replicate, fun j _ => by simp only [List.getD, List.getElem?_replicate]; split <;> rfl, by rw [zo7]; exact Nat.le_refl _, fun X => zdY N X⟩
theorem Pl.add {N : Nat} {t u : List Int} {d e B E : Nat} {f g : Int → Int} (h : Pl N t d B f) (k : Pl N u e E g) : Pl N (za2 t u) (max d e) (B + E) (fun X => f X + g X) := by
 have hl := h.len
 have kl := k.len
 have gg : ∀ j, (za2 t u).getD j 0 = t.getD j 0 + u.getD j 0 := fun j => by
  rcases Nat.lt_or_ge j N with q | q
  · unfold za2
    simp only [List.getD, List.getElem?_map]
    rw [List.getElem?_range (ycU hl kl q)]; rfl
  · rw [zc8 (by unfold za2; rw [List.length_map, List.length_range]; exact ybC kl q), zc8 (yci hl q), zc8 (yci kl q)]; rfl
 refine ⟨by unfold za2; rw [List.length_map, List.length_range]; exact ycT hl kl, fun j hj => ?_, Nat.le_trans (zu9 t u) (Nat.add_le_add h.nrm k.nrm), fun X => ?_⟩
 · rw [gg, h.deg j (ybU hj), k.deg j (ybT hj)]; rfl
 · rw [zcD (za2 t u) (zhe t u) (fun j => by rw [gg, zcn]) X, ziE, h.ev X, k.ev X]
theorem Pl.le {N : Nat} {t : List Int} {d e B E : Nat} {f g : Int → Int} (h : Pl N t d B f) (hd : d ≤ e) (hB : B ≤ E) (hf : ∀ X, f X = g X) : Pl N t e E g := ⟨h.len, fun j hj => h.deg j (ycS hd hj), Nat.le_trans h.nrm hB, fun X => (h.ev X).trans (hf X)⟩
theorem Pl.one {N : Nat} (hN : 0 < N) : Pl N (1 :: List.replicate (N - 1) 0) 0 1 (fun _ => 1) := by
 refine ⟨by rw [List.length_cons, List.length_replicate]; exact ycM hN, fun j hj => ?_, by rw [zbJ, zo7]; decide, fun X => by rw [zba, zdY]; simp⟩
 obtain ⟨k, rfl⟩ : ∃ k, j = k + 1 := ⟨j - 1, by exact ybW hj⟩
 rw [zaq]
 simp only [List.getD, List.getElem?_replicate]; split <;> rfl
theorem nb1 {x : Int} (hx : x.natAbs ≤ 3) : (1 * x).natAbs ≤ 27 := by exact ycR hx
theorem nb3 {x y z : Int} (hx : x.natAbs ≤ 3) (hy : y.natAbs ≤ 3) (hz : z.natAbs ≤ 3) : (1 * x * y * z).natAbs ≤ 27 := by
 have := zcq hx hy
 have h2 := zcq this hz
 rw [Int.one_mul]; exact h2
noncomputable def zjA (a : Nat → Nat → Int) (X : Int) : Int := a 0 2 * X ^ 2
noncomputable def zhC (a : Nat → Nat → Int) (X : Int) : Int := a 0 1 * X
noncomputable def zjB (a : Nat → Nat → Int) (X : Int) : Int := a 0 0
theorem k3_1 (line t0 : List Int) : zfr (SRn 3) 4 (zbP 3) [([0, 0, 0], t0, 1)] line = [([0, 0, 1], (za2 (List.replicate 4 0) (SRn 3 line [0, 0, 1] [0, 0, 1] t0)), 1), ([0, 1, 0], (za2 (List.replicate 4 0) (SRn 3 line [0, 1, 0] [0, 1, 0] t0)), 1), ([1, 0, 0], (za2 (List.replicate 4 0) (SRn 3 line [1, 0, 0] [1, 0, 0] t0)), 1)] := by kernel_rfl
theorem p3_1 {rows : List (List Int)} {line t0 : List Int} (hl : line = rows.getD 0 []) (hb : ∀ j, (line.getD j 0).natAbs ≤ 3) (h0 : Pl 4 t0 0 1 (fun X => 1)) :
 Pl 4 (za2 (List.replicate 4 0) (SRn 3 line [0, 0, 1] [0, 0, 1] t0)) 2 27 (fun X => zjA (ent rows) X) ∧
 Pl 4 (za2 (List.replicate 4 0) (SRn 3 line [0, 1, 0] [0, 1, 0] t0)) 1 27 (fun X => zhC (ent rows) X) ∧
 Pl 4 (za2 (List.replicate 4 0) (SRn 3 line [1, 0, 0] [1, 0, 0] t0)) 0 27 (fun X => zjB (ent rows) X) := by
 exact ⟨(Pl.zero.add (h0.step (num := 1 * line.getD 2 0) (p := 2) (m := 0) (fr := 2) (n := 3) (line := line) (row := [0, 0, 1]) (sums := [0, 0, 1]) (by rfl) (nb1 (hb _)) (by decide))).le (by decide) (by decide) fun X => by unfold zjA ent; rw [← hl]; grind,
  (Pl.zero.add (h0.step (num := 1 * line.getD 1 0) (p := 1) (m := 0) (fr := 2) (n := 3) (line := line) (row := [0, 1, 0]) (sums := [0, 1, 0]) (by rfl) (nb1 (hb _)) (by decide))).le (by decide) (by decide) fun X => by unfold zhC ent; rw [← hl]; grind,
  (Pl.zero.add (h0.step (num := 1 * line.getD 0 0) (p := 0) (m := 0) (fr := 2) (n := 3) (line := line) (row := [1, 0, 0]) (sums := [1, 0, 0]) (by rfl) (nb1 (hb _)) (by decide))).le (by decide) (by decide) fun X => by unfold zjB ent; rw [← hl]; grind⟩
noncomputable def zkq (a : Nat → Nat → Int) (X : Int) : Int := a 1 1 * X * zjA a X + a 1 2 * X * zhC a X
noncomputable def zkr (a : Nat → Nat → Int) (X : Int) : Int := a 1 0 * zjA a X + a 1 0 * a 1 1 * a 1 2 * (1 + X) * zhC a X + a 1 2 * X * zjB a X
noncomputable def zks (a : Nat → Nat → Int) (X : Int) : Int := a 1 0 * zhC a X + a 1 1 * zjB a X
theorem k3_2 (line t0 t1 t2 : List Int) : zfr (SRn 3) 4 (zbP 3) [([0, 0, 1], t0, 1), ([0, 1, 0], t1, 1), ([1, 0, 0], t2, 1)] line = [([0, 1, 1], (za2 (za2 (List.replicate 4 0) (SRn 3 line [0, 1, 0] [0, 1, 1] t0)) (SRn 3 line [0, 0, 1] [0, 1, 1] t1)), 2), ([1, 0, 1], (za2 (za2 (za2 (List.replicate 4 0) (SRn 3 line [1, 0, 0] [1, 0, 1] t0)) (SRn 3 line [1, -1, 1] [1, 0, 1] t1)) (SRn 3 line [0, 0, 1] [1, 0, 1] t2)), 3), ([1, 1, 0], (za2 (za2 (List.replicate 4 0) (SRn 3 line [1, 0, 0] [1, 1, 0] t1)) (SRn 3 line [0, 1, 0] [1, 1, 0] t2)), 2)] := by kernel_rfl
theorem p3_2 {rows : List (List Int)} {line t0 t1 t2 : List Int} (hl : line = rows.getD 1 []) (hb : ∀ j, (line.getD j 0).natAbs ≤ 3) (h0 : Pl 4 t0 2 27 (fun X => zjA (ent rows) X)) (h1 : Pl 4 t1 1 27 (fun X => zhC (ent rows) X)) (h2 : Pl 4 t2 0 27 (fun X => zjB (ent rows) X)) :
 Pl 4 (za2 (za2 (List.replicate 4 0) (SRn 3 line [0, 1, 0] [0, 1, 1] t0)) (SRn 3 line [0, 0, 1] [0, 1, 1] t1)) 3 1458 (fun X => zkq (ent rows) X) ∧
 Pl 4 (za2 (za2 (za2 (List.replicate 4 0) (SRn 3 line [1, 0, 0] [1, 0, 1] t0)) (SRn 3 line [1, -1, 1] [1, 0, 1] t1)) (SRn 3 line [0, 0, 1] [1, 0, 1] t2)) 2 2916 (fun X => zkr (ent rows) X) ∧
 Pl 4 (za2 (za2 (List.replicate 4 0) (SRn 3 line [1, 0, 0] [1, 1, 0] t1)) (SRn 3 line [0, 1, 0] [1, 1, 0] t2)) 1 1458 (fun X => zks (ent rows) X) := by
 exact ⟨((Pl.zero.add (h0.step (num := 1 * line.getD 1 0) (p := 1) (m := 0) (fr := 1) (n := 3) (line := line) (row := [0, 1, 0]) (sums := [0, 1, 1]) (by rfl) (nb1 (hb _)) (by decide))).add (h1.step (num := 1 * line.getD 2 0) (p := 1) (m := 0) (fr := 1) (n := 3) (line := line) (row := [0, 0, 1]) (sums := [0, 1, 1]) (by rfl) (nb1 (hb _)) (by decide))).le (by decide) (by decide) fun X => by unfold zkq ent; rw [← hl]; grind,
  (((Pl.zero.add (h0.step (num := 1 * line.getD 0 0) (p := 0) (m := 0) (fr := 1) (n := 3) (line := line) (row := [1, 0, 0]) (sums := [1, 0, 1]) (by rfl) (nb1 (hb _)) (by decide))).add (h1.step (num := 1 * line.getD 0 0 * line.getD 1 0 * line.getD 2 0) (p := 0) (m := 1) (fr := 1) (n := 3) (line := line) (row := [1, -1, 1]) (sums := [1, 0, 1]) (by rfl) (nb3 (hb _) (hb _) (hb _)) (by decide))).add (h2.step (num := 1 * line.getD 2 0) (p := 1) (m := 0) (fr := 1) (n := 3) (line := line) (row := [0, 0, 1]) (sums := [1, 0, 1]) (by rfl) (nb1 (hb _)) (by decide))).le (by decide) (by decide) fun X => by unfold zkr ent; rw [← hl]; grind,
  ((Pl.zero.add (h1.step (num := 1 * line.getD 0 0) (p := 0) (m := 0) (fr := 1) (n := 3) (line := line) (row := [1, 0, 0]) (sums := [1, 1, 0]) (by rfl) (nb1 (hb _)) (by decide))).add (h2.step (num := 1 * line.getD 1 0) (p := 0) (m := 0) (fr := 1) (n := 3) (line := line) (row := [0, 1, 0]) (sums := [1, 1, 0]) (by rfl) (nb1 (hb _)) (by decide))).le (by decide) (by decide) fun X => by unfold zks ent; rw [← hl]; grind⟩
noncomputable def zgC (a : Nat → Nat → Int) (X : Int) : Int := a 2 0 * zkq a X + a 2 1 * zkr a X + a 2 2 * zks a X
theorem k3_3 (line t0 t1 t2 : List Int) : zfr (SRn 3) 4 (zbP 3) [([0, 1, 1], t0, 2), ([1, 0, 1], t1, 3), ([1, 1, 0], t2, 2)] line = [([1, 1, 1], (za2 (za2 (za2 (List.replicate 4 0) (SRn 3 line [1, 0, 0] [1, 1, 1] t0)) (SRn 3 line [0, 1, 0] [1, 1, 1] t1)) (SRn 3 line [0, 0, 1] [1, 1, 1] t2)), 7)] := by kernel_rfl
theorem p3_3 {rows : List (List Int)} {line t0 t1 t2 : List Int} (hl : line = rows.getD 2 []) (hb : ∀ j, (line.getD j 0).natAbs ≤ 3) (h0 : Pl 4 t0 3 1458 (fun X => zkq (ent rows) X)) (h1 : Pl 4 t1 2 2916 (fun X => zkr (ent rows) X)) (h2 : Pl 4 t2 1 1458 (fun X => zks (ent rows) X)) :
 Pl 4 (za2 (za2 (za2 (List.replicate 4 0) (SRn 3 line [1, 0, 0] [1, 1, 1] t0)) (SRn 3 line [0, 1, 0] [1, 1, 1] t1)) (SRn 3 line [0, 0, 1] [1, 1, 1] t2)) 3 157464 (fun X => zgC (ent rows) X) := by
 exact (((Pl.zero.add (h0.step (num := 1 * line.getD 0 0) (p := 0) (m := 0) (fr := 0) (n := 3) (line := line) (row := [1, 0, 0]) (sums := [1, 1, 1]) (by rfl) (nb1 (hb _)) (by decide))).add (h1.step (num := 1 * line.getD 1 0) (p := 0) (m := 0) (fr := 0) (n := 3) (line := line) (row := [0, 1, 0]) (sums := [1, 1, 1]) (by rfl) (nb1 (hb _)) (by decide))).add (h2.step (num := 1 * line.getD 2 0) (p := 0) (m := 0) (fr := 0) (n := 3) (line := line) (row := [0, 0, 1]) (sums := [1, 1, 1]) (by rfl) (nb1 (hb _)) (by decide))).le (by decide) (by decide) fun X => by unfold zgC ent; rw [← hl]; grind
noncomputable def zgD (a : Nat → Nat → Int) (X : Int) : Int := a 0 3 * X ^ 3
noncomputable def ze1 (a : Nat → Nat → Int) (X : Int) : Int := a 0 2 * X ^ 2
noncomputable def ze2 (a : Nat → Nat → Int) (X : Int) : Int := a 0 1 * X
noncomputable def zgE (a : Nat → Nat → Int) (X : Int) : Int := a 0 0
theorem k4_1 (line t0 : List Int) : zfr (SRn 4) 7 (zbP 4) [([0, 0, 0, 0], t0, 1)] line = [([0, 0, 0, 1], (za2 (List.replicate 7 0) (SRn 4 line [0, 0, 0, 1] [0, 0, 0, 1] t0)), 1), ([0, 0, 1, 0], (za2 (List.replicate 7 0) (SRn 4 line [0, 0, 1, 0] [0, 0, 1, 0] t0)), 1), ([0, 1, 0, 0], (za2 (List.replicate 7 0) (SRn 4 line [0, 1, 0, 0] [0, 1, 0, 0] t0)), 1), ([1, 0, 0, 0], (za2 (List.replicate 7 0) (SRn 4 line [1, 0, 0, 0] [1, 0, 0, 0] t0)), 1)] := by kernel_rfl
theorem p4_1 {rows : List (List Int)} {line t0 : List Int} (hl : line = rows.getD 0 []) (hb : ∀ j, (line.getD j 0).natAbs ≤ 3) (h0 : Pl 7 t0 0 1 (fun X => 1)) :
 Pl 7 (za2 (List.replicate 7 0) (SRn 4 line [0, 0, 0, 1] [0, 0, 0, 1] t0)) 3 27 (fun X => zgD (ent rows) X) ∧
 Pl 7 (za2 (List.replicate 7 0) (SRn 4 line [0, 0, 1, 0] [0, 0, 1, 0] t0)) 2 27 (fun X => ze1 (ent rows) X) ∧
 Pl 7 (za2 (List.replicate 7 0) (SRn 4 line [0, 1, 0, 0] [0, 1, 0, 0] t0)) 1 27 (fun X => ze2 (ent rows) X) ∧
 Pl 7 (za2 (List.replicate 7 0) (SRn 4 line [1, 0, 0, 0] [1, 0, 0, 0] t0)) 0 27 (fun X => zgE (ent rows) X) := by
 exact ⟨(Pl.zero.add (h0.step (num := 1 * line.getD 3 0) (p := 3) (m := 0) (fr := 3) (n := 4) (line := line) (row := [0, 0, 0, 1]) (sums := [0, 0, 0, 1]) (by rfl) (nb1 (hb _)) (by decide))).le (by decide) (by decide) fun X => by unfold zgD ent; rw [← hl]; grind,
  (Pl.zero.add (h0.step (num := 1 * line.getD 2 0) (p := 2) (m := 0) (fr := 3) (n := 4) (line := line) (row := [0, 0, 1, 0]) (sums := [0, 0, 1, 0]) (by rfl) (nb1 (hb _)) (by decide))).le (by decide) (by decide) fun X => by unfold ze1 ent; rw [← hl]; grind,
  (Pl.zero.add (h0.step (num := 1 * line.getD 1 0) (p := 1) (m := 0) (fr := 3) (n := 4) (line := line) (row := [0, 1, 0, 0]) (sums := [0, 1, 0, 0]) (by rfl) (nb1 (hb _)) (by decide))).le (by decide) (by decide) fun X => by unfold ze2 ent; rw [← hl]; grind,
  (Pl.zero.add (h0.step (num := 1 * line.getD 0 0) (p := 0) (m := 0) (fr := 3) (n := 4) (line := line) (row := [1, 0, 0, 0]) (sums := [1, 0, 0, 0]) (by rfl) (nb1 (hb _)) (by decide))).le (by decide) (by decide) fun X => by unfold zgE ent; rw [← hl]; grind⟩
noncomputable def zhD (a : Nat → Nat → Int) (X : Int) : Int := a 1 2 * X ^ 2 * zgD a X + a 1 3 * X ^ 2 * ze1 a X
noncomputable def zgF (a : Nat → Nat → Int) (X : Int) : Int := a 1 1 * X * zgD a X + a 1 1 * a 1 2 * a 1 3 * X * (1 + X) * ze1 a X + a 1 3 * X ^ 2 * ze2 a X
noncomputable def zfJ (a : Nat → Nat → Int) (X : Int) : Int := a 1 1 * X * ze1 a X + a 1 2 * X * ze2 a X
noncomputable def zhE (a : Nat → Nat → Int) (X : Int) : Int := a 1 0 * zgD a X + a 1 0 * a 1 2 * a 1 3 * (1 + X) * ze1 a X + a 1 0 * a 1 1 * a 1 3 * X * (1 + X) * ze2 a X + a 1 3 * X ^ 2 * zgE a X
noncomputable def zgG (a : Nat → Nat → Int) (X : Int) : Int := a 1 0 * ze1 a X + a 1 0 * a 1 1 * a 1 2 * (1 + X) * ze2 a X + a 1 2 * X * zgE a X
noncomputable def zhF (a : Nat → Nat → Int) (X : Int) : Int := a 1 0 * ze2 a X + a 1 1 * zgE a X
theorem k4_2 (line t0 t1 t2 t3 : List Int) : zfr (SRn 4) 7 (zbP 4) [([0, 0, 0, 1], t0, 1), ([0, 0, 1, 0], t1, 1), ([0, 1, 0, 0], t2, 1), ([1, 0, 0, 0], t3, 1)] line = [([0, 0, 1, 1], (za2 (za2 (List.replicate 7 0) (SRn 4 line [0, 0, 1, 0] [0, 0, 1, 1] t0)) (SRn 4 line [0, 0, 0, 1] [0, 0, 1, 1] t1)), 2), ([0, 1, 0, 1], (za2 (za2 (za2 (List.replicate 7 0) (SRn 4 line [0, 1, 0, 0] [0, 1, 0, 1] t0)) (SRn 4 line [0, 1, -1, 1] [0, 1, 0, 1] t1)) (SRn 4 line [0, 0, 0, 1] [0, 1, 0, 1] t2)), 3), ([0, 1, 1, 0], (za2 (za2 (List.replicate 7 0) (SRn 4 line [0, 1, 0, 0] [0, 1, 1, 0] t1)) (SRn 4 line [0, 0, 1, 0] [0, 1, 1, 0] t2)), 2), ([1, 0, 0, 1], (za2 (za2 (za2 (za2 (List.replicate 7 0) (SRn 4 line [1, 0, 0, 0] [1, 0, 0, 1] t0)) (SRn 4 line [1, 0, -1, 1] [1, 0, 0, 1] t1)) (SRn 4 line [1, -1, 0, 1] [1, 0, 0, 1] t2)) (SRn 4 line [0, 0, 0, 1] [1, 0, 0, 1] t3)), 4), ([1, 0, 1, 0], (za2 (za2 (za2 (List.replicate 7 0) (SRn 4 line [1, 0, 0, 0] [1, 0, 1, 0] t1)) (SRn 4 line [1, -1, 1, 0] [1, 0, 1, 0] t2)) (SRn 4 line [0, 0, 1, 0] [1, 0, 1, 0] t3)), 3), ([1, 1, 0, 0], (za2 (za2 (List.replicate 7 0) (SRn 4 line [1, 0, 0, 0] [1, 1, 0, 0] t2)) (SRn 4 line [0, 1, 0, 0] [1, 1, 0, 0] t3)), 2)] := by kernel_rfl
theorem p4_2 {rows : List (List Int)} {line t0 t1 t2 t3 : List Int} (hl : line = rows.getD 1 []) (hb : ∀ j, (line.getD j 0).natAbs ≤ 3) (h0 : Pl 7 t0 3 27 (fun X => zgD (ent rows) X)) (h1 : Pl 7 t1 2 27 (fun X => ze1 (ent rows) X)) (h2 : Pl 7 t2 1 27 (fun X => ze2 (ent rows) X)) (h3 : Pl 7 t3 0 27 (fun X => zgE (ent rows) X)) :
 Pl 7 (za2 (za2 (List.replicate 7 0) (SRn 4 line [0, 0, 1, 0] [0, 0, 1, 1] t0)) (SRn 4 line [0, 0, 0, 1] [0, 0, 1, 1] t1)) 5 1458 (fun X => zhD (ent rows) X) ∧
 Pl 7 (za2 (za2 (za2 (List.replicate 7 0) (SRn 4 line [0, 1, 0, 0] [0, 1, 0, 1] t0)) (SRn 4 line [0, 1, -1, 1] [0, 1, 0, 1] t1)) (SRn 4 line [0, 0, 0, 1] [0, 1, 0, 1] t2)) 4 2916 (fun X => zgF (ent rows) X) ∧
 Pl 7 (za2 (za2 (List.replicate 7 0) (SRn 4 line [0, 1, 0, 0] [0, 1, 1, 0] t1)) (SRn 4 line [0, 0, 1, 0] [0, 1, 1, 0] t2)) 3 1458 (fun X => zfJ (ent rows) X) ∧
 Pl 7 (za2 (za2 (za2 (za2 (List.replicate 7 0) (SRn 4 line [1, 0, 0, 0] [1, 0, 0, 1] t0)) (SRn 4 line [1, 0, -1, 1] [1, 0, 0, 1] t1)) (SRn 4 line [1, -1, 0, 1] [1, 0, 0, 1] t2)) (SRn 4 line [0, 0, 0, 1] [1, 0, 0, 1] t3)) 3 4374 (fun X => zhE (ent rows) X) ∧
 Pl 7 (za2 (za2 (za2 (List.replicate 7 0) (SRn 4 line [1, 0, 0, 0] [1, 0, 1, 0] t1)) (SRn 4 line [1, -1, 1, 0] [1, 0, 1, 0] t2)) (SRn 4 line [0, 0, 1, 0] [1, 0, 1, 0] t3)) 2 2916 (fun X => zgG (ent rows) X) ∧
 Pl 7 (za2 (za2 (List.replicate 7 0) (SRn 4 line [1, 0, 0, 0] [1, 1, 0, 0] t2)) (SRn 4 line [0, 1, 0, 0] [1, 1, 0, 0] t3)) 1 1458 (fun X => zhF (ent rows) X) := by
 exact ⟨((Pl.zero.add (h0.step (num := 1 * line.getD 2 0) (p := 2) (m := 0) (fr := 2) (n := 4) (line := line) (row := [0, 0, 1, 0]) (sums := [0, 0, 1, 1]) (by rfl) (nb1 (hb _)) (by decide))).add (h1.step (num := 1 * line.getD 3 0) (p := 2) (m := 0) (fr := 2) (n := 4) (line := line) (row := [0, 0, 0, 1]) (sums := [0, 0, 1, 1]) (by rfl) (nb1 (hb _)) (by decide))).le (by decide) (by decide) fun X => by unfold zhD ent; rw [← hl]; grind,
  (((Pl.zero.add (h0.step (num := 1 * line.getD 1 0) (p := 1) (m := 0) (fr := 2) (n := 4) (line := line) (row := [0, 1, 0, 0]) (sums := [0, 1, 0, 1]) (by rfl) (nb1 (hb _)) (by decide))).add (h1.step (num := 1 * line.getD 1 0 * line.getD 2 0 * line.getD 3 0) (p := 1) (m := 1) (fr := 2) (n := 4) (line := line) (row := [0, 1, -1, 1]) (sums := [0, 1, 0, 1]) (by rfl) (nb3 (hb _) (hb _) (hb _)) (by decide))).add (h2.step (num := 1 * line.getD 3 0) (p := 2) (m := 0) (fr := 2) (n := 4) (line := line) (row := [0, 0, 0, 1]) (sums := [0, 1, 0, 1]) (by rfl) (nb1 (hb _)) (by decide))).le (by decide) (by decide) fun X => by unfold zgF ent; rw [← hl]; grind,
  ((Pl.zero.add (h1.step (num := 1 * line.getD 1 0) (p := 1) (m := 0) (fr := 2) (n := 4) (line := line) (row := [0, 1, 0, 0]) (sums := [0, 1, 1, 0]) (by rfl) (nb1 (hb _)) (by decide))).add (h2.step (num := 1 * line.getD 2 0) (p := 1) (m := 0) (fr := 2) (n := 4) (line := line) (row := [0, 0, 1, 0]) (sums := [0, 1, 1, 0]) (by rfl) (nb1 (hb _)) (by decide))).le (by decide) (by decide) fun X => by unfold zfJ ent; rw [← hl]; grind,
  ((((Pl.zero.add (h0.step (num := 1 * line.getD 0 0) (p := 0) (m := 0) (fr := 2) (n := 4) (line := line) (row := [1, 0, 0, 0]) (sums := [1, 0, 0, 1]) (by rfl) (nb1 (hb _)) (by decide))).add (h1.step (num := 1 * line.getD 0 0 * line.getD 2 0 * line.getD 3 0) (p := 0) (m := 1) (fr := 2) (n := 4) (line := line) (row := [1, 0, -1, 1]) (sums := [1, 0, 0, 1]) (by rfl) (nb3 (hb _) (hb _) (hb _)) (by decide))).add (h2.step (num := 1 * line.getD 0 0 * line.getD 1 0 * line.getD 3 0) (p := 1) (m := 1) (fr := 2) (n := 4) (line := line) (row := [1, -1, 0, 1]) (sums := [1, 0, 0, 1]) (by rfl) (nb3 (hb _) (hb _) (hb _)) (by decide))).add (h3.step (num := 1 * line.getD 3 0) (p := 2) (m := 0) (fr := 2) (n := 4) (line := line) (row := [0, 0, 0, 1]) (sums := [1, 0, 0, 1]) (by rfl) (nb1 (hb _)) (by decide))).le (by decide) (by decide) fun X => by unfold zhE ent; rw [← hl]; grind,
  (((Pl.zero.add (h1.step (num := 1 * line.getD 0 0) (p := 0) (m := 0) (fr := 2) (n := 4) (line := line) (row := [1, 0, 0, 0]) (sums := [1, 0, 1, 0]) (by rfl) (nb1 (hb _)) (by decide))).add (h2.step (num := 1 * line.getD 0 0 * line.getD 1 0 * line.getD 2 0) (p := 0) (m := 1) (fr := 2) (n := 4) (line := line) (row := [1, -1, 1, 0]) (sums := [1, 0, 1, 0]) (by rfl) (nb3 (hb _) (hb _) (hb _)) (by decide))).add (h3.step (num := 1 * line.getD 2 0) (p := 1) (m := 0) (fr := 2) (n := 4) (line := line) (row := [0, 0, 1, 0]) (sums := [1, 0, 1, 0]) (by rfl) (nb1 (hb _)) (by decide))).le (by decide) (by decide) fun X => by unfold zgG ent; rw [← hl]; grind,
  ((Pl.zero.add (h2.step (num := 1 * line.getD 0 0) (p := 0) (m := 0) (fr := 2) (n := 4) (line := line) (row := [1, 0, 0, 0]) (sums := [1, 1, 0, 0]) (by rfl) (nb1 (hb _)) (by decide))).add (h3.step (num := 1 * line.getD 1 0) (p := 0) (m := 0) (fr := 2) (n := 4) (line := line) (row := [0, 1, 0, 0]) (sums := [1, 1, 0, 0]) (by rfl) (nb1 (hb _)) (by decide))).le (by decide) (by decide) fun X => by unfold zhF ent; rw [← hl]; grind⟩
noncomputable def zjC (a : Nat → Nat → Int) (X : Int) : Int := a 2 1 * X * zhD a X + a 2 2 * X * zgF a X + a 2 3 * X * zfJ a X
noncomputable def zjD (a : Nat → Nat → Int) (X : Int) : Int := a 2 0 * zhD a X + a 2 0 * a 2 1 * a 2 2 * (1 + X) * zgF a X + a 2 0 * a 2 1 * a 2 3 * (1 + X) * zfJ a X + a 2 2 * X * zhE a X + a 2 3 * X * zgG a X
noncomputable def zjE (a : Nat → Nat → Int) (X : Int) : Int := a 2 0 * zgF a X + a 2 0 * a 2 2 * a 2 3 * (1 + X) * zfJ a X + a 2 1 * zhE a X + a 2 1 * a 2 2 * a 2 3 * (1 + X) * zgG a X + a 2 3 * X * zhF a X
noncomputable def zjF (a : Nat → Nat → Int) (X : Int) : Int := a 2 0 * zfJ a X + a 2 1 * zgG a X + a 2 2 * zhF a X
theorem k4_3 (line t0 t1 t2 t3 t4 t5 : List Int) : zfr (SRn 4) 7 (zbP 4) [([0, 0, 1, 1], t0, 2), ([0, 1, 0, 1], t1, 3), ([0, 1, 1, 0], t2, 2), ([1, 0, 0, 1], t3, 4), ([1, 0, 1, 0], t4, 3), ([1, 1, 0, 0], t5, 2)] line = [([0, 1, 1, 1], (za2 (za2 (za2 (List.replicate 7 0) (SRn 4 line [0, 1, 0, 0] [0, 1, 1, 1] t0)) (SRn 4 line [0, 0, 1, 0] [0, 1, 1, 1] t1)) (SRn 4 line [0, 0, 0, 1] [0, 1, 1, 1] t2)), 7), ([1, 0, 1, 1], (za2 (za2 (za2 (za2 (za2 (List.replicate 7 0) (SRn 4 line [1, 0, 0, 0] [1, 0, 1, 1] t0)) (SRn 4 line [1, -1, 1, 0] [1, 0, 1, 1] t1)) (SRn 4 line [1, -1, 0, 1] [1, 0, 1, 1] t2)) (SRn 4 line [0, 0, 1, 0] [1, 0, 1, 1] t3)) (SRn 4 line [0, 0, 0, 1] [1, 0, 1, 1] t4)), 14), ([1, 1, 0, 1], (za2 (za2 (za2 (za2 (za2 (List.replicate 7 0) (SRn 4 line [1, 0, 0, 0] [1, 1, 0, 1] t1)) (SRn 4 line [1, 0, -1, 1] [1, 1, 0, 1] t2)) (SRn 4 line [0, 1, 0, 0] [1, 1, 0, 1] t3)) (SRn 4 line [0, 1, -1, 1] [1, 1, 0, 1] t4)) (SRn 4 line [0, 0, 0, 1] [1, 1, 0, 1] t5)), 14), ([1, 1, 1, 0], (za2 (za2 (za2 (List.replicate 7 0) (SRn 4 line [1, 0, 0, 0] [1, 1, 1, 0] t2)) (SRn 4 line [0, 1, 0, 0] [1, 1, 1, 0] t4)) (SRn 4 line [0, 0, 1, 0] [1, 1, 1, 0] t5)), 7)] := by kernel_rfl
theorem p4_3 {rows : List (List Int)} {line t0 t1 t2 t3 t4 t5 : List Int} (hl : line = rows.getD 2 []) (hb : ∀ j, (line.getD j 0).natAbs ≤ 3) (h0 : Pl 7 t0 5 1458 (fun X => zhD (ent rows) X)) (h1 : Pl 7 t1 4 2916 (fun X => zgF (ent rows) X)) (h2 : Pl 7 t2 3 1458 (fun X => zfJ (ent rows) X)) (h3 : Pl 7 t3 3 4374 (fun X => zhE (ent rows) X)) (h4 : Pl 7 t4 2 2916 (fun X => zgG (ent rows) X)) (h5 : Pl 7 t5 1 1458 (fun X => zhF (ent rows) X)) :
 Pl 7 (za2 (za2 (za2 (List.replicate 7 0) (SRn 4 line [0, 1, 0, 0] [0, 1, 1, 1] t0)) (SRn 4 line [0, 0, 1, 0] [0, 1, 1, 1] t1)) (SRn 4 line [0, 0, 0, 1] [0, 1, 1, 1] t2)) 6 157464 (fun X => zjC (ent rows) X) ∧
 Pl 7 (za2 (za2 (za2 (za2 (za2 (List.replicate 7 0) (SRn 4 line [1, 0, 0, 0] [1, 0, 1, 1] t0)) (SRn 4 line [1, -1, 1, 0] [1, 0, 1, 1] t1)) (SRn 4 line [1, -1, 0, 1] [1, 0, 1, 1] t2)) (SRn 4 line [0, 0, 1, 0] [1, 0, 1, 1] t3)) (SRn 4 line [0, 0, 0, 1] [1, 0, 1, 1] t4)) 5 472392 (fun X => zjD (ent rows) X) ∧
 Pl 7 (za2 (za2 (za2 (za2 (za2 (List.replicate 7 0) (SRn 4 line [1, 0, 0, 0] [1, 1, 0, 1] t1)) (SRn 4 line [1, 0, -1, 1] [1, 1, 0, 1] t2)) (SRn 4 line [0, 1, 0, 0] [1, 1, 0, 1] t3)) (SRn 4 line [0, 1, -1, 1] [1, 1, 0, 1] t4)) (SRn 4 line [0, 0, 0, 1] [1, 1, 0, 1] t5)) 4 472392 (fun X => zjE (ent rows) X) ∧
 Pl 7 (za2 (za2 (za2 (List.replicate 7 0) (SRn 4 line [1, 0, 0, 0] [1, 1, 1, 0] t2)) (SRn 4 line [0, 1, 0, 0] [1, 1, 1, 0] t4)) (SRn 4 line [0, 0, 1, 0] [1, 1, 1, 0] t5)) 3 157464 (fun X => zjF (ent rows) X) := by
 exact ⟨(((Pl.zero.add (h0.step (num := 1 * line.getD 1 0) (p := 1) (m := 0) (fr := 1) (n := 4) (line := line) (row := [0, 1, 0, 0]) (sums := [0, 1, 1, 1]) (by rfl) (nb1 (hb _)) (by decide))).add (h1.step (num := 1 * line.getD 2 0) (p := 1) (m := 0) (fr := 1) (n := 4) (line := line) (row := [0, 0, 1, 0]) (sums := [0, 1, 1, 1]) (by rfl) (nb1 (hb _)) (by decide))).add (h2.step (num := 1 * line.getD 3 0) (p := 1) (m := 0) (fr := 1) (n := 4) (line := line) (row := [0, 0, 0, 1]) (sums := [0, 1, 1, 1]) (by rfl) (nb1 (hb _)) (by decide))).le (by decide) (by decide) fun X => by unfold zjC ent; rw [← hl]; grind,
  (((((Pl.zero.add (h0.step (num := 1 * line.getD 0 0) (p := 0) (m := 0) (fr := 1) (n := 4) (line := line) (row := [1, 0, 0, 0]) (sums := [1, 0, 1, 1]) (by rfl) (nb1 (hb _)) (by decide))).add (h1.step (num := 1 * line.getD 0 0 * line.getD 1 0 * line.getD 2 0) (p := 0) (m := 1) (fr := 1) (n := 4) (line := line) (row := [1, -1, 1, 0]) (sums := [1, 0, 1, 1]) (by rfl) (nb3 (hb _) (hb _) (hb _)) (by decide))).add (h2.step (num := 1 * line.getD 0 0 * line.getD 1 0 * line.getD 3 0) (p := 0) (m := 1) (fr := 1) (n := 4) (line := line) (row := [1, -1, 0, 1]) (sums := [1, 0, 1, 1]) (by rfl) (nb3 (hb _) (hb _) (hb _)) (by decide))).add (h3.step (num := 1 * line.getD 2 0) (p := 1) (m := 0) (fr := 1) (n := 4) (line := line) (row := [0, 0, 1, 0]) (sums := [1, 0, 1, 1]) (by rfl) (nb1 (hb _)) (by decide))).add (h4.step (num := 1 * line.getD 3 0) (p := 1) (m := 0) (fr := 1) (n := 4) (line := line) (row := [0, 0, 0, 1]) (sums := [1, 0, 1, 1]) (by rfl) (nb1 (hb _)) (by decide))).le (by decide) (by decide) fun X => by unfold zjD ent; rw [← hl]; grind,
  (((((Pl.zero.add (h1.step (num := 1 * line.getD 0 0) (p := 0) (m := 0) (fr := 1) (n := 4) (line := line) (row := [1, 0, 0, 0]) (sums := [1, 1, 0, 1]) (by rfl) (nb1 (hb _)) (by decide))).add (h2.step (num := 1 * line.getD 0 0 * line.getD 2 0 * line.getD 3 0) (p := 0) (m := 1) (fr := 1) (n := 4) (line := line) (row := [1, 0, -1, 1]) (sums := [1, 1, 0, 1]) (by rfl) (nb3 (hb _) (hb _) (hb _)) (by decide))).add (h3.step (num := 1 * line.getD 1 0) (p := 0) (m := 0) (fr := 1) (n := 4) (line := line) (row := [0, 1, 0, 0]) (sums := [1, 1, 0, 1]) (by rfl) (nb1 (hb _)) (by decide))).add (h4.step (num := 1 * line.getD 1 0 * line.getD 2 0 * line.getD 3 0) (p := 0) (m := 1) (fr := 1) (n := 4) (line := line) (row := [0, 1, -1, 1]) (sums := [1, 1, 0, 1]) (by rfl) (nb3 (hb _) (hb _) (hb _)) (by decide))).add (h5.step (num := 1 * line.getD 3 0) (p := 1) (m := 0) (fr := 1) (n := 4) (line := line) (row := [0, 0, 0, 1]) (sums := [1, 1, 0, 1]) (by rfl) (nb1 (hb _)) (by decide))).le (by decide) (by decide) fun X => by unfold zjE ent; rw [← hl]; grind,
  (((Pl.zero.add (h2.step (num := 1 * line.getD 0 0) (p := 0) (m := 0) (fr := 1) (n := 4) (line := line) (row := [1, 0, 0, 0]) (sums := [1, 1, 1, 0]) (by rfl) (nb1 (hb _)) (by decide))).add (h4.step (num := 1 * line.getD 1 0) (p := 0) (m := 0) (fr := 1) (n := 4) (line := line) (row := [0, 1, 0, 0]) (sums := [1, 1, 1, 0]) (by rfl) (nb1 (hb _)) (by decide))).add (h5.step (num := 1 * line.getD 2 0) (p := 0) (m := 0) (fr := 1) (n := 4) (line := line) (row := [0, 0, 1, 0]) (sums := [1, 1, 1, 0]) (by rfl) (nb1 (hb _)) (by decide))).le (by decide) (by decide) fun X => by unfold zjF ent; rw [← hl]; grind⟩
noncomputable def zfK (a : Nat → Nat → Int) (X : Int) : Int := a 3 0 * zjC a X + a 3 1 * zjD a X + a 3 2 * zjE a X + a 3 3 * zjF a X
theorem k4_4 (line t0 t1 t2 t3 : List Int) : zfr (SRn 4) 7 (zbP 4) [([0, 1, 1, 1], t0, 7), ([1, 0, 1, 1], t1, 14), ([1, 1, 0, 1], t2, 14), ([1, 1, 1, 0], t3, 7)] line = [([1, 1, 1, 1], (za2 (za2 (za2 (za2 (List.replicate 7 0) (SRn 4 line [1, 0, 0, 0] [1, 1, 1, 1] t0)) (SRn 4 line [0, 1, 0, 0] [1, 1, 1, 1] t1)) (SRn 4 line [0, 0, 1, 0] [1, 1, 1, 1] t2)) (SRn 4 line [0, 0, 0, 1] [1, 1, 1, 1] t3)), 42)] := by kernel_rfl
theorem p4_4 {rows : List (List Int)} {line t0 t1 t2 t3 : List Int} (hl : line = rows.getD 3 []) (hb : ∀ j, (line.getD j 0).natAbs ≤ 3) (h0 : Pl 7 t0 6 157464 (fun X => zjC (ent rows) X)) (h1 : Pl 7 t1 5 472392 (fun X => zjD (ent rows) X)) (h2 : Pl 7 t2 4 472392 (fun X => zjE (ent rows) X)) (h3 : Pl 7 t3 3 157464 (fun X => zjF (ent rows) X)) :
 Pl 7 (za2 (za2 (za2 (za2 (List.replicate 7 0) (SRn 4 line [1, 0, 0, 0] [1, 1, 1, 1] t0)) (SRn 4 line [0, 1, 0, 0] [1, 1, 1, 1] t1)) (SRn 4 line [0, 0, 1, 0] [1, 1, 1, 1] t2)) (SRn 4 line [0, 0, 0, 1] [1, 1, 1, 1] t3)) 6 34012224 (fun X => zfK (ent rows) X) := by
 exact ((((Pl.zero.add (h0.step (num := 1 * line.getD 0 0) (p := 0) (m := 0) (fr := 0) (n := 4) (line := line) (row := [1, 0, 0, 0]) (sums := [1, 1, 1, 1]) (by rfl) (nb1 (hb _)) (by decide))).add (h1.step (num := 1 * line.getD 1 0) (p := 0) (m := 0) (fr := 0) (n := 4) (line := line) (row := [0, 1, 0, 0]) (sums := [1, 1, 1, 1]) (by rfl) (nb1 (hb _)) (by decide))).add (h2.step (num := 1 * line.getD 2 0) (p := 0) (m := 0) (fr := 0) (n := 4) (line := line) (row := [0, 0, 1, 0]) (sums := [1, 1, 1, 1]) (by rfl) (nb1 (hb _)) (by decide))).add (h3.step (num := 1 * line.getD 3 0) (p := 0) (m := 0) (fr := 0) (n := 4) (line := line) (row := [0, 0, 0, 1]) (sums := [1, 1, 1, 1]) (by rfl) (nb1 (hb _)) (by decide))).le (by decide) (by decide) fun X => by unfold zfK ent; rw [← hl]; grind
theorem zrn (line row sums : List Int) : ∀ j, (zcg line row sums j).2 = (zcg [] row sums j).2 := by
 intro j
 induction j with
 | zero => rfl
 | succ j ih =>
  show (zeM _ _ _ (zcg line row sums j)).2 = (zeM _ _ _ (zcg [] row sums j)).2
  unfold zeM
  dsimp only
  rw [ih]
theorem zro {line row sums : List Int} (hb : ∀ j, (line.getD j 0).natAbs ≤ 3) : ∀ j, (zcg line row sums j).1.natAbs ≤ 3 ^ j := by
 intro j
 induction j with
 | zero => exact Nat.le_refl _
 | succ j ih =>
  show (zeM _ _ _ (zcg line row sums j)).1.natAbs ≤ _
  unfold zeM
  dsimp only
  rw [Nat.pow_succ]
  split
  · exact ycQ ih
  · rw [Int.natAbs_mul]; exact Nat.mul_le_mul ih (hb j)
noncomputable def chkT (n : Nat) (s u : List Int) : Bool := match zel s u with
 | none => true
 | some row => row.length == n && row.all (fun x => decide (x.natAbs ≤ 3)) && decide (0 ≤ (zcg [] row u n).2.1 ∧ (zcg [] row u n).2.1 ≤ 100 ∧ 0 ≤ (zcg [] row u n).2.2.1 ∧ (zcg [] row u n).2.2.1 ≤ 100)
noncomputable def chkS (n : Nat) : Bool := (zbP n).all fun s => (zbP n).all fun u => chkT n s u
theorem chk_3 : chkS 3 = true := by decide +kernel
theorem chk_4 : chkS 4 = true := by decide +kernel
theorem zw0 {n : Nat} (hn : n = 3 ∨ n = 4) {s u row line told : List Int} (hs : s ∈ zbP n) (hu : u ∈ zbP n) (ht : zel s u = some row) (hl : line.length = n) (hb : ∀ j, (line.getD j 0).natAbs ≤ 3) (hlt : told.length ≤ 100) :
 (tab 6).1 "_law_step" [D.ints line, D.ints row, D.ints u, D.ints told] = some (D.ints (SRn n line row u told)) := by
 have hc : chkS n = true := by rcases hn with rfl | rfl; exact chk_3; exact chk_4
 have hc := List.all_eq_true.mp (List.all_eq_true.mp hc s hs) u hu
 unfold chkT at hc
 rw [ht] at hc
 dsimp only at hc
 rw [Bool.and_eq_true, Bool.and_eq_true, decide_eq_true_eq, beq_iff_eq, List.all_eq_true] at hc
 obtain ⟨⟨h1, h2⟩, h3, h4, h5, h6⟩ := hc
 rw [← zrn line] at h3 h4 h5 h6
 have f1 := zro (line := line) (row := row) (sums := u) hb n
 have ul := zgw n u hu
 unfold SRn
 refine za9 (zqT (n := n) (fr := (zcg line row u n).2.2.2) (zcm 5) hl h1 ul (ycP hn) hlt (fun x hx => ?_) (fun x hx => ?_) ?_ ?_ (ycO h4) (ycO h6))
 · obtain ⟨i, hi, rfl⟩ := List.getElem_of_mem hx
   have := hb i
   simp only [List.getD, List.getElem?_eq_getElem hi, Option.getD_some] at this
   unfold zbo; exact yb5 this
 · have := h2 x hx
   rw [decide_eq_true_eq] at this
   unfold zbo; exact yb5 this
 · rw [Int.toNat_of_nonneg h3, Int.toNat_of_nonneg h5]
 · have : 3 ^ n ≤ 81 := by rcases hn with rfl | rfl <;> decide
   unfold zbo; exact ycN f1 this
theorem ztL {n N : Nat} {rows : List (List Int)} (h0 : List.replicate n (0 : Int) ∈ zbP n) (hN : 0 < N) : ∀ i, (∀ e ∈ zbg (SRn n) N n rows i, e.1 ∈ zbP n ∧ e.2.1.length = N) ∧ (zbg (SRn n) N n rows i).length ≤ max 1 (zbP n).length := by
 intro i
 induction i with
 | zero =>
  refine ⟨fun e he => ?_, Nat.le_max_left _ _⟩
  rw [zbg, List.mem_singleton] at he
  subst he
  exact ⟨h0, by show (1 :: List.replicate (N - 1) (0 : Int)).length = N; rw [List.length_cons, List.length_replicate]; exact ycM hN⟩
 | succ i ih =>
  refine ⟨fun e he => ?_, Nat.le_trans (ztl (fun x => by unfold ztj; dsimp only; split <;> simp) _) (Nat.le_max_right _ _)⟩
  rw [zbg, zfr, List.mem_flatMap] at he
  obtain ⟨u, hu, he⟩ := he
  have hk := ih.1
  generalize zbg (SRn n) N n rows i = K at *
  generalize rows.getD i [] = line at *
  have fl : ∀ (l : List Ent) (acc : List Int × Int), (∀ e ∈ l, e.2.1.length = N) → acc.1.length = N → (l.foldl (zti (SRn n) line u) acc).1.length = N := by
   intro l
   induction l with
   | nil => exact fun acc _ h => h
   | cons x l ihl =>
    intro acc hx ha
    rw [List.foldl_cons]
    refine ihl _ (fun e he => hx e (.tail _ he)) ?_
    unfold zti
    split
    · exact ha
    · show (za2 _ _).length = N
      unfold za2
      rw [List.length_map, List.length_range, ztK, ha, hx x (.head _), Nat.min_self]
  unfold ztj at he
  dsimp only at he
  split at he
  · rw [List.mem_singleton] at he
    subst he
    exact ⟨hu, fl K _ (fun e he => (hk e he).2) List.length_replicate⟩
  · cases he
theorem ztM {n : Nat} (hn : n = 3 ∨ n = 4) {N : Nat} (hN : N = n * (n - 1) / 2 + 1) {rows : List (List Int)} (hl : rows.length = n) (hr : ∀ i, i < n → (rows.getD i []).length = n) (hb : ∀ i j, (ent rows i j).natAbs ≤ 3) (hne : ∀ i, i ≤ n → zbg (SRn n) N n rows i ≠ []) :
 ∃ e K, zbg (SRn n) N n rows n = e :: K ∧ (tab 7).1 "_law_signed" [.lst (rows.map D.ints)] = some (.tup [D.ints e.2.1, .int e.2.2]) := by
 have hN7 : 0 < N ∧ N ≤ 7 := by rcases hn with rfl | rfl <;> simp_all
 have h0 : List.replicate n (0 : Int) ∈ zbP n := by rcases hn with rfl | rfl <;> decide +kernel
 have km := fun i => ztL (n := n) (N := N) (rows := rows) h0 hN7.1 i
 have l16 : (zbP n).length ≤ 16 := by rcases hn with rfl | rfl <;> decide
 have hk : ∀ i, i ≤ n → ∃ e K, zbg (SRn n) N n rows i = e :: K ∧ K.length ≤ 100 ∧ ∀ e' ∈ e :: K, e'.1.length = n ∧ e'.2.1.length = N := fun i hi => by
  have h := km i
  have h4 := hne i hi
  cases hq : zbg (SRn n) N n rows i with
  | nil => exact absurd hq h4
  | cons e K =>
   rw [hq] at h
   refine ⟨e, K, rfl, ?_, fun e' he' => ⟨zgw n _ (h.1 e' he').1, (h.1 e' he').2⟩⟩
   have h3 := h.2
   rw [List.length_cons] at h3
   exact ybv l16 h3
 obtain ⟨e, K, h1, h2⟩ := zrd (SR := SRn n) (N := N) (zcm 6) (ycL hn) (ycf hn) hl hN (fun a b ha hb => zwT 5 a b ha hb) (fun i hi e he u hu row ht => zw0 hn ((km i).1 e he).1 hu ht (hr i hi) (fun j => hb i j) (by rw [((km i).1 e he).2]; exact ycK hN7)) hk (fun line row sums told h => by rw [ztK]; exact h)
 exact ⟨e, K, h1, za9 h2⟩
theorem zve {rows : List (List Int)} (hl : rows.length = 3) (hr : ∀ i, i < 3 → (rows.getD i []).length = 3) (hb : ∀ i j, (ent rows i j).natAbs ≤ 3) : ∃ told B, B ≤ 1000000000 ∧ (tab 7).1 "_law_signed" [.lst (rows.map D.ints)] = some (.tup [D.ints told, .int 7]) ∧ Pl 4 told 3 B (fun X => zgC (ent rows) X) := by
 have e0 : zbg (SRn 3) 4 3 rows 0 = [([0, 0, 0], 1 :: List.replicate (4 - 1) 0, 1)] := rfl
 obtain ⟨t0, t1, t2, e1, h0, h1, h2⟩ : ∃ t0 t1 t2 : List Int, zbg (SRn 3) 4 3 rows 1 = [([0, 0, 1], t0, 1), ([0, 1, 0], t1, 1), ([1, 0, 0], t2, 1)] ∧ Pl 4 t0 2 27 (fun X => zjA (ent rows) X) ∧ Pl 4 t1 1 27 (fun X => zhC (ent rows) X) ∧ Pl 4 t2 0 27 (fun X => zjB (ent rows) X) :=
  ⟨_, _, _, by show zfr _ _ _ (zbg (SRn 3) 4 3 rows 0) _ = _; rw [e0, k3_1], p3_1 rfl (fun j => hb 0 j) (Pl.one (by decide))⟩
 obtain ⟨t0, t1, t2, e2, h0, h1, h2⟩ : ∃ t0 t1 t2 : List Int, zbg (SRn 3) 4 3 rows 2 = [([0, 1, 1], t0, 2), ([1, 0, 1], t1, 3), ([1, 1, 0], t2, 2)] ∧ Pl 4 t0 3 1458 (fun X => zkq (ent rows) X) ∧ Pl 4 t1 2 2916 (fun X => zkr (ent rows) X) ∧ Pl 4 t2 1 1458 (fun X => zks (ent rows) X) :=
  ⟨_, _, _, by show zfr _ _ _ (zbg (SRn 3) 4 3 rows 1) _ = _; rw [e1, k3_2], p3_2 rfl (fun j => hb 1 j) h0 h1 h2⟩
 obtain ⟨t0, e3, h0⟩ : ∃ t0 : List Int, zbg (SRn 3) 4 3 rows 3 = [([1, 1, 1], t0, 7)] ∧ Pl 4 t0 3 157464 (fun X => zgC (ent rows) X) :=
  ⟨_, by show zfr _ _ _ (zbg (SRn 3) 4 3 rows 2) _ = _; rw [e2, k3_3], p3_3 rfl (fun j => hb 2 j) h0 h1 h2⟩
 obtain ⟨e, K, q1, q2⟩ := ztM (n := 3) (N := 4) (by decide) rfl hl hr hb (fun i hi => by
  rcases le3c hi with rfl | rfl | rfl | rfl
  · rw [e0]; exact List.cons_ne_nil _ _
  · rw [e1]; exact List.cons_ne_nil _ _
  · rw [e2]; exact List.cons_ne_nil _ _
  · rw [e3]; exact List.cons_ne_nil _ _
 )
 rw [e3] at q1
 obtain ⟨rfl, _⟩ := List.cons.inj q1
 exact ⟨t0, 157464, by decide, q2, h0⟩
theorem zvf {rows : List (List Int)} (hl : rows.length = 4) (hr : ∀ i, i < 4 → (rows.getD i []).length = 4) (hb : ∀ i j, (ent rows i j).natAbs ≤ 3) : ∃ told B, B ≤ 1000000000 ∧ (tab 7).1 "_law_signed" [.lst (rows.map D.ints)] = some (.tup [D.ints told, .int 42]) ∧ Pl 7 told 6 B (fun X => zfK (ent rows) X) := by
 have e0 : zbg (SRn 4) 7 4 rows 0 = [([0, 0, 0, 0], 1 :: List.replicate (7 - 1) 0, 1)] := rfl
 obtain ⟨t0, t1, t2, t3, e1, h0, h1, h2, h3⟩ : ∃ t0 t1 t2 t3 : List Int, zbg (SRn 4) 7 4 rows 1 = [([0, 0, 0, 1], t0, 1), ([0, 0, 1, 0], t1, 1), ([0, 1, 0, 0], t2, 1), ([1, 0, 0, 0], t3, 1)] ∧ Pl 7 t0 3 27 (fun X => zgD (ent rows) X) ∧ Pl 7 t1 2 27 (fun X => ze1 (ent rows) X) ∧ Pl 7 t2 1 27 (fun X => ze2 (ent rows) X) ∧ Pl 7 t3 0 27 (fun X => zgE (ent rows) X) :=
  ⟨_, _, _, _, by show zfr _ _ _ (zbg (SRn 4) 7 4 rows 0) _ = _; rw [e0, k4_1], p4_1 rfl (fun j => hb 0 j) (Pl.one (by decide))⟩
 obtain ⟨t0, t1, t2, t3, t4, t5, e2, h0, h1, h2, h3, h4, h5⟩ : ∃ t0 t1 t2 t3 t4 t5 : List Int, zbg (SRn 4) 7 4 rows 2 = [([0, 0, 1, 1], t0, 2), ([0, 1, 0, 1], t1, 3), ([0, 1, 1, 0], t2, 2), ([1, 0, 0, 1], t3, 4), ([1, 0, 1, 0], t4, 3), ([1, 1, 0, 0], t5, 2)] ∧ Pl 7 t0 5 1458 (fun X => zhD (ent rows) X) ∧ Pl 7 t1 4 2916 (fun X => zgF (ent rows) X) ∧ Pl 7 t2 3 1458 (fun X => zfJ (ent rows) X) ∧ Pl 7 t3 3 4374 (fun X => zhE (ent rows) X) ∧ Pl 7 t4 2 2916 (fun X => zgG (ent rows) X) ∧ Pl 7 t5 1 1458 (fun X => zhF (ent rows) X) :=
  ⟨_, _, _, _, _, _, by show zfr _ _ _ (zbg (SRn 4) 7 4 rows 1) _ = _; rw [e1, k4_2], p4_2 rfl (fun j => hb 1 j) h0 h1 h2 h3⟩
 obtain ⟨t0, t1, t2, t3, e3, h0, h1, h2, h3⟩ : ∃ t0 t1 t2 t3 : List Int, zbg (SRn 4) 7 4 rows 3 = [([0, 1, 1, 1], t0, 7), ([1, 0, 1, 1], t1, 14), ([1, 1, 0, 1], t2, 14), ([1, 1, 1, 0], t3, 7)] ∧ Pl 7 t0 6 157464 (fun X => zjC (ent rows) X) ∧ Pl 7 t1 5 472392 (fun X => zjD (ent rows) X) ∧ Pl 7 t2 4 472392 (fun X => zjE (ent rows) X) ∧ Pl 7 t3 3 157464 (fun X => zjF (ent rows) X) :=
  ⟨_, _, _, _, by show zfr _ _ _ (zbg (SRn 4) 7 4 rows 2) _ = _; rw [e2, k4_3], p4_3 rfl (fun j => hb 2 j) h0 h1 h2 h3 h4 h5⟩
 obtain ⟨t0, e4, h0⟩ : ∃ t0 : List Int, zbg (SRn 4) 7 4 rows 4 = [([1, 1, 1, 1], t0, 42)] ∧ Pl 7 t0 6 34012224 (fun X => zfK (ent rows) X) :=
  ⟨_, by show zfr _ _ _ (zbg (SRn 4) 7 4 rows 3) _ = _; rw [e3, k4_4], p4_4 rfl (fun j => hb 3 j) h0 h1 h2 h3⟩
 obtain ⟨e, K, q1, q2⟩ := ztM (n := 4) (N := 7) (by decide) rfl hl hr hb (fun i hi => by
  rcases le4c hi with rfl | rfl | rfl | rfl | rfl
  · rw [e0]; exact List.cons_ne_nil _ _
  · rw [e1]; exact List.cons_ne_nil _ _
  · rw [e2]; exact List.cons_ne_nil _ _
  · rw [e3]; exact List.cons_ne_nil _ _
  · rw [e4]; exact List.cons_ne_nil _ _
 )
 rw [e4] at q1
 obtain ⟨rfl, _⟩ := List.cons.inj q1
 exact ⟨t0, 34012224, by decide, q2, h0⟩
theorem id33 {p q r s t u v w x X : Int} (ht : t * t = 1) : (p * t + X * (q * s)) * (t * x + X * (u * w)) + X * ((q * u + X * (r * t)) * (s * w + X * (t * v))) = t * (p * t * x + X * (q * s * x + p * u * w + q * s * u * w * t) + X * X * (q * u * v + r * s * w + q * s * u * w * t) + X * X * X * (r * t * v)) := by grind
theorem z3_is {a : Nat → Nat → Int} {X : Int} : zgC a X = a 0 0 * a 1 1 * a 2 2 + X * (a 0 1 * a 1 0 * a 2 2 + a 0 0 * a 1 2 * a 2 1 + a 0 1 * a 1 0 * a 1 2 * a 2 1 * a 1 1) + X * X * (a 0 1 * a 1 2 * a 2 0 + a 0 2 * a 1 0 * a 2 1 + a 0 1 * a 1 0 * a 1 2 * a 2 1 * a 1 1) + X * X * X * (a 0 2 * a 1 1 * a 2 0) := by
 simp only [zgC, zkq, zkr, zks, zjA, zhC, zjB]; grind
theorem z3_det {a : Nat → Nat → Int} : zgC a (-1) = znl a 3 := by
 rw [z3_is]; show _ = d3 _ _ _ _ _ _ _ _ _; unfold d3; grind
theorem z4_det {a : Nat → Nat → Int} : zfK a (-1) = znl a 4 := by
 simp only [zfK, zjC, zjD, zjE, zjF, zhD, zgF, zfJ, zhE, zgG, zhF, zgD, ze1, ze2, zgE]
 show _ = d4 _ _ _ _ _ _ _ _ _ _ _ _ _ _ _ _
 unfold d4 d3; grind
noncomputable def l3 (p q r s t u v w x X : Int) : Int := p * t * x + X * (q * s * x + p * u * w + q * s * u * w * t) + X * X * (q * u * v + r * s * w + q * s * u * w * t) + X * X * X * (r * t * v)
theorem id44 {a : Nat → Nat → Int} {X : Int} (h1 : a 1 1 * a 1 1 = 1) (h2 : a 1 2 * a 1 2 = 1) (h3 : a 2 1 * a 2 1 = 1) (h4 : a 2 2 * a 2 2 = 1) :
 l3 (a 0 0) (a 0 1) (a 0 2) (a 1 0) (a 1 1) (a 1 2) (a 2 0) (a 2 1) (a 2 2) X * l3 (a 1 1) (a 1 2) (a 1 3) (a 2 1) (a 2 2) (a 2 3) (a 3 1) (a 3 2) (a 3 3) X + X * (l3 (a 0 1) (a 0 2) (a 0 3) (a 1 1) (a 1 2) (a 1 3) (a 2 1) (a 2 2) (a 2 3) X * l3 (a 1 0) (a 1 1) (a 1 2) (a 2 0) (a 2 1) (a 2 2) (a 3 0) (a 3 1) (a 3 2) X) = (a 1 1 * a 2 2 + X * (a 1 2 * a 2 1)) * zfK a X := by
 simp only [l3, zfK, zjC, zjD, zjE, zjF, zhD, zgF, zfJ, zhE, zgG, zhF, zgD, ze1, ze2, zgE]
 generalize a 0 0 = a00; generalize a 0 1 = a01; generalize a 0 2 = a02; generalize a 0 3 = a03
 generalize a 1 0 = a10; generalize a 1 1 = a11 at *; generalize a 1 2 = a12 at *; generalize a 1 3 = a13
 generalize a 2 0 = a20; generalize a 2 1 = a21 at *; generalize a 2 2 = a22 at *; generalize a 2 3 = a23
 generalize a 3 0 = a30; generalize a 3 1 = a31; generalize a 3 2 = a32; generalize a 3 3 = a33
 grind
noncomputable def sqB (a : Nat → Nat → Int) : Nat → Nat → Nat → List Int
 | 0, _, _ => [1]
 | 1, i, j => trim [a i j]
 | 2, i, j => trim [a i j * a (i + 1) (j + 1), a i (j + 1) * a (i + 1) j]
 | _, i, j => trim [a i j * a (i + 1) (j + 1) * a (i + 2) (j + 2),
  a i (j + 1) * a (i + 1) j * a (i + 2) (j + 2) + a i j * a (i + 1) (j + 2) * a (i + 2) (j + 1) + a i (j + 1) * a (i + 1) j * a (i + 1) (j + 2) * a (i + 2) (j + 1) * a (i + 1) (j + 1),
  a i (j + 1) * a (i + 1) (j + 2) * a (i + 2) j + a i (j + 2) * a (i + 1) j * a (i + 2) (j + 1) + a i (j + 1) * a (i + 1) j * a (i + 1) (j + 2) * a (i + 2) (j + 1) * a (i + 1) (j + 1),
  a i (j + 2) * a (i + 1) (j + 1) * a (i + 2) j]
noncomputable def sqA (a : Nat → Nat → Int) (n : Nat) (told : List Int) (k i j : Nat) : List Int := if k = n then trim told else sqB a k i j
theorem m2b {x y : Int} (hx : x.natAbs ≤ 3) (hy : y.natAbs ≤ 3) : (x * y).natAbs ≤ 9 := zcq hx hy
theorem m3b {x y z : Int} (hx : x.natAbs ≤ 3) (hy : y.natAbs ≤ 3) (hz : z.natAbs ≤ 3) : (x * y * z).natAbs ≤ 27 := zcq (m2b hx hy) hz
theorem m5b {x y z u v : Int} (hx : x.natAbs ≤ 3) (hy : y.natAbs ≤ 3) (hz : z.natAbs ≤ 3) (hu : u.natAbs ≤ 3) (hv : v.natAbs ≤ 3) : (x * y * z * u * v).natAbs ≤ 243 := zcq (zcq (m3b hx hy hz) hu) hv
theorem ev_2 (x y X : Int) : ev [x, y] X = x + X * y := by simp only [zba, zbr]; grind
theorem ev_4 (x y z w X : Int) : ev [x, y, z, w] X = x + X * y + X * X * z + X * X * X * w := by simp only [zba, zbr]; grind
theorem sq_ok {a : Nat → Nat → Int} (hb : ∀ i j, (a i j).natAbs ≤ 3) {n : Nat} {told : List Int} (hl : told.length ≤ 7) (hn : nrm told ≤ 1000000000) (k i j : Nat) : Trd (sqA a n told k i j) ∧ (sqA a n told k i j).length < 60 ∧ nrm (sqA a n told k i j) ≤ 1000000000 := by
 have tr : ∀ l : List Int, l.length ≤ 7 → nrm l ≤ 1000000000 → Trd (trim l) ∧ (trim l).length < 60 ∧ nrm (trim l) ≤ 1000000000 := fun l h1 h2 => ⟨zdZ l, by have := zc1 l; exact ycJ h1 this, Nat.le_trans (zva l) h2⟩
 unfold sqA
 split
 · exact tr _ hl hn
 · match k with
   | 0 => exact ⟨zc7 (by show (1 : Int) ≠ 0; decide), by show 1 < 60; decide, by show 1 ≤ 1000000000; decide⟩
   | 1 =>
    refine tr _ (by show 1 ≤ 7; decide) ?_
    have := hb i j
    rw [zbJ, show nrm [] = 0 from rfl]; exact ycI this
   | 2 =>
    refine tr _ (by show 2 ≤ 7; decide) ?_
    have := m2b (hb i j) (hb (i + 1) (j + 1)); have := m2b (hb i (j + 1)) (hb (i + 1) j)
    rw [zbJ, zbJ, show nrm [] = 0 from rfl]; exact ycH ‹_› this
   | k + 3 =>
    refine tr _ (by show 4 ≤ 7; decide) ?_
    have b1 := m3b (hb i j) (hb (i + 1) (j + 1)) (hb (i + 2) (j + 2))
    have b2 := m3b (hb i (j + 1)) (hb (i + 1) j) (hb (i + 2) (j + 2))
    have b3 := m3b (hb i j) (hb (i + 1) (j + 2)) (hb (i + 2) (j + 1))
    have b4 := m5b (hb i (j + 1)) (hb (i + 1) j) (hb (i + 1) (j + 2)) (hb (i + 2) (j + 1)) (hb (i + 1) (j + 1))
    have b5 := m3b (hb i (j + 1)) (hb (i + 1) (j + 2)) (hb (i + 2) j)
    have b6 := m3b (hb i (j + 2)) (hb (i + 1) j) (hb (i + 2) (j + 1))
    have b7 := m3b (hb i (j + 2)) (hb (i + 1) (j + 1)) (hb (i + 2) j)
    rw [zbJ, zbJ, zbJ, zbJ, show nrm [] = 0 from rfl]
    exact yad b1 b2 b3 b4 b5 b6 b7
theorem ev_ne {l : List Int} {X : Int} (h : ev l X ≠ 0) : l ≠ [] := fun q => h (by rw [q, zbr])
theorem ztN {n : Nat} (hn : n = 3 ∨ n = 4) {rows : List (List Int)} (hl : rows.length = n) (hr : ∀ i, i < n → (rows.getD i []).length = n) (hb : ∀ i j, (ent rows i j).natAbs ≤ 3) (hs : ∀ i j, 0 < i → i + 1 < n → 0 < j → j + 1 < n → ent rows i j * ent rows i j = 1) {told : List Int} (htl : told.length ≤ 7) (htn : nrm told ≤ 1000000000)
 (hev : ∀ X, ev told X = if n = 3 then zgC (ent rows) X else zfK (ent rows) X) : (tab 7).1 "_law_condensed" [.lst (rows.map D.ints)] = some (D.ints (trim told)) := by
 have e : trim told = sqA (ent rows) n told n 0 0 := by unfold sqA; rw [if_pos rfl]
 rw [e]
 have n0 : ∀ i j, 0 < i → i + 1 < n → 0 < j → j + 1 < n → ent rows i j ≠ 0 := fun i j h1 h2 h3 h4 q => by have := hs i j h1 h2 h3 h4; rw [q] at this; cases this
 have s0 : ∀ i j, sqA (ent rows) n told 0 i j = [1] := fun i j => by unfold sqA; rw [if_neg (ycG hn)]; rfl
 have s1 : ∀ i j, sqA (ent rows) n told 1 i j = trim [ent rows i j] := fun i j => by unfold sqA; rw [if_neg (ycF hn)]; rfl
 have s2 : ∀ i j X, ev (sqA (ent rows) n told 2 i j) X = ent rows i j * ent rows (i + 1) (j + 1) + X * (ent rows i (j + 1) * ent rows (i + 1) j) := fun i j X => by unfold sqA; rw [if_neg (ycE hn)]; show ev (trim _) X = _; rw [zcx, ev_2]
 have s1e : ∀ i j X, ev (sqA (ent rows) n told 1 i j) X = ent rows i j := fun i j X => by rw [s1, zcx, zba, zbr]; grind
 have s3 : n = 4 → ∀ i j X, ev (sqA (ent rows) n told 3 i j) X = l3 (ent rows i j) (ent rows i (j + 1)) (ent rows i (j + 2)) (ent rows (i + 1) j) (ent rows (i + 1) (j + 1)) (ent rows (i + 1) (j + 2)) (ent rows (i + 2) j) (ent rows (i + 2) (j + 1)) (ent rows (i + 2) (j + 2)) X := fun h i j X => by unfold sqA; rw [if_neg (ycD h)]; show ev (trim _) X = _; rw [zcx, ev_4]; rfl
 refine ztG (zwY (fun k i j _ _ _ => sq_ok hb htl htn k i j) (fun k i j hk hi hj => ?_) fun k i j hk hi hj X => ?_) (yb4 hn) (ycf hn) hl hr s0 fun i j _ _ => s1 i j
 · match k, (show k ≤ 2 by exact ycz hn hi) with
   | 0, _ => rw [s0]; exact List.cons_ne_nil _ _
   | 1, _ => exact ev_ne (X := 0) (by rw [s1e]; exact n0 _ _ (ycy) (ycx hi) (ycy) (ycx hj))
   | 2, _ => exact ev_ne (X := 0) (by rw [s2, Int.zero_mul, Int.add_zero]; exact Int.mul_ne_zero (n0 _ _ (ycy) (ycC hi) (ycy) (ycC hj)) (n0 _ _ (ycB) (ycA hi) (ycB) (ycA hj)))
 · match k, (show k ≤ 2 by exact ycz hn hi) with
   | 0, _ => rw [s1e, s1e, s1e, s1e, s0, s2, zba, zbr]; grind
   | 1, _ =>
    have hc := hs (i + 1) (j + 1) (ycy) (ycx hi) (ycy) (ycx hj)
    rw [s2, s2, s2, s2, s1e, id33 hc]
    rcases hn with rfl | rfl
    · obtain rfl : i = 0 := by exact ycw hi
      obtain rfl : j = 0 := by exact ycw hj
      have : ev (sqA (ent rows) 3 told 3 0 0) X = zgC (ent rows) X := by
       unfold sqA; rw [if_pos rfl, zcx, hev X, if_pos rfl]
      rw [show 1 + 2 = 3 from rfl, this, z3_is]
    · rw [show 1 + 2 = 3 from rfl, s3 rfl]; rfl
   | 2, _ =>
    rcases hn with rfl | rfl
    · exact ycv hk
    · obtain rfl : i = 0 := by exact ycu hi
      obtain rfl : j = 0 := by exact ycu hj
      have : ev (sqA (ent rows) 4 told 4 0 0) X = zfK (ent rows) X := by
       unfold sqA; rw [if_pos rfl, zcx, hev X, if_neg (by decide)]
      rw [show 2 + 2 = 4 from rfl, this, show 2 + 1 = 3 from rfl, s3 rfl, s3 rfl, s3 rfl, s3 rfl, s2]
      exact id44 (hs 1 1 (yct) (ycs) (yct) (ycs)) (hs 1 2 (yct) (ycs) (ycr) (ycq)) (hs 2 1 (ycr) (ycq) (yct) (ycs)) (hs 2 2 (ycr) (ycq) (ycr) (ycq))
theorem ztO {n : Nat} (hn : n = 3 ∨ n = 4) {rows : List (List Int)} (hl : rows.length = n) (hr : ∀ i, i < n → (rows.getD i []).length = n) (hb : ∀ i j, (ent rows i j).natAbs ≤ 3) (hs : ∀ i j, 0 < i → i + 1 < n → 0 < j → j + 1 < n → ent rows i j * ent rows i j = 1) :
 ∃ told, told.length ≤ 7 ∧ (tab 7).1 "_law_condensed" [.lst (rows.map D.ints)] = some (D.ints (trim told)) ∧ (tab 7).1 "_law_signed" [.lst (rows.map D.ints)] = some (.tup [D.ints told, .int (if n = 3 then 7 else 42)]) ∧ ev told (-1) = znl (ent rows) n := by
 rcases hn with rfl | rfl
 · obtain ⟨told, B, hB, h1, h2⟩ := zve hl hr hb
   have hlen := h2.len
   refine ⟨told, by exact ycp hlen, ztN (.inl rfl) hl hr hb hs (ycp hlen) (Nat.le_trans h2.nrm hB) fun X => by rw [if_pos rfl]; exact h2.ev X, h1, ?_⟩
   rw [h2.ev, z3_det]
 · obtain ⟨told, B, hB, h1, h2⟩ := zvf hl hr hb
   have hlen := h2.len
   refine ⟨told, by exact yco hlen, ztN (.inr rfl) hl hr hb hs (yco hlen) (Nat.le_trans h2.nrm hB) fun X => by rw [if_neg (by decide)]; exact h2.ev X, h1, ?_⟩
   rw [h2.ev, z4_det]
theorem dr_ex {cells : List Int} (hc : cells.length ≤ 100) : ∃ dv, Dr (cfg 7 []) cells dv := by
 have h : ∀ k m : Nat, ∃ v : Int, (0 < m → 0 ≤ v ∧ v < m) ∧ (k ≤ 1000 → 0 < m → m ≤ 100 → (tab 7).2 "_law_draw" (zbE cells k) [.int (m : Int)] = some (.int v, zbE cells (k + 1))) := fun k m => by
  by_cases q : k ≤ 1000 ∧ 0 < m ∧ m ≤ 100
  · obtain ⟨v, h1, h2⟩ := zqF (n := 6) hc q.1 q.2.1 q.2.2
    exact ⟨v, fun _ => h1, fun _ _ _ => h2⟩
  · exact ⟨0, fun _ => by exact ycn ‹_›, fun a b c => absurd ⟨a, b, c⟩ q⟩
 exact ⟨fun k m => Classical.choose (h k m), fun k m hm => (Classical.choose_spec (h k m)).1 hm, fun k m a b c => (Classical.choose_spec (h k m)).2 a b c⟩
theorem zw1 {n : Nat} (hn : n = 3 ∨ n = 4) : (tab 7).1 "determinant" [.lst ((ztC n).map D.ints)] = some (.int (if n = 3 then 7 else 42)) := by
 rcases hn with rfl | rfl
 · have e : znl (ent (ztC 3)) 2 = 7 := by decide +kernel
   rw [if_pos rfl, ← e]
   refine zwU 5 2 (by decide) (by decide) (by decide +kernel) ?_ ?_
   · have : ∀ i : Fin 2, ((ztC 3).getD i []).length = 2 := by decide +kernel
     exact fun i hi => this ⟨i, hi⟩
   · have : ∀ i j : Fin 2, (ent (ztC 3) i j).natAbs ≤ 20 := by decide +kernel
     exact fun i j hi hj => this ⟨i, hi⟩ ⟨j, hj⟩
 · have e : znl (ent (ztC 4)) 3 = 42 := by decide +kernel
   rw [if_neg (by decide), ← e]
   refine zwU 5 3 (by decide) (by decide) (by decide +kernel) ?_ ?_
   · have : ∀ i : Fin 3, ((ztC 4).getD i []).length = 3 := by decide +kernel
     exact fun i hi => this ⟨i, hi⟩
   · have : ∀ i j : Fin 3, (ent (ztC 4) i j).natAbs ≤ 20 := by decide +kernel
     exact fun i j hi hj => this ⟨i, hi⟩ ⟨j, hj⟩
theorem ch_ok {a b : Nat} (ha : a < 3) (hb : b < 3) : (tab 7).1 "_law_choose" [.int (((1 + a : Nat) : Int) + ((1 + b : Nat) : Int)), .int (b : Int)] = some (.int (chF (((1 + a : Nat) : Int) + ((1 + b : Nat) : Int)) b)) := by
 refine za9 (zmE (zcm 6) (ycm hb) ?_)
 have : ∀ a b j : Fin 3, ((((1 + a.1 : Nat) : Int) + ((1 + b.1 : Nat) : Int)) - (j.1 : Int)).natAbs < 2 ^ 63 ∧ (chF (((1 + a.1 : Nat) : Int) + ((1 + b.1 : Nat) : Int)) j.1 * ((((1 + a.1 : Nat) : Int) + ((1 + b.1 : Nat) : Int)) - (j.1 : Int))).natAbs < 2 ^ 63 := by decide +kernel
 exact fun j hj => this ⟨a, ha⟩ ⟨b, hb⟩ ⟨j, by exact ycl hb hj⟩
noncomputable def zpT (script : List Int) : Option D := (zbp 26).bind fun d => (run (cfg 7 []) 60 d [.f (D.ints script)]).map (·.1)
theorem law_true (zs : List Int) (hz : zs.length ≤ 63) : zpT zs = some (.bool true) := by
 obtain ⟨dr, h1, h2, h3, h4⟩ : ∃ dr, zbp 26 = some dr ∧ zap "law" = some dr ∧ dr.params.args.map (·.arg) = [("script" : Str)] ∧ dr.body = zcc := ⟨_, rfl, rfl, rfl, rfl⟩
 unfold zpT
 rw [h1, Option.bind_some]
 refine zbU zto zag (zah (some (.f (D.ints zs))) none none none none none none none none none none none none none) (ztp h2) zas (by rw [h3]; exact zu7 (some (.f (D.ints zs))) none none none none none none none none none none none none none) ?_
 rw [h4]
 have hC := zcm 7
 have hcl : (zs.take 21).length ≤ 100 := by rw [List.length_take]; exact yck
 obtain ⟨dv, hD⟩ := dr_ex hcl
 obtain ⟨s0, b0, l0⟩ := law_0
 obtain ⟨s1, b1, l1⟩ := law_1
 obtain ⟨s2, b2, l2⟩ := law_2
 obtain ⟨s3, b3, l3⟩ := law_3
 obtain ⟨s4, b4, l4⟩ := law_4
 obtain ⟨s5, b5, l5⟩ := law_5
 obtain ⟨s6, b6, l6⟩ := law_6
 obtain ⟨s7, b7, l7⟩ := law_7
 obtain ⟨s8, b8, l8⟩ := law_8
 obtain ⟨s9, b9, l9⟩ := law_9
 obtain ⟨s10, b10, l10⟩ := law_10
 obtain ⟨s11, b11, l11⟩ := law_11
 obtain ⟨s12, b12, l12⟩ := law_12
 obtain ⟨n, hn, en⟩ : ∃ n : Nat, (n = 3 ∨ n = 4) ∧ 3 + dv 0 2 = (n : Int) := by
  have := hD.rng 0 2 (by decide)
  exact ⟨(3 + dv 0 2).toNat, by exact yb2 this, by exact yaQ this⟩
 show ∃ σ', za6 (cfg 7 []) (ER (cfg 7 []) 59) zag (zcc.drop 0) _ = _
 refine zem b0 (l0 hC zs hz) (zem b1 (l1 hC hD _) ?_)
 rw [en]
 obtain ⟨σ, q2, rows, i, ro, rfl, hl, hok⟩ := l2 hC hD (some (.f (D.ints zs))) hn
 refine zem b2 q2 (zem b3 (l3 hC hD _ _ _ _ hn (by rcases hn with rfl | rfl <;> omega)) ?_)
 generalize hws : (List.range n).map (fun j => dv (1 + n * n + j) 6 - 3) = ws
 have wl : ws.length = n := by rw [← hws, List.length_map, List.length_range]
 have wb : ∀ x ∈ ws, -3 ≤ x ∧ x ≤ 2 := fun x hx => by
  rw [← hws] at hx
  obtain ⟨j, _, rfl⟩ := List.mem_map.mp hx
  have := hD.rng (1 + n * n + j) 6 (by decide)
  exact ybH this
 clear hws
 refine zem b4 (l4 hC _ _ _ _ _ _ (ycb hn wl)) ?_
 generalize hvs : ws.map zwQ = vs
 have vl : vs.length = n := by rw [← hvs, List.length_map]; exact wl
 have vb : ∀ x ∈ vs, x ≠ 0 ∧ x.natAbs ≤ 3 := fun x hx => by
  rw [← hvs] at hx
  obtain ⟨y, hy, rfl⟩ := List.mem_map.mp hx
  have := wb y hy
  unfold zwQ
  split <;> omega
 clear hvs wb wl
 have hr : ∀ i, i < n → (rows.getD i []).length = n := fun i hi => (hok i hi).1
 have hin : ∀ i j, i < n → j < n → ent rows i j ∈ rows.getD i [] := fun i j hi hj => zcE (by rw [hr i hi]; exact hj)
 have hb : ∀ i j, (ent rows i j).natAbs ≤ 3 := fun i j => by
  rcases Nat.lt_or_ge i n with hi | hi
  · rcases Nat.lt_or_ge j n with hj | hj
    · have := (hok i hi).2.1 _ (hin i j hi hj); exact ycj this
    · have : ent rows i j = 0 := zc8 (by rw [hr i hi]; exact hj)
      rw [this]; decide
  · have : ent rows i j = 0 := by unfold ent; rw [show rows.getD i [] = [] by simp [List.getD, List.getElem?_eq_none (show rows.length ≤ i by exact yci hl hi)]]; exact zc8 (Nat.zero_le _)
    rw [this]; decide
 have hs : ∀ i j, 0 < i → i + 1 < n → 0 < j → j + 1 < n → ent rows i j * ent rows i j = 1 := fun i j a b c d => by
  rcases (hok i (ych b)).2.2 a b j c d with q | q <;> (unfold ent; rw [q]; rfl)
 obtain ⟨told, tl, t1, t2, t3⟩ := ztO hn hl hr hb hs
 have w1 := zwU 5 n (ycg hn) (ycf hn) hl hr fun i j _ _ => Nat.le_trans (hb i j) (by decide)
 have w2 := t_zat 6 (trim told) (-1) (by have := zc1 told; exact yce tl this) (by decide)
 rw [zcx, t3] at w2
 refine zem b5 (l5 hC _ _ _ _ _ _ t1 t2) (zem b6 (l6 hC _ _ _ _ _ _ (zpQ 6 told (ycd tl)) w2 w1) (zem b7 (l7 hC _ _ _ _ _ _ _ _ hn (zvc hn) (zwZ hn)) (zem b8 (l8 hC _ _ _ _ _ _ _ _ _) ?_)))
 have vb' : ∀ i, (vs.getD i 0).natAbs ≤ 3 := fun i => by
  rcases Nat.lt_or_ge i vs.length with q | q
  · exact (vb _ (zcE q)).2
  · rw [zc8 q]; decide
 have v0 : ∀ j, j < n → vs.getD j 0 ≠ 0 := fun j hj => (vb _ (zcE (ycc vl hj))).1
 obtain ⟨σ, q9, jo, vo, pv, oo, rfl, hpv⟩ := l9 (vs := vs) hC (some (.f (D.ints zs))) (some (.f (.lst (rows.map D.ints)))) i ro (some (.f (D.ints (trim told)))) (some (.f (.tup [D.ints told, .int (if n = 3 then 7 else 42)]))) (some (zbE (zs.take 21) (1 + n * n + n))) (some (.f (.int n))) (ycb hn vl) fun j t hj ht => by
  obtain ⟨x1, x2, x3⟩ := ztH (vs := vs) (fun j hj => by
   rcases Nat.lt_or_ge j n with q | q
   · exact .inl (v0 j q)
   · exact .inr (yca vl q)) vb' j (yb9 hn vl hj) (yb8 hj)
  obtain ⟨y1, y2, y3⟩ := zeZ j (v0 j (yb7 vl hj)) vb' x1 x2 x3 t
  have e5 : 6 ^ t ≤ 216 := Nat.le_trans (Nat.pow_le_pow_right (by decide) (show t ≤ 3 by exact ybI hn vl hj ht)) (by decide)
  have e6 : 46656 * 6 ^ t ≤ 46656 * 216 := Nat.mul_le_mul_left _ e5
  have e7 : nrm (prI vs j (prO vs j) t) ≤ 10077696 := Nat.le_trans y3 (yb6 e6)
  exact ztE 6 (prI vs j (prO vs j) t) [vs.getD t 0, vs.getD j 0] (yaM hn vl hj ht y2) (by show 2 < 900; decide) fun x hx => zo8 (Nat.le_trans (zjx hx) e7) (by decide)
 rw [vl] at hpv
 obtain ⟨σ, q10, rfl⟩ := l10 hC (some (.f (D.ints zs))) (some (.f (.lst (rows.map D.ints)))) i jo ro vo (some (.f (D.ints (trim told)))) (some (.f (.tup [D.ints told, .int (if n = 3 then 7 else 42)]))) oo (some (zbE (zs.take 21) (1 + n * n + n))) (yb4 hn) vl (fun x hx => by have := (vb x hx).2; unfold zbo; exact yb5 this) hpv (zvd hn vl vb)
 have hch : ∀ a b : Nat, a < n - 1 → b < n - 1 → (cfg 7 []).T "_law_choose" [.int (((1 + a : Nat) : Int) + ((1 + b : Nat) : Int)), .int (b : Int)] = some (.int (chF (((1 + a : Nat) : Int) + ((1 + b : Nat) : Int)) b)) := fun a b ha hb => by
  have h := ch_ok (show a < 3 by exact yaL hn ha) (show b < 3 by exact yaL hn hb)
  dsimp only [cfg]
  exact h
 have n10 : n ≤ 10 := by exact yb4 hn
 have n1 : 1 ≤ n := by exact yb3 hn
 have q11 := l11 hC (some (.f (D.ints zs))) (some (.f (.lst (rows.map D.ints)))) i jo ro vo (some (.f (D.ints (trim told)))) (some (.f (.tup [D.ints told, .int (if n = 3 then 7 else 42)]))) (some (.f (D.ints (prO vs n)))) oo (some (zbE (zs.take 21) (1 + n * n + n))) (some (.f (D.ints vs))) n10 n1
 have q11' := q11 hch
 refine zem b9 q9 (zem b10 q10 (zem b11 q11' ?_))
 obtain ⟨σ', q12⟩ := l12 (du := told) hC (some (.f (D.ints zs))) (some (.f (.lst (rows.map D.ints)))) i jo ro vo (some (.f (D.ints (trim told)))) (some (.f (D.ints (prO vs n)))) oo (some (zbE (zs.take 21) (1 + n * n + n))) (some (.f (.int n))) (some (.f (D.ints vs))) (zw1 hn)
 exact ret_at b12 q12
noncomputable def isDef : Stmt → Bool
 | .FunctionDef .. => true
 | .ClassDef .. => true
 | _ => false
noncomputable def view : Program := { PySem.Challenge.pw_xm0116_01 with main := { PySem.Challenge.pw_xm0116_01.main with body := PySem.Challenge.pw_xm0116_01.main.body.filter isDef } }
theorem zw2 : recsOf view = recs := by kernel_rfl
theorem cx_of {mg mb : Str → Option Value} {mean : ExcName → Option Value} {s : Shared} (T : Top view (looseW view []) mean mg mb s.heap) : Cx mg ⟨mb, s.heap, s.os, s.gens⟩ s.heap where
 keep := Le.refl _
 g := T.g
 b := T.b
 nolimit := T.nolimit
 fn := fun i d h => T.fn d (zw2 ▸ znC h)
 bi := fun x hx => by
  have free : ∀ x ∈ zcH, x.1 ∉ startupNames ∧ x.1 ∉ looseW view [] ∧ x.1 ∉ (recsOf view).map (·.name) ∧ x.1 ∉ (litsOf view).map (·.1) ∧ x.1 ∉ (clssOf view (looseW view [])).map (·.name) := by decide +kernel
  have boot : ∀ x ∈ zcH, bootBuiltins x.1 = some x.2 ∧ x.1 ≠ "__name__" := by decide +kernel
  obtain ⟨f1, f2, f3, f4, f5⟩ := free x hx
  obtain ⟨b1, b2⟩ := boot x hx
  exact ⟨T.free _ f1 f2 f3 f4 f5, (T.builtins _ b2).trans b1⟩
theorem zvg : (zbp 26).map (·.name) = some ("law" : Str) := by decide +kernel
theorem zrp : (zbp 26).map (fun d => d.params.args.map (·.arg)) = some [("script" : Str)] := by decide +kernel
theorem law_walk {prog : Program} {w : World} {mg mb : Str → Option Value} {mean : ExcName → Option Value} {s : Shared} {fa l : Addr} {vals : List Value} {zs : List Int} (T : Top view (looseW view []) mean mg mb s.heap) (hmg : mg "law" = some (.ref fa))
 (hL : s.heap.IsList l vals.toArray) (hI : IntsAre vals zs) (hrun : zpT zs = some (.bool true)) :
 wpAny (model prog w) callerA (call (.ref fa) [.ref l]) (fun v s' => v = .bool true ∧ (∀ b o, s.heap.get? b = some o → s'.heap.get? b = some o) ∧ s'.os = s.os ∧ s'.gens = s.gens) NoE s := by
 unfold zpT at hrun
 obtain ⟨dr, hi, h2⟩ := Option.bind_eq_some_iff.mp hrun
 obtain ⟨⟨d, σ'⟩, h3, h4⟩ := Option.map_eq_some_iff.mp h2
 have h4 : d = .bool true := h4
 subst h4
 have hn := zvg
 have hp := zrp
 rw [hi] at hn hp
 have hn : dr.name = ("law" : Str) := by simpa using hn
 have hp : dr.params.args.map (·.arg) = [("script" : Str)] := by simpa using hp
 refine wpAny_mono (zlR (mb := ⟨mb, s.heap, s.os, s.gens⟩) (own := []) (X0 := []) (fz := [(.ref l, D.ints zs)]) (tab_ok 7 []) zjG hi (zpr hi).1 hp (V₀ := .f (D.ints zs)) (ds := []) rfl h3 (.inl ⟨_, rfl⟩) (fun p hp => by cases hp) (.inl rfl)
  (show Ok 8 callerA from ⟨rfl, by decide, by decide⟩) (hn ▸ hmg) ⟨rfl, rfl⟩ (cx_of T) (fun L' l' m' Z0 h' le hL' hns hl hZ nz => ?_) (VR.of (.mem (.head _))) .nil) (fun r s' h => ?_) fun _ _ x => x
 · refine ⟨s.heap, cx_of T, le, hL', ⟨m', hns, hl⟩, fun p hp => ?_, ?_, fun p hp => ?_⟩
   · have hp : p ∈ Z0 := by simpa using hp
     obtain ⟨a1, a2, a3⟩ := hZ p hp
     exact ⟨a1, a3, a2⟩
   · simpa using nz
   · rcases List.mem_cons.mp hp with rfl | hp
     · exact ⟨l, vals, 0, rfl, hL, (zvD (fz := []) hI).rep (fun p hp => by cases hp)⟩
     · cases hp
 · obtain ⟨fz', sb, kn, rs, L', l', X1, H, _⟩ := h
   refine ⟨H.isBool kn, ?_, rs.1, rs.2⟩
   obtain ⟨g, c, le, _⟩ := H
   exact fun b o e => le _ _ (c.keep _ _ e)
end Mine
theorem PySem.Challenge.cw_xm0116_01_holds : PySem.Challenge.rw_xm0116_01.Holds := by
 refine holds_law (by kernel_rfl) fun said => ?_
 refine holds_open (q := Mine.view) (loose := []) (Xt := fun s => xlAt Mine.view [] s && recOk (RowW.records (OpenRow.toRowW PySem.Challenge.rw_xm0116_01.row)) s) (XP := XL Mine.view []) (Yf := Hook.obs Hook.none) (Ya := Hook.val Hook.none) (YP := Hook.says Hook.none) (N := 1906) ?hl (Hook.of Hook.none) (Hook.keeps Hook.none) (fun s e => xl_of s (Bool.and_eq_true_iff.mp e).1) XL.keeps (by rfl) (by rfl) (by rfl) (fun s e => recFacts_of (Bool.and_eq_true_iff.mp e).2) (by rfl) (by first | assumption | decide +kernel) (by decide +kernel) ⟨rfl, rfl, rfl, rfl, rfl, by decide +kernel⟩ ?hw ?hc
 case hl =>
  intro w
  kernel_rfl
 case hw => w_witness2
 intro w s₀ s₁ mg mb G Y fa o pm cd doc dV kV ho hd hcd hD hmg hg args vals as hpre hlay hrd hwl hlo
 have X := (Ground.X G).1
 have V := (Ground.X G).2
 refine Ground.open G ?_
 intro T B D TE TW
 try (refine guard_noD D (by decide +kernel) ?_; clear D)
 wrow_args hpre hlay hrd hwl hlo
 rename_i hL _ _ _ hI _ hlen _
 refine wpAny_mono (Mine.law_walk T hmg hL hI (Mine.law_true _ (by omega))) (fun v s' h => ?_) fun _ _ x => x.elim
 obtain ⟨rfl, hk, hos, hgens⟩ := h
 exact GoodW.toG ⟨.inl ⟨.bool true, .bool true, [], rfl, fun _ => rfl, .bool true, by with_unfolding_all rfl, fun _ => ⟨List.Pairwise.nil, fun a ha => by cases ha⟩⟩, hk, hos, hgens.trans hg⟩
