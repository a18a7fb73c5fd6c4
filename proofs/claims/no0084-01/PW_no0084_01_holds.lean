import PyProof.Rows.All
import Wide.All
import OpenK.AllK
import Wide.FinOn
import Open.Split
import PyProof.EnumFor
import PyProof.EnumStmt
import PySem.Challenge.RW_no0084_01
-- How this proof goes. Mine.wpC: a logic over contexts that hold no codec's code (the library's wpAny speaks of every context, and bytearray(n) looks through the whole stack).
-- Mine.ev, xs, callF: a plain evaluator of the constructs that the law reaches; Mine.cf compiles a function's tree with every side condition as a check; Mine.css_sound, Mine.sc_sound: what it reckons, the model does.
-- Mine.P.law_holds: the plain law, about the evaluator alone. MineH.main: the head, the facts reckoned of the written part (Mine.KFacts), Mine.walk and the plain law, joined.
-- The theorems MineH.main.tw.. : True take the names under which the head would else lay twins of its own constants (64 MB); without twins it reckons on the constants themselves.
set_option Elab.async false
set_option maxRecDepth 100000
set_option linter.unusedVariables false
set_option genInjectivity false
set_option genSizeOf false
set_option bootstrap.genMatcherCode false
set_option tactic.hygienic false
namespace Mine
theorem le_f {a c C : Nat} (h : a ≤ c) (k : Nat.ble c C = true) : a ≤ C := Nat.le_trans h (Nat.le_of_ble_eq_true k)
theorem lt_f {a c C : Nat} (h : a ≤ c) (k : Nat.ble (c + 1) C = true) : a < C := Nat.lt_of_le_of_lt h (Nat.le_of_ble_eq_true k)
theorem lt_l {a c : Nat} (h : a < c) : a ≤ c - 1 := Nat.le_pred_of_lt h
theorem li_l {a c : Nat} (h : (a : Int) < (OfNat.ofNat c : Int)) : a ≤ c - 1 := Nat.le_pred_of_lt (Int.ofNat_lt.mp h)
theorem le_e {a b c : Nat} (h : a = b) (k : b ≤ c) : a ≤ c := h ▸ k
theorem nn {n : Nat} : (0 : Int) ≤ (n : Int) := Int.natCast_nonneg n
theorem lei {a c C : Int} (h : a ≤ c) (k : decide (c ≤ C) = true) : a ≤ C := Int.le_trans h (of_decide_eq_true k)
theorem lti {a c C : Int} (h : a ≤ c) (k : decide (c < C) = true) : a < C := Int.lt_of_le_of_lt h (of_decide_eq_true k)
theorem ltj {a c C : Int} (h : a < c) (k : decide (c ≤ C) = true) : a < C := Int.lt_of_lt_of_le h (of_decide_eq_true k)
theorem gei {a c C : Int} (h : c ≤ a) (k : decide (C ≤ c) = true) : C ≤ a := Int.le_trans (of_decide_eq_true k) h
theorem gti {a c C : Int} (h : c ≤ a) (k : decide (C < c) = true) : C < a := Int.lt_of_lt_of_le (of_decide_eq_true k) h
theorem nlt {a C : Nat} {c : Nat} (h : a ≤ c) (k : Nat.ble (c + 1) C = true) : (a : Int) < (OfNat.ofNat C : Int) := Int.ofNat_lt.mpr (lt_f h k)
theorem nle {a C : Nat} {c : Nat} (h : a ≤ c) (k : Nat.ble c C = true) : (a : Int) ≤ (OfNat.ofNat C : Int) := Int.ofNat_le.mpr (le_f h k)
theorem sub_e {a b c : Nat} (h : a - b = c) (k : a ≤ d) : c ≤ d := h ▸ Nat.le_trans (Nat.sub_le _ _) k
theorem sub2_e {a b b' c : Nat} (h : a - b - b' = c) (k : a ≤ d) : c ≤ d := h ▸ Nat.le_trans (Nat.sub_le _ _) (Nat.le_trans (Nat.sub_le _ _) k)
theorem ngl {a b : Nat} (h : ¬ a < b) : b ≤ a := Nat.le_of_not_lt h
theorem lt_ab {a b c : Nat} (h : a + b < c) : a < c := Nat.lt_of_le_of_lt (Nat.le_add_right _ _) h
theorem lit {c : Nat} : (OfNat.ofNat c : Nat) ≤ OfNat.ofNat c := Nat.le_refl _
theorem sum_l {a b c d : Nat} (h : a + b ≤ c) (k : c ≤ d) : a ≤ d := Nat.le_trans (Nat.le_add_right _ _) (Nat.le_trans h k)
theorem sum_r {a b c d : Nat} (h : a + b ≤ c) (k : c ≤ d) : b ≤ d := Nat.le_trans (Nat.le_add_left _ _) (Nat.le_trans h k)
theorem sub_b {a b c : Nat} (k : a ≤ c) : a - b ≤ c := Nat.le_trans (Nat.sub_le _ _) k
theorem tr_l {a b c : Nat} (h : a + b ≤ c) : a ≤ c := Nat.le_trans (Nat.le_add_right _ _) h
theorem tr_r {a b c : Nat} (h : a + b ≤ c) : b ≤ c := Nat.le_trans (Nat.le_add_left _ _) h
theorem tr_m {a b c d : Nat} (h : a + b + c ≤ d) : b ≤ d := Nat.le_trans (Nat.le_add_left _ _) (tr_l h)
theorem dn4 {r : Nat} (h : r < 4) : r = 0 ∨ r = 1 ∨ r = 2 ∨ r = 3 := (by decide : ∀ r, r < 4 → r = 0 ∨ r = 1 ∨ r = 2 ∨ r = 3) r h
theorem dz2 {r : Nat} (h : (r : Int) < 2) : r = 0 ∨ r = 1 := (by decide : ∀ r, r < 2 → r = 0 ∨ r = 1) r (Int.ofNat_lt.mp h)
theorem dz3 {r : Nat} (h : (r : Int) < 3) : r = 0 ∨ r = 1 ∨ r = 2 := (by decide : ∀ r, r < 3 → r = 0 ∨ r = 1 ∨ r = 2) r (Int.ofNat_lt.mp h)
theorem dz6 {r : Nat} (h : (r : Int) < 6) : r = 0 ∨ r = 1 ∨ r = 2 ∨ r = 3 ∨ r = 4 ∨ r = 5 := (by decide : ∀ r, r < 6 → r = 0 ∨ r = 1 ∨ r = 2 ∨ r = 3 ∨ r = 4 ∨ r = 5) r (Int.ofNat_lt.mp h)
theorem dz12 {r : Nat} (h : (r : Int) < 12) : r = 0 ∨ r = 1 ∨ r = 2 ∨ r = 3 ∨ r = 4 ∨ r = 5 ∨ r = 6 ∨ r = 7 ∨ r = 8 ∨ r = 9 ∨ r = 10 ∨ r = 11 :=
  (by decide : ∀ r, r < 12 → r = 0 ∨ r = 1 ∨ r = 2 ∨ r = 3 ∨ r = 4 ∨ r = 5 ∨ r = 6 ∨ r = 7 ∨ r = 8 ∨ r = 9 ∨ r = 10 ∨ r = 11) r (Int.ofNat_lt.mp h)
theorem dr8 {r : Nat} (h : 8 ≤ r) (h2 : r ≤ 15) : r = 8 ∨ r = 9 ∨ r = 10 ∨ r = 11 ∨ r = 12 ∨ r = 13 ∨ r = 14 ∨ r = 15 :=
  (by decide : ∀ r, r < 16 → 8 ≤ r → r = 8 ∨ r = 9 ∨ r = 10 ∨ r = 11 ∨ r = 12 ∨ r = 13 ∨ r = 14 ∨ r = 15) r (Nat.lt_succ_of_le h2) h
theorem fxg {i p n : Nat} (hi : i < 4) (hp : 0 < p) (hn : n < p * 64) : (p * (i * 64) + n) / p % 256 / 64 = i := by
  have h : n / p < 64 := (Nat.div_lt_iff_lt_mul hp).mpr (Nat.mul_comm p 64 ▸ hn)
  have h2 : i * 64 + n / p < 256 := Nat.lt_of_lt_of_le (Nat.add_lt_add_left h _) (Nat.succ_mul i 64 ▸ Nat.mul_le_mul_right 64 hi)
  rw [Nat.mul_add_div hp, Nat.mod_eq_of_lt h2, Nat.add_comm, Nat.add_mul_div_right _ _ (by decide), Nat.div_eq_of_lt h, Nat.zero_add]
theorem fx1 {n : Nat} (h : n < 64) : (0 * 2 ^ 6 + n) / 256 ^ 0 % 256 / 64 = 0 := fxg (i := 0) (p := 1) (by decide) (by decide) h
theorem fx2 {n : Nat} (h : n < 16384) : (1 * 2 ^ 14 + n) / 256 ^ 1 % 256 / 64 = 1 := fxg (i := 1) (p := 256) (by decide) (by decide) h
theorem fx4 {n : Nat} (h : n < 1073741824) : (2 * 2 ^ 30 + n) / 256 ^ 3 % 256 / 64 = 2 := (show 256 ^ 3 * (2 * 64) = 2 * 2 ^ 30 by decide) ▸ fxg (i := 2) (p := 256 ^ 3) (by decide) (by decide) ((show 1073741824 = 256 ^ 3 * 64 by decide) ▸ h)
theorem fx8 {n : Nat} (h : n < 4611686018427387904) : (3 * 2 ^ 62 + n) / 256 ^ 7 % 256 / 64 = 3 := (show 256 ^ 7 * (3 * 64) = 3 * 2 ^ 62 by decide) ▸ fxg (i := 3) (p := 256 ^ 7) (by decide) (by decide) ((show 4611686018427387904 = 256 ^ 7 * 64 by decide) ▸ h)
theorem sb1 {n i : Nat} (h : i < n) : n - i = n - i - 1 + 1 := (Nat.sub_add_cancel (Nat.sub_pos_of_lt h)).symm
theorem sb2 {i j : Nat} (h : j + 1 ≤ i) : i - j = i - (j + 1) + 1 := sb1 h
theorem sb3 {n i k : Nat} (h : n - i = k + 1) : n - (i + 1) = k := congrArg Nat.pred h
theorem sb3' {n i k : Nat} (h : n - i = k + 1) : k = n - (i + 1) := (sb3 h).symm
theorem sb4 {n i : Nat} (h : i < n) : n + 1 - (i + 1) < n + 1 - i := Nat.sub_lt_sub_left (Nat.lt_succ_of_lt h) (Nat.lt_succ_self i)
theorem sb5 {n i : Nat} (h : n - i = 0) (h2 : i ≤ n) : i = n := Nat.le_antisymm h2 (Nat.le_of_sub_eq_zero h)
theorem sb6 {n i : Nat} (h2 : i ≥ n) : n - i = 0 := Nat.sub_eq_zero_of_le h2
theorem sb7 {n i k : Nat} (h : n - i = k + 1) : i < n := Nat.lt_of_sub_eq_succ h
theorem tn1 {N : Nat} : ((N : Int) - 1).toNat = N - 1 := Int.toNat_sub N 1
theorem na_lt {a : Int} (h : a.natAbs < 2 ^ 62) : a < 2 ^ 62 := by omega
theorem na_ge {a : Int} (h : a.natAbs < 2 ^ 62) : -2 ^ 62 ≤ a := by omega
theorem rs3 {a b : Int} (h : a > b) : a - b - 1 + 1 = ((a - b).toNat : Int) := by rw [Int.sub_add_cancel, Int.toNat_of_nonneg (Int.sub_nonneg_of_le (Int.le_of_lt h))]
theorem rs1 {a b : Int} (h : a < b) : (b - a - 1) / 1 + 1 = ((b - a).toNat : Int) := (congrArg (· + 1) (Int.ediv_one _)).trans (rs3 h)
theorem rs4 {a b : Int} (h : ¬ a > b) : 0 = ((a - b).toNat : Int) := by rw [Int.toNat_of_nonpos (Int.sub_nonpos_of_le (Int.not_lt.mp h))]; rfl
theorem rs2 {a b : Int} (h : ¬ a < b) : 0 = ((b - a).toNat : Int) := rs4 h
theorem rs5 {a i : Int} : a + i * -1 = a - i := by rw [Int.mul_neg, Int.mul_one]; rfl
theorem ad1 {A B C : Nat} : A + B * 256 + C = A + (C + 256 * B) := by rw [Nat.add_assoc, Nat.add_comm (B * 256), Nat.mul_comm B]
theorem ad2 {a b : Nat} : a + (b + 1) = a + 1 + b := by rw [Nat.add_comm b, Nat.add_assoc]
theorem ad3 {a b c : Nat} : 1 + (a + b) + c = 1 + a + b + c := by rw [← Nat.add_assoc]
theorem ad4 {a b k : Nat} : a + (b + 1) = k ↔ a + 1 + b = k := by rw [ad2]
theorem sh1 {a b c : Nat} (h : a + (b + 1) ≤ c) : a + 1 + b ≤ c := ad2 ▸ h
theorem sh2 {a b c : Nat} (h : a + (b + 1) < c) : a + 1 + b < c := ad2 ▸ h
theorem sh3 {a b c : Nat} (h : a + 2 * (b + 1) ≤ c) : a + 2 + 2 * b ≤ c := by rw [Nat.add_assoc, Nat.add_comm 2]; exact h
theorem sh4 {a b c : Nat} (h : a + 2 * (b + 1) ≤ c) : a + 1 + 1 + 2 * b ≤ c := sh3 h
theorem sh5 {a b c : Nat} (h : a + 1 + b ≤ c) : a + (b + 1) ≤ c := ad2 ▸ h
theorem sm2 {d a x t C : Nat} (h : d = a + (x + t)) (k : d ≤ C) : x ≤ C := Nat.le_trans (tr_l (tr_r (Nat.le_of_eq h.symm))) k
theorem sm3 {d a b x t C : Nat} (h : d = a + (b + (x + t))) (k : d ≤ C) : x ≤ C := Nat.le_trans (tr_l (tr_r (tr_r (Nat.le_of_eq h.symm)))) k
theorem sm4 {d a b c x t C : Nat} (h : d = a + (b + (c + (x + t)))) (k : d ≤ C) : x ≤ C := Nat.le_trans (tr_l (tr_r (tr_r (tr_r (Nat.le_of_eq h.symm))))) k
theorem un1 {u c L : Nat} (h : u + 16 * c + 40 < L) : u + 8 < L := Nat.lt_of_le_of_lt (Nat.add_le_add (Nat.le_add_right _ _) (by decide)) h
theorem un5 {u a b c k L : Nat} (h : u + a < L) (e : b + c ≤ k) (e2 : k ≤ a) : u + b + c < L := Nat.lt_of_le_of_lt (Nat.add_assoc u b c ▸ Nat.add_le_add_left (Nat.le_trans e e2) u) h
theorem un2 {u c L : Nat} (h : u + 16 * (c + 1) + 40 < L) : u + 3 + 16 * c + 40 < L := Nat.lt_of_le_of_lt (Nat.add_le_add_right (Nat.add_assoc u 3 _ ▸ Nat.add_le_add_left (Nat.add_comm 3 _ ▸ Nat.add_le_add_left (show 3 ≤ 16 by decide) _) u) 40) h
theorem un3 {u c L : Nat} (h : u + 2 * (c + 1) + 8 < L) : u + 1 + 2 * c + 8 < L := Nat.lt_of_le_of_lt (Nat.add_le_add_right (Nat.add_assoc u 1 _ ▸ Nat.add_le_add_left (Nat.le_trans (Nat.le_of_eq (Nat.add_comm 1 (2 * c))) (Nat.add_le_add_left (show 1 ≤ 2 by decide) _)) u) 8) h
theorem un4 {u c L : Nat} (h : u + 2 * (c + 1) + 8 < L) : u < L := Nat.lt_of_le_of_lt (Nat.le_trans (Nat.le_add_right _ _) (Nat.le_add_right _ _)) h
theorem cs1 {a b : Nat} (h : a ≤ b) : (b : Int) - ((b - a : Nat) : Int) = a := by rw [Int.ofNat_sub h, Int.sub_sub_self]
theorem cs2 {a b : Nat} (h : b + 2 ≤ a) : (a : Int) - b - 2 = ((a - b - 2 : Nat) : Int) := by rw [Int.ofNat_sub (Nat.le_sub_of_add_le (Nat.add_comm b 2 ▸ h)), Int.ofNat_sub (tr_l h)]; rfl
theorem cs3 {a b : Nat} (h : b + 2 ≤ a) : (a : Int) - ((a - b - 2 : Nat) : Int) - 2 = b := by rw [← cs2 h, Int.sub_sub (a : Int) b 2, Int.sub_sub_self, Int.add_sub_cancel]
theorem cs4 {a b : Nat} : (((a + b : Nat) : Int)) - a = b := by rw [Int.natCast_add, Int.add_comm, Int.add_sub_cancel]
theorem cs5 {a b d : Nat} (h : d = a + b) : (d : Int) - a = b := h ▸ cs4
theorem cs6 {n : Nat} : ((n + 1 : Nat) : Int) - 1 = n := by rw [Int.natCast_add]; exact Int.add_sub_cancel _ _
theorem cs7 {a b d : Nat} (h : d = a + b) (k : 1 ≤ b) : (d : Int) - a > 0 := cs5 h ▸ Int.ofNat_lt.mpr k
theorem cs8 {i : Int} {n : Nat} (h : 0 ≤ i) (k : i.toNat < n) : i < n := Int.toNat_of_nonneg h ▸ Int.ofNat_lt.mpr k
theorem ng0 {n : Nat} (h : ¬ 0 < n) : (n : Int) ≤ 0 := Int.ofNat_le.mpr (Nat.le_of_not_lt h)
theorem c_lt {a b : Nat} (h : a < b) : (a : Int) < b := Int.ofNat_lt.mpr h
theorem c_le {a b : Nat} (h : a ≤ b) : (a : Int) ≤ b := Int.ofNat_le.mpr h
theorem c_lt' {a b : Nat} (h : (a : Int) < b) : a < b := Int.ofNat_lt.mp h
theorem c_le' {a b : Nat} (h : (a : Int) ≤ b) : a ≤ b := Int.ofNat_le.mp h
theorem mn1 {a b c : Nat} (h : a < min b c) : a < b := Nat.lt_of_lt_of_le h (Nat.min_le_left _ _)
theorem mul2 {n A B : Nat} (h : n ≤ A) (h2 : A ≤ B) : n ≤ B := Nat.le_trans h h2
theorem nn2 {a b : Nat} : (0 : Int) ≤ (a : Int) + b := Int.natCast_nonneg (a + b)
theorem pos1 {n : Nat} : 1 ≤ n + 1 := Nat.succ_pos n
theorem posI {n : Nat} : (0 : Int) < ((n + 1 : Nat) : Int) := Int.ofNat_lt.mpr (Nat.succ_pos n)
theorem dm3 {l r s : Nat} : l - r - s ≤ l := Nat.le_trans (Nat.sub_le _ _) (Nat.sub_le _ _)
theorem dm2 {l r : Nat} : l - r - 2 ≤ l := Nat.le_trans (Nat.sub_le _ _) (Nat.sub_le _ _)
theorem w900 {a b c d : Nat} (h : a ≤ d) (k : b ≤ d * c) : a + b ≤ d * (c + 1) := Nat.add_comm a b ▸ Nat.add_le_add k h
theorem tn0 {n : Nat} : ((n : Int) - 0).toNat = n := Int.toNat_sub n 0
theorem ed1 {n : Nat} : ((n : Int) - 0 - 1) / 1 + 1 = n := by rw [Int.ediv_one, Int.sub_add_cancel, Int.sub_zero]
theorem nge {a b : Nat} (h : ¬ b ≤ a) : a < b := Nat.lt_of_not_le h
theorem ne_lt {i k : Nat} (h : i ≤ k) (n : i ≠ k) : i + 1 ≤ k := Nat.lt_of_le_of_ne h n
theorem tnle {i : Int} {n : Nat} (h : i ≤ n) : i.toNat ≤ n := Int.toNat_le.mpr h
theorem no_lt {a : Nat} (h : (a : Int) < 0) : False := absurd h (Int.not_lt.mpr (Int.natCast_nonneg a))
theorem le_e' {a b c : Nat} (h : b = a) (k : b ≤ c) : a ≤ c := h ▸ k
theorem posA {n : Nat} (h : 0 < n) : (n : Int) > 0 := Int.ofNat_lt.mpr h
theorem negA {n : Nat} (h : ¬ 0 < n) : ¬ (n : Int) > 0 := fun e => h (Int.ofNat_lt.mp e)
theorem nposB {n : Nat} (h : 0 < n) : ¬ (n : Int) ≤ 0 := Int.not_le.mpr (Int.ofNat_lt.mpr h)
theorem ngt {a b : Nat} (h : a ≤ b) : ¬ (a : Int) > b := Int.not_lt.mpr (Int.ofNat_le.mpr h)
theorem rm1 {r m a b : Nat} (h : r = m - a - b) : r ≤ m := h ▸ dm3
theorem rm3 {L R S s r m : Nat} (h : r = m - R - S) (h0 : 0 < r) (k : s ≤ S) (l : L = R + s + r) : L ≤ m := by
  subst h
  have h1 := Nat.le_of_lt (Nat.lt_of_sub_pos h0)
  have h2 := Nat.le_of_lt (Nat.lt_of_sub_pos (Nat.lt_of_lt_of_le h0 (Nat.sub_le _ _)))
  rw [l, Nat.add_assoc]
  exact Nat.le_trans (Nat.add_le_add_left (Nat.add_le_add_right k _) R) (Nat.le_of_eq ((congrArg (R + ·) (Nat.add_sub_cancel' h1)).trans (Nat.add_sub_cancel' h2)))
theorem rm2 {L R R' S s r m : Nat} (h : r = m - R - S) (h0 : 0 < r) (e : R = 1 + R') (k : s ≤ S) (l : L = 1 + R' + s + r) : L ≤ m := rm3 h h0 k (e ▸ l)
theorem ls1 {d n N : Nat} (h : d = n) (k : n ≤ N) : d + (N - n) = N := by subst h; exact Nat.add_sub_cancel' k
theorem un6 {u c L : Nat} (h : u + 363 < L) (k : c ≤ 20) : u + 3 + 16 * c + 40 < L := Nat.lt_of_le_of_lt (Nat.add_le_add_right (Nat.le_trans (Nat.add_le_add_left (Nat.mul_le_mul_left 16 k) _) (Nat.le_of_eq (Nat.add_assoc u 3 320))) 40) h
theorem un7 {u c L : Nat} (h : u + 49 < L) (k : c ≤ 20) : u + 1 + 2 * c + 8 < L := Nat.lt_of_le_of_lt (Nat.add_le_add_right (Nat.le_trans (Nat.add_le_add_left (Nat.mul_le_mul_left 2 k) _) (Nat.le_of_eq (Nat.add_assoc u 1 40))) 8) h
theorem cs9 {d a b : Nat} (h : d = a + (1 + b)) : (d : Int) - a > 0 := cs7 h (Nat.le_add_right 1 b)
theorem mn2 {a b c : Nat} (h : b ≤ c) : ¬ min a b > c := Nat.not_lt.mpr (Nat.le_trans (Nat.min_le_right _ _) h)
theorem mn3 {i k m : Nat} (h : i + k < m) : i + k < i + (m - i) := by rw [Nat.add_sub_cancel' (tr_l (Nat.le_of_lt h))]; exact h
theorem bb1 {v b p : Nat} (h : v < p) (k : b < 2 ^ 8) : v * 256 + b < p * 256 := Nat.lt_of_lt_of_le (Nat.add_lt_add_left k _) (Nat.succ_mul v 256 ▸ Nat.mul_le_mul_right 256 h)
theorem k9 {h k : Nat} (hk : (k : Int) < 3) : 9 * (1 + k) ≤ 40 + h := Nat.le_trans (Nat.mul_le_mul_left 9 (Nat.add_le_add_left (li_l hk) 1)) (Nat.le_trans (show 9 * (1 + 2) ≤ 40 by decide) (Nat.le_add_right _ _))
theorem big1 {z : Nat} (h : (z : Int) < 9) : (1152921504606846976 : Int) - z = ((1152921504606846976 - z : Nat) : Int) := (Int.ofNat_sub (Nat.le_trans (li_l h) (by decide))).symm
theorem oc1 {l m r : Nat} (h : (r : Int) < (m : Int) - l + 1) : l + r ≤ m := by omega
theorem tnn {n c C : Nat} (h : n ≤ c) (k : Nat.ble c C = true) : ¬ ((n : Int)).toNat > C := Nat.not_lt.mpr (le_f h k)
theorem i256 {i n : Nat} (h : i < n) (k : n ≤ 256) : (0 : Int) ≤ i ∧ (i : Int) < 256 := ⟨nn, Int.ofNat_lt.mpr (Nat.lt_of_lt_of_le h k)⟩
theorem se1 {a b c : Nat} (h : a + 1 = 1 + b) (k : b ≤ c) : a ≤ c := Nat.le_of_succ_le_succ (Nat.le_trans (Nat.le_of_eq (h.trans (Nat.add_comm 1 b))) (Nat.succ_le_succ k))
theorem nge1 {d a s t : Nat} (h : d = a + (s + t)) (k : 1 ≤ s) : ¬ (a : Int) ≥ d := Int.not_le.mpr (Int.ofNat_lt.mpr (h ▸ Nat.lt_add_of_pos_right (Nat.le_trans k (Nat.le_add_right _ _))))
theorem ptl {d a x t : Nat} (h : d = a + (x + t)) (k : 1 ≤ x) : a < d := h ▸ Nat.lt_add_of_pos_right (Nat.le_trans k (Nat.le_add_right _ _))
theorem ngs {d a x t : Nat} (h : d = a + (x + t)) : ¬ (x : Int) > (d : Int) - a := by rw [h, cs4]; exact ngt (Nat.le_add_right _ _)
theorem ngs2 {d a x t : Nat} (h : d = a + (x + t)) : ¬ (a : Int) + x > (d : Int) := by rw [h, ← Nat.add_assoc]; exact ngt (Nat.le_add_right (a + x) t)
theorem cons8 {n k B : Nat} (h : n ≤ 8 * k) (h2 : k ≤ 1000) (e : 8000 ≤ B) : n ≤ B := Nat.le_trans h (Nat.le_trans (Nat.mul_le_mul_left 8 h2) e)
end Mine

-- HERE
section
namespace Mine
open PySem PySem.W PyProof.Rows
open Sem (wp)

noncomputable def dirtyIds : List String := PySem.Builtin.Bytes.decodersThatHold ++ ["bytearray.__contains__", "bytearray.__mod__", "bytearray.__rmod__", "_struct.pack_into.held", "bytearray.find.held"]
noncomputable def Dirty : Code → Bool
  | .builtin id _ => dirtyIds.contains id
  | _ => false
noncomputable def CleanB (l : List (Code × Pos)) : Prop := ∀ x ∈ l, Dirty x.1 = false

noncomputable def wpC {α : Type} (M : Model) (A : Around) (t : Sem α) (Q : α → Shared → Prop) (s : Shared) : Prop :=
  ∀ Γ p, Γ.In A → Dirty Γ.code = false → CleanB Γ.below → wp M Γ t (fun a _ s' => Q a s') (fun _ _ _ => False) p s
noncomputable def codeC (M : Model) (A : Around) (c : Code) (R : Flow → Shared → Prop) (s : Shared) : Prop :=
  ∀ Γ p, Γ.code = c → Γ.Below A → CleanB Γ.below → wpCode M Γ (fun r s' => ∃ f, r = .ok f ∧ R f s') p s

variable {α β : Type} {M : Model} {A : Around} {s : Shared}

theorem wpC_of {t : Sem α} {Q : α → Shared → Prop} (h : wpAny M A t Q (fun _ _ => False) s) : wpC M A t Q s :=
  fun Γ p hΓ _ _ => h Γ p hΓ
theorem codeC_of {c : Code} {R : Flow → Shared → Prop} (h : codeAny M A c (fun r s' => ∃ f, r = .ok f ∧ R f s') s) : codeC M A c R s :=
  fun Γ p hc hΓ _ => h Γ p hc hΓ
theorem wpC_mono {t : Sem α} {Q Q' : α → Shared → Prop} (h : wpC M A t Q s) (hQ : ∀ a s, Q a s → Q' a s) : wpC M A t Q' s :=
  fun Γ p hΓ h1 h2 => Sem.wp_mono M Γ t (fun a _ s => hQ a s) (fun _ _ _ x => x) p s (h Γ p hΓ h1 h2)
theorem codeC_mono {c : Code} {R R' : Flow → Shared → Prop} (h : codeC M A c R s) (hR : ∀ f s, R f s → R' f s) : codeC M A c R' s :=
  fun Γ p hc hΓ h2 => wpCode_mono (fun _ _ ⟨f, e, q⟩ => ⟨f, e, hR _ _ q⟩) (h Γ p hc hΓ h2)
theorem wpC_pure {a : α} {Q : α → Shared → Prop} (h : Q a s) : wpC M A (pure a) Q s := fun _ _ _ _ _ => h
theorem wpC_bind {m : Sem α} {f : α → Sem β} {Q : β → Shared → Prop} (h : wpC M A m (fun a s' => wpC M A (f a) Q s') s) :
    wpC M A (m >>= f) Q s := fun Γ p hΓ h1 h2 => by
  rw [Sem.wp_bind']
  exact Sem.wp_mono M Γ m (fun a p' s' h' => h' Γ p' hΓ h1 h2) (fun _ _ _ h' => h') p s (h Γ p hΓ h1 h2)
theorem wpC_bindA {m : Sem α} {f : α → Sem β} {Q : β → Shared → Prop} (h : wpAny M A m (fun a s' => wpC M A (f a) Q s') (fun _ _ => False) s) :
    wpC M A (m >>= f) Q s := wpC_bind (wpC_of h)
theorem wpC_onRaise {m : Sem α} {k : Value → Sem Unit} {Q : α → Shared → Prop} (h : wpC M A m Q s) : wpC M A (m.onRaise k) Q s := fun Γ p hΓ h1 h2 => by
  rw [Sem.wp_onRaise]
  exact Sem.wp_mono M Γ m (fun _ _ _ h' => h') (fun e p' s' h' => h'.elim) p s (h Γ p hΓ h1 h2)
theorem wpC_attempt {m : Sem α} {Q : Except Value α → Shared → Prop} (h : wpC M A m (fun a => Q (.ok a)) s) :
    wpC M A m.attempt Q s := fun Γ p hΓ h1 h2 => by
  rw [Sem.wp_attempt]
  exact Sem.wp_mono M Γ m (fun _ _ _ h' => h') (fun e p' s' h' => h'.elim) p s (h Γ p hΓ h1 h2)
theorem wpC_tryCatch {m : Sem α} {k : Value → Sem α} {Q : α → Shared → Prop} (h : wpC M A m Q s) : wpC M A (tryCatch m k) Q s := fun Γ p hΓ h1 h2 => by
  rw [Sem.wp_tryCatch']
  exact Sem.wp_mono M Γ m (fun _ _ _ h' => h') (fun e p' s' h' => h'.elim) p s (h Γ p hΓ h1 h2)
theorem wpC_holding {vs : List Value} {m : Sem α} {Q : α → Shared → Prop} (h : wpC M A m Q s) : wpC M A (holding vs m) Q s :=
  fun Γ p hΓ h1 h2 => by rw [Sem.wp_holding]; exact h Γ p hΓ h1 h2
theorem wpC_operate {vs : List Value} {m : Sem Value} {Q : Value → Shared → Prop} (h : wpC M A m Q s) : wpC M A (operate vs m) Q s :=
  fun Γ p hΓ h1 h2 => by rw [Sem.wp_operate]; exact h Γ p hΓ h1 h2
theorem wpC_release {vs keep : List Value} {Q : Unit → Shared → Prop} (h : Q () s) : wpC M A (release vs keep) Q s :=
  fun Γ p hΓ h1 h2 => by rw [Sem.wp_release]; exact h
theorem wpC_standAt {pos : Pos} {Q : Unit → Shared → Prop} (h : Q () s) : wpC M A (standAt pos) Q s := fun _ _ _ _ _ => h
theorem wpC_point {Q : Unit → Shared → Prop} (h : Q () s) : wpC M A point Q s := fun _ _ _ _ _ => h
theorem wpC_rule {tag : String} {Q : Unit → Shared → Prop} (h : Q () s) : wpC M A (rule tag) Q s := fun _ _ _ _ _ => h
theorem wpC_bindName {env : Env} {x : Str} {v : Value} {Q : Unit → Shared → Prop} (h : wpC M A (storeName env x v) Q s) : wpC M A (bindName env x v) Q s :=
  fun Γ p hΓ h1 h2 => by rw [Sem.wp_bindName]; exact h Γ p hΓ h1 h2

theorem cleanB_enter {Γ : Ctx} {c : Code} {hd : Option Value} {p : Pos} (h1 : Dirty Γ.code = false) (h2 : CleanB Γ.below) : CleanB (Γ.enter c hd p).below := by
  intro x hx
  have : x ∈ (Γ.code, p) :: Γ.below := hx
  rcases List.mem_cons.mp this with rfl | h
  · exact h1
  · exact h2 _ h

theorem wpC_run {c : Code} {h : Option Value} {Q : Flow → Shared → Prop}
    (hc : codeC M (A.mark h) c Q s) (hnb : h ≠ some byPass := by intro x; cases x) : wpC M A (run c h) Q s :=
  fun Γ p hΓ h1 h2 => by
    rw [Sem.wp_run]
    exact wpCode_mono (fun r s' ⟨f, e, q⟩ => by subst e; exact q) (hc _ p rfl (hΓ.enter c h p hnb) (cleanB_enter h1 h2))
theorem wpC_runValue {c : Code} {Q : Value → Shared → Prop}
    (hc : codeC M A c (fun f s' => match f with | .ret v => Q v s' | _ => False) s) : wpC M A (runValue c) Q s := fun Γ p hΓ h1 h2 => by
  rw [Sem.wp_runValue]
  refine wpCode_mono (fun r s' ⟨f, e, q⟩ => by subst e; cases f <;> first | exact q | exact q.elim) (hc _ p rfl (hΓ.enter c none p (by intro x; cases x)) (cleanB_enter h1 h2))
theorem wpC_call {f : Value} {pos : List Value} {kw : List (Str × Value)} {Q : Value → Shared → Prop}
    (hc : codeC M A (.call f ⟨pos, kw⟩) (fun f s' => match f with | .ret v => Q v s' | _ => False) s) :
    wpC M A (call f pos kw) Q s := wpC_runValue hc

theorem codeC_of_tree {c : Code} {R : Flow → Shared → Prop}
    (h : wpC M (A.under c) (M.den c) (fun fin s' => match fin with | .done f => R f s' | .again c' => c'.quiet = true ∧ codeC M A c' R s') s)
    (hd : Dirty c = false := by rfl) : codeC M A c R s := fun Γ p hc hΓ h2 => by
  rw [wpCode_iff_wp, hc]
  refine Sem.wp_mono M Γ _ (fun fin p' s' h' => ?_) (fun _ _ _ h' => h'.elim) p s (h Γ p (hc ▸ hΓ.in) (hc ▸ hd) h2)
  cases fin with
  | done f => exact ⟨f, rfl, h'⟩
  | again c' => exact ⟨h'.1, h'.2 (Γ.goto c') p' rfl (hΓ.goto c') h2⟩

theorem codeC_loop {c : Code} {R : Flow → Shared → Prop} (hq : c.quiet = true) (I : Nat → Shared → Prop)
    (turn : ∀ n s, I n s → wpC M (A.under c) (M.den c)
      (fun fin s' => match fin with | .done f => R f s' | .again c' => c' = c ∧ ∃ m, m < n ∧ I m s') s)
    (n : Nat) (h : I n s) (hd : Dirty c = false := by rfl) : codeC M A c R s := by
  induction n using Nat.strongRecOn generalizing s with
  | ind n ih =>
    refine codeC_of_tree (wpC_mono (turn n s h) (fun fin s' hf => ?_)) hd
    cases fin with
    | done f => exact hf
    | again c' => obtain ⟨rfl, m, hm, hI⟩ := hf; exact ⟨hq, ih m hm hI⟩

theorem wpC_of_in1 {t : Sem α} {Q : α → Shared → Prop} (h : wpC M A.in1 t Q s) : wpC M A t Q s :=
  fun Γ p hΓ => h Γ p ⟨hΓ.1, hΓ.2.1, hΓ.2.2.1, hΓ.2.2.2.1, Nat.le_succ_of_le hΓ.2.2.2.2⟩

set_option tactic.hygienic true in
theorem wpC_exported {self : Value} {Q : Bool → Shared → Prop} (h : Q false s) : wpC M A (PySem.Builtin.Bytes.exported self) Q s := fun Γ p hΓ h1 h2 => by
  unfold PySem.Builtin.Bytes.exported
  rw [Sem.wp_bind']
  show wp M Γ (.stack .pure) _ _ p s
  rw [Sem.wp_stack, Sem.wp_pure]
  suffices hx : List.any ((Γ.code, p) :: Γ.below) _ = false by
    show Q (List.any ((Γ.code, p) :: Γ.below) _) s
    rw [hx]; exact h
  rw [List.any_eq_false]
  intro x hx
  have hc : Dirty x.1 = false := by
    rcases List.mem_cons.mp hx with rfl | h
    · exact h1
    · exact h2 _ h
  obtain ⟨c, q⟩ := x
  cases c <;> first | exact Bool.false_ne_true | skip
  rename_i id args
  have hc' : (PySem.Builtin.Bytes.decodersThatHold ++ ["bytearray.__contains__", "bytearray.__mod__", "bytearray.__rmod__", "_struct.pack_into.held", "bytearray.find.held"]).contains id = false := hc
  rw [List.contains_append] at hc'
  obtain ⟨k1, k2⟩ := Bool.or_eq_false_iff.mp hc'
  have e : ∀ s, (["bytearray.__contains__", "bytearray.__mod__", "bytearray.__rmod__", "_struct.pack_into.held", "bytearray.find.held"] : List String).contains s = true → id ≠ s := fun s hs he => by
    subst he; rw [k2] at hs; exact nomatch hs
  unfold PySem.Builtin.Bytes.exported.match_1 PySem.Builtin.Bytes.exported._sparseCasesOn_1
  dsimp only
  rw [dif_neg (e _ (by decide)), dif_neg (e _ (by decide)), dif_neg (e _ (by decide)), dif_neg (e _ (by decide)), dif_neg (e _ (by decide))]
  obtain ⟨l, kw⟩ := args
  cases l with
  | nil => exact Bool.false_ne_true
  | cons v r =>
    show ¬ ((PySem.Builtin.Bytes.sameRef v self && PySem.Builtin.Bytes.decodersThatHold.contains id) = true)
    rw [k1, Bool.and_false]
    exact Bool.false_ne_true
end Mine
end
section
namespace Mine
open PySem

inductive PV where
  | none
  | bool (b : Bool)
  | int (i : Int)
  | str (x : Str)
  | byt (b : List UInt8)
  | tup (vs : List PV)
  | lst (vs : List PV)
  | bar (b : List UInt8)
  | rng (a b c : Int)
  | dcI (es : List (Int × PV))
  | dcS (es : List (Str × PV))
  | loc (k : Nat)

inductive Slot where
  | un
  | val (d : PV)
  | ol (vs : List PV)
  | ob (b : List UInt8)

inductive MO where
  | list (vs : List PV)
  | inst (d a : Option PV)

inductive BOp where | add | sub | mul | fdiv | mod | pow | shl | shr | band | bor
inductive COp where | eq | ne | lt | le | gt | ge | is | isNot | isIn | notIn
inductive BI where | len | range | bytes | tuple | list | max | int

mutual
inductive PX where
  | lit (d : PV)
  | var (i : Nat)
  | bin (o : BOp) (a b : PX)
  | neg (a : PX)
  | cmp (a : PX) (o : COp) (b : PX)
  | cmp2 (a : PX) (o : COp) (b : PX) (p : COp) (c : PX)
  | and (a b : PX)
  | or (a b : PX)
  | ite (t a b : PX)
  | lst (xs : PXs)
  | tup (xs : PXs)
  | dct (es : List (Str × PV))
  | comp (elt src : PX)
  | call (f : Nat) (xs : PXs)
  | bi (b : BI) (xs : PXs)
  | join (o a : PX)
  | index (o a : PX)
  | meth (f : Nat) (o : PX) (xs : PXs)
  | new (x : PX)
  | attr (o : PX) (fld : Bool)
  | idx (o i : PX)
  | slAB (o a b : PX)
  | slA (o a : PX)
  | slB (o b : PX)
inductive PXs where
  | nil
  | cons (x : PX) (xs : PXs)
end

mutual
inductive PS where
  | expr (e : PX)
  | asg (i : Nat) (e : PX)
  | asgC (i : Nat) (elt src : PX)
  | asgL (i : Nat) (xs : PXs)
  | asgB (i : Nat) (e : PX)
  | newbox (i : Nat) (xs : PXs)
  | asgT (is : List Nat) (xs : PXs) (own : Option (Nat × PXs))
  | unp (is : List Nat) (e : PX)
  | unpA (i j : Nat) (fld : Bool) (e : PX)
  | setI (i : Nat) (ix e : PX)
  | setA (i : Nat) (fld : Bool) (e : PX)
  | augN (i : Nat) (o : BOp) (e : PX)
  | augA (i : Nat) (fld : Bool) (o : BOp) (e : PX)
  | app (i : Nat) (e : PX)
  | ext (i : Nat) (xs : PXs)
  | ifs (t : PX) (a b : PSs)
  | for1 (i : Nat) (src : PX) (body : PSs)
  | forT (i j : Nat) (src : PX) (body : PSs)
  | forE (i j : Nat) (src : PX) (body : PSs)
  | whl (t : PX) (body : PSs)
  | ret (e : PX)
  | tryx (body : PSs)
  | fail
inductive PSs where
  | nil
  | cons (x : PS) (xs : PSs)
end

noncomputable abbrev St := List MO

/-! the values' operations -/
noncomputable def lim : Nat := 1048576

noncomputable def asI : PV → Option Int
  | .int i => some i
  | _ => Option.none
noncomputable def asO : PV → Option Bool
  | .bool b => some b
  | _ => Option.none
noncomputable def asS : PV → Option Str
  | .str x => some x
  | _ => Option.none
noncomputable def asB : PV → Option (List UInt8)
  | .byt b => some b
  | _ => Option.none
noncomputable def asT : PV → Option (List PV)
  | .tup vs => some vs
  | _ => Option.none
noncomputable def asL : PV → Option (List PV)
  | .lst vs => some vs
  | _ => Option.none
noncomputable def asC : PV → Option Nat
  | .loc k => some k
  | _ => Option.none
noncomputable def isN : PV → Bool
  | .none => true
  | _ => false

noncomputable def eqvL (f : PV → PV → Option Bool) : List PV → List PV → Option Bool
  | [], bs => match bs with
    | [] => some true
    | _ :: _ => Option.none
  | a :: as, bs => match bs with
    | [] => Option.none
    | b :: bs => (f a b).bind fun c => if c = true then eqvL f as bs else Option.none
noncomputable def eqvF (f : PV → PV → Option Bool) (x y : PV) : Option Bool := match x with
  | .none => if isN y = true then some true else Option.none
  | .bool a => (asO y).map fun b => a == b
  | .int a => (asI y).map fun b => decide (a = b)
  | .str a => (asS y).map fun b => decide (a = b)
  | .byt a => (asB y).map fun b => decide (a = b)
  | .tup as => (asT y).bind fun bs => eqvL f as bs
  | .lst as => (asL y).bind fun bs => eqvL f as bs
  | _ => Option.none
noncomputable def eqv : Nat → PV → PV → Option Bool
  | 0 => fun _ _ => Option.none
  | n + 1 => eqvF (eqv n)

noncomputable def truth : PV → Option Bool
  | .none => some false
  | .bool b => some b
  | .int i => some (decide (i ≠ 0))
  | _ => Option.none

noncomputable def small (i : Int) : Bool := decide (i.natAbs < 2 ^ 64)

noncomputable def addV (x y : PV) : Option PV := match x with
  | .int a => (asI y).map fun b => .int (a + b)
  | .byt a => (asB y).bind fun b => if a.length + b.length ≤ lim then some (.byt (a ++ b)) else Option.none
  | .lst a => (asL y).bind fun b => if a.length + b.length ≤ lim then some (.lst (a ++ b)) else Option.none
  | _ => Option.none
noncomputable def mulV (x y : PV) : Option PV := (asI y).bind fun n => match x with
  | .int a => if (small a && small n) = true then some (.int (a * n)) else Option.none
  | .lst a => if 0 ≤ n ∧ n ≤ 256 ∧ a.length * n.toNat ≤ 256 then some (.lst (List.replicate n.toNat a).flatten) else Option.none
  | .byt a => if 0 ≤ n ∧ n ≤ 1024 ∧ a ≠ [] ∧ a.length ≤ 16 then some (.byt (List.replicate n.toNat a).flatten) else Option.none
  | _ => Option.none
noncomputable def intV (f : Int → Int → Option Int) (x y : PV) : Option PV := (asI x).bind fun a => (asI y).bind fun b => (f a b).map .int
noncomputable def onlyIf (c : Prop) [Decidable c] (i : Int) : Option Int := if c then some i else Option.none
noncomputable def bin : BOp → PV → PV → Option PV
  | .add => addV
  | .sub => intV fun a b => some (a - b)
  | .mul => mulV
  | .fdiv => intV fun a b => onlyIf (0 < b ∧ small b = true) (a / b)
  | .mod => intV fun a b => onlyIf (0 < b) (a % b)
  | .pow => intV fun a b => onlyIf (0 ≤ a ∧ a ≤ 256 ∧ 0 ≤ b ∧ b ≤ 64) (a ^ b.toNat)
  | .shl => intV fun a b => onlyIf (0 ≤ a ∧ small a = true ∧ 0 ≤ b ∧ b ≤ 64) (a * 2 ^ b.toNat)
  | .shr => intV fun a b => onlyIf (0 ≤ a ∧ 0 ≤ b ∧ b ≤ 64) (a / 2 ^ b.toNat)
  | .band => intV fun a b => onlyIf (0 ≤ a ∧ 0 ≤ b) ((a.toNat &&& b.toNat : Nat) : Int)
  | .bor => intV fun a b => onlyIf (0 ≤ a ∧ 0 ≤ b) ((a.toNat ||| b.toNat : Nat) : Int)

noncomputable def findI (k : Int) (es : List (Int × PV)) : Option PV := (es.find? fun e => decide (e.1 = k)).map (·.2)
noncomputable def findS (k : Str) (es : List (Str × PV)) : Option PV := (es.find? fun e => decide (e.1 = k)).map (·.2)

noncomputable def inInts (a : Int) : List PV → Option Bool
  | [] => some false
  | b :: r => (asI b).bind fun i => (inInts a r).map fun c => decide (a = i) || c
noncomputable def isIn (x y : PV) : Option Bool := match y with
  | .tup bs => (asI x).bind fun a => inInts a bs
  | .dcI es => (asI x).map fun a => (findI a es).isSome
  | .dcS es => (asS x).map fun a => (findS a es).isSome
  | _ => Option.none
noncomputable def isNone (x y : PV) : Option Bool := if isN y = true then some (isN x) else Option.none
noncomputable def cmpI (f : Int → Int → Bool) (x y : PV) : Option Bool := (asI x).bind fun a => (asI y).map fun b => f a b
noncomputable def cmp : COp → PV → PV → Option Bool
  | .eq => eqv 9
  | .ne => fun x y => (eqv 9 x y).map not
  | .lt => cmpI fun a b => decide (a < b)
  | .le => cmpI fun a b => decide (a ≤ b)
  | .gt => cmpI fun a b => decide (a > b)
  | .ge => cmpI fun a b => decide (a ≥ b)
  | .is => isNone
  | .isNot => fun x y => (isNone x y).map not
  | .isIn => isIn
  | .notIn => fun x y => (isIn x y).map not

noncomputable def rngUp (a : Int) : Nat → List PV
  | 0 => []
  | n + 1 => .int a :: rngUp (a + 1) n
noncomputable def rngDown (a : Int) : Nat → List PV
  | 0 => []
  | n + 1 => .int a :: rngDown (a - 1) n
noncomputable def small62 (i : Int) : Bool := decide (i.natAbs < 2 ^ 62)
noncomputable def rngItems (a b c : Int) : Option (List PV) :=
  if !(small62 a && small62 b) then Option.none else if c = 1 then some (rngUp a (b - a).toNat) else if c = -1 then some (rngDown a (a - b).toNat) else Option.none

noncomputable def items : PV → Option (List PV)
  | .lst vs => some vs
  | .tup vs => some vs
  | .byt bs => some (bs.map fun b => .int (b.toNat : Int))
  | .rng a b c => rngItems a b c
  | _ => Option.none
noncomputable def itemsC : PV → Option (List PV)
  | .lst vs => some vs
  | .rng a b c => rngItems a b c
  | _ => Option.none

noncomputable def octet? (v : PV) : Option UInt8 := (asI v).bind fun i => if 0 ≤ i ∧ i < 256 then some (UInt8.ofNat i.toNat) else Option.none
noncomputable def octets? : List PV → Option (List UInt8)
  | [] => some []
  | v :: vs => (octet? v).bind fun b => (octets? vs).map fun bs => b :: bs
noncomputable def byts? : List PV → Option (List (List UInt8))
  | [] => some []
  | v :: vs => (asB v).bind fun b => (byts? vs).map fun bs => b :: bs

noncomputable def one? {α : Type} : List α → Option α
  | [] => Option.none
  | v :: r => match r with
    | [] => some v
    | _ :: _ => Option.none
noncomputable def two? {α : Type} : List α → Option (α × α)
  | [] => Option.none
  | v :: r => (one? r).map fun u => (v, u)
noncomputable def three? {α : Type} : List α → Option (α × α × α)
  | [] => Option.none
  | v :: r => (two? r).map fun u => (v, u)
noncomputable def lenN (n : Nat) : Option PV := if n ≤ lim then some (.int n) else Option.none
noncomputable def lenV : PV → Option PV
  | .byt b => lenN b.length
  | .lst b => lenN b.length
  | .tup b => lenN b.length
  | _ => Option.none
noncomputable def range1 (v : PV) : Option PV := (asI v).bind fun n => if small n = true then some (.rng 0 n 1) else Option.none
noncomputable def range3 (v : PV × PV × PV) : Option PV := (asI v.1).bind fun a => (asI v.2.1).bind fun b => (asI v.2.2).bind fun c => if (small a && small b && (c == 1 || c == -1)) = true then some (.rng a b c) else Option.none
noncomputable def rangeV (vs : List PV) : Option PV := match one? vs with
  | some v => range1 v
  | Option.none => (three? vs).bind range3
noncomputable def bytesV : PV → Option PV
  | .int n => if 0 ≤ n ∧ n ≤ lim then some (.byt (List.replicate n.toNat 0)) else Option.none
  | .bar b => if b.length ≤ lim then some (.byt b) else Option.none
  | .lst vs => if vs.length ≤ lim then (octets? vs).map .byt else Option.none
  | .rng a b c => if a = 0 ∧ c = 1 ∧ 0 ≤ b ∧ b ≤ 256 then some (.byt ((List.range b.toNat).map UInt8.ofNat)) else Option.none
  | _ => Option.none
noncomputable def biV : BI → List PV → Option PV
  | .len => fun vs => (one? vs).bind lenV
  | .range => rangeV
  | .bytes => fun vs => (one? vs).bind bytesV
  | .tuple => fun vs => (one? vs).bind fun v => (asL v).bind fun vs => if vs.length ≤ lim then some (.tup vs) else Option.none
  | .list => fun vs => (one? vs).bind fun v => (asT v).bind fun vs => if vs.length ≤ lim then some (.lst vs) else Option.none
  | .max => fun vs => (two? vs).bind fun p => (asI p.1).bind fun a => (asI p.2).map fun b => .int (if b > a then b else a)
  | .int => fun vs => (one? vs).bind fun v => (asO v).map fun b => .int (if b = true then 1 else 0)

noncomputable def joinF (bs : List (List UInt8)) : Option PV := if bs.flatten.length ≤ lim then some (.byt bs.flatten) else Option.none
noncomputable def joinV (x y : PV) : Option PV := (asB x).bind fun b => match b with
  | [] => (asL y).bind fun vs => (byts? vs).bind joinF
  | _ :: _ => Option.none

noncomputable def posIn (a : Int) : List PV → Nat → Option Nat
  | [], _ => Option.none
  | v :: r, k => (asI v).bind fun b => if a = b then some k else posIn a r (k + 1)
noncomputable def indexV (x y : PV) : Option PV := (asT x).bind fun vs => (asI y).bind fun a => (posIn a vs 0).map fun (k : Nat) => .int (k : Int)

noncomputable def asBox : MO → Option (List PV)
  | .list vs => some vs
  | .inst .. => Option.none
noncomputable def asInst : MO → Option (Option PV × Option PV)
  | .inst d a => some (d, a)
  | .list _ => Option.none
noncomputable def boxAt (σ : St) (k : Nat) : Option (List PV) := (σ[k]?).bind asBox
noncomputable def instAt (σ : St) (k : Nat) : Option (Option PV × Option PV) := (σ[k]?).bind asInst
noncomputable def idxL (vs : List PV) (y : PV) : Option PV := (asI y).bind fun i => if 0 ≤ i ∧ i < lim then vs[i.toNat]? else Option.none
noncomputable def idxV (σ : St) (x y : PV) : Option PV := match x with
  | .tup vs => idxL vs y
  | .lst vs => idxL vs y
  | .byt b => (asI y).bind fun i => if 0 ≤ i ∧ b.length ≤ lim then (b[i.toNat]?).map fun x => .int (x.toNat : Int) else Option.none
  | .dcI es => (asI y).bind fun k => findI k es
  | .dcS es => (asS y).bind fun k => findS k es
  | .loc k => (boxAt σ k).bind fun vs => idxL vs y
  | _ => Option.none

noncomputable def sl {α : Type} (a b : Int) (l : List α) : List α := (l.take b.toNat).drop a.toNat
noncomputable def slAB (x y z : PV) : Option PV := (asB x).bind fun b => (asI y).bind fun i => (asI z).bind fun j => if 0 ≤ i ∧ 0 ≤ j ∧ b.length ≤ lim then some (.byt (sl i j b)) else Option.none
noncomputable def slA (x y : PV) : Option PV := (asT x).bind fun b => (asI y).bind fun i => if 1 ≤ i ∧ i.toNat ≤ b.length ∧ b.length ≤ lim then some (.tup (b.drop i.toNat)) else Option.none
noncomputable def slB (x y : PV) : Option PV := (asL x).bind fun b => (asI y).bind fun j => if 0 ≤ j ∧ b.length ≤ lim then some (.lst (b.take j.toNat)) else Option.none

noncomputable def attrV (σ : St) (fld : Bool) (o : PV) : Option PV := (asC o).bind fun k => (instAt σ k).bind fun p => if fld = true then p.2 else p.1
noncomputable def setAttrV (σ : St) (fld : Bool) (o v : PV) : Option St := (asC o).bind fun k => (instAt σ k).bind fun p => if fld = true → p.1.isSome = true then some (σ.set k (if fld = true then .inst p.1 (some v) else .inst (some v) p.2)) else Option.none

noncomputable abbrev CF := Nat → List PV → St → Option (PV × St)

noncomputable def mapS (f : PV → St → Option (PV × St)) : List PV → St → Option (List PV × St)
  | [], σ => some ([], σ)
  | v :: vs, σ => (f v σ).bind fun p => (mapS f vs p.2).map fun q => (p.1 :: q.1, q.2)

noncomputable def asVal : Slot → Option PV
  | .val d => some d
  | _ => Option.none
noncomputable def asOl : Slot → Option (List PV)
  | .ol vs => some vs
  | _ => Option.none
noncomputable def valAt (ρ : List Slot) (i : Nat) : Option PV := (ρ[i]?).bind asVal
noncomputable def olAt (ρ : List Slot) (i : Nat) : Option (List PV) := (ρ[i]?).bind asOl

mutual
noncomputable def ev (cf : CF) : PX → List Slot → St → Option (PV × St)
  | .lit d, _, σ => some (d, σ)
  | .var i, ρ, σ => (valAt ρ i).map fun d => (d, σ)
  | .bin o a b, ρ, σ => (ev cf a ρ σ).bind fun p => (ev cf b ρ p.2).bind fun q => (bin o p.1 q.1).map fun r => (r, q.2)
  | .neg a, ρ, σ => (ev cf a ρ σ).bind fun p => (asI p.1).map fun i => (.int (-i), p.2)
  | .cmp a o b, ρ, σ => (ev cf a ρ σ).bind fun p => (ev cf b ρ p.2).bind fun q => (cmp o p.1 q.1).map fun r => (.bool r, q.2)
  | .cmp2 a o b o' c, ρ, σ => (ev cf a ρ σ).bind fun p => (ev cf b ρ p.2).bind fun q => (cmp o p.1 q.1).bind fun r =>
      if r = true then (ev cf c ρ q.2).bind fun z => (cmp o' q.1 z.1).map fun r => (.bool r, z.2) else some (.bool false, q.2)
  | .and a b, ρ, σ => (ev cf a ρ σ).bind fun p => (truth p.1).bind fun t => if t = true then ev cf b ρ p.2 else some p
  | .or a b, ρ, σ => (ev cf a ρ σ).bind fun p => (truth p.1).bind fun t => if t = true then some p else ev cf b ρ p.2
  | .ite t a b, ρ, σ => (ev cf t ρ σ).bind fun p => (truth p.1).bind fun t => if t = true then ev cf a ρ p.2 else ev cf b ρ p.2
  | .lst xs, ρ, σ => (evs cf xs ρ σ).map fun p => (.lst p.1, p.2)
  | .tup xs, ρ, σ => (evs cf xs ρ σ).map fun p => (.tup p.1, p.2)
  | .dct es, _, σ => some (.dcS es, σ)
  | .comp elt src, ρ, σ => (ev cf src ρ σ).bind fun p => (itemsC p.1).bind fun vs => if vs.length ≤ lim then (mapS (fun v σ => ev cf elt (.val v :: ρ) σ) vs p.2).map fun q => (.lst q.1, q.2) else Option.none
  | .call f xs, ρ, σ => (evs cf xs ρ σ).bind fun p => cf f p.1 p.2
  | .bi b xs, ρ, σ => (evs cf xs ρ σ).bind fun p => (biV b p.1).map fun r => (r, p.2)
  | .join o a, ρ, σ => (ev cf o ρ σ).bind fun p => (ev cf a ρ p.2).bind fun q => (joinV p.1 q.1).map fun r => (r, q.2)
  | .index o a, ρ, σ => (ev cf o ρ σ).bind fun p => (ev cf a ρ p.2).bind fun q => (indexV p.1 q.1).map fun r => (r, q.2)
  | .meth f o xs, ρ, σ => (ev cf o ρ σ).bind fun p => (asC p.1).bind fun k => (instAt p.2 k).bind fun _ => (evs cf xs ρ p.2).bind fun q => cf f (p.1 :: q.1) q.2
  | .new x, ρ, σ => (ev cf x ρ σ).map fun p => (.loc p.2.length, p.2 ++ [.inst (some p.1) (some (.int 0))])
  | .attr o fld, ρ, σ => (ev cf o ρ σ).bind fun p => (attrV p.2 fld p.1).map fun r => (r, p.2)
  | .idx o i, ρ, σ => (ev cf o ρ σ).bind fun p => (ev cf i ρ p.2).bind fun q => (idxV q.2 p.1 q.1).map fun r => (r, q.2)
  | .slAB o a b, ρ, σ => (ev cf o ρ σ).bind fun p => (ev cf a ρ p.2).bind fun q => (ev cf b ρ q.2).bind fun z => (slAB p.1 q.1 z.1).map fun r => (r, z.2)
  | .slA o a, ρ, σ => (ev cf o ρ σ).bind fun p => (ev cf a ρ p.2).bind fun q => (slA p.1 q.1).map fun r => (r, q.2)
  | .slB o b, ρ, σ => (ev cf o ρ σ).bind fun p => (ev cf b ρ p.2).bind fun q => (slB p.1 q.1).map fun r => (r, q.2)
noncomputable def evs (cf : CF) : PXs → List Slot → St → Option (List PV × St)
  | .nil, _, σ => some ([], σ)
  | .cons x xs, ρ, σ => (ev cf x ρ σ).bind fun p => (evs cf xs ρ p.2).map fun q => (p.1 :: q.1, q.2)
end

noncomputable def setAll : List Slot → List Nat → List Slot → List Slot
  | ρ, [], _ => ρ
  | ρ, i :: is, vs => match vs with
    | [] => ρ
    | v :: vs => setAll (ρ.set i v) is vs

noncomputable def freeze : Slot → Slot
  | .ol vs => .val (.lst vs)
  | .ob b => .val (.bar b)
  | s => s

inductive XR where
  | nxt (ρ : List Slot) (σ : St)
  | ret (d : PV) (σ : St)

noncomputable def andThen (f : List Slot → St → Option XR) : XR → Option XR
  | .nxt ρ σ => f ρ σ
  | .ret d σ => some (.ret d σ)

noncomputable def forS (f : PV → List Slot → St → Option XR) : List PV → List Slot → St → Option XR
  | [], ρ, σ => some (.nxt ρ σ)
  | v :: vs, ρ, σ => (f v ρ σ).bind (andThen (forS f vs))

noncomputable def whlS (t : List Slot → St → Option (Bool × St)) (f : List Slot → St → Option XR) : Nat → List Slot → St → Option XR
  | 0, _, _ => Option.none
  | n + 1, ρ, σ => (t ρ σ).bind fun p => if p.1 = true then (f ρ p.2).bind (andThen (whlS t f n)) else some (.nxt ρ p.2)

noncomputable def tst (cf : CF) (t : PX) (ρ : List Slot) (σ : St) : Option (Bool × St) := (ev cf t ρ σ).bind fun p => (truth p.1).map fun b => (b, p.2)

noncomputable def whlFuel : Nat := 24
noncomputable def isPlain : PV → Bool
  | .none => true
  | .byt _ => true
  | .int _ => true
  | _ => false
noncomputable def setIV (i : Nat) (v k : PV) (ρ : List Slot) (σ : St) : Slot → Option XR
  | .ob b => (octet? v).bind fun x => (asI k).bind fun k => if 0 ≤ k ∧ k.toNat < b.length ∧ b.length ≤ 1000 then some (.nxt (ρ.set i (.ob (b.set k.toNat x))) σ) else Option.none
  | .val o => (asC o).bind fun a => (boxAt σ a).bind fun vs => (asI k).bind fun k => if 0 ≤ k ∧ k.toNat < vs.length ∧ k ≤ 1000 then some (.nxt ρ (σ.set a (.list (vs.set k.toNat v)))) else Option.none
  | _ => Option.none
noncomputable def pairT (i j : Nat) (f : List Slot → St → Option XR) (v : PV) (ρ : List Slot) (σ : St) : Option XR := (asT v).bind fun ds => (two? ds).bind fun p => f ((ρ.set i (.val p.1)).set j (.val p.2)) σ

mutual
noncomputable def xs (cf : CF) : PS → List Slot → St → Option XR
  | .expr e, ρ, σ => (ev cf e ρ σ).bind fun p => if isPlain p.1 = true then some (.nxt ρ p.2) else Option.none
  | .asg i e, ρ, σ => (ev cf e ρ σ).map fun p => .nxt (ρ.set i (.val p.1)) p.2
  | .asgC i elt src, ρ, σ => (ev cf (.comp elt src) ρ σ).map fun p => .nxt (ρ.set i (.val p.1)) p.2
  | .asgL i es, ρ, σ => (evs cf es ρ σ).map fun p => .nxt (ρ.set i (.ol p.1)) p.2
  | .asgB i e, ρ, σ => (ev cf e ρ σ).bind fun p => (asI p.1).bind fun n => if 0 ≤ n ∧ n ≤ 64 then some (.nxt (ρ.set i (.ob (List.replicate n.toNat 0))) p.2) else Option.none
  | .newbox i es, ρ, σ => (evs cf es ρ σ).map fun p => .nxt (ρ.set i (.val (.loc p.2.length))) (p.2 ++ [.list p.1])
  | .asgT is es own, ρ, σ => (evs cf es ρ σ).bind fun p => if is.length = p.1.length then match own with
      | Option.none => some (.nxt (setAll ρ is.reverse (p.1.reverse.map .val)) p.2)
      | some (i, fs) => (evs cf fs ρ p.2).map fun q => .nxt (setAll (ρ.set i (.ol q.1)) is.reverse (p.1.reverse.map .val)) q.2
    else Option.none
  | .unp is e, ρ, σ => (ev cf e ρ σ).bind fun p => (asT p.1).bind fun ds => if is.length = ds.length then some (.nxt (setAll ρ is (ds.map .val)) p.2) else Option.none
  | .unpA i j fld e, ρ, σ => (ev cf e ρ σ).bind fun p => (asT p.1).bind fun ds => (two? ds).bind fun q => (valAt (ρ.set i (.val q.1)) j).bind fun o => (setAttrV p.2 fld o q.2).map fun σ => .nxt (ρ.set i (.val q.1)) σ
  | .setI i ix e, ρ, σ => (ev cf e ρ σ).bind fun p => (ρ[i]?).bind fun s => (ev cf ix ρ p.2).bind fun q => setIV i p.1 q.1 ρ q.2 s
  | .setA i fld e, ρ, σ => (ev cf e ρ σ).bind fun p => (valAt ρ i).bind fun o => (setAttrV p.2 fld o p.1).map fun σ => .nxt ρ σ
  | .augN i o e, ρ, σ => (valAt ρ i).bind fun v => (asI v).bind fun x => (ev cf e ρ σ).bind fun p => (asI p.1).bind fun y => (bin o (.int x) (.int y)).map fun r => .nxt (ρ.set i (.val r)) p.2
  | .augA i fld o e, ρ, σ => (valAt ρ i).bind fun a => (attrV σ fld a).bind fun v => (asI v).bind fun x => (ev cf e ρ σ).bind fun p => (asI p.1).bind fun y => (bin o (.int x) (.int y)).bind fun r => (setAttrV p.2 fld a r).map fun σ => .nxt ρ σ
  | .app i e, ρ, σ => (olAt ρ i).bind fun vs => (ev cf e ρ σ).bind fun p => if vs.length < lim then some (.nxt (ρ.set i (.ol (vs ++ [p.1]))) p.2) else Option.none
  | .ext i es, ρ, σ => (olAt ρ i).bind fun vs => (evs cf es ρ σ).bind fun p => if vs.length + p.1.length < lim ∧ p.1 ≠ [] then some (.nxt (ρ.set i (.ol (vs ++ p.1))) p.2) else Option.none
  | .ifs t a b, ρ, σ => (tst cf t ρ σ).bind fun p => if p.1 = true then xss cf a ρ p.2 else xss cf b ρ p.2
  | .for1 i src body, ρ, σ => (ev cf src ρ σ).bind fun p => (items p.1).bind fun vs => forS (fun v ρ σ => xss cf body (ρ.set i (.val v)) σ) vs ρ p.2
  | .forT i j src body, ρ, σ => (ev cf src ρ σ).bind fun p => (asT p.1).bind fun vs => forS (pairT i j (xss cf body)) vs ρ p.2
  | .forE i j src body, ρ, σ => (ev cf src ρ σ).bind fun p => (asT p.1).bind fun vs => forS (pairT i j (xss cf body)) (vs.zipIdx.map fun z => .tup [.int (z.2 : Int), z.1]) ρ p.2
  | .whl t body, ρ, σ => whlS (tst cf t) (xss cf body) whlFuel ρ σ
  | .ret e, ρ, σ => (ev cf e (ρ.map freeze) σ).map fun p => .ret p.1 p.2
  | .tryx body, ρ, σ => xss cf body ρ σ
  | .fail, _, _ => Option.none
noncomputable def xss (cf : CF) : PSs → List Slot → St → Option XR
  | .nil, ρ, σ => some (.nxt ρ σ)
  | .cons s r, ρ, σ => (xs cf s ρ σ).bind (andThen (xss cf r))
end

structure PFun where
  np : Nat
  nv : Nat
  body : PSs

noncomputable def ended : XR → PV × St
  | .nxt _ σ => (.none, σ)
  | .ret d σ => (d, σ)
noncomputable def callF (fns : Nat → Option PFun) : Nat → CF
  | 0, _, _, _ => Option.none
  | c + 1, f, vs, σ => (fns f).bind fun pf => if vs.length = pf.np then (xss (callF fns c) pf.body (vs.map .val ++ List.replicate (pf.nv - pf.np) .un) σ).map ended else Option.none

/-! looking back -/
theorem no {α : Type} {P : Prop} {a : α} (h : (Option.none : Option α) = some a) : P := nomatch h
inductive Bnd {α β : Type} (x : Option α) (f : α → β) (r : β) : Prop
  | mk (a : α) (h : x = some a) (e : f a = r) : Bnd x f r
theorem bindE {α β : Type} {x : Option α} {f : α → Option β} {r : β} (h : x.bind f = some r) : Bnd x f (some r) := let ⟨a, h, e⟩ := Option.bind_eq_some_iff.mp h; ⟨a, h, e⟩
theorem mapE {α β : Type} {x : Option α} {f : α → β} {r : β} (h : x.map f = some r) : Bnd x f r := let ⟨a, h, e⟩ := Option.map_eq_some_iff.mp h; ⟨a, h, e⟩
theorem iteE {α : Type} {c : Prop} [Decidable c] {x : Option α} {r : α} (h : (if c then x else Option.none) = some r) : c ∧ x = some r := by
  by_cases hc : c
  · rw [if_pos hc] at h; exact ⟨hc, h⟩
  · rw [if_neg hc] at h; exact no h
theorem ite2E {α : Type} {b : Bool} {x y : Option α} {r : α} (h : (if b = true then x else y) = some r) : (b = true ∧ x = some r) ∨ (b = false ∧ y = some r) := by
  cases b with
  | true => exact .inl ⟨rfl, h⟩
  | false => exact .inr ⟨rfl, h⟩
theorem prodE {α β : Type} {a c : α} {b d : β} (h : (a, b) = (c, d)) : c = a ∧ d = b := ⟨(congrArg Prod.fst h).symm, (congrArg Prod.snd h).symm⟩
theorem asI_eq {d : PV} {i : Int} (h : asI d = some i) : d = .int i := by
  cases d <;> first | exact no h | exact congrArg PV.int (Option.some.inj h)
theorem asO_eq {d : PV} {i : Bool} (h : asO d = some i) : d = .bool i := by
  cases d <;> first | exact no h | exact congrArg PV.bool (Option.some.inj h)
theorem asS_eq {d : PV} {i : Str} (h : asS d = some i) : d = .str i := by
  cases d <;> first | exact no h | exact congrArg PV.str (Option.some.inj h)
theorem asB_eq {d : PV} {i : List UInt8} (h : asB d = some i) : d = .byt i := by
  cases d <;> first | exact no h | exact congrArg PV.byt (Option.some.inj h)
theorem asT_eq {d : PV} {i : List PV} (h : asT d = some i) : d = .tup i := by
  cases d <;> first | exact no h | exact congrArg PV.tup (Option.some.inj h)
theorem asL_eq {d : PV} {i : List PV} (h : asL d = some i) : d = .lst i := by
  cases d <;> first | exact no h | exact congrArg PV.lst (Option.some.inj h)
theorem asC_eq {d : PV} {i : Nat} (h : asC d = some i) : d = .loc i := by
  cases d <;> first | exact no h | exact congrArg PV.loc (Option.some.inj h)
theorem isN_eq {d : PV} (h : isN d = true) : d = .none := by
  cases d <;> first | rfl | exact nomatch h
theorem one_eq {α : Type} {l : List α} {a : α} (h : one? l = some a) : l = [a] := by
  match l with
  | [] => exact no h
  | [b] => exact congrArg (fun x => [x]) (Option.some.inj h)
  | _ :: _ :: _ => exact no h
theorem two_eq {α : Type} {l : List α} {p : α × α} (h : two? l = some p) : l = [p.1, p.2] := by
  match l with
  | [] => exact no h
  | b :: r =>
    obtain ⟨u, h1, rfl⟩ := mapE h
    rw [one_eq h1]
theorem three_eq {α : Type} {l : List α} {p : α × α × α} (h : three? l = some p) : l = [p.1, p.2.1, p.2.2] := by
  match l with
  | [] => exact no h
  | b :: r =>
    obtain ⟨u, h1, rfl⟩ := mapE h
    rw [two_eq h1]
theorem valAt_eq {ρ : List Slot} {i : Nat} {d : PV} (h : valAt ρ i = some d) : ρ[i]? = some (.val d) := by
  obtain ⟨s, h1, h2⟩ := bindE h
  cases s <;> first | exact no h2 | exact Option.some.inj h2 ▸ h1
theorem olAt_eq {ρ : List Slot} {i : Nat} {d : List PV} (h : olAt ρ i = some d) : ρ[i]? = some (.ol d) := by
  obtain ⟨s, h1, h2⟩ := bindE h
  cases s <;> first | exact no h2 | exact Option.some.inj h2 ▸ h1
theorem boxAt_eq {σ : St} {k : Nat} {vs : List PV} (h : boxAt σ k = some vs) : σ[k]? = some (.list vs) := by
  obtain ⟨s, h1, h2⟩ := bindE h
  cases s <;> first | exact no h2 | exact Option.some.inj h2 ▸ h1
theorem instAt_eq {σ : St} {k : Nat} {p : Option PV × Option PV} (h : instAt σ k = some p) : σ[k]? = some (.inst p.1 p.2) := by
  obtain ⟨s, h1, h2⟩ := bindE h
  cases s <;> first | exact no h2 | exact Option.some.inj h2 ▸ h1
end Mine
end
section
namespace Mine
open PySem

inductive GR where
  | c (d : PV)
  | f (a : Nat)
  | k
  | b (b : BI)
  | ba
  | en

noncomputable abbrev Scp := List (Str × NameKind)

noncomputable def posOf (x : Str) : List Str → Nat → Option Nat
  | [], _ => none
  | y :: r, i => if x = y then some i else posOf x r (i + 1)

noncomputable def opOf : Operator → Option BOp
  | .Add => some .add | .Sub => some .sub | .Mult => some .mul | .FloorDiv => some .fdiv | .Mod => some .mod | .Pow => some .pow
  | .LShift => some .shl | .RShift => some .shr | .BitAnd => some .band | .BitOr => some .bor | _ => none
noncomputable def copOf : CmpOp → COp
  | .Eq => .eq | .NotEq => .ne | .Lt => .lt | .LtE => .le | .Gt => .gt | .GtE => .ge | .Is => .is | .IsNot => .isNot | .In => .isIn | .NotIn => .notIn

noncomputable def constOf : Const → Option PV
  | .none => some .none
  | .bool b => some (.bool b)
  | .int i => some (.int i)
  | .str s => some (.str s)
  | .bytes b => some (.byt b)
  | _ => none

noncomputable def asStrE : Expr → Option Str
  | .Constant c _ _ => match c with
    | .str k => some k
    | _ => none
  | _ => none
noncomputable def asIntE : Expr → Option Int
  | .Constant c _ _ => match c with
    | .int k => some k
    | _ => none
  | _ => none
noncomputable def dctOf : List (Option Expr) → List Expr → Option (List (Str × Int))
  | [], vs => match vs with
    | [] => some []
    | _ :: _ => none
  | k :: ks, vs => match vs with
    | [] => none
    | v :: vs => k.bind fun k => (asStrE k).bind fun k => (asIntE v).bind fun v => (dctOf ks vs).map fun r => (k, v) :: r
noncomputable def intVs (es : List (Str × Int)) : List (Str × PV) := es.map fun p => (p.1, .int p.2)

set_option tactic.hygienic true in
theorem asStrE_eq {e : Expr} {k : Str} (h : asStrE e = some k) : ∃ n p, e = .Constant (.str k) n p := by
  cases e <;> first | exact no h | skip
  rename_i c n p
  cases c <;> first | exact no h | exact ⟨n, p, congrArg (fun x => Expr.Constant (.str x) n p) (Option.some.inj h)⟩
set_option tactic.hygienic true in
theorem asIntE_eq {e : Expr} {k : Int} (h : asIntE e = some k) : ∃ n p, e = .Constant (.int k) n p := by
  cases e <;> first | exact no h | skip
  rename_i c n p
  cases c <;> first | exact no h | exact ⟨n, p, congrArg (fun x => Expr.Constant (.int x) n p) (Option.some.inj h)⟩

noncomputable def methOf (x : Str) : Option Nat :=
  if x = Str.ofString "left" then some 206 else if x = Str.ofString "take" then some 213 else if x = Str.ofString "whole" then some 227 else if x = Str.ofString "varint" then some 234 else none
noncomputable def fldOf (x : Str) : Option Bool := if x = Str.ofString "data" then some false else if x = Str.ofString "at" then some true else none

noncomputable def slotOf (sc : Scp) (vars : List Str) (x : Str) : Option Nat := match sc.lookup x with
  | some .local | some .cell | some .free => posOf x vars 0
  | _ => none
noncomputable def locOf (sc : Scp) (vars : List Str) (x : Str) : Option Nat := match sc.lookup x with
  | some .local => posOf x vars 0
  | _ => none
noncomputable def globOf (gl : List (Str × GR)) (sc : Scp) (x : Str) : Option GR := match sc.lookup x with
  | some .globalImplicit => gl.lookup x
  | _ => none

noncomputable def noCall : Expr → Bool
  | .Call .. => false
  | _ => true
noncomputable def noSl : Expr → Bool
  | .Slice .. => false
  | _ => true
noncomputable def noSet : Expr → Bool
  | .Set .. => false
  | _ => true
noncomputable def noStar : Expr → Bool
  | .Starred .. => false
  | _ => true
noncomputable def plainTest : Expr → Bool
  | .UnaryOp op _ _ => match op with
    | .Not => false
    | _ => true
  | .BoolOp .. | .IfExp .. | .Compare .. => false
  | _ => true
noncomputable def noLC : Expr → Bool
  | .ListComp .. | .SetComp .. | .DictComp .. => false
  | _ => true
noncomputable def noTup : Expr → Bool
  | .Tuple .. => false
  | _ => true
noncomputable def compScope (sc : Scp) (vars : List Str) (x : Str) (scope : Scope) : Bool :=
  (match scope.kind with | .function => true | _ => false) && decide (scope.names.lookup x = some .local) && decide (x ≠ Str.ofString ".0") && !(vars.contains (Str.ofString ".0")) &&
  scope.names.all fun (y, k) => match k with
    | .local => decide (scope.names.lookup y = some .local) && (decide (y = x) || decide (y = Str.ofString ".0"))
    | .free => decide (sc.lookup y = some .cell)
    | .globalImplicit => true
    | _ => false
noncomputable def okName (x : Str) : Bool := decide (x ≠ Str.ofString "__debug__") && decide (x ≠ Str.ofString "__classdict__")

noncomputable def nameOf : Expr → Option Str
  | .Name x _ => some x
  | _ => none
noncomputable def genOf (gens : List Comprehension) : Option (Str × Expr) := (one? gens).bind fun g => if g.ifs.isEmpty && g.is_async == 0 then (nameOf g.target).map fun x => (x, g.iter) else none

noncomputable abbrev CE := Scp → List Str → Expr → Option PX
noncomputable def cxsM (cx : Expr → Option PX) : List Expr → Option PXs
  | [] => some .nil
  | e :: es => (cx e).bind fun x => (cxsM cx es).map fun xs => .cons x xs

noncomputable def cxName (gl : List (Str × GR)) (sc : Scp) (vars : List Str) (x : Str) : Option PX := if okName x = true then match globOf gl sc x with
    | some g => match g with
      | .c d => some (.lit d)
      | _ => none
    | none => (slotOf sc vars x).map .var
  else none
noncomputable def cxNeg (op : UnaryOp) (a : Expr) : Option PX := match op with
  | .USub => (asIntE a).map fun i => .lit (.int (-i))
  | _ => none
noncomputable def cxCmp (cx : Expr → Option PX) (a : Expr) (os : List CmpOp) (bs : List Expr) : Option PX := match one? os with
  | some o => (one? bs).bind fun b => (cx a).bind fun a => (cx b).map fun b => .cmp a (copOf o) b
  | none => (two? os).bind fun o => (two? bs).bind fun b => (cx a).bind fun a => (cx b.1).bind fun b' => (cx b.2).map fun c => .cmp2 a (copOf o.1) b' (copOf o.2) c
noncomputable def cxFn (gl : List (Str × GR)) (cx : Expr → Option PX) (sc : Scp) (x : Str) (as : List Expr) : Option PX := if okName x = true then (globOf gl sc x).bind fun g => (cxsM cx as).bind fun xs => match g with
    | .f a => some (.call a xs)
    | .b b => some (.bi b xs)
    | .k => match xs with
      | .cons y .nil => some (.new y)
      | _ => none
    | _ => none
  else none
noncomputable def one1 : PXs → Option PX
  | .cons x .nil => some x
  | _ => none
noncomputable def cxMeth (cx : Expr → Option PX) (o : Expr) (m : Str) (as : List Expr) : Option PX := if noCall o = true ∧ as.length + 1 < 30 then (cx o).bind fun o => (cxsM cx as).bind fun xs => match methOf m with
    | some f => some (.meth f o xs)
    | none => (one1 xs).bind fun x => if m = Str.ofString "join" then some (.join o x) else if m = Str.ofString "index" then some (.index o x) else none
  else none
noncomputable def cxCall (gl : List (Str × GR)) (cx : Expr → Option PX) (sc : Scp) (f : Expr) (as : List Expr) (p : Pos) : Option PX := match f with
  | .Name x _ => cxFn gl cx sc x as
  | .Attribute o m ap => if (ap.endLine == p.line) = true then cxMeth cx o m as else none
  | _ => none
noncomputable def cxSl (cx : Expr → Option PX) (o : Expr) (a b : Option Expr) : Option PX := match a with
  | some a => match b with
    | some b => (cx o).bind fun o => (cx a).bind fun a => (cx b).map fun b => .slAB o a b
    | none => (nameOf o).bind fun _ => (cx o).bind fun o => (cx a).map fun a => .slA o a
  | none => b.bind fun b => (nameOf o).bind fun _ => (cx o).bind fun o => (cx b).map fun b => .slB o b
noncomputable def cxSub (cx : Expr → Option PX) (o i : Expr) : Option PX := match i with
  | .Slice a b c _ => if c.isNone = true then cxSl cx o a b else none
  | i => (cx o).bind fun o => (cx i).map fun i => .idx o i
noncomputable def cxF (gl : List (Str × GR)) (cx : CE) (sc : Scp) (vars : List Str) (e : Expr) : Option PX := match e with
  | .Constant c _ _ => (constOf c).map .lit
  | .Name x _ => cxName gl sc vars x
  | .BinOp a o b _ => (opOf o).bind fun o => (cx sc vars a).bind fun a => (cx sc vars b).map fun b => .bin o a b
  | .UnaryOp op a _ => cxNeg op a
  | .BoolOp op es _ => (two? es).bind fun p => (cx sc vars p.1).bind fun a => (cx sc vars p.2).map fun b => match op with
    | .And => .and a b
    | .Or => .or a b
  | .IfExp t a b _ => (cx sc vars t).bind fun t => (cx sc vars a).bind fun a => (cx sc vars b).map fun b => .ite t a b
  | .Compare a os bs _ => cxCmp (cx sc vars) a os bs
  | .Dict ks vs _ => (dctOf ks vs).bind fun es => if es ≠ [] ∧ es.length ≤ 15 ∧ (es.map (·.1)).Nodup then some (.dct (intVs es)) else none
  | .List es _ => if es.length ≤ 64 then (cxsM (cx sc vars) es).map .lst else none
  | .Tuple es _ _ => if es.length ≤ 64 then (cxsM (cx sc vars) es).map .tup else none
  | .ListComp elt gens scope _ => (genOf gens).bind fun g => if compScope sc vars g.1 scope = true then (cx scope.names (g.1 :: vars) elt).bind fun a => (cx sc vars g.2).map fun b => .comp a b else none
  | .Call f as ks p => if ks.isEmpty = true then cxCall gl (cx sc vars) sc f as p else none
  | .Attribute o m _ => if noCall o = true then (cx sc vars o).bind fun o => (fldOf m).map fun f => .attr o f else none
  | .Subscript o i _ => cxSub (cx sc vars) o i
  | _ => none
noncomputable def cx (gl : List (Str × GR)) : Nat → CE
  | 0 => fun _ _ _ => none
  | n + 1 => cxF gl (cx gl n)
noncomputable abbrev cxE (gl : List (Str × GR)) : CE := cx gl 64

noncomputable def namesOf (sc : Scp) (vars : List Str) : List Expr → Option (List Nat)
  | [] => some []
  | t :: r => (nameOf t).bind fun x => (locOf sc vars x).bind fun i => (namesOf sc vars r).map fun is => i :: is
noncomputable def swapOk (ts vs : List Expr) : Bool :=
  (ts.length == 2 || ts.length == 3) && vs.length == ts.length && !(vs.any fun | .Starred .. => true | _ => false) &&
  (let line := (ts.head?.map (·.pos.line)).getD 0
   let names := ts.filterMap fun
    | .Name id pos => if pos.line == line then some id else none
    | _ => none
   names.length == ts.length && names.eraseDups.length == names.length) && !(vs.all (foldedForSure 8)) && !(vs.all (constantsAlone 8))

noncomputable def ownCall : Expr → Option (Str × Str × Expr)
  | .Call f as ks r => match f with
    | .Attribute o m q => if ks.isEmpty = true ∧ (q.endLine == r.line) = true then (one? as).bind fun a => (nameOf o).map fun x => (x, m, a) else none
    | _ => none
  | _ => none
noncomputable def listOfE : Expr → Option (List Expr)
  | .List es _ => some es
  | _ => none
noncomputable def globCall (gl : List (Str × GR)) (sc : Scp) : Expr → Option (GR × Expr)
  | .Call f as ks _ => if ks.isEmpty = true then (one? as).bind fun a => (nameOf f).bind fun x => if okName x = true then (globOf gl sc x).map fun g => (g, a) else none else none
  | _ => none
noncomputable def baOf (gl : List (Str × GR)) (sc : Scp) (e : Expr) : Option Expr := (globCall gl sc e).bind fun p => match p.1 with
  | .ba => some p.2
  | _ => none
noncomputable def enOf (gl : List (Str × GR)) (sc : Scp) (e : Expr) : Option Expr := (globCall gl sc e).bind fun p => match p.1 with
  | .en => some p.2
  | _ => none
noncomputable def nilLast (vs : List Expr) : Option Expr := (two? vs).bind fun p => (listOfE p.2).bind fun es => if es.isEmpty = true then some p.1 else none
noncomputable def attrLast (ts : List Expr) : Option (Str × Str × Str) := (two? ts).bind fun p => (nameOf p.1).bind fun x => match p.2 with
  | .Attribute o m _ => (nameOf o).map fun y => (x, y, m)
  | _ => none

section
variable (gl : List (Str × GR)) (sc : Scp) (vars : List Str)
noncomputable def csPlain (e : Expr) : Option PS := if noLC e = true then (cxE gl sc vars e).map .expr else none
noncomputable def csExpr (e : Expr) : Option PS := match ownCall e with
  | some t => if t.2.1 = Str.ofString "append" then (if okName t.1 = true then (locOf sc vars t.1).bind fun i => (cxE gl sc vars t.2.2).map fun a => .app i a else none)
    else if t.2.1 = Str.ofString "extend" then (if okName t.1 = true then (listOfE t.2.2).bind fun es => if es.length ≤ 64 then (locOf sc vars t.1).bind fun i => (cxsM (cxE gl sc vars) es).map fun xs => .ext i xs else none else none)
    else csPlain gl sc vars e
  | none => csPlain gl sc vars e
noncomputable def csList (x : Str) (es : List Expr) : Option PS := if es.length ≤ 64 then (if sc.lookup x = some .cell then (slotOf sc vars x).bind fun i => (cxsM (cxE gl sc vars) es).map fun xs => .newbox i xs
  else (locOf sc vars x).bind fun i => (cxsM (cxE gl sc vars) es).map fun xs => .asgL i xs) else none
noncomputable def csComp (y : Str) (yp : Pos) (elt : Expr) (gens : List Comprehension) (scope : Scope) (q : Pos) : Option PS := (genOf gens).bind fun g =>
  if compScope sc vars g.1 scope = true ∧ (yp.line == q.line) = true ∧ (scope.names.lookup y).isNone = true then (locOf sc vars y).bind fun i => (cxE gl scope.names (g.1 :: vars) elt).bind fun a => (cxE gl sc vars g.2).map fun b => .asgC i a b else none
noncomputable def csVal (x : Str) (e : Expr) : Option PS := match baOf gl sc e with
  | some a => (locOf sc vars x).bind fun i => (cxE gl sc vars a).map fun a => .asgB i a
  | none => if noLC e = true then (slotOf sc vars x).bind fun i => (cxE gl sc vars e).map fun e => .asg i e else none
noncomputable def csName (x : Str) (xp : Pos) (e : Expr) : Option PS := match e with
  | .List es _ => csList gl sc vars x es
  | .ListComp elt gens scope q => csComp gl sc vars x xp elt gens scope q
  | e => csVal gl sc vars x e
noncomputable def csTT (ts vs : List Expr) : Option PS := if swapOk ts vs = true then (namesOf sc vars ts).bind fun is => match nilLast vs with
    | some e => (two? is).bind fun p => (cxE gl sc vars e).map fun e => .asgT [p.1] (.cons e .nil) (some (p.2, .nil))
    | none => (cxsM (cxE gl sc vars) vs).map fun xs => .asgT is xs none
  else none
noncomputable def csTV (ts : List Expr) (e : Expr) : Option PS := if noLC e = true ∧ noTup e = true then match attrLast ts with
    | some t => if okName t.2.1 = true then (locOf sc vars t.1).bind fun i => (slotOf sc vars t.2.1).bind fun j => (fldOf t.2.2).bind fun f => (cxE gl sc vars e).map fun e => .unpA i j f e else none
    | none => (namesOf sc vars ts).bind fun is => (cxE gl sc vars e).map fun e => .unp is e
  else none
noncomputable def csTup (ts : List Expr) (e : Expr) : Option PS := match e with
  | .Tuple vs _ _ => csTT gl sc vars ts vs
  | e => csTV gl sc vars ts e
noncomputable def csAsg (t e : Expr) : Option PS := match t with
  | .Name x xp => csName gl sc vars x xp e
  | .Tuple ts _ _ => csTup gl sc vars ts e
  | .Subscript o i _ => (nameOf o).bind fun x => if okName x = true ∧ noLC e = true then (slotOf sc vars x).bind fun k => (cxE gl sc vars i).bind fun i => (cxE gl sc vars e).map fun e => .setI k i e else none
  | .Attribute o m _ => (nameOf o).bind fun x => if okName x = true ∧ noLC e = true then (slotOf sc vars x).bind fun k => (fldOf m).bind fun f => (cxE gl sc vars e).map fun e => .setA k f e else none
  | _ => none
noncomputable def isAdd : Operator → Bool
  | .Add => true
  | _ => false
noncomputable def csAug (t e : Expr) : Option PS := match t with
  | .Name x _ => if okName x = true then (slotOf sc vars x).bind fun k => (cxE gl sc vars e).map fun e => .augN k .add e else none
  | .Attribute o m _ => (nameOf o).bind fun x => if okName x = true then (slotOf sc vars x).bind fun k => (fldOf m).bind fun f => (cxE gl sc vars e).map fun e => .augA k f .add e else none
  | _ => none
noncomputable def csFor (t it : Expr) (b : PSs) : Option PS := match t with
  | .Name x _ => (slotOf sc vars x).bind fun i => (cxE gl sc vars it).map fun s => .for1 i s b
  | .Tuple ts _ _ => (namesOf sc vars ts).bind fun is => (two? is).bind fun p => match enOf gl sc it with
    | some e => (cxE gl sc vars e).map fun s => .forE p.1 p.2 s b
    | none => (cxE gl sc vars it).map fun s => .forT p.1 p.2 s b
  | _ => none
noncomputable def csF (css : List Stmt → Option PSs) (s : Stmt) : Option PS := match s with
  | .Expr e _ => csExpr gl sc vars e
  | .Assign ts e _ => (one? ts).bind fun t => csAsg gl sc vars t e
  | .AugAssign t o e _ => if isAdd o = true then csAug gl sc vars t e else none
  | .If t a b _ => (cxE gl sc vars t).bind fun t => (css a).bind fun a => (css b).map fun b => .ifs t a b
  | .For t it body orelse _ => if orelse.isEmpty = true then (css body).bind fun b => csFor gl sc vars t it b else none
  | .While t body orelse _ => if orelse.isEmpty = true then (cxE gl sc vars t).bind fun t => (css body).map fun b => .whl t b else none
  | .Return e _ => e.bind fun e => (cxE gl sc vars e).map .ret
  | .Try body hs orelse fin _ => if hs.isEmpty = false ∧ orelse.isEmpty = true ∧ fin.isEmpty = true then (css body).map .tryx else none
  | .Raise .. => some .fail
  | _ => none
noncomputable def cssM (cs : Stmt → Option PS) : List Stmt → Option PSs
  | [] => some .nil
  | s :: ss => (cs s).bind fun x => (cssM cs ss).map fun xs => .cons x xs
noncomputable def css : Nat → List Stmt → Option PSs
  | 0 => fun _ => none
  | n + 1 => cssM (csF gl sc vars (css n))
end

noncomputable def varsOf (args : List Str) (sc : Scp) : List Str := args ++ (sc.filterMap fun (x, k) => match k with
  | .local | .cell => if args.contains x then none else some x
  | _ => none)
noncomputable def cf (gl : List (Str × GR)) (args : List Str) (scope : Scope) (body : List Stmt) : Option PFun :=
  (css gl scope.names (varsOf args scope.names) 64 body).map fun b => ⟨args.length, (varsOf args scope.names).length, b⟩

noncomputable def tSizes : PV := .tup [.int 1, .int 2, .int 4, .int 8]
noncomputable def tNumbers : PV := .dcS [(Str.ofString "ping", .int 1), (Str.ofString "reset_stream", .int 4), (Str.ofString "stop_sending", .int 5), (Str.ofString "max_data", .int 16), (Str.ofString "max_stream_data", .int 17), (Str.ofString "data_blocked", .int 20), (Str.ofString "stream_data_blocked", .int 21), (Str.ofString "retire_connection_id", .int 25), (Str.ofString "handshake_done", .int 30)]
noncomputable def tPlain : PV := .dcI [(1, .tup [.str (Str.ofString "ping"), .int 0]), (4, .tup [.str (Str.ofString "reset_stream"), .int 3]), (5, .tup [.str (Str.ofString "stop_sending"), .int 2]), (16, .tup [.str (Str.ofString "max_data"), .int 1]), (17, .tup [.str (Str.ofString "max_stream_data"), .int 2]), (20, .tup [.str (Str.ofString "data_blocked"), .int 1]), (21, .tup [.str (Str.ofString "stream_data_blocked"), .int 2]), (25, .tup [.str (Str.ofString "retire_connection_id"), .int 1]), (30, .tup [.str (Str.ofString "handshake_done"), .int 0])]
noncomputable def tCount : PV := .dcI [(18, .tup [.str (Str.ofString "max_streams"), .bool false]), (19, .tup [.str (Str.ofString "max_streams"), .bool true]), (22, .tup [.str (Str.ofString "streams_blocked"), .bool false]), (23, .tup [.str (Str.ofString "streams_blocked"), .bool true])]
noncomputable def gl : List (Str × GR) := [
  (Str.ofString "INTERNAL_ERROR", .c (.int 1)),
  (Str.ofString "FRAME_ENCODING_ERROR", .c (.int 7)),
  (Str.ofString "PROTOCOL_VIOLATION", .c (.int 10)),
  (Str.ofString "PADDING", .c (.int 0)),
  (Str.ofString "PING", .c (.int 1)),
  (Str.ofString "ACK", .c (.int 2)),
  (Str.ofString "ACK_ECN", .c (.int 3)),
  (Str.ofString "RESET_STREAM", .c (.int 4)),
  (Str.ofString "STOP_SENDING", .c (.int 5)),
  (Str.ofString "CRYPTO", .c (.int 6)),
  (Str.ofString "NEW_TOKEN", .c (.int 7)),
  (Str.ofString "STREAM", .c (.int 8)),
  (Str.ofString "MAX_DATA", .c (.int 16)),
  (Str.ofString "MAX_STREAM_DATA", .c (.int 17)),
  (Str.ofString "MAX_STREAMS_BIDI", .c (.int 18)),
  (Str.ofString "MAX_STREAMS_UNI", .c (.int 19)),
  (Str.ofString "DATA_BLOCKED", .c (.int 20)),
  (Str.ofString "STREAM_DATA_BLOCKED", .c (.int 21)),
  (Str.ofString "STREAMS_BLOCKED_BIDI", .c (.int 22)),
  (Str.ofString "STREAMS_BLOCKED_UNI", .c (.int 23)),
  (Str.ofString "NEW_CONNECTION_ID", .c (.int 24)),
  (Str.ofString "RETIRE_CONNECTION_ID", .c (.int 25)),
  (Str.ofString "PATH_CHALLENGE", .c (.int 26)),
  (Str.ofString "PATH_RESPONSE", .c (.int 27)),
  (Str.ofString "CLOSE", .c (.int 28)),
  (Str.ofString "CLOSE_APPLICATION", .c (.int 29)),
  (Str.ofString "HANDSHAKE_DONE", .c (.int 30)),
  (Str.ofString "BIT_FIN", .c (.int 1)),
  (Str.ofString "BIT_LENGTH", .c (.int 2)),
  (Str.ofString "BIT_OFFSET", .c (.int 4)),
  (Str.ofString "GREATEST", .c (.int 4611686018427387903)),
  (Str.ofString "MOST_STREAMS", .c (.int 1152921504606846976)),
  (Str.ofString "CID_SIZE", .c (.int 20)),
  (Str.ofString "TOKEN_SIZE", .c (.int 16)),
  (Str.ofString "CHALLENGE_SIZE", .c (.int 8)),
  (Str.ofString "put_whole", .f 69),
  (Str.ofString "get_whole", .f 76),
  (Str.ofString "varint_size", .f 83),
  (Str.ofString "put_varint", .f 90),
  (Str.ofString "get_varint", .f 97),
  (Str.ofString "put_numbers", .f 103),
  (Str.ofString "put_counted", .f 110),
  (Str.ofString "ack_numbers", .f 117),
  (Str.ofString "put_ack", .f 124),
  (Str.ofString "put_stream", .f 131),
  (Str.ofString "put_new_cid", .f 138),
  (Str.ofString "put_close", .f 145),
  (Str.ofString "put_octets_frame", .f 152),
  (Str.ofString "put_frame", .f 159),
  (Str.ofString "put_frames", .f 164),
  (Str.ofString "frame_size", .f 171),
  (Str.ofString "stream_room", .f 178),
  (Str.ofString "crypto_room", .f 185),
  (Str.ofString "refuse_frame", .f 263),
  (Str.ofString "read_type", .f 270),
  (Str.ofString "read_counted", .f 277),
  (Str.ofString "read_ranges", .f 284),
  (Str.ofString "read_ack", .f 289),
  (Str.ofString "read_stream", .f 296),
  (Str.ofString "read_crypto", .f 303),
  (Str.ofString "read_new_cid", .f 310),
  (Str.ofString "read_close", .f 317),
  (Str.ofString "read_padding", .f 324),
  (Str.ofString "read_octets_frame", .f 331),
  (Str.ofString "read_body", .f 336),
  (Str.ofString "read_frame", .f 343),
  (Str.ofString "read_frames", .f 350),
  (Str.ofString "_law_take", .f 357),
  (Str.ofString "_law_number", .f 364),
  (Str.ofString "_law_octets", .f 369),
  (Str.ofString "_law_ranges", .f 376),
  (Str.ofString "_law_ack", .f 383),
  (Str.ofString "_law_frame", .f 390),
  (Str.ofString "_law_varint", .f 395),
  (Str.ofString "_law_row", .f 400),
  (Str.ofString "_law_told_ack", .f 407),
  (Str.ofString "_law_told", .f 414),
  (Str.ofString "_law_last_right", .f 421),
  (Str.ofString "law", .f 426),
  (Str.ofString "VARINT_SIZES", .c tSizes),
  (Str.ofString "NUMBER_FRAMES", .c tNumbers),
  (Str.ofString "PLAIN_FRAMES", .c tPlain),
  (Str.ofString "COUNT_FRAMES", .c tCount),
  (Str.ofString "Reader", .k),
  (Str.ofString "len", .b .len),
  (Str.ofString "range", .b .range),
  (Str.ofString "bytes", .b .bytes),
  (Str.ofString "tuple", .b .tuple),
  (Str.ofString "list", .b .list),
  (Str.ofString "max", .b .max),
  (Str.ofString "int", .b .int),
  (Str.ofString "bytearray", .ba),
  (Str.ofString "enumerate", .en)]
end Mine
end
section
namespace Mine
open PySem PySem.W PyProof.Rows PySem.Calls
open Sem (wp)

section
variable {M : Model} {A : Around} {s : Shared} {env : Env}

theorem c_BinOp {l op r pos} {Q : Value → Shared → Prop}
    (h : wpC M A (eval l env) (fun a s₁ => wpC M A (eval r env) (fun b s₂ => wpC M A (binaryOp op a b) Q s₂) s₁) s) : wpC M A (eval (.BinOp l op r pos) env) Q s := by
  rw [eval_BinOp]
  exact wpC_bind (wpC_mono h fun a s₁ h₁ => wpC_bind (wpC_holding (wpC_mono h₁ fun b s₂ h₂ => wpC_bind (wpC_standAt (wpC_operate h₂)))))

theorem c_Compare1 {l op r pos} {Q : Value → Shared → Prop} (hm : behindInMarks op r = false)
    (h : wpC M A (eval l env) (fun a s₁ => wpC M A (eval r env) (fun b s₂ => wpC M A (compareOp op a b) Q s₂) s₁) s) : wpC M A (eval (.Compare l [op] [r] pos) env) Q s := by
  rw [eval_Compare1, markedBehindIn_of_false hm]
  exact wpC_bind (wpC_mono h fun a s₁ h₁ => wpC_bind (wpC_holding (wpC_mono h₁ fun b s₂ h₂ => wpC_bind (wpC_standAt (wpC_operate h₂)))))
theorem c_isTrue_Compare1 {l op r pos whole} {Q : Bool → Shared → Prop} (hm : behindInMarks op r = false)
    (h : wpC M A (eval l env) (fun a s₁ => wpC M A (eval r env) (fun b s₂ => wpC M A (compareOp op a b) (fun c s₃ => wpC M A (truthy c) Q s₃) s₂) s₁) s) : wpC M A (isTrue (.Compare l [op] [r] pos) env whole) Q s := by
  rw [isTrue_Compare1, markedBehindIn_of_false hm]
  exact wpC_bind (wpC_mono h fun a s₁ h₁ => wpC_bind (wpC_holding (wpC_mono h₁ fun b s₂ h₂ => wpC_bind (wpC_standAt (wpC_bind (wpC_operate (wpC_mono h₂ fun c s₃ h₃ => wpC_holding h₃)))))))

theorem c_Compare2 {l o₁ o₂ r₁ r₂ pos} {Q : Value → Shared → Prop} (hm : behindInMarks o₂ r₂ = false)
    (h : wpC M A (eval l env) (fun a s₁ => wpC M A (eval r₁ env) (fun b s₂ => wpC M A (compareOp o₁ a b) (fun c s₃ => wpC M A (truthy c) (fun t s₄ =>
      if t then wpC M A (eval r₂ env) (fun d s₅ => wpC M A (compareOp o₂ b d) Q s₅) s₄ else Q c s₄) s₃) s₂) s₁) s) : wpC M A (eval (.Compare l [o₁, o₂] [r₁, r₂] pos) env) Q s := by
  have hl : lastMarks [o₁, o₂] [r₁, r₂] = false := hm
  show wpC M A (do compareChain pos (← eval l env) [o₁, o₂] (markedEach [o₁, o₂] [r₁, r₂] (evalEach [r₁, r₂] env))) Q s
  rw [markedEach_of_false _ _ _ hl]
  refine wpC_bind (wpC_mono h fun a s₁ h₁ => ?_)
  show wpC M A (do
    let rv ← holding [a] (eval r₁ env)
    standAt pos
    let c ← holding [a, rv] (compareOp o₁ a rv)
    release [a, rv] [c]
    if ← holding [c, rv] (truthy c) then (do
      let rv' ← holding [rv] (eval r₂ env)
      standAt pos
      operate [rv, rv'] (compareOp o₂ rv rv')) else pure c) Q s₁
  refine wpC_bind (wpC_holding (wpC_mono h₁ fun b s₂ h₂ => wpC_bind (wpC_standAt (wpC_bind (wpC_holding (wpC_mono h₂ fun c s₃ h₃ =>
    wpC_bind (wpC_release (wpC_bind (wpC_holding (wpC_mono h₃ fun t s₄ h₄ => ?_))))))))))
  cases t with
  | false => exact wpC_pure h₄
  | true => exact wpC_bind (wpC_holding (wpC_mono h₄ fun d s₅ h₅ => wpC_bind (wpC_standAt (wpC_operate h₅))))
theorem c_isTrue_Compare2 {l o₁ o₂ r₁ r₂ pos whole} {Q : Bool → Shared → Prop} (hm : behindInMarks o₂ r₂ = false)
    (h : wpC M A (eval l env) (fun a s₁ => wpC M A (eval r₁ env) (fun b s₂ => wpC M A (compareOp o₁ a b) (fun c s₃ => wpC M A (truthy c) (fun t s₄ =>
      if t then wpC M A (eval r₂ env) (fun d s₅ => wpC M A (compareOp o₂ b d) (fun c s₆ => wpC M A (truthy c) Q s₆) s₅) s₄ else Q false s₄) s₃) s₂) s₁) s) : wpC M A (isTrue (.Compare l [o₁, o₂] [r₁, r₂] pos) env whole) Q s := by
  have hl : lastMarks [o₁, o₂] [r₁, r₂] = false := hm
  show wpC M A (do testChain pos (← eval l env) [o₁, o₂] (markedEach [o₁, o₂] [r₁, r₂] (evalEach [r₁, r₂] env))) Q s
  rw [markedEach_of_false _ _ _ hl]
  refine wpC_bind (wpC_mono h fun a s₁ h₁ => ?_)
  show wpC M A (do
    let rv ← holding [a] (eval r₁ env)
    standAt pos
    let c ← holding [a, rv] (compareOp o₁ a rv)
    release [a, rv] [c]
    if ← holding [c, rv] (truthy c) then (do
      let rv' ← holding [rv] (eval r₂ env)
      standAt pos
      let c ← operate [rv, rv'] (compareOp o₂ rv rv')
      holding [c] (truthy c)) else pure false) Q s₁
  refine wpC_bind (wpC_holding (wpC_mono h₁ fun b s₂ h₂ => wpC_bind (wpC_standAt (wpC_bind (wpC_holding (wpC_mono h₂ fun c s₃ h₃ =>
    wpC_bind (wpC_release (wpC_bind (wpC_holding (wpC_mono h₃ fun t s₄ h₄ => ?_))))))))))
  cases t with
  | false => exact wpC_pure h₄
  | true => exact wpC_bind (wpC_holding (wpC_mono h₄ fun d s₅ h₅ => wpC_bind (wpC_standAt (wpC_bind (wpC_operate (wpC_mono h₅ fun c s₆ h₆ => wpC_holding h₆))))))

theorem c_and {a b pos} {Q : Value → Shared → Prop}
    (h : wpC M A (eval a env) (fun v s₁ => wpC M A (truthy v) (fun c s₂ => if c then wpC M A (eval b env) Q s₂ else Q v s₂) s₁) s) : wpC M A (eval (.BoolOp .And [a, b] pos) env) Q s := by
  show wpC M A (do
    let v ← eval a env
    standAt pos
    let c ← holding [v] (truthy v)
    match BoolOp.And, c with
    | .And, false | .Or, true => pure v
    | _, _ => eval b env) Q s
  refine wpC_bind (wpC_mono h fun v s₁ h₁ => wpC_bind (wpC_standAt (wpC_bind (wpC_holding (wpC_mono h₁ fun c s₂ h₂ => ?_)))))
  cases c with
  | false => exact wpC_pure h₂
  | true => exact h₂
theorem c_or {a b pos} {Q : Value → Shared → Prop}
    (h : wpC M A (eval a env) (fun v s₁ => wpC M A (truthy v) (fun c s₂ => if c then Q v s₂ else wpC M A (eval b env) Q s₂) s₁) s) : wpC M A (eval (.BoolOp .Or [a, b] pos) env) Q s := by
  show wpC M A (do
    let v ← eval a env
    standAt pos
    let c ← holding [v] (truthy v)
    match BoolOp.Or, c with
    | .And, false | .Or, true => pure v
    | _, _ => eval b env) Q s
  refine wpC_bind (wpC_mono h fun v s₁ h₁ => wpC_bind (wpC_standAt (wpC_bind (wpC_holding (wpC_mono h₁ fun c s₂ h₂ => ?_)))))
  cases c with
  | false => exact h₂
  | true => exact wpC_pure h₂
theorem c_isTrue_and {a b pos whole} {Q : Bool → Shared → Prop}
    (h : wpC M A (isTrue a env (eval a env)) (fun c s₂ => if c then wpC M A (isTrue b env (eval b env)) Q s₂ else Q false s₂) s) : wpC M A (isTrue (.BoolOp .And [a, b] pos) env whole) Q s := by
  show wpC M A (do
    match BoolOp.And, ← isTrue a env (eval a env) with
    | .And, false => pure false
    | .Or, true => pure true
    | _, _ => (do
      match BoolOp.And, ← isTrue b env (eval b env) with
      | .And, false => pure false
      | .Or, true => pure true
      | _, _ => pure true)) Q s
  refine wpC_bind (wpC_mono h fun c s₂ h₂ => ?_)
  cases c with
  | false => exact wpC_pure h₂
  | true => exact wpC_bind (wpC_mono h₂ fun c s₃ h₃ => by cases c <;> exact wpC_pure h₃)
theorem c_isTrue_or {a b pos whole} {Q : Bool → Shared → Prop}
    (h : wpC M A (isTrue a env (eval a env)) (fun c s₂ => if c then Q true s₂ else wpC M A (isTrue b env (eval b env)) Q s₂) s) : wpC M A (isTrue (.BoolOp .Or [a, b] pos) env whole) Q s := by
  show wpC M A (do
    match BoolOp.Or, ← isTrue a env (eval a env) with
    | .And, false => pure false
    | .Or, true => pure true
    | _, _ => (do
      match BoolOp.Or, ← isTrue b env (eval b env) with
      | .And, false => pure false
      | .Or, true => pure true
      | _, _ => pure false)) Q s
  refine wpC_bind (wpC_mono h fun c s₂ h₂ => ?_)
  cases c with
  | false => exact wpC_bind (wpC_mono h₂ fun c s₃ h₃ => by cases c <;> exact wpC_pure h₃)
  | true => exact wpC_pure h₂

theorem c_IfExp {t a b pos} {Q : Value → Shared → Prop}
    (h : wpC M A (isTrue t env (eval t env)) (fun c s₂ => if c then wpC M A (eval a env) Q s₂ else wpC M A (eval b env) Q s₂) s) : wpC M A (eval (.IfExp t a b pos) env) Q s := by
  rw [eval_IfExp]
  refine wpC_bind (wpC_mono h fun c s₂ h₂ => ?_)
  cases c <;> exact h₂
theorem c_isTrue_IfExp {t a b pos whole} {Q : Bool → Shared → Prop}
    (h : wpC M A (isTrue t env (eval t env)) (fun c s₂ => if c then wpC M A (isTrue a env (eval a env)) Q s₂ else wpC M A (isTrue b env (eval b env)) Q s₂) s) : wpC M A (isTrue (.IfExp t a b pos) env whole) Q s := by
  show wpC M A (do if ← isTrue t env (eval t env) then isTrue a env (eval a env) else isTrue b env (eval b env)) Q s
  refine wpC_bind (wpC_mono h fun c s₂ h₂ => ?_)
  cases c <;> exact h₂
set_option tactic.hygienic true in
theorem c_isTrue_plain {e : Expr} {whole : Sem Value} {Q : Bool → Shared → Prop} (hp : plainTest e = true) (h : wpC M A whole (fun v s₁ => wpC M A (truthy v) Q s₁) s) : wpC M A (isTrue e env whole) Q s := by
  have he : isTrue e env whole = (do let v ← whole; standAt e.pos; holding [v] (truthy v)) := by
    cases e <;> first | rfl | (cases hp; done) | (rename_i op _ _; cases op <;> first | rfl | (cases hp))
  rw [he]
  exact wpC_bind (wpC_mono h fun v s₁ h₁ => wpC_bind (wpC_standAt (wpC_holding h₁)))

theorem c_Subscript {value slice pos} {Q : Value → Shared → Prop}
    (h : wpC M A (eval value env) (fun o s₁ => wpC M A (eval slice env) (fun i s₂ => wpC M A (subscriptTail value slice o i) Q s₂) s₁) s) : wpC M A (eval (.Subscript value slice pos) env) Q s := by
  rw [PySem.eval_Subscript]
  exact wpC_bind (wpC_mono h fun o s₁ h₁ => wpC_bind (wpC_holding (wpC_mono h₁ fun i s₂ h₂ => wpC_bind (wpC_standAt h₂))))

theorem base_plain {o : Expr} (h : noCall o = true) (attr : Str) (t : Sem Value) : attributeBase o attr env t = t := by
  cases o <;> first | rfl | (cases h)

theorem c_Attribute {o attr pos} {Q : Value → Shared → Prop} (hb : noCall o = true)
    (h : wpC M A (eval o env) (fun v s₁ => wpC M A (getAttr v attr true) (fun r s₂ => wpC M A (letTemporaryGo o v r) (fun _ s₃ => Q r s₃) s₂) s₁) s) : wpC M A (eval (.Attribute o attr pos) env) Q s := by
  rw [arm_eval_Attribute, base_plain hb]
  exact wpC_bind (wpC_mono h fun v s₁ h₁ => wpC_bind (wpC_standAt (wpC_bind (wpC_holding (wpC_mono h₁ fun r s₂ h₂ => wpC_bind (wpC_mono h₂ fun _ s₃ h₃ => wpC_pure h₃))))))

theorem c_Tuple {elts k pos} {Q : Value → Shared → Prop} (h : wpC M A (spliced (backTo pos (starEach elts env))) (fun vs s₁ => wpC M A (newTuple vs) Q s₁) s) : wpC M A (eval (.Tuple elts k pos) env) Q s := by
  show wpC M A (do standAt pos; newTuple (← spliced (backTo pos (starEach elts env)))) Q s
  exact wpC_bind (wpC_standAt (wpC_bind h))
theorem c_List {elts pos} {Q : Value → Shared → Prop} (h : wpC M A (spliced (backTo pos (starEach elts env))) (fun vs s₁ => wpC M A (newList vs) Q s₁) s) : wpC M A (eval (.List elts pos) env) Q s := by
  show wpC M A (do standAt pos; newList (← spliced (backTo pos (starEach elts env)))) Q s
  exact wpC_bind (wpC_standAt (wpC_bind h))

theorem c_spliced_nil {pos : Pos} {Q : List Value → Shared → Prop} (h : Q [] s) : wpC M A (spliced (backTo pos (starEach [] env))) Q s := wpC_pure h
theorem starEach_cons {e : Expr} {rest : List Expr} (h : noStar e = true) : starEach (e :: rest) env = (false, eval e env) :: starEach rest env := by
  cases e <;> first | rfl | (cases h)
theorem c_spliced_cons {e : Expr} {rest : List Expr} {pos : Pos} {Q : List Value → Shared → Prop} (hs : noStar e = true)
    (h : wpC M A (eval e env) (fun v s₁ => wpC M A (spliced (backTo pos (starEach rest env))) (fun vs s₂ => Q (v :: vs) s₂) s₁) s) : wpC M A (spliced (backTo pos (starEach (e :: rest) env))) Q s := by
  rw [starEach_cons hs]
  show wpC M A (do
    let v ← eval e env
    let here ← pure [v]
    return here ++ (← holding here (spliced (backTo pos (starEach rest env))))) Q s
  exact wpC_bind (wpC_mono h fun v s₁ h₁ => wpC_bind (wpC_pure (wpC_bind (wpC_holding (wpC_mono h₁ fun vs s₂ h₂ => wpC_pure h₂)))))
theorem plain_trees {pos : Pos} : ∀ {es : List Expr}, (∀ e ∈ es, noStar e = true) → (backTo pos (starEach es env)).any (·.1) = false
  | [], _ => rfl
  | e :: es, h => by
    rw [starEach_cons (h e (.head _))]
    show (false || (backTo pos (starEach es env)).any (·.1)) = false
    rw [plain_trees fun e he => h e (.tail _ he)]; rfl

theorem c_evalArgs {f : Value} {trees : List (Bool × Sem Value)} {Q : Args → Shared → Prop} (hp : trees.any (·.1) = false)
    (h : wpC M A (spliced trees) (fun vs s₁ => Q ⟨vs, []⟩ s₁) s) : wpC M A (evalArgs f true trees []) Q s := by
  cases trees with
  | nil =>
    unfold evalArgs
    show wpC M A (spliced [] >>= _) Q s
    refine wpC_bind (wpC_mono h fun vs s₁ h₁ => wpC_bind (wpC_pure ?_))
    refine wpC_holding ?_
    exact wpC_bind (wpC_pure (wpC_bind (wpC_pure (wpC_pure h₁))))
  | cons t ts =>
    obtain ⟨b, t⟩ := t
    cases b with
    | true => simp at hp
    | false =>
      unfold evalArgs
      show wpC M A (spliced ((false, t) :: ts) >>= _) Q s
      refine wpC_bind (wpC_mono h fun vs s₁ h₁ => ?_)
      refine wpC_holding ?_
      exact wpC_bind (wpC_pure (wpC_bind (wpC_pure (wpC_pure h₁))))

theorem c_callWith {P : Heap → Prop} {pos : Pos} {f : Value} {first : List Value} {trees : List (Bool × Sem Value)} {Q : Value → Shared → Prop} (hp : trees.any (·.1) = false)
    (hk : ∀ h, P h → ∃ k, (k = Keeper.frame ∨ k = Keeper.machine ∨ k = Keeper.boundFrame) ∧ Looks M h (keeperOf f) k)
    (h : wpC M A (spliced trees) (fun vs s₁ => P s₁.heap ∧ wpC M A (call f (first ++ vs) []) Q s₁) s) : wpC M A (callWith pos f first trees []) Q s := by
  unfold callWith
  refine wpC_bind (wpC_holding (c_evalArgs hp (wpC_mono h fun vs s₁ h₁ => wpC_bind (wpC_standAt ?_))))
  obtain ⟨k, hk', L⟩ := hk _ h₁.1
  simp only [hp, List.any_nil, Bool.or_false]
  refine wpC_bindA (L.here ?_)
  have tail : ∀ {t : Sem Value}, wpC M A t Q s₁ → wpC M A (t >>= fun r => holding [r] point >>= fun _ => pure r) Q s₁ :=
    fun ht => wpC_bind (wpC_mono ht fun r s₂ hr => wpC_bind (wpC_holding (wpC_point (wpC_pure hr))))
  have marked (mk : Value) : wpC M A (callMarked mk f (first ++ vs) []) Q s₁ := by
    unfold callMarked
    exact fun Γ p hΓ h1 h2 => by rw [Sem.wp_keep]; exact h₁.2 Γ p hΓ h1 h2
  rcases hk' with rfl | rfl | rfl <;> dsimp only <;> first | exact tail h₁.2 | (split <;> first | exact tail h₁.2 | exact tail (marked _))

theorem c_Call_Name {x : Str} {p pos : Pos} {args : List Expr} {Q : Value → Shared → Prop}
    (h : wpC M A (eval (.Name x p) env) (fun f s₁ => wpC M A (callWith pos f [] (backTo pos (starEach args env)) []) Q s₁) s) : wpC M A (eval (.Call (.Name x p) args [] pos) env) Q s := by
  show wpC M A (do callWith pos (← eval (.Name x p) env) [] (backTo pos (starEach args env)) (backToKw pos (keywordEach [] env))) Q s
  exact wpC_bind h

/-! statements -/
theorem c_execs_nil {Q : Flow → Shared → Prop} (h : Q .next s) : wpC M A (execs [] env) Q s := wpC_pure h
theorem c_execs_cons {st rest} {Q : Flow → Shared → Prop}
    (h : wpC M A (exec st env) (fun f s' => match f with | .next => wpC M A (execs rest env) Q s' | f => Q f s') s) : wpC M A (execs (st :: rest) env) Q s := by
  rw [execs_cons]
  refine wpC_bind (wpC_mono h fun f s' h' => ?_)
  cases f <;> first | exact h' | exact wpC_pure h'
theorem c_If {test body orelse pos} {Q : Flow → Shared → Prop}
    (h : wpC M A (isTrue test env (eval test env)) (fun b s₂ => if b then wpC M A (execs body env) Q s₂ else wpC M A (execs orelse env) Q s₂) s) : wpC M A (exec (.If test body orelse pos) env) Q s := by
  rw [exec_If]
  refine wpC_bind (wpC_standAt (wpC_bind (wpC_mono h fun b s₂ h₂ => ?_)))
  cases b <;> exact h₂
theorem c_Return {e pos} {Q : Flow → Shared → Prop} (h : wpC M A (eval e env) (fun v => Q (.ret v)) s) : wpC M A (exec (.Return (some e) pos) env) Q s := by
  rw [exec_Return_some]
  exact wpC_bind (wpC_standAt (wpC_bind (wpC_mono h fun v s' h' => wpC_pure h')))

theorem c_Assign {targets : List Expr} {value : Expr} {pos : Pos} {Q : Flow → Shared → Prop} (hs : swapsWithSole targets value pos.line env = pure false)
    (h : wpC M A (eval value env) (fun v s₁ => wpC M A (swappedStores targets value env >>= fun sw => assignStores env v sw ((assignEach targets env).map (·.2))) Q s₁) s) : wpC M A (exec (.Assign targets value pos) env) Q s := by
  rw [PyProof.Rows.exec_Assign]
  refine wpC_bind (wpC_standAt ?_)
  rw [hs]
  refine wpC_bind (wpC_pure ?_)
  rw [if_neg (by decide)]
  exact wpC_bind (wpC_mono h fun v s₁ h₁ => h₁)

theorem c_AugAssign_Name {x pos' op value pos} {Q : Flow → Shared → Prop}
    (h : wpC M A (loadName env x) (fun old s₁ => wpC M A (eval value env) (fun v s₂ => wpC M A (inplaceOp op old v)
      (fun r s₃ => wpC M A (storeName env x r) (fun _ => Q .next) s₃) s₂) s₁) s) : wpC M A (exec (.AugAssign (.Name x pos') op value pos) env) Q s := by
  rw [exec_AugAssign_Name]
  exact wpC_bind (wpC_standAt (wpC_bind (wpC_mono h fun old s₁ h₁ => wpC_bind (wpC_holding (wpC_mono h₁ fun v s₂ h₂ => wpC_bind (wpC_standAt (wpC_bind (wpC_operate (wpC_mono h₂ fun r s₃ h₃ =>
    wpC_bind (wpC_standAt (wpC_bind (wpC_bindName (wpC_mono h₃ fun _ s₄ h₄ => wpC_pure h₄)))))))))))))
theorem c_AugAssign_Attr {o attr tpos op value pos} {Q : Flow → Shared → Prop}
    (h : wpC M A (eval o env) (fun ov s₁ => wpC M A (getAttr ov attr true) (fun old s₂ => wpC M A (eval value env) (fun v s₃ => wpC M A (inplaceOp op old v)
      (fun r s₄ => wpC M A (setAttr ov attr r) (fun _ => Q .next) s₄) s₃) s₂) s₁) s) : wpC M A (exec (.AugAssign (.Attribute o attr tpos) op value pos) env) Q s := by
  rw [arm_exec_AugAssign_2]
  refine wpC_bind (wpC_standAt (wpC_bind (wpC_mono h fun ov s₁ h₁ => ?_)))
  refine wpC_bind (wpC_holding (wpC_bind (wpC_standAt (wpC_bind (wpC_mono h₁ fun old s₂ h₂ => wpC_bind (wpC_holding (wpC_mono h₂ fun v s₃ h₃ => wpC_bind (wpC_standAt (wpC_operate (wpC_mono h₃ fun r s₄ h₄ => ?_))))))))))
  exact wpC_bind (wpC_standAt (wpC_bind (wpC_holding (wpC_mono h₄ fun _ s₅ h₅ => wpC_bind (wpC_release (wpC_pure h₅))))))

theorem c_assign_Name {x pos v} {Q : Unit → Shared → Prop} (h : wpC M A (storeName env x v) Q s) : wpC M A (assign (.Name x pos) env v) Q s := by
  show wpC M A (do standAt pos; bindName env x v) Q s
  exact wpC_bind (wpC_standAt (wpC_bindName h))
theorem c_assign_Attr {o attr pos v} {Q : Unit → Shared → Prop} (h : wpC M A (eval o env) (fun ov s₂ => wpC M A (setAttr ov attr v) Q s₂) s) : wpC M A (assign (.Attribute o attr pos) env v) Q s := by
  rw [assign_Attribute]
  exact wpC_bind (wpC_holding (wpC_mono h fun ov s₂ h₂ => wpC_bind (wpC_standAt (wpC_bind (wpC_holding (wpC_mono h₂ fun _ s₃ h₃ => wpC_release h₃))))))
theorem assign_Sub (o i : Expr) (pos : Pos) (v : Value) : assign (.Subscript o i pos) env v = (do
    let ov ← holding [v] (eval o env)
    let iv ← holding [v, ov] (eval i env)
    standAt pos
    holding [v, ov, iv] (setItem ov iv v)
    release (match i with | .Slice _ _ none _ => [iv, v, ov] | _ => [v, ov, iv]) []) := rfl
theorem c_assign_Sub {o i pos v} {Q : Unit → Shared → Prop} (h : wpC M A (eval o env) (fun ov s₁ => wpC M A (eval i env) (fun iv s₂ => wpC M A (setItem ov iv v) Q s₂) s₁) s) : wpC M A (assign (.Subscript o i pos) env v) Q s := by
  rw [assign_Sub]
  exact wpC_bind (wpC_holding (wpC_mono h fun ov s₁ h₁ => wpC_bind (wpC_holding (wpC_mono h₁ fun iv s₂ h₂ => wpC_bind (wpC_standAt (wpC_bind (wpC_holding (wpC_mono h₂ fun _ s₃ h₃ => wpC_release h₃))))))))

theorem c_runOwn {c : Code} {h : Option Value} {Q : Flow → Shared → Prop} (hc : codeC M (A.mark h) c Q s) (hnb : h ≠ some byPass := by intro x; cases x) : wpC M A (runOwn c env h) Q s := by
  unfold runOwn
  exact wpC_onRaise (wpC_run hc hnb)
theorem c_While {test body orelse pos} {Q : Flow → Shared → Prop} (h : codeC M A (.whileLoop test body orelse env) Q s) : wpC M A (exec (.While test body orelse pos) env) Q s := by
  rw [exec_While]; exact wpC_bind (wpC_standAt (c_runOwn h))
theorem folded_plain {e : Expr} (h : noSet e = true) (x : Value) : foldedSetIterable e env x = pure x := by
  cases e <;> first | rfl | (cases h)
theorem c_For {target iter body orelse pos} {Q : Flow → Shared → Prop} (hs : noSet iter = true)
    (h : wpC M A (eval iter env) (fun x s₁ => wpC M A (pyIter x) (fun it s₂ => codeC M A (.forLoop target it body orelse env) Q s₂) s₁) s) : wpC M A (exec (.For target iter body orelse pos) env) Q s := by
  rw [exec_For]
  refine wpC_bind (wpC_standAt (wpC_bind (wpC_mono h fun x s₁ h₁ => ?_)))
  rw [folded_plain hs]
  exact wpC_bind (wpC_pure (wpC_bind (wpC_standAt (wpC_bind (wpC_holding (wpC_mono h₁ fun it s₂ h₂ => c_runOwn h₂))))))
theorem c_tryx {body : Sem Flow} {h₀ : ExceptHandler} {hs : List ExceptHandler} {Q : Flow → Shared → Prop} (h : wpC M A body (fun f s₁ => Q f s₁) s) :
    wpC M A (tryStmt false body (h₀ :: hs) (pure .next) [] env) Q s := by
  unfold tryStmt
  simp only [List.isEmpty_nil, if_true, List.isEmpty_cons, Bool.false_and, Bool.false_eq_true, if_false]
  refine wpC_bind (wpC_attempt (wpC_mono h fun f s₁ h₁ => ?_))
  cases f <;> exact wpC_pure h₁
end

section
variable {prog : Program} {w : World} {A : Around} {s : Shared} {R : Flow → Shared → Prop}

theorem codeC_whileLoop {test body orelse env} (I : Nat → Shared → Prop)
    (turn : ∀ n s, I n s →
      wpC (model prog w) A (isTrue test env (eval test env)) (fun b s₂ =>
        if b then wpC (model prog w) A (execs body env) (fun f s₃ => match f with
            | .next | .cont => ∃ m, m < n ∧ I m s₃
            | .brk => R .next s₃
            | .ret v => R (.ret v) s₃) s₂
        else wpC (model prog w) A (execs orelse env) (fun f s₃ => R f s₃) s₂) s)
    (n : Nat) (h : I n s) : codeC (model prog w) A (.whileLoop test body orelse env) R s := by
  refine codeC_loop rfl I (fun n s hI => ?_) n h
  show wpC _ A ((whileTurn test body orelse env).onRaise (fun x => do noteFrame x env; theTreesLotGoes x)) _ s
  refine wpC_onRaise ?_
  simp only [whileTurn]
  refine wpC_bind (wpC_mono (turn n s hI) fun b s₂ h₂ => ?_)
  cases b with
  | false =>
    simp only [Bool.false_eq_true, if_false] at h₂ ⊢
    exact wpC_bind (wpC_mono h₂ fun f s₃ h₃ => wpC_pure h₃)
  | true =>
    simp only [if_true] at h₂ ⊢
    refine wpC_bind (wpC_mono h₂ fun f s₃ h₃ => ?_)
    cases f with
    | next => exact wpC_pure ⟨rfl, h₃⟩
    | cont => exact wpC_pure ⟨rfl, h₃⟩
    | brk => exact wpC_pure h₃
    | ret v => exact wpC_pure h₃

theorem codeC_func {body env} (h : wpC (model prog w) (A.deeper env) (execs body env) (fun f s' => R (.ret (match f with | .ret v => v | _ => .none)) s') s) :
    codeC (model prog w) A (.func body env) R s := by
  refine codeC_of_tree ?_
  show wpC _ (A.deeper env) (do point; match ← (execs body env).onRaise (leaving env) with | .ret v => ret v | _ => ret .none) _ s
  refine wpC_bind (wpC_point (wpC_bind (wpC_onRaise (wpC_mono h fun f s' h' => ?_))))
  cases f <;> exact wpC_pure h'

theorem codeC_block {stmts env} (h : wpC (model prog w) A (execs stmts env) R s) : codeC (model prog w) A (.block stmts env) R s := by
  refine codeC_of_tree ?_
  show wpC _ A (do return Fin.done (← (execs stmts env).onRaise _)) _ s
  exact wpC_bind (wpC_onRaise (wpC_mono h fun f s' h' => wpC_pure h'))
end
end Mine
end
section
namespace Mine
open PySem PySem.W PyProof.Rows PySem.Calls
open Sem (wp)

section
variable {M : Model} {A : Around} {s : Shared} {env : Env}

noncomputable def compPostC (M : Model) (A : Around) (use : Option (Value → Sem Unit)) (Q : Value → Shared → Prop) (acc : Value) (C : Addr) (s' : Shared) : Prop :=
  match use with
  | none => ∃ m, s'.heap.Ns C m ∧ ∀ h', Heap.SameBut C s'.heap h' → Q acc { s' with heap := h' }
  | some u => wpC M A (u acc) (fun _ s'' => ∃ m, s''.heap.Ns C m ∧ ∀ h', Heap.SameBut C s''.heap h' → Q .none { s'' with heap := h' }) s'

theorem wpC_standIf {c : Bool} {pos : Pos} {α : Type} {k : Unit → Sem α} {Q : α → Shared → Prop} (h : wpC M A (k ()) Q s) : wpC M A (if c then (standAt pos >>= k) else k ()) Q s := by
  cases c with
  | false => exact h
  | true => exact wpC_bind (wpC_standAt h)

theorem c_comprehension {e : Expr} {scope : Scope} {pos : Pos} {newAcc first : Sem Value} {g : Comprehension} {gs : List Comprehension} {cl : List (Str × Addr)} {use : Option (Value → Sem Unit)} {Q : Value → Shared → Prop}
    (hcl : clausesOf e = g :: gs) (hs : ∀ x, foldedSetIterable g.iter env x = pure x) (hclos : closureFor scope env = pure cl)
    (hkind : scope.kind = .function) (hnames : ∀ x ∈ scope.names, x.2 = .local → scope.names.lookup x.1 = some .local)
    (h : wpC M A first (fun x s₁ => wpC M A (pyIter x) (fun it s₂ => wpC M A newAcc (fun acc s₃ =>
      wpC M A (newFunctionEnv scope env.globals cl [] env.qual none .none (some env)) (fun cenv s₄ =>
        codeC M A (.compStart e 0 it acc { cenv with scope := relabel scope env }) (fun _ s' => compPostC M A use Q acc cenv.locals s') s₄) s₃) s₂) s₁) s) :
    wpC M A (comprehension e scope env pos newAcc false first use) Q s := by
  unfold comprehension
  rw [hclos, hcl]
  refine wpC_bind (wpC_mono h fun x s₁ h₁ => wpC_bind (wpC_standAt (wpC_bind ?_)))
  show wpC M A (foldedSetIterable g.iter env x) _ _
  rw [hs x]
  refine wpC_pure (wpC_bind (wpC_holding (wpC_mono h₁ fun it s₂ h₂ => ?_)))
  refine wpC_standIf (wpC_bind (wpC_mono h₂ fun acc s₃ h₃ => wpC_bind (wpC_pure (wpC_bind (wpC_mono h₃ fun cenv s₄ h₄ => ?_)))))
  dsimp only
  have hv : ∀ x ∈ (scope.names.filter fun x => (x.2 == .local || x.2 == .cell) && x.1 != (".0" : Str)).reverse, x.2 = .local →
      Env.kindOf { cenv with scope := relabel scope env } x.1 = some .local := fun x hx hl => lookup_relabel_local (hnames x (List.mem_filter.mp (List.mem_reverse.mp hx)).1 hl)
  have hv' : ∀ x ∈ (scope.names.filter fun x => (x.2 == .local || x.2 == .cell) && x.1 != (".0" : Str)).reverse.drop 1 ++ (scope.names.filter fun x => (x.2 == .local || x.2 == .cell) && x.1 != (".0" : Str)).reverse.take 1,
      x.2 = .local → Env.kindOf { cenv with scope := relabel scope env } x.1 = some .local := fun x hx hl => by
    rcases List.mem_append.mp hx with h1 | h1
    · exact hv x (List.mem_of_mem_drop h1) hl
    · exact hv x (List.mem_of_mem_take h1) hl
  refine wpC_holding (wpC_bind (wpC_attempt (wpC_holding (wpC_run (codeC_mono h₄ fun f s' hr => ?_)))))
  cases use with
  | none =>
    obtain ⟨m, hn, hr⟩ := hr
    exact wpC_bind (wpC_holding (wpC_of (wpAny_comp_letGo (cenv := { cenv with scope := relabel scope env }) hkind _ s' m hv hn fun h' m' _ hs' => wpC_pure (hr h' hs'))))
  | some u =>
    refine wpC_bind (wpC_rule (wpC_bind (wpC_holding (wpC_mono hr fun _ s'' hr' => ?_))))
    obtain ⟨m, hn, hr'⟩ := hr'
    exact wpC_bindA (wpAny_comp_letGo (cenv := { cenv with scope := relabel scope env }) hkind _ s'' m hv' hn fun h' m' _ hs' => wpC_pure (hr' h' hs'))

theorem c_ListComp {elt iter : Expr} {x : Str} {px : Pos} {scope : Scope} {cl : List (Str × Addr)} {pos : Pos} {Q : Value → Shared → Prop} (hs : noSet iter = true)
    (hclos : closureFor scope env = pure cl) (hkind : scope.kind = .function) (hnames : ∀ y ∈ scope.names, y.2 = .local → scope.names.lookup y.1 = some .local)
    (h : wpC M A (eval iter env) (fun x₁ s₁ => wpC M A (pyIter x₁) (fun it s₂ => wpC M A (newList []) (fun acc s₃ =>
      wpC M A (newFunctionEnv scope env.globals cl [] env.qual none .none (some env)) (fun cenv s₄ =>
        codeC M A (.compStart (.ListComp elt [⟨.Name x px, iter, [], 0⟩] scope pos) 0 it acc { cenv with scope := relabel scope env }) (fun _ s' => compPostC M A none Q acc cenv.locals s') s₄) s₃) s₂) s₁) s) :
    wpC M A (eval (.ListComp elt [⟨.Name x px, iter, [], 0⟩] scope pos) env) Q s := by
  rw [eval_ListComp]
  exact c_comprehension (use := none) rfl (folded_plain hs) hclos hkind hnames h
theorem c_Assign_ListComp {elt iter : Expr} {x y : Str} {px py : Pos} {scope : Scope} {cl : List (Str × Addr)} {pos spos : Pos} {Q : Flow → Shared → Prop} (hs : noSet iter = true)
    (hsw : swapsWith (.ListComp elt [⟨.Name x px, iter, [], 0⟩] scope pos) (some (.Name y py)) spos.line env = pure true)
    (hclos : closureFor scope env = pure cl) (hkind : scope.kind = .function) (hnames : ∀ y ∈ scope.names, y.2 = .local → scope.names.lookup y.1 = some .local)
    (h : wpC M A (eval iter env) (fun x₁ s₁ => wpC M A (pyIter x₁) (fun it s₂ => wpC M A (newList []) (fun acc s₃ =>
      wpC M A (newFunctionEnv scope env.globals cl [] env.qual none .none (some env)) (fun cenv s₄ =>
        codeC M A (.compStart (.ListComp elt [⟨.Name x px, iter, [], 0⟩] scope pos) 0 it acc { cenv with scope := relabel scope env }) (fun _ s' => compPostC M A (some (assign (.Name y py) env)) (fun _ => Q .next) acc cenv.locals s') s₄) s₃) s₂) s₁) s) :
    wpC M A (exec (.Assign [.Name y py] (.ListComp elt [⟨.Name x px, iter, [], 0⟩] scope pos) spos) env) Q s := by
  rw [exec_Assign_Name_used _ _ _ _ hsw]
  refine wpC_bind (wpC_standAt (wpC_bind ?_))
  show wpC M A (do let _ ← comprehension (.ListComp elt [⟨.Name x px, iter, [], 0⟩] scope pos) scope env _ (newList []) false (eval iter env) (some (assign (.Name y py) env))) _ s
  refine wpC_bind (wpC_mono (c_comprehension (use := some (assign (.Name y py) env)) (Q := fun _ s' => Q .next s') rfl (folded_plain hs) hclos hkind hnames h) fun _ s' hq => wpC_pure (wpC_pure hq))
end

section
variable {prog : Program} {w : World} {A : Around} {s : Shared} {R : Flow → Shared → Prop}

theorem codeC_forLoop {target it body env} (len : Nat) (I : Nat → Shared → Prop)
    (turn : ∀ i s, i ≤ len → I i s → wpAny (model prog w) A (pyNext it) (fun r s₁ => match r with
      | none => R .next s₁
      | some v => wpC (model prog w) A (letOwnedTupleGo target it v) (fun _ s₁' =>
          wpC (model prog w) A (assign target env v) (fun _ s₂ => wpC (model prog w) A (execs body env) (fun f s₃ => match f with
            | .next | .cont => i < len ∧ I (i + 1) s₃
            | .brk => R .next s₃
            | .ret v => R (.ret v) s₃) s₂) s₁') s₁) (fun _ _ => False) s)
    (i : Nat) (hi : i ≤ len) (h : I i s) : codeC (model prog w) A (.forLoop target it body [] env) R s := by
  obtain ⟨n, hn⟩ : ∃ n, n = len - i := ⟨_, rfl⟩
  induction n using Nat.strongRecOn generalizing i s with
  | ind n ih =>
    have ih' : ∀ s', i < len ∧ I (i + 1) s' → codeC (model prog w) A (.forLoop target it body [] env) R s' := fun s' h => ih _ (hn ▸ Nat.sub_lt_sub_left h.1 (Nat.lt_succ_self i)) (i + 1) h.1 h.2 rfl
    clear ih
    refine codeC_of_tree ?_
    show wpC _ A ((forTurn target it body [] env).onRaise (fun x => do noteFrame x env; theTreesLotGoes x)) _ s
    refine wpC_onRaise ?_
    simp only [forTurn]
    refine wpC_bind (wpC_standAt (wpC_bind (wpC_onRaise (wpC_mono (wpC_of (turn i s hi h)) fun r s₁ h₁ => ?_))))
    cases r with
    | none => exact wpC_pure ⟨rfl, codeC_block (c_execs_nil h₁)⟩
    | some v =>
      refine wpC_bind (wpC_mono h₁ fun _ s₁' h₁' => wpC_bind (wpC_mono h₁' fun _ s₂ h₂ => wpC_bind (wpC_mono h₂ fun f s₃ h₃ => ?_)))
      cases f with
      | next => exact wpC_pure ⟨rfl, ih' _ h₃⟩
      | cont => exact wpC_pure ⟨rfl, ih' _ h₃⟩
      | brk => exact wpC_pure h₃
      | ret v => exact wpC_pure h₃

theorem codeC_compLoop {elt iter : Expr} {x : Str} {px : Pos} {scope : Scope} {pos : Pos} {it acc : Value} {env : Env} (len : Nat) (I : Nat → Shared → Prop)
    (turn : ∀ i s, i ≤ len → I i s → wpAny (model prog w) A (pyNext it) (fun r s₁ => match r with
      | none => R .next s₁
      | some v => wpC (model prog w) A (storeName env x v) (fun _ s₂ => wpC (model prog w) A (eval elt env) (fun y s₃ =>
          wpC (model prog w) A (PySem.call (.builtin "list.append") [acc, y]) (fun _ s₄ => i < len ∧ I (i + 1) s₄) s₃) s₂) s₁) (fun _ _ => False) s)
    (i : Nat) (hi : i ≤ len) (h : I i s) : codeC (model prog w) A (.compLoop (.ListComp elt [⟨.Name x px, iter, [], 0⟩] scope pos) 0 it acc env) R s := by
  refine codeC_loop rfl (fun n s => ∃ i, i ≤ len ∧ n = len - i ∧ I i s) (fun n s hI => ?_) (len - i) ⟨i, hi, rfl, h⟩
  obtain ⟨i, hi, rfl, hI⟩ := hI
  show wpC _ A ((compTurn (.ListComp elt [⟨.Name x px, iter, [], 0⟩] scope pos) 0 it acc env).onRaise (fun x => do noteFrame x env; theTreesLotGoes x)) _ s
  refine wpC_onRaise ?_
  rw [compTurn_list1]
  refine wpC_bind (wpC_standAt (wpC_bind (wpC_mono (wpC_of (turn i s hi hI)) fun r s₁ h₁ => ?_)))
  cases r with
  | none => exact wpC_pure h₁
  | some v =>
    refine wpC_bind (wpC_pure (wpC_bind (c_assign_Name (wpC_mono h₁ fun _ s₂ h₂ => ?_))))
    exact wpC_bind (wpC_bind (wpC_mono h₂ fun y s₃ h₃ => wpC_bind (wpC_mono h₃ fun _ s₄ h₄ => wpC_pure (wpC_pure ⟨rfl, _, Nat.sub_lt_sub_left h₄.1 (Nat.lt_succ_self i), _, h₄.1, rfl, h₄.2⟩))))

theorem codeC_compStart {elt target iter scope pos it acc env}
    (h0 : codeC (model prog w) A (.compLoop (.ListComp elt [⟨target, iter, [], 0⟩] scope pos) 0 it acc env) R s)
    (h : wpAny (model prog w) A (pyIter it) (fun it' s' => codeC (model prog w) A (.compLoop (.ListComp elt [⟨target, iter, [], 0⟩] scope pos) 0 it' acc env) R s') (fun _ _ => False) s) :
    codeC (model prog w) A (.compStart (.ListComp elt [⟨target, iter, [], 0⟩] scope pos) 0 it acc env) R s := by
  refine codeC_of_tree ?_
  show wpC _ _ ((compStart (.ListComp elt [⟨target, iter, [], 0⟩] scope pos) 0 it acc env).onRaise (fun x => do noteFrame x env; standAt theWindowsPlace)) _ s
  refine wpC_onRaise ?_
  unfold compStart
  show wpC _ _ (ask >>= _) _ s
  refine wpC_bindA (wpAny_askSetting ?_)
  split
  · first
      | exact wpC_bind (wpC_pure (wpC_pure (And.intro rfl h0)))
      | exact wpC_pure (And.intro rfl h0)
  · first
      | exact wpC_bind (wpC_rule (wpC_bind (wpC_standAt (wpC_bind (wpC_mono (wpC_of h) fun it' s' h' => wpC_pure (And.intro rfl h'))))))
      | (refine wpC_bind (wpC_rule ?_); show wpC _ _ (standAt iter.pos >>= _) _ s; exact wpC_bind (wpC_standAt (wpC_bind (wpC_mono (wpC_of h) fun it' s' h' => wpC_pure (And.intro rfl h')))))
end
end Mine
end
section
namespace Mine
open PySem PySem.W PyProof.Rows PySem.Spec PySem.Calls

noncomputable abbrev Led := List (Addr × Obj)

noncomputable def IsO (b₀ : Heap) (T : Led) (a : Addr) (o : Obj) : Prop := (a, o) ∈ T ∨ b₀.get? a = some o

noncomputable abbrev rangeObj (a b c : Int) (t u v : Tok) : Obj := { cls := .type "range", dict := none, data := .fields #[.int a t, .int b u, .int c v], slots := #[] }

mutual
inductive Rv (w : World) (b₀ : Heap) (T : Led) (φ : List Addr) : Value → PV → Prop
  | none : Rv w b₀ T φ .none .none
  | bool (b : Bool) : Rv w b₀ T φ (.bool b) (.bool b)
  | int (i : Int) (t : Tok) : Rv w b₀ T φ (.int i t) (.int i)
  | str (x : Str) (t : Tok) : Rv w b₀ T φ (.str x t) (.str x)
  | byt (b : List UInt8) (t : Tok) : Rv w b₀ T φ (.bytes b.toArray t) (.byt b)
  | tup {a : Addr} {o : Obj} {vs : List Value} {n : Nat} {ds : List PV} : IsO b₀ T a o → (o.cls = .type "tuple" ∧ o.dict = none) → o.data = .seq vs.toArray n → Rvs w b₀ T φ vs ds → Rv w b₀ T φ (.ref a) (.tup ds)
  | lst {a : Addr} {o : Obj} {vs : List Value} {n : Nat} {ds : List PV} : IsO b₀ T a o → o.cls = .type "list" → o.data = .seq vs.toArray n → Rvs w b₀ T φ vs ds → Rv w b₀ T φ (.ref a) (.lst ds)
  | bar {a : Addr} {b : List UInt8} : IsO b₀ T a { cls := .type "bytearray", data := .bytearray b.toArray } → Rv w b₀ T φ (.ref a) (.bar b)
  | rng {r : Addr} {a b c : Int} {t u v : Tok} : IsO b₀ T r (rangeObj a b c t u v) → Rv w b₀ T φ (.ref r) (.rng a b c)
  | dcI {a : Addr} {es : List DictEntry} {n : Nat} {ds : List (Int × PV)} : IsO b₀ T a (dictOf es n) → (a == sysModules) = false → ReI w b₀ T φ es ds → Rv w b₀ T φ (.ref a) (.dcI ds)
  | dcS {a : Addr} {es : List DictEntry} {n : Nat} {ds : List (Str × PV)} : IsO b₀ T a (dictOf es n) → (a == sysModules) = false → ReS w b₀ T φ es ds → Rv w b₀ T φ (.ref a) (.dcS ds)
  | loc {k : Nat} {a : Addr} : φ[k]? = some a → Rv w b₀ T φ (.ref a) (.loc k)
inductive Rvs (w : World) (b₀ : Heap) (T : Led) (φ : List Addr) : List Value → List PV → Prop
  | nil : Rvs w b₀ T φ [] []
  | cons {v : Value} {vs : List Value} {d : PV} {ds : List PV} : Rv w b₀ T φ v d → Rvs w b₀ T φ vs ds → Rvs w b₀ T φ (v :: vs) (d :: ds)
inductive ReI (w : World) (b₀ : Heap) (T : Led) (φ : List Addr) : List DictEntry → List (Int × PV) → Prop
  | nil : ReI w b₀ T φ [] []
  | cons {h : Int} {k : Int} {t : Tok} {v : Value} {d : PV} {es : List DictEntry} {ds : List (Int × PV)} : h = hashInt k → Rv w b₀ T φ v d → ReI w b₀ T φ es ds → ReI w b₀ T φ (⟨h, .int k t, v⟩ :: es) ((k, d) :: ds)
inductive ReS (w : World) (b₀ : Heap) (T : Led) (φ : List Addr) : List DictEntry → List (Str × PV) → Prop
  | nil : ReS w b₀ T φ [] []
  | cons {h : Int} {k : Str} {t : Tok} {v : Value} {d : PV} {es : List DictEntry} {ds : List (Str × PV)} : h = hashStr w k → Rv w b₀ T φ v d → ReS w b₀ T φ es ds → ReS w b₀ T φ (⟨h, .str k t, v⟩ :: es) ((k, d) :: ds)
end

inductive SeqV (w : World) (b₀ : Heap) (T : Led) (φ : List Addr) (C : Obj → Prop) (v : Value) (ds : List PV) : Prop
  | mk (a : Addr) (o : Obj) (vs : List Value) (n : Nat) (e : v = .ref a) (i : IsO b₀ T a o) (c : C o) (d : o.data = .seq vs.toArray n) (r : Rvs w b₀ T φ vs ds) : SeqV w b₀ T φ C v ds
noncomputable abbrev tupC (o : Obj) : Prop := o.cls = .type "tuple" ∧ o.dict = none
noncomputable abbrev lstC (o : Obj) : Prop := o.cls = .type "list"
inductive RngV (b₀ : Heap) (T : Led) (v : Value) (a b c : Int) : Prop
  | mk (r : Addr) (t u x : Tok) (e : v = .ref r) (i : IsO b₀ T r (rangeObj a b c t u x)) : RngV b₀ T v a b c
inductive DctV (b₀ : Heap) (T : Led) (v : Value) (R : List DictEntry → Prop) : Prop
  | mk (a : Addr) (es : List DictEntry) (n : Nat) (e : v = .ref a) (i : IsO b₀ T a (dictOf es n)) (s : (a == sysModules) = false) (r : R es) : DctV b₀ T v R
inductive RefV (v : Value) (P : Addr → Prop) : Prop
  | mk (a : Addr) (e : v = .ref a) (p : P a) : RefV v P
noncomputable def RvM (w : World) (b₀ : Heap) (T : Led) (φ : List Addr) (v : Value) : PV → Prop
  | .none => v = .none
  | .bool b => v = .bool b
  | .int i => ∃ t, v = .int i t
  | .str x => ∃ t, v = .str x t
  | .byt b => ∃ t, v = .bytes b.toArray t
  | .tup ds => SeqV w b₀ T φ tupC v ds
  | .lst ds => SeqV w b₀ T φ lstC v ds
  | .bar b => RefV v fun a => IsO b₀ T a { cls := .type "bytearray", data := .bytearray b.toArray }
  | .rng a b c => RngV b₀ T v a b c
  | .dcI ds => DctV b₀ T v fun es => ReI w b₀ T φ es ds
  | .dcS ds => DctV b₀ T v fun es => ReS w b₀ T φ es ds
  | .loc k => RefV v fun a => φ[k]? = some a
theorem Rv.inv {w : World} {b₀ : Heap} {T : Led} {φ : List Addr} {v : Value} {d : PV} (h : Rv w b₀ T φ v d) : RvM w b₀ T φ v d := by
  cases h with
  | none => rfl
  | bool b => rfl
  | int i t => exact ⟨t, rfl⟩
  | str i t => exact ⟨t, rfl⟩
  | byt i t => exact ⟨t, rfl⟩
  | tup a b c d => exact ⟨_, _, _, _, rfl, a, b, c, d⟩
  | lst a b c d => exact ⟨_, _, _, _, rfl, a, b, c, d⟩
  | bar a => exact ⟨_, rfl, a⟩
  | rng a => exact ⟨_, _, _, _, rfl, a⟩
  | dcI a b c => exact ⟨_, _, _, rfl, a, b, c⟩
  | dcS a b c => exact ⟨_, _, _, rfl, a, b, c⟩
  | loc a => exact ⟨_, rfl, a⟩

theorem Rvs.unc {w : World} {b₀ : Heap} {T : Led} {φ : List Addr} {v : Value} {vs : List Value} {d : PV} {ds : List PV} (h : Rvs w b₀ T φ (v :: vs) (d :: ds)) : Rv w b₀ T φ v d ∧ Rvs w b₀ T φ vs ds := by
  cases h with | cons h r => exact ⟨h, r⟩

section
variable {w : World} {b₀ : Heap} {T : Led} {φ : List Addr} {v : Value} {d : PV}
theorem rvI {x : Int} (h : asI d = some x) (r : Rv w b₀ T φ v d) : Rv w b₀ T φ v (.int x) := asI_eq h ▸ r
theorem rvO {x : Bool} (h : asO d = some x) (r : Rv w b₀ T φ v d) : Rv w b₀ T φ v (.bool x) := asO_eq h ▸ r
theorem rvS {x : Str} (h : asS d = some x) (r : Rv w b₀ T φ v d) : Rv w b₀ T φ v (.str x) := asS_eq h ▸ r
theorem rvB {x : List UInt8} (h : asB d = some x) (r : Rv w b₀ T φ v d) : Rv w b₀ T φ v (.byt x) := asB_eq h ▸ r
theorem rvT {x : List PV} (h : asT d = some x) (r : Rv w b₀ T φ v d) : Rv w b₀ T φ v (.tup x) := asT_eq h ▸ r
theorem rvL {x : List PV} (h : asL d = some x) (r : Rv w b₀ T φ v d) : Rv w b₀ T φ v (.lst x) := asL_eq h ▸ r
theorem rvC {x : Nat} (h : asC d = some x) (r : Rv w b₀ T φ v d) : Rv w b₀ T φ v (.loc x) := asC_eq h ▸ r
end

theorem IsO.mono {b₀ : Heap} {T T' : Led} {a : Addr} {o : Obj} (h : IsO b₀ T a o) (hs : ∀ p ∈ T, p ∈ T') : IsO b₀ T' a o := h.imp (hs _) id

theorem pre_get {φ φ' : List Addr} (hp : φ <+: φ') {k : Nat} {a : Addr} (h : φ[k]? = some a) : φ'[k]? = some a := by
  obtain ⟨r, rfl⟩ := hp
  rw [List.getElem?_append_left (List.getElem?_eq_some_iff.mp h).1]; exact h
section
variable {w : World} {b₀ : Heap} {T T' : Led} {φ φ' : List Addr}
theorem Rv.mono (hs : ∀ p ∈ T, p ∈ T') (hp : φ <+: φ') {v : Value} {d : PV} (h : Rv w b₀ T φ v d) : Rv w b₀ T' φ' v d :=
  Rv.rec (motive_1 := fun v d _ => Rv w b₀ T' φ' v d) (motive_2 := fun vs ds _ => Rvs w b₀ T' φ' vs ds) (motive_3 := fun es ds _ => ReI w b₀ T' φ' es ds) (motive_4 := fun es ds _ => ReS w b₀ T' φ' es ds)
    .none (fun b => .bool b) (fun i t => .int i t) (fun x t => .str x t) (fun b t => .byt b t) (fun h c e _ r => .tup (h.mono hs) c e r) (fun h c e _ r => .lst (h.mono hs) c e r) (fun h => .bar (h.mono hs)) (fun h => .rng (h.mono hs))
    (fun h l _ r => .dcI (h.mono hs) l r) (fun h l _ r => .dcS (h.mono hs) l r) (fun h => .loc (pre_get hp h)) .nil (fun _ _ h r => .cons h r) .nil (fun e _ _ h r => .cons e h r) .nil (fun e _ _ h r => .cons e h r) h
theorem Rvs.mono (hs : ∀ p ∈ T, p ∈ T') (hp : φ <+: φ') {v : List Value} {d : List PV} (h : Rvs w b₀ T φ v d) : Rvs w b₀ T' φ' v d :=
  Rvs.rec (motive_1 := fun v d _ => Rv w b₀ T' φ' v d) (motive_2 := fun vs ds _ => Rvs w b₀ T' φ' vs ds) (motive_3 := fun es ds _ => ReI w b₀ T' φ' es ds) (motive_4 := fun es ds _ => ReS w b₀ T' φ' es ds)
    .none (fun b => .bool b) (fun i t => .int i t) (fun x t => .str x t) (fun b t => .byt b t) (fun h c e _ r => .tup (h.mono hs) c e r) (fun h c e _ r => .lst (h.mono hs) c e r) (fun h => .bar (h.mono hs)) (fun h => .rng (h.mono hs))
    (fun h l _ r => .dcI (h.mono hs) l r) (fun h l _ r => .dcS (h.mono hs) l r) (fun h => .loc (pre_get hp h)) .nil (fun _ _ h r => .cons h r) .nil (fun e _ _ h r => .cons e h r) .nil (fun e _ _ h r => .cons e h r) h
theorem ReI.mono (hs : ∀ p ∈ T, p ∈ T') (hp : φ <+: φ') {v : List DictEntry} {d : List (Int × PV)} (h : ReI w b₀ T φ v d) : ReI w b₀ T' φ' v d :=
  ReI.rec (motive_1 := fun v d _ => Rv w b₀ T' φ' v d) (motive_2 := fun vs ds _ => Rvs w b₀ T' φ' vs ds) (motive_3 := fun es ds _ => ReI w b₀ T' φ' es ds) (motive_4 := fun es ds _ => ReS w b₀ T' φ' es ds)
    .none (fun b => .bool b) (fun i t => .int i t) (fun x t => .str x t) (fun b t => .byt b t) (fun h c e _ r => .tup (h.mono hs) c e r) (fun h c e _ r => .lst (h.mono hs) c e r) (fun h => .bar (h.mono hs)) (fun h => .rng (h.mono hs))
    (fun h l _ r => .dcI (h.mono hs) l r) (fun h l _ r => .dcS (h.mono hs) l r) (fun h => .loc (pre_get hp h)) .nil (fun _ _ h r => .cons h r) .nil (fun e _ _ h r => .cons e h r) .nil (fun e _ _ h r => .cons e h r) h
theorem ReS.mono (hs : ∀ p ∈ T, p ∈ T') (hp : φ <+: φ') {v : List DictEntry} {d : List (Str × PV)} (h : ReS w b₀ T φ v d) : ReS w b₀ T' φ' v d :=
  ReS.rec (motive_1 := fun v d _ => Rv w b₀ T' φ' v d) (motive_2 := fun vs ds _ => Rvs w b₀ T' φ' vs ds) (motive_3 := fun es ds _ => ReI w b₀ T' φ' es ds) (motive_4 := fun es ds _ => ReS w b₀ T' φ' es ds)
    .none (fun b => .bool b) (fun i t => .int i t) (fun x t => .str x t) (fun b t => .byt b t) (fun h c e _ r => .tup (h.mono hs) c e r) (fun h c e _ r => .lst (h.mono hs) c e r) (fun h => .bar (h.mono hs)) (fun h => .rng (h.mono hs))
    (fun h l _ r => .dcI (h.mono hs) l r) (fun h l _ r => .dcS (h.mono hs) l r) (fun h => .loc (pre_get hp h)) .nil (fun _ _ h r => .cons h r) .nil (fun e _ _ h r => .cons e h r) .nil (fun e _ _ h r => .cons e h r) h
end

section
variable {w : World} {b₀ : Heap} {T : Led} {φ : List Addr} {v : Value} {d : PV} {vs ws : List Value} {ds es : List PV}
theorem Rvs.length (h : Rvs w b₀ T φ vs ds) : vs.length = ds.length := by
  induction vs generalizing ds with
  | nil => cases h; rfl
  | cons v vs ih =>
    cases h with
    | cons _ r => rw [List.length_cons, List.length_cons, ih r]
theorem Rvs.append (h : Rvs w b₀ T φ vs ds) (k : Rvs w b₀ T φ ws es) : Rvs w b₀ T φ (vs ++ ws) (ds ++ es) := by
  induction vs generalizing ds with
  | nil => cases h; exact k
  | cons v vs ih =>
    cases h with
    | cons h r => exact .cons h (ih r)
theorem Rvs.one (h : Rv w b₀ T φ v d) : Rvs w b₀ T φ [v] [d] := .cons h .nil
theorem Rvs.get (h : Rvs w b₀ T φ vs ds) {k : Nat} {d : PV} (hk : ds[k]? = some d) : ∃ v, vs[k]? = some v ∧ Rv w b₀ T φ v d := by
  induction vs generalizing ds k with
  | nil => cases h; simp at hk
  | cons v vs ih =>
    cases h with
    | cons h r =>
      cases k with
      | zero => simp at hk; subst hk; exact ⟨v, rfl, h⟩
      | succ k => exact ih r (by simpa using hk)
theorem Rvs.getv (h : Rvs w b₀ T φ vs ds) {k : Nat} {v : Value} (hk : vs[k]? = some v) : ∃ d, ds[k]? = some d ∧ Rv w b₀ T φ v d := by
  induction vs generalizing ds k with
  | nil => simp at hk
  | cons w vs ih =>
    cases h with
    | cons h r =>
      cases k with
      | zero => simp at hk; subst hk; exact ⟨_, rfl, h⟩
      | succ k => exact ih r (by simpa using hk)
theorem Rvs.drop (h : Rvs w b₀ T φ vs ds) (k : Nat) : Rvs w b₀ T φ (vs.drop k) (ds.drop k) := by
  induction vs generalizing ds k with
  | nil => cases h; simp; exact .nil
  | cons v vs ih =>
    cases h with
    | cons h r =>
      cases k with
      | zero => exact .cons h r
      | succ k => exact ih r k
theorem Rvs.take (h : Rvs w b₀ T φ vs ds) (k : Nat) : Rvs w b₀ T φ (vs.take k) (ds.take k) := by
  induction vs generalizing ds k with
  | nil => cases h; simp; exact .nil
  | cons v vs ih =>
    cases h with
    | cons h r =>
      cases k with
      | zero => exact .nil
      | succ k => exact .cons h (ih r k)
theorem Rvs.set (h : Rvs w b₀ T φ vs ds) (k : Nat) (hv : Rv w b₀ T φ v d) : Rvs w b₀ T φ (vs.set k v) (ds.set k d) := by
  induction vs generalizing ds k with
  | nil => cases h; exact .nil
  | cons v vs ih =>
    cases h with
    | cons h r =>
      cases k with
      | zero => exact .cons hv r
      | succ k => exact .cons h (ih r k)
theorem Rvs.rep (h : Rvs w b₀ T φ vs ds) (n : Nat) : Rvs w b₀ T φ (List.replicate n vs).flatten (List.replicate n ds).flatten := by
  induction n with
  | zero => exact .nil
  | succ n ih => simp only [List.replicate_succ, List.flatten_cons]; exact h.append ih
end

inductive IE (w : World) (b₀ : Heap) (T : Led) (φ : List Addr) : List DictEntry → Option PV → Option PV → Prop
  | nil : IE w b₀ T φ [] none none
  | one {h : Int} {t : Tok} {v : Value} {d : PV} : Rv w b₀ T φ v d → IE w b₀ T φ [⟨h, .str (Str.ofString "data") t, v⟩] (some d) none
  | two {h h' : Int} {t t' : Tok} {v v' : Value} {d d' : PV} : Rv w b₀ T φ v d → Rv w b₀ T φ v' d' → IE w b₀ T φ [⟨h, .str (Str.ofString "data") t, v⟩, ⟨h', .str (Str.ofString "at") t', v'⟩] (some d) (some d')

inductive Er (w : World) (b₀ : Heap) (T : Led) (φ : List Addr) : Led → Addr → MO → Prop
  | list {a : Addr} {vs : List Value} {n : Nat} {ds : List PV} : Rvs w b₀ T φ vs ds → Er w b₀ T φ [(a, listOf vs.toArray n)] a (.list ds)
  | inst {a dx : Addr} {es : List DictEntry} {n : Nat} {d e : Option PV} : IE w b₀ T φ es d e → Er w b₀ T φ [(a, instObj 237 dx), (dx, dictOf es n)] a (.inst d e)
inductive Ers (w : World) (b₀ : Heap) (T : Led) (φ : List Addr) : List Led → List Addr → St → Prop
  | nil : Ers w b₀ T φ [] [] []
  | cons {e : Led} {es : List Led} {a : Addr} {as : List Addr} {m : MO} {σ : St} : Er w b₀ T φ e a m → Ers w b₀ T φ es as σ → Ers w b₀ T φ (e :: es) (a :: as) (m :: σ)

section
variable {w : World} {b₀ : Heap} {T T' : Led} {φ φ' : List Addr}
theorem IE.mono (hs : ∀ p ∈ T, p ∈ T') (hp : φ <+: φ') {es : List DictEntry} {d e : Option PV} (h : IE w b₀ T φ es d e) : IE w b₀ T' φ' es d e := by
  cases h with
  | nil => exact .nil
  | one h => exact .one (h.mono hs hp)
  | two h k => exact .two (h.mono hs hp) (k.mono hs hp)
theorem Er.mono (hs : ∀ p ∈ T, p ∈ T') (hp : φ <+: φ') {e : Led} {a : Addr} {m : MO} (h : Er w b₀ T φ e a m) : Er w b₀ T' φ' e a m := by
  cases h with
  | list h => exact .list (h.mono hs hp)
  | inst h => exact .inst (h.mono hs hp)
theorem Ers.mono (hs : ∀ p ∈ T, p ∈ T') (hp : φ <+: φ') {es : List Led} {as : List Addr} {σ : St} (h : Ers w b₀ T φ es as σ) : Ers w b₀ T' φ' es as σ := by
  induction h with
  | nil => exact .nil
  | cons h _ ih => exact .cons (h.mono hs hp) ih
theorem Ers.length {es : List Led} {as : List Addr} {σ : St} (h : Ers w b₀ T φ es as σ) : as.length = σ.length := by
  induction h with
  | nil => rfl
  | cons _ _ ih => simp [ih]
theorem Ers.snoc {es : List Led} {as : List Addr} {σ : St} {e : Led} {a : Addr} {m : MO} (h : Ers w b₀ T φ es as σ) (k : Er w b₀ T φ e a m) : Ers w b₀ T φ (es ++ [e]) (as ++ [a]) (σ ++ [m]) := by
  induction h with
  | nil => exact .cons k .nil
  | cons h _ ih => exact .cons h ih
inductive ErsAt (w : World) (b₀ : Heap) (T : Led) (φ : List Addr) (es : List Led) (as : List Addr) (σ : St) (k : Nat) (m : MO) : Prop
  | mk (pre : List Led) (e : Led) (post : List Led) (a : Addr) (h : es = pre ++ e :: post) (g : as[k]? = some a) (r : Er w b₀ T φ e a m) (u : ∀ e' m', Er w b₀ T φ e' a m' → Ers w b₀ T φ (pre ++ e' :: post) as (σ.set k m')) : ErsAt w b₀ T φ es as σ k m
theorem Ers.at {es : List Led} {as : List Addr} {σ : St} (h : Ers w b₀ T φ es as σ) {k : Nat} {m : MO} (hk : σ[k]? = some m) :
    ErsAt w b₀ T φ es as σ k m := by
  induction h generalizing k with
  | nil => simp at hk
  | @cons e es a as m' σ h hr ih =>
    cases k with
    | zero =>
      simp at hk; subst hk
      exact ⟨[], e, es, a, rfl, rfl, h, fun e' m' h' => .cons h' hr⟩
    | succ k =>
      obtain ⟨pre, e₁, post, a₁, rfl, q, r, u⟩ := ih (k := k) (by simpa using hk)
      exact ⟨e :: pre, e₁, post, a₁, rfl, by simpa using q, r, fun e' m' h' => .cons h (u e' m' h')⟩
end

inductive Inv (w : World) (b₀ h₀ : Heap) (L : Addr) (m : Str → Option Value) (φ : List Addr) (σ : St) (U X T : Led) (h : Heap) : Prop
  | mk (F : Fr h₀ L h m) (es : List Led) (N : News h₀ L h (es.flatten ++ (U ++ (X ++ T)))) (R : Ers w b₀ T φ es φ σ) (nd : ((es.flatten ++ (U ++ X)).map (·.1)).Nodup) (sep : ∀ p ∈ T, p.1 ∉ (es.flatten ++ (U ++ X)).map (·.1)) : Inv w b₀ h₀ L m φ σ U X T h
theorem Inv.F {w : World} {b₀ h₀ : Heap} {L : Addr} {m : Str → Option Value} {φ : List Addr} {σ : St} {U X T : Led} {h : Heap} : Inv w b₀ h₀ L m φ σ U X T h → Fr h₀ L h m
  | ⟨F, _, _, _, _, _⟩ => F

noncomputable def Ext (T : Led) (φ : List Addr) (T' : Led) (φ' : List Addr) : Prop := (∀ p ∈ T, p ∈ T') ∧ φ <+: φ'
theorem Ext.refl {T : Led} {φ : List Addr} : Ext T φ T φ := ⟨fun _ h => h, List.prefix_rfl⟩
theorem Ext.trans {T T' T'' : Led} {φ φ' φ'' : List Addr} (a : Ext T φ T' φ') (b : Ext T' φ' T'' φ'') : Ext T φ T'' φ'' := ⟨fun p h => b.1 p (a.1 p h), a.2.trans b.2⟩
theorem Ext.rv {w : World} {b₀ : Heap} {T T' : Led} {φ φ' : List Addr} {v : Value} {d : PV} (e : Ext T φ T' φ') (h : Rv w b₀ T φ v d) : Rv w b₀ T' φ' v d := h.mono e.1 e.2
theorem Ext.rvs {w : World} {b₀ : Heap} {T T' : Led} {φ φ' : List Addr} {v : List Value} {d : List PV} (e : Ext T φ T' φ') (h : Rvs w b₀ T φ v d) : Rvs w b₀ T' φ' v d := h.mono e.1 e.2
theorem Ext.alloc {T : Led} {φ : List Addr} {p : Addr × Obj} : Ext T φ (p :: T) φ := ⟨fun _ h => .tail _ h, List.prefix_rfl⟩

section
variable {w : World} {b₀ h₀ h h' : Heap} {L : Addr} {m : Str → Option Value} {φ : List Addr} {σ : St} {U X T : Led}

theorem Inv.grow (I : Inv w b₀ h₀ L m φ σ U X T h) (hk : ∀ b o, h.get? b = some o → h'.get? b = some o) : Inv w b₀ h₀ L m φ σ U X T h' := by
  obtain ⟨F, es, N, R, nd, sep⟩ := I
  exact ⟨F.keeps hk, es, N.grown hk, R, nd, sep⟩

theorem Inv.lt (I : Inv w b₀ h₀ L m φ σ U X T h) {p : Addr × Obj} (hp : p ∈ U ++ (X ++ T)) : p.1 < h.objs.size := by
  obtain ⟨F, es, N, R, nd, sep⟩ := I
  exact Heap.lt_size (N p (List.mem_append_right _ hp)).1
theorem Inv.get (I : Inv w b₀ h₀ L m φ σ U X T h) {p : Addr × Obj} (hp : p ∈ U ++ (X ++ T)) : h.get? p.1 = some p.2 := by
  obtain ⟨F, es, N, R, nd, sep⟩ := I
  exact (N p (List.mem_append_right _ hp)).1
theorem Inv.getO (I : Inv w b₀ h₀ L m φ σ U X T h) (st : b₀.StaysIn h₀) {a : Addr} {o : Obj} (x : IsO b₀ T a o) : h.get? a = some o := by
  rcases x with x | x
  · exact I.get (p := (a, o)) (by simp [x])
  · exact I.F.keep _ _ (st _ _ x)

theorem Inv.alloc (I : Inv w b₀ h₀ L m φ σ U X T h) (o : Obj) (hf : o.isFreed = false) : Inv w b₀ h₀ L m φ σ U X ((h.objs.size, o) :: T) (h.push o) := by
  obtain ⟨F, es, N, R, nd, sep⟩ := I
  have N' := News.push F N o hf
  refine ⟨F.push o, es, fun p hp => N' p ?_, R.mono (fun _ h => .tail _ h) List.prefix_rfl, nd, fun p hp hq => ?_⟩
  · simp only [List.mem_append, List.mem_cons] at hp ⊢
    rcases hp with hp | hp | hp | hp | hp <;> simp [hp]
  · rcases List.mem_cons.mp hp with rfl | hp
    · obtain ⟨q, hq1, hq2⟩ := List.mem_map.mp hq
      have := Heap.lt_size (N q (by simp only [List.mem_append] at hq1 ⊢; rcases hq1 with h | h | h <;> simp [h])).1
      rw [hq2] at this
      exact absurd this (Nat.lt_irrefl _)
    · exact sep p hp hq

theorem Inv.re {U' X' T' : Led} (I : Inv w b₀ h₀ L m φ σ U X T h) (hT : ∀ p ∈ T, p ∈ T') (hs : ∀ p ∈ U' ++ (X' ++ T'), p ∈ U ++ (X ++ T))
    (hn : ∀ l : List Addr, (∀ a, a ∈ (T.map (·.1)) → a ∉ l) → (l ++ (U ++ X).map (·.1)).Nodup → (∀ p ∈ T, p.1 ∉ (U ++ X).map (·.1)) → (l ++ (U' ++ X').map (·.1)).Nodup ∧ ∀ p ∈ T', p.1 ∉ l ∧ p.1 ∉ (U' ++ X').map (·.1)) : Inv w b₀ h₀ L m φ σ U' X' T' h := by
  obtain ⟨F, es, N, R, nd, sep⟩ := I
  have hh := hn (es.flatten.map (·.1)) (fun a ha hq => by
    obtain ⟨p, hp, rfl⟩ := List.mem_map.mp ha
    exact sep p hp (by rw [List.map_append]; exact List.mem_append_left _ hq)) (by rw [← List.map_append]; exact nd) (fun p hp hq => sep p hp (by rw [List.map_append]; exact List.mem_append_right _ hq))
  refine ⟨F, es, fun p hp => N p ?_, R.mono hT List.prefix_rfl, by rw [List.map_append]; exact hh.1, fun p hp hq => ?_⟩
  · rcases List.mem_append.mp hp with hp | hp
    · exact List.mem_append_left _ hp
    · exact List.mem_append_right _ (hs p hp)
  · rw [List.map_append] at hq
    rcases List.mem_append.mp hq with hq | hq
    · exact (hh.2 p hp).1 hq
    · exact (hh.2 p hp).2 hq
end
end Mine
end
section
namespace Mine
open PySem PySem.W PyProof.Rows PySem.Spec PySem.Calls

section
variable {prog : Program} {w : World} {A : Around} {E : Value → Shared → Prop} {s : Shared} {b₀ h₀ : Heap} {L : Addr} {m : Str → Option Value} {φ : List Addr} {σ : St} {U X T : Led} {Q : Value → Shared → Prop}

noncomputable abbrev PE (w : World) (b₀ h₀ : Heap) (L : Addr) (m : Str → Option Value) (U X T : Led) (φ : List Addr) (s : Shared) (d : PV) (σ' : St) (Q : Value → Shared → Prop) : Prop :=
  ∀ v h' tk' T' φ', Inv w b₀ h₀ L m φ' σ' U X T' h' → Ext T φ T' φ' → Rv w b₀ T' φ' v d → Q v { s with heap := h', toks := tk' }

theorem Inv.use (I : Inv w b₀ h₀ L m φ σ U X T s.heap) : ∃ news, News h₀ L s.heap news ∧ (∀ p ∈ U ++ (X ++ T), p ∈ news) ∧
    ∀ h' D o, Fr h₀ L h' m → News h₀ L h' ((D, o) :: news) → (∀ p ∈ news, p.1 < D) → Inv w b₀ h₀ L m φ σ U X ((D, o) :: T) h' := by
  obtain ⟨F, es, N, R, nd, sep⟩ := I
  refine ⟨_, N, fun p hp => List.mem_append_right _ hp, fun h' D o F' N' lt => ⟨F', es, fun p hp => N' p ?_, R.mono (fun _ h => .tail _ h) List.prefix_rfl, nd, fun p hp hq => ?_⟩⟩
  · simp only [List.mem_append, List.mem_cons] at hp ⊢
    rcases hp with hp | hp | hp | hp | hp <;> simp [hp]
  · rcases List.mem_cons.mp hp with rfl | hp
    · obtain ⟨q, hq1, hq2⟩ := List.mem_map.mp hq
      have := lt q (by simp only [List.mem_append] at hq1 ⊢; rcases hq1 with h | h | h <;> simp [h])
      rw [hq2] at this
      exact absurd this (Nat.lt_irrefl _)
    · exact sep p hp hq
theorem Inv.use0 (I : Inv w b₀ h₀ L m φ σ U X T s.heap) : ∃ news, News h₀ L s.heap news ∧ (∀ p ∈ U ++ (X ++ T), p ∈ news) ∧
    ∀ h', Fr h₀ L h' m → News h₀ L h' news → Inv w b₀ h₀ L m φ σ U X T h' := by
  obtain ⟨F, es, N, R, nd, sep⟩ := I
  exact ⟨_, N, fun p hp => List.mem_append_right _ hp, fun h' F' N' => ⟨F', es, N', R, nd, sep⟩⟩

theorem PE.here {d : PV} {v : Value} {tk : Nat} (k : PE w b₀ h₀ L m U X T φ s d σ Q) (I : Inv w b₀ h₀ L m φ σ U X T s.heap) (r : Rv w b₀ T φ v d) : Q v { s with toks := tk } := by
  obtain ⟨h, g, dr, t, os⟩ := s
  exact k v h tk T φ I .refl r

theorem IsO.list {o : Obj} {a : Addr} {vs : List Value} {n : Nat} (x : IsO b₀ T a o) (hc : o.cls = .type "list") (hd : o.data = .seq vs.toArray n) (I : Inv w b₀ h₀ L m φ σ U X T s.heap) (st : b₀.StaysIn h₀) : s.heap.IsList a vs.toArray :=
  ⟨o, I.getO st x, hc, n, hd⟩
theorem IsO.tuple {o : Obj} {a : Addr} {vs : List Value} {n : Nat} (x : IsO b₀ T a o) (hc : o.cls = .type "tuple" ∧ o.dict = none) (hd : o.data = .seq vs.toArray n) (I : Inv w b₀ h₀ L m φ σ U X T s.heap) (st : b₀.StaysIn h₀) : IsTup s.heap a vs.toArray :=
  ⟨o, I.getO st x, hc.1, n, hd⟩

set_option tactic.hygienic true in
theorem small_bits {a : Int} (h : small a = true) : Builtin.Int.intBits a ≤ 64 := by
  have h := of_decide_eq_true h
  unfold Builtin.Int.intBits
  split
  · decide
  · rename_i hz
    have : a.natAbs ≠ 0 := by simpa using hz
    have := (Nat.log2_lt this).mpr h
    with_reducible (apply Mine.le_f; apply Nat.add_le_add; apply Mine.lt_l; assumption; exact Mine.lit; decide)

theorem log2_small {b : Int} (h : small b = true) : b.natAbs.log2 < 64 := by
  have h2 := of_decide_eq_true h
  by_cases z : b.natAbs = 0
  · rw [z]; decide
  · exact (Nat.log2_lt z).mpr h2
theorem bor_nat {a b : Int} (ha : 0 ≤ a) (hb : 0 ≤ b) : Builtin.bitOr a b = ((a.toNat ||| b.toNat : Nat) : Int) := by
  have h1 : decide (0 ≤ Builtin.bitNot a) = false := decide_eq_false (by unfold Builtin.bitNot; omega)
  have h2 : decide (0 ≤ Builtin.bitNot b) = false := decide_eq_false (by unfold Builtin.bitNot; omega)
  have h3 : ∀ x : Int, Builtin.bitNot (Builtin.bitNot x) = x := fun x => by unfold Builtin.bitNot; omega
  unfold Builtin.bitOr Builtin.bitAnd
  rw [h1, h2]
  simp only [h3]

theorem mem_tail {p : Addr × Obj} (hp : p ∈ T) : p ∈ U ++ (X ++ T) := by simp [hp]

noncomputable def opBack : BOp → Operator
  | .add => .Add | .sub => .Sub | .mul => .Mult | .fdiv => .FloorDiv | .mod => .Mod | .pow => .Pow
  | .shl => .LShift | .shr => .RShift | .band => .BitAnd | .bor => .BitOr
theorem op_back {op : Operator} {o : BOp} (h : opOf op = some o) : op = opBack o := by
  cases op <;> first | exact no h | exact congrArg opBack (Option.some.inj h)
theorem onlyE {c : Prop} [Decidable c] {i r : Int} (h : onlyIf c i = some r) : c ∧ i = r := (iteE h).imp id Option.some.inj

theorem intV_ok {f : Int → Int → Option Int} {a b : Value} {x y r : PV} {P : Prop} (h : intV f x y = some r) (ha : Rv w b₀ T φ a x) (hb : Rv w b₀ T φ b y)
    (k : ∀ i j t u z, a = .int i t → b = .int j u → r = .int z → f i j = some z → P) : P := by
  obtain ⟨i, h1, h⟩ := bindE h
  obtain ⟨j, h2, h⟩ := bindE h
  obtain ⟨z, h3, h⟩ := mapE h
  have ra := (asI_eq h1 ▸ ha : Rv w b₀ T φ a (.int i)).inv
  have rb := (asI_eq h2 ▸ hb : Rv w b₀ T φ b (.int j)).inv
  exact k i j _ _ z ra.choose_spec rb.choose_spec h.symm h3

theorem add_ok {a b : Value} {x y r : PV} (h : addV x y = some r) (ha : Rv w b₀ T φ a x) (hb : Rv w b₀ T φ b y)
    (I : Inv w b₀ h₀ L m φ σ U X T s.heap) (st : b₀.StaysIn h₀) (k : PE w b₀ h₀ L m U X T φ s r σ Q) : wpAny (model prog w) A (binaryOp .Add a b) Q E s := by
  cases x <;> first | exact no h | skip
  · obtain ⟨j, h1, rfl⟩ := mapE h
    obtain ⟨t, rfl⟩ := ha.inv
    obtain ⟨u, rfl⟩ := (asI_eq h1 ▸ hb : Rv w b₀ T φ b (.int j)).inv
    exact add_int (k.here I (.int _ _))
  · obtain ⟨c, h1, h⟩ := bindE h
    obtain ⟨hs, h⟩ := iteE h
    obtain rfl := Option.some.inj h
    obtain ⟨t, rfl⟩ := ha.inv
    obtain ⟨u, rfl⟩ := (asB_eq h1 ▸ hb : Rv w b₀ T φ b (.byt c)).inv
    refine KBy.add_bytes (by simp only [List.size_toArray]; unfold lim at hs; with_reducible (apply Mine.le_f; assumption; decide)) fun t' tk => ?_
    rw [List.append_toArray]
    exact k.here I (.byt _ _)
  · obtain ⟨c, h1, h⟩ := bindE h
    obtain ⟨hs, h⟩ := iteE h
    obtain rfl := Option.some.inj h
    obtain ⟨a, o, vs, n, rfl, oa, ca, da, ra⟩ := ha.inv
    obtain ⟨b, o', us, n', rfl, ob, cb, db, rb⟩ := (asL_eq h1 ▸ hb : Rv w b₀ T φ b (.lst c)).inv
    obtain ⟨news, N, hsub, back⟩ := I.use
    refine kmk_add_lit I.F N (oa.list ca da I st) (ob.list cb db I st) rfl (fun D h' F' N' lt => ?_) ?_
    · exact k _ h' _ _ _ (back h' D _ F' N' lt) .alloc (.lst (.inl (.head _)) rfl rfl ((ra.append rb).mono (fun _ h => .tail _ h) List.prefix_rfl))
    · have := ra.length; have := rb.length
      rw [sizeLine_eq]; unfold lim at hs; simp only [List.length_append] at *; with_reducible (apply Mine.le_f; apply Nat.add_le_add; apply Mine.le_e; assumption; apply Mine.tr_l; assumption; apply Mine.le_e; assumption; apply Mine.tr_r; assumption; decide)

theorem mul_ok {a b : Value} {x y r : PV} (h : mulV x y = some r) (ha : Rv w b₀ T φ a x) (hb : Rv w b₀ T φ b y)
    (I : Inv w b₀ h₀ L m φ σ U X T s.heap) (st : b₀.StaysIn h₀) (k : PE w b₀ h₀ L m U X T φ s r σ Q) : wpAny (model prog w) A (binaryOp .Mult a b) Q E s := by
  obtain ⟨j, h1, h⟩ := bindE h
  obtain ⟨u, rfl⟩ := (asI_eq h1 ▸ hb : Rv w b₀ T φ b (.int j)).inv
  cases x <;> first | exact no h | skip
  · obtain ⟨hs, h⟩ := iteE h
    obtain rfl := Option.some.inj h
    obtain ⟨t, rfl⟩ := ha.inv
    exact mul_int (k.here I (.int _ _)) (IntMulOk.of_left (small_bits (Bool.and_eq_true_iff.mp hs).1))
  · obtain ⟨hs, h⟩ := iteE h
    obtain rfl := Option.some.inj h
    obtain ⟨t, rfl⟩ := ha.inv
    exact bytes_mul_any hs.2.2.1 (by omega) (by omega) hs.2.2.2 fun t' tk => k.here I (.byt _ _)
  · obtain ⟨hs, h⟩ := iteE h
    obtain rfl := Option.some.inj h
    obtain ⟨a, o, vs, n, rfl, oa, ca, da, ra⟩ := ha.inv
    obtain ⟨news, N, hsub, back⟩ := I.use
    refine KMa.mul I.F N (oa.list ca da I st) (by omega) (by omega) (by rw [ra.length]; exact hs.2.2) rfl fun D h' F' N' lt => ?_
    exact k _ h' _ _ _ (back h' D _ F' N' lt) .alloc (.lst (.inl (.head _)) rfl rfl ((ra.rep _).mono (fun _ h => .tail _ h) List.prefix_rfl))

theorem bin_ok {op : Operator} {o : BOp} (ho : opOf op = some o) {a b : Value} {x y r : PV} (h : bin o x y = some r) (ha : Rv w b₀ T φ a x) (hb : Rv w b₀ T φ b y)
    (I : Inv w b₀ h₀ L m φ σ U X T s.heap) (st : b₀.StaysIn h₀) (k : PE w b₀ h₀ L m U X T φ s r σ Q) : wpAny (model prog w) A (binaryOp op a b) Q E s := by
  obtain rfl := op_back ho
  have kk : ∀ {z : Int} {t : Tok} {tk : Nat}, r = .int z → Q (.int z t) { s with toks := tk } := fun e => k.here I (e ▸ .int _ _)
  cases o with
  | add => exact add_ok h ha hb I st k
  | mul => exact mul_ok h ha hb I st k
  | sub =>
    refine intV_ok h ha hb fun i j t u z e1 e2 e3 h => ?_
    subst e1 e2
    obtain rfl := Option.some.inj h
    exact sub_int (kk e3)
  | fdiv =>
    refine intV_ok h ha hb fun i j t u z e1 e2 e3 h => ?_
    subst e1 e2
    obtain ⟨hs, rfl⟩ := onlyE h
    refine floordiv_int (by omega) ?_ (.inl (PyProof.noPylong_of_log2 (Nat.lt_trans (log2_small hs.2) (by decide))))
    rw [Int.fdiv_eq_ediv_of_nonneg _ (Int.le_of_lt hs.1)]
    exact kk e3
  | mod =>
    refine intV_ok h ha hb fun i j t u z e1 e2 e3 h => ?_
    subst e1 e2
    obtain ⟨hs, rfl⟩ := onlyE h
    refine mod_int' (by omega) ?_
    rw [Int.fmod_eq_emod_of_nonneg _ (Int.le_of_lt hs)]
    exact kk e3
  | pow =>
    refine intV_ok h ha hb fun p q t u z e1 e2 e3 h => ?_
    subst e1 e2
    obtain ⟨hs, rfl⟩ := onlyE h
    refine pow_int (by omega) ?_ (kk e3)
    have h1 : Builtin.Int.intBits p ≤ 64 := small_bits (by unfold small; exact decide_eq_true (by omega))
    have h2 : (Builtin.Int.intBits p : Int) * q ≤ 64 * 64 := Int.mul_le_mul (by with_reducible (apply Mine.nle; assumption; decide)) (by omega) (by omega) (by (with_reducible decide))
    omega
  | shl =>
    refine intV_ok h ha hb fun p q t u z e1 e2 e3 h => ?_
    subst e1 e2
    obtain ⟨hs, rfl⟩ := onlyE h
    exact lshift_int_small (by omega) (by omega) (of_decide_eq_true hs.2.1) (kk e3)
  | shr =>
    refine intV_ok h ha hb fun p q t u z e1 e2 e3 h => ?_
    subst e1 e2
    obtain ⟨hs, rfl⟩ := onlyE h
    refine rshift_int (by omega) ?_
    rw [Int.fdiv_eq_ediv_of_nonneg _ (by exact Int.le_of_lt (Int.pow_pos (by decide)))]
    exact kk e3
  | band =>
    refine intV_ok h ha hb fun p q t u z e1 e2 e3 h => ?_
    subst e1 e2
    obtain ⟨hs, rfl⟩ := onlyE h
    refine and_int ?_
    have e : Builtin.bitAnd p q = ((p.toNat &&& q.toNat : Nat) : Int) := by
      obtain ⟨a, rfl⟩ := Int.eq_ofNat_of_zero_le hs.1
      obtain ⟨b, rfl⟩ := Int.eq_ofNat_of_zero_le hs.2
      rfl
    rw [e]
    exact kk e3
  | bor =>
    refine intV_ok h ha hb fun p q t u z e1 e2 e3 h => ?_
    subst e1 e2
    obtain ⟨hs, rfl⟩ := onlyE h
    refine or_int ?_
    rw [bor_nat hs.1 hs.2]
    exact kk e3
end
end Mine
end
section
namespace Mine
open PySem PySem.W PyProof.Rows PySem.Spec PySem.Calls PySem.SeqAt

section
variable {prog : Program} {w : World} {A : Around} {E : Value → Shared → Prop} {s : Shared} {b₀ h₀ : Heap} {L : Addr} {m : Str → Option Value} {φ : List Addr} {σ : St} {U X T : Led} {Q : Value → Shared → Prop}

theorem beq_dec {α : Type} [DecidableEq α] (a b : α) : (a == b) = decide (a = b) := rfl
theorem bytes_eq_dec (a b : List UInt8) : (a.toArray.toList == b.toArray.toList) = decide (a = b) := by
  rw [Bool.eq_iff_iff]; simp
theorem RcAt_bytes (a b : List UInt8) (t u : Tok) : RcAt A s (.bytes a.toArray t) (.bytes b.toArray u) (decide (a = b)) := fun _ _ _ _ h => eq_bytes (by rw [bytes_eq_dec]; exact h)
theorem EqAt_bytes (a b : List UInt8) (t u : Tok) : EqAt A s (.bytes a.toArray t) (.bytes b.toArray u) (decide (a = b)) := fun prog w E Q h => by
  unfold eqBool
  refine wpAny_holding ?_
  refine wpAny_ite_split (fun hab => ?_) (fun _ => ?_)
  · have e : a = b := by have := eq_of_beq hab; injection this with h1 _; simpa using h1
    subst e
    exact wpAny_bind (wpAny_rule (wpAny_pure (by simpa using h)))
  · exact wpAny_bind (RcAt_bytes a b t u prog w E _ (wpAny_truthy_bool h))
theorem EqAt_none : EqAt A s .none .none true := EqAt.same .none

theorem eqvL_true {f : PV → PV → Option Bool} : ∀ {as bs : List PV} {c : Bool}, eqvL f as bs = some c → c = true ∧ as.length = bs.length ∧ ∀ (j : Nat) (a b : PV), as[j]? = some a → bs[j]? = some b → f a b = some true
  | [], [], c, h => ⟨(Option.some.inj h).symm, rfl, fun j a b e => nomatch e⟩
  | [], _ :: _, c, h => no h
  | _ :: _, [], c, h => no h
  | a :: as, b :: bs, c, h => by
    obtain ⟨d, hf, h⟩ := bindE h
    obtain ⟨hd, h⟩ := iteE h
    subst hd
    obtain ⟨h1, h2, h3⟩ := eqvL_true h
    refine ⟨h1, congrArg Nat.succ h2, fun j x y e1 e2 => ?_⟩
    cases j with
    | zero => rw [← Option.some.inj e1, ← Option.some.inj e2]; exact hf
    | succ j => exact h3 j x y e1 e2

theorem RcNeAt_bytes (a b : List UInt8) (t u : Tok) : SeqAt.RcNeAt A s (.bytes a.toArray t) (.bytes b.toArray u) (!(decide (a = b))) := fun _ _ _ _ h => ne_bytes (by rw [bne, bytes_eq_dec]; exact h)

noncomputable abbrev Cmp3 (A : Around) (s : Shared) (a b : Value) (c : Bool) : Prop := RcAt A s a b c ∧ EqAt A s a b c ∧ SeqAt.RcNeAt A s a b (!c)

theorem elems_eq {f : PV → PV → Option Bool} {va vb : List Value} {ds es : List PV} (ih : ∀ {x y : PV} {a b : Value}, f x y = some true → Rv w b₀ T φ a x → Rv w b₀ T φ b y → EqAt A.in1 s a b true)
    (ra : Rvs w b₀ T φ va ds) (rb : Rvs w b₀ T φ vb es) (hf : ∀ (j : Nat) (a b : PV), ds[j]? = some a → es[j]? = some b → f a b = some true) :
    ∀ j (h1 : j < va.toArray.size) (h2 : j < vb.toArray.size), EqAt A.in1 s va.toArray[j] vb.toArray[j] ((fun _ => true) j) := fun j h1 h2 => by
  obtain ⟨d, e1, r1⟩ := ra.getv (k := j) (v := va.toArray[j]) (by simpa using h1)
  obtain ⟨d', e2, r2⟩ := rb.getv (k := j) (v := vb.toArray[j]) (by simpa using h2)
  exact ih (hf j d d' e1 e2) r1 r2

theorem rc_F {f : PV → PV → Option Bool} {x y : PV} {a b : Value} {c : Bool} (ih : ∀ {x y : PV} {a b : Value}, f x y = some true → Rv w b₀ T φ a x → Rv w b₀ T φ b y → EqAt A.in1 s a b true)
    (h : eqvF f x y = some c) (ha : Rv w b₀ T φ a x) (hb : Rv w b₀ T φ b y) (hu : A.units < cLine) (hO : ∀ a o, IsO b₀ T a o → s.heap.get? a = some o) : Cmp3 A s a b c := by
  cases x <;> first | exact no h | skip
  · obtain ⟨hn, h⟩ := iteE h
    obtain rfl := isN_eq hn
    obtain rfl := Option.some.inj h
    obtain rfl := ha.inv
    obtain rfl := hb.inv
    exact ⟨RcAt.none_none, EqAt_none, RcNeAt.none_none⟩
  · obtain ⟨z, hz, rfl⟩ := mapE h
    obtain rfl := ha.inv
    obtain rfl := (asO_eq hz ▸ hb : Rv w b₀ T φ b (.bool z)).inv
    exact ⟨RcAt.bool_bool _ _, EqAt.bool_bool _ _, RcNeAt.bool_bool _ _⟩
  · obtain ⟨z, hz, rfl⟩ := mapE h
    obtain ⟨t, rfl⟩ := ha.inv
    obtain ⟨u, rfl⟩ := (asI_eq hz ▸ hb : Rv w b₀ T φ b (.int z)).inv
    exact ⟨RcAt.int_int _ _ _ _, EqAt.int_int _ _ _ _, RcNeAt.int_int _ _ _ _⟩
  · obtain ⟨z, hz, rfl⟩ := mapE h
    obtain ⟨t, rfl⟩ := ha.inv
    obtain ⟨u, rfl⟩ := (asS_eq hz ▸ hb : Rv w b₀ T φ b (.str z)).inv
    exact ⟨RcAt.str_str _ _ _ _, EqAt.str_str _ _ _ _, RcNeAt.str_str _ _ _ _⟩
  · obtain ⟨z, hz, rfl⟩ := mapE h
    obtain ⟨t, rfl⟩ := ha.inv
    obtain ⟨u, rfl⟩ := (asB_eq hz ▸ hb : Rv w b₀ T φ b (.byt z)).inv
    exact ⟨RcAt_bytes _ _ _ _, EqAt_bytes _ _ _ _, RcNeAt_bytes _ _ _ _⟩
  · obtain ⟨es, hz, h⟩ := bindE h
    obtain ⟨rfl, hl, hf⟩ := eqvL_true h
    obtain ⟨a, oa, va, na, rfl, xa, ca, da, ra⟩ := ha.inv
    obtain ⟨b, ob, vb, nb, rfl, xb, cb, db, rb⟩ := (asT_eq hz ▸ hb : Rv w b₀ T φ b (.tup es)).inv
    have ta : s.heap.IsTuple a va.toArray := ⟨oa, hO _ _ xa, ca.1, na, da⟩
    have tb : s.heap.IsTuple b vb.toArray := ⟨ob, hO _ _ xb, cb.1, nb, db⟩
    have he := elems_eq ih ra rb hf
    have hall : ((List.range (min va.toArray.size vb.toArray.size)).all (fun _ => true) && va.toArray.size == vb.toArray.size) = true := by simp [ra.length, rb.length, hl]
    have q : RcAt A s (.ref a) (.ref b) true := hall ▸ RcAt.tuples (e := fun _ => true) ta tb hu he
    refine ⟨q, ?_, by have := RcNeAt.tuples (e := fun _ => true) ta tb hu he; rwa [hall] at this⟩
    by_cases hab : a = b
    · subst hab; exact EqAt.same _
    · exact EqAt.of_refs hab q
  · obtain ⟨es, hz, h⟩ := bindE h
    obtain ⟨rfl, hl, hf⟩ := eqvL_true h
    obtain ⟨a, oa, va, na, rfl, xa, ca, da, ra⟩ := ha.inv
    obtain ⟨b, ob, vb, nb, rfl, xb, cb, db, rb⟩ := (asL_eq hz ▸ hb : Rv w b₀ T φ b (.lst es)).inv
    have ta : s.heap.IsList a va.toArray := ⟨oa, hO _ _ xa, ca, na, da⟩
    have tb : s.heap.IsList b vb.toArray := ⟨ob, hO _ _ xb, cb, nb, db⟩
    have he := elems_eq ih ra rb hf
    have hsz : va.toArray.size = vb.toArray.size := by simp [ra.length, rb.length, hl]
    have hall : (List.range va.toArray.size).all (fun _ => true) = true := by simp
    have q : RcAt A s (.ref a) (.ref b) true := hall ▸ RcAt.lists (e := fun _ => true) ta tb hsz hu he
    refine ⟨q, ?_, by have := RcNeAt.lists (e := fun _ => true) ta tb hsz hu he; rwa [hall] at this⟩
    by_cases hab : a = b
    · subst hab; exact EqAt.same _
    · exact EqAt.of_refs hab q

theorem rc_at (hO : ∀ a o, IsO b₀ T a o → s.heap.get? a = some o) : ∀ (n : Nat) {A : Around} {x y : PV} {a b : Value} {c : Bool}, eqv n x y = some c → Rv w b₀ T φ a x → Rv w b₀ T φ b y → A.units + n < cLine + 1 → Cmp3 A s a b c
  | 0, _, _, _, _, _, _, h, _, _, _ => no h
  | n + 1, A, x, y, a, b, c, h, ha, hb, hu => rc_F (fun h r1 r2 => (rc_at hO n h r1 r2 (by show A.units + 1 + n < _; with_reducible (apply Mine.sh2 <;> assumption))).2.1) h ha hb (by omega) hO

theorem ReI.find {es : List DictEntry} {ds : List (Int × PV)} (h : ReI w b₀ T φ es ds) (k : Int) : (findBy Value.isInt es.toArray k = none ∧ findI k ds = none) ∨ ∃ v d, findBy Value.isInt es.toArray k = some v ∧ findI k ds = some d ∧ Rv w b₀ T φ v d := by
  unfold findBy findI
  rw [List.find?_toArray]
  induction es generalizing ds with
  | nil => cases h; exact .inl ⟨rfl, rfl⟩
  | cons e es ih =>
    cases h with
    | @cons hh kk t v d es ds he hv hr =>
      simp only [List.find?_cons]
      by_cases hk : kk = k
      · have : Value.isInt k (.int kk t) = true := by simp [Value.isInt, hk]
        refine .inr ⟨v, d, ?_, ?_, hv⟩
        · rw [this]; rfl
        · simp [hk]
      · have : Value.isInt k (.int kk t) = false := by simp [Value.isInt, hk]
        rw [this]
        simp only [hk, decide_false]
        exact ih hr
theorem ReI.keys {es : List DictEntry} {ds : List (Int × PV)} (h : ReI w b₀ T φ es ds) : ∀ e ∈ es, ∃ k, Value.isInt k e.key = true ∧ e.hash = hashInt k := by
  induction es generalizing ds with
  | nil => intro e he; cases he
  | cons e es ih =>
    cases h with
    | @cons hh kk t v d es ds he hv hr =>
      intro e he'
      rcases List.mem_cons.mp he' with rfl | he'
      · exact ⟨kk, by simp [Value.isInt], he⟩
      · exact ih hr e he'
theorem ReS.find {es : List DictEntry} {ds : List (Str × PV)} (h : ReS w b₀ T φ es ds) (k : Str) : (findBy Value.isStrOf es.toArray k = none ∧ findS k ds = none) ∨ ∃ v d, findBy Value.isStrOf es.toArray k = some v ∧ findS k ds = some d ∧ Rv w b₀ T φ v d := by
  unfold findBy findS
  rw [List.find?_toArray]
  induction es generalizing ds with
  | nil => cases h; exact .inl ⟨rfl, rfl⟩
  | cons e es ih =>
    cases h with
    | @cons hh kk t v d es ds he hv hr =>
      simp only [List.find?_cons]
      by_cases hk : kk = k
      · have : Value.isStrOf k (.str kk t) = true := by simp [Value.isStrOf, hk]
        refine .inr ⟨v, d, ?_, ?_, hv⟩
        · rw [this]; rfl
        · simp [hk]
      · have : Value.isStrOf k (.str kk t) = false := by simp [Value.isStrOf, hk]
        rw [this]
        simp only [hk, decide_false]
        exact ih hr
theorem ReS.keys {es : List DictEntry} {ds : List (Str × PV)} (h : ReS w b₀ T φ es ds) : ∀ e ∈ es, ∃ k, Value.isStrOf k e.key = true ∧ e.hash = hashStr w k := by
  induction es generalizing ds with
  | nil => intro e he; cases he
  | cons e es ih =>
    cases h with
    | @cons hh kk t v d es ds he hv hr =>
      intro e he'
      rcases List.mem_cons.mp he' with rfl | he'
      · exact ⟨kk, by simp [Value.isStrOf], he⟩
      · exact ih hr e he'
theorem mapI {es : List DictEntry} {n : Nat} {ds : List (Int × PV)} {a : Addr} {h : Heap} (ho : h.get? a = some (dictOf es n)) (r : ReI w b₀ T φ es ds) : h.MapOf (intKind prog w) a (fun k => findBy Value.isInt es.toArray k) :=
  ⟨_, es.toArray, n, ho, ⟨rfl, rfl, rfl⟩, rfl, fun e he => r.keys e (by simpa using he), fun _ => rfl⟩
theorem mapS' {es : List DictEntry} {n : Nat} {ds : List (Str × PV)} {a : Addr} {h : Heap} (ho : h.get? a = some (dictOf es n)) (r : ReS w b₀ T φ es ds) : h.MapOf (strKind prog w) a (fun k => findBy Value.isStrOf es.toArray k) :=
  ⟨_, es.toArray, n, ho, ⟨rfl, rfl, rfl⟩, rfl, fun e he => r.keys e (by simpa using he), fun _ => rfl⟩

noncomputable def intEq (a : Int) : Value → Bool
  | .int b _ => decide (a = b)
  | _ => false
theorem EqAt_intEq (a i : Int) (t u : Tok) : EqAt A s (.int i t) (.int a u) (intEq a (.int i t)) := by
  rw [show intEq a (.int i t) = (i == a) from by unfold intEq; rw [Bool.eq_iff_iff, beq_iff_eq, decide_eq_true_iff]; exact eq_comm]
  exact EqAt.int_int i t a u
theorem isIn_tup {a : Int} : ∀ {bs : List PV} {vs : List Value} {c : Bool}, inInts a bs = some c → Rvs w b₀ T φ vs bs → c = vs.any (intEq a) ∧ ∀ v ∈ vs, ∃ i t, v = .int i t
  | [], [], c, h, r => ⟨(Option.some.inj h).symm, fun v hv => nomatch hv⟩
  | [], _ :: _, c, h, r => nomatch r.length
  | _ :: _, [], c, h, r => nomatch r.length
  | b :: bs, v :: vs, c, h, r => by
    obtain ⟨i, hi, h⟩ := bindE h
    obtain ⟨c', hc, rfl⟩ := mapE h
    obtain ⟨hv, hr⟩ := r.unc
    obtain ⟨t, rfl⟩ := (asI_eq hi ▸ hv : Rv w b₀ T φ v (.int i)).inv
    obtain ⟨h1, h2⟩ := isIn_tup hc hr
    refine ⟨by rw [List.any_cons, ← h1]; rfl, fun v hv => ?_⟩
    rcases List.mem_cons.mp hv with rfl | hv
    · exact ⟨_, _, rfl⟩
    · exact h2 v hv

theorem isN_ok {x : PV} {a : Value} (ha : Rv w b₀ T φ a x) : (a == .none) = isN x := by cases ha <;> rfl
theorem isNone_ok {x y : PV} {a b : Value} {c : Bool} (h : isNone x y = some c) (ha : Rv w b₀ T φ a x) (hb : Rv w b₀ T φ b y) : b = .none ∧ (a == .none) = c := by
  obtain ⟨hn, h⟩ := iteE h
  exact ⟨(isN_eq hn ▸ hb : Rv w b₀ T φ b .none).inv, (isN_ok ha).trans (Option.some.inj h)⟩

theorem cmpI_ok {f : Int → Int → Bool} {x y : PV} {a b : Value} {c : Bool} {P : Prop} (h : cmpI f x y = some c) (ha : Rv w b₀ T φ a x) (hb : Rv w b₀ T φ b y) (k : ∀ i j t u, a = .int i t → b = .int j u → f i j = c → P) : P := by
  obtain ⟨i, h1, h⟩ := bindE h
  obtain ⟨j, h2, h⟩ := mapE h
  have ra := (asI_eq h1 ▸ ha : Rv w b₀ T φ a (.int i)).inv
  have rb := (asI_eq h2 ▸ hb : Rv w b₀ T φ b (.int j)).inv
  exact k i j _ _ ra.choose_spec rb.choose_spec h

theorem findI_ok {es : List DictEntry} {ds : List (Int × PV)} (r : ReI w b₀ T φ es ds) (k : Int) : (findBy Value.isInt es.toArray k).isSome = (findI k ds).isSome := by
  rcases r.find k with ⟨e1, e2⟩ | ⟨v, d, e1, e2, _⟩ <;> rw [e1, e2] <;> rfl
theorem findS_ok {es : List DictEntry} {ds : List (Str × PV)} (r : ReS w b₀ T φ es ds) (k : Str) : (findBy Value.isStrOf es.toArray k).isSome = (findS k ds).isSome := by
  rcases r.find k with ⟨e1, e2⟩ | ⟨v, d, e1, e2, _⟩ <;> rw [e1, e2] <;> rfl

theorem in_ok {x y : PV} {a b : Value} {c : Bool} (h : isIn x y = some c) (ha : Rv w b₀ T φ a x) (hb : Rv w b₀ T φ b y) (hO : ∀ a o, IsO b₀ T a o → s.heap.get? a = some o) :
    ((∀ tk, Q (.bool c) { s with toks := tk }) → wpAny (model prog w) A (compareOp .In a b) Q E s) ∧ ((∀ tk, Q (.bool (!c)) { s with toks := tk }) → wpAny (model prog w) A (compareOp .NotIn a b) Q E s) := by
  cases y <;> first | exact no h | skip
  · obtain ⟨i, hi, h⟩ := bindE h
    obtain ⟨t, rfl⟩ := (asI_eq hi ▸ ha : Rv w b₀ T φ a (.int i)).inv
    obtain ⟨b, ob, vs, n, rfl, io, cb, db, rb⟩ := hb.inv
    obtain ⟨rfl, h2⟩ := isIn_tup h rb
    have ht : s.heap.IsTuple b vs.toArray := ⟨_, hO _ _ io, cb.1, _, db⟩
    have he : ∀ y ∈ vs.toArray, EqAt A.in1 s y (.int i t) (intEq i y) := fun y hy => by
      obtain ⟨j, u, rfl⟩ := h2 y (by simpa using hy)
      exact EqAt_intEq _ _ _ _
    exact ⟨fun k => in_tupleAt (intEq i) ht he (by simpa using k s.toks), fun k => notIn_tupleAt (intEq i) ht he (by simpa using k s.toks)⟩
  · obtain ⟨i, hi, rfl⟩ := mapE h
    obtain ⟨t, rfl⟩ := (asI_eq hi ▸ ha : Rv w b₀ T φ a (.int i)).inv
    obtain ⟨b, es, n, rfl, io, lb, rb⟩ := hb.inv
    have hm := mapI (prog := prog) (hO _ _ io) rb
    exact ⟨fun k => wpAny_in_of (intKind_is prog w _ _) lb hm (by rw [findI_ok rb]; exact k _), fun k => wpAny_notIn_of (intKind_is prog w _ _) lb hm (by rw [findI_ok rb]; exact k _)⟩
  · obtain ⟨i, hi, rfl⟩ := mapE h
    obtain ⟨t, rfl⟩ := (asS_eq hi ▸ ha : Rv w b₀ T φ a (.str i)).inv
    obtain ⟨b, es, n, rfl, io, lb, rb⟩ := hb.inv
    have hm := mapS' (prog := prog) (hO _ _ io) rb
    exact ⟨fun k => wpAny_in_of (strKind_is prog w _ _) lb hm (by rw [findS_ok rb]; exact k _), fun k => wpAny_notIn_of (strKind_is prog w _ _) lb hm (by rw [findS_ok rb]; exact k _)⟩

theorem cmp_ok {op : CmpOp} {a b : Value} {x y : PV} {r : Bool} (h : cmp (copOf op) x y = some r) (ha : Rv w b₀ T φ a x) (hb : Rv w b₀ T φ b y)
    (I : Inv w b₀ h₀ L m φ σ U X T s.heap) (st : b₀.StaysIn h₀) (hu : A.units + 8 < cLine) (k : PE w b₀ h₀ L m U X T φ s (.bool r) σ Q) : wpAny (model prog w) A (compareOp op a b) Q E s := by
  have hO : ∀ a o, IsO b₀ T a o → s.heap.get? a = some o := fun a o x => I.getO st x
  have k0 : ∀ tk, Q (.bool r) { s with toks := tk } := fun tk => k.here I (.bool _)
  have k1 : Q (.bool r) s := k0 s.toks
  cases op with
  | Eq => exact (rc_at hO 9 h ha hb (by omega)).1 prog w E Q k1
  | NotEq =>
    obtain ⟨c, hc, rfl⟩ := mapE h
    exact (rc_at hO 9 hc ha hb (by omega)).2.2 prog w E Q k1
  | Lt => exact cmpI_ok h ha hb fun i j t u e1 e2 e3 => by subst e1 e2 e3; exact PyProof.Rows.lt_int k1
  | LtE => exact cmpI_ok h ha hb fun i j t u e1 e2 e3 => by subst e1 e2 e3; exact PyProof.Rows.le_int k1
  | Gt => exact cmpI_ok h ha hb fun i j t u e1 e2 e3 => by subst e1 e2 e3; exact PyProof.Rows.gt_int k1
  | GtE => exact cmpI_ok h ha hb fun i j t u e1 e2 e3 => by subst e1 e2 e3; exact PyProof.Rows.ge_int k1
  | Is =>
    obtain ⟨rfl, hc⟩ := isNone_ok h ha hb
    exact is_none_gen (by rw [hc]; exact k1)
  | IsNot =>
    obtain ⟨c, hc, rfl⟩ := mapE h
    obtain ⟨rfl, hc⟩ := isNone_ok hc ha hb
    exact isnot_none_gen (by rw [hc]; exact k1)
  | In => exact (in_ok h ha hb hO).1 k0
  | NotIn =>
    obtain ⟨c, hc, rfl⟩ := mapE h
    exact (in_ok hc ha hb hO).2 k0
end
end Mine
end
section
namespace Mine
open PySem PySem.W PyProof.Rows PySem.Spec PySem.Calls PySem.SeqAt

section
variable {prog : Program} {w : World} {A : Around} {E : Value → Shared → Prop} {s : Shared} {b₀ h₀ : Heap} {L : Addr} {m : Str → Option Value} {φ : List Addr} {σ : St} {U X T : Led} {Q : Value → Shared → Prop}

theorem octets_ints : ∀ {ds : List PV} {bs : List UInt8} {vs : List Value}, octets? ds = some bs → Rvs w b₀ T φ vs ds → ∃ ns : List Int, IntsAre vs ns ∧ (∀ n ∈ ns, 0 ≤ n ∧ n < 256) ∧ byteArr ns = bs.toArray
  | [], bs, [], h, r => ⟨[], .nil, fun _ h => (nomatch h), by rw [← Option.some.inj h]; rfl⟩
  | [], _, _ :: _, h, r => nomatch r.length
  | _ :: _, _, [], h, r => nomatch r.length
  | d :: ds, bs, v :: vs, h, r => by
    obtain ⟨b, h1, h⟩ := bindE h
    obtain ⟨bs', h2, rfl⟩ := mapE h
    obtain ⟨i, h3, h1⟩ := bindE h1
    obtain ⟨hi, h1⟩ := iteE h1
    obtain ⟨hv, hr⟩ := r.unc
    obtain ⟨ns, i1, i2, i3⟩ := octets_ints h2 hr
    obtain ⟨t, rfl⟩ := (asI_eq h3 ▸ hv : Rv w b₀ T φ v (.int i)).inv
    refine ⟨i :: ns, .cons _ _ i1, fun n hn => ?_, ?_⟩
    · rcases List.mem_cons.mp hn with rfl | hn
      · exact hi
      · exact i2 n hn
    · rw [← Array.toList_inj] at i3 ⊢
      simp only [byteArr, List.map_cons, List.toList_toArray] at i3 ⊢
      rw [i3]
      exact congrArg (· :: bs') (Option.some.inj h1)

theorem gone {I' : Prop} (I : Inv w b₀ h₀ L m φ σ U X T s.heap) {h' : Heap} (hk : ∀ b o, s.heap.get? b = some o → h'.get? b = some o) : Inv w b₀ h₀ L m φ σ U X T h' := I.grow hk

noncomputable def biVal : BI → Value
  | .len => .builtin "len" | .max => .builtin "max" | .range => .type "range" | .bytes => .type "bytes" | .tuple => .type "tuple" | .list => .type "list" | .int => .type "int"

theorem lenN_eq {n : Nat} {r : PV} (h : lenN n = some r) : n ≤ lim ∧ r = .int n := by
  obtain ⟨h1, h2⟩ := iteE h
  exact ⟨h1, (Option.some.inj h2).symm⟩
theorem len_ok {d r : PV} {v : Value} (h : lenV d = some r) (hv : Rv w b₀ T φ v d) (I : Inv w b₀ h₀ L m φ σ U X T s.heap) (st : b₀.StaysIn h₀) (k : PE w b₀ h₀ L m U X T φ s r σ Q) :
    wpAny (model prog w) A (call (.builtin "len") [v]) Q E s := by
  have kk : ∀ {n : Nat} {t : Tok} {tk : Nat}, r = .int n → Q (.int n t) { s with toks := tk } := fun e => k.here I (e ▸ .int _ _)
  cases d <;> first | exact no h | skip
  · obtain ⟨hz, e⟩ := lenN_eq h
    obtain ⟨t, rfl⟩ := hv.inv
    refine len_bytes (by rw [List.size_toArray]; unfold lim at hz; with_reducible (apply Mine.le_f; assumption; decide)) ?_
    rw [List.size_toArray]
    exact kk e
  · obtain ⟨hz, e⟩ := lenN_eq h
    obtain ⟨a, o, vs, n, rfl, io, c, d, r⟩ := hv.inv
    exact PyProof.Rows.len_tuple (io.tuple c d I st) (by rw [List.size_toArray, r.length]; unfold lim at hz; omega) (by rw [List.size_toArray, r.length]; exact kk e)
  · obtain ⟨hz, e⟩ := lenN_eq h
    obtain ⟨a, o, vs, n, rfl, io, c, d, r⟩ := hv.inv
    exact PyProof.Rows.len_list (io.list c d I st) (by rw [List.size_toArray, r.length]; unfold lim at hz; omega) (by rw [List.size_toArray, r.length]; exact kk e)

theorem list_ok {ds : List PV} {v : Value} (hv : Rv w b₀ T φ v (.tup ds)) (hz : ds.length ≤ sizeLine) (I : Inv w b₀ h₀ L m φ σ U X T s.heap) (st : b₀.StaysIn h₀) (k : PE w b₀ h₀ L m U X T φ s (.lst ds) σ Q) :
    wpAny (model prog w) A (call (.type "list") [v]) Q E s := by
  obtain ⟨a, o, vs, n, rfl, io, c, d, r⟩ := hv.inv
  obtain ⟨news, N, hsub, back⟩ := I.use
  refine list_copyKT I.F N (io.tuple c d I st) (fun D c' h' F' N' lt => ?_) (by rw [List.size_toArray, r.length]; exact hz)
  exact k _ h' _ _ _ (back h' D _ F' N' lt) .alloc (.lst (.inl (.head _)) rfl rfl (r.mono (fun _ h => .tail _ h) List.prefix_rfl))

theorem tuple_ok {ds : List PV} {v : Value} (hv : Rv w b₀ T φ v (.lst ds)) (hz : ds.length ≤ sizeLine) (I : Inv w b₀ h₀ L m φ σ U X T s.heap) (st : b₀.StaysIn h₀) (k : PE w b₀ h₀ L m U X T φ s (.tup ds) σ Q) :
    wpAny (model prog w) A (call (.type "tuple") [v]) Q E s := by
  obtain ⟨a, o, vs, n, rfl, io, c, d, r⟩ := hv.inv
  refine call_tuple_list (io.list c d I st) (fun h' hk => ?_) (by rw [List.size_toArray, r.length]; exact hz)
  exact k _ _ _ _ _ ((I.grow hk).alloc _ rfl) .alloc (.tup (.inl (.head _)) ⟨rfl, rfl⟩ rfl (r.mono (fun _ h => .tail _ h) List.prefix_rfl))

theorem bytes_lst_ok {ds : List PV} {bs : List UInt8} {v : Value} (h : octets? ds = some bs) (hv : Rv w b₀ T φ v (.lst ds)) (hz : ds.length ≤ sizeLine) (hh : A.handled = none) (I : Inv w b₀ h₀ L m φ σ U X T s.heap) (st : b₀.StaysIn h₀)
    (k : PE w b₀ h₀ L m U X T φ s (.byt bs) σ Q) : wpAny (model prog w) A (call (.type "bytes") [v]) Q E s := by
  obtain ⟨a, o, vs, n, rfl, io, c, d, r⟩ := hv.inv
  obtain ⟨ns, i1, i2, i3⟩ := octets_ints h r
  refine call_bytes_ints (io.list c d I st) i1 i2 (by rw [r.length]; exact hz) hh fun h' t tk hk => ?_
  rw [i3]
  exact k _ _ _ _ _ (I.grow hk) .refl (.byt _ _)

theorem max_ok {a b : Int} {t u : Tok} (hh : A.handled = none) (I : Inv w b₀ h₀ L m φ σ U X T s.heap) (k : PE w b₀ h₀ L m U X T φ s (.int (if b > a then b else a)) σ Q) :
    wpAny (model prog w) A (call (.builtin "max") [.int a t, .int b u]) Q E s := by
  refine max_two_ints hh fun h' tk hk => ?_
  by_cases hab : b > a
  · rw [if_pos hab] at k ⊢; exact k _ _ _ _ _ (I.grow hk) .refl (.int _ _)
  · rw [if_neg hab] at k ⊢; exact k _ _ _ _ _ (I.grow hk) .refl (.int _ _)

theorem range1_ok {n : Int} {t : Tok} (I : Inv w b₀ h₀ L m φ σ U X T s.heap) (k : PE w b₀ h₀ L m U X T φ s (.rng 0 n 1) σ Q) : wpAny (model prog w) A (call (.type "range") [.int n t]) Q E s := by
  refine call_range_1 ?_
  exact k _ _ _ _ _ (I.alloc _ rfl) .alloc (.rng (.inl (.head _)))
theorem range3_ok {a b c : Int} {t u v : Tok} (hc : c = 1 ∨ c = -1) (I : Inv w b₀ h₀ L m φ σ U X T s.heap) (k : PE w b₀ h₀ L m U X T φ s (.rng a b c) σ Q) : wpAny (model prog w) A (call (.type "range") [.int a t, .int b u, .int c v]) Q E s := by
  refine call_range_3 (by omega) ?_ (.inl (PyProof.noPylong_of_log2 (by rcases hc with rfl | rfl <;> decide +kernel)))
  exact k _ _ _ _ _ (I.alloc _ rfl) .alloc (.rng (.inl (.head _)))
end
end Mine
end
section
namespace Mine
open PySem PySem.W PyProof.Rows PySem.Spec PySem.Calls PySem.SeqAt

theorem upd_mid {c : Addr} {o o' : Obj} : ∀ {A B : Led}, (∀ p ∈ A, p.1 ≠ c) → (∀ p ∈ B, p.1 ≠ c) → Upd c o o' (A ++ (c, o) :: B) (A ++ (c, o') :: B)
  | [], _, _, hB => .head hB
  | p :: A, B, hA, hB => .tail (hA p (.head _)) (upd_mid (A := A) (B := B) (fun q hq => hA q (.tail _ hq)) hB)

section
variable {prog : Program} {w : World} {A : Around} {E : Value → Shared → Prop} {s : Shared} {b₀ h₀ h : Heap} {L : Addr} {m : Str → Option Value} {φ : List Addr} {σ : St} {U X T : Led} {Q : Value → Shared → Prop}

theorem Inv.upd (I : Inv w b₀ h₀ L m φ σ U X T h) {k : Nat} {mo : MO} (hk : σ[k]? = some mo) :
    ∃ e a news, φ[k]? = some a ∧ Er w b₀ T φ e a mo ∧ News h₀ L h news ∧ (∀ p ∈ e, p ∈ news) ∧ (∀ p ∈ U ++ (X ++ T), p ∈ news) ∧
      ∀ e1 c o e2 o' mo', e = e1 ++ (c, o) :: e2 → Er w b₀ T φ (e1 ++ (c, o') :: e2) a mo' → ∃ news', Upd c o o' news news' ∧ (∀ p ∈ U ++ (X ++ T), p ∈ news') ∧
        ∀ h', Fr h₀ L h' m → News h₀ L h' news' → Inv w b₀ h₀ L m φ (σ.set k mo') U X T h' := by
  obtain ⟨F, es, N, R, nd, sep⟩ := I
  obtain ⟨pre, e, post, a, rfl, ha, hr, hset⟩ := R.at hk
  have hfl : ∀ e : Led, (pre ++ e :: post).flatten = pre.flatten ++ (e ++ post.flatten) := fun e => by simp
  refine ⟨e, a, _, ha, hr, N, fun p hp => by rw [hfl]; simp [hp], fun p hp => List.mem_append_right _ hp, fun e1 c o e2 o' mo' he hr' => ?_⟩
  subst he
  have e0 : (pre ++ (e1 ++ (c, o) :: e2) :: post).flatten ++ (U ++ (X ++ T)) = (pre.flatten ++ e1) ++ (c, o) :: (e2 ++ (post.flatten ++ (U ++ (X ++ T)))) := by simp
  have e1' : (pre ++ (e1 ++ (c, o') :: e2) :: post).flatten ++ (U ++ (X ++ T)) = (pre.flatten ++ e1) ++ (c, o') :: (e2 ++ (post.flatten ++ (U ++ (X ++ T)))) := by simp
  have nd' : (((pre.flatten ++ e1) ++ (c, o) :: (e2 ++ (post.flatten ++ (U ++ X)))).map (·.1)).Nodup := by
    have : (pre ++ (e1 ++ (c, o) :: e2) :: post).flatten ++ (U ++ X) = (pre.flatten ++ e1) ++ (c, o) :: (e2 ++ (post.flatten ++ (U ++ X))) := by simp
    rw [this] at nd; exact nd
  rw [List.map_append, List.map_cons, List.nodup_append] at nd'
  obtain ⟨n1, n2, n3⟩ := nd'
  have hA : ∀ p ∈ pre.flatten ++ e1, p.1 ≠ c := fun p hp => n3 p.1 (List.mem_map_of_mem hp) c (.head _)
  have hB0 : ∀ p ∈ e2 ++ (post.flatten ++ (U ++ X)), p.1 ≠ c := fun p hp q => (List.nodup_cons.mp n2).1 (List.mem_map.mpr ⟨p, hp, q⟩)
  have hc : c ∈ ((pre ++ (e1 ++ (c, o) :: e2) :: post).flatten ++ (U ++ X)).map (·.1) := List.mem_map.mpr ⟨(c, o), by simp, rfl⟩
  have hB : ∀ p ∈ e2 ++ (post.flatten ++ (U ++ (X ++ T))), p.1 ≠ c := by
    intro p hp q
    simp only [List.mem_append] at hp
    rcases hp with hp | hp | hp | hp | hp
    · exact hB0 p (by simp [hp]) q
    · exact hB0 p (by simp [hp]) q
    · exact hB0 p (by simp [hp]) q
    · exact hB0 p (by simp [hp]) q
    · exact sep p hp (q ▸ hc)
  have hmap : ((pre ++ (e1 ++ (c, o') :: e2) :: post).flatten ++ (U ++ X)).map (·.1) = ((pre ++ (e1 ++ (c, o) :: e2) :: post).flatten ++ (U ++ X)).map (·.1) := by simp
  refine ⟨(pre ++ (e1 ++ (c, o') :: e2) :: post).flatten ++ (U ++ (X ++ T)), by rw [e0, e1']; exact upd_mid hA hB, fun p hp => List.mem_append_right _ hp, fun h' F' N' => ⟨F', _, N', hset _ _ hr', by rw [hmap]; exact nd, by rw [hmap]; exact sep⟩⟩

theorem Inv.mo (I : Inv w b₀ h₀ L m φ σ U X T h) {k : Nat} {mo : MO} (hk : σ[k]? = some mo) : ∃ e a, φ[k]? = some a ∧ Er w b₀ T φ e a mo ∧ ∀ p ∈ e, h.get? p.1 = some p.2 := by
  obtain ⟨e, a, news, ha, hr, N, hs, _⟩ := I.upd hk
  exact ⟨e, a, ha, hr, fun p hp => (N p (hs p hp)).1⟩
theorem Inv.moList (I : Inv w b₀ h₀ L m φ σ U X T h) {k : Nat} {ds : List PV} {v : Value} (hk : σ[k]? = some (.list ds)) (hv : Rv w b₀ T φ v (.loc k)) : ∃ a vs n, v = .ref a ∧ h.get? a = some (listOf vs.toArray n) ∧ Rvs w b₀ T φ vs ds := by
  obtain ⟨e, a, ha, hr, hg⟩ := I.mo hk
  obtain ⟨c, rfl, hc⟩ := hv.inv
  have e := Option.some.inj (ha.symm.trans hc)
  subst e
  cases hr with
  | list r => exact ⟨_, _, _, rfl, hg _ (.head _), r⟩

noncomputable def noSlice : Expr → Bool
  | .Slice .. => false
  | _ => true
theorem subscripted_plain {sl : Expr} (h : noSlice sl = true) (o i : Value) : subscripted sl false o i = operate [o, i] (getItem o i) := by
  cases sl <;> first | rfl | (cases h)

theorem seqIdx {i : Int} {n : Nat} (h0 : 0 ≤ i) (h1 : i.toNat < n) : seqIndex? i n = some i.toNat := by
  have hn : ¬ i < 0 := by omega
  have h2 : i < n := by with_reducible (apply Mine.cs8 <;> assumption)
  simp [seqIndex?, hn, h0, h2]

theorem idx_ok {value slice : Expr} {a b : Value} {x y r : PV} (hns : noSlice slice = true) (hr : idxV σ x y = some r) (ha : Rv w b₀ T φ a x) (hb : Rv w b₀ T φ b y) (I : Inv w b₀ h₀ L m φ σ U X T s.heap) (st : b₀.StaysIn h₀)
    (k : PE w b₀ h₀ L m U X T φ s r σ Q) : wpAny (model prog w) A (subscriptTail value slice a b) Q E s := by
  have hO : ∀ a o, IsO b₀ T a o → s.heap.get? a = some o := fun a o x => I.getO st x
  have k1 : ∀ {v}, Rv w b₀ T φ v r → Q v s := fun rv => k.here (tk := s.toks) I rv
  have hsub := subscripted_plain hns
  have lst : ∀ {vs : List PV} {c : Addr} {us : List Value}, idxL vs y = some r → s.heap.IsList c us.toArray → Rvs w b₀ T φ us vs → a = .ref c → wpAny (model prog w) A (subscriptTail value slice a b) Q E s := fun {vs c us} hi ht rs e => by
    subst e
    obtain ⟨i, h1, hi⟩ := bindE hi
    obtain ⟨hs, hi⟩ := iteE hi
    obtain ⟨u, rfl⟩ := (asI_eq h1 ▸ hb : Rv w b₀ T φ b (.int i)).inv
    obtain ⟨v, hv, rv⟩ := rs.get hi
    exact tail_any ht.typeIs slot_list_getitem.lookup (wpAny_getItem_list ht hs.1 (by unfold lim at hs; omega) (by rw [List.getElem?_toArray]; exact hv) (k1 rv)) (hsub _ _)
  cases x <;> first | exact no hr | skip
  · obtain ⟨i, h1, hr⟩ := bindE hr
    obtain ⟨hs, hr⟩ := iteE hr
    obtain ⟨x, hx, rfl⟩ := mapE hr
    obtain ⟨u, rfl⟩ := (asI_eq h1 ▸ hb : Rv w b₀ T φ b (.int i)).inv
    obtain ⟨t, rfl⟩ := ha.inv
    have hlt := (List.getElem?_eq_some_iff.mp hx).1
    refine tail_any (T := "bytes") (typeIs_bytes _ _ _) FB.slot_bytes_getitem.lookup (PySem.W.getItem_bytes (by unfold lim at hs; omega) hs.1 (by omega) ?_) (hsub _ _)
    rw [List.getD_eq_getElem?_getD, hx]
    exact k.here I (.int _ _)
  · obtain ⟨i, h1, hr⟩ := bindE hr
    obtain ⟨hs, hr⟩ := iteE hr
    obtain ⟨u, rfl⟩ := (asI_eq h1 ▸ hb : Rv w b₀ T φ b (.int i)).inv
    obtain ⟨c, o, us, n, rfl, io, co, d, rs⟩ := ha.inv
    obtain ⟨v, hv, rv⟩ := rs.get hr
    have hlt := (List.getElem?_eq_some_iff.mp hv).1
    have ht := io.tuple co d I st
    exact tail_any (T := "tuple") ht.typeIs slot_tuple_getitem.lookup (PyProof.Rows.getItem_tuple ht (by omega) (by unfold lim at hs; omega) (seqIdx hs.1 (by rw [List.size_toArray]; exact hlt)) (by rw [List.getElem?_toArray]; exact hv) (k1 rv)) (hsub _ _)
  · obtain ⟨c, o, us, n, rfl, io, co, d, rs⟩ := ha.inv
    exact lst hr (io.list co d I st) rs rfl
  · obtain ⟨i, h1, hr⟩ := bindE hr
    obtain ⟨u, rfl⟩ := (asI_eq h1 ▸ hb : Rv w b₀ T φ b (.int i)).inv
    obtain ⟨c, es, n, rfl, io, l, rs⟩ := ha.inv
    have hm := mapI (prog := prog) (hO _ _ io) rs
    rcases rs.find i with ⟨_, e2⟩ | ⟨v, d, e1, e2, rv⟩
    · exact no (e2 ▸ hr)
    · exact tail_any hm.typeIs slot_dict_getitem.lookup (wpAny_getItem_of (intKind_is prog w _ _) hm e1 (k.here I (Option.some.inj (e2.symm.trans hr) ▸ rv))) (hsub _ _)
  · obtain ⟨i, h1, hr⟩ := bindE hr
    obtain ⟨u, rfl⟩ := (asS_eq h1 ▸ hb : Rv w b₀ T φ b (.str i)).inv
    obtain ⟨c, es, n, rfl, io, l, rs⟩ := ha.inv
    have hm := mapS' (prog := prog) (hO _ _ io) rs
    rcases rs.find i with ⟨_, e2⟩ | ⟨v, d, e1, e2, rv⟩
    · exact no (e2 ▸ hr)
    · exact tail_any hm.typeIs slot_dict_getitem.lookup (wpAny_getItem_of (strKind_is prog w _ _) hm e1 (k.here I (Option.some.inj (e2.symm.trans hr) ▸ rv))) (hsub _ _)
  · obtain ⟨vs, h1, hr⟩ := bindE hr
    obtain ⟨c, us, n, e, hg, rs⟩ := I.moList (boxAt_eq h1) ha
    exact lst hr ⟨_, hg, rfl, n, rfl⟩ rs e

theorem bInts_inj {b c : Array UInt8} (h : KBw.bInts b = KBw.bInts c) : b = c := by
  obtain ⟨b⟩ := b; obtain ⟨c⟩ := c
  rw [KBw.ints_list, KBw.ints_list] at h
  congr 1
  induction b generalizing c with
  | nil => cases c with | nil => rfl | cons _ _ => simp at h
  | cons x b ih =>
    cases c with
    | nil => simp at h
    | cons y c =>
      simp only [List.map_cons, List.cons.injEq] at h
      have : x = y := UInt8.toNat_inj.mp (by omega)
      rw [this, ih c h.2]
theorem picked_sl {b : List UInt8} {i j : Int} (h0 : 0 ≤ i) (h1 : 0 ≤ j) : KBy.picked b.toArray (some i) (some j) = (sl i j b).toArray := by
  rw [KBc.picked_eq]
  obtain ⟨i, rfl⟩ := Int.eq_ofNat_of_zero_le h0
  obtain ⟨j, rfl⟩ := Int.eq_ofNat_of_zero_le h1
  simp only [Option.elim, clipAt_nat, List.size_toArray, sl, Int.toNat_natCast]
  congr 1
  rw [List.take_drop]
  apply List.ext_getElem?
  intro k
  simp only [List.getElem?_drop, List.getElem?_take]
  by_cases hk : min i b.length + k < min j b.length
  · by_cases hi : i ≤ b.length
    · rw [Nat.min_eq_left hi] at hk ⊢
      rw [if_pos (by with_reducible (apply Mine.mn3 <;> assumption)), if_pos (by with_reducible (apply Mine.mn1 <;> assumption))]
    · rw [Nat.min_eq_right (by omega)] at hk ⊢; omega
  · rw [if_neg (by omega)]
    by_cases hj : i + k < j
    · rw [if_pos hj, eq_comm, List.getElem?_eq_none]; omega
    · rw [if_neg hj]

end
end Mine
end
section
namespace Mine
open PySem PySem.W PyProof.Rows PySem.Spec PySem.Calls

section
variable {prog : Program} {w : World} {A₀ A : Around} {s : Shared} {base h₀ : Heap} {outer : List Env} {L : Addr} {m : Str → Option Value} {env : Env} {news : List (Addr × Obj)}
  {R : Flow → Shared → Prop} {name qual : Str} {params : Arguments} {body : List Stmt} {scope : Scope} {dV kV doc pm cdv ct : Value} {an : Option Addr} {fo : Obj} {f : Addr} {args : Args} {binds : List (Str × Value)}

theorem codeC_call_function {a : Addr} {o : Obj} {fd : FuncData} (hroom : A.depth < recursionLimit)
    (ho : s.heap.get? a = some o)
    (hd' : o.data = .func fd) (hco : fd.scope.isCoroutine = false) (hgen : fd.scope.isGenerator = false) (hbody : fd.body = .stmts body) (hcd : s.heap.CodeRec fd.code fd.qualname)
    (h : wpAny (model prog w) A.in1 (bindArgs fd args) (fun binds s₁ =>
      wpAny (model prog w) A.in1 (newFunctionEnv fd.scope fd.globals fd.closure binds (fd.qualname ++ ".<locals>.") (some a) fd.code none fd.builtins)
        (fun env s₂ => s₂.heap.NoLimit ∧ codeC (model prog w) A (.func body env) R s₂) (fun _ _ => False) s₁) (fun _ _ => False) s) :
    codeC (model prog w) A (.call (.ref a) args) R s := by
  refine codeC_of_tree ?_
  show wpC _ A.in1 (callAny (.ref a) args) _ s
  simp only [callAny]
  refine wpC_bindA (wpAny_load ho ?_)
  obtain ⟨c, oc, vs, tq, hc, hoc, hdc, hq⟩ := hcd
  simp only [hd', callFunction, hco, hgen, hbody, hc]
  rw [hc] at h
  refine wpC_bindA (m := field (.ref c) 1) (wpAny_field hoc hdc hq (wpC_bind (wpC_pure ?_)))
  exact wpC_bindA (wpAny_mono h (fun binds s₁ h₁ => wpC_bindA (wpAny_mono h₁ (fun env s₂ h₂ => wpC_bindA (wpAny_enterFrame h₂.1 hroom
    (wpC_pure (And.intro rfl h₂.2)))) fun _ _ h' => h')) fun _ _ h' => h')

noncomputable def LeaveC (h₀ : Heap) (L : Addr) (m : Str → Option Value) (g : Heap) (R : Flow → Shared → Prop) (v : Value) (s' : Shared) : Prop :=
  ∃ L' m' news', Fr g L' s'.heap m' ∧ News g L' s'.heap news' ∧ (Fr h₀ L s'.heap m → News h₀ L s'.heap news' → R (.ret v) s')

theorem codeC_callX (B : Below A₀ base outer h₀) (F : Fr h₀ L s.heap m) (N : News h₀ L s.heap news) (hlim : h₀.NoLimit) (hA : A.frames = some (env :: outer)) (hf : env.frame = some L) (hke : env.scope.kind = .function)
    (ho : s.heap.get? f = some fo) (hd : fo.data = .func (fnX name qual params body scope [] dV kV doc pm an cdv ct)) (hcd : s.heap.CodeRec cdv qual) (hroom : A.depth < recursionLimit)
    (hbind : BindsTo s (fnX name qual params body scope [] dV kV doc pm an cdv ct) args binds)
    (hkind : ∀ n, ∀ x ∈ binds, scope.names.lookup x.1 = some .local ∨ (scope.names.lookup x.1 = some .cell ∧ ((cellsFrom n scope.names []).lookup x.1).isSome = true))
    (hnd : ((cellsFrom 0 scope.names []).map (·.1)).Nodup)
    (h : ∀ g L' h₁ tk cells, Fr h₀ L g m → Fr g L' h₁ (bindL (envOfC qual scope L' f cdv).kindOf binds fun _ => none) → News g L' h₁ (cells ++ news) →
      CellsAre (bindC (envOfC qual scope L' f cdv).kindOf binds fun _ => none) (cellsFrom (L' + 1) scope.names []) cells → ((cellsFrom (L' + 1) scope.names []).Pairwise fun x y => x.2 ≠ y.2) → (∀ p ∈ cells, L' < p.1) →
      Below A base (env :: outer) g → h₀.StaysIn g → (∀ p ∈ news, p.1 < L') →
      wpC (model prog w) (A.deeper (envOfC qual scope L' f cdv)) (execs body (envOfC qual scope L' f cdv))
        (fun fl s' => LeaveC h₀ L m g R (match fl with | .ret v => v | _ => .none) s') { s with heap := h₁, toks := tk })
    (hco : scope.isCoroutine = false) (hgen : scope.isGenerator = false) (hk : scope.kind = .function) : codeC (model prog w) A (.call (.ref f) args) R s := by
  obtain ⟨FG, BG, st, lv⟩ := groundX (R := fun r s' => ∃ f, r = .ok f ∧ R f s') B F N hA hf hke
  refine codeC_call_function hroom ho hd hco hgen rfl hcd (hbind _ _ _ _ ?_)
  refine wpAny_newFunctionEnv_cells hk (hkind _) fun env' he s' x => ?_
  subst he
  refine ⟨(hlim.keeps F.keep).keeps x.toInCall.keep, codeC_func ?_⟩
  obtain ⟨h₁, tk, rfl, _⟩ := x.done
  have hk₁ := x.toInCall.keep
  obtain ⟨cells, NC, Y⟩ := Cl.news (h₀ := s.heap) (Nat.le_refl _) fun n c hm => ⟨x.cell n c (lookup_of_mem_nodup (cellsFrom_names scope.names 0 (s.heap.objs.size + 1) [] [] rfl ▸ hnd) hm), x.above n c hm⟩
  have hab : ∀ p ∈ cells, s.heap.objs.size < p.1 := by
    have : ∀ {cs cells'}, CellsAre (bindC (envOfC qual scope s.heap.objs.size f cdv).kindOf binds fun _ => none) cs cells' → (∀ n c, (n, c) ∈ cs → s.heap.objs.size < c) → ∀ p ∈ cells', s.heap.objs.size < p.1 := by
      intro cs cells' Y
      induction Y with
      | nil => intro _ p hp; cases hp
      | cons _ _ ih =>
        intro hx p hp
        rcases List.mem_cons.mp hp with rfl | hp
        · exact hx _ _ (.head _)
        · exact ih (fun n c hm => hx n c (.tail _ hm)) p hp
    exact this Y fun n c hm => x.above n c hm
  refine wpC_mono (h _ s.heap.objs.size h₁ tk cells FG ⟨x.toInCall.ns, fun b o e => hk₁ b o (of_hideAll _ e), Nat.le_of_eq (hideAll_size _ _)⟩ (fun p hp => ?_) Y x.apart hab BG st (fun p hp => Heap.lt_size (N p hp).1)) (fun fl s' hl => ?_)
  · rcases List.mem_append.mp hp with hp | hp
    · refine ⟨(NC p hp).1, (NC p hp).2.1, ?_⟩
      cases q : (hideAll s.heap (news.map (·.1))).get? p.1 with
      | none => rfl
      | some o => have := of_hideAll _ q; rw [(NC p hp).2.2] at this; cases this
    · exact ⟨hk₁ _ _ (N p hp).1, Nat.ne_of_lt (Heap.lt_size (N p hp).1), hideAll_none _ (List.mem_map_of_mem hp)⟩
  · obtain ⟨L', m', news', F', N', k⟩ := hl
    obtain ⟨f', e, q⟩ := lv _ _ ⟨L', m', news', F', N', fun a b => ⟨_, rfl, k a b⟩⟩
    cases e
    exact q
end
end Mine
end
section
namespace Mine
open PySem PySem.W PyProof.Rows PySem.Spec PySem.Calls

noncomputable def GlOk (w : World) (b₀ : Heap) (mg mb : Str → Option Value) (x : Str) : GR → Prop
  | .c d => ∃ v, mg x = some v ∧ Rv w b₀ [] [] v d
  | .f a => mg x = some (.ref a)
  | .k => mg x = some (.ref 237)
  | .b b => mg x = none ∧ mb x = some (biVal b)
  | .ba => mg x = none ∧ mb x = some (.type "bytearray")
  | .en => mg x = none ∧ mb x = some (.type "enumerate")

structure Glo (w : World) (K : Frag) (b₀ : Heap) (gl : List (Str × GR)) (mg mb : Str → Option Value) : Prop where
  KX : K.In b₀
  lim : b₀.NoLimit
  main : b₀.Ns mainGlobals mg
  bi : b₀.Ns builtinsNs mb
  names : ∀ x g, gl.lookup x = some g → GlOk w b₀ mg mb x g

structure Cx (b₀ : Heap) (c : Nat) (A : Around) (fenv : Env) (L : Addr) (h₀ : Heap) : Prop where
  below : ∃ A₀ base outer, Below A₀ base outer h₀ ∧ A.frames = some (fenv :: outer)
  stay : b₀.StaysIn h₀
  fr : fenv.frame = some L
  kind : fenv.scope.kind = .function
  hh : A.handled = none
  depth : A.depth + 2 * c + 8 < recursionLimit
  units : A.units + 16 * c + 40 < cLine

noncomputable def NmA (L : Addr) (m : Str → Option Value) (V : Led) (env : Env) (x : Str) (v : Value) : Prop :=
  (env.kindOf x = some .local ∧ env.locals = L ∧ m x = some v) ∨
  (∃ o mC, env.kindOf x = some .local ∧ (env.locals, o) ∈ V ∧ LCg.NsObj o mC ∧ mC x = some v) ∨
  (∃ c o, (env.kindOf x = some .cell ∨ env.kindOf x = some .free) ∧ env.cells.lookup x = some c ∧ (c, o) ∈ V ∧ o.data = .cell (some v))

theorem NmA.mono {L : Addr} {m : Str → Option Value} {V V' : Led} {env : Env} {x : Str} {v : Value} (h : NmA L m V env x v) (hs : ∀ p ∈ V, p ∈ V') : NmA L m V' env x v :=
  h.imp id fun h => h.imp (fun ⟨o, mC, h1, h2, h3⟩ => ⟨o, mC, h1, hs _ h2, h3⟩) fun ⟨c, o, h1, h2, h3, h4⟩ => ⟨c, o, h1, h2, hs _ h3, h4⟩

structure Nm (w : World) (b₀ : Heap) (L : Addr) (m : Str → Option Value) (V T : Led) (φ : List Addr) (sc : Scp) (vars : List Str) (env : Env) (ρ : List Slot) : Prop where
  kind : env.scope.kind = .function
  globals : env.globals = mainGlobals
  builtins : env.builtins = builtinsNs
  val : ∀ x i d, slotOf sc vars x = some i → ρ[i]? = some (.val d) → ∃ v, NmA L m (V ++ T) env x v ∧ Rv w b₀ T φ v d
  glob : ∀ x, sc.lookup x = some .globalImplicit → env.kindOf x = some .globalImplicit
  cell : ∀ x, sc.lookup x = some .cell → env.kindOf x = some .cell ∧ ∃ c, env.cells.lookup x = some c

theorem Nm.ext {w : World} {b₀ : Heap} {L : Addr} {m : Str → Option Value} {V T T' : Led} {φ φ' : List Addr} {sc : Scp} {vars : List Str} {env : Env} {ρ : List Slot} (n : Nm w b₀ L m V T φ sc vars env ρ) (e : Ext T φ T' φ') :
    Nm w b₀ L m V T' φ' sc vars env ρ :=
  ⟨n.kind, n.globals, n.builtins, fun x i d h1 h2 => let ⟨v, a, r⟩ := n.val x i d h1 h2; ⟨v, a.mono fun p hp => by
    rcases List.mem_append.mp hp with hp | hp
    · exact List.mem_append_left _ hp
    · exact List.mem_append_right _ (e.1 p hp), e.rv r⟩, n.glob, n.cell⟩

section
variable (prog : Program) (w : World) (K : Frag) (b₀ : Heap) (tab : Nat → Option PFun) (c : Nat)

noncomputable def SX (sc : Scp) (vars : List Str) (e : Expr) (px : PX) : Prop :=
  ∀ ⦃A : Around⦄ ⦃fenv : Env⦄ ⦃L : Addr⦄ ⦃h₀ : Heap⦄ ⦃m : Str → Option Value⦄ ⦃U X T : Led⦄ ⦃φ : List Addr⦄ ⦃σ : St⦄ ⦃ρ : List Slot⦄ ⦃s : Shared⦄ ⦃env : Env⦄ ⦃d : PV⦄ ⦃σ' : St⦄ ⦃Q : Value → Shared → Prop⦄,
    Cx b₀ c A fenv L h₀ → Nm w b₀ L m (U ++ X) T φ sc vars env ρ → Inv w b₀ h₀ L m φ σ U X T s.heap → ev (callF tab c) px ρ σ = some (d, σ') → PE w b₀ h₀ L m U X T φ s d σ' Q →
    wpC (model prog w) A (eval e env) Q s

noncomputable def SB (sc : Scp) (vars : List Str) (e : Expr) (px : PX) : Prop :=
  ∀ ⦃A : Around⦄ ⦃fenv : Env⦄ ⦃L : Addr⦄ ⦃h₀ : Heap⦄ ⦃m : Str → Option Value⦄ ⦃U X T : Led⦄ ⦃φ : List Addr⦄ ⦃σ : St⦄ ⦃ρ : List Slot⦄ ⦃s : Shared⦄ ⦃env : Env⦄ ⦃d : PV⦄ ⦃b : Bool⦄ ⦃σ' : St⦄ ⦃Q : Bool → Shared → Prop⦄,
    Cx b₀ c A fenv L h₀ → Nm w b₀ L m (U ++ X) T φ sc vars env ρ → Inv w b₀ h₀ L m φ σ U X T s.heap → ev (callF tab c) px ρ σ = some (d, σ') → truth d = some b →
    (∀ h' tk' T' φ', Inv w b₀ h₀ L m φ' σ' U X T' h' → Ext T φ T' φ' → Q b { s with heap := h', toks := tk' }) →
    wpC (model prog w) A (isTrue e env (eval e env)) Q s

noncomputable def PXs.len : PXs → Nat
  | .nil => 0
  | .cons _ r => r.len + 1
theorem evs_len {cf : CF} : ∀ {pxs : PXs} {ρ : List Slot} {σ σ' : St} {ds : List PV}, evs cf pxs ρ σ = some (ds, σ') → ds.length = pxs.len
  | .nil, _, _, _, _, h => by simp only [evs] at h; cases h; rfl
  | .cons x r, ρ, σ, σ', ds, h => by
    simp only [evs] at h
    obtain ⟨⟨x, σ₁⟩, h3, h⟩ := bindE h
    obtain ⟨⟨ys, σ₂⟩, h4, h⟩ := mapE h
    cases h
    rw [List.length_cons, evs_len h4]; rfl

noncomputable def SXs (sc : Scp) (vars : List Str) (es : List Expr) (pxs : PXs) : Prop :=
  ((∀ e ∈ es, noStar e = true) ∧ pxs.len = es.length) ∧ ∀ ⦃A : Around⦄ ⦃fenv : Env⦄ ⦃L : Addr⦄ ⦃h₀ : Heap⦄ ⦃m : Str → Option Value⦄ ⦃U X T : Led⦄ ⦃φ : List Addr⦄ ⦃σ : St⦄ ⦃ρ : List Slot⦄ ⦃s : Shared⦄ ⦃env : Env⦄ ⦃ds : List PV⦄ ⦃σ' : St⦄ ⦃pos : Pos⦄ ⦃Q : List Value → Shared → Prop⦄,
    Cx b₀ c A fenv L h₀ → Nm w b₀ L m (U ++ X) T φ sc vars env ρ → Inv w b₀ h₀ L m φ σ U X T s.heap → evs (callF tab c) pxs ρ σ = some (ds, σ') →
    (∀ vs h' tk' T' φ', Inv w b₀ h₀ L m φ' σ' U X T' h' → Ext T φ T' φ' → Rvs w b₀ T' φ' vs ds → Q vs { s with heap := h', toks := tk' }) →
    wpC (model prog w) A (spliced (backTo pos (starEach es env))) Q s
end

section
variable {prog : Program} {w : World} {K : Frag} {b₀ : Heap} {mg mb : Str → Option Value} {tab : Nat → Option PFun} {c : Nat} {sc : Scp} {vars : List Str}

theorem here {A : Around} {L : Addr} {h₀ : Heap} {m : Str → Option Value} {U X T : Led} {φ : List Addr} {σ : St} {s : Shared} {d : PV} {Q : Value → Shared → Prop} {v : Value}
    (k : PE w b₀ h₀ L m U X T φ s d σ Q) (I : Inv w b₀ h₀ L m φ σ U X T s.heap) (r : Rv w b₀ T φ v d) : Q v s := by
  obtain ⟨h, g, dr, t, os⟩ := s
  exact k.here (tk := t) I r

theorem sx_const {kk : Const} {kd : Nat} {pos : Pos} {d : PV} (h : constOf kk = some d) : SX prog w b₀ tab c sc vars (.Constant kk kd pos) (.lit d) := by
  intro A fenv L h₀ m U X T φ σ ρ s env d' σ' Q C N I he k
  obtain ⟨rfl, rfl⟩ := prodE (Option.some.inj he)
  refine wpC_of ?_
  cases kk <;> first | exact no h | obtain rfl := Option.some.inj h
  · exact Constant_none (here (A := A) k I .none)
  · exact Constant_bool (here (A := A) k I (.bool _))
  · exact wpAny_Constant_int (k.here I (.int _ _))
  · exact Constant_str (k.here I (.str _ _))
  · exact fun _ _ _ => k.here I (.byt _ _)

theorem ok_debug {x : Str} (h : okName x = true) : (x == ("__debug__" : Str)) = false ∧ (x == ("__classdict__" : Str)) = false := by
  unfold okName at h
  obtain ⟨h1, h2⟩ := Bool.and_eq_true_iff.mp h
  exact ⟨beq_eq_false_iff_ne.mpr (of_decide_eq_true h1), beq_eq_false_iff_ne.mpr (of_decide_eq_true h2)⟩

theorem load_nm {A : Around} {h₀ : Heap} {L : Addr} {m : Str → Option Value} {U X T : Led} {φ : List Addr} {σ : St} {s : Shared} {env : Env} {x : Str} {v : Value} {Q : Value → Shared → Prop} (hn : okName x = true) (hk : env.scope.kind = .function)
    (a : NmA L m ((U ++ X) ++ T) env x v) (I : Inv w b₀ h₀ L m φ σ U X T s.heap) (h : Q v s) : wpAny (model prog w) A (loadName env x) Q (fun _ _ => False) s := by
  have hm : ∀ p ∈ (U ++ X) ++ T, s.heap.get? p.1 = some p.2 := fun p hp => I.get (by simpa only [List.append_assoc] using hp)
  rcases a with ⟨h1, h2, h3⟩ | ⟨o, mC, h1, h2, h3, h4⟩ | ⟨c, o, h1, h2, h3, h4⟩
  · subst h2
    exact wpAny_loadName_local hk h1 I.F.ns h3 h
  · exact wpAny_loadName_local hk h1 (h3.ns (hm _ h2)) h4 h
  · rcases h1 with h1 | h1
    · exact wpAny_loadName_cell hk h1 h2 ⟨o, hm _ h3, h4⟩ h
    · exact wpAny_loadName_free hk h1 h2 ⟨o, hm _ h3, h4⟩ h (ok_debug hn).2

theorem sx_var {x : Str} {pos : Pos} {i : Nat} (hn : okName x = true) (h : slotOf sc vars x = some i) : SX prog w b₀ tab c sc vars (.Name x pos) (.var i) := by
  intro A fenv L h₀ m U X T φ σ ρ s env d' σ' Q C N I he k
  obtain ⟨d, hd, he⟩ := mapE he
  obtain ⟨rfl, rfl⟩ := prodE he
  obtain ⟨v, a, r⟩ := N.val x i _ h (valAt_eq hd)
  exact wpC_of (wpAny_Name (load_nm hn N.kind a I (here (A := A) k I r)) (ok_debug hn).1)

theorem name_glob {A : Around} {fenv env : Env} {h₀ : Heap} {L : Addr} {m : Str → Option Value} {U X T V : Led} {φ : List Addr} {σ : St} {ρ : List Slot} {s : Shared} {x : Str} {pos : Pos} {v : Value} {Q : Value → Shared → Prop} (G : Glo w K b₀ gl mg mb) (C : Cx b₀ c A fenv L h₀)
    (N : Nm w b₀ L m V T φ sc vars env ρ) (I : Inv w b₀ h₀ L m φ σ U X T s.heap) (hn : okName x = true) (hs : sc.lookup x = some .globalImplicit) (hv : mg x = some v ∨ (mg x = none ∧ mb x = some v)) (h : Q v s) :
    wpAny (model prog w) A (eval (.Name x pos) env) Q (fun _ _ => False) s := by
  have up : ∀ b o, b₀.get? b = some o → s.heap.get? b = some o := fun b o e => I.F.keep b o (C.stay b o e)
  refine Name_function_global N.kind (N.glob x hs) ?_ (ok_debug hn).1
  rcases hv with hv | ⟨h1, h2⟩
  · exact loadGlobal_global (by rw [N.globals]; exact G.main.keeps up) hv h
  · exact loadGlobal_builtin (by rw [N.globals]; exact G.main.keeps up) h1 (by rw [N.builtins]; exact G.bi.keeps up) h2 h

theorem sx_glob {x : Str} {pos : Pos} {d : PV} (G : Glo w K b₀ gl mg mb) (hn : okName x = true) (hs : sc.lookup x = some .globalImplicit) (hg : gl.lookup x = some (.c d)) : SX prog w b₀ tab c sc vars (.Name x pos) (.lit d) := by
  intro A fenv L h₀ m U X T φ σ ρ s env d' σ' Q C N I he k
  obtain ⟨rfl, rfl⟩ := prodE (Option.some.inj he)
  obtain ⟨v, h1, h2⟩ := G.names x _ hg
  exact wpC_of (name_glob G C N I hn hs (.inl h1) (here (A := A) k I (h2.mono (fun _ h => by cases h) (List.nil_prefix))))

theorem sx_neg {i : Int} {kd : Nat} {p pos : Pos} : SX prog w b₀ tab c sc vars (.UnaryOp .USub (.Constant (.int i) kd p) pos) (.lit (.int (-i))) := by
  intro A fenv L h₀ m U X T φ σ ρ s env d' σ' Q C N I he k
  obtain ⟨rfl, rfl⟩ := prodE (Option.some.inj he)
  exact wpC_of (UnaryOp_ (wpAny_Constant_int (neg_int (k.here I (.int _ _)))))

theorem sx_bin {l r : Expr} {op : Operator} {o : BOp} {pl pr : PX} {pos : Pos} (ho : opOf op = some o) (hl : SX prog w b₀ tab c sc vars l pl) (hr : SX prog w b₀ tab c sc vars r pr) : SX prog w b₀ tab c sc vars (.BinOp l op r pos) (.bin o pl pr) := by
  intro A fenv L h₀ m U X T φ σ ρ s env d' σ' Q C N I he k
  obtain ⟨⟨x, σ₁⟩, h1, he⟩ := bindE he
  obtain ⟨⟨y, σ₂⟩, h2, he⟩ := bindE he
  obtain ⟨z, h3, he⟩ := mapE he
  obtain ⟨rfl, rfl⟩ := prodE he
  refine c_BinOp (hl C N I h1 fun a h₁ t₁ T₁ φ₁ I₁ e₁ r₁ => hr C (N.ext e₁) I₁ h2 fun b h₂ t₂ T₂ φ₂ I₂ e₂ r₂ => wpC_of ?_)
  exact bin_ok ho h3 (e₂.rv r₁) r₂ I₂ C.stay fun v h' tk' T' φ' I' e' r' => k v h' tk' T' φ' I' (e₁.trans (e₂.trans e')) r'

theorem marks_plain {op : CmpOp} {r : Expr} (hm : noSet r = true) : behindInMarks op r = false := by cases r <;> first | rfl | exact nomatch hm

theorem sx_cmp {l r : Expr} {op : CmpOp} {pl pr : PX} {pos : Pos} (hm : noSet r = true) (hl : SX prog w b₀ tab c sc vars l pl) (hr : SX prog w b₀ tab c sc vars r pr) : SX prog w b₀ tab c sc vars (.Compare l [op] [r] pos) (.cmp pl (copOf op) pr) := by
  intro A fenv L h₀ m U X T φ σ ρ s env d' σ' Q C N I he k
  obtain ⟨⟨x, σ₁⟩, h1, he⟩ := bindE he
  obtain ⟨⟨y, σ₂⟩, h2, he⟩ := bindE he
  obtain ⟨z, h3, he⟩ := mapE he
  obtain ⟨rfl, rfl⟩ := prodE he
  have hb := marks_plain (op := op) hm
  refine c_Compare1 hb (hl C N I h1 fun a h₁ t₁ T₁ φ₁ I₁ e₁ r₁ => hr C (N.ext e₁) I₁ h2 fun b h₂ t₂ T₂ φ₂ I₂ e₂ r₂ => wpC_of ?_)
  exact cmp_ok h3 (e₂.rv r₁) r₂ I₂ C.stay (by have := C.units; with_reducible (apply Mine.un1 <;> assumption)) fun v h' tk' T' φ' I' e' r' => k v h' tk' T' φ' I' (e₁.trans (e₂.trans e')) r'

set_option tactic.hygienic true in
theorem truthy_ok {A : Around} {T : Led} {φ : List Addr} {s : Shared} {d : PV} {v : Value} {b : Bool} {Q : Bool → Shared → Prop} (ht : truth d = some b) (r : Rv w b₀ T φ v d) (h : Q b s) : wpAny (model prog w) A (truthy v) Q (fun _ _ => False) s := by
  cases d <;> first | exact no ht | skip
  · obtain rfl := r.inv; exact truthy_none (Option.some.inj ht ▸ h)
  · obtain rfl := r.inv; exact wpAny_truthy_bool (Option.some.inj ht ▸ h)
  · obtain ⟨t, rfl⟩ := r.inv
    rename_i i
    have e : (i != 0) = decide (i ≠ 0) := by
      rw [bne]; by_cases hi : i = 0 <;> simp [hi]
    exact truthy_int (by rw [e]; exact Option.some.inj ht ▸ h)

theorem sb_cmp {l r : Expr} {op : CmpOp} {pl pr : PX} {pos : Pos} (hm : noSet r = true) (hl : SX prog w b₀ tab c sc vars l pl) (hr : SX prog w b₀ tab c sc vars r pr) : SB prog w b₀ tab c sc vars (.Compare l [op] [r] pos) (.cmp pl (copOf op) pr) := by
  intro A fenv L h₀ m U X T φ σ ρ s env d' b σ' Q C N I he ht k
  obtain ⟨⟨x, σ₁⟩, h1, he⟩ := bindE he
  obtain ⟨⟨y, σ₂⟩, h2, he⟩ := bindE he
  obtain ⟨z, h3, he⟩ := mapE he
  obtain ⟨rfl, rfl⟩ := prodE he
  have hb := marks_plain (op := op) hm
  refine c_isTrue_Compare1 hb (hl C N I h1 fun a h₁ t₁ T₁ φ₁ I₁ e₁ r₁ => hr C (N.ext e₁) I₁ h2 fun b h₂ t₂ T₂ φ₂ I₂ e₂ r₂ => wpC_of ?_)
  exact cmp_ok h3 (e₂.rv r₁) r₂ I₂ C.stay (by have := C.units; with_reducible (apply Mine.un1 <;> assumption)) fun v h' tk' T' φ' I' e' r' => wpC_of (truthy_ok ht r' (k h' tk' T' φ' I' (e₁.trans (e₂.trans e'))))

theorem sx_cmp2 {l r₁ r₂ : Expr} {o₁ o₂ : CmpOp} {pl p₁ p₂ : PX} {pos : Pos} (hm : noSet r₂ = true) (hl : SX prog w b₀ tab c sc vars l pl) (hr₁ : SX prog w b₀ tab c sc vars r₁ p₁) (hr₂ : SX prog w b₀ tab c sc vars r₂ p₂) :
    SX prog w b₀ tab c sc vars (.Compare l [o₁, o₂] [r₁, r₂] pos) (.cmp2 pl (copOf o₁) p₁ (copOf o₂) p₂) := by
  intro A fenv L h₀ m U X T φ σ ρ s env d' σ' Q C N I he k
  obtain ⟨⟨x, σ₁⟩, h1, he⟩ := bindE he
  obtain ⟨⟨y, σ₂⟩, h2, he⟩ := bindE he
  obtain ⟨z, h3, he⟩ := bindE he
  have hb := marks_plain (op := o₂) hm
  refine c_Compare2 hb (hl C N I h1 fun a h₁ t₁ T₁ φ₁ I₁ e₁ q₁ => hr₁ C (N.ext e₁) I₁ h2 fun b h₂ t₂ T₂ φ₂ I₂ e₂ q₂ => wpC_of ?_)
  refine cmp_ok h3 (e₂.rv q₁) q₂ I₂ C.stay (by have := C.units; with_reducible (apply Mine.un1 <;> assumption)) fun v h' tk' T' φ' I' e' r' => wpC_of (truthy_ok (b := z) rfl r' ?_)
  cases z with
  | false => cases he; exact k v h' tk' T' φ' I' (e₁.trans (e₂.trans e')) r'
  | true =>
    obtain ⟨⟨z', σ₃⟩, h4, he⟩ := bindE he
    obtain ⟨z'', h5, he⟩ := mapE he
    obtain ⟨rfl, rfl⟩ := prodE he
    exact hr₂ C (N.ext (e₁.trans (e₂.trans e'))) I' h4 fun b h₄ t₄ T₄ φ₄ I₄ e₄ q₄ => wpC_of (cmp_ok h5 (e₄.rv (e'.rv q₂)) q₄ I₄ C.stay (by have := C.units; with_reducible (apply Mine.un1 <;> assumption)) fun v h' tk' T' φ' I' e'' r' =>
      k v h' tk' T' φ' I' (e₁.trans (e₂.trans (e'.trans (e₄.trans e'')))) r')

theorem sb_cmp2 {l r₁ r₂ : Expr} {o₁ o₂ : CmpOp} {pl p₁ p₂ : PX} {pos : Pos} (hm : noSet r₂ = true) (hl : SX prog w b₀ tab c sc vars l pl) (hr₁ : SX prog w b₀ tab c sc vars r₁ p₁) (hr₂ : SX prog w b₀ tab c sc vars r₂ p₂) :
    SB prog w b₀ tab c sc vars (.Compare l [o₁, o₂] [r₁, r₂] pos) (.cmp2 pl (copOf o₁) p₁ (copOf o₂) p₂) := by
  intro A fenv L h₀ m U X T φ σ ρ s env d' bb σ' Q C N I he ht k
  obtain ⟨⟨x, σ₁⟩, h1, he⟩ := bindE he
  obtain ⟨⟨y, σ₂⟩, h2, he⟩ := bindE he
  obtain ⟨z, h3, he⟩ := bindE he
  have hb := marks_plain (op := o₂) hm
  refine c_isTrue_Compare2 hb (hl C N I h1 fun a h₁ t₁ T₁ φ₁ I₁ e₁ q₁ => hr₁ C (N.ext e₁) I₁ h2 fun b h₂ t₂ T₂ φ₂ I₂ e₂ q₂ => wpC_of ?_)
  refine cmp_ok h3 (e₂.rv q₁) q₂ I₂ C.stay (by have := C.units; with_reducible (apply Mine.un1 <;> assumption)) fun v h' tk' T' φ' I' e' r' => wpC_of (truthy_ok (b := z) rfl r' ?_)
  cases z with
  | false => cases he; cases ht; exact k h' tk' T' φ' I' (e₁.trans (e₂.trans e'))
  | true =>
    obtain ⟨⟨z', σ₃⟩, h4, he⟩ := bindE he
    obtain ⟨z'', h5, he⟩ := mapE he
    obtain ⟨rfl, rfl⟩ := prodE he
    exact hr₂ C (N.ext (e₁.trans (e₂.trans e'))) I' h4 fun b h₄ t₄ T₄ φ₄ I₄ e₄ q₄ => wpC_of (cmp_ok h5 (e₄.rv (e'.rv q₂)) q₄ I₄ C.stay (by have := C.units; with_reducible (apply Mine.un1 <;> assumption)) fun v h' tk' T' φ' I' e'' r' =>
      wpC_of (truthy_ok ht r' (k h' tk' T' φ' I' (e₁.trans (e₂.trans (e'.trans (e₄.trans e'')))))))

theorem sb_plain {e : Expr} {px : PX} (hp : plainTest e = true) (h : SX prog w b₀ tab c sc vars e px) : SB prog w b₀ tab c sc vars e px := by
  intro A fenv L h₀ m U X T φ σ ρ s env d' b σ' Q C N I he ht k
  exact c_isTrue_plain hp (h C N I he fun v h' tk' T' φ' I' e' r' => wpC_of (truthy_ok ht r' (k h' tk' T' φ' I' e')))

theorem sx_and {a b : Expr} {pa pb : PX} {pos : Pos} (ha : SX prog w b₀ tab c sc vars a pa) (hb : SX prog w b₀ tab c sc vars b pb) : SX prog w b₀ tab c sc vars (.BoolOp .And [a, b] pos) (.and pa pb) := by
  intro A fenv L h₀ m U X T φ σ ρ s env d' σ' Q C N I he k
  obtain ⟨⟨x, σ₁⟩, h1, he⟩ := bindE he
  obtain ⟨t, h2, he⟩ := bindE he
  refine c_and (ha C N I h1 fun v h₁ t₁ T₁ φ₁ I₁ e₁ r₁ => wpC_of (truthy_ok h2 r₁ ?_))
  cases t with
  | false => cases he; exact k _ _ _ _ _ I₁ e₁ r₁
  | true => exact hb C (N.ext e₁) I₁ he fun v h' tk' T' φ' I' e' r' => k v h' tk' T' φ' I' (e₁.trans e') r'
theorem sx_or {a b : Expr} {pa pb : PX} {pos : Pos} (ha : SX prog w b₀ tab c sc vars a pa) (hb : SX prog w b₀ tab c sc vars b pb) : SX prog w b₀ tab c sc vars (.BoolOp .Or [a, b] pos) (.or pa pb) := by
  intro A fenv L h₀ m U X T φ σ ρ s env d' σ' Q C N I he k
  obtain ⟨⟨x, σ₁⟩, h1, he⟩ := bindE he
  obtain ⟨t, h2, he⟩ := bindE he
  refine c_or (ha C N I h1 fun v h₁ t₁ T₁ φ₁ I₁ e₁ r₁ => wpC_of (truthy_ok h2 r₁ ?_))
  cases t with
  | true => cases he; exact k _ _ _ _ _ I₁ e₁ r₁
  | false => exact hb C (N.ext e₁) I₁ he fun v h' tk' T' φ' I' e' r' => k v h' tk' T' φ' I' (e₁.trans e') r'
theorem sb_and {a b : Expr} {pa pb : PX} {pos : Pos} (ha : SB prog w b₀ tab c sc vars a pa) (hb : SB prog w b₀ tab c sc vars b pb) : SB prog w b₀ tab c sc vars (.BoolOp .And [a, b] pos) (.and pa pb) := by
  intro A fenv L h₀ m U X T φ σ ρ s env d' b' σ' Q C N I he ht k
  obtain ⟨⟨x, σ₁⟩, h1, he⟩ := bindE he
  obtain ⟨t, h2, he⟩ := bindE he
  refine c_isTrue_and (ha C N I h1 h2 fun h₁ t₁ T₁ φ₁ I₁ e₁ => ?_)
  cases t with
  | false => cases he; rw [h2] at ht; cases ht; exact k _ _ _ _ I₁ e₁
  | true => exact hb C (N.ext e₁) I₁ he ht fun h' tk' T' φ' I' e' => k h' tk' T' φ' I' (e₁.trans e')
theorem sb_or {a b : Expr} {pa pb : PX} {pos : Pos} (ha : SB prog w b₀ tab c sc vars a pa) (hb : SB prog w b₀ tab c sc vars b pb) : SB prog w b₀ tab c sc vars (.BoolOp .Or [a, b] pos) (.or pa pb) := by
  intro A fenv L h₀ m U X T φ σ ρ s env d' b' σ' Q C N I he ht k
  obtain ⟨⟨x, σ₁⟩, h1, he⟩ := bindE he
  obtain ⟨t, h2, he⟩ := bindE he
  refine c_isTrue_or (ha C N I h1 h2 fun h₁ t₁ T₁ φ₁ I₁ e₁ => ?_)
  cases t with
  | true => cases he; rw [h2] at ht; cases ht; exact k _ _ _ _ I₁ e₁
  | false => exact hb C (N.ext e₁) I₁ he ht fun h' tk' T' φ' I' e' => k h' tk' T' φ' I' (e₁.trans e')
theorem sx_ite {t a b : Expr} {pt pa pb : PX} {pos : Pos} (ht : SB prog w b₀ tab c sc vars t pt) (ha : SX prog w b₀ tab c sc vars a pa) (hb : SX prog w b₀ tab c sc vars b pb) : SX prog w b₀ tab c sc vars (.IfExp t a b pos) (.ite pt pa pb) := by
  intro A fenv L h₀ m U X T φ σ ρ s env d' σ' Q C N I he k
  obtain ⟨⟨x, σ₁⟩, h1, he⟩ := bindE he
  obtain ⟨z, h2, he⟩ := bindE he
  refine c_IfExp (ht C N I h1 h2 fun h₁ t₁ T₁ φ₁ I₁ e₁ => ?_)
  cases z with
  | true => exact ha C (N.ext e₁) I₁ he fun v h' tk' T' φ' I' e' r' => k v h' tk' T' φ' I' (e₁.trans e') r'
  | false => exact hb C (N.ext e₁) I₁ he fun v h' tk' T' φ' I' e' r' => k v h' tk' T' φ' I' (e₁.trans e') r'
theorem sb_ite {t a b : Expr} {pt pa pb : PX} {pos : Pos} (ht : SB prog w b₀ tab c sc vars t pt) (ha : SB prog w b₀ tab c sc vars a pa) (hb : SB prog w b₀ tab c sc vars b pb) : SB prog w b₀ tab c sc vars (.IfExp t a b pos) (.ite pt pa pb) := by
  intro A fenv L h₀ m U X T φ σ ρ s env d' b' σ' Q C N I he htr k
  obtain ⟨⟨x, σ₁⟩, h1, he⟩ := bindE he
  obtain ⟨z, h2, he⟩ := bindE he
  refine c_isTrue_IfExp (ht C N I h1 h2 fun h₁ t₁ T₁ φ₁ I₁ e₁ => ?_)
  cases z with
  | true => exact ha C (N.ext e₁) I₁ he htr fun h' tk' T' φ' I' e' => k h' tk' T' φ' I' (e₁.trans e')
  | false => exact hb C (N.ext e₁) I₁ he htr fun h' tk' T' φ' I' e' => k h' tk' T' φ' I' (e₁.trans e')

theorem sxs_nil : SXs prog w b₀ tab c sc vars [] .nil := by
  refine ⟨⟨fun _ h => (nomatch h), rfl⟩, ?_⟩
  intro A fenv L h₀ m U X T φ σ ρ s env ds σ' pos Q C N I he k
  obtain ⟨rfl, rfl⟩ := prodE (Option.some.inj he)
  obtain ⟨h, g, dr, t, os⟩ := s
  exact c_spliced_nil (k [] h t T φ I .refl .nil)
theorem sxs_cons {e : Expr} {es : List Expr} {px : PX} {pxs : PXs} (hs : noStar e = true) (h1 : SX prog w b₀ tab c sc vars e px) (h2 : SXs prog w b₀ tab c sc vars es pxs) : SXs prog w b₀ tab c sc vars (e :: es) (.cons px pxs) := by
  refine ⟨⟨fun x h => ?_, by show pxs.len + 1 = es.length + 1; rw [h2.1.2]⟩, ?_⟩
  · rcases List.mem_cons.mp h with rfl | h
    · exact hs
    · exact h2.1.1 x h
  intro A fenv L h₀ m U X T φ σ ρ s env ds σ' pos Q C N I he k
  obtain ⟨⟨x, σ₁⟩, h3, he⟩ := bindE he
  obtain ⟨⟨ys, σ₂⟩, h4, he⟩ := mapE he
  obtain ⟨rfl, rfl⟩ := prodE he
  refine c_spliced_cons hs (h1 C N I h3 fun v h₁ t₁ T₁ φ₁ I₁ e₁ r₁ => h2.2 C (N.ext e₁) I₁ h4 fun vs h₂ t₂ T₂ φ₂ I₂ e₂ r₂ => ?_)
  exact k (v :: vs) h₂ t₂ T₂ φ₂ I₂ (e₁.trans e₂) (.cons (e₂.rv r₁) r₂)

theorem sx_tup {es : List Expr} {pxs : PXs} {k : Nat} {pos : Pos} (hl : es.length ≤ 64) (h : SXs prog w b₀ tab c sc vars es pxs) : SX prog w b₀ tab c sc vars (.Tuple es k pos) (.tup pxs) := by
  intro A fenv L h₀ m U X T φ σ ρ s env d' σ' Q C N I he k
  obtain ⟨⟨ds, σ₁⟩, h1, he⟩ := mapE he
  obtain ⟨rfl, rfl⟩ := prodE he
  refine c_Tuple (h.2 C N I h1 fun vs h' t' T' φ' I' e' r' => wpC_of ?_)
  have hlen : ds.length ≤ sizeLine := by rw [evs_len h1, h.1.2, sizeLine_eq]; with_reducible (apply Mine.le_f; assumption; decide)
  refine wpAny_newObj_type ?_ (by show vs.toArray.size ≤ sizeLine; rw [List.size_toArray, r'.length]; exact hlen)
  exact k _ _ _ _ _ (I'.alloc _ rfl) (e'.trans .alloc) (.tup (.inl (.head _)) ⟨rfl, rfl⟩ rfl (r'.mono (fun _ h => .tail _ h) List.prefix_rfl))
theorem sx_lst {es : List Expr} {pxs : PXs} {pos : Pos} (hl : es.length ≤ 64) (h : SXs prog w b₀ tab c sc vars es pxs) : SX prog w b₀ tab c sc vars (.List es pos) (.lst pxs) := by
  intro A fenv L h₀ m U X T φ σ ρ s env d' σ' Q C N I he k
  obtain ⟨⟨ds, σ₁⟩, h1, he⟩ := mapE he
  obtain ⟨rfl, rfl⟩ := prodE he
  refine c_List (h.2 C N I h1 fun vs h' t' T' φ' I' e' r' => wpC_of ?_)
  have hlen : ds.length ≤ sizeLine := by rw [evs_len h1, h.1.2, sizeLine_eq]; with_reducible (apply Mine.le_f; assumption; decide)
  refine wpAny_newObj_type ?_ (by show vs.toArray.size ≤ sizeLine; rw [List.size_toArray, r'.length]; exact hlen)
  exact k _ _ _ _ _ (I'.alloc _ rfl) (e'.trans .alloc) (.lst (.inl (.head _)) rfl rfl (r'.mono (fun _ h => .tail _ h) List.prefix_rfl))

theorem sx_idx {o i : Expr} {po pi : PX} {pos : Pos} (hn : noSl i = true) (ho : SX prog w b₀ tab c sc vars o po) (hi : SX prog w b₀ tab c sc vars i pi) : SX prog w b₀ tab c sc vars (.Subscript o i pos) (.idx po pi) := by
  intro A fenv L h₀ m U X T φ σ ρ s env d' σ' Q C N I he k
  obtain ⟨⟨x, σ₁⟩, h1, he⟩ := bindE he
  obtain ⟨⟨y, σ₂⟩, h2, he⟩ := bindE he
  obtain ⟨z, h3, he⟩ := mapE he
  obtain ⟨rfl, rfl⟩ := prodE he
  refine c_Subscript (ho C N I h1 fun a h₁ t₁ T₁ φ₁ I₁ e₁ r₁ => hi C (N.ext e₁) I₁ h2 fun b h₂ t₂ T₂ φ₂ I₂ e₂ r₂ => wpC_of ?_)
  exact idx_ok (by cases i <;> first | rfl | (cases hn)) h3 (e₂.rv r₁) r₂ I₂ C.stay fun v h' tk' T' φ' I' e' r' => k v h' tk' T' φ' I' (e₁.trans (e₂.trans e')) r'
end
end Mine
end
section
namespace Mine
open PySem PySem.W PyProof.Rows PySem.Spec PySem.Calls PySem.SeqAt

namespace FB2
theorem bar_no_bytes : typeLookup (.type "bytearray") "__bytes__" = pure none := by rw [typeLookup_type, builtinLookup_eq_fast]; kernel_rfl
theorem bar_no_index : typeLookup (.type "bytearray") "__index__" = pure none := by rw [typeLookup_type, builtinLookup_eq_fast]; kernel_rfl
theorem bar_buffer : typeLookup (.type "bytearray") "__buffer__" = pure (some (.builtin "bytearray.__buffer__")) := by rw [typeLookup_type, builtinLookup_eq_fast]; kernel_rfl
theorem bar_release : typeLookup (.type "bytearray") "__release_buffer__" = pure (some (.builtin "bytearray.__release_buffer__")) := by rw [typeLookup_type, builtinLookup_eq_fast]; kernel_rfl
theorem int_no_bytes : typeLookup (.type "int") "__bytes__" = pure none := by rw [typeLookup_type, builtinLookup_eq_fast]; kernel_rfl
theorem int_index : typeLookup (.type "int") "__index__" = pure (some (.builtin "int.__index__")) := by rw [typeLookup_type, builtinLookup_eq_fast]; kernel_rfl
theorem rng_no_bytes : typeLookup (.type "range") "__bytes__" = pure none := by rw [typeLookup_type, builtinLookup_eq_fast]; kernel_rfl
theorem rng_no_index : typeLookup (.type "range") "__index__" = pure none := by rw [typeLookup_type, builtinLookup_eq_fast]; kernel_rfl
theorem rng_no_buffer : typeLookup (.type "range") "__buffer__" = pure none := by rw [typeLookup_type, builtinLookup_eq_fast]; kernel_rfl
theorem bar_sub : isSubtype (.type "bytearray") (.type "bytearray") = pure true := by rw [isSubtype_type]; kernel_rfl
theorem rng_len : typeLookup (.type "range") "__len__" = pure (some (.builtin "range.__len__")) := by rw [typeLookup_type, builtinLookup_eq_fast]; kernel_rfl
theorem rng_sub : isSubtype (.type "range") (.type "range") = pure true := by rw [isSubtype_type]; kernel_rfl
theorem rng_split : splitId "range.__len__" = some ("range", "__len__") := by decide +kernel
end FB2

section
variable {prog : Program} {w : World} {A : Around} {E : Value → Shared → Prop} {s : Shared}

theorem call_bytes {x : Value} {Q : Value → Shared → Prop} (h : codeAny (model prog w) A.in1 (.call (.builtin "bytes.__new__") ⟨[.type "bytes", x], []⟩) (wants (fun obj s₁ => s₁.TypeIs obj "bytes" ∧ Q obj s₁) E) s) :
    wpAny (model prog w) A (call (.type "bytes") [x]) Q E s := by
  refine callType_codes (Q₁ := fun obj s₁ => s₁.TypeIs obj "bytes" ∧ Q obj s₁) F.bm_called (F.bm_typeCall _) F.entry_object_init h fun obj s₁ h₁ => ?_
  exact ⟨h₁.1, F.args_object_init_2 obj _, object_init_meets F.bm_called.init.lookup F.bm_called.made (by decide) prog w A.in1 _ s₁ ⟨h₁.1, rfl, h₁.2⟩⟩

theorem bytes_new_int {n : Int} {t : Tok} {Q : Value → Shared → Prop} (h0 : 0 ≤ n) (hz : n.toNat ≤ sizeLine) (h : ∀ t' tk, Q (.bytes (Array.replicate n.toNat 0) t') { s with toks := tk }) :
    codeAny (model prog w) A (.call (.builtin "bytes.__new__") ⟨[.type "bytes", .int n t], []⟩) (wants Q E) s := by
  have hn : n < 2 ^ 62 := by rw [sizeLine_eq] at hz; omega
  refine codeAny_of_tree ?_
  show wpAny _ A.in1 (do checkBuiltinCall "bytes.__new__" ⟨[.type "bytes", .int n t], []⟩; again (.builtin "bytes.__new__" ⟨[.type "bytes", .int n t], []⟩)) _ _ s
  refine wpAny_bind (wpAny_of_eq (F.bm_newCall _) (wpAny_pure ⟨plainId_quiet F.bm_plain _, codeAny_builtin F.bm_entry ?_⟩))
  rw [Around.under_plainId F.bm_plain _]
  have hT : s.TypeIs (.int n t) "int" := rfl
  unfold Builtin.«bytes.__new__»
  refine wpAny_bind (wpAny_of_eq (a := true) rfl ?_)
  refine bm_if_false rfl ?_
  refine wpAny_bind (wpAny_of_eq F.bm_sub ?_)
  refine bm_if_false rfl ?_
  refine wpAny_bind (wpAny_of_eq (F.bm_bind _) ?_)
  refine wpAny_bind (wpAny_of_eq (a := ()) rfl ?_)
  refine wpAny_bind (wpAny_of_eq (a := ()) rfl ?_)
  refine bm_if_false rfl ?_
  refine wpAny_bind (wpAny_specialOf hT FB2.int_no_bytes ?_)
  refine wpAny_bind (wpAny_of_eq (a := false) rfl ?_)
  refine bm_if_false rfl ?_
  refine wpAny_bind (wpAny_specialOf hT FB2.int_index ?_)
  refine bm_if_false rfl ?_
  refine wpAny_bind (wpAny_attempt (wpAny_of_eq (rfl : asIndex (.int n t) = pure n) ?_))
  refine bm_if_false (by show (!(decide (-(2 ^ 63 : Int) ≤ n) && decide (n < 2 ^ 63))) = false; rw [decide_eq_true (by omega), decide_eq_true (by omega)]; rfl) ?_
  dsimp only
  rw [if_neg (show ¬ n < 0 by omega), if_neg (show ¬ n > 2 ^ 63 - 34 by omega)]
  refine bm_if_false (by show decide (n.toNat > sizeLine) = false; exact decide_eq_false (by omega)) ?_
  refine wpAny_bind (wpAny_rule ?_)
  refine wpAny_bind (wpAny_mkBytes ?_ (by simpa using hz))
  first
    | exact wpAny_pure (h _ _)
    | exact wpAny_bind (wpAny_pure (wpAny_pure (h _ _)))

theorem bytes_int {n : Int} {t : Tok} {Q : Value → Shared → Prop} (h0 : 0 ≤ n) (hz : n.toNat ≤ sizeLine) (h : ∀ t' tk, Q (.bytes (Array.replicate n.toNat 0) t') { s with toks := tk }) :
    wpAny (model prog w) A (call (.type "bytes") [.int n t]) Q E s := call_bytes (bytes_new_int h0 hz fun t' tk => ⟨PySem.W.typeIs_bytes _ _ _, h t' tk⟩)

theorem wpAny_ownRelease_bar {a : Addr} {Q : Bool → Shared → Prop} (hT : s.TypeIs (.ref a) "bytearray") (h : Q false s) : wpAny (model prog w) A (Builtin.Bytes.ownRelease (.ref a)) Q E s := by
  unfold Builtin.Bytes.ownRelease Builtin.Bytes.slotIsOwn
  refine wpAny_bind (wpAny_bind (wpAny_specialOf hT FB2.bar_release ?_))
  dsimp only
  refine bm_if_false (by decide +kernel) ?_
  have e : ("bytearray.__release_buffer__" : String).dropRight ("__release_buffer__".length + 1) = "bytearray" := by decide +kernel
  rw [e]
  exact wpAny_isInstance hT FB2.bar_sub (wpAny_pure h)

theorem bytes_new_bar {a : Addr} {b : Array UInt8} {Q : Value → Shared → Prop} (ho : s.heap.get? a = some { cls := .type "bytearray", data := .bytearray b }) (hz : b.size ≤ sizeLine) (h : ∀ t' tk, Q (.bytes b t') { s with toks := tk }) :
    codeAny (model prog w) A (.call (.builtin "bytes.__new__") ⟨[.type "bytes", .ref a], []⟩) (wants Q E) s := by
  refine codeAny_of_tree ?_
  show wpAny _ A.in1 (do checkBuiltinCall "bytes.__new__" ⟨[.type "bytes", .ref a], []⟩; again (.builtin "bytes.__new__" ⟨[.type "bytes", .ref a], []⟩)) _ _ s
  refine wpAny_bind (wpAny_of_eq (F.bm_newCall _) (wpAny_pure ⟨plainId_quiet F.bm_plain _, codeAny_builtin F.bm_entry ?_⟩))
  rw [Around.under_plainId F.bm_plain _]
  have hT : s.TypeIs (.ref a) "bytearray" := ⟨_, ho, rfl⟩
  unfold Builtin.«bytes.__new__»
  refine wpAny_bind (wpAny_of_eq (a := true) rfl ?_)
  refine bm_if_false rfl ?_
  refine wpAny_bind (wpAny_of_eq F.bm_sub ?_)
  refine bm_if_false rfl ?_
  refine wpAny_bind (wpAny_of_eq (F.bm_bind _) ?_)
  refine wpAny_bind (wpAny_of_eq (a := ()) rfl ?_)
  refine wpAny_bind (wpAny_of_eq (a := ()) rfl ?_)
  refine bm_if_false rfl ?_
  refine wpAny_bind (wpAny_specialOf hT FB2.bar_no_bytes ?_)
  refine wpAny_bind (wpAny_bind ?_)
  show wpAny _ _ (load a >>= _) _ _ _
  refine wpAny_bind (wpAny_load ho ?_)
  refine wpAny_pure (wpAny_pure ?_)
  refine bm_if_false rfl ?_
  refine wpAny_bind (wpAny_specialOf hT FB2.bar_no_index ?_)
  refine bm_if_true rfl ?_
  first
    | show wpAny _ _ (Builtin.Bytes.buffer? "bytes.__new__" (.ref a) true >>= _) _ _ _
    | (refine wpAny_bind ?_; show wpAny _ _ (Builtin.Bytes.buffer? "bytes.__new__" (.ref a) true >>= _) _ _ _)
  refine wpAny_bind ?_
  unfold Builtin.Bytes.buffer?
  refine wpAny_bind (wpAny_specialOf hT FB2.bar_buffer ?_)
  unfold Builtin.Bytes.slotIsOwn
  refine wpAny_bind (wpAny_bind (wpAny_specialOf hT FB2.bar_buffer ?_))
  dsimp only
  refine bm_if_false (by decide +kernel) ?_
  have e : ("bytearray.__buffer__" : String).dropRight ("__buffer__".length + 1) = "bytearray" := by decide +kernel
  rw [e]
  refine wpAny_isInstance hT FB2.bar_sub ?_
  refine bm_if_false rfl ?_
  refine wpAny_bind (wpAny_specialOf hT FB2.bar_buffer ?_)
  refine wpAny_bind (wpAny_ownRelease_bar hT ?_)
  refine bm_if_false rfl ?_
  refine wpAny_bind ?_
  unfold Builtin.Bytes.payload Builtin.Bytes.payload?
  refine wpAny_bind (wpAny_bind (wpAny_load ho ?_))
  refine wpAny_pure (wpAny_pure ?_)
  refine wpAny_pure ?_
  refine wpAny_bind (wpAny_rule ?_)
  refine wpAny_bind (wpAny_mkBytes ?_ hz)
  first
    | exact wpAny_pure (h _ _)
    | exact wpAny_bind (wpAny_pure (wpAny_pure (h _ _)))

theorem bytes_bar {a : Addr} {b : Array UInt8} {Q : Value → Shared → Prop} (ho : s.heap.get? a = some { cls := .type "bytearray", data := .bytearray b }) (hz : b.size ≤ sizeLine) (h : ∀ t' tk, Q (.bytes b t') { s with toks := tk }) :
    wpAny (model prog w) A (call (.type "bytes") [.ref a]) Q E s := call_bytes (bytes_new_bar ho hz fun t' tk => ⟨PySem.W.typeIs_bytes _ _ _, h t' tk⟩)

theorem bytes_loop {R : Result → Shared → Prop} {I S : Addr} {fp : List Addr} {ns : List Int} {P : Nat → Value → Prop} {St : Nat → Heap → Prop} (W : Walks prog w A.in1 I fp [I] ns.length P St) (hP : ∀ i v, i < ns.length → P i v → ∃ n t, ns[i]? = some n ∧ v = .int n t)
    (hr : ∀ n ∈ ns, 0 ≤ n ∧ n < 256) (hz : ns.length ≤ sizeLine) (hIS : I ≠ S) (hS : S ∉ fp) :
    ∀ (k i : Nat) (s : Shared), ns.length - i = k → i ≤ ns.length → St i s.heap → s.heap.get? S = some { cls := .type "bytearray", data := .bytearray (byteArr (ns.take i)) } →
      (∀ h' t k', (∀ b o, b ≠ I → b ≠ S → s.heap.get? b = some o → h'.get? b = some o) → R (.ok (.ret (.bytes (byteArr ns) t))) { s with heap := h', toks := k' }) →
      codeAny (model prog w) A (.builtin "bytes.__new__.loop" ⟨[.type "bytes", .ref I, .ref S], []⟩) R s := by
  intro k
  induction k with
  | zero =>
    intro i s hk hle hst hSo hR
    have hin : i = ns.length := by with_reducible (apply Mine.sb5 <;> assumption)
    subst hin
    refine codeAny_builtin F.bm_entry_loop ?_
    rw [Around.under_plainId F.bm_plain_loop _]
    show wpAny _ A.in1 (pyNext (.ref I) >>= _) _ _ s
    refine wpAny_bind (W.done _ _ _ hst fun h' tk he => ?_)
    have hS' : h'.get? S = some { cls := .type "bytearray", data := .bytearray (byteArr (ns.take ns.length)) } := he S _ (by simpa using Ne.symm hIS) hSo
    refine wpAny_bind ?_
    unfold Builtin.Bytes.payload Builtin.Bytes.payload?
    refine wpAny_bind (wpAny_bind (wpAny_load hS' ?_))
    refine wpAny_pure (wpAny_pure ?_)
    rw [List.take_length]
    refine wpAny_bind (wpAny_mkBytes ?_ (by rw [byteArr_size]; exact hz))
    show wpAny _ _ (if (Value.type "bytes" == Value.type "bytes") = true then _ else _) _ _ _
    refine bm_if_true (by decide) ?_
    first
      | exact wpAny_pure (hR h' _ _ fun b o hb _ e => he b o (by simpa using hb) e)
      | exact wpAny_bind (wpAny_pure (wpAny_pure (hR h' _ _ fun b o hb _ e => he b o (by simpa using hb) e)))
  | succ k ih =>
    intro i s hk hle hst hSo hR
    have hlt : i < ns.length := by with_reducible (apply Mine.sb7 <;> assumption)
    refine codeAny_builtin F.bm_entry_loop ?_
    rw [Around.under_plainId F.bm_plain_loop _]
    show wpAny _ A.in1 (pyNext (.ref I) >>= _) _ _ s
    refine wpAny_bind (W.item i _ _ _ hlt hst fun v h' tk hPv hst' he => ?_)
    obtain ⟨n, t, hn, rfl⟩ := hP i v hlt hPv
    obtain ⟨h0, h1⟩ := hr n (List.mem_of_getElem? hn)
    have hS' : h'.get? S = some { cls := .type "bytearray", data := .bytearray (byteArr (ns.take i)) } := he S _ (by simpa using Ne.symm hIS) hSo
    refine wpAny_bind (wpAny_holding (wpAny_of_eq (rfl : asIndex (.int n t) = pure n) ?_))
    refine wpAny_bind (wpAny_letGo ?_)
    refine bm_if_false (by simp only [Bool.or_eq_false_iff, decide_eq_false_iff_not]; omega) ?_
    refine wpAny_bind ?_
    show wpAny _ _ (updateBytearray S (·.push n.toNat.toUInt8)) _ _ _
    unfold updateBytearray
    refine wpAny_bind (wpAny_load hS' ?_)
    show wpAny _ _ (update S (Obj.mapBytearray (·.push n.toNat.toUInt8)) >>= fun _ => lookBehind S) _ _ _
    refine wpAny_bind (wpAny_update hS' ?_)
    have hS₂ : (h'.update S (Obj.mapBytearray (·.push n.toNat.toUInt8))).get? S = some { cls := .type "bytearray", data := .bytearray (byteArr (ns.take (i + 1))) } := by
      rw [byteArr_take hn]
      exact Heap.get?_update_self (Obj.mapBytearray (·.push n.toNat.toUInt8)) hS' rfl
    refine wpAny_lookBehind hS₂ ?_ ?_
    · show (if (byteArr (ns.take (i + 1))).size > sizeLine then some "bytearray:memory" else none) = none
      rw [if_neg]
      rw [byteArr_size, List.length_take]
      with_reducible (apply Mine.mn2 <;> assumption)
    · refine wpAny_pure ⟨plainId_quiet F.bm_plain_loop _, ih (i + 1) { s with heap := h'.update S (Obj.mapBytearray (·.push n.toNat.toUInt8)), toks := tk } (by with_reducible (apply Mine.sb3 <;> assumption)) hlt ?_ hS₂ fun h3 t' k' hk3 => ?_⟩
      · exact W.frame _ _ _ hst' fun b hb o e => (Heap.SameBut.update ..).extBut b o (fun q => hS (q ▸ hb)) e
      · exact hR h3 t' k' fun b o hbI hbS e => hk3 b o hbI hbS ((Heap.get?_update_other _ _ (Ne.symm hbS)).trans (he b o (by simpa using hbI) e))

theorem bytes_rng_loop {R : Result → Shared → Prop} {I S n : Nat} {s : Shared} (hh : A.handled = none) (hn : n ≤ 256) (hIS : I ≠ S) (hit : IsRangeIter s.heap I 0 n 1) (hS : s.heap.get? S = some { cls := .type "bytearray", data := .bytearray #[] })
    (h : ∀ h' t k', (∀ b o, b ≠ I → b ≠ S → s.heap.get? b = some o → h'.get? b = some o) → R (.ok (.ret (.bytes (byteArr ((List.range n).map Int.ofNat)) t))) { s with heap := h', toks := k' }) :
    codeAny (model prog w) A (.builtin "bytes.__new__.loop" ⟨[.type "bytes", .ref I, .ref S], []⟩) R s := by
  have hlen : ((List.range n).map Int.ofNat).length = n := by simp
  have hW := Walks.range (prog := prog) (w := w) (A := A.in1) hh I 0 1 n
  refine bytes_loop (fp := [I]) (ns := (List.range n).map Int.ofNat) (by rw [hlen]; exact hW) (fun i v hi e => ?_) (fun x hx => ?_) (by rw [hlen, sizeLine_eq]; with_reducible (apply Mine.le_f; assumption; decide)) hIS (by simpa using Ne.symm hIS) n 0 s (by rw [hlen]; rfl) (Nat.zero_le _) ?_ hS h
  · obtain ⟨t, e⟩ := e
    rw [hlen] at hi
    refine ⟨(i : Int), t, by simp [hi], ?_⟩
    rw [e]; congr 1; omega
  · obtain ⟨i, hi, rfl⟩ := List.mem_map.mp hx
    have := List.mem_range.mp hi
    simp only [Int.ofNat_eq_natCast]
    with_reducible (apply Mine.i256 <;> assumption)
  · simpa using hit

theorem bytes_new_rng {r : Addr} {n : Nat} {t u v : Tok} {Q : Value → Shared → Prop} (hh : A.handled = none) (ho : s.heap.get? r = some (rangeObj 0 n 1 t u v)) (hn : n ≤ 256)
    (h : ∀ h' t' tk, (∀ b o, s.heap.get? b = some o → h'.get? b = some o) → Q (.bytes (byteArr ((List.range n).map Int.ofNat)) t') { s with heap := h', toks := tk }) :
    codeAny (model prog w) A (.call (.builtin "bytes.__new__") ⟨[.type "bytes", .ref r], []⟩) (wants Q E) s := by
  refine codeAny_of_tree ?_
  show wpAny _ A.in1 (do checkBuiltinCall "bytes.__new__" ⟨[.type "bytes", .ref r], []⟩; again (.builtin "bytes.__new__" ⟨[.type "bytes", .ref r], []⟩)) _ _ s
  refine wpAny_bind (wpAny_of_eq (F.bm_newCall _) (wpAny_pure ⟨plainId_quiet F.bm_plain _, codeAny_builtin F.bm_entry ?_⟩))
  rw [Around.under_plainId F.bm_plain _]
  have hT : s.TypeIs (.ref r) "range" := ⟨_, ho, rfl⟩
  unfold Builtin.«bytes.__new__»
  refine wpAny_bind (wpAny_of_eq (a := true) rfl ?_)
  refine bm_if_false rfl ?_
  refine wpAny_bind (wpAny_of_eq F.bm_sub ?_)
  refine bm_if_false rfl ?_
  refine wpAny_bind (wpAny_of_eq (F.bm_bind _) ?_)
  refine wpAny_bind (wpAny_of_eq (a := ()) rfl ?_)
  refine wpAny_bind (wpAny_of_eq (a := ()) rfl ?_)
  refine bm_if_false rfl ?_
  refine wpAny_bind (wpAny_specialOf hT FB2.rng_no_bytes ?_)
  refine wpAny_bind (wpAny_bind ?_)
  show wpAny _ _ (load r >>= _) _ _ _
  refine wpAny_bind (wpAny_load ho ?_)
  refine wpAny_pure (wpAny_pure ?_)
  refine bm_if_false rfl ?_
  refine wpAny_bind (wpAny_specialOf hT FB2.rng_no_index ?_)
  refine bm_if_true rfl ?_
  first
    | show wpAny _ _ (Builtin.Bytes.buffer? "bytes.__new__" (.ref r) true >>= _) _ _ _
    | (refine wpAny_bind ?_; show wpAny _ _ (Builtin.Bytes.buffer? "bytes.__new__" (.ref r) true >>= _) _ _ _)
  refine wpAny_bind ?_
  unfold Builtin.Bytes.buffer?
  refine wpAny_bind (wpAny_specialOf hT FB2.rng_no_buffer ?_)
  refine wpAny_bind (wpAny_specialOf hT FB2.rng_no_buffer ?_)
  refine wpAny_pure ?_
  refine wpAny_bind (wpAny_tryCatch ?_)
  have hrs : Builtin.Range.rangeSize 0 (n : Int) 1 = n := by
    unfold Builtin.Range.rangeSize
    rw [if_pos (by decide)]
    by_cases hz : (0 : Int) < n
    · rw [if_pos hz]; (with_reducible exact Mine.ed1)
    · rw [if_neg hz]; omega
  have hsmall : Builtin.Range.small 0 (n : Int) 1 = true := by
    exact PySem.small_one (by (with_reducible decide)) (by (with_reducible decide)) (by omega) (by omega)
  refine wpAny_pyIter_range ho hsmall ?_
  rw [hrs]
  have ho₁ : (s.heap.push { cls := .type "range_iterator", data := .fields #[rawInt 0, rawInt n, rawInt 1] }).get? r = some (rangeObj 0 n 1 t u v) := Heap.get?_push_of_some _ ho
  have hI₁ : (s.heap.push { cls := .type "range_iterator", data := .fields #[rawInt 0, rawInt n, rawInt 1] }).get? s.heap.objs.size = some { cls := .type "range_iterator", data := .fields #[rawInt 0, rawInt n, rawInt 1] } := Heap.get?_push_size _ rfl
  have hk₁ : ∀ b o, s.heap.get? b = some o → (s.heap.push { cls := .type "range_iterator", data := .fields #[rawInt 0, rawInt n, rawInt 1] }).get? b = some o := fun b o e => Heap.get?_push_of_some _ e
  have hsz : (s.heap.push { cls := .type "range_iterator", data := .fields #[rawInt 0, rawInt n, rawInt 1] }).objs.size = s.heap.objs.size + 1 := Heap.size_push _ _
  generalize s.heap.push { cls := .type "range_iterator", data := .fields #[rawInt 0, rawInt n, rawInt 1] } = H at ho₁ hI₁ hk₁ hsz ⊢
  have hT₁ : ({ s with heap := H } : Shared).TypeIs (.ref r) "range" := ⟨_, ho₁, rfl⟩
  refine wpAny_bind (wpAny_holding ?_)
  unfold Builtin.Bytes.lengthHint
  refine wpAny_bind (wpAny_specialOf hT₁ FB2.rng_len ?_)
  dsimp only
  rw [FB2.rng_split]
  dsimp only
  refine wpAny_bind (wpAny_isInstance hT₁ FB2.rng_sub ?_)
  refine bm_if_false rfl ?_
  refine bm_if_false (by decide +kernel) ?_
  refine bm_if_true rfl ?_
  refine wpAny_bind (wpAny_rule (wpAny_bind (wpAny_attempt (call_len_range ho₁ hrs (by omega) ?_))))
  refine wpAny_bind (wpAny_pure ?_)
  dsimp only
  refine bm_if_false (by show decide ((n : Int).toNat > sizeLine) = false; exact decide_eq_false (by rw [sizeLine_eq]; with_reducible (apply Mine.tnn; assumption; decide))) ?_
  refine wpAny_pure ?_
  refine wpAny_bind ?_
  unfold Builtin.Bytes.newBytearray
  refine wpAny_newObj_type ?_ (Nat.zero_le _)
  have main := bytes_rng_loop (prog := prog) (w := w) (A := A) (R := wants Q E) (I := s.heap.objs.size) (S := H.objs.size) (n := n) (s := { s with heap := H.push { cls := .type "bytearray", data := .bytearray #[] }, toks := s.toks + 1 + 1 }) hh hn
    (by rw [hsz]; exact Nat.ne_of_lt (Nat.lt_succ_self _)) (Heap.get?_push_of_some _ hI₁) (Heap.get?_push_size _ rfl) fun h' t k hk => h h' t k fun b o e => hk b o (Nat.ne_of_lt (Heap.lt_size e)) (by rw [hsz]; exact Nat.ne_of_lt (Nat.lt_succ_of_lt (Heap.lt_size e))) (Heap.get?_push_of_some _ (hk₁ _ _ e))
  first
    | exact wpAny_pure ⟨plainId_quiet F.bm_plain_loop _, main⟩
    | exact wpAny_pure (wpAny_pure ⟨plainId_quiet F.bm_plain_loop _, main⟩)
end
end Mine
end
section
namespace Mine
open PySem PySem.W PyProof.Rows PySem.Spec PySem.Calls PySem.SeqAt

section
variable {prog : Program} {w : World} {A : Around} {E : Value → Shared → Prop} {s : Shared} {b₀ h₀ : Heap} {L : Addr} {m : Str → Option Value} {φ : List Addr} {σ : St} {U X T : Led} {Q : Value → Shared → Prop}

theorem Rvs.inv1 {vs : List Value} {d : PV} (h : Rvs w b₀ T φ vs [d]) : ∃ v, vs = [v] ∧ Rv w b₀ T φ v d := by
  match vs, h with
  | [], h => exact nomatch h.length
  | [v], h => exact ⟨v, rfl, h.unc.1⟩
  | _ :: _ :: _, h => exact nomatch h.length
theorem Rvs.inv2 {vs : List Value} {d e : PV} (h : Rvs w b₀ T φ vs [d, e]) : ∃ v u, vs = [v, u] ∧ Rv w b₀ T φ v d ∧ Rv w b₀ T φ u e := by
  match vs, h with
  | [], h => exact nomatch h.length
  | v :: r, h =>
    obtain ⟨u, rfl, k⟩ := h.unc.2.inv1
    exact ⟨v, u, rfl, h.unc.1, k⟩
theorem Rvs.inv3 {vs : List Value} {d e f : PV} (h : Rvs w b₀ T φ vs [d, e, f]) : ∃ v u x, vs = [v, u, x] ∧ Rv w b₀ T φ v d ∧ Rv w b₀ T φ u e ∧ Rv w b₀ T φ x f := by
  match vs, h with
  | [], h => exact nomatch h.length
  | v :: r, h =>
    obtain ⟨u, x, rfl, k, l⟩ := h.unc.2.inv2
    exact ⟨v, u, x, rfl, h.unc.1, k, l⟩
theorem byteArr_range (n : Nat) : byteArr ((List.range n).map Int.ofNat) = ((List.range n).map UInt8.ofNat).toArray := by
  unfold byteArr
  rw [List.map_map]
  congr 1

theorem lim_le {n : Nat} (hn : n ≤ lim) : n ≤ sizeLine := by rw [sizeLine_eq]; unfold lim at hn; with_reducible (apply Mine.le_f; assumption; decide)
theorem asI_rv {v : Value} {d : PV} {i : Int} (h : asI d = some i) (r : Rv w b₀ T φ v d) : ∃ t, v = .int i t := (asI_eq h ▸ r : Rv w b₀ T φ v (.int i)).inv

theorem range_ok {vs : List Value} {ds : List PV} {r : PV} (h : rangeV ds = some r) (hv : Rvs w b₀ T φ vs ds) (I : Inv w b₀ h₀ L m φ σ U X T s.heap) (k : PE w b₀ h₀ L m U X T φ s r σ Q) : wpAny (model prog w) A (call (.type "range") vs) Q E s := by
  unfold rangeV at h
  cases h1 : one? ds with
  | some d =>
    rw [h1] at h
    obtain ⟨v, rfl, r1⟩ := (one_eq h1 ▸ hv : Rvs w b₀ T φ vs [d]).inv1
    obtain ⟨n, h2, h⟩ := bindE h
    obtain ⟨_, h⟩ := iteE h
    obtain rfl := Option.some.inj h
    obtain ⟨t, rfl⟩ := asI_rv h2 r1
    exact range1_ok I k
  | none =>
    rw [h1] at h
    obtain ⟨p, h2, h⟩ := bindE h
    obtain ⟨v1, v2, v3, rfl, r1, r2, r3⟩ := (three_eq h2 ▸ hv : Rvs w b₀ T φ vs [p.1, p.2.1, p.2.2]).inv3
    obtain ⟨a, e1, h⟩ := bindE h
    obtain ⟨b, e2, h⟩ := bindE h
    obtain ⟨c, e3, h⟩ := bindE h
    obtain ⟨hs, h⟩ := iteE h
    obtain rfl := Option.some.inj h
    obtain ⟨_, rfl⟩ := asI_rv e1 r1
    obtain ⟨_, rfl⟩ := asI_rv e2 r2
    obtain ⟨_, rfl⟩ := asI_rv e3 r3
    refine range3_ok ?_ I k
    rcases Bool.or_eq_true_iff.mp (Bool.and_eq_true_iff.mp hs).2 with h | h
    · exact .inl (eq_of_beq h)
    · exact .inr (eq_of_beq h)

set_option tactic.hygienic true in
theorem bytes_ok {v : Value} {d r : PV} (h : bytesV d = some r) (hv : Rv w b₀ T φ v d) (hh : A.handled = none) (I : Inv w b₀ h₀ L m φ σ U X T s.heap) (st : b₀.StaysIn h₀) (k : PE w b₀ h₀ L m U X T φ s r σ Q) :
    wpAny (model prog w) A (call (.type "bytes") [v]) Q E s := by
  cases d <;> first | exact no h | skip
  · obtain ⟨hs, h⟩ := iteE h
    obtain rfl := Option.some.inj h
    obtain ⟨t, rfl⟩ := hv.inv
    refine bytes_int hs.1 (lim_le (by have := hs.2; with_reducible (apply Mine.tnle <;> assumption))) fun t' tk => ?_
    rw [← List.toArray_replicate]
    exact k.here I (.byt _ _)
  · obtain ⟨hs, h⟩ := iteE h
    obtain ⟨bs, hb, rfl⟩ := mapE h
    exact bytes_lst_ok hb hv (lim_le hs) hh I st k
  · obtain ⟨hs, h⟩ := iteE h
    obtain rfl := Option.some.inj h
    obtain ⟨a, rfl, o⟩ := hv.inv
    exact bytes_bar (I.getO st o) (by rw [List.size_toArray]; exact lim_le hs) fun t' tk => k.here I (.byt _ _)
  · obtain ⟨⟨ea, ec, h0, h1⟩, h2⟩ := iteE h
    obtain rfl := Option.some.inj h2
    subst ea ec
    rename_i n
    obtain ⟨n, rfl⟩ := Int.eq_ofNat_of_zero_le h0
    obtain ⟨a, _, _, _, rfl, o⟩ := hv.inv
    refine call_bytes (bytes_new_rng hh (I.getO st o) (by omega) fun h' t' tk hk => ⟨PySem.W.typeIs_bytes _ _ _, ?_⟩)
    rw [byteArr_range]
    exact k _ _ _ _ _ (I.grow hk) .refl (.byt _ _)

theorem bi_ok {b : BI} {vs : List Value} {ds : List PV} {r : PV} (h : biV b ds = some r) (hv : Rvs w b₀ T φ vs ds) (hh : A.handled = none) (I : Inv w b₀ h₀ L m φ σ U X T s.heap) (st : b₀.StaysIn h₀) (k : PE w b₀ h₀ L m U X T φ s r σ Q) :
    wpAny (model prog w) A (call (biVal b) vs) Q E s := by
  have one : ∀ {d : PV}, one? ds = some d → ∃ v, vs = [v] ∧ Rv w b₀ T φ v d := fun h1 => (one_eq h1 ▸ hv : Rvs w b₀ T φ vs [_]).inv1
  cases b with
  | len =>
    obtain ⟨d, h1, h⟩ := bindE h
    obtain ⟨v, rfl, r1⟩ := one h1
    exact len_ok h r1 I st k
  | range => exact range_ok h hv I k
  | bytes =>
    obtain ⟨d, h1, h⟩ := bindE h
    obtain ⟨v, rfl, r1⟩ := one h1
    exact bytes_ok h r1 hh I st k
  | tuple =>
    obtain ⟨d, h1, h⟩ := bindE h
    obtain ⟨v, rfl, r1⟩ := one h1
    obtain ⟨us, h2, h⟩ := bindE h
    obtain ⟨hs, h⟩ := iteE h
    obtain rfl := Option.some.inj h
    exact tuple_ok (asL_eq h2 ▸ r1) (lim_le hs) I st k
  | list =>
    obtain ⟨d, h1, h⟩ := bindE h
    obtain ⟨v, rfl, r1⟩ := one h1
    obtain ⟨us, h2, h⟩ := bindE h
    obtain ⟨hs, h⟩ := iteE h
    obtain rfl := Option.some.inj h
    exact list_ok (asT_eq h2 ▸ r1) (lim_le hs) I st k
  | max =>
    obtain ⟨p, h1, h⟩ := bindE h
    obtain ⟨v1, v2, rfl, r1, r2⟩ := (two_eq h1 ▸ hv : Rvs w b₀ T φ vs [p.1, p.2]).inv2
    obtain ⟨a, e1, h⟩ := bindE h
    obtain ⟨b, e2, rfl⟩ := mapE h
    obtain ⟨_, rfl⟩ := asI_rv e1 r1
    obtain ⟨_, rfl⟩ := asI_rv e2 r2
    exact max_ok hh I k
  | int =>
    obtain ⟨d, h1, h⟩ := bindE h
    obtain ⟨v, rfl, r1⟩ := one h1
    obtain ⟨c, h2, rfl⟩ := mapE h
    obtain rfl := (asO_eq h2 ▸ r1 : Rv w b₀ T φ v (.bool c)).inv
    exact call_int_bool (k.here I (.int _ _))

theorem slAB_ok {value slice : Expr} {a vl vu : Value} {x y z r : PV} (h : slAB x y z = some r) (ha : Rv w b₀ T φ a x) (hl : Rv w b₀ T φ vl y) (hu : Rv w b₀ T φ vu z) (I : Inv w b₀ h₀ L m φ σ U X T s.heap)
    (hs : ∀ o i, subscripted slice false o i = operate [i, o] (getItem o i)) (k : PE w b₀ h₀ L m U X T φ s r σ Q) :
    wpAny (model prog w) A (subscriptTail value slice a (.ref s.heap.objs.size)) Q E { s with heap := s.heap.push { cls := .type "slice", data := .fields #[vl, vu, .none] } } := by
  obtain ⟨b, e1, h⟩ := bindE h
  obtain ⟨i, e2, h⟩ := bindE h
  obtain ⟨j, e3, h⟩ := bindE h
  obtain ⟨hs', h⟩ := iteE h
  obtain rfl := Option.some.inj h
  obtain ⟨_, rfl⟩ := (asB_eq e1 ▸ ha : Rv w b₀ T φ a (.byt b)).inv
  obtain ⟨_, rfl⟩ := asI_rv e2 hl
  obtain ⟨_, rfl⟩ := asI_rv e3 hu
  obtain ⟨news, N, hsub, back⟩ := I.use0
  refine KBc.slice_K (ks := KBw.bInts b.toArray) I.F N rfl (.int _ _) (.int _ _) (by rw [KBw.ints_length, List.size_toArray]; unfold lim at hs'; omega) (fun h' t' k' F' N' _ => ?_) (hs _ _) (fun r => by cases value <;> rfl)
  rw [picked_sl hs'.1 hs'.2.1]
  exact k _ _ _ _ _ (back _ F' N') .refl (.byt _ _)

theorem slA_ok {slice : Expr} {x : Str} {p : Pos} {a vl : Value} {y z r : PV} (h : slA y z = some r) (ha : Rv w b₀ T φ a y) (hl : Rv w b₀ T φ vl z) (I : Inv w b₀ h₀ L m φ σ U X T s.heap) (st : b₀.StaysIn h₀)
    (hs : ∀ o i, subscripted slice false o i = operate [i, o] (getItem o i)) (k : PE w b₀ h₀ L m U X T φ s r σ Q) :
    wpAny (model prog w) A (subscriptTail (.Name x p) slice a (.ref s.heap.objs.size)) Q E { s with heap := s.heap.push { cls := .type "slice", data := .fields #[vl, .none, .none] } } := by
  obtain ⟨b, e1, h⟩ := bindE h
  obtain ⟨i, e2, h⟩ := bindE h
  obtain ⟨hs', h⟩ := iteE h
  obtain rfl := Option.some.inj h
  obtain ⟨c, o, vs, n, rfl, io, co, d, rs⟩ := (asT_eq e1 ▸ ha : Rv w b₀ T φ a (.tup b)).inv
  obtain ⟨_, rfl⟩ := asI_rv e2 hl
  obtain ⟨i, rfl⟩ := Int.eq_ofNat_of_zero_le (by omega : 0 ≤ i)
  obtain ⟨news, N, hsub, back⟩ := I.use
  have hlen := rs.length
  refine slice_tuple_from I.F N (io.tuple co d I st) (a := i) (by omega) (by rw [List.size_toArray, hlen]; exact hs'.2.1) (fun h' F' N' => ?_) (hs _ _) (fun _ => rfl) (by rw [List.size_toArray, hlen]; exact lim_le hs'.2.2)
  refine k _ h' _ _ _ (back h' _ _ F' N' fun p hp => ?_) .alloc (.tup (.inl (.head _)) ⟨rfl, rfl⟩ rfl ?_)
  · exact Nat.lt_succ_of_lt (Heap.lt_size (N p hp).1)
  · rw [List.toList_toArray]
    exact (rs.drop i).mono (fun _ h => .tail _ h) List.prefix_rfl

theorem pick_to {vs : List Value} {j : Nat} : kms_pick vs none (some (j : Int)) = vs.take j := by
  have e : kms_lo none vs.length = 0 := rfl
  unfold kms_pick
  rw [e, List.drop_zero, Nat.sub_zero]
  have e2 : kms_hi (some (j : Int)) vs.length = min j vs.length := by
    unfold kms_hi
    dsimp only
    rw [if_neg (by with_reducible (apply Mine.no_lt <;> assumption)), Int.toNat_natCast]
  rw [e2]
  by_cases h : j ≤ vs.length
  · rw [Nat.min_eq_left h]
  · rw [Nat.min_eq_right (by omega), List.take_length, List.take_of_length_le (by omega)]

theorem slB_ok {slice : Expr} {x : Str} {p : Pos} {a vu : Value} {y z r : PV} (h : slB y z = some r) (ha : Rv w b₀ T φ a y) (hl : Rv w b₀ T φ vu z) (I : Inv w b₀ h₀ L m φ σ U X T s.heap) (st : b₀.StaysIn h₀)
    (hs : ∀ o i, subscripted slice false o i = operate [i, o] (getItem o i)) (k : PE w b₀ h₀ L m U X T φ s r σ Q) :
    wpAny (model prog w) A (subscriptTail (.Name x p) slice a (.ref s.heap.objs.size)) Q E { s with heap := s.heap.push { cls := .type "slice", data := .fields #[.none, vu, .none] } } := by
  obtain ⟨b, e1, h⟩ := bindE h
  obtain ⟨j, e2, h⟩ := bindE h
  obtain ⟨hs', h⟩ := iteE h
  obtain rfl := Option.some.inj h
  obtain ⟨c, o, vs, n, rfl, io, co, d, rs⟩ := (asL_eq e1 ▸ ha : Rv w b₀ T φ a (.lst b)).inv
  obtain ⟨_, rfl⟩ := asI_rv e2 hl
  obtain ⟨j, rfl⟩ := Int.eq_ofNat_of_zero_le hs'.1
  obtain ⟨news, N, hsub, back⟩ := I.use
  have hlen := rs.length
  refine kms_slice_lit I.F N (io.list co d I st) .none (.int _ _) (zs := List.take j _) (by rw [List.toList_toArray]; exact pick_to) (fun D h' F' N' lt => ?_) (hs _ _) (fun _ => rfl) (by rw [List.size_toArray, hlen]; exact lim_le hs'.2)
  exact k _ h' _ _ _ (back h' _ _ F' N' lt) .alloc (.lst (.inl (.head _)) rfl rfl ((rs.take j).mono (fun _ h => .tail _ h) List.prefix_rfl))
end
end Mine
end
section
namespace Mine
open PySem PySem.W PyProof.Rows PySem.Spec PySem.Calls PySem.SeqAt

noncomputable def fldName : Bool → Str
  | false => Str.ofString "data"
  | true => Str.ofString "at"

structure KRd (K : Frag) : Prop where
  get : ∀ x, plainGet K 237 x = true
  dict : hasDictIn K 237 = true
  fld : ∀ f, findIn K (.ref 237) (fldName f) = some none
  set : findIn K (.ref 237) "__setattr__" = some (some (.builtin "object.__setattr__"))
  over : plainOver K 237 = true
  take : ∀ f, takerIn K 237 (fldName f) = some none
  makes : makesIn K 237 = true
  keep : keepIn K (.ref 237) = true
  init : findIn K (.ref 237) "__init__" = some (some (.ref 199))
  initFn : isFn K (.ref 199) = true
  meth : ∀ x f, methOf x = some f → findIn K (.ref 237) x = some (some (.ref f)) ∧ isFn K (.ref f) = true ∧ keepIn K (.ref f) = true

section
variable {prog : Program} {w : World} {K : Frag} {A : Around} {E : Value → Shared → Prop} {s : Shared} {b₀ h₀ : Heap} {L : Addr} {m : Str → Option Value} {φ : List Addr} {σ : St} {U X T : Led} {Q : Value → Shared → Prop}

theorem rv_handed {v : Value} {d : PV} (h : Rv w b₀ T φ v d) : handedIn v = true := by cases h <;> rfl

theorem fld_of {x : Str} {f : Bool} (h : fldOf x = some f) : x = fldName f := by
  unfold fldOf at h
  split at h
  · cases h; assumption
  · split at h
    · cases h; assumption
    · cases h

theorem Inv.moInst (I : Inv w b₀ h₀ L m φ σ U X T s.heap) {k : Nat} {d a : Option PV} {v : Value} (hk : σ[k]? = some (.inst d a)) (hv : Rv w b₀ T φ v (.loc k)) :
    ∃ x dx es n, v = .ref x ∧ φ[k]? = some x ∧ InstAt s.heap x (instObj 237 dx) 237 (some (dictOf es n)) ∧ IE w b₀ T φ es d a := by
  obtain ⟨e, x, hx, hr, hg⟩ := I.mo hk
  obtain ⟨c, rfl, hc⟩ := hv.inv
  have ec := Option.some.inj (hx.symm.trans hc)
  subst ec
  cases hr with
  | @inst x dx es n d a r => exact ⟨_, dx, es, n, rfl, hx, ⟨hg (_, instObj 237 dx) (.head _), rfl, rfl, hg (dx, dictOf es n) (.tail _ (.head _))⟩, r⟩

theorem IE.look {es : List DictEntry} {d a : Option PV} (h : IE w b₀ T φ es d a) (f : Bool) {r : PV} (hr : (if f then a else d) = some r) : ∃ v, getL (fldName f) es = some (some v) ∧ Rv w b₀ T φ v r := by
  cases h with
  | nil => cases f <;> cases hr
  | one h =>
    cases f with
    | false => cases hr; exact ⟨_, by rfl, h⟩
    | true => cases hr
  | two h k =>
    cases f with
    | false => cases hr; exact ⟨_, by rfl, h⟩
    | true => cases hr; exact ⟨_, by rfl, k⟩

theorem attr_ok {x : PV} {v : Value} {r : PV} {f : Bool} {expr : Bool} (KR : KRd K) (KX : K.In b₀) (h : attrV σ f x = some r) (hv : Rv w b₀ T φ v x) (I : Inv w b₀ h₀ L m φ σ U X T s.heap) (st : b₀.StaysIn h₀) (k : PE w b₀ h₀ L m U X T φ s r σ Q) :
    wpAny (model prog w) A (getAttr v (fldName f) expr) Q E s := by
  obtain ⟨k₁, h1, h⟩ := bindE h
  obtain ⟨p, h2, h⟩ := bindE h
  obtain ⟨x, dx, es, n, rfl, hx, II, ie⟩ := I.moInst (instAt_eq h2) (asC_eq h1 ▸ hv)
  obtain ⟨v, hg, rv⟩ := ie.look f h
  exact get_own I.F (KX.keeps st) II (KR.get _) KR.dict (KR.fld f) rfl hg (rv_handed rv) (k.here I rv)

theorem IE.put {es : List DictEntry} {n : Nat} {d a : Option PV} {r : PV} {v : Value} {hsh : Int} {t : Tok} (h : IE w b₀ T φ es d a) (f : Bool) (hv : Rv w b₀ T φ v r) (ok : f = true → d.isSome = true) :
    (getL (fldName f) es).isSome = true ∧ (putL (fldName f) hsh (.str (fldName f) t) v es).length ≤ 1000 ∧ IE w b₀ T φ (putL (fldName f) hsh (.str (fldName f) t) v es) (if f then d else some r) (if f then some r else a) := by
  cases h with
  | nil =>
    cases f with
    | false => exact ⟨by rfl, by show (1 : Nat) ≤ 1000; decide, .one hv⟩
    | true => exact absurd (ok rfl) (by simp)
  | one h =>
    cases f with
    | false => exact ⟨by rfl, by show (1 : Nat) ≤ 1000; decide, .one hv⟩
    | true => exact ⟨by rfl, by show (2 : Nat) ≤ 1000; decide, .two h hv⟩
  | two h k =>
    cases f with
    | false => exact ⟨by rfl, by show (2 : Nat) ≤ 1000; decide, .two hv k⟩
    | true => exact ⟨by rfl, by show (2 : Nat) ≤ 1000; decide, .two h hv⟩

theorem setAttr_ok {x y : PV} {v u : Value} {f : Bool} {σ' : St} {Q : Unit → Shared → Prop} (KR : KRd K) (KX : K.In b₀) (h : setAttrV σ f x y = some σ') (hv : Rv w b₀ T φ v x) (hu : Rv w b₀ T φ u y) (I : Inv w b₀ h₀ L m φ σ U X T s.heap) (st : b₀.StaysIn h₀)
    (k : ∀ h' tk, Inv w b₀ h₀ L m φ σ' U X T h' → Q () { s with heap := h', toks := tk }) : wpAny (model prog w) A (setAttr v (fldName f) u) Q E s := by
  obtain ⟨k₁, h1, h⟩ := bindE h
  obtain ⟨p, h2, h⟩ := bindE h
  obtain ⟨ok, h⟩ := iteE h
  obtain rfl := Option.some.inj h
  have hσ := instAt_eq h2
  obtain ⟨x, dx, es, n, rfl, hx, II, ie⟩ := I.moInst hσ (asC_eq h1 ▸ hv)
  obtain ⟨p1, p2, p3⟩ := ie.put (n := n) (hsh := PyData.keyHash w.params (fldName f)) (t := s.toks + 1) f hu ok
  obtain ⟨e, a', news, ha', hr, N, hs, hs2, up⟩ := I.upd hσ
  have ec := Option.some.inj (hx.symm.trans ha')
  subst ec
  cases hr with
  | @inst _ dx' es' n' _ _ r =>
    have hdx : dx = dx' := by
      have h1 := (N _ (hs (_, instObj 237 dx') (.head _))).1
      have h2 := Option.some.inj (II.at_.symm.trans h1)
      exact Option.some.inj (congrArg Obj.dict h2)
    subst hdx
    have h3 := (N _ (hs (dx, dictOf es' n') (.tail _ (.head _)))).1
    have h4 : s.heap.get? dx = some (dictOf es n) := II.dict
    have h5 := congrArg Obj.data (Option.some.inj (h4.symm.trans h3))
    have h6 : es = es' ∧ n = n' := by
      simp only [Data.dict.injEq] at h5
      exact ⟨by simpa using h5.1, h5.2⟩
    obtain ⟨rfl, rfl⟩ := h6
    obtain ⟨news', UU, hs3, back⟩ := up [(_, instObj 237 dx)] dx (dictOf es n) [] (dictOf (putL (fldName f) (PyData.keyHash w.params (fldName f)) (.str (fldName f) (s.toks + 1)) u es) (putN (fldName f) es n))
      (if f = true then .inst p.1 (some y) else .inst (some y) p.2) rfl (by cases f <;> exact .inst p3)
    exact set_dict I.F (KX.keeps st) N II rfl KR.set KR.over (KR.take f) KR.dict p1 rfl UU p2 fun h' F' N' => k h' _ (back h' F' N')
end
end Mine
end
section
namespace Mine
open PySem PySem.W PyProof.Rows PySem.Spec PySem.Calls

section
variable {M : Model} {A : Around} {s : Shared} {env : Env}
theorem c_Slice_AB {a b : Expr} {p : Pos} {Q : Value → Shared → Prop} (h : wpC M A (eval a env) (fun l s₁ => wpC M A (eval b env) (fun u s₂ => Q (.ref s₂.heap.objs.size) { s₂ with heap := s₂.heap.push { cls := .type "slice", data := .fields #[l, u, .none] } }) s₁) s) :
    wpC M A (eval (.Slice (some a) (some b) none p) env) Q s := by
  rw [arm_eval_Slice]
  refine wpC_bind (wpC_mono h fun l s₁ h₁ => wpC_bind (wpC_holding (wpC_mono h₁ fun u s₂ h₂ => wpC_bind (wpC_holding (wpC_pure ?_)))))
  exact wpC_of (wpAny_newObj_type h₂)
theorem c_Slice_A {a : Expr} {p : Pos} {Q : Value → Shared → Prop} (h : wpC M A (eval a env) (fun l s₂ => Q (.ref s₂.heap.objs.size) { s₂ with heap := s₂.heap.push { cls := .type "slice", data := .fields #[l, .none, .none] } }) s) :
    wpC M A (eval (.Slice (some a) none none p) env) Q s := by
  rw [arm_eval_Slice]
  refine wpC_bind (wpC_mono h fun l s₁ h₁ => wpC_bind (wpC_holding (wpC_pure (wpC_bind (wpC_holding (wpC_pure ?_))))))
  exact wpC_of (wpAny_newObj_type h₁)
theorem c_Slice_B {b : Expr} {p : Pos} {Q : Value → Shared → Prop} (h : wpC M A (eval b env) (fun u s₂ => Q (.ref s₂.heap.objs.size) { s₂ with heap := s₂.heap.push { cls := .type "slice", data := .fields #[.none, u, .none] } }) s) :
    wpC M A (eval (.Slice none (some b) none p) env) Q s := by
  rw [arm_eval_Slice]
  refine wpC_bind (wpC_pure (wpC_bind (wpC_holding (wpC_mono h fun u s₁ h₁ => wpC_bind (wpC_holding (wpC_pure ?_))))))
  exact wpC_of (wpAny_newObj_type h₁)

theorem c_Call_meth {o : Expr} {name : Str} {apos pos : Pos} {args : List Expr} {Q : Value → Shared → Prop} (hb : noCall o = true) (hl : (apos.endLine == pos.line) = true) (hn : args.length + 1 < 30) (hs : ∀ e ∈ args, noStar e = true)
    (h : wpC M A (eval o env) (fun ov s₁ => ∀ pl, wpC M A (getMethod ov name pl) (fun p s₂ => wpC M A (callWith pos p.1 p.2 (backTo pos (starEach args env)) []) Q s₂) s₁) s) :
    wpC M A (eval (.Call (.Attribute o name apos) args [] pos) env) Q s := by
  rw [arm_eval_Call, base_plain hb]
  refine wpC_bind (wpC_mono h fun ov s₁ h₁ => wpC_bind (wpC_standAt ?_))
  have hpl := plain_trees (pos := pos) (env := env) hs
  have hform : methodCallForm (args.length + ([] : List Keyword).length) (backTo pos (starEach args env)) (backToKw pos (keywordEach [] env)) = true := by
    unfold methodCallForm
    have h1 : (backTo pos (starEach args env)).all (fun x => !x.1) = true := by
      rw [List.all_eq_true]
      intro x hx
      have := List.any_eq_false.mp hpl x hx
      simpa using this
    rw [h1]
    show (true && true && decide (args.length + 0 + 0 < 30)) = true
    rw [decide_eq_true (by with_reducible (apply Mine.lt_f; apply Nat.add_le_add; apply Nat.add_le_add; apply Mine.tr_l; apply Mine.lt_l; assumption; exact Mine.lit; exact Mine.lit; decide))]; rfl
  have hpos : methodCallPos true o env apos pos = pure pos := by unfold methodCallPos; rw [hl]; rfl
  unfold methodCall
  rw [hform]
  refine wpC_bind (wpC_holding (m := calleeOf true o env ov name) ?_)
  show wpC M A (getMethod ov name _) _ _
  refine wpC_mono (h₁ _) fun p s₂ h₂ => ?_
  obtain ⟨f, first⟩ := p
  show wpC M A (methodCallPos true o env apos pos >>= fun q => callWith q f first _ _) _ _
  rw [hpos]
  exact wpC_bind (wpC_pure h₂)
end

section
variable {prog : Program} {w : World} {K : Frag} {b₀ : Heap} {mg mb : Str → Option Value} {tab : Nat → Option PFun} {c : Nat} {sc : Scp} {vars : List Str}

theorem sx_slAB {o a b : Expr} {po pa pb : PX} {sp pos : Pos} (ho : SX prog w b₀ tab c sc vars o po) (ha : SX prog w b₀ tab c sc vars a pa) (hb : SX prog w b₀ tab c sc vars b pb) :
    SX prog w b₀ tab c sc vars (.Subscript o (.Slice (some a) (some b) none sp) pos) (.slAB po pa pb) := by
  intro A fenv L h₀ m U X T φ σ ρ s env d' σ' Q C N I he k
  obtain ⟨⟨x, σ₁⟩, h1, he⟩ := bindE he
  obtain ⟨⟨y, σ₂⟩, h2, he⟩ := bindE he
  obtain ⟨⟨z, σ₃⟩, h3, he⟩ := bindE he
  obtain ⟨r, h4, he⟩ := mapE he
  obtain ⟨rfl, rfl⟩ := prodE he
  refine c_Subscript (ho C N I h1 fun v h₁ t₁ T₁ φ₁ I₁ e₁ r₁ => c_Slice_AB (ha C (N.ext e₁) I₁ h2 fun vl h₂ t₂ T₂ φ₂ I₂ e₂ r₂ => hb C (N.ext (e₁.trans e₂)) I₂ h3 fun vu h₃ t₃ T₃ φ₃ I₃ e₃ r₃ => wpC_of ?_))
  exact slAB_ok (s := { s with heap := h₃, toks := t₃ }) h4 (e₃.rv (e₂.rv r₁)) (e₃.rv r₂) r₃ I₃ (fun _ _ => rfl) fun v h' tk' T' φ' I' e' r' => k v h' tk' T' φ' I' (e₁.trans (e₂.trans (e₃.trans e'))) r'
theorem sx_slA {x : Str} {xp : Pos} {a : Expr} {po pa : PX} {sp pos : Pos} (ho : SX prog w b₀ tab c sc vars (.Name x xp) po) (ha : SX prog w b₀ tab c sc vars a pa) :
    SX prog w b₀ tab c sc vars (.Subscript (.Name x xp) (.Slice (some a) none none sp) pos) (.slA po pa) := by
  intro A fenv L h₀ m U X T φ σ ρ s env d' σ' Q C N I he k
  obtain ⟨⟨x, σ₁⟩, h1, he⟩ := bindE he
  obtain ⟨⟨y, σ₂⟩, h2, he⟩ := bindE he
  obtain ⟨r, h4, he⟩ := mapE he
  obtain ⟨rfl, rfl⟩ := prodE he
  refine c_Subscript (ho C N I h1 fun v h₁ t₁ T₁ φ₁ I₁ e₁ r₁ => c_Slice_A (ha C (N.ext e₁) I₁ h2 fun vl h₂ t₂ T₂ φ₂ I₂ e₂ r₂ => wpC_of ?_))
  exact slA_ok (s := { s with heap := h₂, toks := t₂ }) h4 (e₂.rv r₁) r₂ I₂ C.stay (fun _ _ => rfl) fun v h' tk' T' φ' I' e' r' => k v h' tk' T' φ' I' (e₁.trans (e₂.trans e')) r'
theorem sx_slB {x : Str} {xp : Pos} {a : Expr} {po pa : PX} {sp pos : Pos} (ho : SX prog w b₀ tab c sc vars (.Name x xp) po) (ha : SX prog w b₀ tab c sc vars a pa) :
    SX prog w b₀ tab c sc vars (.Subscript (.Name x xp) (.Slice none (some a) none sp) pos) (.slB po pa) := by
  intro A fenv L h₀ m U X T φ σ ρ s env d' σ' Q C N I he k
  obtain ⟨⟨x, σ₁⟩, h1, he⟩ := bindE he
  obtain ⟨⟨y, σ₂⟩, h2, he⟩ := bindE he
  obtain ⟨r, h4, he⟩ := mapE he
  obtain ⟨rfl, rfl⟩ := prodE he
  refine c_Subscript (ho C N I h1 fun v h₁ t₁ T₁ φ₁ I₁ e₁ r₁ => c_Slice_B (ha C (N.ext e₁) I₁ h2 fun vl h₂ t₂ T₂ φ₂ I₂ e₂ r₂ => wpC_of ?_))
  exact slB_ok (s := { s with heap := h₂, toks := t₂ }) h4 (e₂.rv r₁) r₂ I₂ C.stay (fun _ _ => rfl) fun v h' tk' T' φ' I' e' r' => k v h' tk' T' φ' I' (e₁.trans (e₂.trans e')) r'

theorem sx_attr {o : Expr} {po : PX} {x : Str} {f : Bool} {pos : Pos} (KR : KRd K) (KX : K.In b₀) (hb : noCall o = true) (hf : fldOf x = some f) (ho : SX prog w b₀ tab c sc vars o po) : SX prog w b₀ tab c sc vars (.Attribute o x pos) (.attr po f) := by
  intro A fenv L h₀ m U X T φ σ ρ s env d' σ' Q C N I he k
  obtain ⟨⟨x, σ₁⟩, h1, he⟩ := bindE he
  obtain ⟨r, h4, he⟩ := mapE he
  obtain ⟨rfl, rfl⟩ := prodE he
  obtain rfl := fld_of hf
  refine c_Attribute hb (ho C N I h1 fun v h₁ t₁ T₁ φ₁ I₁ e₁ r₁ => wpC_of ?_)
  exact attr_ok KR KX h4 r₁ I₁ C.stay fun v h' tk' T' φ' I' e' r' => wpC_of (wpAny_letTemporaryGo (k v h' tk' T' φ' I' (e₁.trans e') r'))

noncomputable def SC (prog : Program) (w : World) (b₀ : Heap) (tab : Nat → Option PFun) (c : Nat) : Prop :=
  ∀ ⦃A : Around⦄ ⦃fenv : Env⦄ ⦃L : Addr⦄ ⦃h₀ : Heap⦄ ⦃m : Str → Option Value⦄ ⦃U X T : Led⦄ ⦃φ : List Addr⦄ ⦃σ : St⦄ ⦃s : Shared⦄ ⦃f : Nat⦄ ⦃vs : List Value⦄ ⦃ds : List PV⦄ ⦃d : PV⦄ ⦃σ' : St⦄ ⦃Q : Value → Shared → Prop⦄,
    Cx b₀ c A fenv L h₀ → Inv w b₀ h₀ L m φ σ U X T s.heap → Rvs w b₀ T φ vs ds → callF tab c f ds σ = some (d, σ') → PE w b₀ h₀ L m U X T φ s d σ' Q →
    codeC (model prog w) A (.call (.ref f) ⟨vs, []⟩) (fun fl s' => match fl with | .ret v => Q v s' | _ => False) s

noncomputable def FnIn (b₀ : Heap) (tab : Nat → Option PFun) : Prop := ∀ f pf, tab f = some pf → ∃ oc od fd osl, b₀.get? f = some ⟨oc, od, .func fd, osl⟩

theorem callF_tab {c f : Nat} {ds : List PV} {σ : St} {r : PV × St} (h : callF tab c f ds σ = some r) : ∃ pf, tab f = some pf := by
  cases c with
  | zero => exact no h
  | succ c =>
    obtain ⟨pf, h1, _⟩ := bindE h
    exact ⟨pf, h1⟩
theorem keeps_fn {M : Model} {f : Addr} {oc : Value} {od : Option Addr} {fd : FuncData} {osl : Array (Option Value)} (h : Heap) (e : h.get? f = some ⟨oc, od, .func fd, osl⟩) : ∃ k, (k = Keeper.frame ∨ k = Keeper.machine ∨ k = Keeper.boundFrame) ∧ Looks M h (keeperOf (.ref f)) k :=
  ⟨.frame, .inl rfl, (Looks.ld (part := none) e).andThen .now⟩

theorem sx_call {x : Str} {p pos : Pos} {args : List Expr} {pxs : PXs} {f : Nat} (G : Glo w K b₀ gl mg mb) (FI : FnIn b₀ tab) (hsc : SC prog w b₀ tab c) (hn : okName x = true) (hs : sc.lookup x = some .globalImplicit) (hg : gl.lookup x = some (.f f))
    (h : SXs prog w b₀ tab c sc vars args pxs) : SX prog w b₀ tab c sc vars (.Call (.Name x p) args [] pos) (.call f pxs) := by
  intro A fenv L h₀ m U X T φ σ ρ s env d' σ' Q C N I he k
  obtain ⟨⟨ds, σ₁⟩, h1, he⟩ := bindE he
  have hv : mg x = some (.ref f) := G.names x _ hg
  obtain ⟨pf, hpf⟩ := callF_tab he
  obtain ⟨oc, od, fd, osl, hfn⟩ := FI f pf hpf
  refine c_Call_Name (wpC_of (name_glob G C N I hn hs (.inl hv) ?_))
  refine c_callWith (P := fun h => h.get? f = some ⟨oc, od, .func fd, osl⟩) (plain_trees h.1.1) (fun h e => keeps_fn h e) ?_
  refine h.2 C N I h1 fun vs h' tk' T' φ' I' e' r' => ⟨I'.F.keep _ _ (C.stay _ _ hfn), wpC_call ?_⟩
  exact hsc C I' r' he fun v h'' tk'' T'' φ'' I'' e'' r'' => k v h'' tk'' T'' φ'' I'' (e'.trans e'') r''

theorem keeps_machine {M : Model} {f : Value} (hf : ∀ a, f ≠ .ref a) (h : Heap) (_ : True) : ∃ k, (k = Keeper.frame ∨ k = Keeper.machine ∨ k = Keeper.boundFrame) ∧ Looks M h (keeperOf f) k := by
  refine ⟨.machine, .inr (.inl rfl), ?_⟩
  have : keeperOf f = pure .machine := by
    unfold keeperOf
    cases f <;> first | rfl | exact absurd rfl (hf _)
  rw [this]
  exact .now

theorem sx_bi {x : Str} {p pos : Pos} {args : List Expr} {pxs : PXs} {b : BI} (G : Glo w K b₀ gl mg mb) (hn : okName x = true) (hs : sc.lookup x = some .globalImplicit) (hg : gl.lookup x = some (.b b))
    (h : SXs prog w b₀ tab c sc vars args pxs) : SX prog w b₀ tab c sc vars (.Call (.Name x p) args [] pos) (.bi b pxs) := by
  intro A fenv L h₀ m U X T φ σ ρ s env d' σ' Q C N I he k
  obtain ⟨⟨ds, σ₁⟩, h1, he⟩ := bindE he
  obtain ⟨r, h2, he⟩ := mapE he
  obtain ⟨rfl, rfl⟩ := prodE he
  have hv : mg x = none ∧ mb x = some (biVal b) := G.names x _ hg
  refine c_Call_Name (wpC_of (name_glob G C N I hn hs (.inr hv) ?_))
  refine c_callWith (P := fun _ => True) (plain_trees h.1.1) (keeps_machine (by cases b <;> (intro a ha; cases ha))) ?_
  refine h.2 C N I h1 fun vs h' tk' T' φ' I' e' r' => ⟨trivial, wpC_of ?_⟩
  exact bi_ok h2 r' C.hh I' C.stay fun v h'' tk'' T'' φ'' I'' e'' r'' => k v h'' tk'' T'' φ'' I'' (e'.trans e'') r''

theorem meth_in {x : Str} {f : Nat} (hm : methOf x = some f) : x = Str.ofString "left" ∨ x = Str.ofString "take" ∨ x = Str.ofString "whole" ∨ x = Str.ofString "varint" := by
  unfold methOf at hm
  by_cases h1 : x = Str.ofString "left"
  · exact .inl h1
  by_cases h2 : x = Str.ofString "take"
  · exact .inr (.inl h2)
  by_cases h3 : x = Str.ofString "whole"
  · exact .inr (.inr (.inl h3))
  by_cases h4 : x = Str.ofString "varint"
  · exact .inr (.inr (.inr h4))
  rw [if_neg h1, if_neg h2, if_neg h3, if_neg h4] at hm
  exact no hm
theorem meth_no {T : Led} {φ : List Addr} {x : Str} {f : Nat} {es : List DictEntry} {d a : Option PV} (hm : methOf x = some f) (ie : IE w b₀ T φ es d a) : getL x es = some none := by
  rcases meth_in hm with rfl | rfl | rfl | rfl <;> cases ie <;> rfl

theorem sx_meth {o : Expr} {po : PX} {x : Str} {ap pos : Pos} {args : List Expr} {pxs : PXs} {f : Nat} (KR : KRd K) (KX : K.In b₀) (FI : FnIn b₀ tab) (hsc : SC prog w b₀ tab c) (hb : noCall o = true) (hl : (ap.endLine == pos.line) = true) (hn : args.length + 1 < 30)
    (hm : methOf x = some f) (ho : SX prog w b₀ tab c sc vars o po) (h : SXs prog w b₀ tab c sc vars args pxs) : SX prog w b₀ tab c sc vars (.Call (.Attribute o x ap) args [] pos) (.meth f po pxs) := by
  intro A fenv L h₀ m U X T φ σ ρ s env d' σ' Q C N I he k
  obtain ⟨⟨y, σ₁⟩, h1, he⟩ := bindE he
  obtain ⟨kk, hk, he⟩ := bindE he
  obtain ⟨ii, hi, he⟩ := bindE he
  obtain ⟨⟨ds, σ₂⟩, h2, he⟩ := bindE he
  obtain ⟨m1, m2, m3⟩ := KR.meth x f hm
  refine c_Call_meth hb hl hn h.1.1 (ho C N I h1 fun v h₁ t₁ T₁ φ₁ I₁ e₁ r₁ pl => wpC_of ?_)
  obtain ⟨xx, dx, es, n, rfl, hx, II, ie⟩ := Inv.moInst (s := { s with heap := h₁, toks := t₁ }) I₁ (instAt_eq hi) (rvC hk r₁)
  refine method_inst I₁.F (KX.keeps C.stay) II (KR.get _) m1 m2 (meth_no hm ie) ?_
  refine c_callWith (P := fun h => K.In h) (plain_trees h.1.1) (keeps_K m3) ?_
  refine h.2 C (N.ext e₁) I₁ h2 fun vs h' tk' T' φ' I' e' r' => ⟨(KX.keeps C.stay).keeps I'.F.keep, wpC_call ?_⟩
  exact hsc C I' (.cons (e'.rv r₁) r') he fun v h'' tk'' T'' φ'' I'' e'' r'' => k v h'' tk'' T'' φ'' I'' (e₁.trans (e'.trans e'')) r''
end
end Mine
end
section
namespace Mine
open PySem PySem.W PyProof.Rows PySem.Spec PySem.Calls PySem.SeqAt

namespace FB2
theorem slot_join : PySem.Slot "bytes" "join" "bytes.join" :=
  .of (owner := "bytes") (n := "join") (by rw [typeLookup_type, builtinLookup_eq_fast]; kernel_rfl) (by decide +kernel) (by decide +kernel) (by decide +kernel)
    (by first | exact .inl (by decide +kernel) | exact .inr (by decide +kernel)) (by rw [isSubtype_type]; kernel_rfl)
theorem join_type : typeOf (.builtin "bytes.join") = pure (.type "method_descriptor") := by show builtinType _ = _; rw [builtinType_eq_fast]; kernel_rfl
theorem join_entry : entryFor table "bytes.join" = some Builtin.«bytes.join» := by first | exact entryFor_of_fast (by kernel_rfl) | exact entryFor_of_tree (by kernel_rfl)
theorem join_args (a b : Value) : argsOk "bytes.join" ⟨[a, b], []⟩ := by unfold argsOk; kernel_rfl
theorem bytes_ga : typeLookup (.type "bytes") "__getattribute__" = pure (some (.builtin "bytes.__getattribute__")) := by rw [typeLookup_type, builtinLookup_eq_fast]; kernel_rfl
theorem bytes_canon : (Manifest.canonical "bytes.__getattribute__" != "object.__getattribute__") = false := by first | decide +kernel | (rw [bne_eq_false_iff_eq]; decide +kernel)
theorem bytes_noga : typeLookup (.type "bytes") "__getattr__" = pure none := by rw [typeLookup_type, builtinLookup_eq_fast]; kernel_rfl
theorem bytes_buffer : typeLookup (.type "bytes") "__buffer__" = pure (some (.builtin "bytes.__buffer__")) := by rw [typeLookup_type, builtinLookup_eq_fast]; kernel_rfl
theorem bytes_release : typeLookup (.type "bytes") "__release_buffer__" = pure none := by rw [typeLookup_type, builtinLookup_eq_fast]; kernel_rfl
theorem bytes_sub : isSubtype (.type "bytes") (.type "bytes") = pure true := by rw [isSubtype_type]; kernel_rfl
end FB2

section
variable {prog : Program} {w : World} {A : Around} {E : Value → Shared → Prop} {s : Shared}

theorem getMethod_join {b : Array UInt8} {t : Tok} {pl : Sem Bool} {Q : Value × List Value → Shared → Prop} (h : Q (.builtin "bytes.join", [.bytes b t]) s) : wpAny (model prog w) A (getMethod (.bytes b t) (Str.ofString "join") pl) Q E s :=
  getMethod_value (T := "bytes") (name := Str.ofString "join") (ga := "bytes.__getattribute__") (id := "bytes.join") (PySem.W.typeIs_bytes _ _ _) (by intro _ x; cases x) FB2.bytes_ga FB2.bytes_canon FB2.bytes_noga FB2.slot_join.lookup FB2.join_type h

theorem buffer_bytes {id : String} {b : Array UInt8} {t : Tok} {Q : Option (Array UInt8 × Option Value) → Shared → Prop} (h : Q (some (b, none)) s) : wpAny (model prog w) A (Builtin.Bytes.takeBufferQuiet? id (.bytes b t) 0) Q E s := by
  have hT : s.TypeIs (.bytes b t) "bytes" := PySem.W.typeIs_bytes _ _ _
  have own : ∀ {Q : Bool → Shared → Prop} {E : Value → Shared → Prop}, Q true s → wpAny (model prog w) A (Builtin.Bytes.slotIsOwn (.bytes b t) "__buffer__") Q E s := by
    intro Q E hq
    unfold Builtin.Bytes.slotIsOwn
    refine wpAny_bind (wpAny_specialOf hT FB2.bytes_buffer ?_)
    dsimp only
    refine bm_if_false (by decide +kernel) ?_
    have e : ("bytes.__buffer__" : String).dropRight ("__buffer__".length + 1) = "bytes" := by decide +kernel
    rw [e]
    exact wpAny_isInstance hT FB2.bytes_sub hq
  have buf : ∀ {Q : Option (Array UInt8) → Shared → Prop} {E : Value → Shared → Prop} {full : Bool}, Q (some b) s → wpAny (model prog w) A (Builtin.Bytes.buffer? id (.bytes b t) full) Q E s := by
    intro Q E full hq
    unfold Builtin.Bytes.buffer?
    refine wpAny_bind (wpAny_specialOf hT FB2.bytes_buffer ?_)
    dsimp only
    refine wpAny_bind (own ?_)
    refine bm_if_false rfl ?_
    refine wpAny_bind (wpAny_specialOf hT FB2.bytes_buffer ?_)
    unfold Builtin.Bytes.ownRelease Builtin.Bytes.slotIsOwn
    refine wpAny_bind (wpAny_bind (wpAny_bind (wpAny_specialOf hT FB2.bytes_release ?_)))
    refine wpAny_pure (wpAny_pure ?_)
    refine bm_if_false rfl ?_
    unfold Builtin.Bytes.payload Builtin.Bytes.payload?
    exact wpAny_bind (wpAny_bind (wpAny_pure (wpAny_pure (wpAny_pure hq))))
  unfold Builtin.Bytes.takeBufferQuiet? Builtin.Bytes.takeBuffer?
  refine wpAny_bind (wpAny_attempt ?_)
  refine wpAny_bind (wpAny_specialOf hT FB2.bytes_buffer ?_)
  dsimp only
  refine wpAny_bind (own ?_)
  refine bm_if_false rfl ?_
  refine wpAny_bind (wpAny_specialOf hT FB2.bytes_buffer ?_)
  refine wpAny_bind (buf ?_)
  exact wpAny_pure (wpAny_pure h)

theorem join_m1 {motive : Array Value → Sort u} (v : Value) (h1 : (x : Value) → motive #[x]) (h2 : (x : Array Value) → motive x) : PySem.Builtin.Bytes.joinM.match_1 motive #[v] h1 h2 = h1 v := rfl
theorem join_m2 {motive : Array Value → Sort u} (x : Array Value) (hx : x.size ≠ 1) (h1 : (x : Value) → motive #[x]) (h2 : (x : Array Value) → motive x) : PySem.Builtin.Bytes.joinM.match_1 motive x h1 h2 = h2 x := by
  unfold PySem.Builtin.Bytes.joinM.match_1
  simp only
  exact dif_neg hx

theorem any_forRange {M : Model} {β : Type} {n : Nat} {f : Nat → β → Sem (ForInStep β)} (I : Nat → β → Shared → Prop) {Q : β → Shared → Prop}
    (hstep : ∀ i c s, i < n → I i c s → wpAny M A (f i c) (fun r s' => match r with | .done c' => Q c' s' | .yield c' => I (i + 1) c' s') E s)
    (hend : ∀ c s, I n c s → Q c s) {c : β} (h : I 0 c s) : wpAny M A (forIn [0:n] c f) Q E s := by
  rw [Std.Legacy.Range.forIn_eq_forIn_range']
  have hsz : ([0:n] : Std.Legacy.Range).size = n := by simp [Std.Legacy.Range.size]
  show wpAny M A (forIn (List.range' 0 ([0:n] : Std.Legacy.Range).size 1) c f) Q E s
  rw [hsz]
  refine wpAny_forIn_list f (fun l c s => ∃ i, i ≤ n ∧ l = List.range' i (n - i) 1 ∧ I i c s) Q ?_ ?_ _ c ⟨0, Nat.zero_le _, by rw [Nat.sub_zero], h⟩
  · rintro x rest c s ⟨i, hi, hl, hI⟩
    have hlt : i < n := by
      rcases Nat.lt_or_ge i n with h' | h'
      · exact h'
      · rw [show n - i = 0 by with_reducible (apply Mine.sb6 <;> assumption)] at hl; simp at hl
    obtain ⟨k, hk⟩ : ∃ k, n - i = k + 1 := ⟨n - i - 1, by with_reducible (apply Mine.sb1 <;> assumption)⟩
    rw [hk, List.range'_succ] at hl
    obtain ⟨rfl, rfl⟩ := List.cons.inj hl
    refine wpAny_mono (hstep x c s hlt hI) (fun r s' h' => ?_) fun _ _ x => x
    cases r with
    | done c' => exact h'
    | yield c' => exact ⟨x + 1, hlt, by congr 1; with_reducible (apply Mine.sb3' <;> assumption), h'⟩
  · rintro c s ⟨i, hi, hl, hI⟩
    have : n - i = 0 := by
      have := congrArg List.length hl
      simpa using this.symm
    have : i = n := by with_reducible (apply Mine.sb5 <;> assumption)
    subst this
    exact hend _ _ hI

theorem joined_empty : ∀ (l : List (Array UInt8)), Builtin.Bytes.joined #[] l = (l.map (·.toList)).flatten.toArray := by
  intro l
  unfold Builtin.Bytes.joined
  have key : ∀ (l : List (Array UInt8)) (k : Nat) (acc : Array UInt8), ((l.zipIdx k).foldl (fun out (p : Array UInt8 × Nat) => (if p.2 > 0 then out ++ #[] else out) ++ p.1) acc) = acc ++ (l.map (·.toList)).flatten.toArray := by
    intro l
    induction l with
    | nil => intro k acc; simp
    | cons x l ih =>
      intro k acc
      rw [List.zipIdx_cons, List.foldl_cons, ih]
      apply Array.ext'
      simp
  have := key l 0 #[]
  simpa using this

theorem sizes_flat : ∀ (l : List (List UInt8)) (acc : Nat), (l.map (·.toArray)).foldl (fun x1 x2 => x1 + x2.size) acc = acc + l.flatten.length
  | [], acc => by simp
  | x :: l, acc => by
    rw [List.map_cons, List.foldl_cons, sizes_flat l]
    simp only [List.size_toArray, List.flatten_cons, List.length_append]
    (with_reducible exact Nat.add_assoc _ _ _)
theorem joinLetGo_ok {M : Model} {keep : List Value} : ∀ {tk : List (Value × Option Value)} {s : Shared} {Q : Unit → Shared → Prop}, (∀ x ∈ tk, ∃ b t, x = (Value.bytes b t, none)) → Q () s → wpAny M A (Builtin.Bytes.joinLetGo tk keep) Q E s
  | [], s, Q, _, h => wpAny_pure h
  | x :: tk, s, Q, ht, h => by
    obtain ⟨b, t, rfl⟩ := ht x (.head _)
    exact wpAny_bind (wpAny_letGo (joinLetGo_ok (fun y hy => ht y (.tail _ hy)) h))

theorem join_call {a : Addr} {vs : List Value} {bs : List (List UInt8)} {n : Nat} {t : Tok} {Q : Value → Shared → Prop} {o : Obj} (ho : s.heap.get? a = some o) (hc : o.cls = .type "list") (hd : o.data = .seq vs.toArray n)
    (hv : vs.length = bs.length) (hvb : ∀ (i : Nat) (b : List UInt8), bs[i]? = some b → ∃ t, vs[i]? = some (Value.bytes b.toArray t)) (hz : bs.flatten.length ≤ sizeLine) (h : ∀ t' tk, Q (.bytes bs.flatten.toArray t') { s with toks := tk }) :
    wpAny (model prog w) A (call (.builtin "bytes.join") [.bytes #[] t, .ref a]) Q E s := by
  refine wpAny_call_entry FB2.slot_join (PySem.W.typeIs_bytes _ _ _) FB2.join_entry ?_ (FB2.join_args _ _)
  unfold Builtin.«bytes.join» Builtin.Bytes.joinM
  refine wpAny_bind (wpAny_of_eq (a := (.bytes #[] t, .ref a)) rfl ?_)
  refine bm_if_true rfl ?_
  unfold Builtin.Bytes.joinItems
  refine wpAny_bind (wpAny_bind ?_)
  have hT : s.TypeIs (.ref a) "list" := ⟨_, ho, hc⟩
  refine wpAny_typeOf hT ?_
  refine bm_if_true (by decide) ?_
  refine wpAny_pure ?_
  refine wpAny_bind (wpAny_seqItems ho hd ?_)
  have one : ∀ (v : Value), vs = [v] → ∃ b t, bs = [b] ∧ v = .bytes b.toArray t := by
    intro v e
    subst e
    match bs, hv with
    | [b], _ =>
      obtain ⟨t, ht⟩ := hvb 0 b rfl
      exact ⟨b, t, rfl, by simpa using ht⟩
  have flat : (bs.map (·.toArray)).map (·.toList) = bs := by rw [List.map_map]; exact List.map_id'' (fun _ => rfl) _
  refine bm_if_true rfl ?_
  by_cases h1 : vs.length = 1
  · obtain ⟨v, rfl⟩ : ∃ v, vs = [v] := by
      match vs, h1 with
      | [v], _ => exact ⟨v, rfl⟩
    rw [join_m1]
    obtain ⟨b, u, rfl, rfl⟩ := one v rfl
    refine wpAny_bind (wpAny_typeOf (PySem.W.typeIs_bytes _ _ _) ?_)
    refine bm_if_true (by decide) ?_
    refine wpAny_bind (wpAny_rule ?_)
    have := h u s.toks
    simp only [List.flatten_cons, List.flatten_nil, List.append_nil] at this
    first
      | exact wpAny_pure ⟨_, rfl, this⟩
      | exact wpAny_bind (wpAny_pure (wpAny_pure ⟨_, rfl, this⟩))
  · rw [join_m2 _ (by rw [List.size_toArray]; exact h1)]
    generalize hA : vs.toArray = arr at hd ⊢
    refine wpAny_bind (any_forRange (fun i c s' => ∃ tk, s' = { s with toks := tk } ∧ c.1 = ((bs.take i).map (·.toArray)).toArray ∧ ∀ x ∈ c.2, ∃ b t, x = (Value.bytes b t, none)) ?_ ?_ ⟨s.toks, rfl, rfl, fun x hx => (nomatch hx)⟩)
    · rintro i ⟨ps, tk⟩ s' hi ⟨tks, rfl, hp, ht⟩
      dsimp only at hp ht ⊢
      refine wpAny_bind (wpAny_seqItems (s := { s with toks := tks }) ho hd ?_)
      dsimp only
      refine bm_if_false ?_ ?_
      · rw [Bool.or_eq_false_iff]
        refine ⟨by decide, ?_⟩
        rw [List.any_eq_false]
        intro x hx
        obtain ⟨b, t, rfl⟩ := ht x hx
        exact Bool.false_ne_true
      · have hib : i < bs.length := by rw [← hA, List.size_toArray] at hi; omega
        obtain ⟨u, hu⟩ := hvb i _ (List.getElem?_eq_getElem hib)
        have hx : arr.getD i Value.none = .bytes (bs[i]).toArray u := by
          rw [← hA, Array.getD_eq_getD_getElem?, List.getElem?_toArray, hu]; rfl
        rw [hx]
        refine wpAny_bind (wpAny_holding (buffer_bytes ?_))
        dsimp only
        refine wpAny_bind (wpAny_seqItems (s := { s with toks := tks }) ho hd ?_)
        dsimp only
        refine bm_if_false (by simp) ?_
        refine wpAny_pure ⟨tks, rfl, ?_, fun x hx => ?_⟩
        · dsimp only
          rw [hp, List.take_add_one, List.getElem?_eq_getElem hib, List.map_append, List.push_toArray]
          rfl
        · rcases List.mem_append.mp hx with hx | hx
          · exact ht x hx
          · simp at hx; exact ⟨_, _, hx⟩
    · rintro ⟨ps, tk⟩ s' ⟨tks, rfl, hp, ht⟩
      dsimp only at hp ht ⊢
      unfold Builtin.Bytes.payload Builtin.Bytes.payload?
      refine wpAny_bind (wpAny_bind (wpAny_pure ?_))
      refine wpAny_pure ?_
      have hps : ps = (bs.map (·.toArray)).toArray := by
        rw [hp, ← hA, List.size_toArray, hv, List.take_length]
      refine bm_if_false ?_ ?_
      · show decide (Array.foldl (fun x1 x2 => x1 + x2.size) ((#[] : Array UInt8).size * (ps.size - 1)) ps > sizeLine) = false
        refine decide_eq_false ?_
        rw [hps, List.foldl_toArray, sizes_flat]
        simp only [Array.size_empty, Nat.zero_mul, Nat.zero_add]
        omega
      · rw [joined_empty, hps, List.toList_toArray, flat]
        refine wpAny_bind (wpAny_mkBytes ?_ (by rw [List.size_toArray]; exact hz))
        refine wpAny_bind (wpAny_holding (wpAny_point (wpAny_bind (joinLetGo_ok ht ?_))))
        exact wpAny_pure ⟨_, rfl, h _ _⟩
end
end Mine
end
section
namespace Mine
open PySem PySem.W PyProof.Rows PySem.Spec PySem.Calls

section
variable {prog : Program} {w : World} {K : Frag} {b₀ : Heap} {mg mb : Str → Option Value} {tab : Nat → Option PFun} {c : Nat} {sc : Scp} {vars : List Str}

theorem Inv.allocAt {h₀ h h₁ : Heap} {L a : Addr} {m : Str → Option Value} {φ : List Addr} {σ : St} {U X T : Led} {o : Obj} (I : Inv w b₀ h₀ L m φ σ U X T h) (hk : ∀ b o, h.get? b = some o → h₁.get? b = some o) (ha : h.objs.size ≤ a) (ho : h₁.get? a = some o) :
    Inv w b₀ h₀ L m φ σ U X ((a, o) :: T) h₁ := by
  obtain ⟨F', es, N', R, nd, sep⟩ := I
  have F := F'.keeps hk
  have N := N'.grown hk
  refine ⟨F, es, fun p hp => ?_, R.mono (fun _ h => .tail _ h) List.prefix_rfl, nd, fun p hp hq => ?_⟩
  · simp only [List.mem_append, List.mem_cons] at hp
    rcases hp with hp | hp | hp | rfl | hp
    · exact N p (by simp [hp])
    · exact N p (by simp [hp])
    · exact N p (by simp [hp])
    · refine ⟨ho, fun q => ?_, ?_⟩
      · have h1 : L < h.objs.size := F'.ns.lt
        have h2 : a = L := q
        rw [h2] at ha
        exact absurd (Nat.lt_of_lt_of_le h1 ha) (Nat.lt_irrefl _)
      · cases q : h₀.get? a with
        | none => rfl
        | some o' => exact absurd (Heap.lt_size (F'.keep _ _ q)) (Nat.not_lt.mpr ha)
    · exact N p (by simp [hp])
  · rcases List.mem_cons.mp hp with rfl | hp
    · obtain ⟨q, hq1, hq2⟩ := List.mem_map.mp hq
      have h1 : q.1 < h.objs.size := Heap.lt_size (N' q (by simp only [List.mem_append] at hq1 ⊢; rcases hq1 with h | h | h <;> simp [h])).1
      rw [hq2] at h1
      exact absurd h1 (Nat.not_lt.mpr ha)
    · exact sep p hp hq

noncomputable def dctD (es : List (Str × Int)) : List (PyData × PyData) := es.map fun p => (.str p.1, .int p.2)
theorem dct_lit : ∀ {ks : List (Option Expr)} {vs : List Expr} {es : List (Str × Int)}, dctOf ks vs = some es → litPairs ks vs = some (dctD es) ∧ ks.all (·.isSome) = true ∧ ks.length = vs.length ∧ ks.length = es.length
  | [], [], es, h => by obtain rfl := Option.some.inj h; exact ⟨rfl, rfl, rfl, rfl⟩
  | [], _ :: _, es, h => no h
  | _ :: _, [], es, h => no h
  | k :: ks, v :: vs, es, h => by
    obtain ⟨k', rfl, h⟩ := bindE h
    obtain ⟨x, h1, h⟩ := bindE h
    obtain ⟨i, h2, h⟩ := bindE h
    obtain ⟨r, hr, rfl⟩ := mapE h
    obtain ⟨n, p, rfl⟩ := asStrE_eq h1
    obtain ⟨n', p', rfl⟩ := asIntE_eq h2
    obtain ⟨h1, h4, h5, h6⟩ := dct_lit hr
    refine ⟨?_, h4, congrArg Nat.succ h5, congrArg Nat.succ h6⟩
    show (litPairs ks vs).bind (fun r => some ((PyData.str x, PyData.int i) :: r)) = _
    rw [h1]
    rfl
theorem dct_keys : ∀ (es : List (Str × Int)), strKeyed (dctD es) = true ∧ strKeysOf (dctD es) = es.map (·.1)
  | [] => ⟨rfl, rfl⟩
  | p :: es => ⟨(dct_keys es).1, congrArg (p.1 :: ·) (dct_keys es).2⟩

theorem dct_res {T : Led} {φ : List Addr} : ∀ {es : List (Str × Int)} {l : List DictEntry} {kvs : List (Str × Value)}, PyProof.V.FlatPairs PyData.str kvs (dctD es) → (∀ e ∈ l, ∃ k, (strKind prog w).is k e.key = true ∧ e.hash = (strKind prog w).hash k) →
    Pairs (strKind prog w) l kvs → ReS w b₀ T φ l (intVs es)
  | [], l, kvs, hf, hk, hp => by
    cases hf; cases hp; exact .nil
  | (k, i) :: es, l, kvs, hf, hk, hp => by
    cases hf with | cons f1 f2 => ?_
    cases hp with | @cons e kv es' kvs' p1 p2 p3 => ?_
    obtain ⟨t, ht⟩ := f1.int_inv
    obtain ⟨hh, key, val⟩ := e
    obtain ⟨k', q1, q2⟩ := hk _ (.head _)
    have e1 := (strKind prog w).inj _ _ _ q1 p1
    obtain ⟨u, hu⟩ := Value.isStrOf_shape (show Value.isStrOf k key = true from p1)
    dsimp only at hu p2 q2
    subst hu
    rw [p2, ht]
    exact .cons (show hh = hashStr w k by rw [q2, e1]; rfl) (.int _ _) (dct_res f2 (fun e he => hk e (.tail _ he)) p3)

theorem sx_dct {ks : List (Option Expr)} {vs : List Expr} {es : List (Str × Int)} {pos : Pos} (G : Glo w K b₀ gl mg mb) (h : dctOf ks vs = some es) (h0 : es ≠ []) (h1 : es.length ≤ 15) (h2 : (es.map (·.1)).Nodup) : SX prog w b₀ tab c sc vars (.Dict ks vs pos) (.dct (intVs es)) := by
  intro A fenv L h₀ m U X T φ σ ρ s env d' σ' Q C N I he k
  obtain ⟨rfl, rfl⟩ := prodE (Option.some.inj he)
  obtain ⟨d1, d4, d5, d6⟩ := dct_lit h
  have hne : ks ≠ [] := fun e => h0 (List.length_eq_zero_iff.mp (by rw [← d6, e]; rfl))
  refine wpC_of (Dict_lits_str d1 (dct_keys es).1 (by rw [(dct_keys es).2]; exact h2) d4 d5 hne (by with_reducible (apply Mine.le_f; apply Mine.le_e; assumption; assumption; decide)) fun a o h₁ tk ha ho ht hk => ?_)
  obtain ⟨kvs, ⟨arr, ep, x1, x2, x3, x4, x5⟩, hf⟩ := ht
  obtain ⟨oc, od, odt, osl⟩ := o
  obtain ⟨y1, y2, y3⟩ := x1
  dsimp only at y1 y2 y3 x2
  subst y1 y2 y3 x2
  refine k _ h₁ tk _ _ (I.allocAt hk ha ho) .alloc (.dcS (es := arr.toList) (n := ep) (.inl (.head _)) ?_ (dct_res hf (fun e he => x3 e (Array.mem_toList_iff.mp he)) x4))
  have : sysModules < s.heap.objs.size := modules_low ((G.lim.keeps C.stay).keeps I.F.keep)
  exact beq_eq_false_iff_ne.mpr (fun e => absurd this (Nat.not_lt.mpr (e ▸ ha)))
end
end Mine
end
section
namespace Mine
open PySem PySem.W PyProof.Rows PySem.Spec PySem.Calls

section
variable {w : World} {b₀ h₀ h h' : Heap} {L : Addr} {m : Str → Option Value} {φ : List Addr} {σ : St} {U X T : Led}

theorem Inv.pushX (I : Inv w b₀ h₀ L m φ σ U X T h) (o : Obj) (hf : o.isFreed = false) : Inv w b₀ h₀ L m φ σ U ((h.objs.size, o) :: X) T (h.push o) := by
  obtain ⟨F, es, N, R, nd, sep⟩ := I
  have N' := News.push F N o hf
  have fresh : ∀ p ∈ es.flatten ++ (U ++ (X ++ T)), p.1 ≠ h.objs.size := fun p hp e => by
    have := Heap.lt_size (N p hp).1
    rw [e] at this; exact absurd this (Nat.lt_irrefl _)
  refine ⟨F.push o, es, fun p hp => N' p ?_, R, ?_, fun p hp hq => ?_⟩
  · simp only [List.mem_append, List.mem_cons] at hp ⊢
    rcases hp with hp | hp | (hp | hp) | hp <;> simp [hp]
  · rw [show es.flatten ++ (U ++ (h.objs.size, o) :: X) = (es.flatten ++ U) ++ (h.objs.size, o) :: X by simp, List.map_append, List.map_cons, List.nodup_append]
    rw [show es.flatten ++ (U ++ X) = (es.flatten ++ U) ++ X by simp, List.map_append, List.nodup_append] at nd
    obtain ⟨n1, n2, n3⟩ := nd
    refine ⟨n1, List.nodup_cons.mpr ⟨fun hq => ?_, n2⟩, fun a ha b hb => ?_⟩
    · obtain ⟨p, hp, e⟩ := List.mem_map.mp hq
      exact fresh p (by simp [hp]) e
    · rcases List.mem_cons.mp hb with rfl | hb
      · obtain ⟨p, hp, rfl⟩ := List.mem_map.mp ha
        exact fresh p (by simp only [List.mem_append] at hp ⊢; rcases hp with hp | hp <;> simp [hp])
      · exact n3 a ha b hb
  · obtain ⟨q, hq1, hq2⟩ := List.mem_map.mp hq
    simp only [List.mem_append, List.mem_cons] at hq1
    rcases hq1 with hq1 | hq1 | rfl | hq1
    · exact sep p hp (List.mem_map.mpr ⟨q, by simp [hq1], hq2⟩)
    · exact sep p hp (List.mem_map.mpr ⟨q, by simp [hq1], hq2⟩)
    · exact fresh p (by simp [hp]) hq2.symm
    · exact sep p hp (List.mem_map.mpr ⟨q, by simp [hq1], hq2⟩)

theorem Inv.chgX {X₁ X₂ : Led} {c : Addr} {o o' : Obj} (I : Inv w b₀ h₀ L m φ σ U (X₁ ++ (c, o) :: X₂) T h) (hk : ∀ b ob, b ≠ c → h.get? b = some ob → h'.get? b = some ob) (ho : h'.get? c = some o') :
    Inv w b₀ h₀ L m φ σ U (X₁ ++ (c, o') :: X₂) T h' := by
  obtain ⟨F, es, N, R, nd, sep⟩ := I
  have hc := N (c, o) (by simp)
  have e0 : es.flatten ++ (U ++ (X₁ ++ (c, o) :: X₂)) = (es.flatten ++ (U ++ X₁)) ++ (c, o) :: X₂ := by simp
  have e1 : es.flatten ++ (U ++ (X₁ ++ (c, o') :: X₂)) = (es.flatten ++ (U ++ X₁)) ++ (c, o') :: X₂ := by simp
  have em : (es.flatten ++ (U ++ (X₁ ++ (c, o') :: X₂))).map (·.1) = (es.flatten ++ (U ++ (X₁ ++ (c, o) :: X₂))).map (·.1) := by simp
  have nd0 := nd
  rw [e0, List.map_append, List.map_cons, List.nodup_append] at nd0
  obtain ⟨n1, n2, n3⟩ := nd0
  have hne : ∀ p ∈ es.flatten ++ (U ++ (X₁ ++ X₂ ++ T)), p.1 ≠ c := by
    intro p hp q
    simp only [List.mem_append] at hp
    rcases hp with hp | hp | (hp | hp) | hp
    · exact n3 p.1 (List.mem_map_of_mem (by simp [hp])) c (.head _) q
    · exact n3 p.1 (List.mem_map_of_mem (by simp [hp])) c (.head _) q
    · exact n3 p.1 (List.mem_map_of_mem (by simp [hp])) c (.head _) q
    · exact (List.nodup_cons.mp n2).1 (List.mem_map.mpr ⟨p, hp, q⟩)
    · exact sep p hp (by rw [q]; exact List.mem_map.mpr ⟨(c, o), by simp, rfl⟩)
  refine ⟨⟨F.ns.at' fun ob e => hk L ob (Ne.symm hc.2.1) e, fun b ob e => hk b ob (fun q => ?_) (F.keep b ob e), F.above⟩, es, fun p hp => ?_, R, by rw [em]; exact nd, by rw [em]; exact sep⟩
  · rw [q, hc.2.2] at e; cases e
  · simp only [List.mem_append, List.mem_cons] at hp
    have go : p ∈ es.flatten ++ (U ++ (X₁ ++ X₂ ++ T)) → p ∈ es.flatten ++ (U ++ (X₁ ++ (c, o) :: X₂ ++ T)) → h'.get? p.1 = some p.2 ∧ p.1 ≠ L ∧ h₀.get? p.1 = none := fun q1 q2 =>
      ⟨hk _ _ (hne p q1) (N p q2).1, (N p q2).2⟩
    rcases hp with hp | hp | (hp | rfl | hp) | hp
    · exact go (by simp [hp]) (by simp [hp])
    · exact go (by simp [hp]) (by simp [hp])
    · exact go (by simp [hp]) (by simp [hp])
    · exact ⟨ho, hc.2⟩
    · exact go (by simp [hp]) (by simp [hp])
    · exact go (by simp [hp]) (by simp [hp])

theorem Inv.dropX {X' : Led} (I : Inv w b₀ h₀ L m φ σ U (X' ++ X) T h) : Inv w b₀ h₀ L m φ σ U X T h := by
  refine I.re (fun _ h => h) (fun p hp => ?_) (fun l hl nd sp => ⟨?_, fun p hp => ⟨hl _ (List.mem_map_of_mem hp), fun hq => sp p hp ?_⟩⟩)
  · simp only [List.mem_append] at hp ⊢
    rcases hp with hp | hp | hp <;> simp [hp]
  · refine List.Nodup.sublist ?_ nd
    refine List.Sublist.append (List.Sublist.refl _) (List.Sublist.map _ ?_)
    exact List.Sublist.append (List.Sublist.refl _) (List.sublist_append_right _ _)
  · rw [List.map_append] at hq ⊢
    rcases List.mem_append.mp hq with hq | hq
    · exact List.mem_append_left _ hq
    · rw [List.map_append]; exact List.mem_append_right _ (List.mem_append_right _ hq)

theorem Inv.stayX {p : Addr × Obj} (I : Inv w b₀ h₀ L m φ σ U (p :: X) T h) : Inv w b₀ h₀ L m φ σ U X (p :: T) h := by
  refine I.re (fun _ h => .tail _ h) (fun q hq => ?_) (fun l hl nd sp => ⟨?_, fun q hq => ?_⟩)
  · simp only [List.mem_append, List.mem_cons] at hq ⊢
    rcases hq with hq | hq | hq | hq <;> simp [hq]
  · refine List.Nodup.sublist ?_ nd
    exact List.Sublist.append (List.Sublist.refl _) (List.Sublist.map _ (List.Sublist.append (List.Sublist.refl _) (List.sublist_cons_self _ _)))
  · rcases List.mem_cons.mp hq with rfl | hq
    · rw [List.map_append, List.map_cons, ← List.append_assoc, List.nodup_append] at nd
      obtain ⟨n1, n2, n3⟩ := nd
      have hp := (List.nodup_cons.mp n2).1
      refine ⟨fun h => n3 q.1 (List.mem_append_left _ h) q.1 (.head _) rfl, fun h => ?_⟩
      rw [List.map_append] at h
      rcases List.mem_append.mp h with h | h
      · exact n3 q.1 (List.mem_append_right _ h) q.1 (.head _) rfl
      · exact hp h
    · refine ⟨hl _ (List.mem_map_of_mem hq), fun h => sp q hq ?_⟩
      rw [List.map_append] at h ⊢
      rcases List.mem_append.mp h with h | h
      · exact List.mem_append_left _ h
      · exact List.mem_append_right _ (.tail _ h)
end

noncomputable def ItOk (o : Obj) : Prop := ∃ n, o.cls = .type n ∧ ["enumerate", "zip", "dict_itemiterator", "dict_reverseitemiterator", "odict_iterator", "itertools.zip_longest", "itertools.pairwise"].contains n = false

inductive SrcOk (prog : Program) (w : World) (A : Around) (b₀ : Heap) (T : Led) (φ : List Addr) (vs : List PV) (h : Heap) (I : Addr) : Prop
  | mk (fp : List Addr) (P : Nat → Value → Prop) (St : Nat → Heap → Prop) : Walks prog w A I fp [I] vs.length P St → (∀ b ∈ fp, b = I ∨ ∃ o, IsO b₀ T b o) → (∀ i v, i < vs.length → P i v → ∃ d, vs[i]? = some d ∧ Rv w b₀ T φ v d) →
    (∀ i h, St i h → ∃ o, h.get? I = some o ∧ ItOk o) → St 0 h → SrcOk prog w A b₀ T φ vs h I

section
variable {prog : Program} {w : World} {A : Around} {E : Value → Shared → Prop} {s : Shared} {b₀ h₀ : Heap} {L : Addr} {m : Str → Option Value} {φ : List Addr} {σ : St} {U X T : Led} {Q : Value → Shared → Prop}

theorem rngUp_len : ∀ (n : Nat) (a : Int), (rngUp a n).length = n
  | 0, _ => rfl
  | n + 1, a => by simp [rngUp, rngUp_len n]
theorem rngUp_get : ∀ (n : Nat) (a : Int) (i : Nat), i < n → (rngUp a n)[i]? = some (.int (a + i))
  | n + 1, a, 0, _ => by simp [rngUp]
  | n + 1, a, i + 1, h => by
    have := rngUp_get n (a + 1) i (by omega)
    simp only [rngUp, List.getElem?_cons_succ, this]
    congr 2; push_cast; omega
theorem rngDown_len : ∀ (n : Nat) (a : Int), (rngDown a n).length = n
  | 0, _ => rfl
  | n + 1, a => by simp [rngDown, rngDown_len n]
theorem rngDown_get : ∀ (n : Nat) (a : Int) (i : Nat), i < n → (rngDown a n)[i]? = some (.int (a - i))
  | n + 1, a, 0, _ => by simp [rngDown]
  | n + 1, a, i + 1, h => by
    have := rngDown_get n (a - 1) i (by omega)
    simp only [rngDown, List.getElem?_cons_succ, this]
    congr 2; push_cast; omega

set_option tactic.hygienic true in
theorem src_ok {v : Value} {d : PV} {vs : List PV} (h : items d = some vs) (hv : Rv w b₀ T φ v d) (hh : A.handled = none) (I : Inv w b₀ h₀ L m φ σ U X T s.heap) (st : b₀.StaysIn h₀)
    (k : ∀ D oI h', Inv w b₀ h₀ L m φ σ U ((D, oI) :: X) T h' → SrcOk prog w A b₀ T φ vs h' D → Q (.ref D) { s with heap := h' }) : wpAny (model prog w) A (pyIter v) Q E s := by
  have hlt : ∀ {a : Addr} {o : Obj}, s.heap.get? a = some o → a ≠ s.heap.objs.size := fun e => Nat.ne_of_lt (Heap.lt_size e)
  cases d <;> simp only [items] at h <;> first | (cases h; done) | skip
  · cases h
    cases hv with | byt b t => ?_
    rename_i b
    have W := KBw.walks (prog := prog) (w := w) (A := A) hh s.heap.objs.size b.toArray t
    have hsz : b.toArray.size = b.length := List.size_toArray
    rw [hsz] at W
    refine KBw.pyIter_bytes (k _ _ _ (I.pushX _ rfl) ⟨[s.heap.objs.size], _, _, by rw [List.length_map]; exact W, fun b hb => .inl (by simpa using hb), fun i v hi hp => ?_, fun i h hs => ?_, ?_⟩)
    · obtain ⟨c, u, h1, rfl⟩ := hp
      rw [List.getElem?_toArray] at h1
      exact ⟨.int (c.toNat : Int), by rw [List.getElem?_map, h1]; rfl, .int _ _⟩
    · obtain ⟨o, e, q, _⟩ := hs; exact ⟨o, e, _, q, by decide⟩
    · exact ⟨_, Heap.get?_push_size _ rfl, rfl, rfl⟩
  · cases h
    cases hv with | @tup a o us n _ io c e rs => ?_
    have ht := io.tuple c e I st
    obtain ⟨oo, g1, g2, g3⟩ := id ht
    have W := Walks.tuple (prog := prog) (w := w) (A := A) hh s.heap.objs.size a (hlt g1) us.toArray
    have hsz : us.toArray.size = vs.length := List.size_toArray.trans rs.length
    rw [hsz] at W
    refine wpAny_pyIter_tuple ht (k _ _ _ (I.pushX _ rfl) ⟨[s.heap.objs.size, a], _, _, W, fun b hb => ?_, fun i v hi hp => ?_, fun i h hs => ?_, ?_⟩)
    · rcases List.mem_cons.mp hb with rfl | hb
      · exact .inl rfl
      · simp at hb; subst hb; exact .inr ⟨_, io⟩
    · obtain ⟨d, hd, rv⟩ := rs.getv (by simpa using hp)
      exact ⟨d, hd, rv⟩
    · obtain ⟨⟨o, e, q, _⟩, _⟩ := hs; exact ⟨o, e, _, q, by decide⟩
    · exact ⟨⟨_, Heap.get?_push_size _ rfl, rfl, rfl⟩, ⟨oo, Heap.get?_push_of_some _ g1, g2, g3⟩⟩
  · cases h
    cases hv with | @lst a o us n _ io c e rs => ?_
    have ht := io.list c e I st
    obtain ⟨oo, g1, g2, g3⟩ := id ht
    have W := Walks.list (prog := prog) (w := w) (A := A) hh s.heap.objs.size a (hlt g1) us.toArray
    have hsz : us.toArray.size = vs.length := List.size_toArray.trans rs.length
    rw [hsz] at W
    refine wpAny_pyIter_list ht (k _ _ _ (I.pushX _ rfl) ⟨[s.heap.objs.size, a], _, _, W, fun b hb => ?_, fun i v hi hp => ?_, fun i h hs => ?_, ?_⟩)
    · rcases List.mem_cons.mp hb with rfl | hb
      · exact .inl rfl
      · simp at hb; subst hb; exact .inr ⟨_, io⟩
    · obtain ⟨d, hd, rv⟩ := rs.getv (by simpa using hp)
      exact ⟨d, hd, rv⟩
    · obtain ⟨⟨o, e, q, _⟩, _⟩ := hs; exact ⟨o, e, _, q, by decide⟩
    · exact ⟨⟨_, Heap.get?_push_size _ rfl, rfl, rfl⟩, ⟨oo, Heap.get?_push_of_some _ g1, g2, g3⟩⟩
  · rename_i a b c
    cases hv with | @rng r _ _ _ t u v io => ?_
    have hr : IsRange s.heap r a b c t u v := I.getO st io
    unfold rngItems at h
    split at h
    · cases h
    · rename_i hsm
      have hs' : small62 a = true ∧ small62 b = true := by simpa using hsm
      have ha := of_decide_eq_true hs'.1
      have hb := of_decide_eq_true hs'.2
      split at h
      · rename_i hc
        subst hc
        cases h
        have hz : Builtin.Range.rangeSize a b 1 = ((b - a).toNat : Int) := by
          unfold Builtin.Range.rangeSize
          rw [if_pos (by decide)]
          split <;> with_reducible (first | (apply Mine.rs1 <;> assumption) | (apply Mine.rs2 <;> assumption))
        have W := Walks.range (prog := prog) (w := w) (A := A) hh s.heap.objs.size a 1 (b - a).toNat
        refine wpAny_pyIter_range hr (PySem.small_one (by with_reducible (apply Mine.na_ge <;> assumption)) (by with_reducible (apply Mine.na_lt <;> assumption)) (by with_reducible (apply Mine.na_ge <;> assumption)) (by with_reducible (apply Mine.na_lt <;> assumption))) ?_
        rw [hz]
        refine k _ _ _ (I.pushX _ rfl) ⟨[s.heap.objs.size], _, _, by rw [rngUp_len]; exact W, fun b hb => .inl (by simpa using hb), fun i v hi hp => ?_, fun i h hs => ⟨_, hs, _, rfl, by decide⟩, ?_⟩
        · rw [rngUp_len] at hi
          obtain ⟨t, rfl⟩ := hp
          refine ⟨_, rngUp_get _ a i hi, ?_⟩
          rw [Int.mul_one]
          exact .int _ _
        · have e : IsRangeIter (s.heap.push { cls := .type "range_iterator", data := .fields #[rawInt a, rawInt ((b - a).toNat : Int), rawInt 1] }) s.heap.objs.size a ((b - a).toNat : Int) 1 := Heap.get?_push_size _ rfl
          simpa using e
      · split at h
        · rename_i hc
          subst hc
          cases h
          have hz : Builtin.Range.rangeSize a b (-1) = ((a - b).toNat : Int) := by
            unfold Builtin.Range.rangeSize
            rw [if_neg (by decide), Int.neg_neg, Int.ediv_one]
            split <;> with_reducible (first | (apply Mine.rs3 <;> assumption) | (apply Mine.rs2 <;> assumption))
          have W := Walks.range (prog := prog) (w := w) (A := A) hh s.heap.objs.size a (-1) (a - b).toNat
          refine wpAny_pyIter_range hr (PySem.W.small_down (by with_reducible (apply Mine.na_ge <;> assumption)) (by with_reducible (apply Mine.na_lt <;> assumption)) (by with_reducible (apply Mine.na_ge <;> assumption)) (by with_reducible (apply Mine.na_lt <;> assumption))) ?_
          rw [hz]
          refine k _ _ _ (I.pushX _ rfl) ⟨[s.heap.objs.size], _, _, by rw [rngDown_len]; exact W, fun b hb => .inl (by simpa using hb), fun i v hi hp => ?_, fun i h hs => ⟨_, hs, _, rfl, by decide⟩, ?_⟩
          · rw [rngDown_len] at hi
            obtain ⟨t, rfl⟩ := hp
            refine ⟨_, rngDown_get _ a i hi, ?_⟩
            rw [show a + (i : Int) * (-1) = a - i by (with_reducible exact Mine.rs5)]
            exact .int _ _
          · have e : IsRangeIter (s.heap.push { cls := .type "range_iterator", data := .fields #[rawInt a, rawInt ((a - b).toNat : Int), rawInt (-1)] }) s.heap.objs.size a ((a - b).toNat : Int) (-1) := Heap.get?_push_size _ rfl
            simpa using e
        · cases h
end
end Mine
end
section
namespace Mine
open PySem PySem.W PyProof.Rows PySem.Spec PySem.Calls PySem.SeqAt

namespace FB2
theorem tup_ga : typeLookup (.type "tuple") "__getattribute__" = pure (some (.builtin "tuple.__getattribute__")) := by rw [typeLookup_type, builtinLookup_eq_fast]; kernel_rfl
theorem tup_canon : (Manifest.canonical "tuple.__getattribute__" != "object.__getattribute__") = false := by first | decide +kernel | (rw [bne_eq_false_iff_eq]; decide +kernel)
theorem tup_noga : typeLookup (.type "tuple") "__getattr__" = pure none := by rw [typeLookup_type, builtinLookup_eq_fast]; kernel_rfl
theorem tup_plain : PlainAttrs "tuple" := ⟨⟨_, tup_ga, tup_canon⟩, tup_noga⟩
end FB2
section
variable {prog : Program} {w : World} {A : Around} {E : Value → Shared → Prop} {s : Shared}
theorem getMethod_index {a : Addr} {o : Obj} {pl : Sem Bool} {Q : Value × List Value → Shared → Prop} (ho : s.heap.get? a = some o) (hc : o.cls = .type "tuple") (hd : o.dict = none) (h : Q (.builtin "tuple.index", [.ref a]) s) : wpAny (model prog w) A (getMethod (.ref a) (Str.ofString "index") pl) Q E s :=
  getMethod_builtin (T := "tuple") ⟨o, ho, hc⟩ FB2.tup_plain F.slot_tuple_index F.type_tuple_index (fun b e => by cases e; exact ⟨o, ho, hd⟩) h

theorem index_call {a : Addr} {o : Obj} {vs : List Value} {n : Nat} {x : Int} {k : Nat} {t : Tok} {Q : Value → Shared → Prop} (ho : s.heap.get? a = some o) (hc : o.cls = .type "tuple") (hd : o.data = .seq vs.toArray n)
    (hv : ∀ i, i ≤ k → ∃ y t, vs[i]? = some (.int y t) ∧ (y = x ↔ i = k)) (h : ∀ t' tk, Q (.int k t') { s with toks := tk }) :
    wpAny (model prog w) A (call (.builtin "tuple.index") [.ref a, .int x t]) Q E s := by
  refine wpAny_call_entry F.slot_tuple_index ⟨o, ho, hc⟩ F.entry_tuple_index ?_ (F.args_tuple_index_2 _ _)
  unfold Builtin.«tuple.index»
  refine wpAny_bind (wpAny_of_eq (a := (.ref a, [.int x t])) (by kernel_rfl) ?_)
  dsimp only
  unfold Builtin.Tuple.tupleItemsOf
  refine wpAny_bind (wpAny_bind (wpAny_seqItems ho hd ?_))
  refine wpAny_pure (wpAny_bind (wpAny_pure (wpAny_bind (wpAny_pure ?_))))
  have hkl : k < vs.length := by
    obtain ⟨y, t, h1, _⟩ := hv k (Nat.le_refl _)
    exact (List.getElem?_eq_some_iff.mp h1).1
  refine wpAny_bind (any_forRange (fun i c s' => i ≤ k ∧ c = (none, ()) ∧ ∃ tk, s' = { s with toks := tk }) ?_ ?_ ⟨Nat.zero_le _, rfl, s.toks, rfl⟩)
  · rintro i c s' hi ⟨hik, rfl, tk, rfl⟩
    obtain ⟨y, u, h1, h2⟩ := hv i hik
    rw [List.getElem?_toArray, h1]
    dsimp only
    refine wpAny_bind (EqAt_intEq x y u t prog w _ _ ?_)
    unfold intEq
    by_cases hy : x = y
    · have hi' : i = k := h2.mp hy.symm
      subst hi'
      refine bm_if_true (decide_eq_true hy) ?_
      refine wpAny_bind ?_
      unfold retInt
      refine wpAny_bind (wpAny_mkInt (wpAny_pure (wpAny_pure (wpAny_pure ⟨_, rfl, h _ _⟩))))
    · refine bm_if_false (decide_eq_false hy) ?_
      refine wpAny_pure ⟨?_, rfl, tk, rfl⟩
      have : i ≠ k := fun e => hy (h2.mpr e).symm
      with_reducible (apply Mine.ne_lt <;> assumption)
  · rintro c s' ⟨hik, rfl, tk, rfl⟩
    rw [Nat.min_self, List.size_toArray] at hik
    with_reducible (apply absurd; assumption; apply Nat.not_le.mpr; assumption)

theorem pos_facts {w : World} {b₀ : Heap} {T : Led} {φ : List Addr} {x : Int} : ∀ {ds : List PV} {vs : List Value} {k j : Nat}, posIn x ds j = some k → Rvs w b₀ T φ vs ds → j ≤ k ∧ ∀ i, i + j ≤ k → ∃ y t, vs[i]? = some (.int y t) ∧ (y = x ↔ i + j = k)
  | [], _, _, _, h, _ => no h
  | _ :: _, [], _, _, _, r => nomatch r.length
  | d :: ds, v :: vs, k, j, h, r => by
    obtain ⟨r1, r2⟩ := r.unc
    obtain ⟨b, hb, h⟩ := bindE h
    obtain ⟨t, rfl⟩ := (asI_eq hb ▸ r1 : Rv w b₀ T φ v (.int b)).inv
    by_cases e : x = b
    · rw [if_pos e] at h
      have e2 := Option.some.inj h
      subst e e2
      refine ⟨Nat.le_refl _, fun i hi => ?_⟩
      obtain rfl : i = 0 := by omega
      exact ⟨x, t, rfl, by simp⟩
    · rw [if_neg e] at h
      obtain ⟨h1, h2⟩ := pos_facts h r2
      refine ⟨by with_reducible (apply Nat.le_of_succ_le; assumption), fun i hi => ?_⟩
      cases i with
      | zero => exact ⟨b, t, rfl, fun q => absurd q.symm e, fun q => by omega⟩
      | succ i =>
        obtain ⟨y, u, p, q⟩ := h2 i (by with_reducible (apply Mine.sh5 <;> assumption))
        exact ⟨y, u, p, q.trans (by (with_reducible exact Mine.ad4))⟩

theorem byts_facts {w : World} {b₀ : Heap} {T : Led} {φ : List Addr} : ∀ {ds : List PV} {vs : List Value} {bs : List (List UInt8)}, byts? ds = some bs → Rvs w b₀ T φ vs ds → vs.length = bs.length ∧ ∀ (i : Nat) (b : List UInt8), bs[i]? = some b → ∃ t, vs[i]? = some (Value.bytes b.toArray t)
  | [], [], bs, h, r => by
    obtain rfl := Option.some.inj h
    exact ⟨rfl, fun i b h => nomatch h⟩
  | [], _ :: _, _, _, r => nomatch r.length
  | _ :: _, [], _, _, r => nomatch r.length
  | d :: ds, v :: vs, bs, h, r => by
    obtain ⟨r1, r2⟩ := r.unc
    obtain ⟨b, hb, h⟩ := bindE h
    obtain ⟨bs', h1, rfl⟩ := mapE h
    obtain ⟨t, rfl⟩ := (asB_eq hb ▸ r1 : Rv w b₀ T φ v (.byt b)).inv
    obtain ⟨p, q⟩ := byts_facts h1 r2
    refine ⟨congrArg Nat.succ p, fun i b' hb => ?_⟩
    cases i with
    | zero => exact ⟨t, by rw [← Option.some.inj hb]; rfl⟩
    | succ i => exact q i b' hb
end
end Mine
end
section
namespace Mine
open PySem PySem.W PyProof.Rows PySem.Spec PySem.Calls

section
variable {w : World} {b₀ h₀ h h' : Heap} {L : Addr} {m : Str → Option Value} {φ : List Addr} {σ : St} {U X T : Led}
theorem Inv.dropAt {X₁ X₂ : Led} {c : Addr} {o : Obj} (I : Inv w b₀ h₀ L m φ σ U (X₁ ++ (c, o) :: X₂) T h) (hk : ∀ b ob, b ≠ c → h.get? b = some ob → h'.get? b = some ob) : Inv w b₀ h₀ L m φ σ U (X₁ ++ X₂) T h' := by
  obtain ⟨F, es, N, R, nd, sep⟩ := I
  have hc := N (c, o) (by simp)
  have hne : ∀ p ∈ es.flatten ++ (U ++ (X₁ ++ X₂ ++ T)), p.1 ≠ c := by
    have nd0 := nd
    rw [show es.flatten ++ (U ++ (X₁ ++ (c, o) :: X₂)) = (es.flatten ++ (U ++ X₁)) ++ (c, o) :: X₂ by simp, List.map_append, List.map_cons, List.nodup_append] at nd0
    obtain ⟨n1, n2, n3⟩ := nd0
    intro p hp q
    simp only [List.mem_append] at hp
    rcases hp with hp | hp | (hp | hp) | hp
    · exact n3 p.1 (List.mem_map_of_mem (by simp [hp])) c (.head _) q
    · exact n3 p.1 (List.mem_map_of_mem (by simp [hp])) c (.head _) q
    · exact n3 p.1 (List.mem_map_of_mem (by simp [hp])) c (.head _) q
    · exact (List.nodup_cons.mp n2).1 (List.mem_map.mpr ⟨p, hp, q⟩)
    · exact sep p hp (by rw [q]; exact List.mem_map.mpr ⟨(c, o), by simp, rfl⟩)
  refine ⟨⟨F.ns.at' fun ob e => hk L ob (Ne.symm hc.2.1) e, fun b ob e => hk b ob (fun q => ?_) (F.keep b ob e), F.above⟩, es, fun p hp => ?_, R, ?_, fun p hp hq => sep p hp ?_⟩
  · rw [q, hc.2.2] at e; cases e
  · have := N p (by simp only [List.mem_append, List.mem_cons] at hp ⊢; rcases hp with hp | hp | (hp | hp) | hp <;> simp [hp])
    exact ⟨hk _ _ (hne p (by simpa [List.mem_append] using hp)) this.1, this.2⟩
  · refine List.Nodup.sublist (List.Sublist.map _ ?_) nd
    exact List.Sublist.append (List.Sublist.refl _) (List.Sublist.append (List.Sublist.refl _) (List.Sublist.append (List.Sublist.refl _) (List.sublist_cons_self _ _)))
  · obtain ⟨q, hq1, hq2⟩ := List.mem_map.mp hq
    refine List.mem_map.mpr ⟨q, ?_, hq2⟩
    simp only [List.mem_append, List.mem_cons] at hq1 ⊢
    rcases hq1 with h | h | h | h <;> simp [h]
theorem Inv.dropChg {c : Addr} {o : Obj} (I : Inv w b₀ h₀ L m φ σ U ((c, o) :: X) T h) (hk : ∀ b ob, b ≠ c → h.get? b = some ob → h'.get? b = some ob) : Inv w b₀ h₀ L m φ σ U X T h' := Inv.dropAt (X₁ := []) I hk
end

section
variable {prog : Program} {w : World} {K : Frag} {b₀ : Heap} {mg mb : Str → Option Value} {tab : Nat → Option PFun} {c : Nat} {sc : Scp} {vars : List Str}

theorem sx_index {o a : Expr} {po pa : PX} {ap pos : Pos} (hb : noCall o = true) (hl : (ap.endLine == pos.line) = true) (ho : SX prog w b₀ tab c sc vars o po) (h : SXs prog w b₀ tab c sc vars [a] (.cons pa .nil)) :
    SX prog w b₀ tab c sc vars (.Call (.Attribute o (Str.ofString "index") ap) [a] [] pos) (.index po pa) := by
  intro A fenv L h₀ m U X T φ σ ρ s env d' σ' Q C N I he k
  obtain ⟨⟨x, σ₁⟩, h1, he⟩ := bindE he
  obtain ⟨⟨y, σ₂⟩, h2, he⟩ := bindE he
  obtain ⟨r, h3, he⟩ := mapE he
  obtain ⟨rfl, rfl⟩ := prodE he
  dsimp only at h2 h3
  obtain ⟨ds, hx, h3⟩ := bindE h3
  obtain ⟨i, hy, h3⟩ := bindE h3
  obtain ⟨j, hj, rfl⟩ := mapE h3
  have h2' : evs (callF tab c) (.cons pa .nil) ρ σ₁ = some ([y], σ') := by
    show (ev (callF tab c) pa ρ σ₁).bind _ = _
    rw [h2]; rfl
  refine c_Call_meth hb hl (show (2 : Nat) < 30 by decide) h.1.1 (ho C N I h1 fun v h₁ t₁ T₁ φ₁ I₁ e₁ r₁ pl => wpC_of ?_)
  obtain ⟨a, o, us, n, rfl, io, cc, e, rs⟩ := (rvT hx r₁).inv
  refine getMethod_index (s := { s with heap := h₁, toks := t₁ }) (I₁.getO C.stay io) cc.1 cc.2 ?_
  refine c_callWith (P := fun _ => True) (plain_trees h.1.1) (keeps_machine (by intro a ha; cases ha)) ?_
  refine h.2 C (N.ext e₁) I₁ h2' fun vs h' tk' T' φ' I' e' r' => ⟨trivial, wpC_of ?_⟩
  obtain ⟨v1, rfl, r1⟩ := r'.inv1
  obtain ⟨t, rfl⟩ := (rvI hy r1).inv
  obtain ⟨p, q⟩ := pos_facts hj rs
  refine index_call (s := { s with heap := h', toks := tk' }) (k := j) (I'.getO C.stay (io.mono e'.1)) cc.1 e (fun i hi => ?_) fun t' tk => k _ h' tk _ _ I' (e₁.trans e') (.int _ _)
  have := q i (by omega)
  exact this

theorem joinV_eq {x y d : PV} (h : joinV x y = some d) : x = .byt [] ∧ ∃ vs bs, asL y = some vs ∧ byts? vs = some bs ∧ bs.flatten.length ≤ lim ∧ d = .byt bs.flatten := by
  obtain ⟨b, hb, h⟩ := bindE h
  cases b with
  | cons => exact no h
  | nil =>
    obtain ⟨vs, hv, h⟩ := bindE h
    obtain ⟨bs, hbs, h⟩ := bindE h
    obtain ⟨hz, h⟩ := iteE h
    exact ⟨asB_eq hb, vs, bs, hv, hbs, hz, (Option.some.inj h).symm⟩

theorem sx_join {o a : Expr} {po pa : PX} {ap pos : Pos} (hb : noCall o = true) (hl : (ap.endLine == pos.line) = true) (ho : SX prog w b₀ tab c sc vars o po) (h : SXs prog w b₀ tab c sc vars [a] (.cons pa .nil)) :
    SX prog w b₀ tab c sc vars (.Call (.Attribute o (Str.ofString "join") ap) [a] [] pos) (.join po pa) := by
  intro A fenv L h₀ m U X T φ σ ρ s env d' σ' Q C N I he k
  obtain ⟨⟨x, σ₁⟩, h1, he⟩ := bindE he
  obtain ⟨⟨y, σ₂⟩, h2, he⟩ := bindE he
  obtain ⟨r, h3, he⟩ := mapE he
  obtain ⟨rfl, rfl⟩ := prodE he
  dsimp only at h2 h3
  obtain ⟨rfl, ds, bs, hy, hbs, hz, rfl⟩ := joinV_eq h3
  have h2' : evs (callF tab c) (.cons pa .nil) ρ σ₁ = some ([y], σ') := by
    show (ev (callF tab c) pa ρ σ₁).bind _ = _
    rw [h2]; rfl
  refine c_Call_meth hb hl (show (2 : Nat) < 30 by decide) h.1.1 (ho C N I h1 fun v h₁ t₁ T₁ φ₁ I₁ e₁ r₁ pl => wpC_of ?_)
  obtain ⟨t, rfl⟩ := r₁.inv
  refine getMethod_join ?_
  refine c_callWith (P := fun _ => True) (plain_trees h.1.1) (keeps_machine (by intro a ha; cases ha)) ?_
  refine h.2 C (N.ext e₁) I₁ h2' fun vs h' tk' T' φ' I' e' r' => ⟨trivial, wpC_of ?_⟩
  obtain ⟨v1, rfl, r1⟩ := r'.inv1
  obtain ⟨a, o, us, n, rfl, io, c, e, rs⟩ := (rvL hy r1).inv
  obtain ⟨p, q⟩ := byts_facts hbs rs
  refine join_call (s := { s with heap := h', toks := tk' }) (I'.getO C.stay io) c e p q (by rw [sizeLine_eq]; unfold lim at hz; with_reducible (apply Mine.le_f; assumption; decide)) fun t' tk => ?_
  exact k _ h' tk _ _ I' (e₁.trans e') (.byt _ _)
end
end Mine
end
section
namespace Mine
open PySem PySem.W PyProof.Rows PySem.Spec PySem.Calls

theorem closure_ok {env : Env} : ∀ (names : List (Str × NameKind)) (acc : List (Str × Addr)), (∀ y, (y, NameKind.free) ∈ names → ∃ c, env.cells.lookup y = some c) →
    ∃ cl, (forIn names acc (fun (x : Str × NameKind) (cs : List (Str × Addr)) => (if x.2 == .free then (do let a ← cellOf env x.1; pure (ForInStep.yield ((x.1, a) :: cs))) else pure (ForInStep.yield cs) : Sem (ForInStep (List (Str × Addr))))) : Sem (List (Str × Addr))) = pure cl ∧
      ∀ y, ((y, NameKind.free) ∈ names ∨ ∃ c, acc.lookup y = some c ∧ env.cells.lookup y = some c) → ∃ c, cl.lookup y = some c ∧ env.cells.lookup y = some c
  | [], acc, _ => ⟨acc, rfl, fun y h => by
      rcases h with h | h
      · cases h
      · exact h⟩
  | (x, kd) :: names, acc, h => by
    rw [List.forIn_cons]
    by_cases hk : kd = .free
    · subst hk
      obtain ⟨a, ha⟩ := h x (.head _)
      have e : cellOf env x = pure a := by unfold cellOf; rw [ha]
      obtain ⟨cl, h1, h2⟩ := closure_ok names ((x, a) :: acc) fun y hy => h y (.tail _ hy)
      refine ⟨cl, ?_, fun y hy => h2 y ?_⟩
      · rw [if_pos (show ((x, NameKind.free).snd == NameKind.free) = true from rfl), e, pure_bind, pure_bind]
        exact h1
      · by_cases hyx : y = x
        · subst hyx; exact .inr ⟨a, by simp, ha⟩
        · rcases hy with hy | ⟨c, hc, hc'⟩
          · rcases List.mem_cons.mp hy with hy | hy
            · exact absurd (congrArg Prod.fst hy) hyx
            · exact .inl hy
          · refine .inr ⟨c, ?_, hc'⟩
            rw [List.lookup_cons, beq_eq_false_iff_ne.mpr hyx]
            exact hc
    · obtain ⟨cl, h1, h2⟩ := closure_ok names acc fun y hy => h y (.tail _ hy)
      refine ⟨cl, ?_, fun y hy => h2 y ?_⟩
      · have hkb : (kd == NameKind.free) = false := beq_eq_false_iff_ne.mpr hk
        rw [if_neg (by simp [hkb]), pure_bind]
        exact h1
      · rcases hy with hy | hy
        · rcases List.mem_cons.mp hy with hy | hy
          · exact absurd (congrArg Prod.snd hy).symm hk
          · exact .inl hy
        · exact .inr hy

theorem closureFor_ok {env : Env} {scope : Scope} (h : ∀ y, (y, NameKind.free) ∈ scope.names → ∃ c, env.cells.lookup y = some c) :
    ∃ cl, closureFor scope env = pure cl ∧ ∀ y, (y, NameKind.free) ∈ scope.names → ∃ c, cl.lookup y = some c ∧ env.cells.lookup y = some c := by
  obtain ⟨cl, h1, h2⟩ := closure_ok scope.names [] h
  refine ⟨cl, ?_, fun y hy => h2 y (.inl hy)⟩
  have e : closureFor scope env = (forIn scope.names [] (fun (x : Str × NameKind) (cs : List (Str × Addr)) => (if x.2 == .free then (do let a ← cellOf env x.1; pure (ForInStep.yield ((x.1, a) :: cs))) else pure (ForInStep.yield cs) : Sem (ForInStep (List (Str × Addr))))) : Sem (List (Str × Addr))) := by
    unfold closureFor
    simp
  rw [e]; exact h1

theorem posOf_shift (x : Str) : ∀ (l : List Str) (i : Nat), posOf x l (i + 1) = (posOf x l i).map (· + 1)
  | [], i => rfl
  | y :: r, i => by
    unfold posOf
    split
    · rfl
    · exact posOf_shift x r (i + 1)

theorem lookup_mem {α : Type} {β : Type} [BEq α] [LawfulBEq α] {x : α} {k : β} : ∀ {l : List (α × β)}, l.lookup x = some k → (x, k) ∈ l
  | (y, b) :: r, h => by
    rw [List.lookup_cons] at h
    cases e : x == y with
    | true => rw [e] at h; cases h; rw [eq_of_beq e]; exact .head _
    | false => rw [e] at h; exact .tail _ (lookup_mem h)

theorem lookup_relabel {env : Env} : ∀ {names : List (Str × NameKind)} {x : Str} {k : NameKind}, names.lookup x = some k →
    (names.map fun (n, k) => if (k == NameKind.free && env.scope.kind == .function && env.kindOf n == some .cell) then (n, NameKind.cell) else (n, k)).lookup x = some (if (k == NameKind.free && env.scope.kind == .function && env.kindOf x == some .cell) then NameKind.cell else k)
  | [], _, _, h => by simp at h
  | (n, k') :: r, x, k, h => by
    have ih := @lookup_relabel env r x k
    show List.lookup x ((if (k' == NameKind.free && env.scope.kind == .function && env.kindOf n == some .cell) = true then (n, NameKind.cell) else (n, k')) :: _) = _
    cases hx : x == n with
    | true =>
      have e := eq_of_beq hx
      subst e
      simp only [List.lookup_cons, hx] at h
      obtain rfl : k' = k := Option.some.inj h
      by_cases hc : (k' == NameKind.free && env.scope.kind == .function && env.kindOf x == some .cell) = true
      · rw [if_pos hc, if_pos hc]; simp [List.lookup_cons]
      · rw [if_neg hc, if_neg hc]; simp [List.lookup_cons]
    | false =>
      simp only [List.lookup_cons, hx] at h
      by_cases hc : (k' == NameKind.free && env.scope.kind == .function && env.kindOf n == some .cell) = true
      · rw [if_pos hc]; simp only [List.lookup_cons, hx]; exact ih h
      · rw [if_neg hc]; simp only [List.lookup_cons, hx]; exact ih h

structure CompSc (sc : Scp) (vars : List Str) (x : Str) (scope : Scope) : Prop where
  kind : scope.kind = .function
  hx : scope.names.lookup x = some .local
  dot : x ≠ Str.ofString ".0"
  nodot : Str.ofString ".0" ∉ vars
  loc : ∀ y, (y, NameKind.local) ∈ scope.names → scope.names.lookup y = some .local ∧ (y = x ∨ y = Str.ofString ".0")
  free : ∀ y, (y, NameKind.free) ∈ scope.names → sc.lookup y = some .cell
  only : ∀ y k, (y, k) ∈ scope.names → k = .local ∨ k = .free ∨ k = .globalImplicit
theorem compSc {sc : Scp} {vars : List Str} {x : Str} {scope : Scope} (h : compScope sc vars x scope = true) : CompSc sc vars x scope := by
  unfold compScope at h
  simp only [Bool.and_eq_true, decide_eq_true_eq, List.all_eq_true, Bool.not_eq_true', List.contains_eq_mem, decide_eq_false_iff_not] at h
  obtain ⟨⟨⟨⟨h1, h2⟩, h3⟩, h4⟩, h5⟩ := h
  refine ⟨?_, h2, h3, by simpa using h4, fun y hy => ?_, fun y hy => ?_, fun y k hy => ?_⟩
  · split at h1
    · assumption
    · cases h1
  · have := h5 _ hy
    simpa using this
  · have := h5 _ hy
    simpa using this
  · have := h5 _ hy
    cases k <;> first | exact .inl rfl | exact .inr (.inl rfl) | exact .inr (.inr rfl) | simp at this

section
variable {w : World} {b₀ h₀ : Heap} {L : Addr} {m : Str → Option Value} {φ : List Addr} {V T : Led} {sc : Scp} {vars : List Str} {env : Env} {ρ : List Slot} {x : Str} {scope : Scope} {cl : List (Str × Addr)}
set_option tactic.hygienic true in
theorem Nm.comp {V' : Led} {Ca : Addr} {oC : Obj} {mC : Str → Option Value} {v : Value} {d : PV} (N : Nm w b₀ L m V T φ sc vars env ρ) (S : CompSc sc vars x scope) (hcl : ∀ y, (y, NameKind.free) ∈ scope.names → ∃ c, cl.lookup y = some c ∧ env.cells.lookup y = some c)
    (hV : ∀ p ∈ V, p ∈ V') (hC : (Ca, oC) ∈ V') (hn : LCg.NsObj oC mC) (hm : mC x = some v) (hv : Rv w b₀ T φ v d) : Nm w b₀ L m V' T φ scope.names (x :: vars) (compEnvC scope cl Ca env) (.val d :: ρ) := by
  have hkind : ∀ y k, scope.names.lookup y = some k → (compEnvC scope cl Ca env).kindOf y = some (if (k == NameKind.free && env.scope.kind == .function && env.kindOf y == some .cell) then NameKind.cell else k) := fun y k h => lookup_relabel h
  refine ⟨S.kind, N.globals, N.builtins, fun y i d' h1 h2 => ?_, fun y hy => ?_, fun y hy => ?_⟩
  · unfold slotOf at h1
    split at h1
    · rename_i hk
      rcases (S.loc y (lookup_mem hk)).2 with rfl | rfl
      · have : i = 0 := by
          unfold posOf at h1
          rw [if_pos rfl] at h1
          exact (Option.some.inj h1).symm
        subst this
        have h3 : Slot.val d = Slot.val d' := Option.some.inj h2
        injection h3 with h3
        subst h3
        refine ⟨v, .inr (.inl ⟨oC, mC, ?_, List.mem_append_left _ hC, hn, hm⟩), hv⟩
        have := hkind y .local hk
        simpa using this
      · exfalso
        have key : ∀ (l : List Str) (j : Nat), Str.ofString ".0" ∉ l → posOf (Str.ofString ".0") l j = none := by
          intro l
          induction l with
          | nil => intro j _; rfl
          | cons z l ih =>
            intro j hz
            unfold posOf
            rw [if_neg (fun e => hz (by rw [← e]; exact .head _))]
            exact ih _ fun hq => hz (.tail _ hq)
        rw [key (x :: vars) 0 (fun hq => by
          rcases List.mem_cons.mp hq with hq | hq
          · exact S.dot hq.symm
          · exact S.nodot hq)] at h1
        cases h1
    · rename_i hk
      rcases S.only y _ (lookup_mem hk) with h | h | h <;> cases h
    · rename_i hk
      have hmem := lookup_mem hk
      have hcell := S.free y hmem
      have hyx : y ≠ x := fun e => by subst e; rw [S.hx] at hk; cases hk
      unfold posOf at h1
      rw [if_neg hyx, posOf_shift] at h1
      obtain ⟨j, hj, rfl⟩ := Option.map_eq_some_iff.mp h1
      have h2' : ρ[j]? = some (.val d') := by simpa using h2
      obtain ⟨u, a, r⟩ := N.val y j d' (by unfold slotOf; rw [hcell]; exact hj) h2'
      obtain ⟨k1, c, k2⟩ := N.cell y hcell
      refine ⟨u, ?_, r⟩
      rcases a with ⟨a1, _⟩ | ⟨o, mC', a1, _⟩ | ⟨c', o, a1, a2, a3, a4⟩
      · rw [k1] at a1; cases a1
      · rw [k1] at a1; cases a1
      · obtain ⟨c'', b1, b2⟩ := hcl y hmem
        have : c'' = c' := by rw [a2] at b2; exact (Option.some.inj b2).symm
        subst this
        refine .inr (.inr ⟨c'', o, .inl ?_, b1, ?_, a4⟩)
        · have := hkind y .free hk
          rw [this, N.kind, k1]; rfl
        · rcases List.mem_append.mp a3 with h | h
          · exact List.mem_append_left _ (hV _ h)
          · exact List.mem_append_right _ h
    · cases h1
  · have := hkind y .globalImplicit hy
    simpa using this
  · exfalso
    rcases S.only y _ (lookup_mem hy) with h | h | h <;> cases h
end
end Mine
end
section
namespace Mine
open PySem PySem.W PyProof.Rows PySem.Spec PySem.Calls

section
variable {prog : Program} {w : World} {K : Frag} {b₀ : Heap} {mg mb : Str → Option Value} {tab : Nat → Option PFun} {c : Nat} {sc : Scp} {vars : List Str}

theorem mapS_cons {f : PV → St → Option (PV × St)} {v : PV} {vs : List PV} {σ : St} {r : List PV × St} (h : mapS f (v :: vs) σ = some r) :
    ∃ d σ₁ ds σ₂, f v σ = some (d, σ₁) ∧ mapS f vs σ₁ = some (ds, σ₂) ∧ r = (d :: ds, σ₂) := by
  obtain ⟨⟨d, σ₁⟩, h1, h⟩ := bindE h
  obtain ⟨⟨ds, σ₂⟩, h2, h⟩ := mapE h
  exact ⟨d, σ₁, ds, σ₂, h1, h2, h.symm⟩
theorem itemsC_eq {d : PV} {vs : List PV} (h : itemsC d = some vs) : items d = some vs := by
  cases d <;> first | exact no h | exact h

theorem src_frame {A : Around} {T T' : Led} {φ : List Addr} {Ia : Addr} {fp : List Addr} {n : Nat} {P : Nat → Value → Prop} {St' : Nat → Heap → Prop} (W : Walks prog w A Ia fp [Ia] n P St') (hf : ∀ b ∈ fp, b = Ia ∨ ∃ o, IsO b₀ T b o) {i : Nat} {h h' : Heap} {oI : Obj}
    (st : St' i h) (hI : h.get? Ia = some oI) (hI' : h'.get? Ia = some oI) (g : ∀ a o, IsO b₀ T a o → h.get? a = some o ∧ h'.get? a = some o) : St' i h' :=
  W.frame i h h' st fun b hb o e => by
    rcases hf b hb with rfl | ⟨o', ho⟩
    · rw [hI] at e; cases e; exact hI'
    · obtain ⟨g1, g2⟩ := g b o' ho
      rw [g1] at e; cases e; exact g2

inductive CompI (w : World) (b₀ h₀ : Heap) (L : Addr) (m : Str → Option Value) (U X T : Led) (φ : List Addr) (s : Shared) (Ca D Ia : Addr) (St' : Nat → Heap → Prop) (f : PV → St → Option (PV × St)) (vs ds : List PV) (σ' : St) (i : Nat) : Shared → Prop
  | mk (h' : Heap) (tk : Nat) (ys : List Value) (dd rest : List PV) (σᵢ : St) (φᵢ : List Addr) (Tᵢ : Led) (oIᵢ oCᵢ : Obj) (mCᵢ : Str → Option Value) : ys.length = i → St' i h' → Inv w b₀ h₀ L m φᵢ σᵢ U ((Ca, oCᵢ) :: (D, LCg.lst ys) :: (Ia, oIᵢ) :: X) Tᵢ h' →
    Ext T φ Tᵢ φᵢ → LCg.NsObj oCᵢ mCᵢ → Rvs w b₀ Tᵢ φᵢ ys dd → mapS f (vs.drop i) σᵢ = some (rest, σ') → dd ++ rest = ds → CompI w b₀ h₀ L m U X T φ s Ca D Ia St' f vs ds σ' i { s with heap := h', toks := tk }
theorem comp_core {A : Around} {fenv env : Env} {L : Addr} {h₀ : Heap} {m : Str → Option Value} {U X T : Led} {φ : List Addr} {σ σ' : St} {ρ : List Slot} {s : Shared} {v : Value} {sd : PV} {vs ds : List PV} {elt iter : Expr} {x : Str} {xp pos : Pos} {scope : Scope} {pe : PX} {cl : List (Str × Addr)}
    {use : Option (Value → Sem Unit)} {QQ : Value → Shared → Prop} (C : Cx b₀ c A fenv L h₀) (N : Nm w b₀ L m (U ++ X) T φ sc vars env ρ) (S : CompSc sc vars x scope) (hcl : ∀ y, (y, NameKind.free) ∈ scope.names → ∃ c, cl.lookup y = some c ∧ env.cells.lookup y = some c)
    (he : SX prog w b₀ tab c scope.names (x :: vars) elt pe) (I : Inv w b₀ h₀ L m φ σ U X T s.heap) (hv : Rv w b₀ T φ v sd) (hi : items sd = some vs) (hlen : vs.length ≤ lim)
    (hm : mapS (fun v σ => ev (callF tab c) pe (.val v :: ρ) σ) vs σ = some (ds, σ'))
    (k : ∀ Ca D oC mC ys h' tk T' φ', Inv w b₀ h₀ L m φ' σ' U ((Ca, oC) :: (D, LCg.lst ys) :: X) T' h' → Ext T φ T' φ' → LCg.NsObj oC mC → Rvs w b₀ T' φ' ys ds → compPostC (model prog w) A use QQ (.ref D) Ca { s with heap := h', toks := tk }) :
    wpC (model prog w) A (pyIter v) (fun it s₂ => wpC (model prog w) A (newList []) (fun acc s₃ => wpC (model prog w) A (newFunctionEnv scope env.globals cl [] env.qual none .none (some env)) (fun cenv s₄ =>
      codeC (model prog w) A (.compStart (.ListComp elt [⟨.Name x xp, iter, [], 0⟩] scope pos) 0 it acc { cenv with scope := relabel scope env }) (fun _ s' => compPostC (model prog w) A use QQ acc cenv.locals s') s₄) s₃) s₂) s := by
  refine wpC_of (src_ok (prog := prog) hi hv C.hh I C.stay fun Ia oI h₁ I₁ src => wpC_of ?_)
  obtain ⟨fp, P, St', W, hfp, hP, hIo, hst⟩ := src
  refine wpAny_newObj_type (wpC_of ?_)
  have I₂ := I₁.pushX { cls := .type "list", data := .seq ([] : List Value).toArray } rfl
  refine wpAny_newFunctionEnv (fun y hy => ?_) (by intro y hy; simp at hy) (fun h₃ hns hsb => ?_) S.kind
  · intro e
    rcases S.only y.1 y.2 hy with h | h | h <;> rw [e] at h <;> cases h
  dsimp only at hns hsb ⊢
  generalize hD : h₁.objs.size = D at I₂ hsb hns ⊢
  generalize hH2 : h₁.push { cls := .type "list", dict := none, data := .seq ([] : List Value).toArray } = H2 at hns hsb I₂ ⊢
  have I₃ := I₂.pushX { cls := .type "dict", data := .dict #[] } rfl
  generalize hCa : H2.objs.size = Ca at I₃ hsb hns ⊢
  obtain ⟨oC, hoC, nC⟩ := LCg.ns_obj hns
  have I₄ := Inv.chgX (X₁ := []) (o' := oC) I₃ (fun b ob hb e => hsb.extBut b ob hb e) hoC
  have hst₄ : St' 0 h₃ := by
    refine src_frame (prog := prog) (w := w) (A := A) (b₀ := b₀) (T := T) (T' := T) (φ := φ) W hfp hst (I₁.get (p := (Ia, oI)) (by simp)) (I₄.get (p := (Ia, oI)) (by simp)) fun a o io => ⟨I₁.getO C.stay io, I₄.getO C.stay io⟩
  show codeC _ A (.compStart _ 0 (.ref Ia) (.ref D) (compEnvC scope cl Ca env)) _ _
  have hp : ((compEnvC scope cl Ca env).scope.kind == .class || ((compEnvC scope cl Ca env).scope.kind == .module && (compEnvC scope cl Ca env).locals != (compEnvC scope cl Ca env).globals)) = false := by
    simp [compEnvC, relabel, S.kind]
  have loop : ∀ s₅ : Shared, s₅ = { s with heap := h₃, toks := s.toks + ([] : List (Str × Value)).length } →
      codeC (model prog w) A (.compLoop (.ListComp elt [⟨.Name x xp, iter, [], 0⟩] scope pos) 0 (.ref Ia) (.ref D) (compEnvC scope cl Ca env)) (fun _ s' => compPostC (model prog w) A use QQ (.ref D) Ca s') s₅ := by
    rintro s₅ rfl
    refine codeC_compLoop vs.length (CompI w b₀ h₀ L m U X T φ s Ca D Ia St' (fun v σ => ev (callF tab c) pe (.val v :: ρ) σ) vs ds σ') ?_ 0 (Nat.zero_le _)
      (.mk h₃ _ [] [] ds σ φ T oI oC _ rfl hst₄ I₄ .refl nC .nil hm rfl)
    rintro i s' hi ⟨h', tk, ys, dd, rest, σᵢ, φᵢ, Tᵢ, oIᵢ, oCᵢ, mCᵢ, hyl, hst', I', e', nC', ry, hmap, hdd⟩
    by_cases hlt : i < vs.length
    · refine W.item i _ _ _ hlt hst' fun u h₂ tk₂ hPu hst₂ hk₂ => ?_
      obtain ⟨du, hdu, ru⟩ := hP i u hlt hPu
      obtain ⟨oI₂, hoI₂, _⟩ := hIo _ _ hst₂
      have J₁ := Inv.chgX (X₁ := [(Ca, oCᵢ), (D, LCg.lst ys)]) (o' := oI₂) I' (fun b ob hb e => hk₂ b ob (by simpa using hb) e) hoI₂
      have hgC := J₁.get (p := (Ca, oCᵢ)) (by simp)
      have hdrop : vs.drop i = du :: vs.drop (i + 1) := by
        rw [List.drop_eq_getElem_cons hlt]
        congr 1
        rw [List.getElem?_eq_getElem hlt] at hdu
        exact Option.some.inj hdu
      rw [hdrop] at hmap
      obtain ⟨d₁, σ₁, ds₁, σ₂, he1, he2, he3⟩ := mapS_cons hmap
      obtain ⟨rfl, rfl⟩ := Prod.mk.inj he3
      refine wpC_of (wpAny_storeName_local (lookup_relabel_local S.hx) (nC'.ns hgC) (fun h₃ hn₃ hs₃ => ?_) hp)
      obtain ⟨oC₃, hoC₃, nC₃⟩ := LCg.ns_obj hn₃
      have J₂ := Inv.chgX (X₁ := []) (o' := oC₃) J₁ (fun b ob hb e => hs₃.extBut b ob hb e) hoC₃
      have N' : Nm w b₀ L m (U ++ ([] ++ (Ca, oC₃) :: [(D, LCg.lst ys)] ++ (Ia, oI₂) :: X)) Tᵢ φᵢ scope.names (x :: vars) (compEnvC scope cl Ca env) (.val du :: ρ) := by
        refine Nm.comp (N.ext e') S hcl (fun p hp => ?_) (by simp) nC₃ (v := u) (by simp) (e'.rv ru)
        simp only [List.mem_append, List.mem_cons] at hp ⊢
        rcases hp with hp | hp <;> simp [hp]
      refine he C (by simpa using N') (by simpa using J₂) he1 fun y h₄ t₄ T₄ φ₄ I₄ e₄ r₄ => wpC_of ?_
      have hzD := I₄.get (p := (D, LCg.lst ys)) (by simp)
      have hlim : vs.length ≤ sizeLine := by rw [sizeLine_eq]; unfold lim at hlen; with_reducible (apply Mine.le_f; assumption; decide)
      refine append_at (s := { s with heap := h₄, toks := t₄ }) hzD (fun h₅ hs₅ hD₅ => ?_) (by rw [List.size_toArray, hyl]; with_reducible (apply Nat.le_trans <;> assumption))
      rw [LCg.lst_snoc] at hD₅
      have J₅ := Inv.chgX (X₁ := [(Ca, oC₃)]) (o' := LCg.lst (ys ++ [y])) (h' := h₅) I₄ (fun b ob hb e => hs₅.extBut b ob hb e) hD₅
      refine ⟨hlt, .mk h₅ t₄ (ys ++ [y]) (dd ++ [d₁]) ds₁ σ₁ φ₄ T₄ oI₂ oC₃ _ (by rw [List.length_append, hyl]; rfl) ?_ J₅ (e'.trans e₄) nC₃ ((ry.mono e₄.1 e₄.2).append (.one r₄)) he2 (by rw [List.append_assoc]; exact hdd)⟩
      exact src_frame (prog := prog) (w := w) (A := A) (b₀ := b₀) (T := T) (T' := T) (φ := φ) W hfp hst₂ hoI₂ (J₅.get (p := (Ia, oI₂)) (by simp)) fun a o io => ⟨J₁.getO C.stay (io.mono e'.1), J₅.getO C.stay (io.mono (e'.trans e₄).1)⟩
    · obtain rfl : i = vs.length := Nat.le_antisymm hi (Nat.not_lt.mp hlt)
      rw [List.drop_length] at hmap
      obtain ⟨rfl, rfl⟩ := prodE (Option.some.inj hmap)
      rw [List.append_nil] at hdd
      subst hdd
      refine W.done _ _ _ hst' fun h₂ tk₂ hk₂ => ?_
      have J := Inv.dropAt (X₁ := [(Ca, oCᵢ), (D, LCg.lst ys)]) (h' := h₂) I' (fun b ob hb e => hk₂ b ob (by simpa using hb) e)
      exact k Ca D oCᵢ mCᵢ ys h₂ tk₂ Tᵢ φᵢ J e' nC' ry
  exact codeC_compStart (loop _ rfl) (W.self 0 _ _ _ hst₄ (loop _ rfl))

theorem sx_comp {elt iter : Expr} {x : Str} {xp pos : Pos} {scope : Scope} {pe pi : PX} (hs : noSet iter = true) (hS : compScope sc vars x scope = true) (he : SX prog w b₀ tab c scope.names (x :: vars) elt pe) (hi : SX prog w b₀ tab c sc vars iter pi) :
    SX prog w b₀ tab c sc vars (.ListComp elt [⟨.Name x xp, iter, [], 0⟩] scope pos) (.comp pe pi) := by
  intro A fenv L h₀ m U X T φ σ ρ s env d' σ' Q C N I hev k
  have S := compSc hS
  obtain ⟨cl, hcl, hcl'⟩ := closureFor_ok (env := env) (scope := scope) fun y hy => (N.cell y (S.free y hy)).2
  obtain ⟨⟨y, σ₁⟩, h1, hev⟩ := bindE hev
  obtain ⟨vs, hvs, hev⟩ := bindE hev
  obtain ⟨hl, hev⟩ := iteE hev
  obtain ⟨⟨ds, σ₂⟩, hm, hd⟩ := mapE hev
  obtain ⟨rfl, rfl⟩ := prodE hd
  refine c_ListComp hs hcl S.kind (fun y hy hl => (S.loc y.1 (by rw [← hl]; exact hy)).1) (hi C N I h1 fun v h₁ t₁ T₁ φ₁ I₁ e₁ r₁ => ?_)
  refine comp_core (s := { s with heap := h₁, toks := t₁ }) C (N.ext e₁) S hcl' he I₁ r₁ (itemsC_eq hvs) hl hm fun Ca D oC mC ys h' tk T' φ' I' e' nC ry => ?_
  refine ⟨mC, nC.ns (I'.get (p := (Ca, oC)) (by simp)), fun h'' hs'' => ?_⟩
  have J := (I'.dropChg (h' := h'') fun b ob hb e => hs''.extBut b ob hb e).stayX
  exact k _ h'' tk _ _ J (e₁.trans (e'.trans .alloc)) (.lst (.inl (.head _)) rfl rfl (ry.mono (fun _ h => .tail _ h) List.prefix_rfl))
end
end Mine
end
section
namespace Mine
open PySem PySem.W PyProof.Rows PySem.Spec PySem.Calls

noncomputable def NewOk (prog : Program) (w : World) (b₀ : Heap) : Prop :=
  ∀ ⦃c : Nat⦄ ⦃A : Around⦄ ⦃fenv : Env⦄ ⦃L : Addr⦄ ⦃h₀ : Heap⦄ ⦃m : Str → Option Value⦄ ⦃U X T : Led⦄ ⦃φ : List Addr⦄ ⦃σ : St⦄ ⦃s : Shared⦄ ⦃v : Value⦄ ⦃d : PV⦄ ⦃Q : Value → Shared → Prop⦄,
    Cx b₀ c A fenv L h₀ → Inv w b₀ h₀ L m φ σ U X T s.heap → Rv w b₀ T φ v d →
    (∀ x h' tk, Inv w b₀ h₀ L m (φ ++ [x]) (σ ++ [.inst (some d) (some (.int 0))]) U X T h' → Q (.ref x) { s with heap := h', toks := tk }) →
    wpAny (model prog w) A (PySem.call (.ref 237) [v]) Q (fun _ _ => False) s

section
variable {prog : Program} {w : World} {K : Frag} {b₀ : Heap} {mg mb : Str → Option Value} {tab : Nat → Option PFun} {c : Nat}

theorem Ers.len {w : World} {b₀ : Heap} {T : Led} {φ : List Addr} {es : List Led} {as : List Addr} {σ : St} (h : Ers w b₀ T φ es as σ) : as.length = σ.length := h.length

theorem sx_new {sc : Scp} {vars : List Str} {x : Str} {p pos : Pos} {e : Expr} {px : PX} (G : Glo w K b₀ gl mg mb) (KR : KRd K) (hnew : NewOk prog w b₀) (hn : okName x = true) (hs : sc.lookup x = some .globalImplicit) (hg : gl.lookup x = some .k)
    (h : SXs prog w b₀ tab c sc vars [e] (.cons px .nil)) : SX prog w b₀ tab c sc vars (.Call (.Name x p) [e] [] pos) (.new px) := by
  intro A fenv L h₀ m U X T φ σ ρ s env d' σ' Q C N I he k
  obtain ⟨⟨y, σ₁⟩, h1, he⟩ := mapE he
  obtain ⟨rfl, rfl⟩ := prodE he
  have hv : mg x = some (.ref 237) := G.names x _ hg
  have h2' : evs (callF tab c) (.cons px .nil) ρ σ = some ([y], σ₁) := by
    show (ev (callF tab c) px ρ σ).bind _ = _
    rw [h1]; rfl
  refine c_Call_Name (wpC_of (name_glob G C N I hn hs (.inl hv) ?_))
  refine c_callWith (P := fun h => K.In h) (plain_trees h.1.1) (keeps_K KR.keep) ?_
  refine h.2 C N I h2' fun vs h' tk' T' φ' I' e' r' => ⟨(G.KX.keeps C.stay).keeps I'.F.keep, wpC_of ?_⟩
  obtain ⟨v1, rfl, r1⟩ := r'.inv1
  refine hnew (s := { s with heap := h', toks := tk' }) C I' r1 fun x h'' tk'' I'' => ?_
  have hlen : φ'.length = σ₁.length := by obtain ⟨_, es, _, R, _⟩ := I'; exact R.length
  refine k _ h'' tk'' _ _ I'' (e'.trans ⟨fun _ h => h, List.prefix_append _ _⟩) (.loc ?_)
  rw [← hlen]; simp

theorem one_of {sc : Scp} {vars : List Str} {as : List Expr} {px : PX} (h : SXs prog w b₀ tab c sc vars as (.cons px .nil)) : ∃ e, as = [e] := by
  have := h.1.2
  match as, this with
  | [e], _ => exact ⟨e, rfl⟩

theorem glob_of {sc : Scp} {x : Str} {g : GR} (h : globOf gl sc x = some g) : sc.lookup x = some .globalImplicit ∧ gl.lookup x = some g := by
  unfold globOf at h
  revert h
  cases e : sc.lookup x with
  | none => exact fun h => no h
  | some k => cases k <;> first | exact fun h => no h | exact fun h => ⟨rfl, h⟩
theorem nameOf_eq {e : Expr} {x : Str} (h : nameOf e = some x) : ∃ p, e = .Name x p := by
  cases e <;> first | exact no h | exact ⟨_, congrArg (Expr.Name · _) (Option.some.inj h)⟩
theorem genOf_eq {gens : List Comprehension} {g : Str × Expr} (h : genOf gens = some g) : ∃ p, gens = [⟨.Name g.1 p, g.2, [], 0⟩] := by
  obtain ⟨⟨t, it, ifs, as⟩, h1, h⟩ := bindE h
  obtain ⟨hc, h⟩ := iteE h
  obtain ⟨x, h2, rfl⟩ := mapE h
  obtain ⟨p, h3⟩ := nameOf_eq h2
  obtain ⟨c1, c2⟩ := Bool.and_eq_true_iff.mp hc
  dsimp only at h3 c1 c2
  obtain rfl := List.isEmpty_iff.mp c1
  obtain rfl := eq_of_beq c2
  exact ⟨p, by rw [one_eq h1, h3]⟩

noncomputable def CEok (prog : Program) (w : World) (b₀ : Heap) (tab : Nat → Option PFun) (c : Nat) (f : CE) : Prop :=
  ∀ sc vars e px, f sc vars e = some px → (SX prog w b₀ tab c sc vars e px ∧ SB prog w b₀ tab c sc vars e px) ∧ noSet e = true ∧ noStar e = true

section
variable {f : CE} (ih : CEok prog w b₀ tab c f) {sc : Scp} {vars : List Str}
include ih
theorem CEok.x {e : Expr} {px : PX} (h : f sc vars e = some px) : SX prog w b₀ tab c sc vars e px := (ih _ _ _ _ h).1.1
theorem CEok.b {e : Expr} {px : PX} (h : f sc vars e = some px) : SB prog w b₀ tab c sc vars e px := (ih _ _ _ _ h).1.2
theorem CEok.s {e : Expr} {px : PX} (h : f sc vars e = some px) : noSet e = true := (ih _ _ _ _ h).2.1
theorem CEok.st {e : Expr} {px : PX} (h : f sc vars e = some px) : noStar e = true := (ih _ _ _ _ h).2.2
theorem CEok.xs : ∀ {es : List Expr} {pxs : PXs}, cxsM (f sc vars) es = some pxs → SXs prog w b₀ tab c sc vars es pxs
  | [], _, h => by obtain rfl := Option.some.inj h; exact sxs_nil
  | e :: es, _, h => by
    obtain ⟨x, h1, h⟩ := bindE h
    obtain ⟨r, h2, rfl⟩ := mapE h
    exact sxs_cons (ih.st h1) (ih.x h1) (CEok.xs h2)

omit ih in
theorem so_name (G : Glo w K b₀ gl mg mb) {x : Str} {p : Pos} {px : PX} (h : cxName gl sc vars x = some px) : SX prog w b₀ tab c sc vars (.Name x p) px := by
  obtain ⟨hok, h⟩ := iteE h
  revert h
  cases e : globOf gl sc x with
  | none =>
    intro h
    obtain ⟨i, hi, rfl⟩ := mapE h
    exact sx_var hok hi
  | some g =>
    obtain ⟨g1, g2⟩ := glob_of e
    cases g <;> intro h <;> first | exact no h | skip
    obtain rfl := Option.some.inj h
    exact sx_glob G hok g1 g2
omit ih in
theorem so_neg {op : UnaryOp} {a : Expr} {pos : Pos} {px : PX} (h : cxNeg op a = some px) : SX prog w b₀ tab c sc vars (.UnaryOp op a pos) px ∧ plainTest (.UnaryOp op a pos) = true := by
  cases op <;> first | exact no h | skip
  obtain ⟨i, h1, rfl⟩ := mapE h
  obtain ⟨n, p, rfl⟩ := asIntE_eq h1
  exact ⟨sx_neg, rfl⟩
theorem so_cmp {a : Expr} {os : List CmpOp} {bs : List Expr} {pos : Pos} {px : PX} (h : cxCmp (f sc vars) a os bs = some px) : SX prog w b₀ tab c sc vars (.Compare a os bs pos) px ∧ SB prog w b₀ tab c sc vars (.Compare a os bs pos) px := by
  unfold cxCmp at h
  revert h
  cases e : one? os with
  | some o =>
    intro h
    obtain ⟨b, h1, h⟩ := bindE h
    obtain ⟨pa, h2, h⟩ := bindE h
    obtain ⟨pb, h3, rfl⟩ := mapE h
    obtain rfl := one_eq e
    obtain rfl := one_eq h1
    exact ⟨sx_cmp (ih.s h3) (ih.x h2) (ih.x h3), sb_cmp (ih.s h3) (ih.x h2) (ih.x h3)⟩
  | none =>
    intro h
    obtain ⟨o, h0, h⟩ := bindE h
    obtain ⟨b, h1, h⟩ := bindE h
    obtain ⟨pa, h2, h⟩ := bindE h
    obtain ⟨pb, h3, h⟩ := bindE h
    obtain ⟨pc, h4, rfl⟩ := mapE h
    obtain rfl := two_eq h0
    obtain rfl := two_eq h1
    exact ⟨sx_cmp2 (ih.s h4) (ih.x h2) (ih.x h3) (ih.x h4), sb_cmp2 (ih.s h4) (ih.x h2) (ih.x h3) (ih.x h4)⟩
theorem so_fn (G : Glo w K b₀ gl mg mb) (KR : KRd K) (FI : FnIn b₀ tab) (hnew : NewOk prog w b₀) (hsc : SC prog w b₀ tab c) {x : Str} {as : List Expr} {p pos : Pos} {px : PX} (h : cxFn gl (f sc vars) sc x as = some px) : SX prog w b₀ tab c sc vars (.Call (.Name x p) as [] pos) px := by
  obtain ⟨hok, h⟩ := iteE h
  obtain ⟨g, h1, h⟩ := bindE h
  obtain ⟨xs, h2, h⟩ := bindE h
  obtain ⟨g1, g2⟩ := glob_of h1
  obtain hs := ih.xs h2
  cases g with
  | f a =>
    obtain rfl := Option.some.inj h
    exact (sx_call G FI hsc hok g1 g2 hs)
  | k =>
    cases xs with
    | nil => exact no h
    | cons y r =>
      cases r with
      | cons => exact no h
      | nil =>
        obtain rfl := Option.some.inj h
        obtain ⟨e, rfl⟩ := one_of hs
        exact (sx_new G KR hnew hok g1 g2 hs)
  | b b =>
    obtain rfl := Option.some.inj h
    exact (sx_bi G hok g1 g2 hs)
  | c => exact no h
  | ba => exact no h
  | en => exact no h
omit ih in
theorem one1_eq {xs : PXs} {x : PX} (h : one1 xs = some x) : xs = .cons x .nil := by
  cases xs with
  | nil => exact no h
  | cons y r =>
    cases r with
    | cons => exact no h
    | nil => exact congrArg (PXs.cons · .nil) (Option.some.inj h)
theorem so_meth (G : Glo w K b₀ gl mg mb) (KR : KRd K) (FI : FnIn b₀ tab) (hsc : SC prog w b₀ tab c) {o : Expr} {m : Str} {as : List Expr} {ap pos : Pos} {px : PX} (hl : (ap.endLine == pos.line) = true) (h : cxMeth (f sc vars) o m as = some px) : SX prog w b₀ tab c sc vars (.Call (.Attribute o m ap) as [] pos) px := by
  obtain ⟨⟨hb, hn⟩, h⟩ := iteE h
  obtain ⟨po, h1, h⟩ := bindE h
  obtain ⟨xs, h2, h⟩ := bindE h
  obtain hs := ih.xs h2
  revert h
  cases e : methOf m with
  | some k =>
    intro h
    obtain rfl := Option.some.inj h
    exact (sx_meth KR G.KX FI hsc hb hl hn e (ih.x h1) hs)
  | none =>
    intro h
    obtain ⟨x, h3, h4⟩ := bindE h
    clear h
    obtain hx := one1_eq h3
    rw [hx] at hs
    obtain ⟨e, he⟩ := one_of hs
    rw [he] at hs ⊢
    rcases Decidable.em (m = Str.ofString "join") with hj | hj
    · rw [if_pos hj] at h4
      obtain rfl := Option.some.inj h4
      rw [hj]
      exact sx_join hb hl (ih.x h1) hs
    · rw [if_neg hj] at h4
      obtain ⟨hk, h5⟩ := iteE h4
      obtain rfl := Option.some.inj h5
      rw [hk]
      exact sx_index hb hl (ih.x h1) hs
theorem so_call (G : Glo w K b₀ gl mg mb) (KR : KRd K) (FI : FnIn b₀ tab) (hnew : NewOk prog w b₀) (hsc : SC prog w b₀ tab c) {g : Expr} {as : List Expr} {pos : Pos} {px : PX} (h : cxCall gl (f sc vars) sc g as pos = some px) : SX prog w b₀ tab c sc vars (.Call g as [] pos) px := by
  cases g <;> first | exact no h | skip
  · obtain ⟨hl, h⟩ := iteE h
    exact so_meth ih G KR FI hsc hl h
  · exact so_fn ih G KR FI hnew hsc h
theorem so_sl {o : Expr} {a b : Option Expr} {sp pos : Pos} {px : PX} (h : cxSl (f sc vars) o a b = some px) : SX prog w b₀ tab c sc vars (.Subscript o (.Slice a b none sp) pos) px := by
  cases a with
  | some a =>
    cases b with
    | some b =>
      obtain ⟨x, h1, h⟩ := bindE h
      obtain ⟨y, h2, h⟩ := bindE h
      obtain ⟨z, h3, rfl⟩ := mapE h
      exact sx_slAB (ih.x h1) (ih.x h2) (ih.x h3)
    | none =>
      obtain ⟨n, h0, h⟩ := bindE h
      obtain ⟨p, rfl⟩ := nameOf_eq h0
      obtain ⟨x, h1, h⟩ := bindE h
      obtain ⟨y, h2, rfl⟩ := mapE h
      exact sx_slA (ih.x h1) (ih.x h2)
  | none =>
    obtain ⟨b, rfl, h⟩ := bindE h
    obtain ⟨n, h0, h⟩ := bindE h
    obtain ⟨p, rfl⟩ := nameOf_eq h0
    obtain ⟨x, h1, h⟩ := bindE h
    obtain ⟨y, h2, rfl⟩ := mapE h
    exact sx_slB (ih.x h1) (ih.x h2)
theorem so_sub {o i : Expr} {pos : Pos} {px : PX} (h : cxSub (f sc vars) o i = some px) : SX prog w b₀ tab c sc vars (.Subscript o i pos) px := by
  obtain main : noSl i = true → (f sc vars o).bind (fun o => (f sc vars i).map fun i => .idx o i) = some px → SX prog w b₀ tab c sc vars (.Subscript o i pos) px := fun hn h => by
    obtain ⟨x, h1, h⟩ := bindE h
    obtain ⟨y, h2, rfl⟩ := mapE h
    exact sx_idx hn (ih.x h1) (ih.x h2)
  cases i <;> first | exact (main rfl h) | skip
  obtain ⟨hc, h⟩ := iteE h
  obtain rfl := Option.isNone_iff_eq_none.mp hc
  exact so_sl ih h

theorem so_bool {op : BoolOp} {es : List Expr} {pos : Pos} {px : PX} (h : cxF gl f sc vars (.BoolOp op es pos) = some px) : SX prog w b₀ tab c sc vars (.BoolOp op es pos) px ∧ SB prog w b₀ tab c sc vars (.BoolOp op es pos) px := by
  obtain ⟨p, h1, h4⟩ := bindE h
  clear h
  obtain rfl := two_eq h1
  obtain ⟨a, h2, h5⟩ := bindE h4
  obtain ⟨b, h3, h6⟩ := mapE h5
  clear h4 h5
  cases op
  · obtain rfl := h6
    exact ⟨sx_and (ih.x h2) (ih.x h3), sb_and (ih.b h2) (ih.b h3)⟩
  · obtain rfl := h6
    exact ⟨sx_or (ih.x h2) (ih.x h3), sb_or (ih.b h2) (ih.b h3)⟩

theorem cxF_ok (G : Glo w K b₀ gl mg mb) (KR : KRd K) (FI : FnIn b₀ tab) (hnew : NewOk prog w b₀) (hsc : SC prog w b₀ tab c) : CEok prog w b₀ tab c (cxF gl f) := by
  intro sc vars e px h
  have pl : ∀ {e}, plainTest e = true → SX prog w b₀ tab c sc vars e px → SX prog w b₀ tab c sc vars e px ∧ SB prog w b₀ tab c sc vars e px := fun hp h => ⟨h, sb_plain hp h⟩
  cases e <;> first | exact no h | refine ⟨?_, rfl, rfl⟩
  · exact so_bool ih h
  · obtain ⟨o, h1, h⟩ := bindE h
    obtain ⟨a, h2, h⟩ := bindE h
    obtain ⟨b, h3, rfl⟩ := mapE h
    exact pl rfl (sx_bin h1 (ih.x h2) (ih.x h3))
  · obtain ⟨h1, h2⟩ := so_neg h
    exact pl h2 h1
  · obtain ⟨o, h1, h⟩ := bindE h
    obtain ⟨a, h2, h⟩ := bindE h
    obtain ⟨b, h3, rfl⟩ := mapE h
    exact ⟨sx_ite (ih.b h1) (ih.x h2) (ih.x h3), sb_ite (ih.b h1) (ih.b h2) (ih.b h3)⟩
  · obtain ⟨es, h1, h⟩ := bindE h
    obtain ⟨⟨h2, h3, h4⟩, h⟩ := iteE h
    obtain rfl := Option.some.inj h
    exact pl rfl (sx_dct G h1 h2 h3 h4)
  · obtain ⟨g, h1, h⟩ := bindE h
    obtain ⟨p, rfl⟩ := genOf_eq h1
    obtain ⟨hS, h⟩ := iteE h
    obtain ⟨a, h2, h⟩ := bindE h
    obtain ⟨b, h3, rfl⟩ := mapE h
    exact pl rfl (sx_comp (ih.s h3) hS (ih.x h2) (ih.x h3))
  · exact so_cmp ih h
  · obtain ⟨hk, h⟩ := iteE h
    obtain rfl := List.isEmpty_iff.mp hk
    exact pl rfl (so_call ih G KR FI hnew hsc h)
  · obtain ⟨d, h1, rfl⟩ := mapE h
    exact pl rfl (sx_const h1)
  · obtain ⟨hb, h⟩ := iteE h
    obtain ⟨o, h1, h⟩ := bindE h
    obtain ⟨a, h2, rfl⟩ := mapE h
    exact pl rfl (sx_attr KR G.KX hb h2 (ih.x h1))
  · exact pl rfl (so_sub ih h)
  · exact pl rfl (so_name G h)
  · obtain ⟨hl, h⟩ := iteE h
    obtain ⟨xs, h1, rfl⟩ := mapE h
    exact pl rfl (sx_lst hl (ih.xs h1))
  · obtain ⟨hl, h⟩ := iteE h
    obtain ⟨xs, h1, rfl⟩ := mapE h
    exact pl rfl (sx_tup hl (ih.xs h1))
end

theorem cx_sound (G : Glo w K b₀ gl mg mb) (KR : KRd K) (FI : FnIn b₀ tab) (hnew : NewOk prog w b₀) (hsc : SC prog w b₀ tab c) : ∀ (n : Nat), CEok prog w b₀ tab c (cx gl n)
  | 0 => fun _ _ _ _ h => no h
  | n + 1 => cxF_ok (cx_sound G KR FI hnew hsc n) G KR FI hnew hsc
end
end Mine
end
section
namespace Mine
open PySem PySem.W PyProof.Rows PySem.Spec PySem.Calls

noncomputable abbrev barObj (b : List UInt8) : Obj := { cls := .type "bytearray", data := .bytearray b.toArray }

inductive Sf (w : World) (b₀ : Heap) (m : Str → Option Value) (U T : Led) (φ : List Addr) (env : Env) (x : Str) : Slot → Option Addr → Prop
  | unL : env.kindOf x = some .local → Sf w b₀ m U T φ env x .un none
  | unC {c : Addr} {o : Obj} {v₀ : Option Value} : env.kindOf x = some .cell → env.cells.lookup x = some c → (c, o) ∈ U → o.data = .cell v₀ → Sf w b₀ m U T φ env x .un (some c)
  | valL {v : Value} {d : PV} : env.kindOf x = some .local → m x = some v → Rv w b₀ T φ v d → Sf w b₀ m U T φ env x (.val d) none
  | valC {c : Addr} {o : Obj} {v : Value} {d : PV} : env.kindOf x = some .cell → env.cells.lookup x = some c → (c, o) ∈ U → o.data = .cell (some v) → Rv w b₀ T φ v d → Sf w b₀ m U T φ env x (.val d) (some c)
  | ol {a : Addr} {n : Nat} {us : List Value} {ds : List PV} : env.kindOf x = some .local → m x = some (.ref a) → (a, listOf us.toArray n) ∈ U → Rvs w b₀ T φ us ds → Sf w b₀ m U T φ env x (.ol ds) (some a)
  | ob {a : Addr} {b : List UInt8} : env.kindOf x = some .local → m x = some (.ref a) → (a, barObj b) ∈ U → Sf w b₀ m U T φ env x (.ob b) (some a)

theorem Sf.ext {w : World} {b₀ : Heap} {m : Str → Option Value} {U T T' : Led} {φ φ' : List Addr} {env : Env} {x : Str} {s : Slot} {oa : Option Addr} (h : Sf w b₀ m U T φ env x s oa) (e : Ext T φ T' φ') : Sf w b₀ m U T' φ' env x s oa := by
  cases h with
  | unL a => exact .unL a
  | unC a b c d => exact .unC a b c d
  | valL a b r => exact .valL a b (e.rv r)
  | valC a b c d r => exact .valC a b c d (e.rv r)
  | ol a b c r => exact .ol a b c (e.rvs r)
  | ob a b c => exact .ob a b c
theorem Sf.upd {w : World} {b₀ : Heap} {m m' : Str → Option Value} {U U' T : Led} {φ : List Addr} {env : Env} {x : Str} {s : Slot} {oa : Option Addr} (h : Sf w b₀ m U T φ env x s oa) (hm : m' x = m x) (hU : ∀ p ∈ U, oa = some p.1 → p ∈ U') : Sf w b₀ m' U' T φ env x s oa := by
  cases h with
  | unL a => exact .unL a
  | unC a b c d => exact .unC a b (hU _ c rfl) d
  | valL a b r => exact .valL a (hm.trans b) r
  | valC a b c d r => exact .valC a b (hU _ c rfl) d r
  | ol a b c r => exact .ol a (hm.trans b) (hU _ c rfl) r
  | ob a b c => exact .ob a (hm.trans b) (hU _ c rfl)

theorem Sf.isCell {w : World} {b₀ : Heap} {m : Str → Option Value} {U T : Led} {φ : List Addr} {env : Env} {x : Str} {s : Slot} {oa : Option Addr} {c : Addr} (h : Sf w b₀ m U T φ env x s oa) (hk : env.kindOf x = some .cell) (hc : env.cells.lookup x = some c) :
    oa = some c ∧ ∃ o v₀, (c, o) ∈ U ∧ o.data = .cell v₀ := by
  cases h with
  | unL a => rw [hk] at a; cases a
  | unC a b c' d => rw [hc] at b; cases b; exact ⟨rfl, _, _, c', d⟩
  | valL a b r => rw [hk] at a; cases a
  | valC a b c' d r => rw [hc] at b; cases b; exact ⟨rfl, _, _, c', d⟩
  | ol a b c' r => rw [hk] at a; cases a
  | ob a b c' => rw [hk] at a; cases a
theorem Sf.mem {w : World} {b₀ : Heap} {m : Str → Option Value} {U T : Led} {φ : List Addr} {env : Env} {x : Str} {s : Slot} {a : Addr} (h : Sf w b₀ m U T φ env x s (some a)) : a ∈ U.map (·.1) := by
  cases h with
  | unC a1 b c' d => exact (List.mem_map_of_mem c')
  | valC a1 b c' d r => exact (List.mem_map_of_mem c')
  | ol a1 b c' r => exact (List.mem_map_of_mem c')
  | ob a1 b c' => exact (List.mem_map_of_mem c')

structure Fm (w : World) (b₀ : Heap) (L : Addr) (m : Str → Option Value) (U T : Led) (φ : List Addr) (sc : Scp) (vars : List Str) (env : Env) (ρ : List Slot) : Prop where
  kind : env.scope.kind = .function
  globals : env.globals = mainGlobals
  builtins : env.builtins = builtinsNs
  locals : env.locals = L
  names : env.scope.names = sc
  nodup : vars.Nodup
  len : ρ.length = vars.length
  cell : ∀ x, sc.lookup x = some .cell → ∃ c, env.cells.lookup x = some c
  nofree : ∀ x, sc.lookup x ≠ some .free
  own : ∃ oa : Nat → Option Addr, (∀ i j a, oa i = some a → oa j = some a → i = j) ∧ (∀ j, vars.length ≤ j → oa j = none) ∧ ∀ i x s, vars[i]? = some x → ρ[i]? = some s → Sf w b₀ m U T φ env x s (oa i)

section
variable {w : World} {b₀ h₀ h h' : Heap} {L : Addr} {m m' : Str → Option Value} {φ φ' : List Addr} {σ : St} {U U' X T T' : Led} {sc : Scp} {vars : List Str} {env : Env} {ρ : List Slot}

theorem Fm.ext (F : Fm w b₀ L m U T φ sc vars env ρ) (e : Ext T φ T' φ') : Fm w b₀ L m U T' φ' sc vars env ρ :=
  ⟨F.kind, F.globals, F.builtins, F.locals, F.names, F.nodup, F.len, F.cell, F.nofree, let ⟨oa, inj, lo, h⟩ := F.own; ⟨oa, inj, lo, fun i x s h1 h2 => (h i x s h1 h2).ext e⟩⟩

set_option tactic.hygienic true in
theorem posOf_get (x : Str) : ∀ (l : List Str) (j i : Nat), posOf x l j = some i → j ≤ i ∧ l[i - j]? = some x
  | [], j, i, h => by simp [posOf] at h
  | y :: r, j, i, h => by
    unfold posOf at h
    split at h
    · rename_i e
      cases h
      exact ⟨Nat.le_refl _, by simp [e]⟩
    · obtain ⟨h1, h2⟩ := posOf_get x r (j + 1) i h
      refine ⟨by with_reducible (apply Nat.le_of_succ_le; assumption), ?_⟩
      rw [show i - j = (i - (j + 1)) + 1 by with_reducible (apply Mine.sb2 <;> assumption), List.getElem?_cons_succ]
      exact h2
theorem slot_get {x : Str} {i : Nat} (h : slotOf sc vars x = some i) : vars[i]? = some x := by
  unfold slotOf at h
  split at h <;> first | exact by simpa using (posOf_get x vars 0 i h).2 | cases h

theorem Fm.nm (F : Fm w b₀ L m U T φ sc vars env ρ) : Nm w b₀ L m (U ++ X) T φ sc vars env ρ := by
  obtain ⟨oa, inj, lo, h⟩ := F.own
  refine ⟨F.kind, F.globals, F.builtins, fun x i d h1 h2 => ?_, fun x hx => by unfold Env.kindOf; rw [F.names]; exact hx, fun x hx => ⟨by unfold Env.kindOf; rw [F.names]; exact hx, F.cell x hx⟩⟩
  have s := h i x _ (slot_get h1) h2
  generalize oa i = z at s
  cases s with
  | valL a b r => exact ⟨_, .inl ⟨a, F.locals, b⟩, r⟩
  | valC a b c d r => exact ⟨_, .inr (.inr ⟨_, _, .inl a, b, by simp [c], d⟩), r⟩

theorem Inv.setL (I : Inv w b₀ h₀ L m φ σ U X T h) (hn : h'.Ns L m') (hs : Heap.SameBut L h h') : Inv w b₀ h₀ L m' φ σ U X T h' := by
  obtain ⟨F, es, N, R, nd, sep⟩ := I
  exact ⟨F.set hn hs, es, N.set hs, R, nd, sep⟩

theorem Inv.chgU {c : Addr} {o o' : Obj} (I : Inv w b₀ h₀ L m φ σ U X T h) (hc : (c, o) ∈ U) (hk : ∀ b ob, b ≠ c → h.get? b = some ob → h'.get? b = some ob) (ho : h'.get? c = some o') :
    ∃ U', (c, o') ∈ U' ∧ (∀ p ∈ U, p.1 ≠ c → p ∈ U') ∧ Inv w b₀ h₀ L m φ σ U' X T h' := by
  obtain ⟨U₁, U₂, rfl⟩ := List.append_of_mem hc
  refine ⟨U₁ ++ (c, o') :: U₂, by simp, fun p hp hne => ?_, ?_⟩
  · simp only [List.mem_append, List.mem_cons] at hp ⊢
    rcases hp with hp | rfl | hp
    · exact .inl hp
    · exact absurd rfl hne
    · exact .inr (.inr hp)
  · have J : Inv w b₀ h₀ L m φ σ [] (U₁ ++ (c, o) :: (U₂ ++ X)) T h := I.re (fun _ h => h) (fun p hp => by simpa [List.append_assoc] using hp) (fun l hl nd sp => ⟨by simpa [List.append_assoc] using nd, fun p hp => ⟨hl _ (List.mem_map_of_mem hp), by simpa [List.append_assoc] using sp p hp⟩⟩)
    have J' := J.chgX hk ho
    exact J'.re (fun _ h => h) (fun p hp => by simpa [List.append_assoc] using hp) (fun l hl nd sp => ⟨by simpa [List.append_assoc] using nd, fun p hp => ⟨hl _ (List.mem_map_of_mem hp), by simpa [List.append_assoc] using sp p hp⟩⟩)

theorem Inv.takeX {p : Addr × Obj} (I : Inv w b₀ h₀ L m φ σ U (p :: X) T h) : Inv w b₀ h₀ L m φ σ (p :: U) X T h := by
  refine I.re (fun _ h => h) (fun q hq => ?_) (fun l hl nd sp => ⟨?_, fun q hq => ⟨hl _ (List.mem_map_of_mem hq), fun hm => sp q hq ?_⟩⟩)
  · simp only [List.mem_append, List.mem_cons, List.cons_append] at hq ⊢
    rcases hq with rfl | hq | hq | hq <;> simp [*]
  · refine (List.Perm.nodup_iff ?_).mp nd
    refine List.Perm.append_left l (List.Perm.map _ ?_)
    exact List.perm_middle
  · simp only [List.map_append, List.map_cons, List.cons_append, List.mem_append, List.mem_cons] at hm ⊢
    rcases hm with hm | hm | hm <;> simp [hm]

theorem Inv.freeze (I : Inv w b₀ h₀ L m φ σ U X T h) : Inv w b₀ h₀ L m φ σ [] X (U ++ T) h := by
  refine I.re (fun p hp => List.mem_append_right _ hp) (fun p hp => ?_) (fun l hl nd sp => ⟨?_, fun p hp => ?_⟩)
  · simp only [List.mem_append, List.nil_append] at hp ⊢
    rcases hp with hp | hp | hp <;> simp [hp]
  · refine List.Nodup.sublist ?_ nd
    exact List.Sublist.append (List.Sublist.refl _) (List.Sublist.map _ (List.sublist_append_right _ _))
  · rw [List.map_append, ← List.append_assoc, List.nodup_append] at nd
    obtain ⟨n1, n2, n3⟩ := nd
    rcases List.mem_append.mp hp with hp | hp
    · refine ⟨fun hq => ?_, fun hq => ?_⟩
      · exact (List.nodup_append.mp n1).2.2 p.1 hq p.1 (List.mem_map_of_mem hp) rfl
      · exact n3 p.1 (List.mem_append_right _ (List.mem_map_of_mem hp)) p.1 hq rfl
    · exact ⟨hl _ (List.mem_map_of_mem hp), fun hq => sp p hp (by rw [List.map_append]; exact List.mem_append_right _ hq)⟩

theorem Fm.freeze (F : Fm w b₀ L m U T φ sc vars env ρ) : Nm w b₀ L m ([] ++ X) (U ++ T) φ sc vars env (ρ.map freeze) := by
  obtain ⟨oa, inj, lo, h⟩ := F.own
  refine ⟨F.kind, F.globals, F.builtins, fun x i d h1 h2 => ?_, fun x hx => by unfold Env.kindOf; rw [F.names]; exact hx, fun x hx => ⟨by unfold Env.kindOf; rw [F.names]; exact hx, F.cell x hx⟩⟩
  rw [List.getElem?_map] at h2
  obtain ⟨sl, h3, h4⟩ := Option.map_eq_some_iff.mp h2
  have s := h i x _ (slot_get h1) h3
  generalize oa i = z at s
  have up : ∀ {v d}, Rv w b₀ T φ v d → Rv w b₀ (U ++ T) φ v d := fun r => r.mono (fun p hp => List.mem_append_right _ hp) List.prefix_rfl
  cases s with
  | unL a => cases h4
  | unC a b c d => cases h4
  | valL a b r => cases h4; exact ⟨_, .inl ⟨a, F.locals, b⟩, up r⟩
  | valC a b c d r => cases h4; exact ⟨_, .inr (.inr ⟨_, _, .inl a, b, by simp [c], d⟩), up r⟩
  | ol a b c r => cases h4; exact ⟨_, .inl ⟨a, F.locals, b⟩, .lst (.inl (List.mem_append_left _ c)) rfl rfl (r.mono (fun p hp => List.mem_append_right _ hp) List.prefix_rfl)⟩
  | ob a b c => cases h4; exact ⟨_, .inl ⟨a, F.locals, b⟩, .bar (.inl (List.mem_append_left _ c))⟩

set_option tactic.hygienic true in
theorem Fm.put {x : Str} {i : Nat} {sl : Slot} {a' : Option Addr} (F : Fm w b₀ L m U T φ sc vars env ρ) (hi : vars[i]? = some x) (hm : ∀ y, y ≠ x → m' y = m y)
    (hU : ∀ oa : Nat → Option Addr, (∀ i j a, oa i = some a → oa j = some a → i = j) → (∀ j, vars.length ≤ j → oa j = none) → (∀ i x s, vars[i]? = some x → ρ[i]? = some s → Sf w b₀ m U T φ env x s (oa i)) →
      (∀ j, j ≠ i → oa j = none ∨ a' ≠ oa j) ∧ (∀ j, j ≠ i → ∀ p ∈ U, oa j = some p.1 → p ∈ U')) (hs : Sf w b₀ m' U' T φ env x sl a') : Fm w b₀ L m' U' T φ sc vars env (ρ.set i sl) := by
  obtain ⟨oa, inj, lo, h⟩ := F.own
  obtain ⟨h1, h2⟩ := hU oa inj lo h
  refine ⟨F.kind, F.globals, F.builtins, F.locals, F.names, F.nodup, by rw [List.length_set]; exact F.len, F.cell, F.nofree, fun j => if j = i then a' else oa j, fun j k a e1 e2 => ?_, fun j hj => ?_, fun j y s e1 e2 => ?_⟩
  · dsimp only at e1 e2
    by_cases hj : j = i
    · by_cases hk : k = i
      · rw [hj, hk]
      · rw [if_pos hj] at e1; rw [if_neg hk] at e2
        rcases h1 k hk with q | q
        · rw [q] at e2; cases e2
        · exact absurd (e1.trans e2.symm) q
    · by_cases hk : k = i
      · rw [if_neg hj] at e1; rw [if_pos hk] at e2
        rcases h1 j hj with q | q
        · rw [q] at e1; cases e1
        · exact absurd (e2.trans e1.symm) q
      · rw [if_neg hj] at e1; rw [if_neg hk] at e2
        exact inj j k a e1 e2
  · have : i < vars.length := (List.getElem?_eq_some_iff.mp hi).1
    show (if j = i then a' else oa j) = none
    rw [if_neg (by omega)]
    exact lo j hj
  · by_cases hj : j = i
    · subst hj
      rw [hi] at e1; cases e1
      rw [List.getElem?_set] at e2
      split at e2
      · split at e2
        · cases e2; simpa using hs
        · cases e2
      · rename_i hne; exact absurd rfl hne
    · have hyx : y ≠ x := fun e => by
        subst e
        exact hj ((List.getElem?_inj (List.getElem?_eq_some_iff.mp e1).1 F.nodup).mp (e1.trans hi.symm))
      rw [List.getElem?_set_ne (Ne.symm hj)] at e2
      show Sf w b₀ m' U' T φ env y s (if j = i then a' else oa j)
      rw [if_neg hj]
      exact (h j y s e1 e2).upd (hm y hyx) fun p hp e => h2 j hj p hp e
end
end Mine
end
section
namespace Mine
open PySem PySem.W PyProof.Rows PySem.Spec PySem.Calls

section
variable {prog : Program} {w : World} {b₀ h₀ h h' : Heap} {L : Addr} {m m' : Str → Option Value} {φ φ' : List Addr} {σ : St} {U U' X T T' : Led} {sc : Scp} {vars : List Str} {env : Env} {ρ : List Slot} {A : Around} {s : Shared} {E : Value → Shared → Prop}

set_option tactic.hygienic true in
theorem slot_kind {x : Str} {i : Nat} (F : Fm w b₀ L m U T φ sc vars env ρ) (h : slotOf sc vars x = some i) : env.kindOf x = some .local ∨ env.kindOf x = some .cell := by
  unfold slotOf at h
  unfold Env.kindOf
  rw [F.names]
  split at h
  · exact .inl (by assumption)
  · exact .inr (by assumption)
  · rename_i hf
    exact absurd hf (F.nofree x)
  · cases h

theorem store_ok {x : Str} {i : Nat} {v : Value} {d : PV} {Q : Unit → Shared → Prop} (F : Fm w b₀ L m U T φ sc vars env ρ) (I : Inv w b₀ h₀ L m φ σ U X T s.heap) (hx : slotOf sc vars x = some i) (hv : Rv w b₀ T φ v d)
    (k : ∀ h' tk' m' U', Inv w b₀ h₀ L m' φ σ U' X T h' → Fm w b₀ L m' U' T φ sc vars env (ρ.set i (.val d)) → Q () { s with heap := h', toks := tk' }) : wpAny (model prog w) A (storeName env x v) Q E s := by
  have hi := slot_get hx
  rcases slot_kind F hx with hk | hk
  · refine wpAny_storeName_local hk (by rw [F.locals]; exact I.F.ns) (fun h' hn hs => ?_) (by rw [F.kind]; rfl)
    rw [F.locals] at hn hs
    refine k h' _ _ U (I.setL hn hs) (F.put hi (fun y hy => by simp [hy]) (fun oa inj lo h => ⟨fun j hj => ?_, fun j hj p hp e => hp⟩) (.valL hk (by simp) hv))
    cases q : oa j with
    | none => exact .inl rfl
    | some a => exact .inr (by simp)
  · have hlk : sc.lookup x = some .cell := by unfold Env.kindOf at hk; rw [F.names] at hk; exact hk
    obtain ⟨c, hc⟩ := F.cell x hlk
    obtain ⟨oa, inj, lo, hsl⟩ := F.own
    have hlt : i < ρ.length := by rw [F.len]; exact (List.getElem?_eq_some_iff.mp hi).1
    obtain ⟨hoa, o, v₀, hcU, hd⟩ := (hsl i x _ hi (List.getElem?_eq_getElem hlt)).isCell hk hc
    refine wpAny_storeName_cell F.kind hk hc ⟨o, I.get (p := (c, o)) (by simp [hcU]), hd⟩ fun h' hv' hs => ?_
    obtain ⟨o', ho', hd'⟩ := hv'
    obtain ⟨U', u1, u2, J⟩ := I.chgU hcU (fun b ob hb e => hs.extBut b ob hb e) ho'
    refine k h' s.toks m U' J (F.put hi (fun y hy => rfl) (fun oa' inj' lo' h => ?_) (.valC hk hc u1 hd' hv))
    have hoa' := ((h i x _ hi (List.getElem?_eq_getElem hlt)).isCell hk hc).1
    refine ⟨fun j hj => .inr fun q => hj (inj' j i c q.symm hoa'), fun j hj p hp e => u2 p hp fun hpc => ?_⟩
    rw [hpc] at e
    exact hj (inj' j i c e hoa')

set_option tactic.hygienic true in
theorem loc_slot {x : Str} {i : Nat} (h : locOf sc vars x = some i) : slotOf sc vars x = some i ∧ sc.lookup x = some .local := by
  unfold locOf at h
  split at h
  · rename_i hk
    exact ⟨by unfold slotOf; rw [hk]; exact h, hk⟩
  · cases h

theorem storeOwn_ok {x : Str} {i : Nat} {a : Addr} {o : Obj} {sl : Slot} {Q : Unit → Shared → Prop} (F : Fm w b₀ L m U T φ sc vars env ρ) (I : Inv w b₀ h₀ L m φ σ ((a, o) :: U) X T s.heap) (hx : locOf sc vars x = some i)
    (hs : ∀ m', env.kindOf x = some .local → m' x = some (.ref a) → Sf w b₀ m' ((a, o) :: U) T φ env x sl (some a))
    (k : ∀ h' tk' m', Inv w b₀ h₀ L m' φ σ ((a, o) :: U) X T h' → Fm w b₀ L m' ((a, o) :: U) T φ sc vars env (ρ.set i sl) → Q () { s with heap := h', toks := tk' }) : wpAny (model prog w) A (storeName env x (.ref a)) Q E s := by
  obtain ⟨hx', hlk⟩ := loc_slot hx
  have hi := slot_get hx'
  have hk : env.kindOf x = some .local := by unfold Env.kindOf; rw [F.names]; exact hlk
  have hfresh : a ∉ U.map (·.1) := by
    obtain ⟨_, es, _, _, nd, _⟩ := I
    rw [List.map_append, List.nodup_append] at nd
    have := nd.2.1
    simp only [List.cons_append, List.map_cons, List.map_append, List.nodup_cons] at this
    intro hq
    exact this.1 (List.mem_append_left _ hq)
  refine wpAny_storeName_local hk (by rw [F.locals]; exact I.F.ns) (fun h' hn hs' => ?_) (by rw [F.kind]; rfl)
  rw [F.locals] at hn hs'
  refine k h' _ _ (I.setL hn hs') (F.put hi (fun y hy => by simp [hy]) (fun oa inj lo h => ⟨fun j hj => ?_, fun j hj p hp e => .tail _ hp⟩) (hs _ hk (by simp)))
  cases q : oa j with
  | none => exact .inl rfl
  | some a' =>
    refine .inr fun e => ?_
    cases e
    by_cases hjl : j < vars.length
    · have s₁ := h j _ _ (List.getElem?_eq_getElem hjl) (List.getElem?_eq_getElem (by rw [F.len]; exact hjl))
      rw [q] at s₁
      exact hfresh s₁.mem
    · rw [lo j (by with_reducible (apply Mine.ngl; assumption))] at q; cases q
end

section
variable (prog : Program) (w : World) (b₀ : Heap) (tab : Nat → Option PFun) (c : Nat)
noncomputable def PostS (h₀ : Heap) (L : Addr) (X T : Led) (φ : List Addr) (sc : Scp) (vars : List Str) (env : Env) (s : Shared) (Q : Flow → Shared → Prop) : XR → Prop
  | .nxt ρ' σ' => ∀ h' tk' m' U' T' φ', Inv w b₀ h₀ L m' φ' σ' U' X T' h' → Ext T φ T' φ' → Fm w b₀ L m' U' T' φ' sc vars env ρ' → Q .next { s with heap := h', toks := tk' }
  | .ret d σ' => ∀ v h' tk' m' U' T' φ', Inv w b₀ h₀ L m' φ' σ' U' X T' h' → Ext T φ T' φ' → Rv w b₀ T' φ' v d → Q (.ret v) { s with heap := h', toks := tk' }

noncomputable def SS (sc : Scp) (vars : List Str) (st : Stmt) (ps : PS) : Prop :=
  ∀ ⦃A : Around⦄ ⦃env : Env⦄ ⦃L : Addr⦄ ⦃h₀ : Heap⦄ ⦃m : Str → Option Value⦄ ⦃U X T : Led⦄ ⦃φ : List Addr⦄ ⦃σ : St⦄ ⦃ρ : List Slot⦄ ⦃s : Shared⦄ ⦃r : XR⦄ ⦃Q : Flow → Shared → Prop⦄,
    Cx b₀ c A env L h₀ → Fm w b₀ L m U T φ sc vars env ρ → Inv w b₀ h₀ L m φ σ U X T s.heap → xs (callF tab c) ps ρ σ = some r → PostS w b₀ h₀ L X T φ sc vars env s Q r → wpC (model prog w) A (exec st env) Q s
noncomputable def SSs (sc : Scp) (vars : List Str) (st : List Stmt) (ps : PSs) : Prop :=
  ∀ ⦃A : Around⦄ ⦃env : Env⦄ ⦃L : Addr⦄ ⦃h₀ : Heap⦄ ⦃m : Str → Option Value⦄ ⦃U X T : Led⦄ ⦃φ : List Addr⦄ ⦃σ : St⦄ ⦃ρ : List Slot⦄ ⦃s : Shared⦄ ⦃r : XR⦄ ⦃Q : Flow → Shared → Prop⦄,
    Cx b₀ c A env L h₀ → Fm w b₀ L m U T φ sc vars env ρ → Inv w b₀ h₀ L m φ σ U X T s.heap → xss (callF tab c) ps ρ σ = some r → PostS w b₀ h₀ L X T φ sc vars env s Q r → wpC (model prog w) A (execs st env) Q s
end

section
variable {prog : Program} {w : World} {K : Frag} {b₀ : Heap} {mg mb : Str → Option Value} {tab : Nat → Option PFun} {c : Nat} {sc : Scp} {vars : List Str}

theorem PostS.trans {h₀ : Heap} {L : Addr} {X T T₁ : Led} {φ φ₁ : List Addr} {env : Env} {s : Shared} {Q : Flow → Shared → Prop} {r : XR} {h₁ : Heap} {t₁ : Nat} (h : PostS w b₀ h₀ L X T φ sc vars env s Q r) (e : Ext T φ T₁ φ₁) :
    PostS w b₀ h₀ L X T₁ φ₁ sc vars env { s with heap := h₁, toks := t₁ } Q r := by
  cases r with
  | nxt ρ σ => exact fun h' tk' m' U' T' φ' I' e' F' => h h' tk' m' U' T' φ' I' (e.trans e') F'
  | ret d σ => exact fun v h' tk' m' U' T' φ' I' e' F' => h v h' tk' m' U' T' φ' I' (e.trans e') F'

theorem ss_nil : SSs prog w b₀ tab c sc vars [] .nil := by
  intro A env L h₀ m U X T φ σ ρ s r Q C F I he k
  obtain rfl := Option.some.inj he
  obtain ⟨h, g, dr, t, os⟩ := s
  exact c_execs_nil (k h t m U T φ I .refl F)
theorem ss_cons {st : Stmt} {sts : List Stmt} {p : PS} {ps : PSs} (h1 : SS prog w b₀ tab c sc vars st p) (h2 : SSs prog w b₀ tab c sc vars sts ps) : SSs prog w b₀ tab c sc vars (st :: sts) (.cons p ps) := by
  intro A env L h₀ m U X T φ σ ρ s r Q C F I he k
  refine c_execs_cons ?_
  obtain ⟨r₁, hx, he⟩ := bindE he
  refine h1 C F I hx ?_
  cases r₁ with
  | nxt ρ₁ σ₁ => exact fun h' tk' m' U' T' φ' I' e' F' => h2 C F' I' he (k.trans e')
  | ret d σ₁ => obtain rfl := Option.some.inj he; exact fun v h' tk' m' U' T' φ' I' e' r' => k v h' tk' m' U' T' φ' I' e' r'

theorem ss_if {t : Expr} {a b : List Stmt} {pt : PX} {pa pb : PSs} {pos : Pos} (ht : SB prog w b₀ tab c sc vars t pt) (ha : SSs prog w b₀ tab c sc vars a pa) (hb : SSs prog w b₀ tab c sc vars b pb) : SS prog w b₀ tab c sc vars (.If t a b pos) (.ifs pt pa pb) := by
  intro A env L h₀ m U X T φ σ ρ s r Q C F I he k
  obtain ⟨⟨z, σ₁⟩, h1, he⟩ := bindE he
  obtain ⟨⟨x, σ₂⟩, h2, h1⟩ := bindE h1
  obtain ⟨b', h3, h1⟩ := mapE h1
  obtain ⟨rfl, rfl⟩ := prodE h1
  refine c_If (ht C F.nm I h2 h3 fun h₁ t₁ T₁ φ₁ I₁ e₁ => ?_)
  cases z with
  | true => exact ha C (F.ext e₁) I₁ he (k.trans e₁)
  | false => exact hb C (F.ext e₁) I₁ he (k.trans e₁)

theorem ss_ret {e : Expr} {pe : PX} {pos : Pos} (h : SX prog w b₀ tab c sc vars e pe) : SS prog w b₀ tab c sc vars (.Return (some e) pos) (.ret pe) := by
  intro A env L h₀ m U X T φ σ ρ s r Q C F I he k
  obtain ⟨⟨d, σ₁⟩, h1, rfl⟩ := mapE he
  refine c_Return (h C F.freeze I.freeze h1 fun v h' tk' T' φ' I' e' r' => ?_)
  exact k v h' tk' m [] T' φ' I' (Ext.trans ⟨fun p hp => List.mem_append_right _ hp, List.prefix_rfl⟩ e') r'

theorem swaps_plain {e : Expr} (h : noLC e = true) (t : Option Expr) (l : Nat) (env : Env) : swapsWith e t l env = pure false := by
  cases e <;> first | rfl | (cases h)

theorem ss_asg {x : Str} {xp pos : Pos} {e : Expr} {pe : PX} {i : Nat} (hl : noLC e = true) (hx : slotOf sc vars x = some i) (h : SX prog w b₀ tab c sc vars e pe) : SS prog w b₀ tab c sc vars (.Assign [.Name x xp] e pos) (.asg i pe) := by
  intro A env L h₀ m U X T φ σ ρ s r Q C F I he k
  obtain ⟨⟨d, σ₁⟩, h1, rfl⟩ := mapE he
  rw [exec_Assign_Name _ _ _ _ _ (swaps_plain hl _ _ _)]
  refine wpC_bind (wpC_standAt (wpC_bind (h C F.nm I h1 fun v h₁ t₁ T₁ φ₁ I₁ e₁ r₁ => wpC_bind (wpC_standAt (wpC_bind (wpC_bindName (wpC_of ?_)))))))
  exact store_ok (s := { s with heap := h₁, toks := t₁ }) (F.ext e₁) I₁ hx r₁ fun h' tk' m' U' I' F' => wpC_pure (k h' tk' m' U' T₁ φ₁ I' e₁ F')

theorem plain_cases {d : PV} (h : isPlain d = true) : d = .none ∨ (∃ b, d = .byt b) ∨ ∃ i, d = .int i := by
  cases d <;> first | exact .inl rfl | exact .inr (.inl ⟨_, rfl⟩) | exact .inr (.inr ⟨_, rfl⟩) | exact nomatch h
theorem ss_expr {e : Expr} {pe : PX} {pos : Pos} (hl : noLC e = true) (h : SX prog w b₀ tab c sc vars e pe) : SS prog w b₀ tab c sc vars (.Expr e pos) (.expr pe) := by
  intro A env L h₀ m U X T φ σ ρ s r Q C F I he k
  obtain ⟨⟨d, σ₁⟩, h1, he⟩ := bindE he
  obtain ⟨hp, he⟩ := iteE he
  obtain rfl := Option.some.inj he
  have hi : interactive env = false := by unfold interactive; rw [F.kind]; rfl
  rw [exec_Expr env e pos hi (swaps_plain hl _ _ _)]
  refine wpC_bind (wpC_standAt (wpC_bind (h C F.nm I h1 fun v h₁ t₁ T₁ φ₁ I₁ e₁ r₁ => ?_)))
  have hv : ∀ a, v ≠ .ref a := by
    intro a ha
    rcases plain_cases hp with rfl | ⟨b, rfl⟩ | ⟨i, rfl⟩
    · exact nomatch ha.symm.trans r₁.inv
    · obtain ⟨t, e⟩ := r₁.inv; exact nomatch ha.symm.trans e
    · obtain ⟨t, e⟩ := r₁.inv; exact nomatch ha.symm.trans e
  rw [dropValue_plain hv]
  exact wpC_pure (k h₁ t₁ m U T₁ φ₁ I₁ e₁ (F.ext e₁))
end
end Mine
end
section
namespace Mine
open PySem PySem.W PyProof.Rows PySem.Spec PySem.Calls

section
variable {w : World} {b₀ h₀ h h' : Heap} {L : Addr} {m m' : Str → Option Value} {φ φ' : List Addr} {σ : St} {U U' X T T' : Led}

theorem Inv.share {e : Led} {a : Addr} {mo : MO} (I : Inv w b₀ h₀ L m φ σ U (e ++ X) T h) (he : Er w b₀ T φ e a mo) : Inv w b₀ h₀ L m (φ ++ [a]) (σ ++ [mo]) U X T h := by
  obtain ⟨F, es, N, R, nd, sep⟩ := I
  have hp : List.Perm (es.flatten ++ (U ++ (e ++ X))) ((es ++ [e]).flatten ++ (U ++ X)) := by
    rw [List.flatten_append, List.flatten_cons, List.flatten_nil, List.append_nil, List.append_assoc]
    refine List.Perm.append_left _ ?_
    rw [← List.append_assoc, ← List.append_assoc]
    exact List.Perm.append_right _ List.perm_append_comm
  refine ⟨F, es ++ [e], fun p hq => N p ?_, (R.mono (fun _ h => h) (List.prefix_append _ _)).snoc (he.mono (fun _ h => h) (List.prefix_append _ _)), ?_, fun p hq hm => sep p hq ?_⟩
  · simp only [List.flatten_append, List.flatten_cons, List.flatten_nil, List.append_nil, List.mem_append] at hq ⊢
    rcases hq with (hq | hq) | hq | hq | hq <;> simp [hq]
  · exact (List.Perm.nodup_iff (List.Perm.map _ hp)).mp nd
  · exact (List.Perm.mem_iff (List.Perm.map (·.1) hp)).mpr hm

theorem Inv.stayAt {X₁ X₂ : Led} {p : Addr × Obj} (I : Inv w b₀ h₀ L m φ σ U (X₁ ++ p :: X₂) T h) : Inv w b₀ h₀ L m φ σ U (X₁ ++ X₂) (p :: T) h := by
  have hp : List.Perm (U ++ (X₁ ++ p :: X₂)) (U ++ (p :: (X₁ ++ X₂))) := List.Perm.append_left _ List.perm_middle
  have J : Inv w b₀ h₀ L m φ σ U (p :: (X₁ ++ X₂)) T h := by
    refine I.re (fun _ h => h) (fun q hq => ?_) (fun l hl nd sp => ⟨?_, fun q hq => ⟨hl _ (List.mem_map_of_mem hq), fun hm => sp q hq ?_⟩⟩)
    · simp only [List.mem_append, List.mem_cons, List.cons_append] at hq ⊢
      rcases hq with hq | hq | (hq | hq) | hq <;> simp [hq]
    · exact (List.Perm.nodup_iff (List.Perm.append_left _ (List.Perm.map _ hp))).mp nd
    · exact (List.Perm.mem_iff (List.Perm.map (·.1) hp)).mpr hm
  exact J.stayX
end

section
variable {prog : Program} {w : World} {K : Frag} {b₀ : Heap} {mg mb : Str → Option Value} {tab : Nat → Option PFun} {c : Nat} {sc : Scp} {vars : List Str}

theorem ss_asgL {x : Str} {xp lp pos : Pos} {es : List Expr} {pxs : PXs} {i : Nat} (hl : es.length ≤ 64) (hx : locOf sc vars x = some i) (h : SXs prog w b₀ tab c sc vars es pxs) : SS prog w b₀ tab c sc vars (.Assign [.Name x xp] (.List es lp) pos) (.asgL i pxs) := by
  intro A env L h₀ m U X T φ σ ρ s r Q C F I he k
  obtain ⟨⟨ds, σ₁⟩, h1, rfl⟩ := mapE he
  rw [exec_Assign_Name _ _ _ _ _ (swaps_plain rfl _ _ _)]
  refine wpC_bind (wpC_standAt (wpC_bind (c_List (h.2 C F.nm I h1 fun vs h₁ t₁ T₁ φ₁ I₁ e₁ r₁ => wpC_of ?_))))
  have hlen : ds.length ≤ sizeLine := by rw [evs_len h1, h.1.2, sizeLine_eq]; with_reducible (apply Mine.le_f; assumption; decide)
  refine wpAny_newObj_type (wpC_bind (wpC_standAt (wpC_bind (wpC_bindName (wpC_of ?_))))) (by show vs.toArray.size ≤ sizeLine; rw [List.size_toArray, r₁.length]; exact hlen)
  have J := (I₁.pushX (listOf vs.toArray 0) rfl).takeX
  refine storeOwn_ok (s := { s with heap := h₁.push (listOf vs.toArray 0), toks := t₁ }) (F.ext e₁) J hx (sl := .ol ds) (fun m' hk hm => .ol hk hm (.head _) r₁) fun h' tk' m' I' F' => wpC_pure (k h' tk' m' _ T₁ φ₁ I' e₁ F')

theorem ss_newbox {x : Str} {xp lp pos : Pos} {es : List Expr} {pxs : PXs} {i : Nat} (hl : es.length ≤ 64) (hx : slotOf sc vars x = some i) (h : SXs prog w b₀ tab c sc vars es pxs) : SS prog w b₀ tab c sc vars (.Assign [.Name x xp] (.List es lp) pos) (.newbox i pxs) := by
  intro A env L h₀ m U X T φ σ ρ s r Q C F I he k
  obtain ⟨⟨ds, σ₁⟩, h1, rfl⟩ := mapE he
  rw [exec_Assign_Name _ _ _ _ _ (swaps_plain rfl _ _ _)]
  refine wpC_bind (wpC_standAt (wpC_bind (c_List (h.2 C F.nm I h1 fun vs h₁ t₁ T₁ φ₁ I₁ e₁ r₁ => wpC_of ?_))))
  have hlen : ds.length ≤ sizeLine := by rw [evs_len h1, h.1.2, sizeLine_eq]; with_reducible (apply Mine.le_f; assumption; decide)
  refine wpAny_newObj_type (wpC_bind (wpC_standAt (wpC_bind (wpC_bindName (wpC_of ?_))))) (by show vs.toArray.size ≤ sizeLine; rw [List.size_toArray, r₁.length]; exact hlen)
  have hφ : φ₁.length = σ₁.length := by obtain ⟨_, es, _, R, _⟩ := I₁; exact R.length
  have J := Inv.share (e := [(h₁.objs.size, listOf vs.toArray 0)]) (I₁.pushX (listOf vs.toArray 0) rfl) (.list r₁)
  have e₂ : Ext T₁ φ₁ T₁ (φ₁ ++ [h₁.objs.size]) := ⟨fun _ h => h, List.prefix_append _ _⟩
  refine store_ok (s := { s with heap := h₁.push (listOf vs.toArray 0), toks := t₁ }) (F.ext (e₁.trans e₂)) J hx (d := .loc σ₁.length) (.loc (by rw [← hφ]; simp)) fun h' tk' m' U' I' F' => wpC_pure (k h' tk' m' U' T₁ _ I' (e₁.trans e₂) F')

theorem var_at {A : Around} {fenv env : Env} {L : Addr} {h₀ : Heap} {m : Str → Option Value} {U X T : Led} {φ : List Addr} {σ : St} {ρ : List Slot} {s : Shared} {x : Str} {p : Pos} {i : Nat} {d : PV} {Q : Value → Shared → Prop}
    (hn : okName x = true) (hx : slotOf sc vars x = some i) (hd : valAt ρ i = some d) (C : Cx b₀ c A fenv L h₀) (N : Nm w b₀ L m (U ++ X) T φ sc vars env ρ) (I : Inv w b₀ h₀ L m φ σ U X T s.heap) (k : PE w b₀ h₀ L m U X T φ s d σ Q) :
    wpC (model prog w) A (eval (.Name x p) env) Q s := by
  refine sx_var (tab := fun _ => none) hn hx C N I ?_ k
  show (valAt ρ i).map _ = _
  rw [hd]; rfl

theorem ss_setA {o : Str} {op tp pos : Pos} {x : Str} {e : Expr} {pe : PX} {i : Nat} {f : Bool} (KR : KRd K) (KX : K.In b₀) (hl : noLC e = true) (hn : okName o = true) (hf : fldOf x = some f) (hx : slotOf sc vars o = some i) (h : SX prog w b₀ tab c sc vars e pe) :
    SS prog w b₀ tab c sc vars (.Assign [.Attribute (.Name o op) x tp] e pos) (.setA i f pe) := by
  intro A env L h₀ m U X T φ σ ρ s r Q C F I he k
  obtain ⟨⟨d, σ₁⟩, h1, he⟩ := bindE he
  obtain ⟨oo, ho, he⟩ := bindE he
  obtain ⟨σ₂, h2, rfl⟩ := mapE he
  obtain rfl := fld_of hf
  rw [plainObj_exec_Assign_Attribute _ _ _ _ _ (swaps_plain hl _ _ _)]
  refine wpC_bind (wpC_standAt (wpC_bind (h C F.nm I h1 fun v h₁ t₁ T₁ φ₁ I₁ e₁ r₁ => wpC_bind (c_assign_Attr ?_))))
  refine var_at hn hx ho C (F.ext e₁).nm I₁ fun vo h₂ t₂ T₂ φ₂ I₂ e₂ r₂ => wpC_of ?_
  exact setAttr_ok KR KX h2 r₂ (e₂.rv r₁) I₂ C.stay fun h' tk I' => wpC_pure (k h' tk m U T₂ φ₂ I' (e₁.trans e₂) (F.ext (e₁.trans e₂)))

theorem aug_add {A : Around} {E : Value → Shared → Prop} {T T' : Led} {φ φ' : List Addr} {s : Shared} {x y : Value} {a b : Int} {Q : Value → Shared → Prop} (hx : Rv w b₀ T φ x (.int a)) (hy : Rv w b₀ T' φ' y (.int b)) (h : ∀ t, Q (.int (a + b) t) { s with toks := s.toks + 1 }) :
    wpAny (model prog w) A (inplaceOp .Add x y) Q E s := by
  obtain ⟨t, rfl⟩ := hx.inv
  obtain ⟨t', rfl⟩ := hy.inv
  exact iadd_int (h _)

theorem ss_augN {x : Str} {xp pos : Pos} {e : Expr} {pe : PX} {i : Nat} (hn : okName x = true) (hx : slotOf sc vars x = some i) (h : SX prog w b₀ tab c sc vars e pe) : SS prog w b₀ tab c sc vars (.AugAssign (.Name x xp) .Add e pos) (.augN i .add pe) := by
  intro A env L h₀ m U X T φ σ ρ s r Q C F I he k
  obtain ⟨xv, hxv, he⟩ := bindE he
  obtain ⟨xi, hxi, he⟩ := bindE he
  obtain ⟨⟨d, σ₁⟩, h1, he⟩ := bindE he
  obtain ⟨yi, hyi, he⟩ := bindE he
  obtain ⟨z, hz, rfl⟩ := mapE he
  obtain rfl : PV.int (xi + yi) = z := Option.some.inj hz
  obtain ⟨v, a, rv⟩ := F.nm (X := X).val x i _ hx (valAt_eq hxv)
  refine c_AugAssign_Name (wpC_of (load_nm hn F.kind a I (h C F.nm I h1 fun u h₁ t₁ T₁ φ₁ I₁ e₁ r₁ => wpC_of ?_)))
  obtain ⟨t, rfl⟩ := (rvI hxi rv).inv
  obtain ⟨t', rfl⟩ := (rvI hyi r₁).inv
  refine iadd_int ?_
  exact wpC_of (store_ok (s := { s with heap := h₁, toks := t₁ + 1 }) (F.ext e₁) I₁ hx (.int _ _) fun h' tk' m' U' I' F' => k h' tk' m' U' T₁ φ₁ I' e₁ F')

theorem ss_augA {o : Str} {op tp pos : Pos} {x : Str} {e : Expr} {pe : PX} {i : Nat} {f : Bool} (KR : KRd K) (KX : K.In b₀) (hn : okName o = true) (hf : fldOf x = some f) (hx : slotOf sc vars o = some i) (h : SX prog w b₀ tab c sc vars e pe) :
    SS prog w b₀ tab c sc vars (.AugAssign (.Attribute (.Name o op) x tp) .Add e pos) (.augA i f .add pe) := by
  intro A env L h₀ m U X T φ σ ρ s r Q C F I he k
  obtain ⟨oo, ho, he⟩ := bindE he
  obtain ⟨xv, hxv, he⟩ := bindE he
  obtain ⟨a, ha, he⟩ := bindE he
  obtain ⟨⟨d, σ₁⟩, h1, he⟩ := bindE he
  obtain ⟨b, hb, he⟩ := bindE he
  obtain ⟨z, hz, he⟩ := bindE he
  obtain ⟨σ₂, h2, rfl⟩ := mapE he
  obtain rfl : PV.int (a + b) = z := Option.some.inj hz
  obtain rfl := fld_of hf
  refine c_AugAssign_Attr (var_at hn hx ho C F.nm I fun vo h₂ t₂ T₂ φ₂ I₂ e₂ r₂ => wpC_of ?_)
  refine attr_ok KR KX hxv r₂ I₂ C.stay fun va h₃ t₃ T₃ φ₃ I₃ e₃ r₃ => ?_
  refine h C (F.ext (e₂.trans e₃)).nm I₃ h1 fun u h₁ t₁ T₁ φ₁ I₁ e₁ r₁ => wpC_of ?_
  show wpAny (model prog w) A (inplaceOp Operator.Add va u) (fun r s₄ => wpC (model prog w) A (setAttr vo (fldName f) r) (fun x => Q Flow.next) s₄) (fun x x_1 => False) { s with heap := h₁, toks := t₁ }
  refine aug_add (rvI ha r₃) (rvI hb r₁) fun t => ?_
  refine wpC_of ?_
  have r₄ := e₁.rv (e₃.rv r₂)
  have k' : ∀ h' tk, Inv w b₀ h₀ L m φ₁ σ₂ U X T₁ h' → Q .next { s with heap := h', toks := tk } := fun h' tk I' => k h' tk m U T₁ φ₁ I' (e₂.trans (e₃.trans e₁)) (F.ext (e₂.trans (e₃.trans e₁)))
  exact setAttr_ok (s := { s with heap := h₁, toks := t₁ + 1 }) (Q := fun _ => Q .next) KR KX h2 r₄ (Rv.int _ _) I₁ C.stay k'

theorem ss_try {body : List Stmt} {h₁ : ExceptHandler} {hs : List ExceptHandler} {pb : PSs} {pos : Pos} (h : SSs prog w b₀ tab c sc vars body pb) : SS prog w b₀ tab c sc vars (.Try body (h₁ :: hs) [] [] pos) (.tryx pb) := by
  intro A env L h₀ m U X T φ σ ρ s r Q C F I he k
  rw [arm_exec_Try]
  refine wpC_bind (wpC_standAt (c_tryx ?_))
  exact h C F I he k

inductive LoopI {α : Type} (w : World) (b₀ h₀ : Heap) (L : Addr) (X : Nat → α → Led) (T₁ : Led) (φ₁ : List Addr) (sc : Scp) (vars : List Str) (env : Env) (s : Shared) (St' : Nat → Heap → Prop) (E : Nat → List Slot → St → Prop) (i : Nat) : Shared → Prop
  | mk (h' : Heap) (tk' : Nat) (m' : Str → Option Value) (U' T' : Led) (φ' : List Addr) (ρ' : List Slot) (σ' : St) (a : α) : St' i h' → Inv w b₀ h₀ L m' φ' σ' U' (X i a) T' h' → Ext T₁ φ₁ T' φ' → Fm w b₀ L m' U' T' φ' sc vars env ρ' → E i ρ' σ' →
    LoopI w b₀ h₀ L X T₁ φ₁ sc vars env s St' E i { s with heap := h', toks := tk' }

theorem ss_while {t : Expr} {body : List Stmt} {pt : PX} {pb : PSs} {pos : Pos} (ht : SB prog w b₀ tab c sc vars t pt) (hb : SSs prog w b₀ tab c sc vars body pb) : SS prog w b₀ tab c sc vars (.While t body [] pos) (.whl pt pb) := by
  intro A env L h₀ m U X T φ σ ρ s r Q C F I he k
  refine c_While (codeC_whileLoop (LoopI w b₀ h₀ L (fun _ (_ : Unit) => X) T φ sc vars env s (fun _ _ => True) fun n ρ σ => whlS (tst (callF tab c) pt) (xss (callF tab c) pb) n ρ σ = some r) ?_ whlFuel
    (.mk s.heap s.toks m U T φ ρ σ () trivial I .refl F he))
  rintro n s' ⟨h', tk', m', U', T', φ', ρ', σ', _, _, I', e', F', he'⟩
  cases n with
  | zero => exact no he'
  | succ n =>
    obtain ⟨⟨z, σ₁⟩, ht', he'⟩ := bindE he'
    obtain ⟨⟨x, σ₂⟩, h2, h1⟩ := bindE ht'
    obtain ⟨b', h3, h1⟩ := mapE h1
    obtain ⟨rfl, rfl⟩ := prodE h1
    refine ht (s := { s with heap := h', toks := tk' }) C F'.nm I' h2 h3 fun h₁ t₁ T₁ φ₁ I₁ e₁ => ?_
    cases z with
    | false =>
      obtain rfl := Option.some.inj he'
      exact c_execs_nil (k h₁ t₁ m' U' T₁ φ₁ I₁ (e'.trans e₁) (F'.ext e₁))
    | true =>
      obtain ⟨r₁, hx, he'⟩ := bindE he'
      refine hb (s := { s with heap := h₁, toks := t₁ }) C (F'.ext e₁) I₁ hx ?_
      cases r₁ with
      | nxt ρ₂ σ₂ => exact fun h₂ t₂ m₂ U₂ T₂ φ₂ I₂ e₂ F₂ => ⟨n, Nat.lt_succ_self _, .mk h₂ t₂ m₂ U₂ T₂ φ₂ ρ₂ σ₂ () trivial I₂ (e'.trans (e₁.trans e₂)) F₂ he'⟩
      | ret d σ₂ => obtain rfl := Option.some.inj he'; exact fun v h₂ t₂ m₂ U₂ T₂ φ₂ I₂ e₂ r₂ => k v h₂ t₂ m₂ U₂ T₂ φ₂ I₂ (e'.trans (e₁.trans e₂)) r₂
end
end Mine
end
section
namespace Mine
open PySem PySem.W PyProof.Rows PySem.Spec PySem.Calls

namespace FB2
theorem list_ga : typeLookup (.type "list") "__getattribute__" = pure (some (.builtin "list.__getattribute__")) := by rw [typeLookup_type, builtinLookup_eq_fast]; kernel_rfl
theorem list_canon : (Manifest.canonical "list.__getattribute__" != "object.__getattribute__") = false := by first | decide +kernel | (rw [bne_eq_false_iff_eq]; decide +kernel)
theorem list_noga : typeLookup (.type "list") "__getattr__" = pure none := by rw [typeLookup_type, builtinLookup_eq_fast]; kernel_rfl
theorem list_plain : PlainAttrs "list" := ⟨⟨_, list_ga, list_canon⟩, list_noga⟩
theorem append_type : typeOf (.builtin "list.append") = pure (.type "method_descriptor") := by show builtinType _ = _; rw [builtinType_eq_fast]; kernel_rfl
theorem extend_type : typeOf (.builtin "list.extend") = pure (.type "method_descriptor") := by show builtinType _ = _; rw [builtinType_eq_fast]; kernel_rfl
end FB2

section
variable {w : World} {b₀ h₀ h h' : Heap} {L : Addr} {m m' : Str → Option Value} {φ φ' : List Addr} {σ : St} {U U' X T T' : Led}
theorem Inv.updU {a : Addr} {o : Obj} (o' : Obj) (I : Inv w b₀ h₀ L m φ σ U X T h) (ha : (a, o) ∈ U) : ∃ news news', News h₀ L h news ∧ Upd a o o' news news' ∧ (∀ p ∈ U ++ (X ++ T), p ∈ news) ∧
    ∀ h', Fr h₀ L h' m → News h₀ L h' news' → ∃ U', (a, o') ∈ U' ∧ (∀ p ∈ U, p.1 ≠ a → p ∈ U') ∧ Inv w b₀ h₀ L m φ σ U' X T h' := by
  obtain ⟨U₁, U₂, rfl⟩ := List.append_of_mem ha
  obtain ⟨F, es, N, R, nd, sep⟩ := I
  have e0 : es.flatten ++ ((U₁ ++ (a, o) :: U₂) ++ X) = (es.flatten ++ U₁) ++ (a, o) :: (U₂ ++ X) := by simp
  have em : (es.flatten ++ ((U₁ ++ (a, o') :: U₂) ++ X)).map (·.1) = (es.flatten ++ ((U₁ ++ (a, o) :: U₂) ++ X)).map (·.1) := by simp
  have nd0 := nd
  rw [e0, List.map_append, List.map_cons, List.nodup_append] at nd0
  obtain ⟨n1, n2, n3⟩ := nd0
  have hA : ∀ p ∈ es.flatten ++ U₁, p.1 ≠ a := fun p hp => n3 p.1 (List.mem_map_of_mem hp) a (.head _)
  have hB : ∀ p ∈ U₂ ++ (X ++ T), p.1 ≠ a := by
    intro p hp q
    simp only [List.mem_append] at hp
    rcases hp with hp | hp | hp
    · exact (List.nodup_cons.mp n2).1 (List.mem_map.mpr ⟨p, by simp [hp], q⟩)
    · exact (List.nodup_cons.mp n2).1 (List.mem_map.mpr ⟨p, by simp [hp], q⟩)
    · exact sep p hp (by rw [q]; exact List.mem_map.mpr ⟨(a, o), by simp, rfl⟩)
  refine ⟨(es.flatten ++ U₁) ++ (a, o) :: (U₂ ++ (X ++ T)), (es.flatten ++ U₁) ++ (a, o') :: (U₂ ++ (X ++ T)), fun p hp => N p ?_, upd_mid hA hB, fun p hp => ?_, fun h' F' N' => ⟨U₁ ++ (a, o') :: U₂, by simp, fun p hp hne => ?_, ⟨F', es, fun p hp => N' p ?_, R, by rw [em]; exact nd, by rw [em]; exact sep⟩⟩⟩
  · simpa [List.append_assoc] using hp
  · simp only [List.mem_append, List.mem_cons] at hp ⊢
    rcases hp with (hp | hp | hp) | hp | hp <;> simp [hp]
  · simp only [List.mem_append, List.mem_cons] at hp ⊢
    rcases hp with hp | rfl | hp
    · exact .inl hp
    · exact absurd rfl hne
    · exact .inr (.inr hp)
  · simpa [List.append_assoc] using hp
end

section
variable {prog : Program} {w : World} {K : Frag} {b₀ : Heap} {mg mb : Str → Option Value} {tab : Nat → Option PFun} {c : Nat} {sc : Scp} {vars : List Str}

theorem own_ol {L : Addr} {m : Str → Option Value} {U T : Led} {φ : List Addr} {env : Env} {ρ : List Slot} {x : Str} {i : Nat} {ds : List PV} (F : Fm w b₀ L m U T φ sc vars env ρ) (hi : vars[i]? = some x) (hs : ρ[i]? = some (.ol ds)) :
    ∃ a n us, env.kindOf x = some .local ∧ m x = some (.ref a) ∧ (a, listOf us.toArray n) ∈ U ∧ Rvs w b₀ T φ us ds := by
  obtain ⟨oa, inj, lo, h⟩ := F.own
  have s := h i x _ hi hs
  generalize oa i = z at s
  cases s with
  | ol a b c r => exact ⟨_, _, _, a, b, c, r⟩
theorem own_ob {L : Addr} {m : Str → Option Value} {U T : Led} {φ : List Addr} {env : Env} {ρ : List Slot} {x : Str} {i : Nat} {bs : List UInt8} (F : Fm w b₀ L m U T φ sc vars env ρ) (hi : vars[i]? = some x) (hs : ρ[i]? = some (.ob bs)) :
    ∃ a, env.kindOf x = some .local ∧ m x = some (.ref a) ∧ (a, barObj bs) ∈ U := by
  obtain ⟨oa, inj, lo, h⟩ := F.own
  have s := h i x _ hi hs
  generalize oa i = z at s
  cases s with
  | ob a b c => exact ⟨_, a, b, c⟩

theorem Fm.chg {L : Addr} {m : Str → Option Value} {U U' T : Led} {φ : List Addr} {env : Env} {ρ : List Slot} {x : Str} {i : Nat} {s₀ s₁ : Slot} {a : Addr} (F : Fm w b₀ L m U T φ sc vars env ρ) (hi : vars[i]? = some x) (hs : ρ[i]? = some s₀) (hm : m x = some (.ref a))
    (own : ∀ oa, Sf w b₀ m U T φ env x s₀ oa → oa = some a) (hU : ∀ p ∈ U, p.1 ≠ a → p ∈ U') (h' : Sf w b₀ m U' T φ env x s₁ (some a)) : Fm w b₀ L m U' T φ sc vars env (ρ.set i s₁) := by
  refine F.put hi (fun _ _ => rfl) (fun oa inj lo h => ?_) h'
  have e := own _ (h i x _ hi hs)
  refine ⟨fun j hj => .inr fun q => hj (inj j i a q.symm e), fun j hj p hp q => hU p hp fun hpa => ?_⟩
  rw [hpa] at q
  exact hj (inj j i a q e)

theorem sf_ol {m : Str → Option Value} {U T : Led} {φ : List Addr} {env : Env} {x : Str} {ds : List PV} {a : Addr} (hm : m x = some (.ref a)) (oa : Option Addr) (h : Sf w b₀ m U T φ env x (.ol ds) oa) : oa = some a := by
  cases h with
  | ol a1 b c r => rw [hm] at b; cases b; rfl
theorem sf_ob {m : Str → Option Value} {U T : Led} {φ : List Addr} {env : Env} {x : Str} {ds : List UInt8} {a : Addr} (hm : m x = some (.ref a)) (oa : Option Addr) (h : Sf w b₀ m U T φ env x (.ob ds) oa) : oa = some a := by
  cases h with
  | ob a1 b c => rw [hm] at b; cases b; rfl

theorem one_star {e : Expr} (h : noStar e = true) : ∀ x ∈ [e], noStar x = true := fun x hx => by
  rcases List.mem_cons.mp hx with rfl | hx
  · exact h
  · exact nomatch hx
theorem ss_app {x : Str} {xp q rp pos : Pos} {e : Expr} {pe : PX} {i : Nat} (hn : okName x = true) (hl : (q.endLine == rp.line) = true) (hx : locOf sc vars x = some i) (hs : noStar e = true) (h : SX prog w b₀ tab c sc vars e pe) :
    SS prog w b₀ tab c sc vars (.Expr (.Call (.Attribute (.Name x xp) (Str.ofString "append") q) [e] [] rp) pos) (.app i pe) := by
  intro A env L h₀ m U X T φ σ ρ s r Q C F I he k
  obtain ⟨ds, hds, he⟩ := bindE he
  replace hds := olAt_eq hds
  obtain ⟨⟨d, σ₁⟩, h1, he⟩ := bindE he
  obtain ⟨hz, he⟩ := iteE he
  obtain rfl := Option.some.inj he
  have hi := slot_get (loc_slot hx).1
  obtain ⟨a, n, us, hk, hm, ha, ru⟩ := own_ol F hi hds
  have hint : interactive env = false := by unfold interactive; rw [F.kind]; rfl
  rw [exec_Expr env _ pos hint (swaps_plain rfl _ _ _)]
  refine wpC_bind (wpC_standAt (wpC_bind (c_Call_meth rfl hl (show (2 : Nat) < 30 by decide) (one_star hs) (wpC_of (wpAny_Name (wpAny_loadName_local F.kind hk (by rw [F.locals]; exact I.F.ns) hm ?_) (ok_debug hn).1)))))
  intro pl
  have hg := I.get (p := (a, listOf us.toArray n)) (by simp [ha])
  refine wpC_of (getMethod_builtin (T := "list") ⟨_, hg, rfl⟩ FB2.list_plain (name := Str.ofString "append") slot_list_append FB2.append_type (fun b e => by cases e; exact ⟨_, hg, rfl⟩) ?_)
  refine c_callWith (P := fun _ => True) (plain_trees (one_star hs)) (keeps_machine (by intro a ha; cases ha)) ?_
  refine c_spliced_cons hs (h C F.nm I h1 fun v h₁ t₁ T₁ φ₁ I₁ e₁ r₁ => c_spliced_nil ⟨trivial, wpC_of ?_⟩)
  have hg₁ := I₁.get (p := (a, listOf us.toArray n)) (by simp [ha])
  have hlen : us.toArray.size ≤ sizeLine := by rw [List.size_toArray, ru.length, sizeLine_eq]; unfold lim at hz; with_reducible (apply Mine.le_f; apply Mine.lt_l; assumption; decide)
  refine append_at (s := { s with heap := h₁, toks := t₁ }) hg₁ (fun h₂ hs₂ hD => ?_) hlen
  rw [List.push_toArray] at hD
  obtain ⟨U', u1, u2, J⟩ := I₁.chgU ha (fun b ob hb e => hs₂.extBut b ob hb e) hD
  rw [dropValue_plain (by intro a ha; cases ha)]
  exact wpC_pure (k h₂ t₁ m U' T₁ φ₁ J e₁ ((F.ext e₁).chg hi hds hm (sf_ol hm) u2 (.ol hk hm u1 ((e₁.rvs ru).append (.one r₁)))))

theorem ss_ext {x : Str} {xp q lp rp pos : Pos} {es : List Expr} {pxs : PXs} {i : Nat} (hn : okName x = true) (hl : (q.endLine == rp.line) = true) (hx : locOf sc vars x = some i) (hlen : es.length ≤ 64) (h : SXs prog w b₀ tab c sc vars es pxs) :
    SS prog w b₀ tab c sc vars (.Expr (.Call (.Attribute (.Name x xp) (Str.ofString "extend") q) [.List es lp] [] rp) pos) (.ext i pxs) := by
  intro A env L h₀ m U X T φ σ ρ s r Q C F I he k
  obtain ⟨ds, hds, he⟩ := bindE he
  replace hds := olAt_eq hds
  obtain ⟨⟨ds', σ₁⟩, h1, he⟩ := bindE he
  obtain ⟨hz, he⟩ := iteE he
  obtain rfl := Option.some.inj he
  have hi := slot_get (loc_slot hx).1
  obtain ⟨a, n, us, hk, hm, ha, ru⟩ := own_ol F hi hds
  have hint : interactive env = false := by unfold interactive; rw [F.kind]; rfl
  rw [exec_Expr env _ pos hint (swaps_plain rfl _ _ _)]
  refine wpC_bind (wpC_standAt (wpC_bind (c_Call_meth rfl hl (show (2 : Nat) < 30 by decide) (one_star rfl) (wpC_of (wpAny_Name (wpAny_loadName_local F.kind hk (by rw [F.locals]; exact I.F.ns) hm ?_) (ok_debug hn).1)))))
  intro pl
  have hg := I.get (p := (a, listOf us.toArray n)) (by simp [ha])
  refine wpC_of (getMethod_builtin (T := "list") ⟨_, hg, rfl⟩ FB2.list_plain (name := Str.ofString "extend") PySem.F.slot_list_extend FB2.extend_type (fun b e => by cases e; exact ⟨_, hg, rfl⟩) ?_)
  refine c_callWith (P := fun _ => True) (plain_trees (one_star rfl)) (keeps_machine (by intro a ha; cases ha)) ?_
  refine c_spliced_cons rfl (c_List (h.2 C F.nm I h1 fun vs h₁ t₁ T₁ φ₁ I₁ e₁ r₁ => wpC_of ?_))
  have hl₁ : ds'.length ≤ sizeLine := by rw [evs_len h1, h.1.2, sizeLine_eq]; with_reducible (apply Mine.le_f; assumption; decide)
  refine wpAny_newObj_type (c_spliced_nil ⟨trivial, wpC_of ?_⟩) (by show vs.toArray.size ≤ sizeLine; rw [List.size_toArray, r₁.length]; exact hl₁)
  have I₂ := I₁.pushX (listOf vs.toArray 0) rfl
  obtain ⟨news, news', N, UU, sub, back⟩ := I₂.updU (listOf (us ++ vs).toArray (n + 1)) ha
  have hlu := ru.length
  have hlv : vs.length = ds'.length := r₁.length
  have hlim : ds.length + ds'.length < lim := hz.1
  unfold lim at hlim
  refine kl_extend (s := { s with heap := h₁.push (listOf vs.toArray 0), toks := t₁ }) I₂.F N (sub (h₁.objs.size, listOf vs.toArray 0) (by simp)) (by simp) ?_ UU ?_ ?_ ?_ fun h₂ F₂ N₂ => ?_
  · have : ds' ≠ [] := hz.2
    have : ds'.length ≠ 0 := fun e => this (List.length_eq_zero_iff.mp e)
    simpa [hlv] using this
  · intro hb
    have := (Bool.and_eq_true_iff.mp hb).2
    simp only [Builtin.List.listTooLong, decide_eq_true_eq, List.size_toArray] at this
    rw [sizeLine_eq] at this
    omega
  · rw [List.toList_toArray, hlu, sizeLine_eq]; with_reducible (apply Mine.le_f; apply Mine.tr_l; apply Mine.lt_l; assumption; decide)
  · rw [List.size_toArray, List.size_toArray, hlu, hlv, sizeLine_eq]; with_reducible (apply Mine.le_f; apply Mine.lt_l; assumption; decide)
  · obtain ⟨U', u1, u2, J⟩ := back h₂ F₂ N₂
    rw [dropValue_plain (by intro a ha; cases ha)]
    refine wpC_pure (k h₂ t₁ m U' T₁ φ₁ (Inv.dropX (X' := [(h₁.objs.size, listOf vs.toArray 0)]) J) e₁ ((F.ext e₁).chg hi hds hm (sf_ol hm) u2 (.ol hk hm u1 ((e₁.rvs ru).append r₁))))
end
end Mine
end
section
namespace Mine
open PySem PySem.W PyProof.Rows PySem.Spec PySem.Calls

section
variable {prog : Program} {w : World} {K : Frag} {b₀ : Heap} {mg mb : Str → Option Value} {tab : Nat → Option PFun} {c : Nat} {sc : Scp} {vars : List Str}

theorem names_cons {t : Expr} {ts : List Expr} {is : List Nat} (h : namesOf sc vars (t :: ts) = some is) : ∃ x p i is', t = .Name x p ∧ locOf sc vars x = some i ∧ namesOf sc vars ts = some is' ∧ is = i :: is' := by
  obtain ⟨x, h0, h⟩ := bindE h
  obtain ⟨i, h1, h⟩ := bindE h
  obtain ⟨is', h2, h3⟩ := mapE h
  obtain ⟨p, h4⟩ := nameOf_eq h0
  exact ⟨x, p, i, is', h4, h1, h2, h3.symm⟩

set_option tactic.hygienic true in
theorem assign_seq {A : Around} {env : Env} {L : Addr} {h₀ : Heap} {X T : Led} {φ : List Addr} {σ : St} : ∀ {ts : List Expr} {is : List Nat} {us : List Value} {ds : List PV} {m : Str → Option Value} {U : Led} {ρ : List Slot} {s : Shared} {Q : Unit → Shared → Prop},
    namesOf sc vars ts = some is → Rvs w b₀ T φ us ds → is.length = ds.length → Fm w b₀ L m U T φ sc vars env ρ → Inv w b₀ h₀ L m φ σ U X T s.heap →
    (∀ h' tk' m' U', Inv w b₀ h₀ L m' φ σ U' X T h' → Fm w b₀ L m' U' T φ sc vars env (setAll ρ is (ds.map .val)) → Q () { s with heap := h', toks := tk' }) →
    wpC (model prog w) A (assignInOrder ((assignEach ts env).map (·.2)) us) Q s
  | [], is, us, ds, m, U, ρ, s, Q, hn, hr, hl, F, I, k => by
    obtain rfl := Option.some.inj hn
    have : ds = [] := by cases ds with | nil => rfl | cons _ _ => cases hl
    subst this
    obtain ⟨h, g, dr, t, os⟩ := s
    cases hr
    exact wpC_pure (k h t m U I F)
  | t :: ts, is, us, ds, m, U, ρ, s, Q, hn, hr, hl, F, I, k => by
    obtain ⟨x, p, i, is', rfl, hx, hn', rfl⟩ := names_cons hn
    cases ds with
    | nil => cases hl
    | cons d ds =>
      cases hr with | cons r1 r2 => ?_
      rename_i u us
      show wpC _ A (do holding us (assign (.Name x p) env u); assignInOrder ((assignEach ts env).map (·.2)) us) Q s
      refine wpC_bind (wpC_holding (c_assign_Name (wpC_of (store_ok F I (loc_slot hx).1 r1 fun h' tk' m' U' I' F' => ?_))))
      exact assign_seq hn' r2 (by simpa using hl) F' I' fun h'' tk'' m'' U'' I'' F'' => k h'' tk'' m'' U'' I'' F''

theorem names_each {env : Env} : ∀ {ts : List Expr} {is : List Nat}, namesOf sc vars ts = some is → (assignEach ts env).findIdx? (·.1) = none ∧ (assignEach ts env).length = is.length
  | [], is, h => by obtain rfl := Option.some.inj h; exact ⟨rfl, rfl⟩
  | t :: ts, is, h => by
    obtain ⟨x, p, i, is', rfl, hx, hn', rfl⟩ := names_cons h
    obtain ⟨h1, h2⟩ := names_each (env := env) hn'
    refine ⟨?_, ?_⟩
    · show List.findIdx? (·.1) ((false, assign (.Name x p) env) :: assignEach ts env) = none
      rw [List.findIdx?_cons]
      simp [h1]
    · show (assignEach ts env).length + 1 = is'.length + 1
      rw [h2]

theorem unpack_ok {A : Around} {env : Env} {L : Addr} {h₀ : Heap} {X T : Led} {φ : List Addr} {σ : St} {ts : List Expr} {is : List Nat} {v : Value} {ds : List PV} {m : Str → Option Value} {U : Led} {ρ : List Slot} {s : Shared} {Q : Unit → Shared → Prop} {k : Nat} {pos : Pos}
    (hh : A.handled = none) (st : b₀.StaysIn h₀) (hn : namesOf sc vars ts = some is) (hr : Rv w b₀ T φ v (.tup ds)) (hl : is.length = ds.length) (F : Fm w b₀ L m U T φ sc vars env ρ) (I : Inv w b₀ h₀ L m φ σ U X T s.heap)
    (kk : ∀ h' tk' m' U', Inv w b₀ h₀ L m' φ σ U' X T h' → Fm w b₀ L m' U' T φ sc vars env (setAll ρ is (ds.map .val)) → Q () { s with heap := h', toks := tk' }) :
    wpC (model prog w) A (assign (.Tuple ts k pos) env v) Q s := by
  show wpC _ A (do standAt pos; unpack v (assignEach ts env)) Q s
  refine wpC_bind (wpC_standAt ?_)
  unfold unpack
  obtain ⟨e1, e2⟩ := names_each (env := env) hn
  cases hr with | @tup a o us n _ io cc e rs => ?_
  have ht := io.tuple cc e I st
  have hsz : us.toArray.size = (assignEach ts env).length := by rw [e2, hl, List.size_toArray, rs.length]
  rw [e1, ← hsz]
  refine wpC_bind (wpC_holding (wpC_of (unpackItems_tuple hh ht fun h' he => ?_)))
  have I' := I.grow (h' := h') fun b ob eb => he b ob (Nat.ne_of_lt (Heap.lt_size eb)) eb
  rw [List.toList_toArray]
  exact assign_seq (s := { s with heap := h' }) hn rs hl F I' kk

theorem ss_unp {ts : List Expr} {kd : Nat} {tp pos : Pos} {e : Expr} {pe : PX} {is : List Nat} (hl : noLC e = true) (hsw : ∀ env : Env, swappedStores [.Tuple ts kd tp] e env = pure none) (hn : namesOf sc vars ts = some is) (h : SX prog w b₀ tab c sc vars e pe) :
    SS prog w b₀ tab c sc vars (.Assign [.Tuple ts kd tp] e pos) (.unp is pe) := by
  intro A env L h₀ m U X T φ σ ρ s r Q C F I he k
  obtain ⟨⟨d, σ₁⟩, h1, he⟩ := bindE he
  obtain ⟨ds, hd, he⟩ := bindE he
  obtain ⟨hlen, he⟩ := iteE he
  obtain rfl := Option.some.inj he
  refine c_Assign (swaps_plain hl (some (.Tuple ts kd tp)) pos.line env) (h C F.nm I h1 fun v h₁ t₁ T₁ φ₁ I₁ e₁ r₁ => ?_)
  rw [hsw]
  refine wpC_bind (wpC_pure ?_)
  show wpC _ A (do assignAll v [assign (.Tuple ts kd tp) env]; pure Flow.next) _ _
  refine wpC_bind (unpack_ok C.hh C.stay hn (rvT hd r₁) hlen (F.ext e₁) I₁ fun h' tk' m' U' I' F' => wpC_pure (k h' tk' m' U' T₁ φ₁ I' e₁ F'))

noncomputable def TgtOk (prog : Program) (w : World) (b₀ : Heap) (sc : Scp) (vars : List Str) (t : Expr) (g : PV → List Slot → Option (List Slot)) : Prop :=
  ∀ ⦃A : Around⦄ ⦃env : Env⦄ ⦃L : Addr⦄ ⦃h₀ : Heap⦄ ⦃m : Str → Option Value⦄ ⦃U X T : Led⦄ ⦃φ : List Addr⦄ ⦃σ : St⦄ ⦃ρ ρ' : List Slot⦄ ⦃s : Shared⦄ ⦃v : Value⦄ ⦃d : PV⦄ ⦃Q : Unit → Shared → Prop⦄ ⦃Ia : Addr⦄ ⦃oI : Obj⦄,
    A.handled = none → b₀.StaysIn h₀ → Fm w b₀ L m U T φ sc vars env ρ → Inv w b₀ h₀ L m φ σ U X T s.heap → s.heap.get? Ia = some oI → ItOk oI → Rv w b₀ T φ v d → g d ρ = some ρ' →
    (∀ h' tk' m' U', Inv w b₀ h₀ L m' φ σ U' X T h' → Fm w b₀ L m' U' T φ sc vars env ρ' → Q () { s with heap := h', toks := tk' }) →
    wpC (model prog w) A (letOwnedTupleGo t (.ref Ia) v) (fun _ s' => wpC (model prog w) A (assign t env v) Q s') s

theorem tgt_name {x : Str} {xp : Pos} {i : Nat} (hx : slotOf sc vars x = some i) : TgtOk prog w b₀ sc vars (.Name x xp) (fun v ρ => some (ρ.set i (.val v))) := by
  intro A env L h₀ m U X T φ σ ρ ρ' s v d Q Ia oI hh st F I hI hq hv hg k
  obtain rfl := Option.some.inj hg
  exact wpC_pure (c_assign_Name (wpC_of (store_ok F I hx hv k)))

theorem tgt_pair {ts : List Expr} {kd : Nat} {tp : Pos} {i j : Nat} (hn : namesOf sc vars ts = some [i, j]) :
    TgtOk prog w b₀ sc vars (.Tuple ts kd tp) (fun v ρ => (asT v).bind fun ds => (two? ds).bind fun p => some ((ρ.set i (.val p.1)).set j (.val p.2))) := by
  intro A env L h₀ m U X T φ σ ρ ρ' s v d Q Ia oI hh st F I hI hq hv hg k
  obtain ⟨ds, h1, hg⟩ := bindE hg
  obtain ⟨p, h2, hg⟩ := bindE hg
  obtain rfl := Option.some.inj hg
  replace hv := rvT h1 hv
  rw [two_eq h2] at hv
  have main := unpack_ok (prog := prog) (k := kd) (pos := tp) hh st hn hv rfl F I k
  refine wpC_of ?_
  obtain ⟨ad, o, us, n, rfl, io, cc, e, rs⟩ := hv.inv
  obtain ⟨nm, q1, q2⟩ := hq
  unfold letOwnedTupleGo
  refine wpAny_bind (wpAny_load hI ?_)
  obtain ⟨oc, od, odt, osl⟩ := oI
  dsimp only at q1 ⊢
  subst q1
  cases odt <;> first | exact wpAny_pure main | skip
  dsimp only
  rw [q2]
  exact wpAny_pure main

theorem for_core {t iter : Expr} {body : List Stmt} {pos : Pos} {pi : PX} {pb : PSs} {g : PV → List Slot → Option (List Slot)} (hs : noSet iter = true) (ht : TgtOk prog w b₀ sc vars t g) (hi : SX prog w b₀ tab c sc vars iter pi) (hb : SSs prog w b₀ tab c sc vars body pb)
    {A : Around} {env : Env} {L : Addr} {h₀ : Heap} {m : Str → Option Value} {U X T : Led} {φ : List Addr} {σ σ₁ : St} {ρ : List Slot} {s : Shared} {r : XR} {Q : Flow → Shared → Prop} {d : PV} {vs : List PV}
    (C : Cx b₀ c A env L h₀) (F : Fm w b₀ L m U T φ sc vars env ρ) (I : Inv w b₀ h₀ L m φ σ U X T s.heap) (hev : ev (callF tab c) pi ρ σ = some (d, σ₁)) (hvs : items d = some vs)
    (he : forS (fun v ρ σ => (g v ρ).bind fun ρ => xss (callF tab c) pb ρ σ) vs ρ σ₁ = some r) (k : PostS w b₀ h₀ L X T φ sc vars env s Q r) : wpC (model prog w) A (exec (.For t iter body [] pos) env) Q s := by
  refine c_For hs (hi C F.nm I hev fun v h₁ t₁ T₁ φ₁ I₁ e₁ r₁ => wpC_of ?_)
  refine src_ok (prog := prog) (s := { s with heap := h₁, toks := t₁ }) hvs r₁ C.hh I₁ C.stay fun Ia oI h₂ I₂ src => ?_
  obtain ⟨fp, P, St', W, hfp, hP, hIo, hst⟩ := src
  refine codeC_forLoop vs.length (LoopI w b₀ h₀ L (fun _ (o : Obj) => (Ia, o) :: X) T₁ φ₁ sc vars env s St' fun i ρ σ => forS (fun v ρ σ => (g v ρ).bind fun ρ => xss (callF tab c) pb ρ σ) (vs.drop i) ρ σ = some r) ?_ 0 (Nat.zero_le _)
    (.mk h₂ t₁ m U T₁ φ₁ ρ σ₁ oI hst I₂ .refl (F.ext e₁) he)
  rintro i s' hile ⟨h', tk', m', U', T', φ', ρ', σ', oI', hst', I', e', F', he'⟩
  by_cases hlt : i < vs.length
  · refine W.item i _ _ _ hlt hst' fun u h₃ tk₃ hPu hst₃ hk₃ => ?_
    obtain ⟨du, hdu, ru⟩ := hP i u hlt hPu
    obtain ⟨oI₃, hoI₃, hok⟩ := hIo _ _ hst₃
    have J₁ := Inv.chgX (X₁ := []) (o' := oI₃) I' (fun b ob hb e => hk₃ b ob (by simpa using hb) e) hoI₃
    have hdrop : vs.drop i = du :: vs.drop (i + 1) := by
      rw [List.drop_eq_getElem_cons hlt]
      congr 1
      rw [List.getElem?_eq_getElem hlt] at hdu
      exact Option.some.inj hdu
    rw [hdrop] at he'
    obtain ⟨r₁, hx, he'⟩ := bindE he'
    obtain ⟨ρ₄, hg, hx⟩ := bindE hx
    refine ht (s := { s with heap := h₃, toks := tk₃ }) C.hh C.stay F' J₁ hoI₃ hok (e'.rv ru) hg fun h₄ t₄ m₄ U₄ I₄ F₄ => ?_
    refine hb (s := { s with heap := h₄, toks := t₄ }) C F₄ I₄ hx ?_
    cases r₁ with
    | nxt ρ₅ σ₅ =>
      intro h₅ t₅ m₅ U₅ T₅ φ₅ I₅ e₅ F₅
      refine ⟨hlt, .mk h₅ t₅ m₅ U₅ T₅ φ₅ ρ₅ σ₅ oI₃ ?_ I₅ (e'.trans e₅) F₅ he'⟩
      exact src_frame (prog := prog) (w := w) (A := A) (b₀ := b₀) (T := T₁) (T' := T₁) (φ := φ) W hfp hst₃ hoI₃ (I₅.get (p := (Ia, oI₃)) (by simp)) fun a o io => ⟨J₁.getO C.stay (io.mono e'.1), I₅.getO C.stay (io.mono (e'.trans e₅).1)⟩
    | ret dd σ₅ =>
      obtain rfl := Option.some.inj he'
      exact fun v h₅ t₅ m₅ U₅ T₅ φ₅ I₅ e₅ r₅ => k v h₅ t₅ m₅ U₅ T₅ φ₅ (Inv.dropX (X' := [(Ia, oI₃)]) I₅) (e₁.trans (e'.trans e₅)) r₅
  · obtain rfl : i = vs.length := Nat.le_antisymm hile (Nat.not_lt.mp hlt)
    rw [List.drop_length] at he'
    obtain rfl := Option.some.inj he'
    refine W.done _ _ _ hst' fun h₃ tk₃ hk₃ => ?_
    exact k h₃ tk₃ m' U' T' φ' (I'.dropChg (h' := h₃) fun b ob hb e => hk₃ b ob (by simpa using hb) e) (e₁.trans e') F'

theorem ss_for1 {x : Str} {xp pos : Pos} {iter : Expr} {body : List Stmt} {pi : PX} {pb : PSs} {i : Nat} (hs : noSet iter = true) (hx : slotOf sc vars x = some i) (hi : SX prog w b₀ tab c sc vars iter pi) (hb : SSs prog w b₀ tab c sc vars body pb) :
    SS prog w b₀ tab c sc vars (.For (.Name x xp) iter body [] pos) (.for1 i pi pb) := by
  intro A env L h₀ m U X T φ σ ρ s r Q C F I he k
  obtain ⟨⟨d, σ₁⟩, h1, he⟩ := bindE he
  obtain ⟨vs, hvs, he⟩ := bindE he
  exact for_core hs (tgt_name hx) hi hb C F I h1 hvs he k

theorem forS_congr {f g : PV → List Slot → St → Option XR} (h : ∀ v ρ σ, f v ρ σ = g v ρ σ) : ∀ (vs : List PV) (ρ : List Slot) (σ : St), forS f vs ρ σ = forS g vs ρ σ
  | [], _, _ => rfl
  | v :: vs, ρ, σ => by
    show (f v ρ σ).bind _ = (g v ρ σ).bind _
    rw [h, funext fun ρ => funext fun σ => forS_congr h vs ρ σ]

theorem ss_forT {ts : List Expr} {kd : Nat} {tp pos : Pos} {iter : Expr} {body : List Stmt} {pi : PX} {pb : PSs} {i j : Nat} (hs : noSet iter = true) (hn : namesOf sc vars ts = some [i, j]) (hi : SX prog w b₀ tab c sc vars iter pi) (hb : SSs prog w b₀ tab c sc vars body pb) :
    SS prog w b₀ tab c sc vars (.For (.Tuple ts kd tp) iter body [] pos) (.forT i j pi pb) := by
  intro A env L h₀ m U X T φ σ ρ s r Q C F I he k
  obtain ⟨⟨d, σ₁⟩, h1, he⟩ := bindE he
  obtain ⟨vs, hd, he⟩ := bindE he
  obtain rfl := asT_eq hd
  refine for_core (d := .tup vs) hs (tgt_pair hn) hi hb C F I h1 rfl ?_ k
  refine Eq.trans (forS_congr (fun v ρ σ => ?_) _ _ _) he
  show Option.bind _ _ = Option.bind _ _
  cases asT v with
  | none => rfl
  | some ds =>
    show Option.bind (Option.bind (two? ds) _) _ = Option.bind (two? ds) _
    cases two? ds with
    | none => rfl
    | some p => rfl
end
end Mine
end
section
namespace Mine
open PySem PySem.W PyProof.Rows PySem.Spec PySem.Calls

section
variable {prog : Program} {w : World} {K : Frag} {b₀ : Heap} {mg mb : Str → Option Value} {tab : Nat → Option PFun} {c : Nat} {sc : Scp} {vars : List Str}

theorem ss_asgC {elt iter : Expr} {x y : Str} {xp yp pos sp : Pos} {scope : Scope} {pe pi : PX} {i : Nat} (hs : noSet iter = true) (hS : compScope sc vars x scope = true) (hx : locOf sc vars y = some i) (hl : (yp.line == pos.line) = true) (hno : scope.names.lookup y = none)
    (he : SX prog w b₀ tab c scope.names (x :: vars) elt pe) (hi : SX prog w b₀ tab c sc vars iter pi) :
    SS prog w b₀ tab c sc vars (.Assign [.Name y yp] (.ListComp elt [⟨.Name x xp, iter, [], 0⟩] scope pos) sp) (.asgC i pe pi) := by
  intro A env L h₀ m U X T φ σ ρ s r Q C F I hev k
  have S := compSc hS
  have N := F.nm (X := X)
  obtain ⟨cl, hcl, hcl'⟩ := closureFor_ok (env := env) (scope := scope) fun y hy => (N.cell y (S.free y hy)).2
  obtain ⟨hx', hlk⟩ := loc_slot hx
  have hk : env.kindOf y = some .local := by unfold Env.kindOf; rw [F.names]; exact hlk
  obtain ⟨⟨d', σ'⟩, hev0, rfl⟩ := mapE hev
  obtain ⟨⟨z, σ₁⟩, h1, hev1⟩ := bindE hev0
  obtain ⟨vs, hvs, hev2⟩ := bindE hev1
  obtain ⟨hlen, hev3⟩ := iteE hev2
  obtain ⟨⟨ds, σ₂⟩, hm, hd⟩ := mapE hev3
  obtain ⟨rfl, rfl⟩ := prodE hd
  clear hev hev1 hev2 hev3
  have hsw : swapsWith (.ListComp elt [⟨.Name x xp, iter, [], 0⟩] scope pos) (some (.Name y yp)) sp.line env = pure true := by
    have hb : env.blockKind = .function := by unfold Env.blockKind; rw [F.kind]; rfl
    have hany : (scope.names.any fun (n, k) => n == y && (k == .local || k == .cell)) = false := by
      rw [List.any_eq_false]
      intro p hp hq
      obtain ⟨n, kd⟩ := p
      have hn : n = y := eq_of_beq (Bool.and_eq_true_iff.mp hq).1
      subst hn
      have key : ∀ (l : List (Str × NameKind)), l.lookup n = none → (n, kd) ∉ l := by
        intro l
        induction l with
        | nil => intro _ h; cases h
        | cons p l ih =>
          obtain ⟨a, b⟩ := p
          intro h hm
          rw [List.lookup_cons] at h
          cases hab : n == a with
          | true => rw [hab] at h; cases h
          | false =>
            rw [hab] at h
            rcases List.mem_cons.mp hm with hm | hm
            · have : n = a := congrArg Prod.fst hm
              rw [this] at hab; simp at hab
            · exact ih h hm
      exact key _ hno hp
    show (pure (env.blockKind == .function && env.kindOf y == some .local && yp.line == pos.line && !(scope.names.any fun (n, k) => n == y && (k == .local || k == .cell))) : Sem Bool) = pure true
    rw [hb, hk, hl, hany]; rfl
  refine c_Assign_ListComp hs hsw hcl S.kind (fun y hy hl => (S.loc y.1 (by rw [← hl]; exact hy)).1) (hi C N I h1 fun v h₁ t₁ T₁ φ₁ I₁ e₁ r₁ => ?_)
  refine comp_core (s := { s with heap := h₁, toks := t₁ }) C (N.ext e₁) S hcl' he I₁ r₁ (itemsC_eq hvs) hlen hm fun Ca D oC mC ys h' tk T' φ' I' e' nC ry => ?_
  have J := Inv.stayAt (X₁ := [(Ca, oC)]) I'
  have e₂ : Ext T φ ((D, LCg.lst ys) :: T') φ' := e₁.trans (e'.trans .alloc)
  refine c_assign_Name (wpC_of (store_ok (s := { s with heap := h', toks := tk }) (F.ext e₂) J hx' (d := .lst ds) (.lst (.inl (.head _)) rfl rfl (ry.mono (fun _ h => .tail _ h) List.prefix_rfl)) fun h₂ t₂ m₂ U₂ I₂ F₂ => ?_))
  refine ⟨mC, nC.ns (I₂.get (p := (Ca, oC)) (by simp)), fun h'' hs'' => ?_⟩
  exact k h'' t₂ m₂ U₂ _ φ' (Inv.dropAt (X₁ := []) (h' := h'') I₂ fun b ob hb e => hs''.extBut b ob hb e) e₂ F₂

theorem ss_unpA {x o a : Str} {xp op ap tp pos : Pos} {kd : Nat} {e : Expr} {pe : PX} {i j : Nat} {f : Bool} (KR : KRd K) (KX : K.In b₀) (hl : noLC e = true) (hsw : ∀ env : Env, swappedStores [.Tuple [.Name x xp, .Attribute (.Name o op) a ap] kd tp] e env = pure none)
    (hx : locOf sc vars x = some i) (hn : okName o = true) (ho : slotOf sc vars o = some j) (hf : fldOf a = some f) (h : SX prog w b₀ tab c sc vars e pe) :
    SS prog w b₀ tab c sc vars (.Assign [.Tuple [.Name x xp, .Attribute (.Name o op) a ap] kd tp] e pos) (.unpA i j f pe) := by
  intro A env L h₀ m U X T φ σ ρ s r Q C F I he k
  obtain ⟨⟨d, σ₁⟩, h1, he⟩ := bindE he
  obtain ⟨dds, hd, he⟩ := bindE he
  obtain ⟨⟨da, db⟩, h2d, he⟩ := bindE he
  obtain ⟨dv, hdv, he⟩ := bindE he
  obtain ⟨σ₂, h2, he⟩ := mapE he
  obtain rfl := he
  obtain rfl := fld_of hf
  refine c_Assign (swaps_plain hl (some (.Tuple [.Name x xp, .Attribute (.Name o op) (fldName f) ap] kd tp)) pos.line env) (h C F.nm I h1 fun v h₁ t₁ T₁ φ₁ I₁ e₁ r₁ => ?_)
  rw [hsw]
  refine wpC_bind (wpC_pure ?_)
  show wpC _ A (do (do standAt tp; unpack v [(false, assign (.Name x xp) env), (false, assign (.Attribute (.Name o op) (fldName f) ap) env)]); pure Flow.next) _ _
  refine wpC_bind (wpC_bind (wpC_standAt ?_))
  unfold unpack
  obtain ⟨ad, ob, us, n, rfl, io, cc, ed, rs⟩ := (rvT hd r₁).inv
  rw [two_eq h2d] at rs
  obtain ⟨u1, u2, rfl, q1, q2⟩ := rs.inv2
  have ht := IsO.tuple (s := { s with heap := h₁, toks := t₁ }) io cc ed I₁ C.stay
  refine wpC_bind (wpC_holding (wpC_of ?_))
  show wpAny _ _ (unpackItems (.ref ad) ([u1, u2].toArray).size none) _ _ _
  refine unpackItems_tuple (s := { s with heap := h₁, toks := t₁ }) C.hh ht fun h' hk => ?_
  have I' := I₁.grow (h' := h') fun b ob eb => hk b ob (Nat.ne_of_lt (Heap.lt_size eb)) eb
  show wpC _ A (do holding [u2] (assign (.Name x xp) env u1); (do holding [] (assign (.Attribute (.Name o op) (fldName f) ap) env u2); pure ())) _ _
  refine wpC_bind (wpC_holding (c_assign_Name (wpC_of (store_ok (s := { s with heap := h', toks := t₁ }) (F.ext e₁) I' (loc_slot hx).1 q1 fun h₂ t₂ m₂ U₂ I₂ F₂ => ?_))))
  refine wpC_bind (wpC_holding (c_assign_Attr ?_))
  refine var_at (s := { s with heap := h₂, toks := t₂ }) hn ho hdv C F₂.nm I₂ fun vo h₃ t₃ T₃ φ₃ I₃ e₃ r₃ => wpC_of ?_
  exact setAttr_ok KR KX h2 r₃ (e₃.rv q2) I₃ C.stay fun h₄ t₄ I₄ => wpC_pure (wpC_pure (k h₄ t₄ m₂ U₂ T₃ φ₃ I₄ (e₁.trans e₃) (F₂.ext e₃)))
end
end Mine
end
section
namespace Mine
open PySem PySem.W PyProof.Rows PySem.Spec PySem.Calls

section
variable {prog : Program} {w : World} {K : Frag} {b₀ : Heap} {mg mb : Str → Option Value} {tab : Nat → Option PFun} {c : Nat} {sc : Scp} {vars : List Str}

noncomputable def lineNames (l : Nat) (ts : List Expr) : List Str := ts.filterMap fun
  | .Name id pos => if pos.line == l then some id else none
  | _ => none

theorem lineNames_len (l : Nat) (ts : List Expr) : (lineNames l ts).length ≤ ts.length := List.length_filterMap_le ..

theorem lineNames_ok (l : Nat) (f : Expr → Option Str) (hf : ∀ x p, f (.Name x p) = if p.line == l then some x else none) : ∀ {ts : List Expr} {is : List Nat}, namesOf sc vars ts = some is → ts.filterMap f = lineNames l ts
  | [], is, _ => rfl
  | t :: ts, is, h => by
    obtain ⟨x, p, i, is', rfl, hx, hn', rfl⟩ := names_cons h
    have ih := lineNames_ok l f hf hn'
    unfold lineNames
    rw [List.filterMap_cons, List.filterMap_cons, hf, ih]
    rfl
theorem lineNames_env {env : Env} (hk : ∀ x, env.kindOf x = sc.lookup x) (l : Nat) (f : Expr → Option Str) (hf : ∀ x p, f (.Name x p) = if env.kindOf x == some .local && p.line == l then some x else none) : ∀ {ts : List Expr} {is : List Nat}, namesOf sc vars ts = some is →
    ts.filterMap f = lineNames l ts
  | [], is, _ => rfl
  | t :: ts, is, h => by
    obtain ⟨x, p, i, is', rfl, hx, hn', rfl⟩ := names_cons h
    have ih := lineNames_env hk l f hf hn'
    have h1 : env.kindOf x = some .local := by rw [hk]; exact (loc_slot hx).2
    unfold lineNames
    rw [List.filterMap_cons, List.filterMap_cons, hf, h1, ih]
    rfl

theorem lineNames_loc (l : Nat) : ∀ {ts : List Expr} {is : List Nat}, namesOf sc vars ts = some is → (lineNames l ts).length = ts.length → (lineNames l ts).map (locOf sc vars) = is.map some
  | [], is, h, _ => by obtain rfl := Option.some.inj h; rfl
  | t :: ts, is, h, hl => by
    obtain ⟨x, p, i, is', rfl, hx, hn', rfl⟩ := names_cons h
    cases hp : p.line == l with
    | false =>
      have : lineNames l (.Name x p :: ts) = lineNames l ts := by
        unfold lineNames; rw [List.filterMap_cons]; simp only [hp]; rfl
      rw [this] at hl
      have := lineNames_len l ts
      simp only [List.length_cons] at hl
      omega
    | true =>
      have e : lineNames l (.Name x p :: ts) = x :: lineNames l ts := by
        unfold lineNames; rw [List.filterMap_cons]; simp only [hp]; rfl
      rw [e] at hl ⊢
      rw [List.map_cons, List.map_cons, hx, lineNames_loc l hn' (by simpa using hl)]

theorem swap_some {env : Env} {ts vs : List Expr} {is : List Nat} {k1 k2 : Nat} {p1 p2 : Pos} (hk : ∀ x, env.kindOf x = sc.lookup x) (hb : env.blockKind = .function) (hn : namesOf sc vars ts = some is) (ho : swapOk ts vs = true) :
    ∃ ns : List Str, swappedStores [.Tuple ts k1 p1] (.Tuple vs k2 p2) env = pure (some ns) ∧ ns.map (locOf sc vars) = is.map some ∧ vs.length = ts.length ∧ ns.length = ts.length ∧ ts.length ≤ 3 := by
  simp only [swapOk, Bool.and_eq_true] at ho
  rw [lineNames_ok ((ts.head?.map (·.pos.line)).getD 0) _ (fun _ _ => rfl) hn] at ho
  obtain ⟨⟨⟨⟨⟨h1, h2⟩, h3⟩, h4, h5⟩, h6⟩, h7⟩ := ho
  have hle : ts.length ≤ 3 := by
    rcases Bool.or_eq_true_iff.mp h1 with h | h
    · have := eq_of_beq h; with_reducible (apply Mine.le_f; apply Mine.le_e; assumption; exact Mine.lit; decide)
    · have := eq_of_beq h; with_reducible (apply Mine.le_f; apply Mine.le_e; assumption; exact Mine.lit; decide)
  refine ⟨lineNames ((ts.head?.map (·.pos.line)).getD 0) ts, ?_, lineNames_loc _ hn (eq_of_beq h4), eq_of_beq h2, eq_of_beq h4, hle⟩
  unfold swappedStores
  dsimp only
  rw [lineNames_env hk ((ts.head?.map (·.pos.line)).getD 0) _ (fun _ _ => rfl) hn]
  simp only [Bool.not_eq_true'] at h3 h6 h7
  refine (if_neg ?_).trans ?_
  · rw [hb, eq_of_beq h2, h1]; simp
  refine (if_neg fun h => ?_).trans ?_
  · have := h.symm.trans h3; cases this
  refine (if_neg ?_).trans ?_
  · rw [eq_of_beq h5, eq_of_beq h4]; simp
  refine (if_neg fun h => ?_).trans ?_
  · rw [h6] at h; cases h
  rw [h7]
  rfl
theorem Rvs.app {T : Led} {φ : List Addr} : ∀ {us vs : List Value} {ds es : List PV}, Rvs w b₀ T φ us ds → Rvs w b₀ T φ vs es → Rvs w b₀ T φ (us ++ vs) (ds ++ es)
  | _, _, _, _, .nil, h => h
  | _, _, _, _, .cons a b, h => .cons a (b.app h)
theorem Rvs.rev {T : Led} {φ : List Addr} : ∀ {us : List Value} {ds : List PV}, Rvs w b₀ T φ us ds → Rvs w b₀ T φ us.reverse ds.reverse
  | _, _, .nil => .nil
  | _, _, .cons a b => by
    rw [List.reverse_cons, List.reverse_cons]
    exact (Rvs.rev b).app (.cons a .nil)

set_option tactic.hygienic true in
theorem bind_seq {A : Around} {env : Env} {L : Addr} {h₀ : Heap} {X T : Led} {φ : List Addr} {σ : St} : ∀ {ns : List Str} {is : List Nat} {us : List Value} {ds : List PV} {m : Str → Option Value} {U : Led} {ρ : List Slot} {s : Shared} {Q : Unit → Shared → Prop},
    ns.map (locOf sc vars) = is.map some → Rvs w b₀ T φ us ds → is.length = ds.length → Fm w b₀ L m U T φ sc vars env ρ → Inv w b₀ h₀ L m φ σ U X T s.heap →
    (∀ h' tk' m' U', Inv w b₀ h₀ L m' φ σ U' X T h' → Fm w b₀ L m' U' T φ sc vars env (setAll ρ is (ds.map .val)) → Q () { s with heap := h', toks := tk' }) →
    wpC (model prog w) A (assignInOrder (ns.map fun n => bindName env n) us) Q s
  | [], is, us, ds, m, U, ρ, s, Q, hn, hr, hl, F, I, k => by
    have : is = [] := by cases is with | nil => rfl | cons _ _ => cases hn
    subst this
    have : ds = [] := by cases ds with | nil => rfl | cons _ _ => cases hl
    subst this
    obtain ⟨h, g, dr, t, os⟩ := s
    cases hr
    exact wpC_pure (k h t m U I F)
  | n :: ns, is, us, ds, m, U, ρ, s, Q, hn, hr, hl, F, I, k => by
    cases is with
    | nil => cases hn
    | cons i is =>
    cases ds with
    | nil => cases hl
    | cons d ds =>
      cases hr with | cons r1 r2 => ?_
      rename_i u us
      rw [List.map_cons, List.map_cons] at hn
      injection hn with hn1 hn2
      show wpC _ A (do holding us (bindName env n u); assignInOrder (ns.map fun n => bindName env n) us) Q s
      refine wpC_bind (wpC_holding (wpC_bindName (wpC_of (store_ok F I (loc_slot hn1).1 r1 fun h' tk' m' U' I' F' => ?_))))
      exact bind_seq hn2 r2 (by simpa using hl) F' I' fun h'' tk'' m'' U'' I'' F'' => k h'' tk'' m'' U'' I'' F''

theorem ss_asgT {ts vs : List Expr} {k1 k2 : Nat} {p1 p2 pos : Pos} {is : List Nat} {pxs : PXs} (ho : swapOk ts vs = true) (hn : namesOf sc vars ts = some is) (h : SXs prog w b₀ tab c sc vars vs pxs) :
    SS prog w b₀ tab c sc vars (.Assign [.Tuple ts k1 p1] (.Tuple vs k2 p2) pos) (.asgT is pxs none) := by
  intro A env L h₀ m U X T φ σ ρ s r Q C F I he k
  obtain ⟨⟨ds, σ₁⟩, h1, he⟩ := bindE he
  obtain ⟨hlen, he⟩ := iteE he
  obtain rfl := Option.some.inj he
  have hk : ∀ x, env.kindOf x = sc.lookup x := fun x => by unfold Env.kindOf; rw [F.names]
  have hb : env.blockKind = .function := by unfold Env.blockKind; rw [F.kind]; rfl
  obtain ⟨ns, e1, e2, e3, e5, e4⟩ := swap_some (k1 := k1) (k2 := k2) (p1 := p1) (p2 := p2) hk hb hn ho
  have htup : SX prog w b₀ tab c sc vars (.Tuple vs k2 p2) (.tup pxs) := sx_tup (by with_reducible (apply Mine.le_f; apply Mine.le_e; assumption; assumption; decide)) h
  refine c_Assign (swaps_plain (e := .Tuple vs k2 p2) rfl (some (.Tuple ts k1 p1)) pos.line env) (htup (d := .tup ds) (σ' := σ₁) C F.nm I (by show (evs (callF tab c) pxs ρ σ).map _ = _; rw [h1]; rfl) fun v h₁ t₁ T₁ φ₁ I₁ e₁ r₁ => ?_)
  rw [e1]
  refine wpC_bind (wpC_pure ?_)
  show wpC _ A (do rule "assign.swapped-stores"; let items ← unpackItems v ns.length none; assignInOrder (ns.reverse.map fun n => bindName env n) items.reverse; pure Flow.next) _ _
  refine wpC_bind (wpC_rule ?_)
  obtain ⟨a, o, us, n, rfl, io, cc, e, rs⟩ := r₁.inv
  have ht := IsO.tuple (s := { s with heap := h₁, toks := t₁ }) io cc e I₁ C.stay
  have hsz : us.toArray.size = ns.length := by rw [List.size_toArray, rs.length, ← hlen]; have := congrArg List.length e2; simpa using this.symm
  rw [← hsz]
  refine wpC_bind (wpC_of (unpackItems_tuple (s := { s with heap := h₁, toks := t₁ }) C.hh ht fun h' he => ?_))
  have I' := I₁.grow (h' := h') fun b ob eb => he b ob (Nat.ne_of_lt (Heap.lt_size eb)) eb
  rw [List.toList_toArray]
  refine wpC_bind (bind_seq (s := { s with heap := h', toks := t₁ }) (is := is.reverse) (by rw [List.map_reverse, e2, List.map_reverse]) rs.rev (by simpa using hlen) (F.ext e₁) I' fun h₂ t₂ m₂ U₂ I₂ F₂ => wpC_pure (k h₂ t₂ m₂ U₂ T₁ φ₁ I₂ e₁ F₂))

theorem ss_asgTo {x y : Str} {xp yp : Pos} {e : Expr} {lp : Pos} {k1 k2 : Nat} {p1 p2 pos : Pos} {i j : Nat} {pe : PX} (ho : swapOk [.Name x xp, .Name y yp] [e, .List [] lp] = true) (hn : namesOf sc vars [.Name x xp, .Name y yp] = some [i, j]) (hst : noStar e = true) (h : SX prog w b₀ tab c sc vars e pe) :
    SS prog w b₀ tab c sc vars (.Assign [.Tuple [.Name x xp, .Name y yp] k1 p1] (.Tuple [e, .List [] lp] k2 p2) pos) (.asgT [i] (.cons pe .nil) (some (j, .nil))) := by
  intro A env L h₀ m U X T φ σ ρ s r Q C F I he k
  obtain ⟨⟨ds, σ₁⟩, h0, he⟩ := bindE he
  obtain ⟨⟨d, σ₂⟩, h1, h0⟩ := bindE h0
  obtain ⟨rfl, rfl⟩ := prodE (Option.some.inj h0)
  obtain ⟨_, he⟩ := iteE he
  obtain rfl := Option.some.inj he
  have hk : ∀ x, env.kindOf x = sc.lookup x := fun x => by unfold Env.kindOf; rw [F.names]
  have hb : env.blockKind = .function := by unfold Env.blockKind; rw [F.kind]; rfl
  obtain ⟨ns, e1, e2, e3, e5, e4⟩ := swap_some (k1 := k1) (k2 := k2) (p1 := p1) (p2 := p2) hk hb hn ho
  match ns, e1, e2 with
  | [n1, n2], e1, e2 =>
    simp only [List.map_cons, List.map_nil, List.cons.injEq, and_true] at e2
    refine c_Assign (swaps_plain (e := .Tuple [e, .List [] lp] k2 p2) rfl (some (.Tuple [.Name x xp, .Name y yp] k1 p1)) pos.line env) (c_Tuple (c_spliced_cons hst (h C F.nm I h1 fun u h₁ t₁ T₁ φ₁ I₁ e₁ r₁ => c_spliced_cons rfl (c_List (c_spliced_nil (wpC_of ?_))))))
    refine wpAny_newObj_type (c_spliced_nil (wpC_of ?_)) (by show 0 ≤ sizeLine; (with_reducible decide))
    refine wpAny_newObj_type ?_ (by show 2 ≤ sizeLine; rw [sizeLine_eq]; (with_reducible decide))
    have J := ((I₁.pushX (listOf #[] 0) rfl).takeX).alloc { cls := .type "tuple", data := .seq [u, .ref h₁.objs.size].toArray 0 } rfl
    rw [e1]
    refine wpC_bind (wpC_pure ?_)
    show wpC _ A (do rule "assign.swapped-stores"; let items ← unpackItems _ [n1, n2].length none; assignInOrder ([n1, n2].reverse.map fun n => bindName env n) items.reverse; pure Flow.next) _ _
    refine wpC_bind (wpC_rule ?_)
    have ht : IsTup ((h₁.push (listOf #[] 0)).push { cls := .type "tuple", data := .seq [u, .ref h₁.objs.size].toArray 0 }) (h₁.push (listOf #[] 0)).objs.size [u, .ref h₁.objs.size].toArray :=
      ⟨_, Heap.get?_push_size _ rfl, rfl, 0, rfl⟩
    refine wpC_bind (wpC_of ?_)
    show wpAny _ _ (unpackItems (.ref (h₁.push (listOf #[] 0)).objs.size) ([u, .ref h₁.objs.size].toArray).size none) _ _ { s with heap := (h₁.push (listOf #[] 0)).push { cls := .type "tuple", data := .seq [u, .ref h₁.objs.size].toArray 0 }, toks := t₁ }
    refine unpackItems_tuple C.hh ht fun h' he => ?_
    have J' := J.grow (h' := h') fun b ob eb => he b ob (Nat.ne_of_lt (Heap.lt_size eb)) eb
    show wpC _ A (do (do holding [u] (bindName env n2 (.ref h₁.objs.size)); (do holding [] (bindName env n1 u); pure ())); pure Flow.next) _ _
    have e₂ : Ext T φ (((h₁.push (listOf #[] 0)).objs.size, { cls := .type "tuple", data := .seq [u, .ref h₁.objs.size].toArray 0 }) :: T₁) φ₁ := e₁.trans .alloc
    refine wpC_bind (wpC_bind (wpC_holding (wpC_bindName (wpC_of ?_))))
    refine storeOwn_ok (s := { s with heap := h', toks := t₁ }) (F.ext e₂) J' e2.2 (sl := .ol []) (fun m' hk hm => .ol (us := []) hk hm (.head _) .nil) fun h₂ t₂ m₂ I₂ F₂ => ?_
    refine wpC_bind (wpC_holding (wpC_bindName (wpC_of ?_)))
    exact store_ok (s := { s with heap := h₂, toks := t₂ }) F₂ I₂ (loc_slot e2.1).1 (r₁.mono (fun _ h => .tail _ h) List.prefix_rfl) fun h₃ t₃ m₃ U₃ I₃ F₃ => wpC_pure (wpC_pure (k h₃ t₃ m₃ U₃ _ φ₁ I₃ e₂ F₃))
end
end Mine
end
section
namespace Mine
open PySem PySem.W PyProof.Rows PySem.Spec PySem.Calls

section
variable {prog : Program} {w : World} {K : Frag} {b₀ h₀ : Heap} {L : Addr} {m : Str → Option Value} {φ : List Addr} {σ : St} {U X T : Led} {A : Around} {E : Value → Shared → Prop} {s : Shared}

theorem set_at {l : Addr} {items : Array Value} {n : Nat} {k : Int} {t : Tok} {v : Value} {Q : Unit → Shared → Prop} (ho : s.heap.get? l = some (listOf items n))
    (h0 : 0 ≤ k) (hfit : k < 2 ^ 63) (hn : k < items.size)
    (hQ : ∀ h', h'.get? l = some (listOf (items.setIfInBounds k.toNat v) n) → Heap.SameBut l s.heap h' → Q () { s with heap := h' }) :
    wpAny (model prog w) A (setItem (.ref l) (.int k t) v) Q E s := by
  have hl : s.heap.IsList l items := ⟨_, ho, rfl, n, rfl⟩
  unfold setItem
  try with_reducible refine wpAny_holding ?_
  first | refine wpAny_bind (wpAny_pure ?_) | skip
  refine wpAny_bind (wpAny_sequenceKey hl.typeIs (by decide) ?_)
  refine wpAny_bind (wpAny_callSpecial?_slot (name := Str.ofString "__setitem__") hl.typeIs slot_list_setitem
    (wpAny_call_entry slot_list_setitem hl.typeIs entry_list_setitem ?_ (args_list_setitem _ _ _)))
  show wpAny _ _ (Builtin.List.listSubscript? (.int k t) >>= _) _ _ s
  refine wpAny_bind (wpAny_listSubscript_int (fitsIndex_of h0 hfit) ?_)
  clear hfit
  obtain ⟨j, rfl⟩ := Int.eq_ofNat_of_zero_le h0
  have hj : j < items.size := by with_reducible (apply Mine.c_lt' <;> assumption)
  have hx' : items[j]? = some items[j] := Array.getElem?_eq_getElem hj
  show wpAny _ _ ((seqItemAt l j >>= fun r => pure (r.map (j, ·))) >>= _) _ _ s
  refine wpAny_bind (wpAny_bind (wpAny_seqItemAt ho rfl (wpAny_pure ?_)))
  rw [hx']
  show wpAny _ _ (setSeqItemAt l j v >>= _) _ _ s
  have hm : Obj.mapSeq (·.setIfInBounds j v) (listOf items n) = listOf (items.setIfInBounds j v) n := by
    show (Obj.mk _ _ (.seq (items.setIfInBounds j v) (if (items.setIfInBounds j v).size == items.size then n else n + 1)) _ : Obj) = _
    rw [Array.size_setIfInBounds, beq_self_eq_true]; rfl
  have hfin : (s.heap.update l (Obj.mapSeq (·.setIfInBounds j v))).get? l = some (listOf (items.setIfInBounds j v) n) := by
    rw [Heap.get?_update_self _ ho (by rw [hm]; rfl), hm]
  refine wpAny_bind (wpAny_setSeqItemAt ho rfl ?_)
  first
    | exact wpAny_bind (wpAny_pure (wpAny_pure ⟨.none, rfl, wpAny_pure (hQ _ hfin (Heap.SameBut.update ..))⟩))
    | exact wpAny_pure ⟨.none, rfl, wpAny_pure (hQ _ hfin (Heap.SameBut.update ..))⟩

theorem Upd.news {h h' : Heap} {d : Addr} {o o' : Obj} {news news' : Led} (u : Upd d o o' news news') (N : News h₀ L h news) (hs : Heap.SameBut d h h') (ho : h'.get? d = some o') : News h₀ L h' news' := by
  obtain ⟨pre, post, rfl, rfl, a, b⟩ := u.split
  intro p hp
  rcases List.mem_append.mp hp with hp | hp
  · exact ⟨(hs.2 _ (a p hp)).trans (N p (List.mem_append_left _ hp)).1, (N p (List.mem_append_left _ hp)).2⟩
  · rcases List.mem_cons.mp hp with rfl | hp
    · exact ⟨ho, (N (d, o) (by simp)).2⟩
    · exact ⟨(hs.2 _ (b p hp)).trans (N p (by simp [hp])).1, (N p (by simp [hp])).2⟩

theorem setBox_ok {kk : Nat} {ds : List PV} {v u : Value} {y : PV} {i : Int} {t : Tok} {Q : Unit → Shared → Prop} (hk : σ[kk]? = some (.list ds)) (hv : Rv w b₀ T φ v (.loc kk)) (hu : Rv w b₀ T φ u y) (I : Inv w b₀ h₀ L m φ σ U X T s.heap)
    (h0 : 0 ≤ i) (hlt : i.toNat < ds.length) (hz : i ≤ 1000)
    (k : ∀ h', Inv w b₀ h₀ L m φ (σ.set kk (.list (ds.set i.toNat y))) U X T h' → Q () { s with heap := h' }) : wpAny (model prog w) A (setItem v (.int i t) u) Q E s := by
  obtain ⟨e, a, news, ha, hr, N, hs, hs2, up⟩ := I.upd hk
  obtain ⟨a', rfl, hv'⟩ := hv.inv
  obtain rfl := Option.some.inj (ha.symm.trans hv')
  cases hr with | @list _ us n _ r => ?_
  obtain ⟨news', u1, u2, back⟩ := up [] a _ [] (listOf (us.set i.toNat u).toArray n) (.list (ds.set i.toNat y)) rfl (.list (r.set _ hu))
  have hg := N _ (hs _ (.head _))
  refine set_at hg.1 h0 (by omega) (by rw [List.size_toArray, r.length]; with_reducible (apply Mine.cs8 <;> assumption)) fun h' ho hsb => k h' ?_
  rw [List.setIfInBounds_toArray] at ho
  exact back h' (I.F.change hsb hg.2.1 hg.2.2) (Upd.news u1 N hsb ho)
end

section
variable {prog : Program} {w : World} {K : Frag} {b₀ : Heap} {mg mb : Str → Option Value} {tab : Nat → Option PFun} {c : Nat} {sc : Scp} {vars : List Str}

theorem ss_fail {st : Stmt} : SS prog w b₀ tab c sc vars st .fail := by
  intro A env L h₀ m U X T φ σ ρ s r Q C F I he k
  exact no he
end
end Mine
end
section
namespace Mine
open PySem PySem.W PyProof.Rows PySem.Spec PySem.Calls

namespace FB2
theorem slot_bar_set : PySem.Slot "bytearray" "__setitem__" "bytearray.__setitem__" :=
  .of (owner := "bytearray") (n := "__setitem__") (by rw [typeLookup_type, builtinLookup_eq_fast]; kernel_rfl) (by decide +kernel) (by decide +kernel) (by decide +kernel)
    (by first | exact .inl (by decide +kernel) | exact .inr (by decide +kernel)) (by rw [isSubtype_type]; kernel_rfl)
theorem bar_set_entry : entryFor table "bytearray.__setitem__" = some Builtin.«bytearray.__setitem__» := by first | exact entryFor_of_fast (by kernel_rfl) | exact entryFor_of_tree (by kernel_rfl)
theorem bar_set_args (a b c : Value) : argsOk "bytearray.__setitem__" ⟨[a, b, c], []⟩ := by unfold argsOk; kernel_rfl
end FB2

section
variable {prog : Program} {w : World} {A : Around} {E : Value → Shared → Prop} {s : Shared}

theorem bar_set {l : Addr} {b : List UInt8} {k n : Int} {t t' : Tok} {Q : Unit → Shared → Prop} (ho : s.heap.get? l = some (barObj b))
    (h0 : 0 ≤ k) (hn : k.toNat < b.length) (hl : b.length ≤ 1000) (n0 : 0 ≤ n) (n1 : n < 256)
    (hQ : ∀ h', h'.get? l = some (barObj (b.set k.toNat (UInt8.ofNat n.toNat))) → Heap.SameBut l s.heap h' → Q () { s with heap := h' }) :
    wpAny (model prog w) A (setItem (.ref l) (.int k t) (.int n t')) Q E s := by
  have hT : s.TypeIs (.ref l) "bytearray" := ⟨_, ho, rfl⟩
  unfold setItem
  try with_reducible refine wpAny_holding ?_
  first | refine wpAny_bind (wpAny_pure ?_) | skip
  refine wpAny_bind (wpAny_sequenceKey hT (by decide) ?_)
  refine wpAny_bind (wpAny_callSpecial?_slot (name := Str.ofString "__setitem__") hT FB2.slot_bar_set
    (wpAny_call_entry FB2.slot_bar_set hT FB2.bar_set_entry ?_ (FB2.bar_set_args _ _ _)))
  unfold Builtin.«bytearray.__setitem__»
  refine wpAny_bind ?_
  unfold Builtin.Bytes.subscript?
  refine wpAny_bind (wpAny_specialOf (T := "int") (typeIs_int s k t) int_index ?_)
  show wpAny _ _ (asIndex (.int k t) >>= _) _ _ s
  refine wpAny_bind (wpAny_of_eq (a := k) rfl ?_)
  refine bm_if_false (by simp only [Bool.not_eq_false']; unfold Builtin.Bytes.fitsIndex; simp; omega) ?_
  refine wpAny_pure ?_
  dsimp only
  unfold Builtin.Bytes.byteValue
  refine wpAny_bind (wpAny_bind (wpAny_of_eq (a := n) rfl ?_))
  refine bm_if_false (by simp; with_reducible (constructor <;> assumption)) ?_
  refine wpAny_pure ?_
  unfold Builtin.Bytes.payload Builtin.Bytes.payload?
  refine wpAny_bind (wpAny_bind (wpAny_bind (wpAny_load ho ?_)))
  refine wpAny_pure (wpAny_pure ?_)
  have hsi : seqIndex? k b.toArray.size = some k.toNat := by
    unfold seqIndex?
    rw [List.size_toArray]
    have h1 : ¬ k < 0 := by omega
    have h2 : k < (b.length : Int) := by with_reducible (apply Mine.cs8 <;> assumption)
    simp only [h1, if_false, h0, h2, decide_true, Bool.and_self, if_true]
  rw [hsi]
  dsimp only
  unfold Builtin.Bytes.write updateBytearray
  refine wpAny_bind (wpAny_bind (wpAny_load ho ?_))
  have hm : Obj.mapBytearray (fun x => x.setIfInBounds k.toNat n.toNat.toUInt8) (barObj b) = barObj (b.set k.toNat (UInt8.ofNat n.toNat)) := by
    show (Obj.mk _ _ (.bytearray (b.toArray.setIfInBounds k.toNat n.toNat.toUInt8) 0) _ : Obj) = _
    rw [List.setIfInBounds_toArray]
  have hfin : (s.heap.update l (Obj.mapBytearray (fun x => x.setIfInBounds k.toNat n.toNat.toUInt8))).get? l = some (barObj (b.set k.toNat (UInt8.ofNat n.toNat))) := by
    rw [Heap.get?_update_self _ ho (by rw [hm]; rfl), hm]
  dsimp only
  refine wpAny_bind (wpAny_update ho ?_)
  refine wpAny_lookBehind hfin (by
    show (if (b.set k.toNat (UInt8.ofNat n.toNat)).toArray.size > sizeLine then _ else none) = none
    rw [if_neg (by rw [List.size_toArray, List.length_set, sizeLine_eq]; omega)]) ?_
  exact wpAny_pure ⟨.none, rfl, wpAny_pure (hQ _ hfin (Heap.SameBut.update ..))⟩
end

section
variable {prog : Program} {w : World} {K : Frag} {b₀ : Heap} {mg mb : Str → Option Value} {tab : Nat → Option PFun} {c : Nat} {sc : Scp} {vars : List Str}

theorem octet_int {d : PV} {x : UInt8} (h : octet? d = some x) : ∃ n, d = .int n ∧ 0 ≤ n ∧ n < 256 ∧ x = UInt8.ofNat n.toNat := by
  obtain ⟨i, hi, h⟩ := bindE h
  obtain ⟨hn, h⟩ := iteE h
  exact ⟨i, asI_eq hi, hn.1, hn.2, (Option.some.inj h).symm⟩

theorem ss_setI {x : Str} {xp sp pos : Pos} {ie e : Expr} {pi pe : PX} {i : Nat} (hl : noLC e = true) (hn : okName x = true) (hx : slotOf sc vars x = some i) (hi : SX prog w b₀ tab c sc vars ie pi) (h : SX prog w b₀ tab c sc vars e pe) :
    SS prog w b₀ tab c sc vars (.Assign [.Subscript (.Name x xp) ie sp] e pos) (.setI i pi pe) := by
  intro A env L h₀ m U X T φ σ ρ s r Q C F I he k
  obtain ⟨⟨d, σ₁⟩, h1, he⟩ := bindE he
  obtain ⟨sl, hsl, he⟩ := bindE he
  obtain ⟨⟨kd, σ₂⟩, h2, he⟩ := bindE he
  rw [exec_Assign_Subscript _ _ _ _ _ (swaps_plain hl _ _ _)]
  cases sl with
  | un => exact no he
  | ol => exact no he
  | ob b =>
    obtain ⟨x8, h8, he⟩ := bindE he
    obtain ⟨kk, hkk, he⟩ := bindE he
    obtain ⟨hz, he⟩ := iteE he
    obtain rfl := Option.some.inj he
    obtain ⟨nn, hd, n0, n1, rfl⟩ := octet_int h8
    subst hd
    have hi' := slot_get hx
    obtain ⟨a, hk, hm, ha⟩ := own_ob F hi' hsl
    refine wpC_bind (wpC_standAt (wpC_bind (h C F.nm I h1 fun v h₁ t₁ T₁ φ₁ I₁ e₁ r₁ => wpC_bind (c_assign_Sub ?_))))
    refine wpC_of (wpAny_Name (wpAny_loadName_local F.kind hk (by rw [F.locals]; exact I₁.F.ns) hm ?_) (ok_debug hn).1)
    refine hi (s := { s with heap := h₁, toks := t₁ }) C (F.ext e₁).nm I₁ h2 fun iv h₂ t₂ T₂ φ₂ I₂ e₂ r₂ => wpC_of ?_
    have hg := I₂.get (p := (a, barObj b)) (by simp [ha])
    obtain ⟨t, rfl⟩ := r₁.inv
    obtain ⟨t', rfl⟩ := (rvI hkk r₂).inv
    refine bar_set (s := { s with heap := h₂, toks := t₂ }) hg hz.1 hz.2.1 hz.2.2 n0 n1 fun h₃ ho₃ hs₃ => ?_
    obtain ⟨U', u1, u2, J⟩ := I₂.chgU ha (fun b ob hb e => hs₃.extBut b ob hb e) ho₃
    have e₃ := e₁.trans e₂
    exact wpC_pure (k h₃ t₂ m U' T₂ φ₂ J e₃ ((F.ext e₃).chg hi' hsl hm (sf_ob hm) u2 (.ob hk hm u1)))
  | val o =>
    obtain ⟨a, ha, he⟩ := bindE he
    obtain ⟨vs, hv, he⟩ := bindE he
    obtain ⟨kk, hkk, he⟩ := bindE he
    obtain ⟨hz, he⟩ := iteE he
    obtain rfl := Option.some.inj he
    have hval : valAt ρ i = some o := by
      show (ρ[i]?).bind asVal = _
      rw [hsl]; rfl
    refine wpC_bind (wpC_standAt (wpC_bind (h C F.nm I h1 fun v h₁ t₁ T₁ φ₁ I₁ e₁ r₁ => wpC_bind (c_assign_Sub ?_))))
    refine var_at (s := { s with heap := h₁, toks := t₁ }) hn hx hval C (F.ext e₁).nm I₁ fun vo h₂ t₂ T₂ φ₂ I₂ e₂ r₂ => ?_
    refine hi (s := { s with heap := h₂, toks := t₂ }) C (F.ext (e₁.trans e₂)).nm I₂ h2 fun iv h₃ t₃ T₃ φ₃ I₃ e₃ r₃ => wpC_of ?_
    obtain ⟨t', rfl⟩ := (rvI hkk r₃).inv
    refine setBox_ok (s := { s with heap := h₃, toks := t₃ }) (boxAt_eq hv) (e₃.rv (rvC ha r₂)) ((e₂.trans e₃).rv r₁) I₃ hz.1 hz.2.1 hz.2.2 fun h₄ I₄ => ?_
    exact wpC_pure (k h₄ t₃ m U T₃ φ₃ I₄ (e₁.trans (e₂.trans e₃)) (F.ext (e₁.trans (e₂.trans e₃))))
end
end Mine
end
section
namespace Mine
open PySem PySem.W PyProof.Rows PySem.Spec PySem.Calls PySem.SeqAt

namespace FB2
theorem mro_bar : mroOf (.type "bytearray") = pure [.type "bytearray", .type "object"] := by rw [mroOf_type]; kernel_rfl
theorem lookup_bar_new : typeLookup (.type "bytearray") "__new__" = pure (some (.builtin "bytearray.__new__")) := by rw [typeLookup_type, builtinLookup_eq_fast]; kernel_rfl
theorem slot_bar_init : PySem.Slot "bytearray" "__init__" "bytearray.__init__" :=
  .of (owner := "bytearray") (n := "__init__") (by rw [typeLookup_type, builtinLookup_eq_fast]; kernel_rfl) (by decide +kernel) (by decide +kernel) (by decide +kernel)
    (by first | exact .inl (by decide +kernel) | exact .inr (by decide +kernel)) (by rw [isSubtype_type]; kernel_rfl)
theorem called_bar : TypeCalled "bytearray" "bytearray.__new__" "bytearray.__init__" :=
  ⟨by decide +kernel, by decide +kernel, ⟨_, _, mro_bar⟩, madeBy_type mro_bar lookup_bar_new (by decide +kernel), by decide +kernel, by rw [isSubtype_type]; kernel_rfl, slot_bar_init⟩
theorem typeCall_bar (a : Value) : checkTypeCall "bytearray" ⟨[a], []⟩ = pure () := by kernel_rfl
theorem newCall_bar (a : Value) : checkBuiltinCall "bytearray.__new__" ⟨[.type "bytearray", a], []⟩ = pure () := by kernel_rfl
theorem entry_bar_new : entryFor table "bytearray.__new__" = some Builtin.«list.__new__» :=
  entryFor_alias (id' := "list.__new__") (by kernel_rfl) (by first | rfl | decide +kernel) (by decide +kernel) (by kernel_rfl)
theorem plain_bar_new : plainId "bytearray.__new__" = true := by decide +kernel
theorem entry_bar_init : entryFor table "bytearray.__init__" = some Builtin.«bytearray.__init__» := by first | exact entryFor_of_fast (by kernel_rfl) | exact entryFor_of_tree (by kernel_rfl)
theorem args_bar_init (a b : Value) : argsOk "bytearray.__init__" ⟨[a, b], []⟩ := by unfold argsOk; kernel_rfl
end FB2

set_option maxRecDepth 1000000 in
set_option maxHeartbeats 4000000 in
theorem owner_bar_new : ("bytearray.__new__".splitOn ".__new__").headD "" = "bytearray" := by simp +decide [String.splitOn, String.splitOnAux]

section
variable {prog : Program} {w : World} {A : Around} {E : Value → Shared → Prop} {s : Shared}

theorem code_bar_new (a : Value) {Q₁ : Value → Shared → Prop}
    (h : Q₁ (.ref s.heap.objs.size) { s with heap := s.heap.push { cls := .type "bytearray", data := .bytearray #[] } }) :
    codeAny (model prog w) A (.call (.builtin "bytearray.__new__") ⟨[.type "bytearray", a], []⟩) (wants Q₁ E) s := by
  refine codeAny_of_tree ?_
  show wpAny _ A.in1 (do checkBuiltinCall "bytearray.__new__" ⟨[.type "bytearray", a], []⟩; again (.builtin "bytearray.__new__" ⟨[.type "bytearray", a], []⟩)) _ _ s
  refine wpAny_bind (wpAny_of_eq (FB2.newCall_bar a) (wpAny_pure ⟨plainId_quiet FB2.plain_bar_new _, codeAny_builtin_stack FB2.entry_bar_new rfl fun p st => ?_⟩))
  rw [Around.under_plainId FB2.plain_bar_new _]
  have hsub := FB2.bar_sub
  have hown := owner_bar_new
  obtain ⟨hp, g, d, tk, os⟩ := s
  simp only [hown]
  wp_walk
  exact h
end
end Mine
end
section
namespace Mine
open PySem PySem.W PyProof.Rows PySem.Spec PySem.Calls

namespace FB2
theorem bar_bind (v : Value) : Builtin.Bytes.bindOptional "bytearray.__init__" "bytearray" ["source", "encoding", "errors"] [v] [] = pure [some v, none, none] := by kernel_rfl
end FB2

section
variable {prog : Program} {w : World} {A : Around} {s : Shared}

theorem bar_init {a : Addr} {n : Int} {t : Tok} {Q : PySem.Fin → Shared → Prop} (ho : s.heap.get? a = some (barObj [])) (n0 : 0 ≤ n) (n1 : n ≤ 64)
    (hQ : ∀ h', h'.get? a = some (barObj (List.replicate n.toNat 0)) → Heap.SameBut a s.heap h' → Q (.done (.ret .none)) { s with heap := h' }) :
    wpC (model prog w) A (Builtin.«bytearray.__init__» ⟨[.ref a, .int n t], []⟩) Q s := by
  have hT : s.TypeIs (.ref a) "bytearray" := ⟨_, ho, rfl⟩
  unfold Builtin.«bytearray.__init__»
  dsimp only
  refine wpC_bind (wpC_of (wpAny_ownRelease_bar hT ?_))
  show wpC _ _ (Builtin.Bytes.bindOptional _ _ _ _ _ >>= _) _ _
  rw [FB2.bar_bind]
  refine wpC_bind (wpC_pure ?_)
  dsimp only
  refine wpC_bind (wpC_of (wpAny_pure ?_))
  refine wpC_bind (wpC_of (wpAny_pure ?_))
  refine wpC_bind ?_
  unfold orM
  refine wpC_bind (wpC_exported ?_)
  show wpC _ _ (Builtin.Bytes.exportsOf (.ref a) >>= fun x => pure (decide (x > 0))) _ _
  refine wpC_bind ?_
  unfold Builtin.Bytes.exportsOf
  refine wpC_of (wpAny_bind (wpAny_load ho (wpAny_pure (wpC_pure ?_))))
  refine wpC_of ?_
  refine bm_if_false (by decide) ?_
  have bar_write : ∀ {b : List UInt8} {s' : Shared} {f : Array UInt8 → Array UInt8} {b' : List UInt8} {Q' : Unit → Shared → Prop} {E : Value → Shared → Prop} {A' : Around}, s'.heap.get? a = some (barObj b) → f b.toArray = b'.toArray → b'.length ≤ 1000 →
      (∀ h', h'.get? a = some (barObj b') → Heap.SameBut a s'.heap h' → Q' () { s' with heap := h' }) → wpAny (model prog w) A' (Builtin.Bytes.write (.ref a) f) Q' E s' := by
    intro b s' f b' Q' E A' ho hf hz k
    have hm : Obj.mapBytearray f (barObj b) = barObj b' := by
      show (Obj.mk _ _ (.bytearray (f b.toArray) 0) _ : Obj) = _
      rw [hf]
    have hfin : (s'.heap.update a (Obj.mapBytearray f)).get? a = some (barObj b') := by
      rw [Heap.get?_update_self _ ho (by rw [hm]; rfl), hm]
    unfold Builtin.Bytes.write updateBytearray
    refine wpAny_bind (wpAny_load ho ?_)
    dsimp only
    refine wpAny_bind (wpAny_update ho ?_)
    refine wpAny_lookBehind hfin (by
      show (if b'.toArray.size > sizeLine then _ else none) = none
      rw [if_neg (by rw [List.size_toArray, sizeLine_eq]; omega)]) ?_
    exact k _ hfin (Heap.SameBut.update ..)
  refine wpAny_bind (bar_write (b' := []) ho rfl (by simp) fun h₁ ho₁ hs₁ => ?_)
  refine wpAny_bind (wpAny_pure ?_)
  refine bm_if_false rfl ?_
  refine wpAny_bind (wpAny_pure ?_)
  have hT' : ({ s with heap := h₁ } : Shared).TypeIs (.int n t) "int" := rfl
  refine wpAny_bind (wpAny_specialOf hT' FB2.int_index ?_)
  refine bm_if_true rfl ?_
  refine wpAny_bind (wpAny_attempt (wpAny_of_eq (rfl : asIndex (.int n t) = pure n) ?_))
  refine bm_if_false (by show (!(decide (-(2 ^ 63 : Int) ≤ n) && decide (n < 2 ^ 63))) = false; rw [decide_eq_true (by omega), decide_eq_true (by omega)]; rfl) ?_
  rw [if_neg (show ¬ n < 0 by omega)]
  refine bm_if_false (by rw [beq_eq_false_iff_ne]; omega) ?_
  refine bm_if_false (by show decide (n.toNat > sizeLine) = false; exact decide_eq_false (by rw [sizeLine_eq]; omega)) ?_
  refine wpAny_bind (wpAny_rule ?_)
  by_cases hn : n > 0
  · rw [if_pos hn]
    refine wpAny_bind (bar_write (s' := { s with heap := h₁ }) (b' := List.replicate n.toNat 0) ho₁ (by simp) (by simp; omega) fun h₂ ho₂ hs₂ => ?_)
    exact wpAny_pure (hQ h₂ ho₂ (hs₁.trans hs₂))
  · rw [if_neg hn]
    have : n = 0 := by omega
    subst this
    exact wpAny_pure (hQ h₁ ho₁ hs₁)
end
end Mine
end
section
namespace Mine
open PySem PySem.W PyProof.Rows PySem.Spec PySem.Calls

section
variable {prog : Program} {w : World} {A : Around} {s : Shared}

theorem c_if_false {α : Type} {M : Model} {c : Bool} {a b : Sem α} {Q : α → Shared → Prop} (hc : c = false) (h : wpC M A b Q s) : wpC M A (if c = true then a else b) Q s := by
  subst hc
  exact h
theorem c_if_true {α : Type} {M : Model} {c : Bool} {a b : Sem α} {Q : α → Shared → Prop} (hc : c = true) (h : wpC M A a Q s) : wpC M A (if c = true then a else b) Q s := by
  subst hc
  exact h

theorem codeC_builtin {id : String} {args : Args} {b : Builtin} {R : Flow → Shared → Prop} (hb : entryFor table id = some b) (hd : Dirty (.builtin id args) = false)
    (h : wpC (model prog w) (A.under (.builtin id args)) (b args) (fun fin s' => match fin with | .done f => R f s' | .again c' => c'.quiet = true ∧ codeC (model prog w) A c' R s') s) : codeC (model prog w) A (.builtin id args) R s := by
  refine codeC_of_tree ?_ hd
  show wpC _ _ (match entryFor table id with | some b => b args | none => unsupported ((withoutEnding? id "#data").getD id)) _ s
  rw [hb]; exact h

theorem call_bar {n : Int} {t : Tok} {Q : Value → Shared → Prop} (n0 : 0 ≤ n) (n1 : n ≤ 64)
    (hQ : ∀ h', h'.get? s.heap.objs.size = some (barObj (List.replicate n.toNat 0)) → Heap.SameBut s.heap.objs.size (s.heap.push (barObj [])) h' → Q (.ref s.heap.objs.size) { s with heap := h' }) :
    wpC (model prog w) A (call (.type "bytearray") [.int n t]) Q s := by
  refine wpC_call (codeC_of_tree ?_)
  show wpC _ _ (callAny (.type "bytearray") _) _ s
  refine wpC_of (wpAny_pure ⟨Code.quiet_builtin _ (by decide +kernel), codeC_builtin F.entry_type_call (by rfl) ?_⟩)
  rw [Around.under_plain (weight_type_call_type "bytearray" [.int n t] []) rfl]
  unfold Builtin.«type.__call__»
  refine c_if_false FB2.called_bar.notType ?_
  refine c_if_false FB2.called_bar.canCreate ?_
  show wpC _ _ (checkTypeCall "bytearray" ⟨[.int n t], []⟩ >>= _) _ _
  rw [FB2.typeCall_bar]
  refine wpC_bind (wpC_pure ?_)
  show wpC _ _ (mroOf (.type "bytearray") >>= _) _ _
  rw [FB2.mro_bar]
  refine wpC_bind (wpC_pure ?_)
  refine c_if_false rfl ?_
  show wpC _ _ (Bind.madeBy (.type "bytearray") >>= _) _ _
  rw [FB2.called_bar.made]
  refine wpC_bind (wpC_pure ?_)
  refine wpC_bind (wpC_pure ?_)
  refine wpC_bind (wpC_holding (wpC_of ?_))
  refine wpAny_call (code_bar_new (.int n t) ?_)
  have hT : ({ s with heap := s.heap.push (barObj []) } : Shared).TypeIs (.ref s.heap.objs.size) "bytearray" := ⟨_, Heap.get?_push_size _ rfl, rfl⟩
  refine wpC_bind (wpC_of (wpAny_isInstance hT FB2.bar_sub ?_))
  refine c_if_false rfl ?_
  refine wpC_bind (wpC_holding ?_)
  unfold callSpecial?
  refine wpC_bind (wpC_of (wpAny_specialOf hT FB2.slot_bar_init.lookup ?_))
  show wpC _ _ (holding _ (do let (g, first) ← bindSpecial (.builtin "bytearray.__init__") (.ref s.heap.objs.size); let r ← call g (first ++ [.int n t]) []; pure (some r))) _ _
  rw [FB2.slot_bar_init.bind]
  refine wpC_holding (wpC_bind (wpC_pure ?_))
  refine wpC_bind (wpC_call (codeC_of_tree ?_))
  show wpC _ _ (do checkBuiltinCall "bytearray.__init__" ⟨[.ref s.heap.objs.size, .int n t], []⟩; again (.builtin "bytearray.__init__" ⟨[.ref s.heap.objs.size, .int n t], []⟩)) _ _
  refine wpC_bind (wpC_of (FB2.slot_bar_init.check _ _ _ _ _ _ _ _ hT (FB2.args_bar_init _ _) ?_))
  refine wpC_pure ⟨plainId_quiet FB2.slot_bar_init.plain _, codeC_builtin FB2.entry_bar_init rfl ?_⟩
  refine bar_init (s := { s with heap := s.heap.push (barObj []) }) (Heap.get?_push_size _ rfl) n0 n1 fun h' ho' hs' => ?_
  refine wpC_pure ?_
  exact wpC_pure (hQ h' ho' hs')
end
end Mine
end
section
namespace Mine
open PySem PySem.W PyProof.Rows PySem.Spec PySem.Calls

section
variable {prog : Program} {w : World} {K : Frag} {b₀ : Heap} {mg mb : Str → Option Value} {tab : Nat → Option PFun} {c : Nat} {sc : Scp} {vars : List Str}

theorem ss_asgB {x y : Str} {xp yp cp pos : Pos} {e : Expr} {pe : PX} {i : Nat} (G : Glo w K b₀ gl mg mb) (hn : okName y = true) (hs : sc.lookup y = some .globalImplicit) (hg : mg y = none ∧ mb y = some (.type "bytearray")) (hst : noStar e = true)
    (hx : locOf sc vars x = some i) (h : SX prog w b₀ tab c sc vars e pe) : SS prog w b₀ tab c sc vars (.Assign [.Name x xp] (.Call (.Name y yp) [e] [] cp) pos) (.asgB i pe) := by
  intro A env L h₀ m U X T φ σ ρ s r Q C F I he k
  obtain ⟨⟨d, σ₁⟩, h1, he⟩ := bindE he
  obtain ⟨n, hd, he⟩ := bindE he
  obtain ⟨hz, he⟩ := iteE he
  obtain rfl := Option.some.inj he
  rw [exec_Assign_Name _ _ _ _ _ (swaps_plain rfl _ _ _)]
  refine wpC_bind (wpC_standAt (wpC_bind (c_Call_Name (wpC_of (name_glob G C (F.nm (X := X)) I hn hs (.inr hg) ?_)))))
  refine c_callWith (P := fun _ => True) (plain_trees (one_star hst)) (keeps_machine (by intro a ha; cases ha)) ?_
  refine c_spliced_cons hst (h C F.nm I h1 fun v h₁ t₁ T₁ φ₁ I₁ e₁ r₁ => c_spliced_nil ⟨trivial, ?_⟩)
  obtain ⟨t, rfl⟩ := (rvI hd r₁).inv
  refine call_bar (s := { s with heap := h₁, toks := t₁ }) hz.1 hz.2 fun h₂ ho hsb => ?_
  have J := ((I₁.pushX (barObj []) rfl).chgX (X₁ := []) (h' := h₂) (fun b ob hb e => hsb.extBut b ob hb e) ho).takeX
  refine wpC_bind (wpC_standAt (wpC_bind (wpC_bindName (wpC_of ?_))))
  refine storeOwn_ok (s := { s with heap := h₂, toks := t₁ }) (F.ext e₁) J hx (sl := .ob (List.replicate n.toNat 0)) (fun m' hk hm => .ob hk hm (.head _)) fun h' tk' m' I' F' => wpC_pure (k h' tk' m' _ T₁ φ₁ I' e₁ F')
end
end Mine
end
section
namespace Mine
open PySem PySem.W PyProof.Rows PySem.Spec PySem.Calls
open AutoSeq1 (wpAny_loadPart')

noncomputable abbrev tupIt (a : Addr) (i : Int) : Obj := { cls := .type "tuple_iterator", data := .fields #[.ref a, .int i 0] }
noncomputable abbrev enumObj (x : Value) (it : Addr) (i : Int) (old : Value) : Obj := { cls := .type "enumerate", data := .fields #[x, .bool false, .ref it, rawInt i, .none, old] }

set_option maxHeartbeats 1000000 in
set_option tactic.hygienic true in
theorem meets_enum_tup (l : Addr) (items : Array Value) (n : Nat) (sl : Array (Option Value)) :
    Meets (Builtin.«enumerate.__new__» ⟨[.type "enumerate", .ref l], []⟩) (fun _ R s => s.heap.get? l = some { cls := .type "tuple", dict := none, data := .seq items n, slots := sl } ∧
      R (.ok (.ret (.ref (s.heap.push (tupIt l 0)).objs.size))) { s with heap := (s.heap.push (tupIt l 0)).push (enumObj .none s.heap.objs.size 0 .none) }) :=
  .of_wp fun prog w A R s h => by
    obtain ⟨hp, g, d, tk, os⟩ := s
    obtain ⟨hl, h⟩ := h
    have hsub := sub_enumerate
    have hL : Heap.IsTuple (Shared.heap ⟨hp, g, d, tk, os⟩) l items := ⟨_, hl, rfl, n, rfl⟩
    wp_walk using wpAny_loadPart' hl
    refine wpAny_stack_any fun st => wpAny_pure ?_
    split
    · rename_i c _ _ _ _ _
      cases (c == Value.type "enumerate")
      · wp_walk using wpAny_loadPart' hl, wpAny_pyIter_tuple hL
        exact ⟨_, rfl, h⟩
      · wp_walk using wpAny_loadPart' hl, wpAny_pyIter_tuple hL
        exact ⟨_, rfl, h⟩
    · wp_walk using wpAny_loadPart' hl, wpAny_pyIter_tuple hL
      exact ⟨_, rfl, h⟩

section
variable {prog : Program} {w : World} {A : Around} {E : Value → Shared → Prop} {s : Shared}

theorem call_enum_tup {l : Addr} {items : Array Value} {n : Nat} {sl : Array (Option Value)} {Q : Value → Shared → Prop} (hl : s.heap.get? l = some { cls := .type "tuple", dict := none, data := .seq items n, slots := sl })
    (h : Q (.ref (s.heap.push (tupIt l 0)).objs.size) { s with heap := (s.heap.push (tupIt l 0)).push (enumObj .none s.heap.objs.size 0 .none) }) :
    wpAny (model prog w) A (call (.type "enumerate") [.ref l]) Q E s := by
  refine callType_new F.called_enumerate (by decide) (F.typeCall_enumerate_1 _) (F.newCall_enumerate_1 _) (fun obj => F.args_object_init_2 obj _) F.entry_enumerate_new
    (meets_enum_tup l items n sl) ⟨hl, ?_⟩
  exact ⟨⟨_, Heap.get?_push_size _ rfl, rfl⟩, h⟩

theorem nextOf_tup {it l : Addr} {i : Nat} {items : Array Value} {x : Value} {Q : Value → Shared → Prop} (hit : s.heap.get? it = some (tupIt l i)) (hl : IsTup s.heap l items) (hx : items[i]? = some x)
    (hQ : ∀ h', h'.get? it = some (tupIt l (i + 1)) → Heap.SameBut it s.heap h' → Q x { s with heap := h' }) : wpAny (model prog w) A (Builtin.SmallTypes.nextOf (.ref it)) Q E s := by
  have hT : s.TypeIs (.ref it) "tuple_iterator" := ⟨_, hit, rfl⟩
  obtain ⟨ol, hol, _, nl, hdl⟩ := hl
  unfold Builtin.SmallTypes.nextOf
  refine wpAny_bind (wpAny_callSpecial?_slot (name := Str.ofString "__next__") hT PySem.F.slot_tuple_iterator_next
    (wpAny_call_entry PySem.F.slot_tuple_iterator_next hT PySem.F.entry_tuple_iterator_next ?_ (PySem.F.args_tuple_iterator_next_1 _)))
  show wpAny _ _ (field (.ref it) 0 >>= _) _ _ s
  refine wpAny_bind (wpAny_field hit rfl (x := .ref l) rfl ?_)
  refine bm_if_false rfl ?_
  refine wpAny_bind (wpAny_field hit rfl (x := .int i 0) rfl ?_)
  refine wpAny_bind (wpAny_seqItems hol hdl ?_)
  simp only [Int.toNat_natCast, hx]
  refine wpAny_bind (wpAny_setField_rec hit (by simp) fun h' he' hs' => wpAny_pure ⟨x, rfl, wpAny_pure (hQ h' (by simpa [rawInt] using he') hs')⟩)

theorem nextOf_tup_end {it l : Addr} {i : Nat} {items : Array Value} {Q : Value → Shared → Prop} (hh : A.handled = none) (hit : s.heap.get? it = some (tupIt l i)) (hl : IsTup s.heap l items) (hx : items[i]? = none)
    (hE : ∀ h' e, Heap.ExtBut it s.heap h' → (∃ o, h'.get? e = some o ∧ o.cls = .type "StopIteration") → E (.ref e) { s with heap := h' }) : wpAny (model prog w) A (Builtin.SmallTypes.nextOf (.ref it)) Q E s := by
  have hT : s.TypeIs (.ref it) "tuple_iterator" := ⟨_, hit, rfl⟩
  obtain ⟨ol, hol, _, nl, hdl⟩ := hl
  unfold Builtin.SmallTypes.nextOf
  refine wpAny_bind (wpAny_callSpecial?_slot (name := Str.ofString "__next__") hT PySem.F.slot_tuple_iterator_next
    (wpAny_call_entry PySem.F.slot_tuple_iterator_next hT PySem.F.entry_tuple_iterator_next ?_ (PySem.F.args_tuple_iterator_next_1 _)))
  show wpAny _ _ (field (.ref it) 0 >>= _) _ _ s
  refine wpAny_bind (wpAny_field hit rfl (x := .ref l) rfl ?_)
  refine bm_if_false rfl ?_
  refine wpAny_bind (wpAny_field hit rfl (x := .int i 0) rfl ?_)
  refine wpAny_bind (wpAny_seqItems hol hdl ?_)
  simp only [Int.toNat_natCast, hx]
  refine wpAny_bind (wpAny_rule (wpAny_bind (wpAny_setField hit rfl (by simp) ?_)))
  show wpAny _ _ (newExc (.type "StopIteration") [] >>= _) _ _ _
  refine wpAny_bind ?_
  simp only [newExc, newTuple]
  refine wpAny_bind (wpAny_newObj_type ?_ (by size_fits))
  refine wpAny_bind (m := firstArgMember _ _) (wpAny_of_eq (a := Value.none) (by first | rfl | (simp only [firstArgMember]; rfl)) ?_)
  refine wpAny_newObj_type ?_ (by size_fits)
  simp only [raiseNew]
  refine wpAny_bind (wpAny_handled ?_)
  first | rw [show A.in1.handled = none from hh] | rw [hh]
  refine wpAny_bind (wpAny_pure (wpAny_throw ?_))
  exact hE _ _ (((Heap.SameBut.update ..).extBut.push _).push _) ⟨_, Heap.get?_push_size _ rfl, rfl⟩

theorem next_enum {e it l : Addr} {i : Nat} {items : Array Value} {x old : Value} {Q : Value → Shared → Prop}
    (he : IsEnum s.heap e it i old) (hit : s.heap.get? it = some (tupIt l i)) (hl : IsTup s.heap l items) (hx : items[i]? = some x) (hne : e ≠ it)
    (hQ : ∀ h', IsEnumOut h' e it ((i : Int) + 1) x s.heap.objs.size → h'.get? it = some (tupIt l ((i : Int) + 1)) →
      h'.get? s.heap.objs.size = some { cls := .type "tuple", data := .seq #[.int i s.toks, x] } → h'.objs.size = s.heap.objs.size + 1 →
      (∀ b o, b ≠ e → b ≠ it → s.heap.get? b = some o → h'.get? b = some o) → Q (.ref s.heap.objs.size) { s with heap := h', toks := s.toks + 1 }) :
    wpAny (model prog w) A (Builtin.«enumerate.__next__» ⟨[.ref e], []⟩) (fun fin s' => ∃ v, fin = .done (.ret v) ∧ Q v s') E s := by
  obtain ⟨hp, g, d, tk, os⟩ := s
  show wpAny _ _ (field (.ref e) 2 >>= _) _ _ _
  refine wpAny_bind (wpAny_field he rfl (x := .ref it) rfl ?_)
  refine wpAny_bind (nextOf_tup hit hl hx fun h₁ hit₁ hs₁ => ?_)
  replace hs₁ : Heap.SameBut it hp h₁ := hs₁
  have he₁ : IsEnum h₁ e it i old := (hs₁.2 e hne).trans he
  show wpAny _ _ (field (.ref e) 3 >>= _) _ _ ⟨h₁, g, d, tk, os⟩
  refine wpAny_bind (wpAny_field he₁ rfl (x := rawInt i) rfl ?_)
  show wpAny _ _ (field (.ref e) 4 >>= _) _ _ ⟨h₁, g, d, tk, os⟩
  refine wpAny_bind (wpAny_field he₁ rfl (x := .none) rfl ?_)
  show wpAny _ _ (mkInt i >>= _) _ _ ⟨h₁, g, d, tk, os⟩
  refine wpAny_bind (wpAny_mkInt ?_)
  show wpAny _ _ (setField (.ref e) 3 (rawInt ((i : Int) + 1)) >>= _) _ _ ⟨h₁, g, d, tk + 1, os⟩
  refine wpAny_bind (wpAny_setField_rec he₁ (by simp) fun h₂ he₂ hs₂ => ?_)
  replace hs₂ : Heap.SameBut e h₁ h₂ := hs₂
  replace he₂ : IsEnum h₂ e it ((i : Int) + 1) old := he₂
  show wpAny _ _ (setField (.ref e) 4 .none >>= _) _ _ ⟨h₂, g, d, tk + 1, os⟩
  refine wpAny_bind (wpAny_setField_rec he₂ (by simp) fun h₃ he₃ hs₃ => ?_)
  replace hs₃ : Heap.SameBut e h₂ h₃ := hs₃
  replace he₃ : IsEnum h₃ e it ((i : Int) + 1) old := he₃
  show wpAny _ _ (newTuple [.int i tk, x] >>= _) _ _ ⟨h₃, g, d, tk + 1, os⟩
  refine wpAny_bind (wpAny_newTuple ?_)
  have he₄ : IsEnum (h₃.push { cls := .type "tuple", data := .seq #[.int i tk, x] }) e it ((i : Int) + 1) old := Heap.get?_push_of_some _ he₃
  generalize hh₄ : h₃.push { cls := .type "tuple", data := .seq #[.int i tk, x] } = h₄ at he₄
  have hsz : h₃.objs.size = hp.objs.size := by rw [hs₃.1, hs₂.1, hs₁.1]
  have hel : e < hp.objs.size := Heap.lt_size he
  have ht₄ : h₄.get? hp.objs.size = some { cls := .type "tuple", data := .seq #[.int i tk, x] } := by rw [← hh₄, ← hsz]; exact Heap.get?_push_size _ rfl
  have hz₄ : h₄.objs.size = hp.objs.size + 1 := by rw [← hh₄, Heap.size_push, hsz]
  have hk₄ : ∀ b o, b ≠ e → b ≠ it → hp.get? b = some o → h₄.get? b = some o := fun b o hbe hbi hb => by
    rw [← hh₄]; exact Heap.get?_push_of_some _ (hs₃.extBut b o hbe (hs₂.extBut b o hbe (hs₁.extBut b o hbi hb)))
  have hit₄ : h₄.get? it = some (tupIt l ((i : Int) + 1)) := by
    rw [← hh₄]; exact Heap.get?_push_of_some _ (hs₃.extBut _ _ (Ne.symm hne) (hs₂.extBut _ _ (Ne.symm hne) hit₁))
  show wpAny _ _ (Builtin.SmallTypes.ownedTupleIsFree (.ref e) >>= _) _ _ ⟨h₄, g, d, tk + 1, os⟩
  rw [hsz]
  clear hh₄ he₃ hs₃ he₂ hs₂ he₁ hs₁ hit₁ hsz h₃ h₂ h₁
  refine wpAny_bind ?_
  · unfold Builtin.SmallTypes.ownedTupleIsFree
    refine wpAny_bind (wpAny_field he₄ rfl (x := .none) rfl (wpAny_pure ?_))
    simp only [if_true]
    refine wpAny_bind (wpAny_rule ?_)
    refine wpAny_bind (wpAny_field he₄ rfl (x := old) rfl ?_)
    refine wpAny_bind (wpAny_setField_rec he₄ (by simp) fun h₅ he₅ hs₅ => ?_)
    replace hs₅ : Heap.SameBut e h₄ h₅ := hs₅
    replace he₅ : IsEnum h₅ e it ((i : Int) + 1) x := he₅
    show wpAny _ _ (Builtin.SmallTypes.ownedTupleHandOut (.ref e) (.ref hp.objs.size) >>= _) _ _ ⟨h₅, g, d, tk + 1, os⟩
    refine wpAny_bind ?_
    · unfold Builtin.SmallTypes.ownedTupleHandOut
      refine wpAny_bind (wpAny_setField_rec he₅ (by simp) fun h₆ he₆ hs₆ => ?_)
      replace hs₆ : Heap.SameBut e h₅ h₆ := hs₆
      replace he₆ : IsEnumOut h₆ e it ((i : Int) + 1) x hp.objs.size := he₆
      refine wpAny_setField_rec he₆ (by simp) fun h₇ he₇ hs₇ => ?_
      replace hs₇ : Heap.SameBut e h₆ h₇ := hs₇
      replace he₇ : IsEnumOut h₇ e it ((i : Int) + 1) x hp.objs.size := he₇
      refine wpAny_bind (wpAny_letGo (wpAny_pure ⟨_, rfl, hQ h₇ he₇ ?_ ?_ ?_ ?_⟩))
      · exact hs₇.extBut _ _ (Ne.symm hne) (hs₆.extBut _ _ (Ne.symm hne) (hs₅.extBut _ _ (Ne.symm hne) hit₄))
      · exact hs₇.extBut _ _ (Nat.ne_of_gt hel) (hs₆.extBut _ _ (Nat.ne_of_gt hel) (hs₅.extBut _ _ (Nat.ne_of_gt hel) ht₄))
      · rw [hs₇.1, hs₆.1, hs₅.1, hz₄]
      · exact fun b o hbe hbi hb => hs₇.extBut b o hbe (hs₆.extBut b o hbe (hs₅.extBut b o hbe (hk₄ b o hbe hbi hb)))

theorem pyNext_enum {e it l : Addr} {i : Nat} {items : Array Value} {x old : Value} {Q : Option Value → Shared → Prop}
    (he : IsEnum s.heap e it i old) (hit : s.heap.get? it = some (tupIt l i)) (hl : IsTup s.heap l items) (hx : items[i]? = some x) (hne : e ≠ it)
    (hQ : ∀ h', IsEnumOut h' e it ((i : Int) + 1) x s.heap.objs.size → h'.get? it = some (tupIt l ((i : Int) + 1)) →
      h'.get? s.heap.objs.size = some { cls := .type "tuple", data := .seq #[.int i s.toks, x] } → h'.objs.size = s.heap.objs.size + 1 →
      (∀ b o, b ≠ e → b ≠ it → s.heap.get? b = some o → h'.get? b = some o) → Q (some (.ref s.heap.objs.size)) { s with heap := h', toks := s.toks + 1 }) :
    wpAny (model prog w) A (pyNext (.ref e)) Q E s := by
  have hT : s.TypeIs (.ref e) "enumerate" := ⟨_, he, rfl⟩
  unfold pyNext
  exact wpAny_bind (wpAny_attempt (wpAny_callSpecial?_slot (name := Str.ofString "__next__") hT PySem.F.slot_enumerate_next
    (wpAny_call_entry PySem.F.slot_enumerate_next hT PySem.F.entry_enumerate_next
      (next_enum he hit hl hx hne fun h' a b c d k => wpAny_pure (hQ h' a b c d k)) (PySem.F.args_enumerate_next_1 _))))

theorem pyNext_enum_end {e it l : Addr} {i : Nat} {items : Array Value} {old : Value} {Q : Option Value → Shared → Prop} (hh : A.handled = none)
    (he : IsEnum s.heap e it i old) (hit : s.heap.get? it = some (tupIt l i)) (hl : IsTup s.heap l items) (hx : items[i]? = none)
    (hQ : ∀ h', Heap.ExtBut it s.heap h' → Q none { s with heap := h' }) : wpAny (model prog w) A (pyNext (.ref e)) Q E s := by
  have hT : s.TypeIs (.ref e) "enumerate" := ⟨_, he, rfl⟩
  unfold pyNext
  refine wpAny_bind (wpAny_attempt (wpAny_callSpecial?_slot (name := Str.ofString "__next__") hT PySem.F.slot_enumerate_next
    (wpAny_call_entry PySem.F.slot_enumerate_next hT PySem.F.entry_enumerate_next ?_ (PySem.F.args_enumerate_next_1 _))))
  show wpAny _ _ (field (.ref e) 2 >>= _) _ _ _
  refine wpAny_bind (wpAny_field he rfl (x := .ref it) rfl ?_)
  refine wpAny_bind (nextOf_tup_end hh hit hl hx fun h' x he' hx' => ?_)
  obtain ⟨o, ho, hc⟩ := hx'
  refine wpAny_bind (wpAny_isInstance (T := "StopIteration") (b := true) ⟨o, ho, hc⟩ isSubtype_stop ?_)
  exact wpAny_pure (hQ _ he')
end
end Mine
end
section
namespace Mine
open PySem PySem.W PyProof.Rows PySem.Spec PySem.Calls

noncomputable abbrev enObj (it : Addr) (i : Int) (old : Value) : Obj := { cls := .type "enumerate", dict := none, data := .fields #[.none, .bool false, .ref it, rawInt i, .none, old], slots := #[] }

section
variable {w : World} {b₀ h₀ h h' : Heap} {L : Addr} {m : Str → Option Value} {φ : List Addr} {σ : St} {U X T : Led}

theorem Inv.chg2 {e i : Addr} {oe oi oe' oi' : Obj} (I : Inv w b₀ h₀ L m φ σ U ((e, oe) :: (i, oi) :: X) T h) (hf : oe'.isFreed = false) (hk : ∀ b ob, b ≠ e → b ≠ i → h.get? b = some ob → h'.get? b = some ob)
    (he : h'.get? e = some oe') (hi : h'.get? i = some oi') (hne : e ≠ i) : Inv w b₀ h₀ L m φ σ U ((e, oe') :: (i, oi') :: X) T h' := by
  have ge : h.get? e = some oe := I.get (p := (e, oe)) (by simp)
  have gi : h.get? i = some oi := I.get (p := (i, oi)) (by simp)
  have J := I.chgX (X₁ := []) (h' := h.update e fun _ => oe') (fun b ob hb eb => Heap.get?_update_of_ne _ (Ne.symm hb) eb) (Heap.get?_update_self _ ge hf)
  refine Inv.chgX (X₁ := [(e, oe')]) J (fun b ob hb eb => ?_) hi
  by_cases hbe : b = e
  · subst hbe
    rw [Heap.get?_update_self _ ge hf] at eb
    cases eb; exact he
  · rw [Heap.get?_update_ne _ _ _ _ hbe] at eb
    exact hk b ob hbe hb eb
end

section
variable {prog : Program} {w : World} {K : Frag} {b₀ : Heap} {mg mb : Str → Option Value} {tab : Nat → Option PFun} {c : Nat} {sc : Scp} {vars : List Str}

theorem zip_drop (vs : List PV) (i : Nat) {v : PV} (h : vs[i]? = some v) :
    ((vs.zipIdx.map fun z => PV.tup [.int (z.2 : Int), z.1]).drop i) = .tup [.int (i : Int), v] :: ((vs.zipIdx.map fun z => PV.tup [.int (z.2 : Int), z.1]).drop (i + 1)) := by
  have hlt : i < vs.length := (List.getElem?_eq_some_iff.mp h).1
  have hl : (vs.zipIdx.map fun z => PV.tup [.int (z.2 : Int), z.1]).length = vs.length := by simp
  rw [List.drop_eq_getElem_cons (by rw [hl]; exact hlt)]
  congr 1
  have := (List.getElem?_eq_some_iff.mp h).2
  simp [this]

theorem ss_forE {ts : List Expr} {kd : Nat} {tp pos zp cp : Pos} {z : Str} {e : Expr} {body : List Stmt} {pe : PX} {pb : PSs} {i j : Nat} (G : Glo w K b₀ gl mg mb) (hz : okName z = true) (hs : sc.lookup z = some .globalImplicit)
    (hg : mg z = none ∧ mb z = some (.type "enumerate")) (hst : noStar e = true) (hn : namesOf sc vars ts = some [i, j]) (hi : SX prog w b₀ tab c sc vars e pe) (hb : SSs prog w b₀ tab c sc vars body pb) :
    SS prog w b₀ tab c sc vars (.For (.Tuple ts kd tp) (.Call (.Name z zp) [e] [] cp) body [] pos) (.forE i j pe pb) := by
  intro A env L h₀ m U X T φ σ ρ s r Q C F I he k
  obtain ⟨⟨d, σ₁⟩, h1, he⟩ := bindE he
  obtain ⟨vs, hd, he⟩ := bindE he
  obtain ⟨f, he, hfd⟩ : ∃ f : PV → List Slot → St → Option XR, forS f (vs.zipIdx.map fun z => PV.tup [.int (z.2 : Int), z.1]) ρ σ₁ = some r ∧ ∀ a b ρ σ, f (.tup [a, b]) ρ σ = xss (callF tab c) pb ((ρ.set i (.val a)).set j (.val b)) σ := ⟨_, he, fun _ _ _ _ => rfl⟩
  refine c_For (by rfl) (c_Call_Name (wpC_of (name_glob G C (F.nm (X := X)) I hz hs (.inr hg) ?_)))
  refine c_callWith (P := fun _ => True) (plain_trees (one_star hst)) (keeps_machine (by intro a ha; cases ha)) ?_
  refine c_spliced_cons hst (hi C F.nm I h1 fun v h₁ t₁ T₁ φ₁ I₁ e₁ r₁ => c_spliced_nil ⟨trivial, wpC_of ?_⟩)
  obtain ⟨l, ol, us, n, rfl, io, cc, hd, rs⟩ := (rvT hd r₁).inv
  obtain ⟨oc, od, odt, osl⟩ := ol
  obtain ⟨rfl, rfl⟩ := cc
  dsimp only at hd; subst hd
  have hlg := I₁.getO C.stay io
  refine call_enum_tup (s := { s with heap := h₁, toks := t₁ }) hlg ?_
  have J₀ := (I₁.pushX (tupIt l 0) rfl).pushX (enumObj .none h₁.objs.size 0 .none) rfl
  have hsz : (h₁.push (tupIt l 0)).objs.size = h₁.objs.size + 1 := Heap.size_push ..
  rw [hsz] at J₀ ⊢
  generalize hh₂ : (h₁.push (tupIt l 0)).push (enumObj .none h₁.objs.size 0 .none) = h₂ at J₀
  generalize hIt : h₁.objs.size = it at J₀
  have hne : it + 1 ≠ it := by omega
  refine wpC_of (wpAny_pyIter_enum (s := { s with heap := h₂, toks := t₁ }) (J₀.get (p := (it + 1, enObj it 0 .none)) (by simp)) ?_)
  refine codeC_forLoop vs.length (LoopI w b₀ h₀ L (fun i (old : Value) => (it + 1, enObj it (i : Int) old) :: (it, tupIt l (i : Int)) :: X) T₁ φ₁ sc vars env s (fun _ _ => True) fun i ρ σ => forS f ((vs.zipIdx.map fun z => PV.tup [.int (z.2 : Int), z.1]).drop i) ρ σ = some r) ?_ 0 (Nat.zero_le _)
    (.mk h₂ t₁ m U T₁ φ₁ ρ σ₁ .none trivial J₀ .refl (F.ext e₁) he)
  clear J₀ hh₂ h₂ hlg hIt hsz
  rintro q s' hile ⟨h', tk', m', U', T', φ', ρ', σ', old, _, I', e', F', he'⟩
  have hlg : IsTup h' l us.toArray := ⟨_, I'.getO C.stay (io.mono e'.1), rfl, _, rfl⟩
  have heg : IsEnum h' (it + 1) it (q : Int) old := I'.get (p := (it + 1, enObj it (q : Int) old)) (by simp)
  have hig : h'.get? it = some (tupIt l (q : Int)) := I'.get (p := (it, tupIt l (q : Int))) (by simp)
  by_cases hlt : q < vs.length
  · obtain ⟨du, hdu⟩ : ∃ du, vs[q]? = some du := ⟨vs[q], List.getElem?_eq_getElem hlt⟩
    obtain ⟨u, hu, ru⟩ := rs.get hdu
    rw [zip_drop vs q hdu] at he'
    obtain ⟨r₁, hx, he'⟩ := bindE he'
    refine pyNext_enum (s := { s with heap := h', toks := tk' }) heg hig hlg (x := u) (by simpa using hu) hne fun h₃ heo hit₃ ht₃ hz₃ hk₃ => ?_
    refine wpC_of (wpAny_letOwnedTupleGo_enum (s := { s with heap := h₃, toks := tk' + 1 }) heo fun h₄ he₄ hs₄ => ?_)
    replace hs₄ : Heap.SameBut (it + 1) h₃ h₄ := hs₄
    have I₁' := I'.alloc { cls := .type "tuple", data := .seq #[.int q tk', u] } rfl
    have heH : it + 1 < h'.objs.size := Heap.lt_size heg
    have hiH : it < h'.objs.size := Heap.lt_size hig
    have I₂' := I₁'.chg2 (h' := h₄) (oe' := enObj it ((q : Int) + 1) u) (oi' := tupIt l ((q : Int) + 1)) rfl (fun b ob hbe hbi eb => ?_) he₄ (hs₄.extBut _ _ (Ne.symm hne) hit₃) hne
    · have rv : Rv w b₀ ((h'.objs.size, ({ cls := .type "tuple", data := .seq #[.int q tk', u] } : Obj)) :: T') φ' (.ref h'.objs.size) (.tup [.int q, du]) :=
        .tup (.inl (.head _)) ⟨rfl, rfl⟩ (n := 0) (vs := [.int q tk', u]) rfl (.cons (.int _ _) (.cons (Ext.alloc.rv (e'.rv ru)) .nil))
      refine unpack_ok (s := { s with heap := h₄, toks := tk' + 1 }) C.hh C.stay hn rv rfl (F'.ext Ext.alloc) I₂' fun h₅ t₅ m₅ U₅ I₅ F₅ => ?_
      rw [hfd] at hx
      have hset : setAll ρ' [i, j] (([.int q, du] : List PV).map .val) = (ρ'.set i (.val (.int q))).set j (.val du) := rfl
      rw [hset] at F₅
      refine hb (s := { s with heap := h₅, toks := t₅ }) C F₅ I₅ hx ?_
      cases r₁ with
      | nxt ρ₆ σ₆ =>
        intro h₆ t₆ m₆ U₆ T₆ φ₆ I₆ e₆ F₆
        exact ⟨hlt, .mk h₆ t₆ m₆ U₆ T₆ φ₆ ρ₆ σ₆ u trivial I₆ (e'.trans (Ext.alloc.trans e₆)) F₆ he'⟩
      | ret dd σ₆ =>
        obtain rfl := Option.some.inj he'
        exact fun v h₆ t₆ m₆ U₆ T₆ φ₆ I₆ e₆ r₆ => k v h₆ t₆ m₆ U₆ T₆ φ₆ (Inv.dropX (X' := [(it + 1, enObj it ((q : Int) + 1) u), (it, tupIt l ((q : Int) + 1))]) I₆) (e₁.trans (e'.trans (Ext.alloc.trans e₆))) r₆
    · by_cases hbn : b = h'.objs.size
      · subst hbn
        rw [Heap.get?_push_size _ rfl] at eb
        cases eb
        exact hs₄.extBut _ _ (Nat.ne_of_gt heH) ht₃
      · rw [Heap.get?_push_ne _ _ _ hbn] at eb
        exact hs₄.extBut _ _ hbe (hk₃ b ob hbe hbi eb)
  · obtain rfl : q = vs.length := Nat.le_antisymm hile (Nat.not_lt.mp hlt)
    rw [List.drop_eq_nil_of_le (by simp)] at he'
    obtain rfl := Option.some.inj he'
    refine pyNext_enum_end (s := { s with heap := h', toks := tk' }) C.hh heg hig hlg (by simp [rs.length]) fun h₃ hk₃ => ?_
    exact k h₃ tk' m' U' T' φ' (Inv.dropX (X' := [(it + 1, enObj it (vs.length : Int) old)]) (Inv.dropAt (X₁ := [(it + 1, enObj it (vs.length : Int) old)]) (h' := h₃) I' fun b ob hb e => hk₃ b ob hb e)) (e₁.trans e') F'
end
end Mine
end
section
namespace Mine
open PySem PySem.W PyProof.Rows PySem.Spec PySem.Calls

section
variable {prog : Program} {w : World} {K : Frag} {b₀ : Heap} {mg mb : Str → Option Value} {tab : Nat → Option PFun} {c : Nat} {sc : Scp} {vars : List Str}

theorem swaps_noTup {ts : List Expr} {kd : Nat} {tp : Pos} {e : Expr} (h : noTup e = true) (env : Env) : swappedStores [.Tuple ts kd tp] e env = pure none := by
  cases e <;> first | rfl | exact absurd h Bool.false_ne_true

theorem ownCall_eq {e : Expr} {t : Str × Str × Expr} (h : ownCall e = some t) : ∃ xp q r, e = .Call (.Attribute (.Name t.1 xp) t.2.1 q) [t.2.2] [] r ∧ (q.endLine == r.line) = true := by
  cases e with
  | Call f as ks r =>
    cases f with
    | Attribute o m q =>
      obtain ⟨⟨h1, h2⟩, h⟩ := iteE h
      obtain ⟨a, h3, h⟩ := bindE h
      obtain ⟨x, h4, h⟩ := mapE h
      obtain ⟨xp, h5⟩ := nameOf_eq h4
      obtain h6 := one_eq h3
      obtain h7 := List.isEmpty_iff.mp h1
      obtain rfl := h
      exact ⟨xp, q, r, by rw [h5, h6, h7], h2⟩
    | _ => exact no h
  | _ => exact no h
theorem listOfE_eq {e : Expr} {es : List Expr} (h : listOfE e = some es) : ∃ p, e = .List es p := by
  cases e <;> first | exact no h | exact ⟨_, congrArg (Expr.List · _) (Option.some.inj h)⟩
theorem globCall_eq {e : Expr} {p : GR × Expr} (h : globCall gl sc e = some p) : ∃ x xp r, e = .Call (.Name x xp) [p.2] [] r ∧ okName x = true ∧ globOf gl sc x = some p.1 := by
  cases e with
  | Call f as ks r =>
    obtain ⟨h1, h⟩ := iteE h
    obtain ⟨a, h2, h⟩ := bindE h
    obtain ⟨x, h3, h⟩ := bindE h
    obtain ⟨h4, h⟩ := iteE h
    obtain ⟨g, h5, h⟩ := mapE h
    obtain ⟨xp, h6⟩ := nameOf_eq h3
    obtain h7 := one_eq h2
    obtain h8 := List.isEmpty_iff.mp h1
    obtain rfl := h
    exact ⟨x, xp, r, by rw [h6, h7, h8], h4, h5⟩
  | _ => exact no h
theorem baOf_eq {e a : Expr} (h : baOf gl sc e = some a) : ∃ x xp r, e = .Call (.Name x xp) [a] [] r ∧ okName x = true ∧ globOf gl sc x = some .ba := by
  obtain ⟨⟨g, b⟩, h1, h⟩ := bindE h
  obtain ⟨x, xp, r, h2, h3, h4⟩ := globCall_eq h1
  cases g <;> first | exact no h | skip
  obtain rfl := Option.some.inj h
  exact ⟨x, xp, r, h2, h3, h4⟩
theorem enOf_eq {e a : Expr} (h : enOf gl sc e = some a) : ∃ x xp r, e = .Call (.Name x xp) [a] [] r ∧ okName x = true ∧ globOf gl sc x = some .en := by
  obtain ⟨⟨g, b⟩, h1, h⟩ := bindE h
  obtain ⟨x, xp, r, h2, h3, h4⟩ := globCall_eq h1
  cases g <;> first | exact no h | skip
  obtain rfl := Option.some.inj h
  exact ⟨x, xp, r, h2, h3, h4⟩
theorem nilLast_eq {vs : List Expr} {e : Expr} (h : nilLast vs = some e) : ∃ p, vs = [e, .List [] p] := by
  obtain ⟨p, h1, h⟩ := bindE h
  obtain ⟨es, h2, h⟩ := bindE h
  obtain ⟨h3, h⟩ := iteE h
  obtain ⟨q, h4⟩ := listOfE_eq h2
  obtain h5 := List.isEmpty_iff.mp h3
  obtain rfl := Option.some.inj h
  exact ⟨q, by rw [two_eq h1, h4, h5]⟩
theorem attrLast_eq {ts : List Expr} {t : Str × Str × Str} (h : attrLast ts = some t) : ∃ xp op ap, ts = [.Name t.1 xp, .Attribute (.Name t.2.1 op) t.2.2 ap] := by
  obtain ⟨⟨a, b⟩, h1, h⟩ := bindE h
  obtain ⟨x, h2, h⟩ := bindE h
  obtain ⟨xp, h3⟩ := nameOf_eq h2
  cases b <;> first | exact no h | skip
  obtain ⟨y, h4, h⟩ := mapE h
  obtain ⟨op, h5⟩ := nameOf_eq h4
  obtain rfl := h
  dsimp only at h3 h5
  exact ⟨xp, op, _, by rw [two_eq h1, h3, h5]⟩
theorem isAdd_eq {o : Operator} (h : isAdd o = true) : o = .Add := by
  cases o <;> first | rfl | exact nomatch h

section
variable (ih : CEok prog w b₀ tab c (cxE gl)) {pos : Pos} {ps : PS}
include ih
theorem so_plain {e : Expr} (h : csPlain gl sc vars e = some ps) : SS prog w b₀ tab c sc vars (.Expr e pos) ps := by
  obtain ⟨hl, h⟩ := iteE h
  obtain ⟨px, h1, rfl⟩ := mapE h
  exact ss_expr hl (ih.x h1)
theorem so_expr {e : Expr} (h : csExpr gl sc vars e = some ps) : SS prog w b₀ tab c sc vars (.Expr e pos) ps := by
  unfold csExpr at h
  revert h
  cases ho : ownCall e with
  | none => exact fun h => so_plain ih h
  | some t =>
    intro h
    rcases Decidable.em (t.2.1 = Str.ofString "append") with hj | hj
    · obtain h := (if_pos hj).symm.trans h
      obtain ⟨h1, h⟩ := iteE h
      obtain ⟨i, h2, h⟩ := bindE h
      obtain ⟨px, h3, rfl⟩ := mapE h
      obtain ⟨xp, q, r, he, hl⟩ := ownCall_eq ho
      rw [he, hj]
      exact ss_app h1 hl h2 (ih.st h3) (ih.x h3)
    · obtain h := (if_neg hj).symm.trans h
      rcases Decidable.em (t.2.1 = Str.ofString "extend") with hk | hk
      · obtain h := (if_pos hk).symm.trans h
        obtain ⟨h1, h⟩ := iteE h
        obtain ⟨es, h2, h⟩ := bindE h
        obtain ⟨h3, h⟩ := iteE h
        obtain ⟨i, h4, h⟩ := bindE h
        obtain ⟨pxs, h5, rfl⟩ := mapE h
        obtain ⟨xp, q, r, he, hl⟩ := ownCall_eq ho
        obtain ⟨p, hp⟩ := listOfE_eq h2
        rw [he, hk, hp]
        exact ss_ext h1 hl h4 h3 (ih.xs h5)
      · obtain h := (if_neg hk).symm.trans h
        exact so_plain ih h
theorem so_list {x : Str} {xp lp : Pos} {es : List Expr} (h : csList gl sc vars x es = some ps) : SS prog w b₀ tab c sc vars (.Assign [.Name x xp] (.List es lp) pos) ps := by
  obtain ⟨hl, h⟩ := iteE h
  rcases Decidable.em (sc.lookup x = some .cell) with hk | hk
  · obtain h := (if_pos hk).symm.trans h
    obtain ⟨i, h1, h⟩ := bindE h
    obtain ⟨pxs, h2, rfl⟩ := mapE h
    exact ss_newbox hl h1 (ih.xs h2)
  · obtain h := (if_neg hk).symm.trans h
    obtain ⟨i, h1, h⟩ := bindE h
    obtain ⟨pxs, h2, rfl⟩ := mapE h
    exact ss_asgL hl h1 (ih.xs h2)
theorem so_comp {y : Str} {yp q : Pos} {elt : Expr} {gens : List Comprehension} {scope : Scope} (h : csComp gl sc vars y yp elt gens scope q = some ps) : SS prog w b₀ tab c sc vars (.Assign [.Name y yp] (.ListComp elt gens scope q) pos) ps := by
  obtain ⟨g, h1, h⟩ := bindE h
  obtain ⟨⟨hS, hl, hn⟩, h⟩ := iteE h
  obtain ⟨i, h2, h⟩ := bindE h
  obtain ⟨pa, h3, h⟩ := bindE h
  obtain ⟨pb, h4, rfl⟩ := mapE h
  obtain ⟨p, hg⟩ := genOf_eq h1
  rw [hg]
  exact ss_asgC (ih.s h4) hS h2 hl (Option.isNone_iff_eq_none.mp hn) (ih.x h3) (ih.x h4)
theorem so_val (G : Glo w K b₀ gl mg mb) {x : Str} {xp : Pos} {e : Expr} (h : csVal gl sc vars x e = some ps) : SS prog w b₀ tab c sc vars (.Assign [.Name x xp] e pos) ps := by
  unfold csVal at h
  revert h
  cases hb : baOf gl sc e with
  | some a =>
    intro h
    obtain ⟨i, h1, h⟩ := bindE h
    obtain ⟨pa, h2, rfl⟩ := mapE h
    obtain ⟨y, yp, r, he, hok, hg⟩ := baOf_eq hb
    obtain ⟨g1, g2⟩ := glob_of hg
    rw [he]
    exact ss_asgB G hok g1 (G.names _ _ g2) (ih.st h2) h1 (ih.x h2)
  | none =>
    intro h
    obtain ⟨hl, h⟩ := iteE h
    obtain ⟨i, h1, h⟩ := bindE h
    obtain ⟨pe, h2, rfl⟩ := mapE h
    exact ss_asg hl h1 (ih.x h2)
theorem so_asgN (G : Glo w K b₀ gl mg mb) {x : Str} {xp : Pos} {e : Expr} (h : csName gl sc vars x xp e = some ps) : SS prog w b₀ tab c sc vars (.Assign [.Name x xp] e pos) ps := by
  cases e with
  | List => exact so_list ih h
  | ListComp => exact so_comp ih h
  | _ => exact @so_val prog w K b₀ mg mb tab c sc vars ih pos ps G x xp _ h
theorem so_tt {ts vs : List Expr} {k1 k2 : Nat} {p1 p2 : Pos} (h : csTT gl sc vars ts vs = some ps) : SS prog w b₀ tab c sc vars (.Assign [.Tuple ts k1 p1] (.Tuple vs k2 p2) pos) ps := by
  obtain ⟨ho, h⟩ := iteE h
  obtain ⟨is, h1, h⟩ := bindE h
  revert h
  cases hn : nilLast vs with
  | some e =>
    intro h
    obtain ⟨p, h2, h⟩ := bindE h
    obtain ⟨pe, h3, rfl⟩ := mapE h
    obtain ⟨q, hv⟩ := nilLast_eq hn
    rw [two_eq h2] at h1
    obtain ⟨x, xp, i, is', ht, hx, hn', hi⟩ : ∃ x p' i is', ts = .Name x p' :: ts.tail ∧ locOf sc vars x = some i ∧ namesOf sc vars ts.tail = some is' ∧ [p.1, p.2] = i :: is' := by
      cases ts with
      | nil => exact nomatch Option.some.inj h1
      | cons t ts =>
        obtain ⟨x, p', i, is', a, b, c, d⟩ := names_cons h1
        exact ⟨x, p', i, is', by rw [a]; rfl, b, c, d⟩
    obtain ⟨y, yp, ht2⟩ : ∃ y yp, ts = [.Name x xp, .Name y yp] := by
      rw [(List.cons.inj hi).2.symm] at hn'
      revert hn' ht
      cases ts with
      | nil => exact fun h _ => nomatch h
      | cons t ts =>
        cases ts with
        | nil => exact fun _ h => nomatch Option.some.inj h
        | cons t2 ts =>
          intro ht hn'
          obtain ⟨y, yp, j, js, a, b, c, d⟩ := names_cons hn'
          rw [(List.cons.inj d).2.symm] at c
          cases ts with
          | nil => exact ⟨y, yp, by rw [a] at ht ⊢; exact ht⟩
          | cons t3 ts =>
            obtain ⟨_, _, _, _, _, _, _, d⟩ := names_cons c
            exact nomatch d
    rw [ht2] at ho h1 ⊢
    rw [hv] at ho ⊢
    exact ss_asgTo ho h1 (ih.st h3) (ih.x h3)
  | none =>
    intro h
    obtain ⟨pxs, h2, rfl⟩ := mapE h
    exact ss_asgT ho h1 (ih.xs h2)
theorem so_tv (G : Glo w K b₀ gl mg mb) (KR : KRd K) {ts : List Expr} {e : Expr} {k1 : Nat} {p1 : Pos} (h : csTV gl sc vars ts e = some ps) : SS prog w b₀ tab c sc vars (.Assign [.Tuple ts k1 p1] e pos) ps := by
  obtain ⟨⟨hl, ht⟩, h⟩ := iteE h
  revert h
  cases ha : attrLast ts with
  | some t =>
    intro h
    obtain ⟨hok, h⟩ := iteE h
    obtain ⟨i, h1, h⟩ := bindE h
    obtain ⟨j, h2, h⟩ := bindE h
    obtain ⟨f, h3, h⟩ := bindE h
    obtain ⟨pe, h4, rfl⟩ := mapE h
    obtain ⟨xp, op, ap, hts⟩ := attrLast_eq ha
    rw [hts]
    exact ss_unpA KR G.KX hl (fun env => swaps_noTup ht env) h1 hok h2 h3 (ih.x h4)
  | none =>
    intro h
    obtain ⟨is, h1, h⟩ := bindE h
    obtain ⟨pe, h2, rfl⟩ := mapE h
    exact ss_unp hl (fun env => swaps_noTup ht env) h1 (ih.x h2)
theorem so_tup (G : Glo w K b₀ gl mg mb) (KR : KRd K) {ts : List Expr} {e : Expr} {k1 : Nat} {p1 : Pos} (h : csTup gl sc vars ts e = some ps) : SS prog w b₀ tab c sc vars (.Assign [.Tuple ts k1 p1] e pos) ps := by
  cases e with
  | Tuple => exact so_tt ih h
  | _ => exact @so_tv prog w K b₀ mg mb tab c sc vars ih pos ps G KR ts _ k1 p1 h
theorem so_asg (G : Glo w K b₀ gl mg mb) (KR : KRd K) {t e : Expr} (h : csAsg gl sc vars t e = some ps) : SS prog w b₀ tab c sc vars (.Assign [t] e pos) ps := by
  cases t with
  | Name => exact so_asgN ih G h
  | Tuple => exact so_tup ih G KR h
  | Subscript o i sp =>
    obtain ⟨x, h0, h⟩ := bindE h
    obtain ⟨⟨hok, hl⟩, h⟩ := iteE h
    obtain ⟨k, h1, h⟩ := bindE h
    obtain ⟨pi, h2, h⟩ := bindE h
    obtain ⟨pe, h3, rfl⟩ := mapE h
    obtain ⟨p, hp⟩ := nameOf_eq h0
    rw [hp]
    exact ss_setI hl hok h1 (ih.x h2) (ih.x h3)
  | Attribute o m sp =>
    obtain ⟨x, h0, h⟩ := bindE h
    obtain ⟨⟨hok, hl⟩, h⟩ := iteE h
    obtain ⟨k, h1, h⟩ := bindE h
    obtain ⟨f, h2, h⟩ := bindE h
    obtain ⟨pe, h3, rfl⟩ := mapE h
    obtain ⟨p, hp⟩ := nameOf_eq h0
    rw [hp]
    exact ss_setA KR G.KX hl hok h2 h1 (ih.x h3)
  | _ => exact no h
theorem so_aug (G : Glo w K b₀ gl mg mb) (KR : KRd K) {t e : Expr} (h : csAug gl sc vars t e = some ps) : SS prog w b₀ tab c sc vars (.AugAssign t .Add e pos) ps := by
  cases t with
  | Name x p =>
    obtain ⟨hok, h⟩ := iteE h
    obtain ⟨k, h1, h⟩ := bindE h
    obtain ⟨pe, h3, rfl⟩ := mapE h
    exact ss_augN hok h1 (ih.x h3)
  | Attribute o m sp =>
    obtain ⟨x, h0, h⟩ := bindE h
    obtain ⟨hok, h⟩ := iteE h
    obtain ⟨k, h1, h⟩ := bindE h
    obtain ⟨f, h2, h⟩ := bindE h
    obtain ⟨pe, h3, rfl⟩ := mapE h
    obtain ⟨p, hp⟩ := nameOf_eq h0
    rw [hp]
    exact ss_augA KR G.KX hok h2 h1 (ih.x h3)
  | _ => exact no h
theorem so_for (G : Glo w K b₀ gl mg mb) {t it : Expr} {body : List Stmt} {b : PSs} (hb : SSs prog w b₀ tab c sc vars body b) (h : csFor gl sc vars t it b = some ps) : SS prog w b₀ tab c sc vars (.For t it body [] pos) ps := by
  cases t with
  | Name x p =>
    obtain ⟨i, h1, h⟩ := bindE h
    obtain ⟨px, h2, rfl⟩ := mapE h
    exact ss_for1 (ih.s h2) h1 (ih.x h2) hb
  | Tuple ts k p =>
    obtain ⟨is, h1, h⟩ := bindE h
    obtain ⟨q, h2, h⟩ := bindE h
    rw [two_eq h2] at h1
    revert h
    cases he : enOf gl sc it with
    | some e =>
      intro h
      obtain ⟨px, h3, rfl⟩ := mapE h
      obtain ⟨y, yp, r, hi, hok, hg⟩ := enOf_eq he
      obtain ⟨g1, g2⟩ := glob_of hg
      rw [hi]
      exact ss_forE G hok g1 (G.names _ _ g2) (ih.st h3) h1 (ih.x h3) hb
    | none =>
      intro h
      obtain ⟨px, h3, rfl⟩ := mapE h
      exact ss_forT (ih.s h3) h1 (ih.x h3) hb
  | _ => exact no h
theorem so_list' {cs : Stmt → Option PS} (hc : ∀ st ps, cs st = some ps → SS prog w b₀ tab c sc vars st ps) : ∀ {sts : List Stmt} {pss : PSs}, cssM cs sts = some pss → SSs prog w b₀ tab c sc vars sts pss
  | [], _, h => by obtain rfl := Option.some.inj h; exact ss_nil
  | st :: sts, _, h => by
    obtain ⟨p, h1, h⟩ := bindE h
    obtain ⟨r, h2, rfl⟩ := mapE h
    exact ss_cons (hc _ _ h1) (so_list' hc h2)
theorem so_stmt (G : Glo w K b₀ gl mg mb) (KR : KRd K) {f : List Stmt → Option PSs} (hf : ∀ sts pss, f sts = some pss → SSs prog w b₀ tab c sc vars sts pss) : ∀ st ps, csF gl sc vars f st = some ps → SS prog w b₀ tab c sc vars st ps := by
  intro st ps h
  cases st with
  | Expr => exact so_expr ih h
  | Assign ts e pos =>
    obtain ⟨t, h1, h⟩ := bindE h
    rw [one_eq h1]
    exact so_asg ih G KR h
  | AugAssign t o e pos =>
    obtain ⟨h1, h⟩ := iteE h
    rw [isAdd_eq h1]
    exact so_aug ih G KR h
  | If t a b pos =>
    obtain ⟨pt, h1, h⟩ := bindE h
    obtain ⟨pa, h2, h⟩ := bindE h
    obtain ⟨pb, h3, rfl⟩ := mapE h
    exact ss_if (ih.b h1) (hf _ _ h2) (hf _ _ h3)
  | For t it body orelse pos =>
    obtain ⟨h1, h⟩ := iteE h
    obtain ⟨pb, h2, h⟩ := bindE h
    rw [List.isEmpty_iff.mp h1]
    exact so_for ih G (hf _ _ h2) h
  | While t body orelse pos =>
    obtain ⟨h1, h⟩ := iteE h
    obtain ⟨pt, h2, h⟩ := bindE h
    obtain ⟨pb, h3, rfl⟩ := mapE h
    rw [List.isEmpty_iff.mp h1]
    exact ss_while (ih.b h2) (hf _ _ h3)
  | Return e pos =>
    obtain ⟨e', h1, h⟩ := bindE h
    obtain ⟨px, h2, rfl⟩ := mapE h
    rw [h1]
    exact ss_ret (ih.x h2)
  | Try body hs orelse fin pos =>
    obtain ⟨⟨h1, h2, h3⟩, h⟩ := iteE h
    obtain ⟨pb, h4, rfl⟩ := mapE h
    rw [List.isEmpty_iff.mp h2, List.isEmpty_iff.mp h3]
    cases hs with
    | nil => exact nomatch h1
    | cons => exact ss_try (hf _ _ h4)
  | Raise =>
    obtain rfl := Option.some.inj h
    exact ss_fail
  | _ => exact no h
end

theorem css_sound (G : Glo w K b₀ gl mg mb) (KR : KRd K) (FI : FnIn b₀ tab) (hnew : NewOk prog w b₀) (hsc : SC prog w b₀ tab c) : ∀ (n : Nat) sts pss, css gl sc vars n sts = some pss → SSs prog w b₀ tab c sc vars sts pss
  | 0, _, _, h => no h
  | n + 1, _, _, h => so_list' (cx_sound G KR FI hnew hsc 64) (so_stmt (cx_sound G KR FI hnew hsc 64) G KR (css_sound G KR FI hnew hsc n)) h
end
end Mine
end
section
namespace Mine
open PySem PySem.W PyProof.Rows PySem.Spec PySem.Calls

noncomputable def fnChk (args : List Str) (scope : Scope) : Bool :=
  !scope.isCoroutine && !scope.isGenerator && (match scope.kind with | .function => true | _ => false) && decide ((varsOf args scope.names).Nodup) &&
  ((varsOf args scope.names).all fun x => match scope.names.lookup x with | some .local | some .cell => true | _ => false) &&
  (scope.names.all fun (x, k) => match k with | .free => false | .cell => (varsOf args scope.names).contains x | _ => true) && decide (((cellsFrom 0 scope.names []).map (·.1)).Nodup)

noncomputable def FnOk (b₀ : Heap) (f : Nat) (pf : PFun) : Prop :=
  ∃ name qual params body scope dV kV doc pm an cdv ct oc od osl args, b₀.get? f = some ⟨oc, od, .func (fnX name qual params body scope [] dV kV doc pm an cdv ct), osl⟩ ∧ b₀.CodeRec cdv qual ∧
    Mine.cf gl args scope body = some pf ∧ (∀ vs : List Value, vs.length = args.length → bindArgs (fnX name qual params body scope [] dV kV doc pm an cdv ct) ⟨vs, []⟩ = pure (args.zip vs)) ∧ fnChk args scope = true

section
theorem cells_keep : ∀ (names : List (Str × NameKind)) (n : Nat) (acc : List (Str × Addr)) (p : Str × Addr), p ∈ acc → p ∈ cellsFrom n names acc
  | [], _, _, _, h => h
  | (x, k) :: r, n, acc, p, h => by
    unfold cellsFrom
    split
    · exact cells_keep r _ _ p (.tail _ h)
    · exact cells_keep r _ _ p h
theorem cells_mem : ∀ (names : List (Str × NameKind)) (n : Nat) (acc : List (Str × Addr)) (x : Str), (x, NameKind.cell) ∈ names → ∃ c, (x, c) ∈ cellsFrom n names acc
  | (y, k) :: r, n, acc, x, h => by
    unfold cellsFrom
    rcases List.mem_cons.mp h with e | h
    · cases e
      rw [if_pos (by rfl)]
      exact ⟨n, cells_keep r _ _ _ (.head _)⟩
    · split
      · exact cells_mem r _ _ x h
      · exact cells_mem r _ _ x h
theorem lookup_some_of_mem {α : Type} : ∀ {l : List (Str × α)} {x : Str} {c : α}, (x, c) ∈ l → ∃ c', l.lookup x = some c'
  | (y, k) :: r, x, c, h => by
    rw [List.lookup_cons]
    cases hb : x == y with
    | true => exact ⟨k, rfl⟩
    | false =>
      rcases List.mem_cons.mp h with e | h
      · cases e; simp at hb
      · exact lookup_some_of_mem h
theorem cells_look {names : List (Str × NameKind)} {x : Str} (n : Nat) (h : names.lookup x = some .cell) : ∃ c, (cellsFrom n names []).lookup x = some c := by
  obtain ⟨c, hc⟩ := cells_mem names n [] x (mem_of_lookup h)
  exact lookup_some_of_mem hc
theorem cellsAre_map {cm : Str → Option Value} : ∀ {cs : List (Str × Addr)} {cells : Led}, CellsAre cm cs cells → cells.map (·.1) = cs.map (·.2) := by
  intro cs cells h
  induction h with
  | nil => rfl
  | cons _ _ ih => simp [ih]
theorem cellsAre_get {cm : Str → Option Value} : ∀ {cs : List (Str × Addr)} {cells : Led}, CellsAre cm cs cells → ∀ {x : Str} {c : Addr}, (x, c) ∈ cs → ∃ o, (c, o) ∈ cells ∧ o.data = .cell (cm x) := by
  intro cs cells h
  induction h with
  | nil => intro x c h; cases h
  | cons hd _ ih =>
    intro x c h
    rcases List.mem_cons.mp h with e | h
    · cases e; exact ⟨_, .head _, hd⟩
    · obtain ⟨o, h1, h2⟩ := ih h
      exact ⟨o, .tail _ h1, h2⟩

theorem bindL_out {kd : Str → Option NameKind} {x : Str} : ∀ {binds : List (Str × Value)} {m : Str → Option Value}, (∀ p ∈ binds, p.1 ≠ x) → bindL kd binds m x = m x
  | [], _, _ => rfl
  | (n, v) :: r, m, h => by
    unfold bindL
    rw [bindL_out fun p hp => h p (.tail _ hp)]
    split
    · exact if_neg fun e => h (n, v) (.head _) e.symm
    · rfl
theorem bindL_in {kd : Str → Option NameKind} {x : Str} {v : Value} (hk : kd x = some .local) : ∀ {binds : List (Str × Value)} {m : Str → Option Value}, (binds.map (·.1)).Nodup → (x, v) ∈ binds → bindL kd binds m x = some v
  | (n, u) :: r, m, hn, h => by
    rw [List.map_cons, List.nodup_cons] at hn
    unfold bindL
    rcases List.mem_cons.mp h with e | h
    · cases e
      rw [bindL_out fun p hp e => hn.1 (List.mem_map.mpr ⟨p, hp, e⟩), if_pos hk]
      simp
    · exact bindL_in hk hn.2 h
theorem bindC_out {kd : Str → Option NameKind} {x : Str} : ∀ {binds : List (Str × Value)} {m : Str → Option Value}, (∀ p ∈ binds, p.1 ≠ x) → bindC kd binds m x = m x
  | [], _, _ => rfl
  | (n, v) :: r, m, h => by
    unfold bindC
    rw [bindC_out fun p hp => h p (.tail _ hp)]
    split
    · rfl
    · exact if_neg fun e => h (n, v) (.head _) e.symm
theorem bindC_in {kd : Str → Option NameKind} {x : Str} {v : Value} (hk : kd x ≠ some .local) : ∀ {binds : List (Str × Value)} {m : Str → Option Value}, (binds.map (·.1)).Nodup → (x, v) ∈ binds → bindC kd binds m x = some v
  | (n, u) :: r, m, hn, h => by
    rw [List.map_cons, List.nodup_cons] at hn
    unfold bindC
    rcases List.mem_cons.mp h with e | h
    · cases e
      rw [bindC_out fun p hp e => hn.1 (List.mem_map.mpr ⟨p, hp, e⟩), if_neg hk]
      simp
    · exact bindC_in hk hn.2 h
theorem zip_keys {α β : Type} : ∀ {as : List α} {vs : List β}, vs.length = as.length → (as.zip vs).map (·.1) = as
  | [], _, _ => rfl
  | a :: as, [], h => by simp at h
  | a :: as, v :: vs, h => by simp [zip_keys (as := as) (vs := vs) (by simpa using h)]
end

set_option tactic.hygienic true in
theorem Fm.start {w : World} {b₀ : Heap} {T : Led} {φ : List Addr} {args : List Str} {scope : Scope} {qual : Str} {L f : Addr} {cdv : Value} {vs : List Value} {ds : List PV} {cells : Led} (hc : fnChk args scope = true) (hr : Rvs w b₀ T φ vs ds) (hl : ds.length = args.length)
    (Y : CellsAre (bindC (envOfC qual scope L f cdv).kindOf (args.zip vs) fun _ => none) (cellsFrom (L + 1) scope.names []) cells) (hp : (cellsFrom (L + 1) scope.names []).Pairwise fun x y => x.2 ≠ y.2) :
    Fm w b₀ L (bindL (envOfC qual scope L f cdv).kindOf (args.zip vs) fun _ => none) cells T φ scope.names (varsOf args scope.names) (envOfC qual scope L f cdv) (ds.map .val ++ List.replicate ((varsOf args scope.names).length - args.length) .un) := by
  unfold fnChk at hc
  simp only [Bool.and_eq_true, decide_eq_true_eq, Bool.not_eq_true'] at hc
  obtain ⟨⟨⟨⟨⟨⟨h1, h2⟩, h3⟩, h4⟩, h5⟩, h6⟩, h7⟩ := hc
  have hkd : ∀ x, (envOfC qual scope L f cdv).kindOf x = scope.names.lookup x := fun _ => rfl
  have hvl : vs.length = args.length := hr.length.trans hl
  have hle : args.length ≤ (varsOf args scope.names).length := by unfold varsOf; simp
  have hpre : ∀ i, i < args.length → (varsOf args scope.names)[i]? = args[i]? := fun i hi => by unfold varsOf; exact List.getElem?_append_left hi
  have hanod : args.Nodup := by
    unfold varsOf at h4
    exact (List.nodup_append.mp h4).1
  have hbn : ((args.zip vs).map (·.1)).Nodup := by rw [zip_keys hvl]; exact hanod
  refine ⟨?_, rfl, rfl, rfl, rfl, h4, ?_, fun x hx => cells_look _ hx, fun x hx => ?_, fun i => match (varsOf args scope.names)[i]? with
    | some x => if scope.names.lookup x = some .cell then (cellsFrom (L + 1) scope.names []).lookup x else none
    | none => none, fun i j a e1 e2 => ?_, fun j hj => ?_, fun i x s e1 e2 => ?_⟩
  · show scope.kind = .function
    split at h3 <;> first | assumption | cases h3
  · simp only [List.length_append, List.length_map, List.length_replicate]; with_reducible (apply Mine.ls1 <;> assumption)
  · have := List.all_eq_true.mp h6 _ (mem_of_lookup hx)
    simp at this
  · dsimp only at e1 e2
    split at e1
    · rename_i x hx
      split at e1
      · split at e2
        · rename_i y hy
          split at e2
          · have := name_of_addr hp (mem_of_lookup e1) (mem_of_lookup e2)
            subst this
            have hi : i < (varsOf args scope.names).length := (List.getElem?_eq_some_iff.mp hx).1
            exact (List.getElem?_inj hi h4).mp (hx.trans hy.symm)
          · cases e2
        · cases e2
      · cases e1
    · cases e1
  · show (match (varsOf args scope.names)[j]? with
      | some x => if scope.names.lookup x = some .cell then (cellsFrom (L + 1) scope.names []).lookup x else none
      | none => none) = none
    rw [List.getElem?_eq_none hj]
  · have hk := List.all_eq_true.mp h5 x (List.mem_of_getElem? e1)
    show Sf w b₀ _ cells T φ _ x s (match (varsOf args scope.names)[i]? with
      | some x => if scope.names.lookup x = some .cell then (cellsFrom (L + 1) scope.names []).lookup x else none
      | none => none)
    rw [e1]
    dsimp only
    by_cases hi : i < args.length
    · rw [List.getElem?_append_left (by simp [hl, hi]), List.getElem?_map] at e2
      obtain ⟨d, hd, rfl⟩ := Option.map_eq_some_iff.mp e2
      obtain ⟨v, hv, rv⟩ := hr.get hd
      have hx : args[i]? = some x := (hpre i hi).symm.trans e1
      have hm : (x, v) ∈ args.zip vs := List.mem_of_getElem? (i := i) (by rw [List.getElem?_zip_eq_some]; exact ⟨hx, hv⟩)
      split at hk
      · rename_i hloc
        rw [hloc, if_neg (by simp)]
        exact .valL hloc (bindL_in hloc hbn hm) rv
      · rename_i hcell
        rw [hcell, if_pos rfl]
        obtain ⟨c, hc⟩ := cells_look (L + 1) hcell
        rw [hc]
        obtain ⟨o, ho, hd⟩ := cellsAre_get Y (mem_of_lookup hc)
        rw [bindC_in (by rw [hkd, hcell]; simp) hbn hm] at hd
        exact .valC hcell hc ho hd rv
      · cases hk
    · rw [List.getElem?_append_right (by simp [hl]; with_reducible (apply Mine.ngl; assumption))] at e2
      obtain rfl : s = .un := by rw [List.getElem?_replicate] at e2; split at e2 <;> cases e2; rfl
      split at hk
      · rename_i hloc
        rw [hloc, if_neg (by simp)]
        exact .unL hloc
      · rename_i hcell
        rw [hcell, if_pos rfl]
        obtain ⟨c, hc⟩ := cells_look (L + 1) hcell
        rw [hc]
        obtain ⟨o, ho, hd⟩ := cellsAre_get Y (mem_of_lookup hc)
        exact .unC hcell hc ho hd
      · cases hk
end Mine
end
section
namespace Mine
open PySem PySem.W PyProof.Rows PySem.Spec PySem.Calls

section
variable {prog : Program} {w : World} {K : Frag} {b₀ : Heap} {mg mb : Str → Option Value} {tab : Nat → Option PFun}

set_option tactic.hygienic true in
theorem sc_sound (G : Glo w K b₀ gl mg mb) (KR : KRd K) (FO : ∀ f pf, tab f = some pf → FnOk b₀ f pf) (hnew : NewOk prog w b₀) (c : Nat) : SC prog w b₀ tab c := by
  induction c with
  | zero =>
    intro A fenv L h₀ m U X T φ σ s f vs ds d σ' Q C I hr he k
    exact no he
  | succ c hsc =>
    have FI : FnIn b₀ tab := fun f pf hf => by
      obtain ⟨name, qual, params, body, scope, dV, kV, doc, pm, an, cdv, ct, oc, od, osl, args, h1, _⟩ := FO f pf hf
      exact ⟨_, _, _, _, h1⟩
    intro A fenv L h₀ m U X T φ σ s f vs ds d σ' Q C I hr he k
    obtain ⟨pf, hf, he⟩ := bindE he
    obtain ⟨hlen, he⟩ := iteE he
    obtain ⟨r, hx, he⟩ := mapE he
    obtain ⟨name, qual, params, body, scope, dV, kV, doc, pm, an, cdv, ct, oc, od, osl, args, h1, h2, h3, h4, h5⟩ := FO f pf hf
    unfold Mine.cf at h3
    obtain ⟨b, hb, hpf⟩ := mapE h3
    subst hpf
    dsimp only at hlen hx
    have hbody : SSs prog w b₀ tab c scope.names (varsOf args scope.names) body b := css_sound G KR FI hnew hsc 64 _ _ hb
    have hvl : vs.length = args.length := hr.length.trans hlen
    obtain ⟨A₀, base, outer, B, hA⟩ := C.below
    obtain ⟨_, es, N, R, nd, sep⟩ := id I
    have up : ∀ b o, b₀.get? b = some o → s.heap.get? b = some o := fun b o e => I.F.keep b o (C.stay b o e)
    have hck := h5
    unfold fnChk at hck
    simp only [Bool.and_eq_true, decide_eq_true_eq, Bool.not_eq_true'] at hck
    obtain ⟨⟨⟨⟨⟨⟨k1, k2⟩, k3⟩, k4⟩, k5⟩, k6⟩, k7⟩ := hck
    have hkd : scope.kind = .function := by split at k3 <;> first | assumption | cases k3
    refine codeC_callX B I.F N (G.lim.keeps C.stay) hA C.fr C.kind (up _ _ h1) rfl (h2.keeps up) (by have := C.depth; with_reducible (apply Mine.un4 <;> assumption)) (.of_eq (h4 vs hvl)) (fun n x hx => ?_) k7 (fun g L' h₁ tk cells F₀ F₁ N₁ Y hpw hab B₁ st hlt => ?_) k1 k2 hkd
    · have hxm : x.1 ∈ varsOf args scope.names := by
        unfold varsOf
        exact List.mem_append_left _ (List.of_mem_zip (a := x.1) (b := x.2) hx).1
      have := List.all_eq_true.mp k5 _ hxm
      split at this
      · exact .inl (by assumption)
      · rename_i hcell
        obtain ⟨c', hc'⟩ := cells_look n hcell
        exact .inr ⟨hcell, by rw [hc']; rfl⟩
      · cases this
    · have hcn : (cells.map (·.1)).Nodup := by
        rw [cellsAre_map Y]
        exact List.pairwise_map.mpr hpw
      have I₁ : Inv w b₀ g L' (bindL (envOfC qual scope L' f cdv).kindOf (args.zip vs) fun _ => none) φ σ cells (U ++ X) T h₁ := by
        refine ⟨F₁, es, fun p hp => N₁ p ?_, R, ?_, fun p hp hq => ?_⟩
        · simp only [List.mem_append] at hp ⊢
          rcases hp with hp | hp | (hp | hp) | hp <;> simp [hp]
        · have hperm : List.Perm (es.flatten ++ (cells ++ (U ++ X))) (cells ++ (es.flatten ++ (U ++ X))) := by
            have := List.Perm.append_right (U ++ X) (List.perm_append_comm (l₁ := es.flatten) (l₂ := cells))
            simpa only [List.append_assoc] using this
          rw [(List.Perm.map (·.1) hperm).nodup_iff, List.map_append, List.nodup_append]
          refine ⟨hcn, nd, fun a ha b hb e => ?_⟩
          obtain ⟨p, hp, rfl⟩ := List.mem_map.mp ha
          obtain ⟨q, hq, rfl⟩ := List.mem_map.mp hb
          have h6 := hab p hp
          have h7 := hlt q (by simp only [List.mem_append] at hq ⊢; rcases hq with h | h | h <;> simp [h])
          exact absurd (e ▸ h6 : L' < q.1) (Nat.lt_asymm h7)
        · obtain ⟨q, hq1, hq2⟩ := List.mem_map.mp hq
          simp only [List.mem_append] at hq1
          rcases hq1 with h | h | h
          · exact sep p hp (List.mem_map.mpr ⟨q, by simp [h], hq2⟩)
          · have h6 := hab q h
            have h7 := hlt p (by simp [hp])
            exact absurd (hq2 ▸ h6 : L' < p.1) (Nat.lt_asymm h7)
          · exact sep p hp (List.mem_map.mpr ⟨q, by simp only [List.mem_append]; exact .inr h, hq2⟩)
      have C₁ : Cx b₀ c (A.deeper (envOfC qual scope L' f cdv)) (envOfC qual scope L' f cdv) L' g :=
        ⟨⟨A, base, fenv :: outer, B₁, by show A.frames.map _ = _; rw [hA]; rfl⟩, fun b o e => st b o (C.stay b o e), rfl, hkd, C.hh, by have := C.depth; show A.depth + 1 + 2 * c + 8 < _; with_reducible (apply Mine.un3 <;> assumption), by have := C.units; show A.units + 3 + 16 * c + 40 < _; with_reducible (apply Mine.un2 <;> assumption)⟩
      have leave : ∀ {v : Value} {h' : Heap} {tk' : Nat} {m' : Str → Option Value} {U' T' : Led} {φ' : List Addr}, Inv w b₀ g L' m' φ' σ' U' (U ++ X) T' h' → Ext T φ T' φ' → Rv w b₀ T' φ' v d →
          LeaveC h₀ L m g (fun fl s' => match fl with | .ret v => Q v s' | _ => False) v { s with heap := h', toks := tk' } := by
        intro v h' tk' m' U' T' φ' I' e' r'
        obtain ⟨F', es', N', R', nd', sep'⟩ := I'
        refine ⟨L', m', es'.flatten ++ (U ++ (X ++ T')), F', fun p hp => N' p ?_, fun FF NN => ?_⟩
        · simp only [List.mem_append] at hp ⊢
          rcases hp with hp | hp | hp | hp <;> simp [hp]
        · refine k v h' tk' T' φ' ⟨FF, es', NN, R', ?_, fun p hp hq => sep' p hp ?_⟩ e' r'
          · refine List.Nodup.sublist ?_ nd'
            exact List.Sublist.map _ (List.Sublist.append (List.Sublist.refl _) (List.sublist_append_right _ _))
          · obtain ⟨q, hq1, hq2⟩ := List.mem_map.mp hq
            refine List.mem_map.mpr ⟨q, ?_, hq2⟩
            simp only [List.mem_append] at hq1 ⊢
            rcases hq1 with h | h | h <;> simp [h]
      refine hbody (s := { s with heap := h₁, toks := tk }) C₁ (Fm.start h5 hr hlen Y hpw) I₁ hx ?_
      cases r with
      | nxt ρ₁ σ₁ =>
        obtain ⟨rfl, rfl⟩ := prodE he
        exact fun h' tk' m' U' T' φ' I' e' F' => leave I' e' .none
      | ret d₁ σ₁ =>
        obtain ⟨rfl, rfl⟩ := prodE he
        exact fun v h' tk' m' U' T' φ' I' e' r' => leave I' e' r'
end
end Mine
end
section
namespace Mine
open PySem PySem.W PyProof.Rows PySem.Spec PySem.Calls

section
variable {prog : Program} {w : World} {s : Shared} {R : Flow → Shared → Prop} {name qual : Str} {params : Arguments} {body : List Stmt} {scope : Scope} {dV kV doc pm cdv ct : Value} {an : Option Addr} {fo : Obj} {f : Addr} {args : Args} {binds : List (Str × Value)}

theorem codeC_top (hlim : s.heap.NoLimit) (ho : s.heap.get? f = some fo) (hd : fo.data = .func (fnX name qual params body scope [] dV kV doc pm an cdv ct)) (hcd : s.heap.CodeRec cdv qual)
    (hbind : BindsTo s (fnX name qual params body scope [] dV kV doc pm an cdv ct) args binds)
    (hkind : ∀ n, ∀ x ∈ binds, scope.names.lookup x.1 = some .local ∨ (scope.names.lookup x.1 = some .cell ∧ ((cellsFrom n scope.names []).lookup x.1).isSome = true))
    (hnd : ((cellsFrom 0 scope.names []).map (·.1)).Nodup)
    (h : ∀ L' h₁ tk cells, Fr s.heap L' h₁ (bindL (envOfC qual scope L' f cdv).kindOf binds fun _ => none) → News s.heap L' h₁ cells →
      CellsAre (bindC (envOfC qual scope L' f cdv).kindOf binds fun _ => none) (cellsFrom (L' + 1) scope.names []) cells → ((cellsFrom (L' + 1) scope.names []).Pairwise fun x y => x.2 ≠ y.2) → (∀ p ∈ cells, L' < p.1) →
      wpC (model prog w) (callerA.deeper (envOfC qual scope L' f cdv)) (execs body (envOfC qual scope L' f cdv))
        (fun fl s' => R (.ret (match fl with | .ret v => v | _ => .none)) s') { s with heap := h₁, toks := tk })
    (hco : scope.isCoroutine = false) (hgen : scope.isGenerator = false) (hk : scope.kind = .function) : codeC (model prog w) callerA (.call (.ref f) args) R s := by
  refine codeC_call_function (by decide) ho hd hco hgen rfl hcd (hbind _ _ _ _ ?_)
  refine wpAny_newFunctionEnv_cells hk (hkind _) fun env' he s' x => ?_
  subst he
  refine ⟨hlim.keeps x.toInCall.keep, codeC_func ?_⟩
  obtain ⟨h₁, tk, rfl, _⟩ := x.done
  have hk₁ := x.toInCall.keep
  obtain ⟨cells, NC, Y⟩ := Cl.news (h₀ := s.heap) (Nat.le_refl _) fun n c hm => ⟨x.cell n c (lookup_of_mem_nodup (cellsFrom_names scope.names 0 (s.heap.objs.size + 1) [] [] rfl ▸ hnd) hm), x.above n c hm⟩
  have hab : ∀ p ∈ cells, s.heap.objs.size < p.1 := by
    have : ∀ {cs cells'}, CellsAre (bindC (envOfC qual scope s.heap.objs.size f cdv).kindOf binds fun _ => none) cs cells' → (∀ n c, (n, c) ∈ cs → s.heap.objs.size < c) → ∀ p ∈ cells', s.heap.objs.size < p.1 := by
      intro cs cells' Y
      induction Y with
      | nil => intro _ p hp; cases hp
      | cons _ _ ih =>
        intro hx p hp
        rcases List.mem_cons.mp hp with rfl | hp
        · exact hx _ _ (.head _)
        · exact ih (fun n c hm => hx n c (.tail _ hm)) p hp
    exact this Y fun n c hm => x.above n c hm
  exact h _ h₁ tk cells ⟨x.toInCall.ns, fun b o e => hk₁ b o e, Nat.le_refl _⟩ NC Y x.apart hab
end

section
variable {prog : Program} {w : World} {K : Frag} {s : Shared} {mg mb : Str → Option Value} {tab : Nat → Option PFun}

set_option tactic.hygienic true in
theorem top_sound (G : Glo w K s.heap gl mg mb) (KR : KRd K) (FO : ∀ f pf, tab f = some pf → FnOk s.heap f pf) (hnew : NewOk prog w s.heap) {c : Nat} (hc : c ≤ 20) {f : Nat} {vs : List Value} {ds : List PV} {σ' : St} {Q : Value → Shared → Prop} (hr : Rvs w s.heap [] [] vs ds)
    (he : callF tab (c + 1) f ds [] = some (.bool true, σ')) (k : ∀ h' tk', (∀ b o, s.heap.get? b = some o → h'.get? b = some o) → Q (.bool true) { s with heap := h', toks := tk' }) :
    wpC (model prog w) callerA (PySem.call (.ref f) vs) Q s := by
  have FI : FnIn s.heap tab := fun f pf hf => by
    obtain ⟨name, qual, params, body, scope, dV, kV, doc, pm, an, cdv, ct, oc, od, osl, args, h1, _⟩ := FO f pf hf
    exact ⟨_, _, _, _, h1⟩
  have hsc : SC prog w s.heap tab c := sc_sound G KR FO hnew c
  refine wpC_call ?_
  obtain ⟨pf, hf, he⟩ := bindE he
  obtain ⟨hlen, he⟩ := iteE he
  obtain ⟨r, hx, he⟩ := mapE he
  obtain ⟨name, qual, params, body, scope, dV, kV, doc, pm, an, cdv, ct, oc, od, osl, args, h1, h2, h3, h4, h5⟩ := FO f pf hf
  obtain ⟨b, hb, hpf⟩ := mapE h3
  subst hpf
  dsimp only at hlen hx
  have hbody : SSs prog w s.heap tab c scope.names (varsOf args scope.names) body b := css_sound G KR FI hnew hsc 64 _ _ hb
  have hvl : vs.length = args.length := hr.length.trans hlen
  have hck := h5
  unfold fnChk at hck
  simp only [Bool.and_eq_true, decide_eq_true_eq, Bool.not_eq_true'] at hck
  obtain ⟨⟨⟨⟨⟨⟨k1, k2⟩, k3⟩, k4⟩, k5⟩, k6⟩, k7⟩ := hck
  have hkd : scope.kind = .function := by split at k3 <;> first | assumption | cases k3
  refine codeC_top (name := name) (qual := qual) (params := params) (body := body) (scope := scope) (dV := dV) (kV := kV) (doc := doc) (pm := pm) (an := an) (cdv := cdv) (ct := ct) (binds := args.zip vs) G.lim h1 rfl h2 (.of_eq (h4 vs hvl)) (fun n x hx => ?_) k7 (fun L' h₁ tk cells F₁ N₁ Y hpw hab => ?_) k1 k2 hkd
  · have hxm : x.1 ∈ varsOf args scope.names := by
      unfold varsOf
      exact List.mem_append_left _ (List.of_mem_zip (a := x.1) (b := x.2) hx).1
    have := List.all_eq_true.mp k5 _ hxm
    split at this
    · exact .inl (by assumption)
    · rename_i hcell
      obtain ⟨c', hc'⟩ := cells_look n hcell
      exact .inr ⟨hcell, by rw [hc']; rfl⟩
    · cases this
  · have hcn : (cells.map (·.1)).Nodup := by
      rw [cellsAre_map Y]
      exact List.pairwise_map.mpr hpw
    have I₁ : Inv w s.heap s.heap L' (bindL (envOfC qual scope L' f cdv).kindOf (args.zip vs) fun _ => none) [] [] cells [] [] h₁ := by
      refine ⟨F₁, [], fun p hp => N₁ p ?_, .nil, ?_, fun p hp => nomatch hp⟩
      · simpa using hp
      · simpa using hcn
    have C₁ : Cx s.heap c (callerA.deeper (envOfC qual scope L' f cdv)) (envOfC qual scope L' f cdv) L' s.heap :=
      ⟨⟨callerA, s.heap, [], below_caller s.heap, rfl⟩, fun _ _ e => e, rfl, hkd, rfl, by
        show callerA.depth + 1 + 2 * c + 8 < _
        have : callerA.depth + 49 < recursionLimit := by decide
        with_reducible (apply Mine.un7 <;> assumption), by
        show callerA.units + 3 + 16 * c + 40 < _
        have : callerA.units + 363 < cLine := by decide
        with_reducible (apply Mine.un6 <;> assumption)⟩
    refine hbody (s := { s with heap := h₁, toks := tk }) C₁ (Fm.start h5 hr hlen Y hpw) I₁ hx ?_
    cases r with
    | nxt ρ₁ σ₁ => exact nomatch (prodE he).1
    | ret d₁ σ₁ =>
      obtain ⟨e1, rfl⟩ := prodE he
      intro v h' tk' m' U' T' φ' I' e' r'
      rw [← e1] at r'
      obtain rfl : v = .bool true := r'.inv
      exact k h' tk' I'.F.keep
end
end Mine
end
section
namespace Mine
open PySem
noncomputable def b69 : PSs := (.cons (.ifs (.or (.cmp (.var 0) .lt (.lit (.int 0))) (.cmp (.bin .shr (.var 0) (.bin .mul (.lit (.int 8)) (.var 1))) .ne (.lit (.int 0)))) (.cons .fail .nil) .nil) (.cons (.asgB 2 (.var 1)) (.cons (.for1 3 (.bi .range (.cons (.bin .sub (.var 1) (.lit (.int 1))) (.cons (.lit (.int (-1))) (.cons (.lit (.int (-1))) .nil)))) (.cons (.setI 2 (.var 3) (.bin .mod (.var 0) (.lit (.int 256)))) (.cons (.asg 0 (.bin .fdiv (.var 0) (.lit (.int 256)))) .nil))) (.cons (.ret (.bi .bytes (.cons (.var 2) .nil))) .nil))))
noncomputable def b76 : PSs := (.cons (.ifs (.cmp (.bin .add (.var 1) (.var 2)) .gt (.bi .len (.cons (.var 0) .nil))) (.cons .fail .nil) .nil) (.cons (.asg 3 (.lit (.int 0))) (.cons (.for1 4 (.slAB (.var 0) (.var 1) (.bin .add (.var 1) (.var 2))) (.cons (.asg 3 (.bin .add (.bin .mul (.var 3) (.lit (.int 256))) (.var 4))) .nil)) (.cons (.ret (.var 3)) .nil))))
noncomputable def b83 : PSs := (.cons (.for1 1 (.lit tSizes) (.cons (.ifs (.cmp2 (.lit (.int 0)) .le (.var 0) .lt (.bin .shl (.lit (.int 1)) (.bin .sub (.bin .mul (.lit (.int 8)) (.var 1)) (.lit (.int 2))))) (.cons (.ret (.var 1)) .nil) .nil) .nil)) (.cons .fail .nil))
noncomputable def b90 : PSs := (.cons (.asg 2 (.call 83 (.cons (.var 0) .nil))) (.cons (.ifs (.cmp (.var 1) .is (.lit .none)) (.cons (.asg 1 (.var 2)) .nil) .nil) (.cons (.ifs (.or (.cmp (.var 1) .lt (.var 2)) (.cmp (.var 1) .notIn (.lit tSizes))) (.cons .fail .nil) .nil) (.cons (.ret (.call 69 (.cons (.bin .bor (.bin .shl (.index (.lit tSizes) (.var 1)) (.bin .sub (.bin .mul (.lit (.int 8)) (.var 1)) (.lit (.int 2)))) (.var 0)) (.cons (.var 1) .nil)))) .nil))))
noncomputable def b97 : PSs := (.cons (.ifs (.cmp (.var 1) .ge (.bi .len (.cons (.var 0) .nil))) (.cons .fail .nil) .nil) (.cons (.asg 2 (.idx (.lit tSizes) (.bin .shr (.idx (.var 0) (.var 1)) (.lit (.int 6))))) (.cons (.ret (.tup (.cons (.bin .band (.call 76 (.cons (.var 0) (.cons (.var 1) (.cons (.var 2) .nil)))) (.bin .sub (.bin .shl (.lit (.int 1)) (.bin .sub (.bin .mul (.lit (.int 8)) (.var 2)) (.lit (.int 2)))) (.lit (.int 1)))) (.cons (.bin .add (.var 1) (.var 2)) .nil)))) .nil)))
noncomputable def b103 : PSs := (.cons (.ret (.join (.lit (.byt [])) (.comp (.call 90 (.cons (.var 0) (.cons (.lit .none) .nil))) (.var 0)))) .nil)
noncomputable def b110 : PSs := (.cons (.ret (.bin .add (.call 90 (.cons (.bi .len (.cons (.var 0) .nil)) (.cons (.lit .none) .nil))) (.var 0))) .nil)
noncomputable def b117 : PSs := (.cons (.asgT [1, 2] (.cons (.idx (.idx (.var 0) (.lit (.int 0))) (.lit (.int 1))) (.cons (.idx (.idx (.var 0) (.lit (.int 0))) (.lit (.int 0))) .nil)) none) (.cons (.asgT [3] (.cons (.lst (.cons (.bin .sub (.var 1) (.var 2)) .nil)) .nil) (some (4, .nil))) (.cons (.forT 5 6 (.slA (.var 0) (.lit (.int 1))) (.cons (.ext 4 (.cons (.bin .sub (.bin .sub (.var 2) (.var 6)) (.lit (.int 2))) (.cons (.bin .sub (.var 6) (.var 5)) .nil))) (.cons (.asg 2 (.var 5)) .nil))) (.cons (.ret (.tup (.cons (.lst (.cons (.var 1) .nil)) (.cons (.bin .add (.bin .add (.lst (.cons (.bin .sub (.bi .len (.cons (.var 0) .nil)) (.lit (.int 1))) .nil)) (.var 3)) (.var 4)) .nil)))) .nil))))
noncomputable def b124 : PSs := (.cons (.unp [1, 2, 3, 4] (.var 0)) (.cons (.unp [5, 6] (.call 117 (.cons (.var 3) .nil))) (.cons (.asg 7 (.ite (.cmp (.var 4) .is (.lit .none)) (.lst .nil) (.bi .list (.cons (.var 4) .nil)))) (.cons (.ret (.call 103 (.cons (.bin .add (.bin .add (.bin .add (.bin .add (.lst (.cons (.ite (.cmp (.var 4) .is (.lit .none)) (.lit (.int 2)) (.lit (.int 3))) .nil)) (.var 5)) (.lst (.cons (.var 2) .nil))) (.var 6)) (.var 7)) .nil))) .nil))))
noncomputable def b131 : PSs := (.cons (.unp [2, 3, 4, 5, 6] (.var 0)) (.cons (.asg 7 (.bin .add (.bin .add (.bin .add (.lit (.int 8)) (.ite (.var 6) (.lit (.int 1)) (.lit (.int 0)))) (.ite (.var 1) (.lit (.int 0)) (.lit (.int 2)))) (.ite (.cmp (.var 4) .gt (.lit (.int 0))) (.lit (.int 4)) (.lit (.int 0))))) (.cons (.asg 8 (.call 103 (.cons (.bin .add (.lst (.cons (.var 7) (.cons (.var 3) .nil))) (.ite (.cmp (.var 4) .gt (.lit (.int 0))) (.lst (.cons (.var 4) .nil)) (.lst .nil))) .nil))) (.cons (.ret (.bin .add (.var 8) (.ite (.var 1) (.var 5) (.call 110 (.cons (.var 5) .nil))))) .nil))))
noncomputable def b138 : PSs := (.cons (.unp [1, 2, 3, 4, 5] (.var 0)) (.cons (.ret (.bin .add (.bin .add (.bin .add (.call 103 (.cons (.lst (.cons (.lit (.int 24)) (.cons (.var 2) (.cons (.var 3) .nil)))) .nil)) (.bi .bytes (.cons (.lst (.cons (.bi .len (.cons (.var 4) .nil)) .nil)) .nil))) (.var 4)) (.var 5))) .nil))
noncomputable def b145 : PSs := (.cons (.unp [1, 2, 3, 4] (.var 0)) (.cons (.ifs (.cmp (.var 3) .is (.lit .none)) (.cons (.ret (.bin .add (.call 103 (.cons (.lst (.cons (.lit (.int 29)) (.cons (.var 2) .nil))) .nil)) (.call 110 (.cons (.var 4) .nil)))) .nil) .nil) (.cons (.ret (.bin .add (.call 103 (.cons (.lst (.cons (.lit (.int 28)) (.cons (.var 2) (.cons (.var 3) .nil)))) .nil)) (.call 110 (.cons (.var 4) .nil)))) .nil)))
noncomputable def b152 : PSs := (.cons (.asg 1 (.idx (.var 0) (.lit (.int 0)))) (.cons (.ifs (.cmp (.var 1) .eq (.lit (.str (Str.ofString "crypto")))) (.cons (.ret (.bin .add (.call 103 (.cons (.lst (.cons (.lit (.int 6)) (.cons (.idx (.var 0) (.lit (.int 1))) .nil))) .nil)) (.call 110 (.cons (.idx (.var 0) (.lit (.int 2))) .nil)))) .nil) .nil) (.cons (.ifs (.cmp (.var 1) .eq (.lit (.str (Str.ofString "new_token")))) (.cons (.ret (.bin .add (.call 103 (.cons (.lst (.cons (.lit (.int 7)) .nil)) .nil)) (.call 110 (.cons (.idx (.var 0) (.lit (.int 1))) .nil)))) .nil) .nil) (.cons (.ifs (.or (.cmp (.var 1) .eq (.lit (.str (Str.ofString "path_challenge")))) (.cmp (.var 1) .eq (.lit (.str (Str.ofString "path_response"))))) (.cons (.ret (.bin .add (.call 103 (.cons (.lst (.cons (.ite (.cmp (.var 1) .eq (.lit (.str (Str.ofString "path_challenge")))) (.lit (.int 26)) (.lit (.int 27))) .nil)) .nil)) (.idx (.var 0) (.lit (.int 1))))) .nil) .nil) (.cons (.ifs (.cmp (.var 1) .eq (.lit (.str (Str.ofString "max_streams")))) (.cons (.ret (.call 103 (.cons (.lst (.cons (.ite (.idx (.var 0) (.lit (.int 1))) (.lit (.int 19)) (.lit (.int 18))) (.cons (.idx (.var 0) (.lit (.int 2))) .nil))) .nil))) .nil) .nil) (.cons (.ifs (.cmp (.var 1) .eq (.lit (.str (Str.ofString "streams_blocked")))) (.cons (.ret (.call 103 (.cons (.lst (.cons (.ite (.idx (.var 0) (.lit (.int 1))) (.lit (.int 23)) (.lit (.int 22))) (.cons (.idx (.var 0) (.lit (.int 2))) .nil))) .nil))) .nil) .nil) (.cons (.ret (.lit .none)) .nil)))))))
noncomputable def b159 : PSs := (.cons (.asg 1 (.idx (.var 0) (.lit (.int 0)))) (.cons (.ifs (.cmp (.var 1) .eq (.lit (.str (Str.ofString "padding")))) (.cons (.ret (.bi .bytes (.cons (.bin .mul (.lst (.cons (.lit (.int 0)) .nil)) (.idx (.var 0) (.lit (.int 1)))) .nil))) .nil) .nil) (.cons (.ifs (.cmp (.var 1) .isIn (.lit tNumbers)) (.cons (.ret (.call 103 (.cons (.bin .add (.lst (.cons (.idx (.lit tNumbers) (.var 1)) .nil)) (.bi .list (.cons (.slA (.var 0) (.lit (.int 1))) .nil))) .nil))) .nil) .nil) (.cons (.ifs (.cmp (.var 1) .eq (.lit (.str (Str.ofString "ack")))) (.cons (.ret (.call 124 (.cons (.var 0) .nil))) .nil) .nil) (.cons (.ifs (.cmp (.var 1) .eq (.lit (.str (Str.ofString "stream")))) (.cons (.ret (.call 131 (.cons (.var 0) (.cons (.lit (.bool false)) .nil)))) .nil) .nil) (.cons (.ifs (.cmp (.var 1) .eq (.lit (.str (Str.ofString "new_connection_id")))) (.cons (.ret (.call 138 (.cons (.var 0) .nil))) .nil) .nil) (.cons (.ifs (.cmp (.var 1) .eq (.lit (.str (Str.ofString "close")))) (.cons (.ret (.call 145 (.cons (.var 0) .nil))) .nil) .nil) (.cons (.asg 2 (.call 152 (.cons (.var 0) .nil))) (.cons (.ifs (.cmp (.var 2) .is (.lit .none)) (.cons .fail .nil) .nil) (.cons (.ret (.var 2)) .nil))))))))))
noncomputable def b164 : PSs := (.cons (.ret (.join (.lit (.byt [])) (.comp (.call 159 (.cons (.var 0) .nil)) (.var 0)))) .nil)
noncomputable def b171 : PSs := (.cons (.ret (.bi .len (.cons (.call 159 (.cons (.var 0) .nil)) .nil))) .nil)
noncomputable def b178 : PSs := (.cons (.asg 3 (.bi .len (.cons (.call 103 (.cons (.bin .add (.lst (.cons (.lit (.int 8)) (.cons (.var 0) .nil))) (.ite (.cmp (.var 1) .gt (.lit (.int 0))) (.lst (.cons (.var 1) .nil)) (.lst .nil))) .nil)) .nil))) (.cons (.ret (.bi .max (.cons (.lit (.int 0)) (.cons (.bin .sub (.bin .sub (.var 2) (.var 3)) (.bi .len (.cons (.call 90 (.cons (.bi .max (.cons (.var 2) (.cons (.lit (.int 0)) .nil))) (.cons (.lit .none) .nil))) .nil))) .nil)))) .nil))
noncomputable def b185 : PSs := (.cons (.ret (.bi .max (.cons (.lit (.int 0)) (.cons (.bin .sub (.bin .sub (.var 1) (.bi .len (.cons (.call 103 (.cons (.lst (.cons (.lit (.int 6)) (.cons (.var 0) .nil))) .nil)) .nil))) (.bi .len (.cons (.call 90 (.cons (.bi .max (.cons (.var 1) (.cons (.lit (.int 0)) .nil))) (.cons (.lit .none) .nil))) .nil))) .nil)))) .nil)
noncomputable def b263 : PSs := (.cons .fail .nil)
noncomputable def b270 : PSs := (.cons (.asg 1 (.attr (.var 0) true)) (.cons (.asg 2 (.meth 234 (.var 0) .nil)) (.cons (.ifs (.cmp (.bin .sub (.attr (.var 0) true) (.var 1)) .ne (.call 83 (.cons (.var 2) .nil))) (.cons .fail .nil) .nil) (.cons (.ret (.var 2)) .nil))))
noncomputable def b277 : PSs := (.cons (.ret (.meth 213 (.var 0) (.cons (.meth 234 (.var 0) .nil) .nil))) .nil)
noncomputable def b284 : PSs := (.cons (.asgT [2, 3] (.cons (.meth 234 (.var 0) .nil) (.cons (.meth 234 (.var 0) .nil) .nil)) none) (.cons (.asgT [4, 5] (.cons (.meth 234 (.var 0) .nil) (.cons (.bin .sub (.var 2) (.meth 234 (.var 0) .nil)) .nil)) none) (.cons (.ifs (.cmp (.var 5) .lt (.lit (.int 0))) (.cons (.expr (.call 263 (.cons (.var 1) (.cons (.lit (.str (Str.ofString "a range below 0"))) .nil)))) .nil) .nil) (.cons (.asgL 6 (.cons (.tup (.cons (.var 5) (.cons (.var 2) .nil))) .nil)) (.cons (.for1 7 (.bi .range (.cons (.var 4) .nil)) (.cons (.asg 2 (.bin .sub (.bin .sub (.var 5) (.meth 234 (.var 0) .nil)) (.lit (.int 2)))) (.cons (.asg 5 (.bin .sub (.var 2) (.meth 234 (.var 0) .nil))) (.cons (.ifs (.cmp (.var 5) .lt (.lit (.int 0))) (.cons (.expr (.call 263 (.cons (.var 1) (.cons (.lit (.str (Str.ofString "a range below 0"))) .nil)))) .nil) .nil) (.cons (.app 6 (.tup (.cons (.var 5) (.cons (.var 2) .nil)))) .nil))))) (.cons (.ret (.tup (.cons (.var 3) (.cons (.bi .tuple (.cons (.var 6) .nil)) .nil)))) .nil))))))
noncomputable def b289 : PSs := (.cons (.unp [2, 3] (.call 284 (.cons (.var 0) (.cons (.var 1) .nil)))) (.cons (.asg 4 (.lit .none)) (.cons (.ifs (.cmp (.var 1) .eq (.lit (.int 3))) (.cons (.asg 4 (.bi .tuple (.cons (.comp (.meth 234 (.var 1) .nil) (.bi .range (.cons (.lit (.int 3)) .nil))) .nil))) .nil) .nil) (.cons (.ret (.tup (.cons (.lit (.str (Str.ofString "ack"))) (.cons (.var 2) (.cons (.var 3) (.cons (.var 4) .nil)))))) .nil))))
noncomputable def b296 : PSs := (.cons (.asg 2 (.bin .sub (.var 1) (.lit (.int 8)))) (.cons (.asg 3 (.meth 234 (.var 0) .nil)) (.cons (.asg 4 (.ite (.bin .band (.var 2) (.lit (.int 4))) (.meth 234 (.var 0) .nil) (.lit (.int 0)))) (.cons (.asg 5 (.ite (.bin .band (.var 2) (.lit (.int 2))) (.call 277 (.cons (.var 0) .nil)) (.meth 213 (.var 0) (.cons (.meth 206 (.var 0) .nil) .nil)))) (.cons (.ifs (.cmp (.bin .add (.var 4) (.bi .len (.cons (.var 5) .nil))) .gt (.lit (.int 4611686018427387903))) (.cons (.expr (.call 263 (.cons (.var 1) (.cons (.lit (.str (Str.ofString "a stream beyond its greatest offset"))) .nil)))) .nil) .nil) (.cons (.ret (.tup (.cons (.lit (.str (Str.ofString "stream"))) (.cons (.var 3) (.cons (.var 4) (.cons (.var 5) (.cons (.cmp (.bin .band (.var 2) (.lit (.int 1))) .ne (.lit (.int 0))) .nil))))))) .nil))))))
noncomputable def b303 : PSs := (.cons (.asg 2 (.meth 234 (.var 0) .nil)) (.cons (.asg 3 (.call 277 (.cons (.var 0) .nil))) (.cons (.ifs (.cmp (.bin .add (.var 2) (.bi .len (.cons (.var 3) .nil))) .gt (.lit (.int 4611686018427387903))) (.cons (.expr (.call 263 (.cons (.var 1) (.cons (.lit (.str (Str.ofString "handshake octets beyond the greatest offset"))) .nil)))) .nil) .nil) (.cons (.ret (.tup (.cons (.lit (.str (Str.ofString "crypto"))) (.cons (.var 2) (.cons (.var 3) .nil))))) .nil))))
noncomputable def b310 : PSs := (.cons (.asgT [2, 3] (.cons (.meth 234 (.var 0) .nil) (.cons (.meth 234 (.var 0) .nil) .nil)) none) (.cons (.ifs (.cmp (.var 3) .gt (.var 2)) (.cons (.expr (.call 263 (.cons (.var 1) (.cons (.lit (.str (Str.ofString "ids are retired beyond the one that is given"))) .nil)))) .nil) .nil) (.cons (.asg 4 (.meth 227 (.var 0) (.cons (.lit (.int 1)) .nil))) (.cons (.ifs (.or (.cmp (.var 4) .lt (.lit (.int 1))) (.cmp (.var 4) .gt (.lit (.int 20)))) (.cons (.expr (.call 263 (.cons (.var 1) (.cons (.lit (.str (Str.ofString "an id of a wrong length"))) .nil)))) .nil) .nil) (.cons (.asg 5 (.meth 213 (.var 0) (.cons (.var 4) .nil))) (.cons (.ret (.tup (.cons (.lit (.str (Str.ofString "new_connection_id"))) (.cons (.var 2) (.cons (.var 3) (.cons (.var 5) (.cons (.meth 213 (.var 0) (.cons (.lit (.int 16)) .nil)) .nil))))))) .nil))))))
noncomputable def b317 : PSs := (.cons (.asg 2 (.meth 234 (.var 0) .nil)) (.cons (.asg 3 (.ite (.cmp (.var 1) .eq (.lit (.int 28))) (.meth 234 (.var 0) .nil) (.lit .none))) (.cons (.ret (.tup (.cons (.lit (.str (Str.ofString "close"))) (.cons (.var 2) (.cons (.var 3) (.cons (.call 277 (.cons (.var 0) .nil)) .nil)))))) .nil)))
noncomputable def b324 : PSs := (.cons (.asg 1 (.lit (.int 1))) (.cons (.whl (.and (.cmp (.meth 206 (.var 0) .nil) .gt (.lit (.int 0))) (.cmp (.idx (.attr (.var 0) false) (.attr (.var 0) true)) .eq (.lit (.int 0)))) (.cons (.expr (.meth 213 (.var 0) (.cons (.lit (.int 1)) .nil))) (.cons (.augN 1 .add (.lit (.int 1))) .nil))) (.cons (.ret (.tup (.cons (.lit (.str (Str.ofString "padding"))) (.cons (.var 1) .nil)))) .nil)))
noncomputable def b331 : PSs := (.cons (.ifs (.cmp (.var 1) .eq (.lit (.int 6))) (.cons (.ret (.call 303 (.cons (.var 0) (.cons (.var 1) .nil)))) .nil) .nil) (.cons (.ifs (.cmp (.var 1) .eq (.lit (.int 7))) (.cons (.asg 2 (.call 277 (.cons (.var 0) .nil))) (.cons (.ifs (.cmp (.bi .len (.cons (.var 2) .nil)) .eq (.lit (.int 0))) (.cons (.expr (.call 263 (.cons (.var 1) (.cons (.lit (.str (Str.ofString "a token without octets"))) .nil)))) .nil) .nil) (.cons (.ret (.tup (.cons (.lit (.str (Str.ofString "new_token"))) (.cons (.var 2) .nil)))) .nil))) .nil) (.cons (.ifs (.or (.cmp (.var 1) .eq (.lit (.int 26))) (.cmp (.var 1) .eq (.lit (.int 27)))) (.cons (.ret (.tup (.cons (.ite (.cmp (.var 1) .eq (.lit (.int 26))) (.lit (.str (Str.ofString "path_challenge"))) (.lit (.str (Str.ofString "path_response")))) (.cons (.meth 213 (.var 0) (.cons (.lit (.int 8)) .nil)) .nil)))) .nil) .nil) (.cons (.ifs (.cmp (.var 1) .isIn (.lit tCount)) (.cons (.asg 3 (.meth 234 (.var 0) .nil)) (.cons (.ifs (.cmp (.var 3) .gt (.lit (.int 1152921504606846976))) (.cons (.expr (.call 263 (.cons (.var 1) (.cons (.lit (.str (Str.ofString "more streams than there are ids"))) .nil)))) .nil) .nil) (.cons (.ret (.tup (.cons (.idx (.idx (.lit tCount) (.var 1)) (.lit (.int 0))) (.cons (.idx (.idx (.lit tCount) (.var 1)) (.lit (.int 1))) (.cons (.var 3) .nil))))) .nil))) .nil) (.cons (.expr (.call 263 (.cons (.var 1) (.cons (.lit (.str (Str.ofString "a frame that is not known"))) .nil)))) (.cons (.ret (.lit .none)) .nil))))))
noncomputable def b336 : PSs := (.cons (.ifs (.cmp (.var 1) .eq (.lit (.int 0))) (.cons (.ret (.call 324 (.cons (.var 0) .nil))) .nil) .nil) (.cons (.ifs (.cmp (.var 1) .isIn (.lit tPlain)) (.cons (.unp [2, 3] (.idx (.lit tPlain) (.var 1))) (.cons (.ret (.bi .tuple (.cons (.bin .add (.lst (.cons (.var 2) .nil)) (.comp (.meth 234 (.var 1) .nil) (.bi .range (.cons (.var 3) .nil)))) .nil))) .nil)) .nil) (.cons (.ifs (.or (.cmp (.var 1) .eq (.lit (.int 2))) (.cmp (.var 1) .eq (.lit (.int 3)))) (.cons (.ret (.call 289 (.cons (.var 0) (.cons (.var 1) .nil)))) .nil) .nil) (.cons (.ifs (.cmp2 (.lit (.int 8)) .le (.var 1) .lt (.bin .add (.lit (.int 8)) (.lit (.int 8)))) (.cons (.ret (.call 296 (.cons (.var 0) (.cons (.var 1) .nil)))) .nil) .nil) (.cons (.ifs (.cmp (.var 1) .eq (.lit (.int 24))) (.cons (.ret (.call 310 (.cons (.var 0) (.cons (.var 1) .nil)))) .nil) .nil) (.cons (.ifs (.or (.cmp (.var 1) .eq (.lit (.int 28))) (.cmp (.var 1) .eq (.lit (.int 29)))) (.cons (.ret (.call 317 (.cons (.var 0) (.cons (.var 1) .nil)))) .nil) .nil) (.cons (.ret (.call 331 (.cons (.var 0) (.cons (.var 1) .nil)))) .nil)))))))
noncomputable def b343 : PSs := (.cons (.asg 1 (.lit (.int 0))) (.cons (.tryx (.cons (.asg 1 (.call 270 (.cons (.var 0) .nil))) (.cons (.ret (.call 336 (.cons (.var 0) (.cons (.var 1) .nil)))) .nil))) .nil))
noncomputable def b350 : PSs := (.cons (.asgT [1] (.cons (.new (.var 0)) .nil) (some (2, .nil))) (.cons (.ifs (.cmp (.bi .len (.cons (.var 0) .nil)) .eq (.lit (.int 0))) (.cons .fail .nil) .nil) (.cons (.whl (.cmp (.meth 206 (.var 1) .nil) .gt (.lit (.int 0))) (.cons (.app 2 (.call 343 (.cons (.var 1) .nil))) .nil)) (.cons (.ret (.var 2)) .nil))))
noncomputable def b357 : PSs := (.cons (.ifs (.cmp (.idx (.var 0) (.lit (.int 1))) .lt (.bi .len (.cons (.idx (.var 0) (.lit (.int 0))) .nil))) (.cons (.setI 0 (.lit (.int 1)) (.bin .add (.idx (.var 0) (.lit (.int 1))) (.lit (.int 1)))) (.cons (.asg 2 (.idx (.idx (.var 0) (.lit (.int 0))) (.bin .sub (.idx (.var 0) (.lit (.int 1))) (.lit (.int 1))))) (.cons (.setI 0 (.lit (.int 2)) (.bin .mod (.bin .add (.bin .add (.bin .mul (.idx (.var 0) (.lit (.int 2))) (.lit (.int 69069))) (.bin .mod (.var 2) (.lit (.int 1000003)))) (.lit (.int 1))) (.lit (.int 4294967296)))) (.cons (.ret (.bin .mod (.var 2) (.var 1))) .nil)))) .nil) (.cons (.setI 0 (.lit (.int 2)) (.bin .mod (.bin .add (.bin .mul (.idx (.var 0) (.lit (.int 2))) (.lit (.int 69069))) (.lit (.int 12345))) (.lit (.int 4294967296)))) (.cons (.ret (.bin .mod (.bin .fdiv (.idx (.var 0) (.lit (.int 2))) (.lit (.int 4096))) (.var 1))) .nil)))
noncomputable def b364 : PSs := (.cons (.asg 1 (.call 357 (.cons (.var 0) (.cons (.lit (.int 6)) .nil)))) (.cons (.ret (.idx (.lst (.cons (.call 357 (.cons (.var 0) (.cons (.lit (.int 64)) .nil))) (.cons (.bin .add (.lit (.int 64)) (.call 357 (.cons (.var 0) (.cons (.lit (.int 900)) .nil)))) (.cons (.bin .add (.lit (.int 16384)) (.call 357 (.cons (.var 0) (.cons (.lit (.int 9)) .nil)))) (.cons (.bin .add (.bin .pow (.lit (.int 2)) (.lit (.int 30))) (.lit (.int 5))) (.cons (.bin .add (.bin .pow (.lit (.int 2)) (.lit (.int 61))) (.lit (.int 7))) (.cons (.lit (.int 0)) .nil))))))) (.var 1))) .nil))
noncomputable def b369 : PSs := (.cons (.ret (.bi .bytes (.cons (.comp (.call 357 (.cons (.var 1) (.cons (.lit (.int 256)) .nil))) (.bi .range (.cons (.bin .add (.var 1) (.call 357 (.cons (.var 0) (.cons (.bin .add (.bin .sub (.var 2) (.var 1)) (.lit (.int 1))) .nil)))) .nil))) .nil))) .nil)
noncomputable def b376 : PSs := (.cons (.asgT [1] (.cons (.bin .add (.lit (.int 40)) (.call 357 (.cons (.var 0) (.cons (.lit (.int 100)) .nil)))) .nil) (some (2, .nil))) (.cons (.for1 3 (.bi .range (.cons (.bin .add (.lit (.int 1)) (.call 357 (.cons (.var 0) (.cons (.lit (.int 3)) .nil)))) .nil)) (.cons (.asg 4 (.bin .sub (.var 1) (.call 357 (.cons (.var 0) (.cons (.lit (.int 4)) .nil))))) (.cons (.app 2 (.tup (.cons (.var 4) (.cons (.var 1) .nil)))) (.cons (.asg 1 (.bin .sub (.bin .sub (.var 4) (.lit (.int 2))) (.call 357 (.cons (.var 0) (.cons (.lit (.int 5)) .nil))))) .nil)))) (.cons (.ret (.bi .tuple (.cons (.var 2) .nil))) .nil)))
noncomputable def b383 : PSs := (.cons (.asg 1 (.call 376 (.cons (.var 0) .nil))) (.cons (.asg 2 (.ite (.cmp (.call 357 (.cons (.var 0) (.cons (.lit (.int 2)) .nil))) .eq (.lit (.int 0))) (.tup (.cons (.call 357 (.cons (.var 0) (.cons (.lit (.int 70)) .nil))) (.cons (.call 357 (.cons (.var 0) (.cons (.lit (.int 3)) .nil))) (.cons (.lit (.int 300)) .nil)))) (.lit .none))) (.cons (.ret (.tup (.cons (.lit (.str (Str.ofString "ack"))) (.cons (.call 364 (.cons (.var 0) .nil)) (.cons (.var 1) (.cons (.var 2) .nil)))))) .nil)))
noncomputable def b390 : PSs := (.cons (.asg 1 (.call 357 (.cons (.var 0) (.cons (.lit (.int 12)) .nil)))) (.cons (.ifs (.cmp (.var 1) .eq (.lit (.int 0))) (.cons (.ret (.call 383 (.cons (.var 0) .nil))) .nil) .nil) (.cons (.ifs (.cmp (.var 1) .eq (.lit (.int 1))) (.cons (.ret (.tup (.cons (.lit (.str (Str.ofString "crypto"))) (.cons (.call 364 (.cons (.var 0) .nil)) (.cons (.call 369 (.cons (.var 0) (.cons (.lit (.int 0)) (.cons (.lit (.int 4)) .nil)))) .nil))))) .nil) .nil) (.cons (.ifs (.cmp (.var 1) .eq (.lit (.int 2))) (.cons (.ret (.tup (.cons (.lit (.str (Str.ofString "stream"))) (.cons (.call 364 (.cons (.var 0) .nil)) (.cons (.call 364 (.cons (.var 0) .nil)) (.cons (.call 369 (.cons (.var 0) (.cons (.lit (.int 0)) (.cons (.lit (.int 5)) .nil)))) (.cons (.cmp (.call 357 (.cons (.var 0) (.cons (.lit (.int 2)) .nil))) .eq (.lit (.int 0))) .nil))))))) .nil) .nil) (.cons (.ifs (.cmp (.var 1) .eq (.lit (.int 3))) (.cons (.ret (.tup (.cons (.lit (.str (Str.ofString "new_token"))) (.cons (.call 369 (.cons (.var 0) (.cons (.lit (.int 1)) (.cons (.lit (.int 4)) .nil)))) .nil)))) .nil) .nil) (.cons (.ifs (.cmp (.var 1) .eq (.lit (.int 4))) (.cons (.asg 2 (.ite (.cmp (.call 357 (.cons (.var 0) (.cons (.lit (.int 2)) .nil))) .eq (.lit (.int 0))) (.lit (.str (Str.ofString "max_streams"))) (.lit (.str (Str.ofString "streams_blocked"))))) (.cons (.ret (.tup (.cons (.var 2) (.cons (.cmp (.call 357 (.cons (.var 0) (.cons (.lit (.int 2)) .nil))) .eq (.lit (.int 0))) (.cons (.bin .sub (.bin .pow (.lit (.int 2)) (.lit (.int 60))) (.call 357 (.cons (.var 0) (.cons (.lit (.int 9)) .nil)))) .nil))))) .nil)) .nil) (.cons (.ifs (.cmp (.var 1) .eq (.lit (.int 5))) (.cons (.asg 3 (.call 357 (.cons (.var 0) (.cons (.lit (.int 70)) .nil)))) (.cons (.ret (.tup (.cons (.lit (.str (Str.ofString "new_connection_id"))) (.cons (.bin .add (.var 3) (.call 357 (.cons (.var 0) (.cons (.lit (.int 9)) .nil)))) (.cons (.var 3) (.cons (.call 369 (.cons (.var 0) (.cons (.lit (.int 1)) (.cons (.lit (.int 20)) .nil)))) (.cons (.bi .bytes (.cons (.bi .range (.cons (.lit (.int 16)) .nil)) .nil)) .nil))))))) .nil)) .nil) (.cons (.ifs (.cmp (.var 1) .eq (.lit (.int 6))) (.cons (.ret (.tup (.cons (.ite (.cmp (.call 357 (.cons (.var 0) (.cons (.lit (.int 2)) .nil))) .eq (.lit (.int 0))) (.lit (.str (Str.ofString "path_challenge"))) (.lit (.str (Str.ofString "path_response")))) (.cons (.call 369 (.cons (.var 0) (.cons (.lit (.int 8)) (.cons (.lit (.int 8)) .nil)))) .nil)))) .nil) .nil) (.cons (.ifs (.cmp (.var 1) .eq (.lit (.int 7))) (.cons (.asg 2 (.ite (.cmp (.call 357 (.cons (.var 0) (.cons (.lit (.int 2)) .nil))) .eq (.lit (.int 0))) (.lit .none) (.call 357 (.cons (.var 0) (.cons (.lit (.int 31)) .nil))))) (.cons (.ret (.tup (.cons (.lit (.str (Str.ofString "close"))) (.cons (.call 364 (.cons (.var 0) .nil)) (.cons (.var 2) (.cons (.call 369 (.cons (.var 0) (.cons (.lit (.int 0)) (.cons (.lit (.int 3)) .nil)))) .nil)))))) .nil)) .nil) (.cons (.ifs (.cmp (.var 1) .eq (.lit (.int 8))) (.cons (.ret (.idx (.lst (.cons (.tup (.cons (.lit (.str (Str.ofString "ping"))) .nil)) (.cons (.tup (.cons (.lit (.str (Str.ofString "handshake_done"))) .nil)) .nil))) (.call 357 (.cons (.var 0) (.cons (.lit (.int 2)) .nil))))) .nil) .nil) (.cons (.ifs (.cmp (.var 1) .eq (.lit (.int 9))) (.cons (.ret (.tup (.cons (.lit (.str (Str.ofString "reset_stream"))) (.cons (.call 364 (.cons (.var 0) .nil)) (.cons (.call 364 (.cons (.var 0) .nil)) (.cons (.call 364 (.cons (.var 0) .nil)) .nil)))))) .nil) .nil) (.cons (.ifs (.cmp (.var 1) .eq (.lit (.int 10))) (.cons (.asg 2 (.idx (.lst (.cons (.lit (.str (Str.ofString "stop_sending"))) (.cons (.lit (.str (Str.ofString "max_stream_data"))) (.cons (.lit (.str (Str.ofString "stream_data_blocked"))) .nil)))) (.call 357 (.cons (.var 0) (.cons (.lit (.int 3)) .nil))))) (.cons (.ret (.tup (.cons (.var 2) (.cons (.call 364 (.cons (.var 0) .nil)) (.cons (.call 364 (.cons (.var 0) .nil)) .nil))))) .nil)) .nil) (.cons (.ret (.tup (.cons (.idx (.lst (.cons (.lit (.str (Str.ofString "max_data"))) (.cons (.lit (.str (Str.ofString "data_blocked"))) (.cons (.lit (.str (Str.ofString "retire_connection_id"))) .nil)))) (.call 357 (.cons (.var 0) (.cons (.lit (.int 3)) .nil)))) (.cons (.call 364 (.cons (.var 0) .nil)) .nil)))) .nil)))))))))))))
noncomputable def b395 : PSs := (.cons (.asg 1 (.lit (.int 0))) (.cons (.whl (.cmp (.var 0) .ge (.bin .pow (.lit (.int 2)) (.bin .sub (.bin .mul (.lit (.int 8)) (.bin .pow (.lit (.int 2)) (.var 1))) (.lit (.int 2))))) (.cons (.asg 1 (.bin .add (.var 1) (.lit (.int 1)))) .nil)) (.cons (.asg 2 (.bin .add (.var 0) (.bin .mul (.var 1) (.bin .pow (.lit (.int 2)) (.bin .sub (.bin .mul (.lit (.int 8)) (.bin .pow (.lit (.int 2)) (.var 1))) (.lit (.int 2))))))) (.cons (.ret (.bi .bytes (.cons (.comp (.bin .mod (.bin .fdiv (.var 3) (.bin .pow (.lit (.int 256)) (.var 0))) (.lit (.int 256))) (.bi .range (.cons (.bin .sub (.bin .pow (.lit (.int 2)) (.var 1)) (.lit (.int 1))) (.cons (.lit (.int (-1))) (.cons (.lit (.int (-1))) .nil))))) .nil))) .nil))))
noncomputable def b400 : PSs := (.cons (.ret (.join (.lit (.byt [])) (.comp (.call 395 (.cons (.var 0) .nil)) (.var 0)))) .nil)
noncomputable def b407 : PSs := (.cons (.asgT [1] (.cons (.idx (.var 0) (.lit (.int 2))) .nil) (some (2, .nil))) (.cons (.forE 3 4 (.var 1) (.cons (.ifs (.cmp (.var 3) .gt (.lit (.int 0))) (.cons (.app 2 (.bin .sub (.bin .sub (.idx (.idx (.var 1) (.bin .sub (.var 3) (.lit (.int 1)))) (.lit (.int 0))) (.idx (.var 4) (.lit (.int 1)))) (.lit (.int 2)))) .nil) .nil) (.cons (.app 2 (.bin .sub (.idx (.var 4) (.lit (.int 1))) (.idx (.var 4) (.lit (.int 0))))) .nil))) (.cons (.asgL 5 (.cons (.ite (.cmp (.idx (.var 0) (.lit (.int 3))) .isNot (.lit .none)) (.lit (.int 3)) (.lit (.int 2))) (.cons (.idx (.idx (.var 1) (.lit (.int 0))) (.lit (.int 1))) (.cons (.idx (.var 0) (.lit (.int 1))) (.cons (.bin .sub (.bi .len (.cons (.var 1) .nil)) (.lit (.int 1))) .nil))))) (.cons (.ret (.call 400 (.cons (.bin .add (.bin .add (.var 5) (.var 2)) (.ite (.cmp (.idx (.var 0) (.lit (.int 3))) .isNot (.lit .none)) (.bi .list (.cons (.idx (.var 0) (.lit (.int 3))) .nil)) (.lst .nil))) .nil))) .nil))))
noncomputable def b414 : PSs := (.cons (.asg 1 (.idx (.var 0) (.lit (.int 0)))) (.cons (.asg 2 (.dct [((Str.ofString "ping"), (.int 1)), ((Str.ofString "reset_stream"), (.int 4)), ((Str.ofString "stop_sending"), (.int 5)), ((Str.ofString "max_data"), (.int 16)), ((Str.ofString "max_stream_data"), (.int 17)), ((Str.ofString "data_blocked"), (.int 20))])) (.cons (.asg 3 (.dct [((Str.ofString "stream_data_blocked"), (.int 21)), ((Str.ofString "retire_connection_id"), (.int 25)), ((Str.ofString "handshake_done"), (.int 30))])) (.cons (.ifs (.or (.cmp (.var 1) .isIn (.var 2)) (.cmp (.var 1) .isIn (.var 3))) (.cons (.ret (.call 400 (.cons (.bin .add (.lst (.cons (.ite (.cmp (.var 1) .isIn (.var 2)) (.idx (.var 2) (.var 1)) (.idx (.var 3) (.var 1))) .nil)) (.bi .list (.cons (.slA (.var 0) (.lit (.int 1))) .nil))) .nil))) .nil) .nil) (.cons (.ifs (.cmp (.var 1) .eq (.lit (.str (Str.ofString "ack")))) (.cons (.ret (.call 407 (.cons (.var 0) .nil))) .nil) .nil) (.cons (.ifs (.cmp (.var 1) .eq (.lit (.str (Str.ofString "crypto")))) (.cons (.ret (.bin .add (.call 400 (.cons (.lst (.cons (.lit (.int 6)) (.cons (.idx (.var 0) (.lit (.int 1))) (.cons (.bi .len (.cons (.idx (.var 0) (.lit (.int 2))) .nil)) .nil)))) .nil)) (.idx (.var 0) (.lit (.int 2))))) .nil) .nil) (.cons (.ifs (.cmp (.var 1) .eq (.lit (.str (Str.ofString "stream")))) (.cons (.asg 4 (.bin .add (.bin .add (.bin .add (.lit (.int 8)) (.lit (.int 2))) (.bi .int (.cons (.idx (.var 0) (.lit (.int 4))) .nil))) (.ite (.cmp (.idx (.var 0) (.lit (.int 2))) .gt (.lit (.int 0))) (.lit (.int 4)) (.lit (.int 0))))) (.cons (.ret (.bin .add (.call 400 (.cons (.bin .add (.bin .add (.lst (.cons (.var 4) (.cons (.idx (.var 0) (.lit (.int 1))) .nil))) (.ite (.cmp (.idx (.var 0) (.lit (.int 2))) .gt (.lit (.int 0))) (.lst (.cons (.idx (.var 0) (.lit (.int 2))) .nil)) (.lst .nil))) (.lst (.cons (.bi .len (.cons (.idx (.var 0) (.lit (.int 3))) .nil)) .nil))) .nil)) (.idx (.var 0) (.lit (.int 3))))) .nil)) .nil) (.cons (.ifs (.cmp (.var 1) .eq (.lit (.str (Str.ofString "new_token")))) (.cons (.ret (.bin .add (.call 400 (.cons (.lst (.cons (.lit (.int 7)) (.cons (.bi .len (.cons (.idx (.var 0) (.lit (.int 1))) .nil)) .nil))) .nil)) (.idx (.var 0) (.lit (.int 1))))) .nil) .nil) (.cons (.ifs (.or (.cmp (.var 1) .eq (.lit (.str (Str.ofString "max_streams")))) (.cmp (.var 1) .eq (.lit (.str (Str.ofString "streams_blocked"))))) (.cons (.ret (.call 400 (.cons (.lst (.cons (.bin .add (.ite (.cmp (.var 1) .eq (.lit (.str (Str.ofString "max_streams")))) (.lit (.int 18)) (.lit (.int 22))) (.bi .int (.cons (.idx (.var 0) (.lit (.int 1))) .nil))) (.cons (.idx (.var 0) (.lit (.int 2))) .nil))) .nil))) .nil) .nil) (.cons (.ifs (.cmp (.var 1) .eq (.lit (.str (Str.ofString "new_connection_id")))) (.cons (.ret (.bin .add (.bin .add (.call 400 (.cons (.lst (.cons (.lit (.int 24)) (.cons (.idx (.var 0) (.lit (.int 1))) (.cons (.idx (.var 0) (.lit (.int 2))) (.cons (.bi .len (.cons (.idx (.var 0) (.lit (.int 3))) .nil)) .nil))))) .nil)) (.idx (.var 0) (.lit (.int 3)))) (.idx (.var 0) (.lit (.int 4))))) .nil) .nil) (.cons (.ifs (.cmp (.var 1) .eq (.lit (.str (Str.ofString "close")))) (.cons (.ret (.bin .add (.call 400 (.cons (.bin .add (.bin .add (.lst (.cons (.ite (.cmp (.idx (.var 0) (.lit (.int 2))) .is (.lit .none)) (.lit (.int 29)) (.lit (.int 28))) (.cons (.idx (.var 0) (.lit (.int 1))) .nil))) (.ite (.cmp (.idx (.var 0) (.lit (.int 2))) .is (.lit .none)) (.lst .nil) (.lst (.cons (.idx (.var 0) (.lit (.int 2))) .nil)))) (.lst (.cons (.bi .len (.cons (.idx (.var 0) (.lit (.int 3))) .nil)) .nil))) .nil)) (.idx (.var 0) (.lit (.int 3))))) .nil) .nil) (.cons (.ret (.bin .add (.bi .bytes (.cons (.lst (.cons (.ite (.cmp (.var 1) .eq (.lit (.str (Str.ofString "path_challenge")))) (.lit (.int 26)) (.lit (.int 27))) .nil)) .nil)) (.idx (.var 0) (.lit (.int 1))))) .nil))))))))))))
noncomputable def b421 : PSs := (.cons (.asgT [1, 2, 3] (.cons (.call 357 (.cons (.var 0) (.cons (.lit (.int 70)) .nil))) (.cons (.bin .mul (.call 357 (.cons (.var 0) (.cons (.lit (.int 3)) .nil))) (.lit (.int 100))) (.cons (.call 357 (.cons (.var 0) (.cons (.lit (.int 90)) .nil))) .nil))) none) (.cons (.asg 4 (.tup (.cons (.lit (.str (Str.ofString "stream"))) (.cons (.var 1) (.cons (.var 2) (.cons (.call 369 (.cons (.var 0) (.cons (.lit (.int 0)) (.cons (.lit (.int 4)) .nil)))) (.cons (.cmp (.call 357 (.cons (.var 0) (.cons (.lit (.int 2)) .nil))) .eq (.lit (.int 0))) .nil))))))) (.cons (.ifs (.or (.cmp (.call 350 (.cons (.call 131 (.cons (.var 4) (.cons (.lit (.bool true)) .nil))) .nil)) .ne (.lst (.cons (.var 4) .nil))) (.cmp (.bin .add (.call 131 (.cons (.var 4) (.cons (.lit (.bool true)) .nil))) (.lit (.byt [122]))) .eq (.call 131 (.cons (.var 4) (.cons (.lit (.bool false)) .nil))))) (.cons (.ret (.lit (.bool false))) .nil) .nil) (.cons (.asgT [5, 6] (.cons (.call 178 (.cons (.var 1) (.cons (.var 2) (.cons (.var 3) .nil)))) (.cons (.call 185 (.cons (.var 2) (.cons (.var 3) .nil))) .nil)) none) (.cons (.ifs (.and (.cmp (.var 5) .gt (.lit (.int 0))) (.cmp (.call 171 (.cons (.tup (.cons (.lit (.str (Str.ofString "stream"))) (.cons (.var 1) (.cons (.var 2) (.cons (.bin .mul (.lit (.byt [115])) (.var 5)) (.cons (.lit (.bool true)) .nil)))))) .nil)) .gt (.var 3))) (.cons (.ret (.lit (.bool false))) .nil) .nil) (.cons (.ret (.or (.cmp (.var 6) .le (.lit (.int 0))) (.cmp (.call 171 (.cons (.tup (.cons (.lit (.str (Str.ofString "crypto"))) (.cons (.var 2) (.cons (.bin .mul (.lit (.byt [99])) (.var 6)) .nil)))) .nil)) .le (.var 3)))) .nil))))))
noncomputable def b426 : PSs := (.cons (.newbox 1 (.cons (.slB (.var 0) (.lit (.int 40))) (.cons (.lit (.int 0)) (.cons (.lit (.int 17)) .nil)))) (.cons (.asgC 2 (.call 390 (.cons (.var 2) .nil)) (.bi .range (.cons (.bin .add (.lit (.int 1)) (.call 357 (.cons (.var 1) (.cons (.lit (.int 3)) .nil)))) .nil))) (.cons (.asgC 3 (.call 414 (.cons (.var 0) .nil)) (.var 2)) (.cons (.ifs (.or (.cmp (.comp (.call 159 (.cons (.var 0) .nil)) (.var 2)) .ne (.var 3)) (.cmp (.comp (.call 171 (.cons (.var 0) .nil)) (.var 2)) .ne (.comp (.bi .len (.cons (.var 0) .nil)) (.var 3)))) (.cons (.ret (.lit (.bool false))) .nil) .nil) (.cons (.ifs (.or (.cmp (.call 164 (.cons (.var 2) .nil)) .ne (.join (.lit (.byt [])) (.var 3))) (.cmp (.call 350 (.cons (.join (.lit (.byt [])) (.var 3)) .nil)) .ne (.var 2))) (.cons (.ret (.lit (.bool false))) .nil) .nil) (.cons (.asg 4 (.bin .add (.lit (.int 1)) (.call 357 (.cons (.var 1) (.cons (.lit (.int 4)) .nil))))) (.cons (.ifs (.cmp (.call 350 (.cons (.bin .add (.bin .add (.bi .bytes (.cons (.var 4) .nil)) (.idx (.var 3) (.lit (.int 0)))) (.bi .bytes (.cons (.var 4) .nil))) .nil)) .ne (.lst (.cons (.tup (.cons (.lit (.str (Str.ofString "padding"))) (.cons (.var 4) .nil))) (.cons (.idx (.var 2) (.lit (.int 0))) (.cons (.tup (.cons (.lit (.str (Str.ofString "padding"))) (.cons (.var 4) .nil))) .nil))))) (.cons (.ret (.lit (.bool false))) .nil) .nil) (.cons (.ret (.and (.cmp (.call 159 (.cons (.tup (.cons (.lit (.str (Str.ofString "padding"))) (.cons (.var 4) .nil))) .nil)) .eq (.bi .bytes (.cons (.var 4) .nil))) (.call 421 (.cons (.var 1) .nil)))) .nil))))))))
noncomputable def b199 : PSs := (.cons (.setA 0 false (.var 1)) (.cons (.setA 0 true (.lit (.int 0))) .nil))
noncomputable def b206 : PSs := (.cons (.ret (.bin .sub (.bi .len (.cons (.attr (.var 0) false) .nil)) (.attr (.var 0) true))) .nil)
noncomputable def b213 : PSs := (.cons (.ifs (.cmp (.var 1) .gt (.meth 206 (.var 0) .nil)) (.cons .fail .nil) .nil) (.cons (.augA 0 true .add (.var 1)) (.cons (.ret (.slAB (.attr (.var 0) false) (.bin .sub (.attr (.var 0) true) (.var 1)) (.attr (.var 0) true))) .nil)))
noncomputable def b227 : PSs := (.cons (.asg 2 (.call 76 (.cons (.attr (.var 0) false) (.cons (.attr (.var 0) true) (.cons (.var 1) .nil))))) (.cons (.augA 0 true .add (.var 1)) (.cons (.ret (.var 2)) .nil)))
noncomputable def b234 : PSs := (.cons (.unpA 1 0 true (.call 97 (.cons (.attr (.var 0) false) (.cons (.attr (.var 0) true) .nil)))) (.cons (.ret (.var 1)) .nil))
noncomputable def rows : List (Nat × PFun) := [(69, ⟨2, 4, b69⟩), (76, ⟨3, 5, b76⟩), (83, ⟨1, 2, b83⟩), (90, ⟨2, 3, b90⟩), (97, ⟨2, 3, b97⟩), (103, ⟨1, 1, b103⟩), (110, ⟨1, 1, b110⟩), (117, ⟨1, 7, b117⟩), (124, ⟨1, 8, b124⟩), (131, ⟨2, 9, b131⟩), (138, ⟨1, 6, b138⟩), (145, ⟨1, 5, b145⟩), (152, ⟨1, 2, b152⟩), (159, ⟨1, 3, b159⟩), (164, ⟨1, 1, b164⟩), (171, ⟨1, 1, b171⟩), (178, ⟨3, 4, b178⟩), (185, ⟨2, 2, b185⟩), (263, ⟨2, 2, b263⟩), (270, ⟨1, 3, b270⟩), (277, ⟨1, 1, b277⟩), (284, ⟨2, 8, b284⟩), (289, ⟨2, 5, b289⟩), (296, ⟨2, 6, b296⟩), (303, ⟨2, 4, b303⟩), (310, ⟨2, 6, b310⟩), (317, ⟨2, 4, b317⟩), (324, ⟨1, 2, b324⟩), (331, ⟨2, 4, b331⟩), (336, ⟨2, 4, b336⟩), (343, ⟨1, 2, b343⟩), (350, ⟨1, 3, b350⟩), (357, ⟨2, 3, b357⟩), (364, ⟨1, 2, b364⟩), (369, ⟨3, 3, b369⟩), (376, ⟨1, 5, b376⟩), (383, ⟨1, 3, b383⟩), (390, ⟨1, 4, b390⟩), (395, ⟨1, 3, b395⟩), (400, ⟨1, 1, b400⟩), (407, ⟨1, 6, b407⟩), (414, ⟨1, 5, b414⟩), (421, ⟨1, 7, b421⟩), (426, ⟨1, 5, b426⟩), (199, ⟨2, 2, b199⟩), (206, ⟨1, 1, b206⟩), (213, ⟨2, 2, b213⟩), (227, ⟨2, 3, b227⟩), (234, ⟨1, 2, b234⟩)]
noncomputable def tab (f : Nat) : Option PFun := rows.lookup f
end Mine
end
section
namespace Mine.P
open PySem

section
variable {cf : CF} {ρ : List Slot} {σ : St}
theorem ev_lit (d : PV) : ev cf (.lit d) ρ σ = some (d, σ) := rfl
theorem ev_var (i : Nat) : ev cf (.var i) ρ σ = (valAt ρ i).map fun d => (d, σ) := rfl
theorem ev_bin (o : BOp) (a b : PX) : ev cf (.bin o a b) ρ σ = (ev cf a ρ σ).bind fun p => (ev cf b ρ p.2).bind fun q => (bin o p.1 q.1).map fun r => (r, q.2) := rfl
theorem ev_cmp (o : COp) (a b : PX) : ev cf (.cmp a o b) ρ σ = (ev cf a ρ σ).bind fun p => (ev cf b ρ p.2).bind fun q => (cmp o p.1 q.1).map fun r => (.bool r, q.2) := rfl
theorem ev_cmp2 (o o' : COp) (a b c : PX) : ev cf (.cmp2 a o b o' c) ρ σ = (ev cf a ρ σ).bind fun p => (ev cf b ρ p.2).bind fun q => (cmp o p.1 q.1).bind fun r =>
      if r = true then (ev cf c ρ q.2).bind fun z => (cmp o' q.1 z.1).map fun r => (.bool r, z.2) else some (.bool false, q.2) := rfl
theorem ev_and (a b : PX) : ev cf (.and a b) ρ σ = (ev cf a ρ σ).bind fun p => (truth p.1).bind fun t => if t = true then ev cf b ρ p.2 else some p := rfl
theorem ev_or (a b : PX) : ev cf (.or a b) ρ σ = (ev cf a ρ σ).bind fun p => (truth p.1).bind fun t => if t = true then some p else ev cf b ρ p.2 := rfl
theorem ev_ite (t a b : PX) : ev cf (.ite t a b) ρ σ = (ev cf t ρ σ).bind fun p => (truth p.1).bind fun t => if t = true then ev cf a ρ p.2 else ev cf b ρ p.2 := rfl
theorem ev_lst (xs : PXs) : ev cf (.lst xs) ρ σ = (evs cf xs ρ σ).map fun p => (.lst p.1, p.2) := rfl
theorem ev_tup (xs : PXs) : ev cf (.tup xs) ρ σ = (evs cf xs ρ σ).map fun p => (.tup p.1, p.2) := rfl
theorem ev_dct (es : List (Str × PV)) : ev cf (.dct es) ρ σ = some (.dcS es, σ) := rfl
theorem ev_comp (elt src : PX) : ev cf (.comp elt src) ρ σ = (ev cf src ρ σ).bind fun p => (itemsC p.1).bind fun vs => if vs.length ≤ lim then (mapS (fun v σ => ev cf elt (.val v :: ρ) σ) vs p.2).map fun q => (.lst q.1, q.2) else none := rfl
theorem ev_call (f : Nat) (xs : PXs) : ev cf (.call f xs) ρ σ = (evs cf xs ρ σ).bind fun p => cf f p.1 p.2 := rfl
theorem ev_bi (b : BI) (xs : PXs) : ev cf (.bi b xs) ρ σ = (evs cf xs ρ σ).bind fun p => (biV b p.1).map fun r => (r, p.2) := rfl
theorem ev_join (o a : PX) : ev cf (.join o a) ρ σ = (ev cf o ρ σ).bind fun p => (ev cf a ρ p.2).bind fun q => (joinV p.1 q.1).map fun r => (r, q.2) := rfl
theorem ev_index (o a : PX) : ev cf (.index o a) ρ σ = (ev cf o ρ σ).bind fun p => (ev cf a ρ p.2).bind fun q => (indexV p.1 q.1).map fun r => (r, q.2) := rfl
theorem ev_meth (f : Nat) (o : PX) (xs : PXs) : ev cf (.meth f o xs) ρ σ = (ev cf o ρ σ).bind fun p => (asC p.1).bind fun k => (instAt p.2 k).bind fun _ => (evs cf xs ρ p.2).bind fun q => cf f (p.1 :: q.1) q.2 := rfl
theorem ev_new (x : PX) : ev cf (.new x) ρ σ = (ev cf x ρ σ).map fun p => (.loc p.2.length, p.2 ++ [.inst (some p.1) (some (.int 0))]) := rfl
theorem ev_attr (o : PX) (fld : Bool) : ev cf (.attr o fld) ρ σ = (ev cf o ρ σ).bind fun p => (attrV p.2 fld p.1).map fun r => (r, p.2) := rfl
theorem ev_idx (o i : PX) : ev cf (.idx o i) ρ σ = (ev cf o ρ σ).bind fun p => (ev cf i ρ p.2).bind fun q => (idxV q.2 p.1 q.1).map fun r => (r, q.2) := rfl
theorem ev_slAB (o a b : PX) : ev cf (.slAB o a b) ρ σ = (ev cf o ρ σ).bind fun p => (ev cf a ρ p.2).bind fun q => (ev cf b ρ q.2).bind fun z => (slAB p.1 q.1 z.1).map fun r => (r, z.2) := rfl
theorem ev_slA (o a : PX) : ev cf (.slA o a) ρ σ = (ev cf o ρ σ).bind fun p => (ev cf a ρ p.2).bind fun q => (slA p.1 q.1).map fun r => (r, q.2) := rfl
theorem ev_slB (o b : PX) : ev cf (.slB o b) ρ σ = (ev cf o ρ σ).bind fun p => (ev cf b ρ p.2).bind fun q => (slB p.1 q.1).map fun r => (r, q.2) := rfl
theorem evs_nil : evs cf .nil ρ σ = some ([], σ) := rfl
theorem evs_cons (x : PX) (xs : PXs) : evs cf (.cons x xs) ρ σ = (ev cf x ρ σ).bind fun p => (evs cf xs ρ p.2).map fun q => (p.1 :: q.1, q.2) := rfl
theorem xs_expr (e : PX) : xs cf (.expr e) ρ σ = (ev cf e ρ σ).bind fun p => if isPlain p.1 = true then some (.nxt ρ p.2) else none := rfl
theorem xs_asg (i : Nat) (e : PX) : xs cf (.asg i e) ρ σ = (ev cf e ρ σ).map fun p => .nxt (ρ.set i (.val p.1)) p.2 := rfl
theorem xs_asgC (i : Nat) (elt src : PX) : xs cf (.asgC i elt src) ρ σ = (ev cf (.comp elt src) ρ σ).map fun p => .nxt (ρ.set i (.val p.1)) p.2 := rfl
theorem xs_asgL (i : Nat) (es : PXs) : xs cf (.asgL i es) ρ σ = (evs cf es ρ σ).map fun p => .nxt (ρ.set i (.ol p.1)) p.2 := rfl
theorem xs_asgB (i : Nat) (e : PX) : xs cf (.asgB i e) ρ σ = (ev cf e ρ σ).bind fun p => (asI p.1).bind fun n => if 0 ≤ n ∧ n ≤ 64 then some (.nxt (ρ.set i (.ob (List.replicate n.toNat 0))) p.2) else none := rfl
theorem xs_newbox (i : Nat) (es : PXs) : xs cf (.newbox i es) ρ σ = (evs cf es ρ σ).map fun p => .nxt (ρ.set i (.val (.loc p.2.length))) (p.2 ++ [.list p.1]) := rfl
theorem xs_asgT (is : List Nat) (es : PXs) : xs cf (.asgT is es none) ρ σ = (evs cf es ρ σ).bind fun p => if is.length = p.1.length then some (.nxt (setAll ρ is.reverse (p.1.reverse.map .val)) p.2) else none := rfl
theorem xs_asgTo (is : List Nat) (es : PXs) (i : Nat) (fs : PXs) : xs cf (.asgT is es (some (i, fs))) ρ σ = (evs cf es ρ σ).bind fun p => if is.length = p.1.length then (evs cf fs ρ p.2).map fun q => .nxt (setAll (ρ.set i (.ol q.1)) is.reverse (p.1.reverse.map .val)) q.2 else none := rfl
theorem xs_unp (is : List Nat) (e : PX) : xs cf (.unp is e) ρ σ = (ev cf e ρ σ).bind fun p => (asT p.1).bind fun ds => if is.length = ds.length then some (.nxt (setAll ρ is (ds.map .val)) p.2) else none := rfl
theorem xs_unpA (i j : Nat) (fld : Bool) (e : PX) : xs cf (.unpA i j fld e) ρ σ = (ev cf e ρ σ).bind fun p => (asT p.1).bind fun ds => (two? ds).bind fun q => (valAt (ρ.set i (.val q.1)) j).bind fun o => (setAttrV p.2 fld o q.2).map fun σ => .nxt (ρ.set i (.val q.1)) σ := rfl
theorem xs_setI (i : Nat) (ix e : PX) : xs cf (.setI i ix e) ρ σ = (ev cf e ρ σ).bind fun p => (ρ[i]?).bind fun s => (ev cf ix ρ p.2).bind fun q => setIV i p.1 q.1 ρ q.2 s := rfl
theorem xs_augN (i : Nat) (o : BOp) (e : PX) : xs cf (.augN i o e) ρ σ = (valAt ρ i).bind fun v => (asI v).bind fun x => (ev cf e ρ σ).bind fun p => (asI p.1).bind fun y => (bin o (.int x) (.int y)).map fun r => .nxt (ρ.set i (.val r)) p.2 := rfl
theorem xs_augA (i : Nat) (fld : Bool) (o : BOp) (e : PX) : xs cf (.augA i fld o e) ρ σ = (valAt ρ i).bind fun a => (attrV σ fld a).bind fun v => (asI v).bind fun x => (ev cf e ρ σ).bind fun p => (asI p.1).bind fun y => (bin o (.int x) (.int y)).bind fun r => (setAttrV p.2 fld a r).map fun σ => .nxt ρ σ := rfl
theorem xs_app (i : Nat) (e : PX) : xs cf (.app i e) ρ σ = (olAt ρ i).bind fun vs => (ev cf e ρ σ).bind fun p => if vs.length < lim then some (.nxt (ρ.set i (.ol (vs ++ [p.1]))) p.2) else none := rfl
theorem xs_ext (i : Nat) (es : PXs) : xs cf (.ext i es) ρ σ = (olAt ρ i).bind fun vs => (evs cf es ρ σ).bind fun p => if vs.length + p.1.length < lim ∧ p.1 ≠ [] then some (.nxt (ρ.set i (.ol (vs ++ p.1))) p.2) else none := rfl
theorem xs_ifs (t : PX) (a b : PSs) : xs cf (.ifs t a b) ρ σ = (ev cf t ρ σ).bind fun p => (truth p.1).bind fun t => if t = true then xss cf a ρ p.2 else xss cf b ρ p.2 := by
  show (tst cf t ρ σ).bind _ = _
  unfold tst
  cases ev cf t ρ σ with
  | none => rfl
  | some p =>
    show (Option.map _ (truth p.1)).bind _ = (truth p.1).bind _
    cases truth p.1 <;> rfl
theorem xs_for1 (i : Nat) (src : PX) (body : PSs) : xs cf (.for1 i src body) ρ σ = (ev cf src ρ σ).bind fun p => (items p.1).bind fun vs => forS (fun v ρ σ => xss cf body (ρ.set i (.val v)) σ) vs ρ p.2 := rfl
theorem xs_forT (i j : Nat) (src : PX) (body : PSs) : xs cf (.forT i j src body) ρ σ = (ev cf src ρ σ).bind fun p => (asT p.1).bind fun vs => forS (pairT i j (xss cf body)) vs ρ p.2 := rfl
theorem xs_forE (i j : Nat) (src : PX) (body : PSs) : xs cf (.forE i j src body) ρ σ = (ev cf src ρ σ).bind fun p => (asT p.1).bind fun vs => forS (pairT i j (xss cf body)) (vs.zipIdx.map fun z => .tup [.int (z.2 : Int), z.1]) ρ p.2 := rfl
theorem xs_whl (t : PX) (body : PSs) : xs cf (.whl t body) ρ σ = whlS (tst cf t) (xss cf body) whlFuel ρ σ := rfl
theorem xs_ret (e : PX) : xs cf (.ret e) ρ σ = (ev cf e (ρ.map freeze) σ).map fun p => .ret p.1 p.2 := rfl
theorem xs_tryx (body : PSs) : xs cf (.tryx body) ρ σ = xss cf body ρ σ := rfl
theorem xss_nil : xss cf .nil ρ σ = some (.nxt ρ σ) := rfl
theorem xss_cons (s : PS) (r : PSs) : xss cf (.cons s r) ρ σ = (xs cf s ρ σ).bind (andThen (xss cf r)) := rfl
theorem then_nxt (f : List Slot → St → Option XR) : andThen f (.nxt ρ σ) = f ρ σ := rfl
theorem then_ret (f : List Slot → St → Option XR) (d : PV) : andThen f (.ret d σ) = some (.ret d σ) := rfl
theorem for_nil (f : PV → List Slot → St → Option XR) : forS f [] ρ σ = some (.nxt ρ σ) := rfl
theorem for_cons (f : PV → List Slot → St → Option XR) (v : PV) (vs : List PV) : forS f (v :: vs) ρ σ = (f v ρ σ).bind (andThen (forS f vs)) := rfl
theorem sb {α β : Type} (a : α) (f : α → Option β) : (some a).bind f = f a := rfl
theorem sm {α β : Type} (a : α) (f : α → β) : (some a).map f = some (f a) := rfl
theorem va0 (d : PV) (r : List Slot) : valAt (.val d :: r) 0 = some d := rfl
theorem vaS (s : Slot) (r : List Slot) (i : Nat) : valAt (s :: r) (i + 1) = valAt r i := rfl
theorem ended_ret (d : PV) : ended (.ret d σ) = (d, σ) := rfl
end
end Mine.P
end
section
namespace Mine.P
open PySem
section
variable {cf : CF} {ρ ρ' : List Slot} {σ σ₁ σ₂ σ₃ : St} {x y z r : PV} {a b c : PX} {b₀ b₁ : Bool} {X : Option XR} {ss tt : PSs} {s : PS}
theorem e_bin {o : BOp} (h1 : ev cf a ρ σ = some (x, σ₁)) (h2 : ev cf b ρ σ₁ = some (y, σ₂)) (h3 : bin o x y = some r) : ev cf (.bin o a b) ρ σ = some (r, σ₂) := by
  rw [ev_bin, h1, sb, h2, sb, h3]; rfl
theorem e_cmp {o : COp} (h1 : ev cf a ρ σ = some (x, σ₁)) (h2 : ev cf b ρ σ₁ = some (y, σ₂)) (h3 : cmp o x y = some b₀) : ev cf (.cmp a o b) ρ σ = some (.bool b₀, σ₂) := by
  rw [ev_cmp, h1, sb, h2, sb, h3]; rfl
theorem e_call {f : Nat} {xs : PXs} {vs : List PV} (h1 : evs cf xs ρ σ = some (vs, σ₁)) (h2 : cf f vs σ₁ = some (r, σ₂)) : ev cf (.call f xs) ρ σ = some (r, σ₂) := by
  rw [ev_call, h1, sb]; exact h2
theorem e_bi {f : BI} {xs : PXs} {vs : List PV} (h1 : evs cf xs ρ σ = some (vs, σ₁)) (h2 : biV f vs = some r) : ev cf (.bi f xs) ρ σ = some (r, σ₁) := by
  rw [ev_bi, h1, sb, h2]; rfl
theorem e_nil : evs cf .nil ρ σ = some ([], σ) := rfl
theorem e_cons {xs : PXs} {vs : List PV} (h1 : ev cf a ρ σ = some (x, σ₁)) (h2 : evs cf xs ρ σ₁ = some (vs, σ₂)) : evs cf (.cons a xs) ρ σ = some (x :: vs, σ₂) := by
  rw [evs_cons, h1, sb, h2]; rfl
theorem e_lst {xs : PXs} {vs : List PV} (h1 : evs cf xs ρ σ = some (vs, σ₁)) : ev cf (.lst xs) ρ σ = some (.lst vs, σ₁) := by rw [ev_lst, h1]; rfl
theorem e_tup {xs : PXs} {vs : List PV} (h1 : evs cf xs ρ σ = some (vs, σ₁)) : ev cf (.tup xs) ρ σ = some (.tup vs, σ₁) := by rw [ev_tup, h1]; rfl
theorem e_iteT (h1 : ev cf c ρ σ = some (x, σ₁)) (h2 : truth x = some true) (h3 : ev cf a ρ σ₁ = some (r, σ₂)) : ev cf (.ite c a b) ρ σ = some (r, σ₂) := by
  rw [ev_ite, h1, sb, h2, sb, if_pos rfl, h3]
theorem e_iteF (h1 : ev cf c ρ σ = some (x, σ₁)) (h2 : truth x = some false) (h3 : ev cf b ρ σ₁ = some (r, σ₂)) : ev cf (.ite c a b) ρ σ = some (r, σ₂) := by
  rw [ev_ite, h1, sb, h2, sb, if_neg Bool.false_ne_true, h3]
theorem e_orT (h1 : ev cf a ρ σ = some (x, σ₁)) (h2 : truth x = some true) : ev cf (.or a b) ρ σ = some (x, σ₁) := by
  rw [ev_or, h1, sb, h2, sb, if_pos rfl]
theorem e_orF (h1 : ev cf a ρ σ = some (x, σ₁)) (h2 : truth x = some false) (h3 : ev cf b ρ σ₁ = some (r, σ₂)) : ev cf (.or a b) ρ σ = some (r, σ₂) := by
  rw [ev_or, h1, sb, h2, sb, if_neg Bool.false_ne_true, h3]
theorem e_andT (h1 : ev cf a ρ σ = some (x, σ₁)) (h2 : truth x = some true) (h3 : ev cf b ρ σ₁ = some (r, σ₂)) : ev cf (.and a b) ρ σ = some (r, σ₂) := by
  rw [ev_and, h1, sb, h2, sb, if_pos rfl, h3]
theorem e_andF (h1 : ev cf a ρ σ = some (x, σ₁)) (h2 : truth x = some false) : ev cf (.and a b) ρ σ = some (x, σ₁) := by
  rw [ev_and, h1, sb, h2, sb, if_neg Bool.false_ne_true]
theorem e_join (h1 : ev cf a ρ σ = some (x, σ₁)) (h2 : ev cf b ρ σ₁ = some (y, σ₂)) (h3 : joinV x y = some r) : ev cf (.join a b) ρ σ = some (r, σ₂) := by
  rw [ev_join, h1, sb, h2, sb, h3]; rfl
theorem e_comp {vs ds : List PV} (h1 : ev cf b ρ σ = some (x, σ₁)) (h2 : itemsC x = some vs) (h3 : vs.length ≤ lim) (h4 : mapS (fun v σ => ev cf a (.val v :: ρ) σ) vs σ₁ = some (ds, σ₂)) : ev cf (.comp a b) ρ σ = some (.lst ds, σ₂) := by
  rw [ev_comp, h1, sb]
  show (itemsC x).bind _ = _
  rw [h2, sb, if_pos h3]
  show (mapS _ vs σ₁).map _ = _
  rw [h4]; rfl
theorem e_idx (h1 : ev cf a ρ σ = some (x, σ₁)) (h2 : ev cf b ρ σ₁ = some (y, σ₂)) (h3 : idxV σ₂ x y = some r) : ev cf (.idx a b) ρ σ = some (r, σ₂) := by
  rw [ev_idx, h1, sb, h2, sb, h3]; rfl
theorem s_seq (h1 : xs cf s ρ σ = some (.nxt ρ' σ₁)) (h2 : xss cf ss ρ' σ₁ = X) : xss cf (.cons s ss) ρ σ = X := by rw [xss_cons, h1]; exact h2
theorem s_end (h1 : xs cf s ρ σ = some (.ret r σ₁)) : xss cf (.cons s ss) ρ σ = some (.ret r σ₁) := by rw [xss_cons, h1]; rfl
theorem s_ret (h1 : ev cf a (ρ.map freeze) σ = some (r, σ₁)) : xss cf (.cons (.ret a) ss) ρ σ = some (.ret r σ₁) := s_end (by rw [xs_ret, h1]; rfl)
theorem s_ifT (h1 : ev cf a ρ σ = some (x, σ₁)) (h2 : truth x = some true) (h3 : xss cf ss ρ σ₁ = X) : xs cf (.ifs a ss tt) ρ σ = X := by rw [xs_ifs, h1, sb, h2, sb, if_pos rfl, h3]
theorem s_ifF (h1 : ev cf a ρ σ = some (x, σ₁)) (h2 : truth x = some false) (h3 : xss cf tt ρ σ₁ = X) : xs cf (.ifs a ss tt) ρ σ = X := by rw [xs_ifs, h1, sb, h2, sb, if_neg Bool.false_ne_true, h3]
theorem s_skip (h1 : ev cf a ρ σ = some (x, σ₁)) (h2 : truth x = some false) (h3 : xss cf ss ρ σ₁ = X) : xss cf (.cons (.ifs a tt .nil) ss) ρ σ = X := s_seq (s_ifF h1 h2 rfl) h3
theorem s_take (h1 : ev cf a ρ σ = some (x, σ₁)) (h2 : truth x = some true) (h3 : xss cf tt ρ σ₁ = some (.ret r σ₂)) : xss cf (.cons (.ifs a tt .nil) ss) ρ σ = some (.ret r σ₂) := s_end (s_ifT h1 h2 h3)
theorem s_asg {i : Nat} (h1 : ev cf a ρ σ = some (x, σ₁)) (h2 : xss cf ss (ρ.set i (.val x)) σ₁ = X) : xss cf (.cons (.asg i a) ss) ρ σ = X := s_seq (by rw [xs_asg, h1]; rfl) h2
theorem s_for1 {i : Nat} {vs : List PV} (h1 : ev cf a ρ σ = some (x, σ₁)) (h2 : items x = some vs) (h3 : forS (fun v ρ σ => xss cf ss (ρ.set i (.val v)) σ) vs ρ σ₁ = X) : xs cf (.for1 i a ss) ρ σ = X := by
  rw [xs_for1, h1, sb]
  show (items x).bind _ = _
  rw [h2]; exact h3
theorem s_asgTo {is : List Nat} {es fs : PXs} {i : Nat} {vs ws : List PV} (h1 : evs cf es ρ σ = some (vs, σ₁)) (hl : is.length = vs.length) (h2 : evs cf fs ρ σ₁ = some (ws, σ₂)) (h3 : xss cf ss (setAll (ρ.set i (.ol ws)) is.reverse (vs.reverse.map .val)) σ₂ = X) :
    xss cf (.cons (.asgT is es (some (i, fs))) ss) ρ σ = X := s_seq (by rw [xs_asgTo, h1, sb, if_pos hl]; show (evs cf fs ρ σ₁).map _ = _; rw [h2]; rfl) h3
theorem s_asgT {is : List Nat} {es : PXs} {vs : List PV} (h1 : evs cf es ρ σ = some (vs, σ₁)) (hl : is.length = vs.length) (h3 : xss cf ss (setAll ρ is.reverse (vs.reverse.map .val)) σ₁ = X) :
    xss cf (.cons (.asgT is es none) ss) ρ σ = X := s_seq (by rw [xs_asgT, h1, sb, if_pos hl]) h3
theorem s_unp {is : List Nat} {vs : List PV} (h1 : ev cf a ρ σ = some (x, σ₁)) (h2 : asT x = some vs) (hl : is.length = vs.length) (h3 : xss cf ss (setAll ρ is (vs.map .val)) σ₁ = X) :
    xss cf (.cons (.unp is a) ss) ρ σ = X := s_seq (by rw [xs_unp, h1, sb]; show (asT x).bind _ = _; rw [h2, sb, if_pos hl]) h3
theorem s_asgL {i : Nat} {es : PXs} {vs : List PV} (h1 : evs cf es ρ σ = some (vs, σ₁)) (h3 : xss cf ss (ρ.set i (.ol vs)) σ₁ = X) : xss cf (.cons (.asgL i es) ss) ρ σ = X := s_seq (by rw [xs_asgL, h1]; rfl) h3
theorem s_app {i : Nat} {vs : List PV} (h1 : ev cf a ρ σ = some (x, σ₁)) (h2 : olAt ρ i = some vs) (hl : vs.length < 1000) (h3 : xss cf ss (ρ.set i (.ol (vs ++ [x]))) σ₁ = X) : xss cf (.cons (.app i a) ss) ρ σ = X :=
  s_seq (by rw [xs_app, h2, sb, h1, sb, if_pos (by unfold lim; with_reducible (apply Mine.lt_f; apply Mine.lt_l; assumption; decide))]) h3
theorem s_ext {i : Nat} {es : PXs} {vs ws : List PV} (h1 : evs cf es ρ σ = some (ws, σ₁)) (h2 : olAt ρ i = some vs) (hl : vs.length + ws.length < 2000) (hn : ws ≠ []) (h3 : xss cf ss (ρ.set i (.ol (vs ++ ws))) σ₁ = X) : xss cf (.cons (.ext i es) ss) ρ σ = X :=
  s_seq (by rw [xs_ext, h2, sb, h1, sb, if_pos ⟨by show vs.length + ws.length < lim; unfold lim; with_reducible (apply Mine.lt_f; apply Mine.lt_l; assumption; decide), hn⟩]) h3
theorem s_forT {i j : Nat} {vs : List PV} (h1 : ev cf a ρ σ = some (x, σ₁)) (h2 : asT x = some vs) (h3 : forS (pairT i j (xss cf ss)) vs ρ σ₁ = X) : xs cf (.forT i j a ss) ρ σ = X := by
  rw [xs_forT, h1, sb]
  show (asT x).bind _ = _
  rw [h2]; exact h3
theorem s_forE {i j : Nat} {vs : List PV} (h1 : ev cf a ρ σ = some (x, σ₁)) (h2 : asT x = some vs) (h3 : forS (pairT i j (xss cf ss)) (vs.zipIdx.map fun z => .tup [.int (z.2 : Int), z.1]) ρ σ₁ = X) : xs cf (.forE i j a ss) ρ σ = X := by
  rw [xs_forE, h1, sb]
  show (asT x).bind _ = _
  rw [h2]; exact h3
theorem e_slA (h1 : ev cf a ρ σ = some (x, σ₁)) (h2 : ev cf b ρ σ₁ = some (y, σ₂)) (h3 : slA x y = some r) : ev cf (.slA a b) ρ σ = some (r, σ₂) := by
  rw [ev_slA, h1, sb, h2, sb, h3]; rfl
theorem e_slB (h1 : ev cf a ρ σ = some (x, σ₁)) (h2 : ev cf b ρ σ₁ = some (y, σ₂)) (h3 : slB x y = some r) : ev cf (.slB a b) ρ σ = some (r, σ₂) := by
  rw [ev_slB, h1, sb, h2, sb, h3]; rfl
theorem e_slAB (h1 : ev cf a ρ σ = some (x, σ₁)) (h2 : ev cf b ρ σ₁ = some (y, σ₂)) (h3 : ev cf c ρ σ₂ = some (z, σ₃)) (h4 : slAB x y z = some r) : ev cf (.slAB a b c) ρ σ = some (r, σ₃) := by
  rw [ev_slAB, h1, sb, h2, sb, h3, sb, h4]; rfl
theorem tr {b : Bool} (h : b = true) : truth (.bool b) = some true := congrArg some h
theorem fl {b : Bool} (h : b = false) : truth (.bool b) = some false := congrArg some h
theorem dt {p : Prop} [Decidable p] (h : p) : truth (.bool (decide p)) = some true := congrArg some (decide_eq_true h)
theorem df {p : Prop} [Decidable p] (h : ¬ p) : truth (.bool (decide p)) = some false := congrArg some (decide_eq_false h)
theorem c_fn {f n m : Nat} {body : PSs} {vs : List PV} {fn : Nat → Option PFun} {k : Nat} (ht : fn f = some ⟨n, m, body⟩) (hn : vs.length = n) (h : xss (callF fn k) body (vs.map .val ++ List.replicate (m - n) .un) σ = some (.ret r σ₁)) : callF fn (k + 1) f vs σ = some (r, σ₁) := by
  show (fn f).bind _ = _
  rw [ht, sb, if_pos hn]
  show (xss (callF fn k) body _ σ).map ended = _
  rw [h]; rfl
end

noncomputable def vsz (n : Int) : Int := if n < 64 then 1 else if n < 16384 then 2 else if n < 1073741824 then 4 else 8
theorem cmp2T {cf : CF} {ρ : List Slot} {σ σ₁ σ₂ σ₃ : St} {a b c : PX} {x y z : PV} {o o' : COp} {b₀ : Bool} (h1 : ev cf a ρ σ = some (x, σ₁)) (h2 : ev cf b ρ σ₁ = some (y, σ₂)) (h3 : cmp o x y = some true) (h4 : ev cf c ρ σ₂ = some (z, σ₃)) (h5 : cmp o' y z = some b₀) : ev cf (.cmp2 a o b o' c) ρ σ = some (.bool b₀, σ₃) := by
  rw [ev_cmp2, h1, sb, h2, sb, h3, sb, if_pos rfl, h4, sb, h5]; rfl
theorem for_nx {f : PV → List Slot → St → Option XR} {v : PV} {vs : List PV} {ρ ρ' : List Slot} {σ σ₁ : St} {X : Option XR} (h1 : f v ρ σ = some (.nxt ρ' σ₁)) (h2 : forS f vs ρ' σ₁ = X) : forS f (v :: vs) ρ σ = X := by rw [for_cons, h1]; exact h2
theorem for_rt {f : PV → List Slot → St → Option XR} {v : PV} {vs : List PV} {ρ : List Slot} {σ σ₁ : St} {d : PV} (h1 : f v ρ σ = some (.ret d σ₁)) : forS f (v :: vs) ρ σ = some (.ret d σ₁) := by rw [for_cons, h1]; rfl

theorem call83 (c : Nat) (n : Int) (σ : St) (h0 : 0 ≤ n) (h1 : n < 4611686018427387904) : callF tab (c + 1) 83 [.int n] σ = some (.int (vsz n), σ) := by
  have hb : cmp .le (.int 0) (.int n) = some true := congrArg some (decide_eq_true h0)
  refine c_fn rfl rfl ?_
  refine s_end (s_for1 rfl rfl ?_)
  unfold vsz
  by_cases h : n < 64
  · rw [if_pos h]
    exact for_rt (s_take (cmp2T rfl rfl hb rfl rfl) (dt h) (s_ret rfl))
  rw [if_neg h]
  refine for_nx (s_skip (cmp2T rfl rfl hb rfl rfl) (df h) rfl) ?_
  by_cases h : n < 16384
  · rw [if_pos h]
    exact for_rt (s_take (cmp2T rfl rfl hb rfl rfl) (dt h) (s_ret rfl))
  rw [if_neg h]
  refine for_nx (s_skip (cmp2T rfl rfl hb rfl rfl) (df h) rfl) ?_
  by_cases h : n < 1073741824
  · rw [if_pos h]
    exact for_rt (s_take (cmp2T rfl rfl hb rfl rfl) (dt h) (s_ret rfl))
  rw [if_neg h]
  refine for_nx (s_skip (cmp2T rfl rfl hb rfl rfl) (df h) rfl) ?_
  exact for_rt (s_take (cmp2T rfl rfl hb rfl rfl) (dt h1) (s_ret rfl))
end Mine.P
end
section
namespace Mine.P
open PySem

/-! octets of a number -/
noncomputable def be : Nat → Nat → List UInt8
  | 0, _ => []
  | s + 1, n => be s (n / 256) ++ [UInt8.ofNat (n % 256)]
theorem be_len : ∀ (s n : Nat), (be s n).length = s
  | 0, _ => rfl
  | s + 1, n => by rw [be, List.length_append, be_len s]; rfl

theorem u8_toNat {n : Nat} (h : n < 256) : (UInt8.ofNat n).toNat = n := by
  rw [UInt8.toNat_ofNat']; exact Nat.mod_eq_of_lt h

section
variable {cf : CF} {ρ ρ' : List Slot} {σ σ₁ σ₂ : St}
theorem octet_of {m : Nat} (h : m < 256) : octet? (.int (m : Int)) = some (UInt8.ofNat m) := by
  show (if 0 ≤ (m : Int) ∧ (m : Int) < 256 then some (UInt8.ofNat (m : Int).toNat) else none) = _
  rw [if_pos ⟨Int.natCast_nonneg m, by with_reducible (apply Mine.nlt; apply Mine.lt_l; assumption; decide)⟩, Int.toNat_natCast]
end

noncomputable def whBody : PSs := .cons (.setI 2 (.var 3) (.bin .mod (.var 0) (.lit (.int 256)))) (.cons (.asg 0 (.bin .fdiv (.var 0) (.lit (.int 256)))) .nil)
theorem wh_loop {cf : CF} {σ : St} {v1 : Slot} : ∀ (k n : Nat) (b : List UInt8) (s3 : Slot), k ≤ b.length → b.length ≤ 1000 →
    ∃ v0 s3', forS (fun v ρ σ => xss cf whBody (ρ.set 3 (.val v)) σ) (rngDown ((k : Int) - 1) k) [.val (.int (n : Int)), v1, .ob b, s3] σ = some (.nxt [v0, v1, .ob (be k n ++ b.drop k), s3'] σ)
  | 0, n, b, s3, _, _ => ⟨_, _, rfl⟩
  | k + 1, n, b, s3, hk, hb => by
    have e1 : ((k + 1 : Nat) : Int) - 1 = (k : Int) := by (with_reducible exact Mine.cs6)
    have hx : xss cf whBody [.val (.int (n : Int)), v1, .ob b, .val (.int (k : Int))] σ = some (.nxt [.val (.int ((n / 256 : Nat) : Int)), v1, .ob (b.set k (UInt8.ofNat (n % 256))), .val (.int (k : Int))] σ) := by
      have h1 : bin .mod (.int (n : Int)) (.int 256) = some (.int ((n % 256 : Nat) : Int)) := rfl
      have h2 : bin .fdiv (.int (n : Int)) (.int 256) = some (.int ((n / 256 : Nat) : Int)) := rfl
      refine s_seq (ρ' := [.val (.int (n : Int)), v1, .ob (b.set k (UInt8.ofNat (n % 256))), .val (.int (k : Int))]) (σ₁ := σ) ?_ (s_asg (e_bin rfl rfl h2) rfl)
      rw [xs_setI, e_bin (ρ := [.val (.int (n : Int)), v1, .ob b, .val (.int (k : Int))]) (σ := σ) (cf := cf) (a := .var 0) (b := .lit (.int 256)) rfl rfl h1]
      show Option.bind (octet? (.int ((n % 256 : Nat) : Int))) _ = _
      rw [octet_of (Nat.mod_lt _ (by decide))]
      show (if 0 ≤ (k : Int) ∧ (k : Int).toNat < b.length ∧ b.length ≤ 1000 then _ else none) = _
      rw [if_pos ⟨Int.natCast_nonneg k, by omega, hb⟩]
      rfl
    obtain ⟨v0, s3', hl⟩ := wh_loop (cf := cf) (σ := σ) (v1 := v1) k (n / 256) (b.set k (UInt8.ofNat (n % 256))) (.val (.int (k : Int))) (by rw [List.length_set]; with_reducible (apply Nat.le_of_succ_le; assumption)) (by rw [List.length_set]; exact hb)
    refine ⟨v0, s3', ?_⟩
    rw [e1]
    refine for_nx (v := .int (k : Int)) hx ?_
    show forS _ (rngDown ((k : Int) - 1) k) _ _ = _
    rw [hl, be, List.append_assoc]
    have : (b.set k (UInt8.ofNat (n % 256))).drop k = UInt8.ofNat (n % 256) :: b.drop (k + 1) := by
      rw [List.drop_eq_getElem_cons (by rw [List.length_set]; with_reducible (apply Nat.lt_of_succ_le; assumption)), List.getElem_set_self, List.drop_set_of_lt (Nat.lt_succ_self k)]
    rw [this]; rfl

theorem call69 {c : Nat} {σ : St} {n s : Nat} (hs : s ≤ 8) (hn : n < 2 ^ (8 * s)) : callF tab (c + 1) 69 [.int (n : Int), .int (s : Int)] σ = some (.byt (be s n), σ) := by
  obtain ⟨v0, s3', hl⟩ := wh_loop (cf := callF tab c) (σ := σ) (v1 := .val (.int (s : Int))) s n (List.replicate s 0) .un (by rw [List.length_replicate]; exact Nat.le_refl _) (by rw [List.length_replicate]; with_reducible (apply Mine.le_f; assumption; decide))
  have h8 : bin .mul (.int 8) (.int (s : Int)) = some (.int ((8 * s : Nat) : Int)) := by
    show (if (small 8 && small (s : Int)) = true then some (PV.int (8 * (s : Int))) else none) = _
    rw [if_pos (by
      have : small (s : Int) = true := decide_eq_true (by omega)
      rw [this]; rfl)]
    rfl
  have h9 : bin .shr (.int (n : Int)) (.int ((8 * s : Nat) : Int)) = some (.int 0) := by
    show (onlyIf (0 ≤ (n : Int) ∧ 0 ≤ ((8 * s : Nat) : Int) ∧ ((8 * s : Nat) : Int) ≤ 64) ((n : Int) / 2 ^ ((8 * s : Nat) : Int).toNat)).map PV.int = _
    unfold onlyIf
    rw [if_pos ⟨by (with_reducible exact Mine.nn), by (with_reducible exact Mine.nn), by with_reducible (apply Mine.nle; apply Nat.mul_le_mul_left; assumption; decide)⟩, Int.toNat_natCast]
    have : (n : Int) / 2 ^ (8 * s) = ((n / 2 ^ (8 * s) : Nat) : Int) := by push_cast; rfl
    rw [this, Nat.div_eq_of_lt hn]; rfl
  have hr : biV .range [.int ((s : Int) - 1), .int (-1), .int (-1)] = some (.rng ((s : Int) - 1) (-1) (-1)) := by
    show (if (small ((s : Int) - 1) && small (-1) && ((-1 : Int) == 1 || (-1 : Int) == -1)) = true then _ else none) = _
    rw [if_pos (by
      have : small ((s : Int) - 1) = true := decide_eq_true (by omega)
      rw [this]; rfl)]
  have hi : items (.rng ((s : Int) - 1) (-1) (-1)) = some (rngDown ((s : Int) - 1) s) := by
    show rngItems _ _ _ = _
    unfold rngItems
    have h1 : small62 ((s : Int) - 1) = true := decide_eq_true (by omega)
    have h2 : small62 (-1) = true := rfl
    rw [if_neg (by rw [h1, h2]; decide), if_neg (by decide), if_pos rfl, show ((s : Int) - 1 - -1).toNat = s by omega]
  refine c_fn rfl rfl ?_
  refine s_skip (e_orF (e_cmp rfl rfl rfl) (df (by with_reducible (apply Mine.no_lt <;> assumption))) (e_cmp (e_bin rfl (e_bin rfl rfl h8) h9) rfl rfl)) rfl ?_
  refine s_seq (ρ' := [.val (.int (n : Int)), .val (.int (s : Int)), .ob (List.replicate s 0), .un]) (σ₁ := σ) ?_ ?_
  · show (if 0 ≤ (s : Int) ∧ (s : Int) ≤ 64 then some (XR.nxt _ σ) else none) = _
    rw [if_pos ⟨by (with_reducible exact Mine.nn), by with_reducible (apply Mine.nle; assumption; decide)⟩]; rfl
  refine s_seq (s_for1 (e_bi rfl hr) hi hl) ?_
  refine s_ret (e_bi rfl (vs := [.bar (be s n ++ (List.replicate s 0).drop s)]) ?_)
  have e : be s n ++ (List.replicate s (0 : UInt8)).drop s = be s n := by rw [List.drop_of_length_le (by rw [List.length_replicate]; exact Nat.le_refl _), List.append_nil]
  rw [e]
  show (if (be s n).length ≤ lim then some (PV.byt (be s n)) else none) = _
  rw [if_pos (by rw [be_len]; unfold lim; with_reducible (apply Mine.le_f; assumption; decide))]
end Mine.P
end
section
namespace Mine.P
open PySem

noncomputable def sz (n : Nat) : Nat := if n < 64 then 1 else if n < 16384 then 2 else if n < 1073741824 then 4 else 8
noncomputable def ix (n : Nat) : Nat := if n < 64 then 0 else if n < 16384 then 1 else if n < 1073741824 then 2 else 3
inductive SzV (n : Nat) : Nat → Nat → Nat → Prop
  | s1 (h : n < 64) : SzV n 1 0 6
  | s2 (l : 64 ≤ n) (h : n < 16384) : SzV n 2 1 14
  | s4 (l : 16384 ≤ n) (h : n < 1073741824) : SzV n 4 2 30
  | s8 (l : 1073741824 ≤ n) (h : n < 4611686018427387904) : SzV n 8 3 62
theorem szv {n : Nat} (h : n < 4611686018427387904) : SzV n (sz n) (ix n) (8 * sz n - 2) := by
  unfold sz ix
  by_cases h1 : n < 64
  · rw [if_pos h1, if_pos h1]; exact .s1 h1
  rw [if_neg h1, if_neg h1]
  by_cases h2 : n < 16384
  · rw [if_pos h2, if_pos h2]; exact .s2 (by with_reducible (apply Mine.ngl; assumption)) h2
  rw [if_neg h2, if_neg h2]
  by_cases h3 : n < 1073741824
  · rw [if_pos h3, if_pos h3]; exact .s4 (by with_reducible (apply Mine.ngl; assumption)) h3
  rw [if_neg h3, if_neg h3]; exact .s8 (by with_reducible (apply Mine.ngl; assumption)) h
theorem vsz_eq (n : Nat) : vsz (n : Int) = ((sz n : Nat) : Int) := by
  unfold vsz sz
  by_cases h1 : n < 64
  · rw [if_pos h1, if_pos (by with_reducible (apply Mine.nlt; apply Mine.lt_l; assumption; decide))]; rfl
  rw [if_neg h1, if_neg (by omega)]
  by_cases h2 : n < 16384
  · rw [if_pos h2, if_pos (by with_reducible (apply Mine.nlt; apply Mine.lt_l; assumption; decide))]; rfl
  rw [if_neg h2, if_neg (by omega)]
  by_cases h3 : n < 1073741824
  · rw [if_pos h3, if_pos (by with_reducible (apply Mine.nlt; apply Mine.lt_l; assumption; decide))]; rfl
  rw [if_neg h3, if_neg (by omega)]; rfl
noncomputable abbrev Top62 : Nat := 4611686018427387904
noncomputable def wn (n : Nat) : Nat := ix n * 2 ^ (8 * sz n - 2) + n
noncomputable def venc (n : Nat) : List UInt8 := be (sz n) (wn n)
theorem venc_len (n : Nat) : (venc n).length = sz n := be_len _ _
theorem wn_lt {n : Nat} (h : n < Top62) : wn n < 2 ^ (8 * sz n) := by
  unfold wn
  generalize hk : 8 * sz n - 2 = k
  have := szv h
  rw [hk] at this
  generalize sz n = s at this
  generalize ix n = i at this
  cases this <;> with_reducible (apply Mine.lt_f; apply Nat.add_le_add; apply Nat.mul_le_mul_right; exact Mine.lit; apply Mine.lt_l; assumption; decide)

theorem call83' {c : Nat} {n : Nat} {σ : St} (h : n < Top62) : callF tab (c + 1) 83 [.int (n : Int)] σ = some (.int ((sz n : Nat) : Int), σ) := by
  rw [call83 c n σ (by (with_reducible exact Mine.nn)) (by unfold Top62 at h; with_reducible (apply Mine.nlt; apply Mine.lt_l; assumption; decide)), vsz_eq]

theorem bor_add {i k n : Nat} (h : n < 2 ^ k) : bin .bor (.int ((i * 2 ^ k : Nat) : Int)) (.int (n : Int)) = some (.int ((i * 2 ^ k + n : Nat) : Int)) := by
  show (onlyIf (0 ≤ ((i * 2 ^ k : Nat) : Int) ∧ 0 ≤ (n : Int)) ((((i * 2 ^ k : Nat) : Int).toNat ||| (n : Int).toNat : Nat) : Int)).map PV.int = _
  unfold onlyIf
  rw [if_pos ⟨Int.natCast_nonneg _, Int.natCast_nonneg _⟩, Int.toNat_natCast, Int.toNat_natCast, Nat.mul_comm i, ← Nat.two_pow_add_eq_or_of_lt h]
  rfl

theorem call90 {c : Nat} {n : Nat} {σ : St} (h : n < Top62) : callF tab (c + 2) 90 [.int (n : Int), .none] σ = some (.byt (venc n), σ) := by
  have h83 := call83' (c := c) (σ := σ) h
  have h69 := call69 (c := c) (σ := σ) (n := wn n) (s := sz n) (by have := szv h; generalize 8 * sz n - 2 = k at this; generalize ix n = i at this; generalize sz n = s at this; cases this <;> decide) (wn_lt h)
  show _ = some (PV.byt (be (sz n) (wn n)), σ)
  unfold wn at h69 ⊢
  have hv := szv h
  generalize 8 * sz n - 2 = k at hv h69 ⊢
  generalize sz n = s at hv h83 h69 ⊢
  generalize ix n = i at hv h69 ⊢
  have main : ∀ (s i k : Nat), callF tab (c + 1) 83 [.int (n : Int)] σ = some (.int (s : Int), σ) → callF tab (c + 1) 69 [.int ((i * 2 ^ k + n : Nat) : Int), .int (s : Int)] σ = some (.byt (be s (i * 2 ^ k + n)), σ) →
      isIn (.int (s : Int)) tSizes = some true → indexV tSizes (.int (s : Int)) = some (.int (i : Int)) → bin .mul (.int 8) (.int (s : Int)) = some (.int ((k : Int) + 2)) → bin .shl (.int (i : Int)) (.int (k : Int)) = some (.int ((i * 2 ^ k : Nat) : Int)) → n < 2 ^ k →
      callF tab (c + 2) 90 [.int (n : Int), .none] σ = some (.byt (be s (i * 2 ^ k + n)), σ) := by
    intro s i k h83 h69 hin hix hmul hshl hn
    have hni : cmp .notIn (.int (s : Int)) tSizes = some false := by
      show (isIn (.int (s : Int)) tSizes).map not = _
      rw [hin]; rfl
    have hsub : bin .sub (.int ((k : Int) + 2)) (.int 2) = some (.int (k : Int)) := by
      show some (PV.int ((k : Int) + 2 - 2)) = _
      rw [Int.add_sub_cancel]
    refine c_fn rfl rfl (s_asg (e_call rfl h83) ?_)
    refine s_seq (s_ifT (e_cmp rfl rfl rfl) rfl (s_asg rfl xss_nil)) ?_
    refine s_skip (e_orF (e_cmp rfl rfl rfl) (df (Int.lt_irrefl _)) (e_cmp rfl rfl hni)) rfl ?_
    refine s_ret (e_call (e_cons (e_bin (e_bin ?_ (e_bin (e_bin rfl rfl hmul) rfl hsub) hshl) rfl (bor_add hn)) (e_cons rfl e_nil)) h69)
    rw [ev_index]
    show (indexV tSizes (.int (s : Int))).map _ = _
    rw [hix]; rfl
  cases hv with
  | s1 h => exact main 1 0 6 h83 h69 rfl rfl rfl rfl h
  | s2 _ h => exact main 2 1 14 h83 h69 rfl rfl rfl rfl h
  | s4 _ h => exact main 4 2 30 h83 h69 rfl rfl rfl rfl h
  | s8 _ h => exact main 8 3 62 h83 h69 rfl rfl rfl rfl h
end Mine.P
end
section
namespace Mine.P
open PySem

theorem be_top : ∀ (s n : Nat), be (s + 1) n = UInt8.ofNat (n / 256 ^ s % 256) :: be s n
  | 0, n => by rw [Nat.pow_zero, Nat.div_one]; rfl
  | s + 1, n => by
    rw [be, be_top s (n / 256), Nat.div_div_eq_div_mul, ← Nat.pow_succ']
    rfl
noncomputable def intsV (l : List UInt8) : List PV := l.map fun b => .int (b.toNat : Int)
theorem octets_ints' : ∀ l : List UInt8, octets? (intsV l) = some l
  | [] => rfl
  | b :: l => by
    show (octet? (.int (b.toNat : Int))).bind _ = _
    rw [octet_of b.toNat_lt]
    show (octets? (intsV l)).map _ = _
    rw [octets_ints' l, UInt8.ofNat_toNat]; rfl
section
variable {cf : CF} {ρ ρ' : List Slot} {σ σ₁ σ₂ : St} {a : PX} {ss : PSs} {X : Option XR} {x : PV}
theorem w_step {n : Nat} {f : List Slot → St → Option XR} (h1 : ev cf a ρ σ = some (x, σ₁)) (h2 : truth x = some true) (h3 : f ρ σ₁ = some (.nxt ρ' σ₂)) (h4 : whlS (tst cf a) f n ρ' σ₂ = X) : whlS (tst cf a) f (n + 1) ρ σ = X := by
  show (tst cf a ρ σ).bind _ = _
  have ht : tst cf a ρ σ = some (true, σ₁) := by
    show (ev cf a ρ σ).bind _ = _
    rw [h1, sb]
    show (truth x).map _ = _
    rw [h2]; rfl
  rw [ht, sb, if_pos rfl, h3]; exact h4
theorem w_stop {n : Nat} {f : List Slot → St → Option XR} (h1 : ev cf a ρ σ = some (x, σ₁)) (h2 : truth x = some false) : whlS (tst cf a) f (n + 1) ρ σ = some (.nxt ρ σ₁) := by
  show (tst cf a ρ σ).bind _ = _
  have ht : tst cf a ρ σ = some (false, σ₁) := by
    show (ev cf a ρ σ).bind _ = _
    rw [h1, sb]
    show (truth x).map _ = _
    rw [h2]; rfl
  rw [ht, sb, if_neg Bool.false_ne_true]
end

noncomputable abbrev el395 : PX := .bin .mod (.bin .fdiv (.var 3) (.bin .pow (.lit (.int 256)) (.var 0))) (.lit (.int 256))
theorem el395_ok {cf : CF} {σ : St} {s0 s1 : Slot} {p W : Nat} (hp : p ≤ 7) : ev cf el395 [.val (.int (p : Int)), s0, s1, .val (.int (W : Int))] σ = some (.int ((W / 256 ^ p % 256 : Nat) : Int), σ) := by
  have h1 : bin .pow (.int 256) (.int (p : Int)) = some (.int ((256 ^ p : Nat) : Int)) := by
    show (onlyIf (0 ≤ (256 : Int) ∧ (256 : Int) ≤ 256 ∧ 0 ≤ (p : Int) ∧ (p : Int) ≤ 64) ((256 : Int) ^ (p : Int).toNat)).map PV.int = _
    unfold onlyIf
    rw [if_pos ⟨by decide, by decide, by (with_reducible exact Mine.nn), by with_reducible (apply Mine.nle; assumption; decide)⟩, Int.toNat_natCast, Int.natCast_pow]; rfl
  have hb : 256 ^ p ≤ 256 ^ 7 := Nat.pow_le_pow_right (by decide) hp
  have h2 : bin .fdiv (.int (W : Int)) (.int ((256 ^ p : Nat) : Int)) = some (.int ((W / 256 ^ p : Nat) : Int)) := by
    show (onlyIf (0 < ((256 ^ p : Nat) : Int) ∧ small ((256 ^ p : Nat) : Int) = true) ((W : Int) / ((256 ^ p : Nat) : Int))).map PV.int = _
    unfold onlyIf
    rw [if_pos ⟨by have := Nat.pow_pos (n := p) (show 0 < 256 by decide); with_reducible (apply Mine.posA <;> assumption), decide_eq_true (by rw [Int.natAbs_natCast]; with_reducible (apply Mine.lt_f; assumption; decide))⟩]
    rfl
  exact e_bin (e_bin rfl (e_bin rfl rfl h1) h2) rfl rfl
theorem map395 {cf : CF} {σ : St} {s0 s1 : Slot} {W : Nat} : ∀ (s : Nat), s ≤ 8 → mapS (fun v σ => ev cf el395 (.val v :: [s0, s1, .val (.int (W : Int))]) σ) (rngDown ((s : Int) - 1) s) σ = some (intsV (be s W), σ)
  | 0, _ => rfl
  | s + 1, h => by
    have e : ((s + 1 : Nat) : Int) - 1 = (s : Int) := by (with_reducible exact Mine.cs6)
    rw [e]
    show (ev cf el395 [.val (.int (s : Int)), s0, s1, .val (.int (W : Int))] σ).bind _ = _
    rw [el395_ok (by omega), sb]
    show (mapS _ (rngDown ((s : Int) - 1) s) σ).map _ = _
    rw [map395 s (by with_reducible (apply Nat.le_of_succ_le; assumption)), be_top, sm]
    show some (PV.int _ :: intsV (be s W), σ) = some (PV.int ((UInt8.ofNat (W / 256 ^ s % 256)).toNat : Int) :: intsV (be s W), σ)
    rw [u8_toNat (Nat.mod_lt _ (by decide))]

noncomputable abbrev pw395 : PX := .bin .pow (.lit (.int 2)) (.bin .sub (.bin .mul (.lit (.int 8)) (.bin .pow (.lit (.int 2)) (.var 1))) (.lit (.int 2)))
noncomputable abbrev rg395 : PX := .bi .range (.cons (.bin .sub (.bin .pow (.lit (.int 2)) (.var 1)) (.lit (.int 1))) (.cons (.lit (.int (-1))) (.cons (.lit (.int (-1))) .nil)))
noncomputable abbrev wb395 : PSs := .cons (.asg 1 (.bin .add (.var 1) (.lit (.int 1)))) .nil
theorem rngDown_length : ∀ (k : Nat) (a : Int), (rngDown a k).length = k
  | 0, _ => rfl
  | k + 1, a => congrArg Nat.succ (rngDown_length k (a - 1))
theorem turn395 {cf : CF} {σ : St} {n m : Nat} {i j p : Int} {X : Option XR} (h1 : ev cf pw395 [.val (.int (n : Int)), .val (.int i), .un] σ = some (.int p, σ)) (h : (n : Int) ≥ p) (h2 : i + 1 = j)
    (h4 : whlS (tst cf (.cmp (.var 0) .ge pw395)) (xss cf wb395) m [.val (.int (n : Int)), .val (.int j), .un] σ = X) : whlS (tst cf (.cmp (.var 0) .ge pw395)) (xss cf wb395) (m + 1) [.val (.int (n : Int)), .val (.int i), .un] σ = X :=
  w_step (e_cmp rfl h1 rfl) (dt h) (by rw [← h2]; rfl) h4
theorem end395 {cf : CF} {σ : St} {n m : Nat} {i p : Int} (h1 : ev cf pw395 [.val (.int (n : Int)), .val (.int i), .un] σ = some (.int p, σ)) (h : ¬ (n : Int) ≥ p) :
    whlS (tst cf (.cmp (.var 0) .ge pw395)) (xss cf wb395) (m + 1) [.val (.int (n : Int)), .val (.int i), .un] σ = some (.nxt [.val (.int (n : Int)), .val (.int i), .un] σ) := w_stop (e_cmp rfl h1 rfl) (df h)
theorem p395_0 {cf : CF} {σ : St} {s0 s2 : Slot} : ev cf pw395 [s0, .val (.int 0), s2] σ = some (.int ((2 ^ 6 : Nat) : Int), σ) := rfl
theorem p395_1 {cf : CF} {σ : St} {s0 s2 : Slot} : ev cf pw395 [s0, .val (.int 1), s2] σ = some (.int ((2 ^ 14 : Nat) : Int), σ) := rfl
theorem p395_2 {cf : CF} {σ : St} {s0 s2 : Slot} : ev cf pw395 [s0, .val (.int 2), s2] σ = some (.int ((2 ^ 30 : Nat) : Int), σ) := rfl
theorem p395_3 {cf : CF} {σ : St} {s0 s2 : Slot} : ev cf pw395 [s0, .val (.int 3), s2] σ = some (.int ((2 ^ 62 : Nat) : Int), σ) := rfl
theorem main395 {c n : Nat} {σ : St} (s i k : Nat) (hs : s ≤ 8) (hmul : bin .mul (.int (i : Int)) (.int ((2 ^ k : Nat) : Int)) = some (.int ((i * 2 ^ k : Nat) : Int))) (hpow : ∀ cf, ev cf pw395 [.val (.int (n : Int)), .val (.int (i : Int)), .un] σ = some (.int ((2 ^ k : Nat) : Int), σ))
    (hrng : ∀ cf W, ev cf rg395 [.val (.int (n : Int)), .val (.int (i : Int)), .val (.int W)] σ = some (.rng ((s : Int) - 1) (-1) (-1), σ)) (hit : itemsC (.rng ((s : Int) - 1) (-1) (-1)) = some (rngDown ((s : Int) - 1) s))
    (hw : ∀ cf : CF, whlS (tst cf (.cmp (.var 0) .ge pw395)) (xss cf wb395) whlFuel [.val (.int (n : Int)), .val (.int 0), .un] σ = some (.nxt [.val (.int (n : Int)), .val (.int (i : Int)), .un] σ)) :
    callF tab (c + 1) 395 [.int (n : Int)] σ = some (.byt (be s (i * 2 ^ k + n)), σ) := by
  have hadd : bin .add (.int (n : Int)) (.int ((i * 2 ^ k : Nat) : Int)) = some (.int ((i * 2 ^ k + n : Nat) : Int)) := by
    show some (PV.int ((n : Int) + ((i * 2 ^ k : Nat) : Int))) = _
    rw [Int.add_comm]; rfl
  refine c_fn rfl rfl (s_asg rfl (s_seq (hw _) (s_asg (e_bin rfl (e_bin rfl (hpow _) hmul) hadd) ?_)))
  refine s_ret (e_bi (e_cons (e_comp (hrng _ _) hit (by rw [rngDown_length]; unfold lim; with_reducible (apply Mine.le_f; assumption; decide)) (map395 s hs)) e_nil) ?_)
  show (if (intsV (be s (i * 2 ^ k + n))).length ≤ lim then (octets? (intsV (be s (i * 2 ^ k + n)))).map PV.byt else none) = _
  rw [if_pos (by show (List.map _ _).length ≤ _; rw [List.length_map, be_len]; unfold lim; with_reducible (apply Mine.le_f; assumption; decide)), octets_ints']; rfl

theorem call395 {c : Nat} {n : Nat} {σ : St} (h : n < Top62) : callF tab (c + 1) 395 [.int (n : Int)] σ = some (.byt (venc n), σ) := by
  show _ = some (PV.byt (be (sz n) (wn n)), σ)
  unfold wn
  have hv := szv h
  generalize 8 * sz n - 2 = k at hv ⊢
  generalize sz n = s at hv ⊢
  generalize ix n = i at hv ⊢
  cases hv with
  | s1 h => exact main395 1 0 6 (by decide) rfl (fun _ => p395_0) (fun _ _ => rfl) rfl fun cf => end395 (m := 23) p395_0 (by omega)
  | s2 l h => exact main395 2 1 14 (by decide) rfl (fun _ => p395_1) (fun _ _ => rfl) rfl fun cf => turn395 (m := 23) p395_0 (by with_reducible (apply Mine.c_le <;> assumption)) rfl (end395 (m := 22) p395_1 (by omega))
  | s4 l h => exact main395 4 2 30 (by decide) rfl (fun _ => p395_2) (fun _ _ => rfl) rfl fun cf => turn395 (m := 23) p395_0 (by omega) rfl (turn395 (m := 22) p395_1 (by with_reducible (apply Mine.c_le <;> assumption)) rfl (end395 (m := 21) p395_2 (by omega)))
  | s8 l h => exact main395 8 3 62 (by decide) rfl (fun _ => p395_3) (fun _ _ => rfl) rfl fun cf => turn395 (m := 23) p395_0 (by omega) rfl (turn395 (m := 22) p395_1 (by omega) rfl (turn395 (m := 21) p395_2 (by with_reducible (apply Mine.c_le <;> assumption)) rfl (end395 (m := 20) p395_3 (by omega))))
end Mine.P
end
section
namespace Mine.P
open PySem

noncomputable def nl (ns : List Nat) : List PV := ns.map fun (n : Nat) => .int (n : Int)
noncomputable def rowB (ns : List Nat) : List UInt8 := (ns.map venc).flatten
noncomputable abbrev Ok62 (ns : List Nat) : Prop := ∀ n ∈ ns, n < Top62
theorem sz_le (n : Nat) : sz n ≤ 8 := by
  unfold sz
  repeat' split
  all_goals (with_reducible decide)
theorem rowB_len : ∀ ns : List Nat, (rowB ns).length ≤ 8 * ns.length
  | [] => Nat.le_refl _
  | n :: ns => by
    show (venc n ++ rowB ns).length ≤ 8 * (ns.length + 1)
    have h1 := rowB_len ns
    have h2 := sz_le n
    have h3 := venc_len n
    rw [List.length_append]; omega
theorem rowB_app (a b : List Nat) : rowB (a ++ b) = rowB a ++ rowB b := by unfold rowB; rw [List.map_append, List.flatten_append]
theorem byts_ok : ∀ bs : List (List UInt8), byts? (bs.map .byt) = some bs
  | [] => rfl
  | b :: bs => by
    show (byts? (bs.map .byt)).map _ = _
    rw [byts_ok bs]; rfl
theorem join_ok {bs : List (List UInt8)} (h : bs.flatten.length ≤ lim) : joinV (.byt []) (.lst (bs.map .byt)) = some (.byt bs.flatten) := by
  show (byts? (bs.map .byt)).bind joinF = _
  rw [byts_ok, sb]; exact if_pos h
theorem map_row {cf : CF} {ρ : List Slot} {σ : St} {e : PX} {g : Nat → PV} : ∀ {ns : List Nat}, (∀ n ∈ ns, ev cf e (.val (.int (n : Int)) :: ρ) σ = some (g n, σ)) → mapS (fun v σ => ev cf e (.val v :: ρ) σ) (nl ns) σ = some (ns.map g, σ)
  | [], _ => rfl
  | n :: ns, h => by
    show (ev cf e (.val (.int (n : Int)) :: ρ) σ).bind _ = _
    rw [h n (.head _), sb]
    show (mapS (fun v σ => ev cf e (.val v :: ρ) σ) (nl ns) σ).map _ = _
    rw [map_row fun m hm => h m (.tail _ hm)]; rfl
theorem nl_len (ns : List Nat) : (nl ns).length = ns.length := List.length_map _
theorem row_ok {cf : CF} {ρ : List Slot} {σ : St} {e : PX} {ns : List Nat} (hl : ns.length ≤ 1000) (h : ∀ n ∈ ns, ev cf e (.val (.int (n : Int)) :: .val (.lst (nl ns)) :: ρ) σ = some (.byt (venc n), σ)) :
    ev cf (.join (.lit (.byt [])) (.comp e (.var 0))) (.val (.lst (nl ns)) :: ρ) σ = some (.byt (rowB ns), σ) := by
  refine e_join rfl (e_comp rfl rfl (by rw [nl_len]; unfold lim; with_reducible (apply Mine.le_f; assumption; decide)) (map_row h)) ?_
  have := join_ok (bs := ns.map venc) (by have := rowB_len ns; unfold rowB at this; unfold lim; with_reducible (apply Mine.le_f; apply Nat.le_trans; assumption; apply Nat.mul_le_mul_left; assumption; decide))
  rw [List.map_map] at this
  exact this
theorem call103 {c : Nat} {σ : St} {ns : List Nat} (hl : ns.length ≤ 1000) (h : Ok62 ns) : callF tab (c + 3) 103 [.lst (nl ns)] σ = some (.byt (rowB ns), σ) :=
  c_fn rfl rfl (s_ret (row_ok (ρ := []) hl fun n hn => e_call rfl (call90 (h n hn))))
theorem call400 {c : Nat} {σ : St} {ns : List Nat} (hl : ns.length ≤ 1000) (h : Ok62 ns) : callF tab (c + 2) 400 [.lst (nl ns)] σ = some (.byt (rowB ns), σ) :=
  c_fn rfl rfl (s_ret (row_ok (ρ := []) hl fun n hn => e_call rfl (call395 (h n hn))))
theorem len_byt {d : List UInt8} (h : d.length ≤ 1000) : biV .len [.byt d] = some (.int (d.length : Int)) := if_pos (by unfold lim; with_reducible (apply Mine.le_f; assumption; decide))
theorem add_byt {a b : List UInt8} (h : a.length + b.length ≤ 100000) : bin .add (.byt a) (.byt b) = some (.byt (a ++ b)) := if_pos (by unfold lim; with_reducible (apply Mine.le_f; assumption; decide))
theorem add_lst {a b : List PV} (h : a.length + b.length ≤ 100000) : bin .add (.lst a) (.lst b) = some (.lst (a ++ b)) := if_pos (by unfold lim; with_reducible (apply Mine.le_f; assumption; decide))
noncomputable def cntd (d : List UInt8) : List UInt8 := venc d.length ++ d
theorem call110 {c : Nat} {σ : St} {d : List UInt8} (h : d.length ≤ 1000) : callF tab (c + 3) 110 [.byt d] σ = some (.byt (cntd d), σ) := by
  refine c_fn rfl rfl (s_ret (e_bin (e_call (e_cons (e_bi rfl (len_byt h)) (e_cons rfl e_nil)) (call90 (by unfold Top62; with_reducible (apply Mine.lt_f; assumption; decide)))) rfl (add_byt ?_)))
  have := sz_le d.length
  rw [venc_len]; with_reducible (apply Mine.le_f; apply Nat.add_le_add; assumption; assumption; decide)

/-! ranges -/
noncomputable def rv (rs : List (Nat × Nat)) : List PV := rs.map fun r => .tup [.int (r.1 : Int), .int (r.2 : Int)]
noncomputable def mo : Nat → List (Nat × Nat) → List Nat
  | _, [] => []
  | low, r :: rs => (low - r.2 - 2) :: (r.2 - r.1) :: mo r.1 rs
noncomputable def Desc : Nat → List (Nat × Nat) → Prop
  | _, [] => True
  | low, r :: rs => r.2 + 2 ≤ low ∧ r.1 ≤ r.2 ∧ Desc r.1 rs
theorem rv_len (rs : List (Nat × Nat)) : (rv rs).length = rs.length := List.length_map _
theorem mo_len : ∀ (rs : List (Nat × Nat)) (l : Nat), (mo l rs).length = 2 * rs.length
  | [], _ => rfl
  | r :: rs, l => by
    show (mo r.1 rs).length + 1 + 1 = 2 * (rs.length + 1)
    rw [mo_len rs]; omega
theorem mo_lt : ∀ (rs : List (Nat × Nat)) (l : Nat), Desc l rs → ∀ n ∈ mo l rs, n ≤ l
  | r :: rs, l, h, n, hn => by
    obtain ⟨h1, h2, h3⟩ := h
    rcases List.mem_cons.mp hn with rfl | hn
    · (with_reducible exact Mine.dm2)
    rcases List.mem_cons.mp hn with rfl | hn
    · with_reducible (apply Mine.sub_b; apply Mine.tr_l; assumption)
    have := mo_lt rs r.1 h3 n hn
    omega
theorem sub2 {a b : Nat} (h : b + 2 ≤ a) : (a : Int) - (b : Int) - 2 = ((a - b - 2 : Nat) : Int) := by with_reducible (apply Mine.cs2 <;> assumption)
theorem sub1 {a b : Nat} (h : b ≤ a) : (a : Int) - (b : Int) = ((a - b : Nat) : Int) := by (with_reducible exact (Int.ofNat_sub (by assumption)).symm)

noncomputable abbrev bd117 : PSs := .cons (.ext 4 (.cons (.bin .sub (.bin .sub (.var 2) (.var 6)) (.lit (.int 2))) (.cons (.bin .sub (.var 6) (.var 5)) .nil))) (.cons (.asg 2 (.var 5)) .nil)
theorem loop117 {cf : CF} {σ : St} {s0 s1 s3 : Slot} : ∀ (rs : List (Nat × Nat)) (low : Nat) (ns : List Nat) (s5 s6 : Slot), Desc low rs → ns.length + 2 * rs.length ≤ 1000 →
    ∃ s2' s5' s6', forS (pairT 5 6 (xss cf bd117)) (rv rs) [s0, s1, .val (.int (low : Int)), s3, .ol (nl ns), s5, s6] σ = some (.nxt [s0, s1, s2', s3, .ol (nl (ns ++ mo low rs)), s5', s6'] σ)
  | [], low, ns, s5, s6, _, _ => ⟨_, _, _, by rw [mo, List.append_nil]; rfl⟩
  | r :: rs, low, ns, s5, s6, ⟨h1, h2, h3⟩, hl => by
    rw [List.length_cons] at hl
    obtain ⟨a, b, d, ih⟩ := loop117 (cf := cf) (σ := σ) (s0 := s0) (s1 := s1) (s3 := s3) rs r.1 (ns ++ [low - r.2 - 2, r.2 - r.1]) (.val (.int (r.1 : Int))) (.val (.int (r.2 : Int))) h3 (by rw [List.length_append]; show ns.length + 2 + _ ≤ _; with_reducible (apply Mine.sh3 <;> assumption))
    refine ⟨a, b, d, ?_⟩
    refine for_nx (ρ' := [s0, s1, .val (.int (r.1 : Int)), s3, .ol (nl (ns ++ [low - r.2 - 2, r.2 - r.1])), .val (.int (r.1 : Int)), .val (.int (r.2 : Int))]) (σ₁ := σ) ?_ ?_
    · refine s_seq (ρ' := [s0, s1, .val (.int (low : Int)), s3, .ol (nl (ns ++ [low - r.2 - 2, r.2 - r.1])), .val (.int (r.1 : Int)), .val (.int (r.2 : Int))]) (σ₁ := σ) ?_ (s_asg rfl rfl)
      show (if (nl ns).length + 2 < lim ∧ _ then some (XR.nxt [s0, s1, .val (.int (low : Int)), s3, .ol (nl ns ++ [.int ((low : Int) - (r.2 : Int) - 2), .int ((r.2 : Int) - (r.1 : Int))]), .val (.int (r.1 : Int)), .val (.int (r.2 : Int))] σ) else none) = _
      rw [if_pos ⟨by rw [nl_len]; unfold lim; with_reducible (apply Mine.lt_f; apply Nat.add_le_add; apply Mine.tr_l; assumption; exact Mine.lit; decide), by intro h; exact nomatch h⟩, sub2 h1, sub1 h2]
      unfold nl
      rw [List.map_append]; rfl
    · show forS _ (rv rs) _ _ = _
      rw [ih, List.append_assoc]; rfl

theorem call117 {c : Nat} {σ : St} {r : Nat × Nat} {rs : List (Nat × Nat)} (h1 : r.1 ≤ r.2) (h2 : Desc r.1 rs) (hl : rs.length ≤ 100) :
    callF tab (c + 1) 117 [.tup (rv (r :: rs))] σ = some (.tup [.lst (nl [r.2]), .lst (nl (rs.length :: (r.2 - r.1) :: mo r.1 rs))], σ) := by
  obtain ⟨a, b, d, hloop⟩ := loop117 (cf := callF tab c) (σ := σ) (s0 := .val (.tup (rv (r :: rs)))) (s1 := .val (.int (r.2 : Int))) (s3 := .val (.lst (nl [r.2 - r.1]))) rs r.1 [] .un .un h2 (by show 0 + _ ≤ _; with_reducible (apply Mine.le_f; apply Nat.add_le_add; exact Mine.lit; apply Nat.mul_le_mul_left; assumption; decide))
  refine c_fn rfl rfl (s_asgT rfl rfl (s_asgTo (e_cons (e_lst (e_cons (x := .int ((r.2 - r.1 : Nat) : Int)) (e_bin rfl rfl (congrArg (fun z => some (PV.int z)) (sub1 h1))) e_nil)) e_nil) rfl rfl ?_))
  refine s_seq (s_forT (vs := rv rs) (e_slA (r := .tup (rv rs)) rfl rfl (if_pos ⟨by decide, by rw [rv_len]; show 1 ≤ rs.length + 1; (with_reducible exact Mine.pos1), by rw [rv_len]; show rs.length + 1 ≤ _; unfold lim; with_reducible (apply Mine.le_f; apply Nat.add_le_add; assumption; exact Mine.lit; decide)⟩)) rfl hloop) ?_
  have hlen : biV .len [.tup (rv (r :: rs))] = some (.int ((rs.length : Int) + 1)) := by
    show (if (rv (r :: rs)).length ≤ lim then some (PV.int ((rv (r :: rs)).length : Int)) else none) = _
    rw [rv_len]
    exact if_pos (by show rs.length + 1 ≤ _; unfold lim; with_reducible (apply Mine.le_f; apply Nat.add_le_add; assumption; exact Mine.lit; decide))
  refine s_ret (e_tup (e_cons (e_lst (e_cons rfl e_nil)) (e_cons (e_bin (e_bin (e_lst (e_cons (x := .int (rs.length : Int)) (e_bin (e_bi rfl hlen) rfl ?_) e_nil)) rfl (add_lst (by show 1 + 1 ≤ _; (with_reducible decide)))) rfl (add_lst ?_)) e_nil)))
  · show some (PV.int ((rs.length : Int) + 1 - 1)) = _
    rw [Int.add_sub_cancel]
  · have := mo_len rs r.1
    show 2 + (nl (mo r.1 rs)).length ≤ _
    rw [nl_len]; with_reducible (apply Mine.le_f; apply Nat.add_le_add; exact Mine.lit; apply Mine.le_e; assumption; apply Nat.mul_le_mul_left; assumption; decide)
end Mine.P
end
section
namespace Mine.P
open PySem

noncomputable def ecnL : Option (Nat × Nat × Nat) → List Nat
  | none => []
  | some (a, b, c) => [a, b, c]
noncomputable def ecnV : Option (Nat × Nat × Nat) → PV
  | none => .none
  | some (a, b, c) => .tup (nl [a, b, c])
noncomputable def ackK : Option (Nat × Nat × Nat) → Nat
  | none => 2
  | some _ => 3
noncomputable def ackN (delay : Nat) (r : Nat × Nat) (rs : List (Nat × Nat)) (ecn : Option (Nat × Nat × Nat)) : List Nat :=
  ackK ecn :: r.2 :: delay :: (rs.length :: (r.2 - r.1) :: mo r.1 rs) ++ ecnL ecn
noncomputable def ackV (delay : Nat) (r : Nat × Nat) (rs : List (Nat × Nat)) (ecn : Option (Nat × Nat × Nat)) : PV := .tup [.str (Str.ofString "ack"), .int (delay : Int), .tup (rv (r :: rs)), ecnV ecn]
theorem nl_app (a b : List Nat) : nl (a ++ b) = nl a ++ nl b := List.map_append
theorem ackN_len {delay : Nat} {r : Nat × Nat} {rs : List (Nat × Nat)} {ecn : Option (Nat × Nat × Nat)} (hl : rs.length ≤ 100) : (ackN delay r rs ecn).length ≤ 1000 := by
  have := mo_len rs r.1
  have h2 : (ecnL ecn).length ≤ 3 := by cases ecn with
    | none => decide
    | some p => exact Nat.le_refl _
  show ((_ :: _ :: _ :: _ :: _ :: mo r.1 rs) ++ ecnL ecn).length ≤ _
  rw [List.length_append]
  show (mo r.1 rs).length + 1 + 1 + 1 + 1 + 1 + _ ≤ _
  with_reducible (apply Mine.le_f; apply Nat.add_le_add; apply Nat.add_le_add; apply Nat.add_le_add; apply Nat.add_le_add; apply Nat.add_le_add; apply Nat.add_le_add; apply Mine.le_e; assumption; apply Nat.mul_le_mul_left; assumption; exact Mine.lit; exact Mine.lit; exact Mine.lit; exact Mine.lit; exact Mine.lit; assumption; decide)

theorem call124 {c : Nat} {σ : St} {delay : Nat} {r : Nat × Nat} {rs : List (Nat × Nat)} {ecn : Option (Nat × Nat × Nat)} (h1 : r.1 ≤ r.2) (h2 : Desc r.1 rs) (hl : rs.length ≤ 100) (hok : Ok62 (ackN delay r rs ecn)) :
    callF tab (c + 4) 124 [ackV delay r rs ecn] σ = some (.byt (rowB (ackN delay r rs ecn)), σ) := by
  have h103 := call103 (c := c) (σ := σ) (ackN_len hl) hok
  have hm := mo_len rs r.1
  refine c_fn rfl rfl (s_unp rfl rfl rfl (s_unp (e_call rfl (call117 h1 h2 hl)) rfl rfl ?_))
  have e : nl (ackN delay r rs ecn) = (.int ((ackK ecn : Nat) : Int) :: .int (r.2 : Int) :: .int (delay : Int) :: nl (rs.length :: (r.2 - r.1) :: mo r.1 rs)) ++ nl (ecnL ecn) := by
    unfold ackN
    rw [nl_app]; rfl
  have hlen : (PV.int ((ackK ecn : Nat) : Int) :: .int (r.2 : Int) :: .int (delay : Int) :: nl (rs.length :: (r.2 - r.1) :: mo r.1 rs)).length + (nl (ecnL ecn)).length ≤ 100000 := by
    rw [← List.length_append, ← e, nl_len]
    have := ackN_len (delay := delay) (r := r) (ecn := ecn) hl
    with_reducible (apply Mine.le_f; assumption; decide)
  have hlen2 : 3 + (nl (rs.length :: (r.2 - r.1) :: mo r.1 rs)).length ≤ 100000 := by
    rw [nl_len]
    show 3 + ((mo r.1 rs).length + 1 + 1) ≤ _
    with_reducible (apply Mine.le_f; apply Nat.add_le_add; exact Mine.lit; apply Nat.add_le_add; apply Nat.add_le_add; apply Mine.le_e; assumption; apply Nat.mul_le_mul_left; assumption; exact Mine.lit; exact Mine.lit; decide)
  rw [e] at h103
  cases ecn with
  | none =>
    exact s_asg (e_iteT (e_cmp rfl rfl rfl) rfl rfl) (s_ret (e_call (e_cons (e_bin (e_bin (e_bin (e_bin (e_lst (e_cons (e_iteT (e_cmp rfl rfl rfl) rfl rfl) e_nil)) rfl (add_lst (by show 1 + 1 ≤ _; (with_reducible decide)))) (e_lst (e_cons rfl e_nil)) (add_lst (by show 2 + 1 ≤ _; (with_reducible decide)))) rfl (add_lst hlen2)) rfl (add_lst hlen)) e_nil) h103))
  | some p =>
    exact s_asg (e_iteF (e_cmp rfl rfl rfl) rfl rfl) (s_ret (e_call (e_cons (e_bin (e_bin (e_bin (e_bin (e_lst (e_cons (e_iteF (e_cmp rfl rfl rfl) rfl rfl) e_nil)) rfl (add_lst (by show 1 + 1 ≤ _; (with_reducible decide)))) (e_lst (e_cons rfl e_nil)) (add_lst (by show 2 + 1 ≤ _; (with_reducible decide)))) rfl (add_lst hlen2)) rfl (add_lst hlen)) e_nil) h103))

/-! the law's own -/
theorem idx_tup {σ : St} {vs : List PV} {i : Nat} {v : PV} (h : vs[i]? = some v) (hi : i < 1000) : idxV σ (.tup vs) (.int (i : Int)) = some v := by
  show idxL vs (.int (i : Int)) = _
  unfold idxL
  rw [asI, sb, if_pos ⟨by (with_reducible exact Mine.nn), by unfold lim; omega⟩, Int.toNat_natCast]; exact h
noncomputable abbrev bd407 : PSs := .cons (.ifs (.cmp (.var 3) .gt (.lit (.int 0))) (.cons (.app 2 (.bin .sub (.bin .sub (.idx (.idx (.var 1) (.bin .sub (.var 3) (.lit (.int 1)))) (.lit (.int 0))) (.idx (.var 4) (.lit (.int 1)))) (.lit (.int 2)))) .nil) .nil) (.cons (.app 2 (.bin .sub (.idx (.var 4) (.lit (.int 1))) (.idx (.var 4) (.lit (.int 0))))) .nil)
noncomputable abbrev enumV (l : List PV) (k : Nat) : List PV := (l.zipIdx k).map fun z => .tup [.int (z.2 : Int), z.1]
theorem loop407 {cf : CF} {σ : St} {s0 s5 : Slot} : ∀ (rs pre : List (Nat × Nat)) (p : Nat × Nat) (ns : List Nat) (s3 s4 : Slot), Desc p.1 rs → pre.length + rs.length ≤ 200 → ns.length + 2 * rs.length ≤ 900 →
    ∃ s3' s4', forS (pairT 3 4 (xss cf bd407)) (enumV (rv rs) (pre.length + 1)) [s0, .val (.tup (rv (pre ++ p :: rs))), .ol (nl ns), s3, s4, s5] σ = some (.nxt [s0, .val (.tup (rv (pre ++ p :: rs))), .ol (nl (ns ++ mo p.1 rs)), s3', s4', s5] σ)
  | [], pre, p, ns, s3, s4, _, _, _ => ⟨_, _, by rw [mo, List.append_nil]; rfl⟩
  | r :: rs, pre, p, ns, s3, s4, ⟨h1, h2, h3⟩, hp, hl => by
    rw [List.length_cons] at hl hp
    have e : pre ++ p :: r :: rs = (pre ++ [p]) ++ r :: rs := by rw [List.append_assoc]; rfl
    obtain ⟨a, b, ih⟩ := loop407 (cf := cf) (σ := σ) (s0 := s0) (s5 := s5) rs (pre ++ [p]) r (ns ++ [p.1 - r.2 - 2] ++ [r.2 - r.1]) (.val (.int ((pre.length + 1 : Nat) : Int))) (.val (.tup [.int (r.1 : Int), .int (r.2 : Int)])) h3 (by rw [List.length_append]; show pre.length + 1 + _ ≤ _; with_reducible (apply Mine.sh1 <;> assumption)) (by rw [List.length_append, List.length_append]; show ns.length + 1 + 1 + _ ≤ _; with_reducible (apply Mine.sh3 <;> assumption))
    refine ⟨a, b, ?_⟩
    rw [e]
    have hg : (rv ((pre ++ [p]) ++ r :: rs))[pre.length]? = some (.tup [.int (p.1 : Int), .int (p.2 : Int)]) := by
      unfold rv
      rw [List.getElem?_map, List.append_assoc, List.getElem?_append_right (Nat.le_refl _), Nat.sub_self]; rfl
    have hi : idxV σ (.tup (rv ((pre ++ [p]) ++ r :: rs))) (.int (pre.length : Int)) = some (.tup [.int (p.1 : Int), .int (p.2 : Int)]) := idx_tup hg (by with_reducible (apply Mine.lt_f; apply Mine.tr_l; assumption; decide))
    have hs : bin .sub (.int ((pre.length + 1 : Nat) : Int)) (.int 1) = some (.int (pre.length : Int)) := by
      show some (PV.int (((pre.length + 1 : Nat) : Int) - 1)) = _
      rw [Int.natCast_add]
      show some (PV.int ((pre.length : Int) + 1 - 1)) = _
      rw [Int.add_sub_cancel]
    refine for_nx (ρ' := [s0, .val (.tup (rv ((pre ++ [p]) ++ r :: rs))), .ol (nl (ns ++ [p.1 - r.2 - 2] ++ [r.2 - r.1])), .val (.int ((pre.length + 1 : Nat) : Int)), .val (.tup [.int (r.1 : Int), .int (r.2 : Int)]), s5]) (σ₁ := σ) ?_ ?_
    · show xss cf bd407 [s0, .val (.tup (rv ((pre ++ [p]) ++ r :: rs))), .ol (nl ns), .val (.int ((pre.length + 1 : Nat) : Int)), .val (.tup [.int (r.1 : Int), .int (r.2 : Int)]), s5] σ = _
      have hc : ((pre.length + 1 : Nat) : Int) > 0 := by (with_reducible exact Mine.posI)
      generalize hk : ((pre.length + 1 : Nat) : Int) = kk at hs hc
      refine s_seq (s_ifT (e_cmp rfl rfl rfl) (dt hc) (s_app (x := .int ((p.1 - r.2 - 2 : Nat) : Int)) (e_bin (e_bin (e_idx (e_idx rfl (e_bin rfl rfl hs) hi) rfl rfl) rfl rfl) rfl (congrArg (fun z => some (PV.int z)) (sub2 h1))) rfl (by rw [nl_len]; with_reducible (apply Mine.lt_f; apply Mine.tr_l; assumption; decide)) xss_nil)) ?_
      refine s_app (x := .int ((r.2 - r.1 : Nat) : Int)) (e_bin rfl rfl (congrArg (fun z => some (PV.int z)) (sub1 h2))) rfl ?_ ?_
      · show (nl ns ++ _).length < _
        rw [List.length_append, nl_len]; show ns.length + 1 < _; with_reducible (apply Mine.lt_f; apply Nat.add_le_add; apply Mine.tr_l; assumption; exact Mine.lit; decide)
      · rw [xss_nil]
        unfold nl
        rw [List.map_append, List.map_append]; rfl
    · show forS _ (enumV (rv rs) (pre.length + 1 + 1)) _ _ = _
      have e2 : pre.length + 1 + 1 = (pre ++ [p]).length + 1 := by rw [List.length_append]; rfl
      rw [e2, ih]
      show some (XR.nxt [_, _, .ol (nl (ns ++ [p.1 - r.2 - 2] ++ [r.2 - r.1] ++ mo r.1 rs)), _, _, _] σ) = some (XR.nxt [_, _, .ol (nl (ns ++ (p.1 - r.2 - 2) :: (r.2 - r.1) :: mo r.1 rs)), _, _, _] σ)
      have e3 : ns ++ [p.1 - r.2 - 2] ++ [r.2 - r.1] ++ mo r.1 rs = ns ++ (p.1 - r.2 - 2) :: (r.2 - r.1) :: mo r.1 rs := by simp
      rw [e3]

theorem call407 {c : Nat} {σ : St} {delay : Nat} {r : Nat × Nat} {rs : List (Nat × Nat)} {ecn : Option (Nat × Nat × Nat)} (h1 : r.1 ≤ r.2) (h2 : Desc r.1 rs) (hl : rs.length ≤ 100) (hok : Ok62 (ackN delay r rs ecn)) :
    callF tab (c + 3) 407 [ackV delay r rs ecn] σ = some (.byt (rowB (ackN delay r rs ecn)), σ) := by
  have h400 := call400 (c := c) (σ := σ) (ackN_len hl) hok
  have hm := mo_len rs r.1
  obtain ⟨a, b, hloop⟩ := loop407 (cf := callF tab (c + 2)) (σ := σ) (s0 := .val (ackV delay r rs ecn)) (s5 := .un) rs [] r [r.2 - r.1] (.val (.int 0)) (.val (.tup [.int (r.1 : Int), .int (r.2 : Int)])) h2 (by show 0 + _ ≤ _; with_reducible (apply Mine.le_f; apply Nat.add_le_add; exact Mine.lit; assumption; decide)) (by show 1 + _ ≤ _; with_reducible (apply Mine.le_f; apply Nat.add_le_add; exact Mine.lit; apply Nat.mul_le_mul_left; assumption; decide))
  have e : nl (ackN delay r rs ecn) = ([PV.int ((ackK ecn : Nat) : Int), .int (r.2 : Int), .int (delay : Int), .int (rs.length : Int)] ++ nl ([r.2 - r.1] ++ mo r.1 rs)) ++ nl (ecnL ecn) := by
    unfold ackN
    rw [nl_app]; rfl
  have hlen : ([PV.int ((ackK ecn : Nat) : Int), .int (r.2 : Int), .int (delay : Int), .int (rs.length : Int)] ++ nl ([r.2 - r.1] ++ mo r.1 rs)).length + (nl (ecnL ecn)).length ≤ 100000 := by
    rw [← List.length_append, ← e, nl_len]
    have := ackN_len (delay := delay) (r := r) (ecn := ecn) hl
    with_reducible (apply Mine.le_f; assumption; decide)
  have hlen2 : 4 + (nl ([r.2 - r.1] ++ mo r.1 rs)).length ≤ 100000 := by
    rw [nl_len]
    show 4 + ((mo r.1 rs).length + 1) ≤ _
    with_reducible (apply Mine.le_f; apply Nat.add_le_add; exact Mine.lit; apply Nat.add_le_add; apply Mine.le_e; assumption; apply Nat.mul_le_mul_left; assumption; exact Mine.lit; decide)
  have hlr : biV .len [.tup (rv (r :: rs))] = some (.int ((rs.length : Int) + 1)) := by
    show (if (rv (r :: rs)).length ≤ lim then some (PV.int ((rv (r :: rs)).length : Int)) else none) = _
    rw [rv_len]
    exact if_pos (by show rs.length + 1 ≤ _; unfold lim; with_reducible (apply Mine.le_f; apply Nat.add_le_add; assumption; exact Mine.lit; decide))
  rw [e] at h400
  refine c_fn rfl rfl (s_asgTo rfl rfl rfl (s_seq (s_forE rfl rfl (for_nx (ρ' := [.val (ackV delay r rs ecn), .val (.tup (rv (r :: rs))), .ol (nl [r.2 - r.1]), .val (.int 0), .val (.tup [.int (r.1 : Int), .int (r.2 : Int)]), .un]) (σ₁ := σ) ?_ hloop)) ?_))
  · show xss (callF tab (c + 2)) bd407 [.val (ackV delay r rs ecn), .val (.tup (rv (r :: rs))), .ol [], .val (.int 0), .val (.tup [.int (r.1 : Int), .int (r.2 : Int)]), .un] σ = _
    exact s_skip (e_cmp rfl rfl rfl) rfl (s_app (x := .int ((r.2 - r.1 : Nat) : Int)) (e_bin rfl rfl (congrArg (fun z => some (PV.int z)) (sub1 h1))) rfl (by show 0 < 1000; (with_reducible decide)) rfl)
  · have hsub : bin .sub (.int ((rs.length : Int) + 1)) (.int 1) = some (.int (rs.length : Int)) := by
      show some (PV.int ((rs.length : Int) + 1 - 1)) = _
      rw [Int.add_sub_cancel]
    cases ecn with
    | none =>
      exact s_asgL (e_cons (e_iteF (e_cmp rfl rfl rfl) rfl rfl) (e_cons rfl (e_cons rfl (e_cons (e_bin (e_bi rfl hlr) rfl hsub) e_nil)))) (s_ret (e_call (e_cons (e_bin (e_bin rfl rfl (add_lst hlen2)) (e_iteF (e_cmp rfl rfl rfl) rfl rfl) (add_lst hlen)) e_nil) h400))
    | some p =>
      exact s_asgL (e_cons (e_iteT (e_cmp rfl rfl rfl) rfl rfl) (e_cons rfl (e_cons rfl (e_cons (e_bin (e_bi rfl hlr) rfl hsub) e_nil)))) (s_ret (e_call (e_cons (e_bin (e_bin rfl rfl (add_lst hlen2)) (e_iteT (e_cmp rfl rfl rfl) rfl rfl) (add_lst hlen)) e_nil) h400))
end Mine.P
end
section
namespace Mine.P
open PySem

inductive NK where | ping | reset | stop | maxd | maxsd | db | sdb | retire | hsd
noncomputable def NK.name : NK → Str
  | .ping => Str.ofString "ping" | .reset => Str.ofString "reset_stream" | .stop => Str.ofString "stop_sending" | .maxd => Str.ofString "max_data" | .maxsd => Str.ofString "max_stream_data"
  | .db => Str.ofString "data_blocked" | .sdb => Str.ofString "stream_data_blocked" | .retire => Str.ofString "retire_connection_id" | .hsd => Str.ofString "handshake_done"
noncomputable def NK.code : NK → Nat
  | .ping => 1 | .reset => 4 | .stop => 5 | .maxd => 16 | .maxsd => 17 | .db => 20 | .sdb => 21 | .retire => 25 | .hsd => 30
noncomputable def NK.cnt : NK → Nat
  | .ping => 0 | .reset => 3 | .stop => 2 | .maxd => 1 | .maxsd => 2 | .db => 1 | .sdb => 2 | .retire => 1 | .hsd => 0

inductive F where
  | nums (k : NK) (ns : List Nat)
  | ack (delay : Nat) (r : Nat × Nat) (rs : List (Nat × Nat)) (ecn : Option (Nat × Nat × Nat))
  | crypto (off : Nat) (d : List UInt8)
  | stream (num off : Nat) (d : List UInt8) (fin : Bool)
  | token (d : List UInt8)
  | streams (mx uni : Bool) (n : Nat)
  | newcid (seq prior : Nat) (cid tok : List UInt8)
  | path (ch : Bool) (d : List UInt8)
  | close (code : Nat) (ft : Option Nat) (d : List UInt8)
noncomputable def mxS (mx : Bool) : Str := if mx = true then Str.ofString "max_streams" else Str.ofString "streams_blocked"
noncomputable def chS (ch : Bool) : Str := if ch = true then Str.ofString "path_challenge" else Str.ofString "path_response"
noncomputable def optV : Option Nat → PV
  | none => .none
  | some n => .int (n : Int)
noncomputable def optL : Option Nat → List Nat
  | none => []
  | some n => [n]
noncomputable def posL (o : Nat) : List Nat := if o > 0 then [o] else []
noncomputable def b2 (b : Bool) : Nat := if b = true then 1 else 0
noncomputable def toldS (o : Nat) (last fin : Bool) : Nat := 8 + b2 fin + (if last = true then 0 else 2) + (if o > 0 then 4 else 0)
noncomputable def F.pv : F → PV
  | .nums k ns => .tup (.str k.name :: nl ns)
  | .ack delay r rs ecn => ackV delay r rs ecn
  | .crypto off d => .tup [.str (Str.ofString "crypto"), .int (off : Int), .byt d]
  | .stream n o d fin => .tup [.str (Str.ofString "stream"), .int (n : Int), .int (o : Int), .byt d, .bool fin]
  | .token d => .tup [.str (Str.ofString "new_token"), .byt d]
  | .streams mx uni n => .tup [.str (mxS mx), .bool uni, .int (n : Int)]
  | .newcid seq prior cid tok => .tup [.str (Str.ofString "new_connection_id"), .int (seq : Int), .int (prior : Int), .byt cid, .byt tok]
  | .path ch d => .tup [.str (chS ch), .byt d]
  | .close code ft d => .tup [.str (Str.ofString "close"), .int (code : Int), optV ft, .byt d]
noncomputable def ftC : Option Nat → Nat
  | none => 29
  | some _ => 28
noncomputable def F.head : F → List Nat
  | .nums k ns => k.code :: ns
  | .ack delay r rs ecn => ackN delay r rs ecn
  | .crypto off d => [6, off, d.length]
  | .stream n o d fin => toldS o false fin :: n :: (posL o ++ [d.length])
  | .token d => [7, d.length]
  | .streams mx uni n => [(if mx = true then 18 else 22) + b2 uni, n]
  | .newcid seq prior cid _ => [24, seq, prior, cid.length]
  | .path ch _ => [if ch = true then 26 else 27]
  | .close code ft d => ftC ft :: code :: (optL ft ++ [d.length])
noncomputable def F.body : F → List UInt8
  | .crypto _ d => d
  | .stream _ _ d _ => d
  | .token d => d
  | .newcid _ _ cid tok => cid ++ tok
  | .path _ d => d
  | .close _ _ d => d
  | _ => []
noncomputable def F.wire (f : F) : List UInt8 := rowB f.head ++ f.body
structure F.Ok (f : F) : Prop where
  head : Ok62 f.head
  len : f.head.length ≤ 1000
  body : f.body.length ≤ 100
  ack : ∀ delay r rs ecn, f = .ack delay r rs ecn → r.1 ≤ r.2 ∧ Desc r.1 rs ∧ rs.length ≤ 100
  nums : ∀ k ns, f = .nums k ns → ns.length = k.cnt

theorem rowB_cnt (ns : List Nat) (d : List UInt8) : rowB ns ++ cntd d = rowB (ns ++ [d.length]) ++ d := by
  rw [rowB_app, List.append_assoc]
  show _ = rowB ns ++ ((venc d.length ++ []) ++ d)
  rw [List.append_nil]; rfl
theorem venc_small {n : Nat} (h : n < 64) : venc n = [UInt8.ofNat n] := by
  unfold venc wn sz ix
  rw [if_pos h, if_pos h, Nat.zero_mul, Nat.zero_add]
  show [UInt8.ofNat (n % 256)] = _
  rw [Nat.mod_eq_of_lt (by with_reducible (apply Mine.lt_f; apply Mine.lt_l; assumption; decide))]

section
variable {cf : CF} {ρ : List Slot} {σ σ₁ : St} {a : PX} {ss tt : PSs} {X : Option XR}
theorem s_ne {k s : Str} (h1 : ev cf a ρ σ = some (.str k, σ)) (h : decide (k = s) = false) (h3 : xss cf ss ρ σ = X) : xss cf (.cons (.ifs (.cmp a .eq (.lit (.str s))) tt .nil) ss) ρ σ = X :=
  s_skip (e_cmp h1 rfl rfl) (fl h) h3
theorem s_eq {k s : Str} {r : PV} (h1 : ev cf a ρ σ = some (.str k, σ)) (h : decide (k = s) = true) (h3 : xss cf tt ρ σ = some (.ret r σ₁)) : xss cf (.cons (.ifs (.cmp a .eq (.lit (.str s))) tt .nil) ss) ρ σ = some (.ret r σ₁) :=
  s_take (e_cmp h1 rfl rfl) (tr h) h3
theorem s_nin {k : Str} {es : List (Str × PV)} {b : PX} (h1 : ev cf a ρ σ = some (.str k, σ)) (h2 : ev cf b ρ σ = some (.dcS es, σ)) (h : (findS k es).isSome = false) (h3 : xss cf ss ρ σ = X) : xss cf (.cons (.ifs (.cmp a .isIn b) tt .nil) ss) ρ σ = X :=
  s_skip (e_cmp h1 h2 rfl) (fl h) h3
end
theorem e_or2 {cf : CF} {ρ : List Slot} {σ : St} {a b : PX} {p q : Bool} (h1 : ev cf a ρ σ = some (.bool p, σ)) (h2 : ev cf b ρ σ = some (.bool q, σ)) : ev cf (.or a b) ρ σ = some (.bool (p || q), σ) := by
  cases p with
  | true => exact e_orT h1 rfl
  | false => exact e_orF h1 rfl h2
theorem ok_sub {a b : List Nat} (h : Ok62 (a ++ b)) : Ok62 a ∧ Ok62 b := ⟨fun n hn => h n (List.mem_append_left _ hn), fun n hn => h n (List.mem_append_right _ hn)⟩
theorem rowB_lt {ns : List Nat} (h : ns.length ≤ 1000) : (rowB ns).length ≤ 8000 := by
  have := rowB_len ns; with_reducible (apply Mine.le_f; apply Nat.le_trans; assumption; apply Nat.mul_le_mul_left; assumption; decide)
theorem cntd_len {d : List UInt8} : (cntd d).length ≤ 8 + d.length := by
  have := sz_le d.length
  unfold cntd
  rw [List.length_append, venc_len]; omega

/-! putting -/
theorem call138 {c : Nat} {σ : St} {seq prior : Nat} {cid tok : List UInt8} (h : (F.newcid seq prior cid tok).Ok) (h1 : cid.length < 64) : callF tab (c + 4) 138 [(F.newcid seq prior cid tok).pv] σ = some (.byt (F.newcid seq prior cid tok).wire, σ) := by
  have hs : seq < Top62 := h.head _ (.tail _ (.head _))
  have hp : prior < Top62 := h.head _ (.tail _ (.tail _ (.head _)))
  have hb := h.body
  have hb : (cid ++ tok).length ≤ 100 := hb
  rw [List.length_append] at hb
  have h103 := call103 (c := c) (σ := σ) (ns := [24, seq, prior]) (by show 3 ≤ 1000; (with_reducible decide)) (fun n hn => by
    rcases List.mem_cons.mp hn with rfl | hn
    · decide
    rcases List.mem_cons.mp hn with rfl | hn
    · exact hs
    rcases List.mem_cons.mp hn with rfl | hn
    · exact hp
    exact nomatch hn)
  have hl := rowB_lt (ns := [24, seq, prior]) (by show 3 ≤ 1000; (with_reducible decide))
  have hbt : biV .bytes [.lst [.int (cid.length : Int)]] = some (.byt [UInt8.ofNat cid.length]) := by
    show (if 1 ≤ lim then (octets? [.int (cid.length : Int)]).map PV.byt else none) = _
    rw [if_pos (by unfold lim; (with_reducible decide))]
    show ((octet? (.int (cid.length : Int))).bind _).map _ = _
    rw [octet_of (by with_reducible (apply Mine.lt_f; apply Mine.lt_l; assumption; decide))]; rfl
  have e : (F.newcid seq prior cid tok).wire = ((rowB [24, seq, prior] ++ [UInt8.ofNat cid.length]) ++ cid) ++ tok := by
    show rowB ([24, seq, prior] ++ [cid.length]) ++ (cid ++ tok) = _
    rw [rowB_app]
    show (_ ++ (venc cid.length ++ [])) ++ _ = _
    rw [venc_small h1, List.append_nil, List.append_assoc, List.append_assoc, List.append_assoc]
  rw [e]
  refine c_fn rfl rfl (s_unp rfl rfl rfl (s_ret (e_bin (e_bin (e_bin (e_call rfl h103) (e_bi (e_cons (e_lst (e_cons (e_bi rfl (len_byt (by with_reducible (apply Mine.le_f; apply Mine.lt_l; assumption; decide)))) e_nil)) e_nil) hbt) (add_byt (by show _ + 1 ≤ _; with_reducible (apply Mine.le_f; apply Nat.add_le_add; assumption; exact Mine.lit; decide)))) rfl (add_byt ?_)) rfl (add_byt ?_))))
  · rw [List.length_append]; show _ + 1 + _ ≤ _; with_reducible (apply Mine.le_f; apply Nat.add_le_add; apply Nat.add_le_add; assumption; exact Mine.lit; apply Mine.lt_l; assumption; decide)
  · rw [List.length_append, List.length_append]; show _ + 1 + _ + _ ≤ _; with_reducible (apply Mine.le_f; apply Nat.add_le_add; apply Nat.add_le_add; apply Nat.add_le_add; assumption; exact Mine.lit; apply Mine.lt_l; assumption; apply Mine.tr_r; assumption; decide)
theorem call145 {c : Nat} {σ : St} {code : Nat} {ft : Option Nat} {d : List UInt8} (h : (F.close code ft d).Ok) : callF tab (c + 4) 145 [(F.close code ft d).pv] σ = some (.byt (F.close code ft d).wire, σ) := by
  have hb : d.length ≤ 100 := h.body
  have h110 := call110 (c := c) (σ := σ) (d := d) (by with_reducible (apply Mine.le_f; assumption; decide))
  have hok := ok_sub (a := ftC ft :: code :: optL ft) (b := [d.length]) h.head
  have hl1 : (ftC ft :: code :: optL ft).length ≤ 1000 := by
    cases ft with
    | none => exact (show 2 ≤ 1000 by decide)
    | some n => exact (show 3 ≤ 1000 by decide)
  have h103 := call103 (c := c) (σ := σ) hl1 hok.1
  have hl := rowB_lt hl1
  have hc := cntd_len (d := d)
  have e : (F.close code ft d).wire = rowB (ftC ft :: code :: optL ft) ++ cntd d := (rowB_cnt (ftC ft :: code :: optL ft) d).symm
  rw [e]
  cases ft with
  | none => exact c_fn rfl rfl (s_unp rfl rfl rfl (s_take (e_cmp rfl rfl rfl) rfl (s_ret (e_bin (e_call rfl h103) (e_call rfl h110) (add_byt (by with_reducible (apply Mine.le_f; apply Nat.add_le_add; assumption; apply Nat.le_trans; assumption; apply Nat.add_le_add; exact Mine.lit; assumption; decide)))))))
  | some n => exact c_fn rfl rfl (s_unp rfl rfl rfl (s_skip (e_cmp rfl rfl rfl) rfl (s_ret (e_bin (e_call rfl h103) (e_call rfl h110) (add_byt (by with_reducible (apply Mine.le_f; apply Nat.add_le_add; assumption; apply Nat.le_trans; assumption; apply Nat.add_le_add; exact Mine.lit; assumption; decide)))))))

noncomputable def lastB (last : Bool) (d : List UInt8) : List UInt8 := if last = true then d else cntd d
noncomputable def strB (n o : Nat) (d : List UInt8) (fin last : Bool) : List UInt8 := rowB (toldS o last fin :: n :: posL o) ++ lastB last d
theorem toldS_lt (o : Nat) (last fin : Bool) : toldS o last fin < 64 := by
  unfold toldS b2
  repeat' split
  all_goals (with_reducible decide)
theorem ev_bit {cf : CF} {ρ : List Slot} {σ : St} {a : PX} {b : Bool} {i j : Int} (h : ev cf a ρ σ = some (.bool b, σ)) : ev cf (.ite a (.lit (.int i)) (.lit (.int j))) ρ σ = some (.int (if b = true then i else j), σ) := by
  cases b with
  | true => exact e_iteT h rfl rfl
  | false => exact e_iteF h rfl rfl
theorem pos_dec (o : Nat) : (o : Int) > 0 ↔ o > 0 := by omega
theorem posL_ev {cf : CF} {ρ : List Slot} {σ : St} {a : PX} {o : Nat} (h : ev cf a ρ σ = some (.int (o : Int), σ)) : ev cf (.ite (.cmp a .gt (.lit (.int 0))) (.lst (.cons a .nil)) (.lst .nil)) ρ σ = some (.lst (nl (posL o)), σ) := by
  unfold posL
  by_cases ho : o > 0
  · rw [if_pos ho]
    exact e_iteT (e_cmp h rfl rfl) (dt ((pos_dec o).mpr ho)) (e_lst (e_cons h e_nil))
  · rw [if_neg ho]
    exact e_iteF (e_cmp h rfl rfl) (df fun h => ho ((pos_dec o).mp h)) rfl
theorem pos4_ev {cf : CF} {ρ : List Slot} {σ : St} {a : PX} {o : Nat} (h : ev cf a ρ σ = some (.int (o : Int), σ)) : ev cf (.ite (.cmp a .gt (.lit (.int 0))) (.lit (.int 4)) (.lit (.int 0))) ρ σ = some (.int ((if o > 0 then 4 else 0 : Nat) : Int), σ) := by
  by_cases ho : o > 0
  · rw [if_pos ho]
    exact e_iteT (e_cmp h rfl rfl) (dt ((pos_dec o).mpr ho)) rfl
  · rw [if_neg ho]
    exact e_iteF (e_cmp h rfl rfl) (df fun h => ho ((pos_dec o).mp h)) rfl
theorem posL_len (o : Nat) : (posL o).length ≤ 1 := by unfold posL; split; exact Nat.le_refl 1; exact Nat.zero_le 1
theorem call131 {c : Nat} {σ : St} {n o : Nat} {d : List UInt8} {fin : Bool} (last : Bool) (hn : n < Top62) (ho : o < Top62) (hd : d.length ≤ 100) : callF tab (c + 4) 131 [(F.stream n o d fin).pv, .bool last] σ = some (.byt (strB n o d fin last), σ) := by
  have h110 := call110 (c := c) (σ := σ) (d := d) (by with_reducible (apply Mine.le_f; assumption; decide))
  have hp := posL_len o
  have hl1 : (toldS o last fin :: n :: posL o).length ≤ 1000 := by
    show (posL o).length + 1 + 1 ≤ _; with_reducible (apply Mine.le_f; apply Nat.add_le_add; apply Nat.add_le_add; assumption; exact Mine.lit; exact Mine.lit; decide)
  have h103 := call103 (c := c) (σ := σ) (ns := toldS o last fin :: n :: posL o) hl1 (fun m hm => by
    have := toldS_lt o last fin
    rcases List.mem_cons.mp hm with rfl | hm
    · unfold Top62; with_reducible (apply Mine.lt_f; apply Mine.lt_l; assumption; decide)
    rcases List.mem_cons.mp hm with rfl | hm
    · exact hn
    unfold posL at hm
    split at hm
    · rcases List.mem_cons.mp hm with rfl | hm
      · exact ho
      · exact nomatch hm
    · exact nomatch hm)
  have hl := rowB_lt hl1
  have hc := cntd_len (d := d)
  have e7 : ((8 + (if fin = true then 1 else 0) + (if last = true then 0 else 2) + ((if o > 0 then 4 else 0 : Nat) : Int) : Int)) = ((toldS o last fin : Nat) : Int) := by
    unfold toldS b2
    cases fin <;> cases last <;> (split <;> rfl)
  refine c_fn rfl rfl (s_unp rfl rfl rfl (s_asg (x := .int ((toldS o last fin : Nat) : Int)) (e_bin (e_bin (e_bin rfl (ev_bit rfl) rfl) (ev_bit rfl) rfl) (pos4_ev rfl) (congrArg (fun z => some (PV.int z)) e7)) ?_))
  refine s_asg (e_call (e_cons (e_bin (e_lst (e_cons rfl (e_cons rfl e_nil))) (posL_ev rfl) (add_lst (by show 2 + (nl (posL o)).length ≤ _; rw [nl_len]; with_reducible (apply Mine.le_f; apply Nat.add_le_add; exact Mine.lit; assumption; decide)))) e_nil) h103) ?_
  unfold strB lastB
  cases last with
  | true => exact s_ret (e_bin rfl (e_iteT rfl rfl rfl) (add_byt (by with_reducible (apply Mine.le_f; apply Nat.add_le_add; assumption; assumption; decide))))
  | false => exact s_ret (e_bin rfl (e_iteF rfl rfl (e_call rfl h110)) (add_byt (by with_reducible (apply Mine.le_f; apply Nat.add_le_add; assumption; apply Nat.le_trans; assumption; apply Nat.add_le_add; exact Mine.lit; assumption; decide))))
theorem str_wire (n o : Nat) (d : List UInt8) (fin : Bool) : strB n o d fin false = (F.stream n o d fin).wire := rowB_cnt (toldS o false fin :: n :: posL o) d

noncomputable def F.oct : F → Bool
  | .crypto .. | .token .. | .streams .. | .path .. => true
  | _ => false
theorem call152 {c : Nat} {σ : St} {f : F} (h : f.Ok) (ho : f.oct = true) : callF tab (c + 4) 152 [f.pv] σ = some (.byt f.wire, σ) := by
  have hb := h.body
  have hh := h.head
  cases f with
  | crypto off d =>
    have hb : d.length ≤ 100 := hb
    have h110 := call110 (c := c) (σ := σ) (d := d) (by with_reducible (apply Mine.le_f; assumption; decide))
    have hok := ok_sub (a := [6, off]) (b := [d.length]) hh
    have h103 := call103 (c := c) (σ := σ) (ns := [6, off]) (show 2 ≤ 1000 by decide) hok.1
    have hl := rowB_lt (ns := [6, off]) (show 2 ≤ 1000 by decide)
    have hc := cntd_len (d := d)
    have e : (F.crypto off d).wire = rowB [6, off] ++ cntd d := (rowB_cnt [6, off] d).symm
    rw [e]
    exact c_fn rfl rfl (s_asg rfl (s_eq rfl (by kernel_rfl) (s_ret (e_bin (e_call rfl h103) (e_call rfl h110) (add_byt (by with_reducible (apply Mine.le_f; apply Nat.add_le_add; assumption; apply Nat.le_trans; assumption; apply Nat.add_le_add; exact Mine.lit; assumption; decide)))))))
  | token d =>
    have hb : d.length ≤ 100 := hb
    have h110 := call110 (c := c) (σ := σ) (d := d) (by with_reducible (apply Mine.le_f; assumption; decide))
    have hok := ok_sub (a := [7]) (b := [d.length]) hh
    have h103 := call103 (c := c) (σ := σ) (ns := [7]) (show 1 ≤ 1000 by decide) hok.1
    have hl := rowB_lt (ns := [7]) (show 1 ≤ 1000 by decide)
    have hc := cntd_len (d := d)
    have e : (F.token d).wire = rowB [7] ++ cntd d := (rowB_cnt [7] d).symm
    rw [e]
    exact c_fn rfl rfl (s_asg rfl (s_ne rfl (by kernel_rfl) (s_eq rfl (by kernel_rfl) (s_ret (e_bin (e_call rfl h103) (e_call rfl h110) (add_byt (by with_reducible (apply Mine.le_f; apply Nat.add_le_add; assumption; apply Nat.le_trans; assumption; apply Nat.add_le_add; exact Mine.lit; assumption; decide))))))))
  | streams mx uni n =>
    have e : (F.streams mx uni n).wire = rowB [(if mx = true then 18 else 22) + b2 uni, n] := List.append_nil _
    have h103 := call103 (c := c) (σ := σ) (ns := [(if mx = true then 18 else 22) + b2 uni, n]) (show 2 ≤ 1000 by decide) hh
    rw [e]
    cases mx with
    | true =>
      refine c_fn rfl rfl (s_asg rfl (s_ne rfl (by kernel_rfl) (s_ne rfl (by kernel_rfl) (s_skip (e_orF (e_cmp rfl rfl rfl) (fl (by kernel_rfl)) (e_cmp rfl rfl rfl)) (fl (by kernel_rfl)) (s_eq rfl (by kernel_rfl) (s_ret (e_call (e_cons (e_lst (e_cons (ev_bit rfl) (e_cons rfl e_nil))) e_nil) ?_)))))))
      cases uni <;> exact h103
    | false =>
      refine c_fn rfl rfl (s_asg rfl (s_ne rfl (by kernel_rfl) (s_ne rfl (by kernel_rfl) (s_skip (e_orF (e_cmp rfl rfl rfl) (fl (by kernel_rfl)) (e_cmp rfl rfl rfl)) (fl (by kernel_rfl)) (s_ne rfl (by kernel_rfl) (s_eq rfl (by kernel_rfl) (s_ret (e_call (e_cons (e_lst (e_cons (ev_bit rfl) (e_cons rfl e_nil))) e_nil) ?_))))))))
      cases uni <;> exact h103
  | path ch d =>
    have hb : d.length ≤ 100 := hb
    have h103 := call103 (c := c) (σ := σ) (ns := [if ch = true then 26 else 27]) (show 1 ≤ 1000 by decide) hh
    have hl := rowB_lt (ns := [if ch = true then 26 else 27]) (show 1 ≤ 1000 by decide)
    show _ = some (PV.byt (rowB [if ch = true then 26 else 27] ++ d), σ)
    cases ch with
    | true =>
      exact c_fn rfl rfl (s_asg rfl (s_ne rfl (by kernel_rfl) (s_ne rfl (by kernel_rfl) (s_take (e_orT (e_cmp rfl rfl rfl) (tr (by kernel_rfl))) (tr (by kernel_rfl)) (s_ret (e_bin (e_call (e_cons (e_lst (e_cons (e_iteT (e_cmp rfl rfl rfl) (tr (by kernel_rfl)) rfl) e_nil)) e_nil) h103) rfl (add_byt (by with_reducible (apply Mine.le_f; apply Nat.add_le_add; assumption; assumption; decide)))))))))
    | false =>
      exact c_fn rfl rfl (s_asg rfl (s_ne rfl (by kernel_rfl) (s_ne rfl (by kernel_rfl) (s_take (e_orF (e_cmp rfl rfl rfl) (fl (by kernel_rfl)) (e_cmp rfl rfl rfl)) (tr (by kernel_rfl)) (s_ret (e_bin (e_call (e_cons (e_lst (e_cons (e_iteF (e_cmp rfl rfl rfl) (fl (by kernel_rfl)) rfl) e_nil)) e_nil) h103) rfl (add_byt (by with_reducible (apply Mine.le_f; apply Nat.add_le_add; assumption; assumption; decide)))))))))
  | _ => exact absurd ho Bool.false_ne_true
end Mine.P
end
section
namespace Mine.P
open PySem

noncomputable def tnL : List (Str × PV) := [(Str.ofString "ping", .int 1), (Str.ofString "reset_stream", .int 4), (Str.ofString "stop_sending", .int 5), (Str.ofString "max_data", .int 16), (Str.ofString "max_stream_data", .int 17), (Str.ofString "data_blocked", .int 20), (Str.ofString "stream_data_blocked", .int 21), (Str.ofString "retire_connection_id", .int 25), (Str.ofString "handshake_done", .int 30)]
theorem nk_find : ∀ k : NK, findS k.name tnL = some (.int (k.code : Int))
  | .ping => by kernel_rfl
  | .reset => by kernel_rfl
  | .stop => by kernel_rfl
  | .maxd => by kernel_rfl
  | .maxsd => by kernel_rfl
  | .db => by kernel_rfl
  | .sdb => by kernel_rfl
  | .retire => by kernel_rfl
  | .hsd => by kernel_rfl
theorem nk_pad : ∀ k : NK, decide (k.name = Str.ofString "padding") = false
  | .ping => by kernel_rfl
  | .reset => by kernel_rfl
  | .stop => by kernel_rfl
  | .maxd => by kernel_rfl
  | .maxsd => by kernel_rfl
  | .db => by kernel_rfl
  | .sdb => by kernel_rfl
  | .retire => by kernel_rfl
  | .hsd => by kernel_rfl
theorem tn_eq : tNumbers = .dcS tnL := rfl
theorem rest_ev {cf : CF} {ρ : List Slot} {σ : St} {k : Str} {ns : List Nat} (hl : ns.length ≤ 1000) (h : ev cf (.var 0) ρ σ = some (.tup (.str k :: nl ns), σ)) : ev cf (.bi .list (.cons (.slA (.var 0) (.lit (.int 1))) .nil)) ρ σ = some (.lst (nl ns), σ) := by
  refine e_bi (e_cons (e_slA (r := .tup (nl ns)) h rfl (if_pos ⟨by decide, ?_, ?_⟩)) e_nil) (if_pos ?_)
  · rw [nl_len]; unfold lim; with_reducible (apply Mine.le_f; assumption; decide)
  · show 1 ≤ (nl ns).length + 1; (with_reducible exact Mine.pos1)
  · show (nl ns).length + 1 ≤ _; rw [nl_len]; unfold lim; with_reducible (apply Mine.le_f; apply Nat.add_le_add; assumption; exact Mine.lit; decide)

noncomputable def F.cidOk : F → Prop
  | .newcid _ _ cid _ => cid.length < 64
  | _ => True
noncomputable def F.kind : F → Str
  | .nums k _ => k.name
  | .ack .. => Str.ofString "ack"
  | .crypto .. => Str.ofString "crypto"
  | .stream .. => Str.ofString "stream"
  | .token .. => Str.ofString "new_token"
  | .streams mx _ _ => mxS mx
  | .newcid .. => Str.ofString "new_connection_id"
  | .path ch _ => chS ch
  | .close .. => Str.ofString "close"
theorem kind_ev {cf : CF} {σ : St} {f : F} {r : List Slot} : ev cf (.idx (.var 0) (.lit (.int 0))) (.val f.pv :: r) σ = some (.str f.kind, σ) := by
  cases f <;> rfl
theorem put_oct {c : Nat} {σ : St} {f : F} (h : f.Ok) (ho : f.oct = true) (k1 : decide (f.kind = Str.ofString "padding") = false) (k2 : (findS f.kind tnL).isSome = false) (k3 : decide (f.kind = Str.ofString "ack") = false)
    (k4 : decide (f.kind = Str.ofString "stream") = false) (k5 : decide (f.kind = Str.ofString "new_connection_id") = false) (k6 : decide (f.kind = Str.ofString "close") = false) : callF tab (c + 5) 159 [f.pv] σ = some (.byt f.wire, σ) :=
  c_fn rfl rfl (s_asg kind_ev (s_ne rfl k1 (s_nin rfl rfl k2 (s_ne rfl k3 (s_ne rfl k4 (s_ne rfl k5 (s_ne rfl k6 (s_asg (e_call rfl (call152 h ho)) (s_skip (e_cmp rfl rfl rfl) rfl (s_ret rfl))))))))))
theorem call159 {c : Nat} {σ : St} {f : F} (h : f.Ok) (hc : f.cidOk) : callF tab (c + 5) 159 [f.pv] σ = some (.byt f.wire, σ) := by
  have hh := h.head
  cases f with
  | nums k ns =>
    have hl : ns.length + 1 ≤ 1000 := h.len
    have e : (F.nums k ns).wire = rowB (k.code :: ns) := List.append_nil _
    rw [e]
    have hb : bin .add (.lst [.int (k.code : Int)]) (.lst (nl ns)) = some (.lst (nl (k.code :: ns))) := add_lst (by show 1 + (nl ns).length ≤ _; rw [nl_len]; with_reducible (apply Mine.le_f; apply Nat.add_le_add; exact Mine.lit; apply Mine.tr_l; assumption; decide))
    refine c_fn rfl rfl (s_asg kind_ev (s_ne rfl (nk_pad k) (s_take (e_cmp rfl rfl rfl) (tr ?_) (s_ret (e_call (e_cons (e_bin (e_lst (e_cons (e_idx rfl rfl (nk_find k)) e_nil)) (rest_ev (by with_reducible (apply Nat.le_of_succ_le; assumption)) rfl) hb) e_nil) (call103 h.len hh))))))
    show (findS k.name tnL).isSome = true
    rw [nk_find]; rfl
  | ack delay r rs ecn =>
    obtain ⟨h1, h2, h3⟩ := h.ack _ _ _ _ rfl
    have e : (F.ack delay r rs ecn).wire = rowB (ackN delay r rs ecn) := List.append_nil _
    rw [e]
    exact c_fn rfl rfl (s_asg kind_ev (s_ne rfl (by kernel_rfl) (s_nin rfl rfl (by kernel_rfl) (s_eq rfl (by kernel_rfl) (s_ret (e_call rfl (call124 h1 h2 h3 hh)))))))
  | stream n o d fin =>
    have hn : n < Top62 := hh _ (.tail _ (.head _))
    have hb : d.length ≤ 100 := h.body
    have ho : o < Top62 := by
      by_cases ho : o > 0
      · refine hh o (.tail _ (.tail _ (List.mem_append_left _ ?_)))
        unfold posL
        rw [if_pos ho]; exact .head _
      · unfold Top62; omega
    rw [← str_wire]
    exact c_fn rfl rfl (s_asg kind_ev (s_ne rfl (by kernel_rfl) (s_nin rfl rfl (by kernel_rfl) (s_ne rfl (by kernel_rfl) (s_eq rfl (by kernel_rfl) (s_ret (e_call rfl (call131 false hn ho hb))))))))
  | newcid seq prior cid tok =>
    exact c_fn rfl rfl (s_asg kind_ev (s_ne rfl (by kernel_rfl) (s_nin rfl rfl (by kernel_rfl) (s_ne rfl (by kernel_rfl) (s_ne rfl (by kernel_rfl) (s_eq rfl (by kernel_rfl) (s_ret (e_call rfl (call138 h hc)))))))))
  | close code ft d =>
    exact c_fn rfl rfl (s_asg kind_ev (s_ne rfl (by kernel_rfl) (s_nin rfl rfl (by kernel_rfl) (s_ne rfl (by kernel_rfl) (s_ne rfl (by kernel_rfl) (s_ne rfl (by kernel_rfl) (s_eq rfl (by kernel_rfl) (s_ret (e_call rfl (call145 h))))))))))
  | crypto off d => exact put_oct h rfl (by kernel_rfl) (by kernel_rfl) (by kernel_rfl) (by kernel_rfl) (by kernel_rfl) (by kernel_rfl)
  | token d => exact put_oct h rfl (by kernel_rfl) (by kernel_rfl) (by kernel_rfl) (by kernel_rfl) (by kernel_rfl) (by kernel_rfl)
  | streams mx uni n => cases mx <;> exact put_oct h rfl (by kernel_rfl) (by kernel_rfl) (by kernel_rfl) (by kernel_rfl) (by kernel_rfl) (by kernel_rfl)
  | path ch d => cases ch <;> exact put_oct h rfl (by kernel_rfl) (by kernel_rfl) (by kernel_rfl) (by kernel_rfl) (by kernel_rfl) (by kernel_rfl)

/-! the law's own octets -/
noncomputable def plL : List (Str × PV) := [(Str.ofString "ping", .int 1), (Str.ofString "reset_stream", .int 4), (Str.ofString "stop_sending", .int 5), (Str.ofString "max_data", .int 16), (Str.ofString "max_stream_data", .int 17), (Str.ofString "data_blocked", .int 20)]
noncomputable def mrL : List (Str × PV) := [(Str.ofString "stream_data_blocked", .int 21), (Str.ofString "retire_connection_id", .int 25), (Str.ofString "handshake_done", .int 30)]
theorem nk_told : ∀ k : NK, findS k.name plL = some (.int (k.code : Int)) ∨ (findS k.name plL = none ∧ findS k.name mrL = some (.int (k.code : Int)))
  | .ping => .inl (by kernel_rfl)
  | .reset => .inl (by kernel_rfl)
  | .stop => .inl (by kernel_rfl)
  | .maxd => .inl (by kernel_rfl)
  | .maxsd => .inl (by kernel_rfl)
  | .db => .inl (by kernel_rfl)
  | .sdb => .inr ⟨by kernel_rfl, by kernel_rfl⟩
  | .retire => .inr ⟨by kernel_rfl, by kernel_rfl⟩
  | .hsd => .inr ⟨by kernel_rfl, by kernel_rfl⟩
section
variable {cf : CF} {ρ : List Slot} {σ σ₁ : St} {ss tt : PSs} {X : Option XR}
theorem s_nin2 {k : Str} (h1 : valAt ρ 1 = some (.str k)) (h2 : valAt ρ 2 = some (.dcS plL)) (h3 : valAt ρ 3 = some (.dcS mrL)) (k1 : (findS k plL).isSome = false) (k2 : (findS k mrL).isSome = false) (h : xss cf ss ρ σ = X) :
    xss cf (.cons (.ifs (.or (.cmp (.var 1) .isIn (.var 2)) (.cmp (.var 1) .isIn (.var 3))) tt .nil) ss) ρ σ = X := by
  have e1 : ev cf (.var 1) ρ σ = some (.str k, σ) := by rw [ev_var, h1]; rfl
  have e2 : ev cf (.var 2) ρ σ = some (.dcS plL, σ) := by rw [ev_var, h2]; rfl
  have e3 : ev cf (.var 3) ρ σ = some (.dcS mrL, σ) := by rw [ev_var, h3]; rfl
  exact s_skip (e_orF (e_cmp e1 e2 rfl) (fl k1) (e_cmp e1 e3 rfl)) (fl k2) h
theorem s_ne2 {k s t : Str} (h1 : ev cf (.var 1) ρ σ = some (.str k, σ)) (k1 : decide (k = s) = false) (k2 : decide (k = t) = false) (h : xss cf ss ρ σ = X) :
    xss cf (.cons (.ifs (.or (.cmp (.var 1) .eq (.lit (.str s))) (.cmp (.var 1) .eq (.lit (.str t)))) tt .nil) ss) ρ σ = X :=
  s_skip (e_orF (e_cmp h1 rfl rfl) (fl k1) (e_cmp h1 rfl rfl)) (fl k2) h
end
theorem bint {b : Bool} : biV .int [.bool b] = some (.int ((b2 b : Nat) : Int)) := by cases b <;> rfl

theorem call414 {c : Nat} {σ : St} {f : F} (h : f.Ok) (hc : f.cidOk) : callF tab (c + 4) 414 [f.pv] σ = some (.byt f.wire, σ) := by
  have hh := h.head
  have hl := h.len
  have hb := h.body
  cases f with
  | nums k ns =>
    have hl : ns.length + 1 ≤ 1000 := h.len
    have e : (F.nums k ns).wire = rowB (k.code :: ns) := List.append_nil _
    rw [e]
    have hb : bin .add (.lst [.int (k.code : Int)]) (.lst (nl ns)) = some (.lst (nl (k.code :: ns))) := add_lst (by show 1 + (nl ns).length ≤ _; rw [nl_len]; with_reducible (apply Mine.le_f; apply Nat.add_le_add; exact Mine.lit; apply Mine.tr_l; assumption; decide))
    have h400 := call400 (c := c + 1) (σ := σ) h.len hh
    refine c_fn rfl rfl (s_asg kind_ev (s_asg rfl (s_asg rfl ?_)))
    rcases nk_told k with hk | ⟨hk, hk'⟩
    · have e1 : (findS k.name plL).isSome = true := by rw [hk]; rfl
      exact s_take (e_orT (e_cmp rfl rfl rfl) (tr e1)) (tr e1) (s_ret (e_call (e_cons (e_bin (e_lst (e_cons (e_iteT (e_cmp rfl rfl rfl) (tr e1) (e_idx rfl rfl hk)) e_nil)) (rest_ev (by with_reducible (apply Nat.le_of_succ_le; assumption)) rfl) hb) e_nil) h400))
    · have e1 : (findS k.name plL).isSome = false := by rw [hk]; rfl
      have e2 : (findS k.name mrL).isSome = true := by rw [hk']; rfl
      exact s_take (e_orF (e_cmp rfl rfl rfl) (fl e1) (e_cmp rfl rfl rfl)) (tr e2) (s_ret (e_call (e_cons (e_bin (e_lst (e_cons (e_iteF (e_cmp rfl rfl rfl) (fl e1) (e_idx rfl rfl hk')) e_nil)) (rest_ev (by with_reducible (apply Nat.le_of_succ_le; assumption)) rfl) hb) e_nil) h400))
  | ack delay r rs ecn =>
    obtain ⟨h1, h2, h3⟩ := h.ack _ _ _ _ rfl
    have e : (F.ack delay r rs ecn).wire = rowB (ackN delay r rs ecn) := List.append_nil _
    rw [e]
    exact c_fn rfl rfl (s_asg kind_ev (s_asg rfl (s_asg rfl (s_nin2 rfl rfl rfl (by kernel_rfl) (by kernel_rfl) (s_eq rfl (by kernel_rfl) (s_ret (e_call rfl (call407 h1 h2 h3 hh))))))))
  | crypto off d =>
    have hb : d.length ≤ 100 := hb
    have h400 := call400 (c := c + 1) (σ := σ) hl hh
    have hr := rowB_lt hl
    exact c_fn rfl rfl (s_asg kind_ev (s_asg rfl (s_asg rfl (s_nin2 rfl rfl rfl (by kernel_rfl) (by kernel_rfl) (s_ne rfl (by kernel_rfl) (s_eq rfl (by kernel_rfl) (s_ret (e_bin (e_call (e_cons (e_lst (e_cons rfl (e_cons rfl (e_cons (e_bi rfl (len_byt (by with_reducible (apply Mine.le_f; assumption; decide)))) e_nil)))) e_nil) h400) rfl (add_byt (by with_reducible (apply Mine.le_f; apply Nat.add_le_add; assumption; assumption; decide)))))))))))
  | stream n o d fin =>
    have hb : d.length ≤ 100 := hb
    have h400 := call400 (c := c + 1) (σ := σ) hl hh
    have hr := rowB_lt hl
    have hp := posL_len o
    have e7 : ((10 + ((b2 fin : Nat) : Int) + ((if o > 0 then 4 else 0 : Nat) : Int) : Int)) = ((toldS o false fin : Nat) : Int) := by
      unfold toldS b2
      by_cases ho : o > 0
      · simp only [if_pos ho]; cases fin <;> rfl
      · simp only [if_neg ho]; cases fin <;> rfl
    have e : nl ((F.stream n o d fin).head) = ([PV.int ((toldS o false fin : Nat) : Int), .int (n : Int)] ++ nl (posL o)) ++ nl [d.length] := by
      show nl ([toldS o false fin, n] ++ (posL o ++ [d.length])) = _
      rw [nl_app, nl_app, ← List.append_assoc]; rfl
    rw [e] at h400
    refine c_fn rfl rfl (s_asg kind_ev (s_asg rfl (s_asg rfl (s_nin2 rfl rfl rfl (by kernel_rfl) (by kernel_rfl) (s_ne rfl (by kernel_rfl) (s_ne rfl (by kernel_rfl) (s_take (e_cmp rfl rfl rfl) (tr (by kernel_rfl)) ?_)))))))
    refine s_asg (x := .int ((toldS o false fin : Nat) : Int)) (e_bin (e_bin (e_bin rfl rfl rfl) (e_bi rfl bint) rfl) (pos4_ev rfl) (congrArg (fun z => some (PV.int z)) e7)) ?_
    exact s_ret (e_bin (e_call (e_cons (e_bin (e_bin (e_lst (e_cons rfl (e_cons rfl e_nil))) (posL_ev rfl) (add_lst (by show 2 + (nl (posL o)).length ≤ _; rw [nl_len]; with_reducible (apply Mine.le_f; apply Nat.add_le_add; exact Mine.lit; assumption; decide)))) (e_lst (e_cons (e_bi rfl (len_byt (by with_reducible (apply Mine.le_f; assumption; decide)))) e_nil)) (add_lst (by show ([PV.int _, PV.int _] ++ nl (posL o)).length + 1 ≤ _; rw [List.length_append, nl_len]; show 2 + _ + 1 ≤ _; with_reducible (apply Mine.le_f; apply Nat.add_le_add; apply Nat.add_le_add; exact Mine.lit; assumption; exact Mine.lit; decide)))) e_nil) h400) rfl (add_byt (by show (rowB (F.stream n o d fin).head).length + d.length ≤ _; with_reducible (apply Mine.le_f; apply Nat.add_le_add; assumption; assumption; decide))))
  | token d =>
    have hb : d.length ≤ 100 := hb
    have h400 := call400 (c := c + 1) (σ := σ) hl hh
    have hr := rowB_lt hl
    exact c_fn rfl rfl (s_asg kind_ev (s_asg rfl (s_asg rfl (s_nin2 rfl rfl rfl (by kernel_rfl) (by kernel_rfl) (s_ne rfl (by kernel_rfl) (s_ne rfl (by kernel_rfl) (s_ne rfl (by kernel_rfl) (s_eq rfl (by kernel_rfl) (s_ret (e_bin (e_call (e_cons (e_lst (e_cons rfl (e_cons (e_bi rfl (len_byt (by with_reducible (apply Mine.le_f; assumption; decide)))) e_nil))) e_nil) h400) rfl (add_byt (by with_reducible (apply Mine.le_f; apply Nat.add_le_add; assumption; assumption; decide)))))))))))))
  | streams mx uni n =>
    have h400 := call400 (c := c + 1) (σ := σ) hl hh
    have e : (F.streams mx uni n).wire = rowB [(if mx = true then 18 else 22) + b2 uni, n] := List.append_nil _
    rw [e]
    cases mx with
    | true =>
      refine c_fn rfl rfl (s_asg kind_ev (s_asg rfl (s_asg rfl (s_nin2 rfl rfl rfl (by kernel_rfl) (by kernel_rfl) (s_ne rfl (by kernel_rfl) (s_ne rfl (by kernel_rfl) (s_ne rfl (by kernel_rfl) (s_ne rfl (by kernel_rfl) (s_take (e_orT (e_cmp rfl rfl rfl) (tr (by kernel_rfl))) (tr (by kernel_rfl)) (s_ret (e_call (e_cons (e_lst (e_cons (e_bin (e_iteT (e_cmp rfl rfl rfl) (tr (by kernel_rfl)) rfl) (e_bi rfl bint) rfl) (e_cons rfl e_nil))) e_nil) ?_)))))))))))
      exact h400
    | false =>
      refine c_fn rfl rfl (s_asg kind_ev (s_asg rfl (s_asg rfl (s_nin2 rfl rfl rfl (by kernel_rfl) (by kernel_rfl) (s_ne rfl (by kernel_rfl) (s_ne rfl (by kernel_rfl) (s_ne rfl (by kernel_rfl) (s_ne rfl (by kernel_rfl) (s_take (e_orF (e_cmp rfl rfl rfl) (fl (by kernel_rfl)) (e_cmp rfl rfl rfl)) (tr (by kernel_rfl)) (s_ret (e_call (e_cons (e_lst (e_cons (e_bin (e_iteF (e_cmp rfl rfl rfl) (fl (by kernel_rfl)) rfl) (e_bi rfl bint) rfl) (e_cons rfl e_nil))) e_nil) ?_)))))))))))
      exact h400
  | newcid seq prior cid tok =>
    have hb : (cid ++ tok).length ≤ 100 := hb
    rw [List.length_append] at hb
    have h400 := call400 (c := c + 1) (σ := σ) hl hh
    have hr := rowB_lt hl
    have e : (F.newcid seq prior cid tok).wire = (rowB [24, seq, prior, cid.length] ++ cid) ++ tok := (List.append_assoc _ _ _).symm
    rw [e]
    exact c_fn rfl rfl (s_asg kind_ev (s_asg rfl (s_asg rfl (s_nin2 rfl rfl rfl (by kernel_rfl) (by kernel_rfl) (s_ne rfl (by kernel_rfl) (s_ne rfl (by kernel_rfl) (s_ne rfl (by kernel_rfl) (s_ne rfl (by kernel_rfl) (s_ne2 rfl (by kernel_rfl) (by kernel_rfl) (s_eq rfl (by kernel_rfl) (s_ret (e_bin (e_bin (e_call (e_cons (e_lst (e_cons rfl (e_cons rfl (e_cons rfl (e_cons (e_bi rfl (len_byt (by with_reducible (apply Mine.le_f; apply Mine.tr_l; assumption; decide)))) e_nil))))) e_nil) h400) rfl (add_byt (by with_reducible (apply Mine.le_f; apply Nat.add_le_add; assumption; apply Mine.tr_l; assumption; decide)))) rfl (add_byt (by rw [List.length_append]; with_reducible (apply Mine.le_f; apply Nat.add_le_add; apply Nat.add_le_add; assumption; apply Mine.tr_l; assumption; apply Mine.tr_r; assumption; decide)))))))))))))))
  | close code ft d =>
    have hb : d.length ≤ 100 := hb
    have h400 := call400 (c := c + 1) (σ := σ) hl hh
    have hr := rowB_lt hl
    have e : nl ((F.close code ft d).head) = ([PV.int ((ftC ft : Nat) : Int), .int (code : Int)] ++ nl (optL ft)) ++ nl [d.length] := by
      show nl ([ftC ft, code] ++ (optL ft ++ [d.length])) = _
      rw [nl_app, nl_app, ← List.append_assoc]; rfl
    rw [e] at h400
    refine c_fn rfl rfl (s_asg kind_ev (s_asg rfl (s_asg rfl (s_nin2 rfl rfl rfl (by kernel_rfl) (by kernel_rfl) (s_ne rfl (by kernel_rfl) (s_ne rfl (by kernel_rfl) (s_ne rfl (by kernel_rfl) (s_ne rfl (by kernel_rfl) (s_ne2 rfl (by kernel_rfl) (by kernel_rfl) (s_ne rfl (by kernel_rfl) (s_eq rfl (by kernel_rfl) ?_)))))))))))
    cases ft with
    | none =>
      exact s_ret (e_bin (e_call (e_cons (e_bin (e_bin (e_lst (e_cons (e_iteT (e_cmp rfl rfl rfl) rfl rfl) (e_cons rfl e_nil))) (e_iteT (e_cmp rfl rfl rfl) rfl rfl) (add_lst (by show 2 + 0 ≤ _; (with_reducible decide)))) (e_lst (e_cons (e_bi rfl (len_byt (by with_reducible (apply Mine.le_f; assumption; decide)))) e_nil)) (add_lst (by show 2 + 1 ≤ _; (with_reducible decide)))) e_nil) h400) rfl (add_byt (by show (rowB (F.close code none d).head).length + d.length ≤ _; with_reducible (apply Mine.le_f; apply Nat.add_le_add; assumption; assumption; decide))))
    | some n =>
      exact s_ret (e_bin (e_call (e_cons (e_bin (e_bin (e_lst (e_cons (e_iteF (e_cmp rfl rfl rfl) rfl rfl) (e_cons rfl e_nil))) (e_iteF (e_cmp rfl rfl rfl) rfl rfl) (add_lst (by show 2 + 1 ≤ _; (with_reducible decide)))) (e_lst (e_cons (e_bi rfl (len_byt (by with_reducible (apply Mine.le_f; assumption; decide)))) e_nil)) (add_lst (by show 3 + 1 ≤ _; (with_reducible decide)))) e_nil) h400) rfl (add_byt (by show (rowB (F.close code (some n) d).head).length + d.length ≤ _; with_reducible (apply Mine.le_f; apply Nat.add_le_add; assumption; assumption; decide))))
  | path ch d =>
    have hb : d.length ≤ 100 := hb
    have hbt : ∀ n : Nat, n < 64 → biV .bytes [.lst [.int (n : Int)]] = some (.byt (rowB [n])) := fun n hn => by
      show (if 1 ≤ lim then (octets? [.int (n : Int)]).map PV.byt else none) = _
      rw [if_pos (by unfold lim; (with_reducible decide))]
      show ((octet? (.int (n : Int))).bind _).map _ = _
      rw [octet_of (by with_reducible (apply Mine.lt_f; apply Mine.lt_l; assumption; decide))]
      show some (PV.byt [UInt8.ofNat n]) = some (PV.byt (venc n ++ []))
      rw [venc_small hn]; rfl
    show _ = some (PV.byt (rowB [if ch = true then 26 else 27] ++ d), σ)
    have hr := rowB_lt (ns := [if ch = true then 26 else 27]) (show 1 ≤ 1000 by decide)
    cases ch with
    | true =>
      exact c_fn rfl rfl (s_asg kind_ev (s_asg rfl (s_asg rfl (s_nin2 rfl rfl rfl (by kernel_rfl) (by kernel_rfl) (s_ne rfl (by kernel_rfl) (s_ne rfl (by kernel_rfl) (s_ne rfl (by kernel_rfl) (s_ne rfl (by kernel_rfl) (s_ne2 rfl (by kernel_rfl) (by kernel_rfl) (s_ne rfl (by kernel_rfl) (s_ne rfl (by kernel_rfl) (s_ret (e_bin (e_bi (e_cons (e_lst (e_cons (e_iteT (e_cmp rfl rfl rfl) (tr (by kernel_rfl)) rfl) e_nil)) e_nil) (hbt 26 (by decide))) rfl (add_byt (show (rowB [if true = true then 26 else 27]).length + d.length ≤ 100000 by with_reducible (apply Mine.le_f; apply Nat.add_le_add; assumption; assumption; decide))))))))))))))))
    | false =>
      exact c_fn rfl rfl (s_asg kind_ev (s_asg rfl (s_asg rfl (s_nin2 rfl rfl rfl (by kernel_rfl) (by kernel_rfl) (s_ne rfl (by kernel_rfl) (s_ne rfl (by kernel_rfl) (s_ne rfl (by kernel_rfl) (s_ne rfl (by kernel_rfl) (s_ne2 rfl (by kernel_rfl) (by kernel_rfl) (s_ne rfl (by kernel_rfl) (s_ne rfl (by kernel_rfl) (s_ret (e_bin (e_bi (e_cons (e_lst (e_cons (e_iteF (e_cmp rfl rfl rfl) (fl (by kernel_rfl)) rfl) e_nil)) e_nil) (hbt 27 (by decide))) rfl (add_byt (show (rowB [if false = true then 26 else 27]).length + d.length ≤ 100000 by with_reducible (apply Mine.le_f; apply Nat.add_le_add; assumption; assumption; decide))))))))))))))))
end Mine.P
end
section
namespace Mine.P
open PySem

structure At (d : List UInt8) (a : Nat) (t : List UInt8) : Prop where
  sp : ∃ pre, d = pre ++ t ∧ a = pre.length
noncomputable abbrev R (σ : St) (d : List UInt8) (a : Nat) : St := σ ++ [.inst (some (.byt d)) (some (.int (a : Int)))]
theorem At.start (d : List UInt8) : At d 0 d := ⟨[], rfl, rfl⟩
theorem At.go {d x t : List UInt8} {a : Nat} (h : At d a (x ++ t)) : At d (a + x.length) t := by
  obtain ⟨pre, h1, h2⟩ := h.sp
  exact ⟨pre ++ x, by rw [h1, List.append_assoc], by rw [List.length_append, h2]⟩
theorem At.len {d t : List UInt8} {a : Nat} (h : At d a t) : d.length = a + t.length := by
  obtain ⟨pre, h1, h2⟩ := h.sp
  rw [h1, List.length_append, h2]
theorem At.drop {d t : List UInt8} {a : Nat} (h : At d a t) : d.drop a = t := by
  obtain ⟨pre, h1, h2⟩ := h.sp
  rw [h1, h2, List.drop_left]
theorem At.slice {d x t : List UInt8} {a : Nat} (h : At d a (x ++ t)) : sl (a : Int) ((a + x.length : Nat) : Int) d = x := by
  obtain ⟨pre, h1, h2⟩ := h.sp
  unfold sl
  rw [Int.toNat_natCast, Int.toNat_natCast, List.drop_take, h.drop, Nat.add_sub_cancel_left, List.take_left]
theorem At.get {d t : List UInt8} {b : UInt8} {a : Nat} (h : At d a (b :: t)) : d[a]? = some b := by
  obtain ⟨pre, h1, h2⟩ := h.sp
  rw [h1, h2, List.getElem?_append_right (Nat.le_refl _), Nat.sub_self]; rfl

/-! numbers are read -/
noncomputable def deF (v : Nat) (b : UInt8) : Nat := v * 256 + b.toNat
theorem de_be : ∀ (s W v : Nat), (be s W).foldl deF v = v * 256 ^ s + W % 256 ^ s
  | 0, W, v => by rw [Nat.pow_zero, Nat.mul_one, Nat.mod_one]; rfl
  | s + 1, W, v => by
    rw [be, List.foldl_append, de_be s (W / 256) v]
    show (v * 256 ^ s + W / 256 % 256 ^ s) * 256 + (UInt8.ofNat (W % 256)).toNat = _
    rw [u8_toNat (Nat.mod_lt _ (by decide)), Nat.pow_succ', Nat.mod_mul, Nat.add_mul, Nat.mul_assoc, Nat.mul_comm (256 ^ s) 256]
    (with_reducible exact Mine.ad1)
theorem loop76 {cf : CF} {σ : St} {s0 s1 s2 : Slot} : ∀ (l : List UInt8) (j v : Nat) (s4 : Slot), v < 256 ^ j → j + l.length ≤ 8 →
    ∃ s4', forS (fun w ρ σ => xss cf (.cons (.asg 3 (.bin .add (.bin .mul (.var 3) (.lit (.int 256))) (.var 4))) .nil) (ρ.set 4 (.val w)) σ) (intsV l) [s0, s1, s2, .val (.int (v : Int)), s4] σ = some (.nxt [s0, s1, s2, .val (.int ((l.foldl deF v : Nat) : Int)), s4'] σ)
  | [], _, v, s4, _, _ => ⟨_, rfl⟩
  | b :: l, j, v, s4, hv, hl => by
    rw [List.length_cons] at hl
    have hb := b.toNat_lt
    have hp : 256 ^ j ≤ 256 ^ 7 := Nat.pow_le_pow_right (by decide) (by omega)
    obtain ⟨s4', ih⟩ := loop76 (cf := cf) (σ := σ) (s0 := s0) (s1 := s1) (s2 := s2) l (j + 1) (deF v b) (.val (.int (b.toNat : Int))) (by unfold deF; rw [Nat.pow_succ]; with_reducible (apply Mine.bb1 <;> assumption)) (by with_reducible (apply Mine.sh1 <;> assumption))
    refine ⟨s4', for_nx ?_ ih⟩
    have hm : bin .mul (.int (v : Int)) (.int 256) = some (.int ((v : Int) * 256)) := by
      show (if (small (v : Int) && small 256) = true then _ else none) = _
      have : small (v : Int) = true := decide_eq_true (by rw [Int.natAbs_natCast]; omega)
      rw [this]; rfl
    exact s_asg (e_bin (e_bin rfl rfl hm) rfl rfl) rfl
theorem call76 {c : Nat} {σ : St} {d t : List UInt8} {a s W : Nat} (h : At d a (be s W ++ t)) (hd : d.length ≤ 10000) (hs : s ≤ 8) (hW : W < 256 ^ s) :
    callF tab (c + 1) 76 [.byt d, .int (a : Int), .int (s : Int)] σ = some (.int (W : Int), σ) := by
  have hl := h.len
  rw [List.length_append, be_len] at hl
  obtain ⟨s4', hloop⟩ := loop76 (cf := callF tab c) (σ := σ) (s0 := .val (.byt d)) (s1 := .val (.int (a : Int))) (s2 := .val (.int (s : Int))) (be s W) 0 0 .un (by decide) (by rw [be_len]; with_reducible (apply Mine.le_f; apply Nat.add_le_add; exact Mine.lit; assumption; decide))
  rw [de_be, Nat.zero_mul, Nat.zero_add, Nat.mod_eq_of_lt hW] at hloop
  have hsl := h.slice
  rw [be_len] at hsl
  have e1 : slAB (.byt d) (.int (a : Int)) (.int ((a : Int) + (s : Int))) = some (.byt (be s W)) := by
    show (if 0 ≤ (a : Int) ∧ 0 ≤ (a : Int) + (s : Int) ∧ d.length ≤ lim then some (PV.byt (sl (a : Int) ((a : Int) + (s : Int)) d)) else none) = _
    rw [if_pos ⟨by (with_reducible exact Mine.nn), by (with_reducible exact Mine.nn2), by unfold lim; with_reducible (apply Mine.le_f; assumption; decide)⟩]
    exact congrArg (fun x => some (PV.byt x)) hsl
  refine c_fn rfl rfl (s_skip (e_cmp (e_bin rfl rfl rfl) (e_bi rfl (if_pos (by unfold lim; with_reducible (apply Mine.le_f; assumption; decide)))) rfl) (df (by show ¬ ((a : Int) + (s : Int) > (d.length : Int)); with_reducible (apply Mine.ngs2 <;> assumption))) (s_asg rfl ?_))
  exact s_seq (s_for1 (e_slAB rfl rfl (e_bin rfl rfl rfl) e1) rfl hloop) (s_ret rfl)

theorem first_ix {n : Nat} (h : n < Top62) : ∃ b r, venc n = b :: r ∧ b.toNat / 64 = ix n := by
  unfold venc wn
  have hv := szv h
  generalize 8 * sz n - 2 = k at hv ⊢
  generalize sz n = s at hv ⊢
  generalize ix n = i at hv ⊢
  cases hv with
  | s1 h => exact ⟨_, _, be_top 0 _, by rw [u8_toNat (Nat.mod_lt _ (by decide))]; with_reducible (apply Mine.fx1 <;> assumption)⟩
  | s2 l h => exact ⟨_, _, be_top 1 _, by rw [u8_toNat (Nat.mod_lt _ (by decide))]; with_reducible (apply Mine.fx2 <;> assumption)⟩
  | s4 l h => exact ⟨_, _, be_top 3 _, by rw [u8_toNat (Nat.mod_lt _ (by decide))]; with_reducible (apply Mine.fx4 <;> assumption)⟩
  | s8 l h => exact ⟨_, _, be_top 7 _, by rw [u8_toNat (Nat.mod_lt _ (by decide))]; with_reducible (apply Mine.fx8 <;> assumption)⟩
theorem call97 {c : Nat} {σ : St} {d t : List UInt8} {a n : Nat} (h : At d a (venc n ++ t)) (hd : d.length ≤ 10000) (hn : n < Top62) :
    callF tab (c + 2) 97 [.byt d, .int (a : Int)] σ = some (.tup [.int (n : Int), .int ((a + sz n : Nat) : Int)], σ) := by
  have hl := h.len
  rw [List.length_append, venc_len] at hl
  obtain ⟨b, r, hb, hi⟩ := first_ix hn
  have hg : d[a]? = some b := by
    refine At.get (t := r ++ t) ?_
    rw [hb] at h; exact h
  have hs8 := sz_le n
  have h76 := call76 (c := c) (σ := σ) (s := sz n) (W := wn n) h hd hs8 (by have := wn_lt hn; rw [Nat.pow_mul] at this; exact this)
  have e0 : idxV σ (.byt d) (.int (a : Int)) = some (.int (b.toNat : Int)) := by
    show (if 0 ≤ (a : Int) ∧ d.length ≤ lim then (d[(a : Int).toNat]?).map _ else none) = _
    rw [if_pos ⟨by (with_reducible exact Mine.nn), by unfold lim; with_reducible (apply Mine.le_f; assumption; decide)⟩, Int.toNat_natCast, hg]; rfl
  have e1 : bin .shr (.int (b.toNat : Int)) (.int 6) = some (.int ((ix n : Nat) : Int)) := by
    rw [← hi]
    show (onlyIf (0 ≤ (b.toNat : Int) ∧ (0 : Int) ≤ 6 ∧ (6 : Int) ≤ 64) ((b.toNat : Int) / 2 ^ (6 : Int).toNat)).map PV.int = _
    unfold onlyIf
    rw [if_pos ⟨by (with_reducible exact Mine.nn), by decide, by decide⟩]; rfl
  unfold wn at h76
  have hv := szv hn
  generalize 8 * sz n - 2 = k at hv h76
  generalize sz n = s at hv h76 hl hs8 ⊢
  generalize ix n = i at hv h76 e1
  have main : ∀ s i k : Nat, idxV σ tSizes (.int (i : Int)) = some (.int (s : Int)) → bin .mul (.int 8) (.int (s : Int)) = some (.int ((k : Int) + 2)) → bin .shl (.int 1) (.int (k : Int)) = some (.int ((2 ^ k : Nat) : Int)) → n < 2 ^ k → 1 ≤ s → d.length = a + (s + t.length) →
      bin .shr (.int (b.toNat : Int)) (.int 6) = some (.int (i : Int)) → callF tab (c + 1) 76 [.byt d, .int (a : Int), .int (s : Int)] σ = some (.int ((i * 2 ^ k + n : Nat) : Int), σ) →
      callF tab (c + 2) 97 [.byt d, .int (a : Int)] σ = some (.tup [.int (n : Int), .int ((a + s : Nat) : Int)], σ) := by
    intro s i k hix hmul hshl hn hs1 hl e1 h76
    have hand : bin .band (.int ((i * 2 ^ k + n : Nat) : Int)) (.int (((2 ^ k : Nat) : Int) - 1)) = some (.int (n : Int)) := by
      show (onlyIf (0 ≤ ((i * 2 ^ k + n : Nat) : Int) ∧ 0 ≤ ((2 ^ k : Nat) : Int) - 1) ((((i * 2 ^ k + n : Nat) : Int).toNat &&& (((2 ^ k : Nat) : Int) - 1).toNat : Nat) : Int)).map PV.int = _
      have hp : 0 < 2 ^ k := Nat.pow_pos (by decide)
      unfold onlyIf
      rw [if_pos ⟨by (with_reducible exact Mine.nn), by omega⟩, Int.toNat_natCast, show (((2 ^ k : Nat) : Int) - 1).toNat = 2 ^ k - 1 by (with_reducible exact Mine.tn1), Nat.and_two_pow_sub_one_eq_mod, Nat.mul_add_mod_self_right, Nat.mod_eq_of_lt hn]; rfl
    have hsub : bin .sub (.int ((k : Int) + 2)) (.int 2) = some (.int (k : Int)) := by
      show some (PV.int ((k : Int) + 2 - 2)) = _
      rw [Int.add_sub_cancel]
    refine c_fn rfl rfl (s_skip (e_cmp rfl (e_bi rfl (if_pos (by unfold lim; with_reducible (apply Mine.le_f; assumption; decide)))) rfl) (df (by show ¬ ((a : Int) ≥ (d.length : Int)); with_reducible (apply Mine.nge1 <;> assumption))) (s_asg (e_idx rfl (e_bin (e_idx rfl rfl e0) rfl e1) hix) ?_))
    exact s_ret (e_tup (e_cons (e_bin (e_call rfl h76) (e_bin (e_bin rfl (e_bin (e_bin rfl rfl hmul) rfl hsub) hshl) rfl rfl) hand) (e_cons (e_bin rfl rfl rfl) e_nil)))
  cases hv with
  | s1 h => exact main 1 0 6 rfl rfl rfl h (by decide) hl e1 h76
  | s2 _ h => exact main 2 1 14 rfl rfl rfl h (by decide) hl e1 h76
  | s4 _ h => exact main 4 2 30 rfl rfl rfl h (by decide) hl e1 h76
  | s8 _ h => exact main 8 3 62 rfl rfl rfl h (by decide) hl e1 h76
end Mine.P
end
section
namespace Mine.P
open PySem

section
variable {cf : CF} {ρ ρ' : List Slot} {σ σ₁ σ₂ σ₃ : St} {x y r : PV} {a b : PX} {X : Option XR} {ss : PSs} {d t : List UInt8} {p q : Nat}
theorem inst_R : instAt (R σ d p) σ.length = some (some (.byt d), some (.int (p : Int))) := by
  show ((σ ++ [MO.inst _ _])[σ.length]?).bind asInst = _
  rw [List.getElem?_append_right (Nat.le_refl _), Nat.sub_self]; rfl
theorem attr_d : attrV (R σ d p) false (.loc σ.length) = some (.byt d) := by
  show (instAt (R σ d p) σ.length).bind _ = _
  rw [inst_R]; rfl
theorem attr_a : attrV (R σ d p) true (.loc σ.length) = some (.int (p : Int)) := by
  show (instAt (R σ d p) σ.length).bind _ = _
  rw [inst_R]; rfl
theorem set_R : setAttrV (R σ d p) true (.loc σ.length) (.int (q : Int)) = some (R σ d q) := by
  show (instAt (R σ d p) σ.length).bind _ = _
  rw [inst_R]
  show some ((σ ++ [MO.inst _ _]).set σ.length _) = _
  rw [List.set_append_right _ _ (Nat.le_refl _), Nat.sub_self]; rfl
theorem e_attr {fld : Bool} (h1 : ev cf a ρ σ = some (x, σ₁)) (h2 : attrV σ₁ fld x = some r) : ev cf (.attr a fld) ρ σ = some (r, σ₁) := by
  rw [ev_attr, h1, sb, h2]; rfl
theorem e_meth {f k : Nat} {xs : PXs} {vs : List PV} {z : Option PV × Option PV} (h1 : ev cf a ρ σ = some (.loc k, σ₁)) (h2 : instAt σ₁ k = some z) (h3 : evs cf xs ρ σ₁ = some (vs, σ₂)) (h4 : cf f (.loc k :: vs) σ₂ = some (r, σ₃)) : ev cf (.meth f a xs) ρ σ = some (r, σ₃) := by
  rw [ev_meth, h1, sb]
  show (instAt σ₁ k).bind _ = _
  rw [h2, sb, h3, sb]; exact h4
theorem s_augA {i : Nat} {fld : Bool} {u v w : Int} {o : PV} {z : Int} (h1 : valAt ρ i = some o) (h2 : attrV σ fld o = some (.int u)) (h3 : ev cf a ρ σ = some (.int v, σ₁)) (h4 : u + v = w) (h5 : setAttrV σ₁ fld o (.int w) = some σ₂) (h6 : xss cf ss ρ σ₂ = X) :
    xss cf (.cons (.augA i fld .add a) ss) ρ σ = X := by
  refine s_seq ?_ h6
  rw [xs_augA, h1, sb, h2, sb]
  show (ev cf a ρ σ).bind _ = _
  rw [h3, sb]
  show (setAttrV σ₁ fld o (.int (u + v))).map _ = _
  rw [h4, h5]; rfl
end
section
variable {c : Nat} {σ : St} {d t x : List UInt8} {a n : Nat}
noncomputable abbrev rd (σ : St) : PV := .loc σ.length
theorem call206 (hd : d.length ≤ 10000) : callF tab (c + 1) 206 [rd σ] (R σ d a) = some (.int ((d.length : Int) - (a : Int)), R σ d a) :=
  c_fn rfl rfl (s_ret (e_bin (e_bi (e_cons (e_attr rfl attr_d) e_nil) (if_pos (by unfold lim; with_reducible (apply Mine.le_f; assumption; decide)))) (e_attr rfl attr_a) rfl))
theorem call213 (h : At d a (x ++ t)) (hd : d.length ≤ 10000) : callF tab (c + 2) 213 [rd σ, .int (x.length : Int)] (R σ d a) = some (.byt x, R σ d (a + x.length)) := by
  have hl := h.len
  rw [List.length_append] at hl
  have e1 : slAB (.byt d) (.int (a : Int)) (.int ((a + x.length : Nat) : Int)) = some (.byt x) := by
    show (if 0 ≤ (a : Int) ∧ 0 ≤ ((a + x.length : Nat) : Int) ∧ d.length ≤ lim then some (PV.byt (sl (a : Int) ((a + x.length : Nat) : Int) d)) else none) = _
    rw [if_pos ⟨by (with_reducible exact Mine.nn), by (with_reducible exact Mine.nn), by unfold lim; with_reducible (apply Mine.le_f; assumption; decide)⟩, h.slice]
  have e2 : bin .sub (.int ((a + x.length : Nat) : Int)) (.int (x.length : Int)) = some (.int (a : Int)) := by
    show some (PV.int (((a + x.length : Nat) : Int) - (x.length : Int))) = _
    rw [Int.natCast_add, Int.add_sub_cancel]
  refine c_fn rfl rfl (s_skip (e_cmp rfl (e_meth rfl inst_R rfl (call206 hd)) rfl) (df (by show ¬ ((x.length : Int) > (d.length : Int) - (a : Int)); with_reducible (apply Mine.ngs <;> assumption))) ?_)
  refine s_augA (z := 0) rfl attr_a rfl (w := ((a + x.length : Nat) : Int)) (by omega) set_R ?_
  exact s_ret (e_slAB (e_attr rfl attr_d) (e_bin (e_attr rfl attr_a) rfl e2) (e_attr rfl attr_a) e1)
theorem call234 (h : At d a (venc n ++ t)) (hd : d.length ≤ 10000) (hn : n < Top62) : callF tab (c + 3) 234 [rd σ] (R σ d a) = some (.int (n : Int), R σ d (a + sz n)) := by
  refine c_fn rfl rfl (s_seq (ρ' := [.val (rd σ), .val (.int (n : Int))]) (σ₁ := R σ d (a + sz n)) ?_ (s_ret rfl))
  have h97 := call97 (c := c) (σ := R σ d a) h hd hn
  rw [xs_unpA, e_call (e_cons (e_attr rfl attr_d) (e_cons (e_attr rfl attr_a) e_nil)) h97, sb]
  show (setAttrV (R σ d a) true (rd σ) (.int ((a + sz n : Nat) : Int))).map _ = _
  rw [set_R]; rfl
theorem call227 {W : Nat} (h : At d a (be 1 W ++ t)) (hd : d.length ≤ 10000) (hW : W < 256) : callF tab (c + 2) 227 [rd σ, .int 1] (R σ d a) = some (.int (W : Int), R σ d (a + 1)) :=
  c_fn rfl rfl (s_asg (e_call (e_cons (e_attr rfl attr_d) (e_cons (e_attr rfl attr_a) (e_cons rfl e_nil))) (call76 (s := 1) h hd (by decide) hW)) (s_augA (z := 0) rfl attr_a rfl (w := ((a + 1 : Nat) : Int)) rfl set_R (s_ret rfl)))
theorem call270 (h : At d a (venc n ++ t)) (hd : d.length ≤ 10000) (hn : n < Top62) : callF tab (c + 4) 270 [rd σ] (R σ d a) = some (.int (n : Int), R σ d (a + sz n)) := by
  refine c_fn rfl rfl (s_asg (e_attr rfl attr_a) (s_asg (e_meth rfl inst_R rfl (call234 h hd hn)) (s_skip (e_cmp (e_bin (e_attr rfl attr_a) rfl rfl) (e_call rfl (call83' hn)) rfl) (fl ?_) (s_ret rfl))))
  show (!decide (((a + sz n : Nat) : Int) - (a : Int) = ((sz n : Nat) : Int))) = false
  rw [decide_eq_true (by (with_reducible exact Mine.cs4))]; rfl
theorem call277 (h : At d a (venc x.length ++ (x ++ t))) (hd : d.length ≤ 10000) : callF tab (c + 4) 277 [rd σ] (R σ d a) = some (.byt x, R σ d (a + sz x.length + x.length)) := by
  have hl := h.len
  have h2 := h.go
  rw [venc_len] at h2
  rw [List.length_append, List.length_append] at hl
  exact c_fn rfl rfl (s_ret (e_meth rfl inst_R (e_cons (e_meth rfl inst_R rfl (call234 h hd (by unfold Top62; with_reducible (apply Mine.lt_f; apply Mine.sm3; assumption; assumption; decide)))) e_nil) (call213 h2 hd)))
end
end Mine.P
end
section
namespace Mine.P
open PySem

theorem At.goV {d t : List UInt8} {a n : Nat} (h : At d a (venc n ++ t)) : At d (a + sz n) t := by
  have := h.go
  rwa [venc_len] at this
theorem At.row {d t : List UInt8} {a n : Nat} {ns : List Nat} (h : At d a (rowB (n :: ns) ++ t)) : At d a (venc n ++ (rowB ns ++ t)) := by
  have e : rowB (n :: ns) ++ t = venc n ++ (rowB ns ++ t) := List.append_assoc _ _ _
  rw [e] at h; exact h
section
variable {c : Nat} {σ : St} {d t x : List UInt8} {a : Nat}
theorem map_read {ρ : List Slot} (hd : d.length ≤ 10000) : ∀ (ns : List Nat) (l : List PV) (a : Nat), l.length = ns.length → At d a (rowB ns ++ t) → Ok62 ns →
    ∃ p, mapS (fun v σ => ev (callF tab (c + 3)) (.meth 234 (.var 1) .nil) (.val v :: .val (rd σ') :: ρ) σ) l (R σ' d a) = some (nl ns, R σ' d p) ∧ At d p t
  | [], l, a, hl, h, _ => by
    cases l with
    | nil => exact ⟨a, rfl, h⟩
    | cons => exact nomatch hl
  | n :: ns, l, a, hl, h, ho => by
    cases l with
    | nil => exact nomatch hl
    | cons v l =>
      obtain ⟨p, ih, hp⟩ := map_read (ρ := ρ) (σ' := σ') hd ns l (a + sz n) (Nat.succ.inj hl) h.row.goV fun m hm => ho m (.tail _ hm)
      refine ⟨p, ?_, hp⟩
      show (ev (callF tab (c + 3)) (.meth 234 (.var 1) .nil) (.val v :: .val (rd σ') :: ρ) (R σ' d a)).bind _ = _
      rw [e_meth (σ₁ := R σ' d a) rfl inst_R rfl (call234 h.row hd (ho n (.head _))), sb]
      show (mapS _ l (R σ' d (a + sz n))).map _ = _
      rw [ih]; rfl
theorem len_ok (hx : x.length ≤ 10000) : biV .len [.byt x] = some (.int (x.length : Int)) := if_pos (by unfold lim; with_reducible (apply Mine.le_f; assumption; decide))

theorem call303 {o : Nat} (h : At d a (venc o ++ (venc x.length ++ (x ++ t)))) (hd : d.length ≤ 10000) (ho : o + x.length < Top62) (told : PV) : ∃ p, callF tab (c + 5) 303 [rd σ, told] (R σ d a) = some ((F.crypto o x).pv, R σ d p) ∧ At d p t := by
  have h2 := h.goV
  have hl := h.len
  rw [List.length_append, List.length_append, List.length_append] at hl
  refine ⟨_, c_fn rfl rfl (s_asg (e_meth rfl inst_R rfl (call234 h hd (by with_reducible (apply Mine.lt_f; apply Mine.tr_l; apply Mine.lt_l; assumption; decide)))) (s_asg (e_call rfl (call277 h2 hd)) (s_skip (e_cmp (e_bin rfl (e_bi rfl (len_ok (by omega))) rfl) rfl rfl) (df ?_) (s_ret rfl)))), h2.goV.go⟩
  show ¬ ((o : Int) + (x.length : Int) > 4611686018427387903)
  unfold Top62 at ho
  omega
theorem call317 {code : Nat} {ft : Option Nat} (h : At d a (venc code ++ (rowB (optL ft) ++ (venc x.length ++ (x ++ t))))) (hd : d.length ≤ 10000) (ho : code < Top62) (hf : Ok62 (optL ft)) :
    ∃ p, callF tab (c + 5) 317 [rd σ, .int ((ftC ft : Nat) : Int)] (R σ d a) = some ((F.close code ft x).pv, R σ d p) ∧ At d p t := by
  cases ft with
  | none =>
    have h2 : At d (a + sz code) (venc x.length ++ (x ++ t)) := h.goV
    exact ⟨_, c_fn rfl rfl (s_asg (e_meth rfl inst_R rfl (call234 h hd ho)) (s_asg (e_iteF (e_cmp rfl rfl rfl) rfl rfl) (s_ret (e_tup (e_cons rfl (e_cons rfl (e_cons rfl (e_cons (e_call rfl (call277 h2 hd)) e_nil)))))))), h2.goV.go⟩
  | some n =>
    have h2 : At d (a + sz code) (venc n ++ ([] ++ (venc x.length ++ (x ++ t)))) := h.goV.row
    have h3 : At d (a + sz code + sz n) (venc x.length ++ (x ++ t)) := h2.goV
    exact ⟨_, c_fn rfl rfl (s_asg (e_meth rfl inst_R rfl (call234 h hd ho)) (s_asg (e_iteT (e_cmp rfl rfl rfl) rfl (e_meth rfl inst_R rfl (call234 h2 hd (hf n (.head _))))) (s_ret (e_tup (e_cons rfl (e_cons rfl (e_cons rfl (e_cons (e_call rfl (call277 h3 hd)) e_nil)))))))), h3.goV.go⟩
theorem call310 {seq prior : Nat} {cid tok : List UInt8} (h : At d a (venc seq ++ (venc prior ++ (venc cid.length ++ (cid ++ (tok ++ t)))))) (hd : d.length ≤ 10000) (hs : seq < Top62) (hp : prior ≤ seq) (h1 : 1 ≤ cid.length) (h2 : cid.length ≤ 20) (h3 : tok.length = 16) (told : PV) :
    ∃ p, callF tab (c + 4) 310 [rd σ, told] (R σ d a) = some ((F.newcid seq prior cid tok).pv, R σ d p) ∧ At d p t := by
  have g2 := h.goV
  have g3 := g2.goV
  have e : venc cid.length = be 1 cid.length := by
    rw [venc_small (by with_reducible (apply Mine.lt_f; assumption; decide))]
    show _ = [UInt8.ofNat (cid.length % 256)]
    rw [Nat.mod_eq_of_lt (by with_reducible (apply Mine.lt_f; assumption; decide))]
  have g4 := g3.goV
  rw [e] at g3
  have e2 : sz cid.length = 1 := by
    unfold sz
    rw [if_pos (by with_reducible (apply Mine.lt_f; assumption; decide))]
  rw [e2] at g4
  have g5 := g4.go
  have h213 := call213 (c := c + 1) (σ := σ) g5 hd
  rw [h3] at h213
  refine ⟨_, c_fn rfl rfl (s_asgT (e_cons (e_meth rfl inst_R rfl (call234 h hd hs)) (e_cons (e_meth rfl inst_R rfl (call234 g2 hd (by with_reducible (apply Nat.lt_of_le_of_lt <;> assumption)))) e_nil)) rfl (s_skip (e_cmp rfl rfl rfl) (df ?_) ?_)), g5.go⟩
  · show ¬ ((prior : Int) > (seq : Int)); with_reducible (apply Mine.ngt <;> assumption)
  refine s_asg (e_meth rfl inst_R (e_cons rfl e_nil) (call227 g3 hd (by with_reducible (apply Mine.lt_f; assumption; decide)))) (s_skip (e_orF (e_cmp rfl rfl rfl) (df (by show ¬ ((cid.length : Int) < 1); omega)) (e_cmp rfl rfl rfl)) (df (by show ¬ ((cid.length : Int) > 20); omega)) ?_)
  refine s_asg (e_meth rfl inst_R (e_cons rfl e_nil) (call213 g4 hd)) (s_ret (e_tup (e_cons rfl (e_cons rfl (e_cons rfl (e_cons rfl (e_cons (e_meth rfl inst_R (e_cons rfl e_nil) ?_) e_nil)))))))
  rw [h3]; exact h213
end
end Mine.P
end
section
namespace Mine.P
open PySem

section
variable {c : Nat} {σ : St} {d t x : List UInt8} {a : Nat}
noncomputable abbrev bd284 : PSs := .cons (.asg 2 (.bin .sub (.bin .sub (.var 5) (.meth 234 (.var 0) .nil)) (.lit (.int 2)))) (.cons (.asg 5 (.bin .sub (.var 2) (.meth 234 (.var 0) .nil))) (.cons (.ifs (.cmp (.var 5) .lt (.lit (.int 0))) (.cons (.expr (.call 263 (.cons (.var 1) (.cons (.lit (.str (Str.ofString "a range below 0"))) .nil)))) .nil) .nil) (.cons (.app 6 (.tup (.cons (.var 5) (.cons (.var 2) .nil)))) .nil)))
theorem rv_app (a b : List (Nat × Nat)) : rv (a ++ b) = rv a ++ rv b := List.map_append
theorem loop284 (hd : d.length ≤ 10000) {s1 s3 s4 : Slot} : ∀ (rs : List (Nat × Nat)) (l : List PV) (low : Nat) (a : Nat) (acc : List (Nat × Nat)) (s2 s7 : Slot), l.length = rs.length → Desc low rs → low < Top62 → acc.length + rs.length ≤ 500 → At d a (rowB (mo low rs) ++ t) →
    ∃ s2' s5' s7' p, forS (fun v ρ σ => xss (callF tab (c + 3)) bd284 (ρ.set 7 (.val v)) σ) l [.val (rd σ), s1, s2, s3, s4, .val (.int (low : Int)), .ol (rv acc), s7] (R σ d a) = some (.nxt [.val (rd σ), s1, s2', s3, s4, s5', .ol (rv (acc ++ rs)), s7'] (R σ d p)) ∧ At d p t
  | [], l, low, a, acc, s2, s7, hl, _, _, _, h => by
    cases l with
    | nil => exact ⟨_, _, _, _, by rw [List.append_nil]; rfl, h⟩
    | cons => exact nomatch hl
  | r :: rs, l, low, a, acc, s2, s7, hl, ⟨h1, h2, h3⟩, ht, hn, h => by
    cases l with
    | nil => exact nomatch hl
    | cons v l =>
      have g1 := h.row
      have g2 := g1.goV
      have g3 := g2.row.goV
      rw [List.length_cons] at hn
      obtain ⟨s2', s5', s7', p, ih, hp⟩ := loop284 hd (s1 := s1) (s3 := s3) (s4 := s4) rs l r.1 _ (acc ++ [r]) (.val (.int (r.2 : Int))) (.val v) (Nat.succ.inj hl) h3 (by with_reducible (apply Mine.lt_f; apply Nat.le_trans; assumption; apply Mine.sum_l; assumption; apply Mine.lt_l; assumption; decide)) (by rw [List.length_append]; show acc.length + 1 + _ ≤ _; with_reducible (apply Mine.sh1 <;> assumption)) g3
      refine ⟨s2', s5', s7', p, ?_, hp⟩
      rw [List.append_assoc] at ih
      refine for_nx ?_ ih
      have e1 : (low : Int) - ((low - r.2 - 2 : Nat) : Int) - 2 = (r.2 : Int) := by with_reducible (apply Mine.cs3 <;> assumption)
      have e2 : (r.2 : Int) - ((r.2 - r.1 : Nat) : Int) = (r.1 : Int) := by with_reducible (apply Mine.cs1 <;> assumption)
      refine s_asg (x := .int (r.2 : Int)) (e_bin (e_bin rfl (e_meth rfl inst_R rfl (call234 g1 hd (by with_reducible (apply Mine.lt_f; apply Mine.sub_b; apply Mine.sub_b; apply Mine.lt_l; assumption; decide)))) rfl) rfl (congrArg (fun z => some (PV.int z)) e1)) ?_
      refine s_asg (x := .int (r.1 : Int)) (e_bin rfl (e_meth rfl inst_R rfl (call234 g2.row hd (by with_reducible (apply Mine.lt_f; apply Mine.sub_b; apply Mine.sum_l; assumption; apply Mine.lt_l; assumption; decide)))) (congrArg (fun z => some (PV.int z)) e2)) ?_
      refine s_skip (e_cmp rfl rfl rfl) (df (by show ¬ ((r.1 : Int) < 0); with_reducible (apply Mine.no_lt <;> assumption))) (s_app (e_tup (e_cons rfl (e_cons rfl e_nil))) rfl (by rw [rv_len]; with_reducible (apply Mine.lt_f; apply Mine.tr_l; assumption; decide)) ?_)
      rw [xss_nil, rv_app]; rfl
theorem rng_len : ∀ (n : Nat) (a : Int), (rngUp a n).length = n
  | 0, _ => rfl
  | n + 1, a => congrArg Nat.succ (rng_len n (a + 1))
theorem rng_items {n : Nat} (h : n ≤ 1000) : biV .range [.int (n : Int)] = some (.rng 0 (n : Int) 1) ∧ rngItems 0 (n : Int) 1 = some (rngUp 0 n) := by
  refine ⟨if_pos (decide_eq_true (by rw [Int.natAbs_natCast]; with_reducible (apply Mine.lt_f; assumption; decide))), ?_⟩
  unfold rngItems
  have h1 : small62 (n : Int) = true := decide_eq_true (by rw [Int.natAbs_natCast]; with_reducible (apply Mine.lt_f; assumption; decide))
  have h2 : small62 0 = true := rfl
  rw [if_neg (by rw [h1, h2]; decide), if_pos rfl, show ((n : Int) - 0).toNat = n by (with_reducible exact Mine.tn0)]
theorem call284 {delay : Nat} {r : Nat × Nat} {rs : List (Nat × Nat)} (h : At d a (rowB (r.2 :: delay :: rs.length :: (r.2 - r.1) :: mo r.1 rs) ++ t)) (hd : d.length ≤ 10000) (h1 : r.1 ≤ r.2) (h2 : Desc r.1 rs) (hl : rs.length ≤ 100) (hr : r.2 < Top62) (hdl : delay < Top62) (told : PV) :
    ∃ p, callF tab (c + 4) 284 [rd σ, told] (R σ d a) = some (.tup [.int (delay : Int), .tup (rv (r :: rs))], R σ d p) ∧ At d p t := by
  have g1 := h.row
  have g2 := g1.goV
  have g3 := g2.row.goV
  have g4 := g3.row.goV
  have g5 := g4.row.goV
  obtain ⟨hrng, hit⟩ := rng_items (n := rs.length) (by with_reducible (apply Mine.le_f; assumption; decide))
  obtain ⟨s2', s5', s7', p, hloop, hp⟩ := loop284 (c := c) (σ := σ) hd (s1 := .val told) (s3 := .val (.int (delay : Int))) (s4 := .val (.int (rs.length : Int))) rs (rngUp 0 rs.length) r.1 _ [r] (.val (.int (r.2 : Int))) .un (rng_len _ _) h2 (by with_reducible (apply Nat.lt_of_le_of_lt <;> assumption)) (by show 1 + _ ≤ _; with_reducible (apply Mine.le_f; apply Nat.add_le_add; exact Mine.lit; assumption; decide)) g5
  refine ⟨p, ?_, hp⟩
  have e2 : (r.2 : Int) - ((r.2 - r.1 : Nat) : Int) = (r.1 : Int) := by with_reducible (apply Mine.cs1 <;> assumption)
  refine c_fn rfl rfl (s_asgT (e_cons (e_meth rfl inst_R rfl (call234 g1 hd hr)) (e_cons (e_meth rfl inst_R rfl (call234 g2.row hd hdl)) e_nil)) rfl ?_)
  refine s_asgT (e_cons (e_meth rfl inst_R rfl (call234 g3.row hd (by unfold Top62; with_reducible (apply Mine.lt_f; assumption; decide)))) (e_cons (x := .int (r.1 : Int)) (e_bin rfl (e_meth rfl inst_R rfl (call234 g4.row hd (by with_reducible (apply Mine.lt_f; apply Mine.sub_b; apply Mine.lt_l; assumption; decide)))) (congrArg (fun z => some (PV.int z)) e2)) e_nil)) rfl ?_
  refine s_skip (e_cmp rfl rfl rfl) (df (by show ¬ ((r.1 : Int) < 0); with_reducible (apply Mine.no_lt <;> assumption))) (s_asgL (e_cons (e_tup (e_cons rfl (e_cons rfl e_nil))) e_nil) ?_)
  refine s_seq (s_for1 (e_bi rfl hrng) hit hloop) (s_ret (e_tup (e_cons rfl (e_cons (e_bi rfl (if_pos ?_)) e_nil))))
  show (rv (r :: rs)).length ≤ lim
  rw [rv_len]; show rs.length + 1 ≤ _; unfold lim; with_reducible (apply Mine.le_f; apply Nat.add_le_add; assumption; exact Mine.lit; decide)
theorem call289 {delay : Nat} {r : Nat × Nat} {rs : List (Nat × Nat)} {ecn : Option (Nat × Nat × Nat)} (h : At d a (rowB ((r.2 :: delay :: rs.length :: (r.2 - r.1) :: mo r.1 rs) ++ ecnL ecn) ++ t)) (hd : d.length ≤ 10000) (h1 : r.1 ≤ r.2) (h2 : Desc r.1 rs) (hl : rs.length ≤ 100) (hok : Ok62 (ackN delay r rs ecn)) :
    ∃ p, callF tab (c + 5) 289 [rd σ, .int ((ackK ecn : Nat) : Int)] (R σ d a) = some (ackV delay r rs ecn, R σ d p) ∧ At d p t := by
  rw [rowB_app, List.append_assoc] at h
  obtain ⟨p, h284, hp⟩ := call284 (c := c) (σ := σ) h hd h1 h2 hl (hok _ (.tail _ (.head _))) (hok _ (.tail _ (.tail _ (.head _)))) (.int ((ackK ecn : Nat) : Int))
  cases ecn with
  | none => exact ⟨p, c_fn rfl rfl (s_unp (e_call rfl h284) rfl rfl (s_asg rfl (s_skip (e_cmp rfl rfl rfl) rfl (s_ret rfl)))), hp⟩
  | some z =>
    obtain ⟨z1, z2, z3⟩ := z
    obtain ⟨q, hm, hq⟩ := map_read (c := c + 1) (σ' := σ) (ρ := [.val (.int 3), .val (.int (delay : Int)), .val (.tup (rv (r :: rs))), .val .none]) hd [z1, z2, z3] (rngUp 0 3) p rfl hp fun n hn => hok n (List.mem_append_right _ hn)
    exact ⟨q, c_fn rfl rfl (s_unp (e_call rfl h284) rfl rfl (s_asg rfl (s_seq (s_ifT (e_cmp rfl rfl rfl) rfl (s_asg (e_bi (e_cons (e_comp rfl rfl (by decide) hm) e_nil) rfl) xss_nil)) (s_ret rfl)))), hq⟩

/-! a stream frame -/
theorem call296a {n o told : Nat} {fin last : Bool} {u : List UInt8} (hn : n < Top62) (ho : o + x.length < Top62) (hd : d.length ≤ 10000) (h : At d a (venc n ++ (rowB (posL o) ++ (lastB last x ++ t)))) (hlast : last = true → t = [])
    (hb : bin .sub (.int (told : Int)) (.int 8) = some (.int ((told - 8 : Nat) : Int))) (b4 : bin .band (.int ((told - 8 : Nat) : Int)) (.int 4) = some (.int ((if o > 0 then 4 else 0 : Nat) : Int)))
    (b2' : bin .band (.int ((told - 8 : Nat) : Int)) (.int 2) = some (.int ((if last = true then 0 else 2 : Nat) : Int))) (b1 : bin .band (.int ((told - 8 : Nat) : Int)) (.int 1) = some (.int ((b2 fin : Nat) : Int))) :
    ∃ p, callF tab (c + 5) 296 [rd σ, .int (told : Int)] (R σ d a) = some ((F.stream n o x fin).pv, R σ d p) ∧ At d p t := by
  have hx : x.length ≤ 10000 := by
    have hl := h.len
    rw [List.length_append, List.length_append, List.length_append] at hl
    have : x.length ≤ (lastB last x).length := by
      unfold lastB
      split
      · exact Nat.le_refl _
      · unfold cntd; rw [List.length_append]; (with_reducible exact Nat.le_add_left _ _)
    omega
  have g1 := h.goV
  obtain ⟨p1, h4, hp1⟩ : ∃ p1, ev (callF tab (c + 4)) (.ite (.bin .band (.var 2) (.lit (.int 4))) (.meth 234 (.var 0) .nil) (.lit (.int 0))) [.val (rd σ), .val (.int (told : Int)), .val (.int ((told - 8 : Nat) : Int)), .val (.int (n : Int)), .un, .un] (R σ d (a + sz n)) = some (.int (o : Int), R σ d p1) ∧ At d p1 (lastB last x ++ t) := by
    unfold posL at g1
    by_cases hpos : o > 0
    · rw [if_pos hpos] at g1 b4
      have g2 : At d (a + sz n) (venc o ++ ([] ++ (lastB last x ++ t))) := g1.row
      exact ⟨_, e_iteT (e_bin rfl rfl b4) rfl (e_meth rfl inst_R rfl (call234 g2 hd (by with_reducible (apply Mine.lt_f; apply Mine.tr_l; apply Mine.lt_l; assumption; decide)))), g2.goV⟩
    · rw [if_neg hpos] at g1 b4
      have : o = 0 := by omega
      subst this
      exact ⟨_, e_iteF (e_bin rfl rfl b4) rfl rfl, g1⟩
  obtain ⟨p2, h5, hp2⟩ : ∃ p2, ev (callF tab (c + 4)) (.ite (.bin .band (.var 2) (.lit (.int 2))) (.call 277 (.cons (.var 0) .nil)) (.meth 213 (.var 0) (.cons (.meth 206 (.var 0) .nil) .nil))) [.val (rd σ), .val (.int (told : Int)), .val (.int ((told - 8 : Nat) : Int)), .val (.int (n : Int)), .val (.int (o : Int)), .un] (R σ d p1) = some (.byt x, R σ d p2) ∧ At d p2 t := by
    cases last with
    | true =>
      have hp1 : At d p1 (x ++ t) := hp1
      have hl := hp1.len
      rw [hlast rfl, List.append_nil] at hl
      refine ⟨_, e_iteF (e_bin rfl rfl b2') rfl (e_meth rfl inst_R (e_cons (e_meth rfl inst_R rfl (call206 hd)) e_nil) ?_), hp1.go⟩
      have := call213 (c := c + 2) (σ := σ) hp1 hd
      rw [show (d.length : Int) - (p1 : Int) = (x.length : Int) by with_reducible (apply Mine.cs5 <;> assumption)]
      exact this
    | false =>
      have hp1 : At d p1 ((venc x.length ++ x) ++ t) := hp1
      rw [List.append_assoc] at hp1
      exact ⟨_, e_iteT (e_bin rfl rfl b2') rfl (e_call rfl (call277 hp1 hd)), hp1.goV.go⟩
  refine ⟨p2, c_fn rfl rfl (s_asg (e_bin rfl rfl hb) (s_asg (e_meth rfl inst_R rfl (call234 h hd hn)) (s_asg h4 (s_asg h5 (s_skip (e_cmp (e_bin rfl (e_bi rfl (len_ok hx)) rfl) rfl rfl) (df ?_) (s_ret (e_tup (e_cons rfl (e_cons rfl (e_cons rfl (e_cons rfl (e_cons (x := .bool fin) ?_ e_nil)))))))))))), hp2⟩
  · show ¬ ((o : Int) + (x.length : Int) > 4611686018427387903)
    unfold Top62 at ho
    omega
  · cases fin with
    | true => exact e_cmp (e_bin rfl rfl b1) rfl rfl
    | false => exact e_cmp (e_bin rfl rfl b1) rfl rfl
theorem call296 {n o : Nat} {fin last : Bool} (hn : n < Top62) (ho : o + x.length < Top62) (hd : d.length ≤ 10000) (h : At d a (venc n ++ (rowB (posL o) ++ (lastB last x ++ t)))) (hlast : last = true → t = []) :
    ∃ p, callF tab (c + 5) 296 [rd σ, .int ((toldS o last fin : Nat) : Int)] (R σ d a) = some ((F.stream n o x fin).pv, R σ d p) ∧ At d p t := by
  refine call296a (u := []) hn ho hd h hlast ?_ ?_ ?_ ?_
  all_goals unfold toldS b2
  all_goals by_cases hpos : o > 0
  all_goals first | simp only [if_pos hpos] | simp only [if_neg hpos]
  all_goals cases fin <;> cases last <;> rfl
end
end Mine.P
end
section
namespace Mine.P
open PySem

noncomputable def tpL : List (Int × PV) := [(1, .tup [.str (Str.ofString "ping"), .int 0]), (4, .tup [.str (Str.ofString "reset_stream"), .int 3]), (5, .tup [.str (Str.ofString "stop_sending"), .int 2]), (16, .tup [.str (Str.ofString "max_data"), .int 1]), (17, .tup [.str (Str.ofString "max_stream_data"), .int 2]), (20, .tup [.str (Str.ofString "data_blocked"), .int 1]), (21, .tup [.str (Str.ofString "stream_data_blocked"), .int 2]), (25, .tup [.str (Str.ofString "retire_connection_id"), .int 1]), (30, .tup [.str (Str.ofString "handshake_done"), .int 0])]
theorem nk_plain : ∀ k : NK, findI (k.code : Int) tpL = some (.tup [.str k.name, .int (k.cnt : Int)])
  | .ping => rfl
  | .reset => rfl
  | .stop => rfl
  | .maxd => rfl
  | .maxsd => rfl
  | .db => rfl
  | .sdb => rfl
  | .retire => rfl
  | .hsd => rfl
theorem nk_pos (k : NK) : ¬ (k.code : Int) = 0 := by cases k <;> decide
theorem nk_cnt (k : NK) : k.cnt ≤ 1000 := by cases k <;> decide

theorem row_one (n : Nat) : rowB [n] = venc n := List.append_nil _
noncomputable def F.Rd : F → Prop
  | .nums k ns => ns.length = k.cnt
  | .ack _ r rs _ => r.1 ≤ r.2 ∧ Desc r.1 rs ∧ rs.length ≤ 100
  | .crypto o x => o + x.length < Top62
  | .stream _ o x _ => o + x.length < Top62
  | .token x => 1 ≤ x.length
  | .streams _ _ n => n ≤ 1152921504606846976
  | .newcid seq prior cid tok => prior ≤ seq ∧ 1 ≤ cid.length ∧ cid.length ≤ 20 ∧ tok.length = 16
  | .path _ x => x.length = 8
  | .close .. => True
section
variable {c : Nat} {σ : St} {d t x : List UInt8} {a : Nat}
theorem call331 {f : F} (hd : d.length ≤ 10000) (ho : Ok62 f.head) (hr : f.Rd) (hk : f.oct = true) (h : At d a (rowB f.head.tail ++ (f.body ++ t))) :
    ∃ p, callF tab (c + 6) 331 [rd σ, .int (((f.head.headD 0) : Nat) : Int)] (R σ d a) = some (f.pv, R σ d p) ∧ At d p t := by
  cases f with
  | crypto o x =>
    have hx : o + x.length < Top62 := hr
    have h : At d a (venc o ++ (rowB [x.length] ++ (x ++ t))) := h.row
    rw [row_one] at h
    obtain ⟨p, h3, hp⟩ := call303 (c := c) (σ := σ) h hd hx (.int 6)
    exact ⟨p, c_fn rfl rfl (s_take (e_cmp rfl rfl rfl) rfl (s_ret (e_call rfl h3))), hp⟩
  | token x =>
    have hx : 1 ≤ x.length := hr
    have h : At d a (rowB [x.length] ++ (x ++ t)) := h
    rw [row_one] at h
    have hl := h.len
    rw [List.length_append, List.length_append] at hl
    exact ⟨_, c_fn rfl rfl (s_skip (e_cmp rfl rfl rfl) rfl (s_take (e_cmp rfl rfl rfl) rfl (s_asg (e_call rfl (call277 h hd)) (s_skip (e_cmp (e_bi rfl (len_ok (by with_reducible (apply Mine.le_f; apply Mine.sm3; assumption; assumption; decide)))) rfl rfl) (df (by omega)) (s_ret rfl))))), h.goV.go⟩
  | streams mx uni n =>
    have hn : n ≤ 1152921504606846976 := hr
    have h : At d a (rowB [n] ++ t) := h
    rw [row_one] at h
    have key : ∀ (told : Int) (mx uni : Bool), decide (told = 6) = false → decide (told = 7) = false → decide (told = 26) = false → decide (told = 27) = false → cmp .isIn (.int told) tCount = some true → idxV (R σ d a) tCount (.int told) = some (.tup [.str (mxS mx), .bool uni]) →
        ∃ p, callF tab (c + 6) 331 [rd σ, .int told] (R σ d a) = some ((F.streams mx uni n).pv, R σ d p) ∧ At d p t := fun told mx uni h6 h7 h26 h27 hin hix =>
      ⟨_, c_fn rfl rfl (s_skip (e_cmp rfl rfl rfl) (fl h6) (s_skip (e_cmp rfl rfl rfl) (fl h7) (s_skip (e_orF (e_cmp rfl rfl rfl) (fl h26) (e_cmp rfl rfl rfl)) (fl h27) (s_take (e_cmp rfl rfl hin) rfl (s_asg (e_meth rfl inst_R rfl (call234 h hd (by unfold Top62; with_reducible (apply Mine.lt_f; assumption; decide)))) (s_skip (e_cmp rfl rfl rfl) (df (by show ¬ ((n : Int) > 1152921504606846976); omega)) (s_ret (e_tup (e_cons (e_idx (e_idx rfl rfl hix) rfl rfl) (e_cons (e_idx (e_idx rfl rfl hix) rfl rfl) (e_cons rfl e_nil))))))))))), h.goV⟩
    cases mx <;> cases uni <;> exact key _ _ _ rfl rfl rfl rfl rfl rfl
  | path ch x =>
    have hx : x.length = 8 := hr
    have h' : At d a (x ++ t) := h
    have h213 := call213 (c := c + 3) (σ := σ) h' hd
    have hgo := At.go (x := x) h'
    rw [hx] at h213 hgo
    cases ch with
    | true => exact ⟨_, c_fn rfl rfl (s_skip (e_cmp rfl rfl rfl) rfl (s_skip (e_cmp rfl rfl rfl) rfl (s_take (e_orT (e_cmp rfl rfl rfl) rfl) rfl (s_ret (e_tup (e_cons (e_iteT (e_cmp rfl rfl rfl) rfl rfl) (e_cons (e_meth rfl inst_R rfl h213) e_nil))))))), hgo⟩
    | false => exact ⟨_, c_fn rfl rfl (s_skip (e_cmp rfl rfl rfl) rfl (s_skip (e_cmp rfl rfl rfl) rfl (s_take (e_orF (e_cmp rfl rfl rfl) rfl (e_cmp rfl rfl rfl)) rfl (s_ret (e_tup (e_cons (e_iteF (e_cmp rfl rfl rfl) rfl rfl) (e_cons (e_meth rfl inst_R rfl h213) e_nil))))))), hgo⟩
  | _ => exact absurd hk Bool.false_ne_true

theorem s_no2 {cf : CF} {ρ : List Slot} {σ : St} {ss tt : PSs} {X : Option XR} {k i j : Int} (h1 : ev cf (.var 1) ρ σ = some (.int k, σ)) (hi : decide (k = i) = false) (hj : decide (k = j) = false) (h : xss cf ss ρ σ = X) :
    xss cf (.cons (.ifs (.or (.cmp (.var 1) .eq (.lit (.int i))) (.cmp (.var 1) .eq (.lit (.int j)))) tt .nil) ss) ρ σ = X :=
  s_skip (e_orF (e_cmp h1 rfl rfl) (fl hi) (e_cmp h1 rfl rfl)) (fl hj) h
theorem body_oct {f : F} {told : Int} (hd : d.length ≤ 10000) (e : ((f.head.headD 0 : Nat) : Int) = told) (k0 : decide (told = 0) = false) (k1 : (findI told tpL).isSome = false) (k2 : decide (told = 2) = false) (k3 : decide (told = 3) = false) (k8 : decide (told < 16) = false ∨ decide (8 ≤ told) = false)
    (k24 : decide (told = 24) = false) (k28 : decide (told = 28) = false) (k29 : decide (told = 29) = false) (ho : Ok62 f.head) (hr : f.Rd) (hk : f.oct = true) (h : At d a (rowB f.head.tail ++ (f.body ++ t))) :
    ∃ p, callF tab (c + 7) 336 [rd σ, .int told] (R σ d a) = some (f.pv, R σ d p) ∧ At d p t := by
  obtain ⟨p, h1, hp⟩ := call331 (c := c) (σ := σ) hd ho hr hk h
  rw [e] at h1
  refine ⟨p, c_fn rfl rfl (s_skip (e_cmp rfl rfl rfl) (fl k0) (s_skip (e_cmp rfl rfl rfl) (fl k1) (s_no2 rfl k2 k3 (s_skip (x := .bool false) ?_ rfl (s_skip (e_cmp rfl rfl rfl) (fl k24) (s_no2 rfl k28 k29 (s_ret (e_call rfl h1)))))))), hp⟩
  rw [ev_cmp2]
  show (if decide (8 ≤ told) = true then some (PV.bool (decide (told < 16)), R σ d a) else some (PV.bool false, R σ d a)) = _
  rcases k8 with k | k
  · rw [k]; split <;> rfl
  · rw [if_neg (by rw [k]; exact Bool.false_ne_true)]

theorem strm_plain {T : Nat} (h1 : 8 ≤ T) (h2 : T ≤ 15) : (findI (T : Int) tpL).isSome = false := by
  have : T = 8 ∨ T = 9 ∨ T = 10 ∨ T = 11 ∨ T = 12 ∨ T = 13 ∨ T = 14 ∨ T = 15 := by with_reducible (apply Mine.dr8 <;> assumption)
  rcases this with rfl | rfl | rfl | rfl | rfl | rfl | rfl | rfl <;> rfl
theorem toldS_rng (o : Nat) (last fin : Bool) : 8 ≤ toldS o last fin ∧ toldS o last fin ≤ 15 := by
  unfold toldS b2
  repeat' split
  all_goals (with_reducible decide)
theorem body_stream {n o : Nat} {fin last : Bool} (hn : n < Top62) (ho : o + x.length < Top62) (hd : d.length ≤ 10000) (h : At d a (venc n ++ (rowB (posL o) ++ (lastB last x ++ t)))) (hlast : last = true → t = []) :
    ∃ p, callF tab (c + 7) 336 [rd σ, .int ((toldS o last fin : Nat) : Int)] (R σ d a) = some ((F.stream n o x fin).pv, R σ d p) ∧ At d p t := by
  obtain ⟨p, h1, hp⟩ := call296 (c := c + 1) (σ := σ) (fin := fin) hn ho hd h hlast
  obtain ⟨r1, r2⟩ := toldS_rng o last fin
  refine ⟨p, c_fn rfl rfl (s_skip (e_cmp rfl rfl rfl) (df (by omega)) (s_skip (e_cmp rfl rfl rfl) (fl (strm_plain r1 r2)) (s_no2 rfl (decide_eq_false (by omega)) (decide_eq_false (by omega)) (s_take (cmp2T rfl rfl (congrArg some (decide_eq_true (by omega))) rfl rfl) (dt (by show ((toldS o last fin : Nat) : Int) < 8 + 8; omega)) (s_ret (e_call rfl h1)))))), hp⟩
theorem call336 {f : F} (hd : d.length ≤ 10000) (ho : Ok62 f.head) (hr : f.Rd) (h : At d a (rowB f.head.tail ++ (f.body ++ t))) :
    ∃ p, callF tab (c + 7) 336 [rd σ, .int (((f.head.headD 0) : Nat) : Int)] (R σ d a) = some (f.pv, R σ d p) ∧ At d p t := by
  cases f with
  | nums k ns =>
    have hc : ns.length = k.cnt := hr
    have h' : At d a (rowB ns ++ t) := h
    have hcnt := nk_cnt k
    obtain ⟨hrng, hit⟩ := rng_items (n := k.cnt) hcnt
    obtain ⟨p, hm, hp⟩ := map_read (c := c + 3) (σ' := σ) (ρ := [.val (.int (k.code : Int)), .val (.str k.name), .val (.int (k.cnt : Int))]) hd ns (rngUp 0 k.cnt) a (by rw [rng_len, hc]) h' fun n hn => ho n (.tail _ hn)
    have hin : (findI (k.code : Int) tpL).isSome = true := by rw [nk_plain]; rfl
    have hadd : bin .add (.lst [.str k.name]) (.lst (nl ns)) = some (.lst (.str k.name :: nl ns)) := add_lst (by show 1 + (nl ns).length ≤ _; rw [nl_len]; with_reducible (apply Mine.le_f; apply Nat.add_le_add; exact Mine.lit; apply Mine.le_e; assumption; assumption; decide))
    refine ⟨p, c_fn rfl rfl (s_skip (e_cmp rfl rfl rfl) (df (nk_pos k)) (s_take (e_cmp rfl rfl rfl) (tr hin) (s_unp (e_idx rfl rfl (nk_plain k)) rfl rfl (s_ret (e_bi (e_cons (e_bin (e_lst (e_cons rfl e_nil)) (e_comp (e_bi rfl hrng) hit (by rw [rng_len]; unfold lim; with_reducible (apply Mine.le_f; assumption; decide)) hm) hadd) e_nil) (if_pos ?_)))))), hp⟩
    show (nl ns).length + 1 ≤ _
    rw [nl_len]; unfold lim; with_reducible (apply Mine.le_f; apply Nat.add_le_add; apply Mine.le_e; assumption; assumption; exact Mine.lit; decide)
  | ack delay r rs ecn =>
    obtain ⟨h1, h2, h3⟩ := hr
    have h' : At d a (rowB ((r.2 :: delay :: rs.length :: (r.2 - r.1) :: mo r.1 rs) ++ ecnL ecn) ++ t) := h
    obtain ⟨p, h289, hp⟩ := call289 (c := c + 1) (σ := σ) h' hd h1 h2 h3 ho
    cases ecn with
    | none => exact ⟨p, c_fn rfl rfl (s_skip (e_cmp rfl rfl rfl) rfl (s_skip (e_cmp rfl rfl rfl) rfl (s_take (e_orT (e_cmp rfl rfl rfl) rfl) rfl (s_ret (e_call rfl h289))))), hp⟩
    | some z => exact ⟨p, c_fn rfl rfl (s_skip (e_cmp rfl rfl rfl) rfl (s_skip (e_cmp rfl rfl rfl) rfl (s_take (e_orF (e_cmp rfl rfl rfl) rfl (e_cmp rfl rfl rfl)) rfl (s_ret (e_call rfl h289))))), hp⟩
  | stream n o x fin =>
    have h' : At d a (rowB (n :: (posL o ++ [x.length])) ++ (x ++ t)) := h
    have h'' : At d a (venc n ++ (rowB (posL o ++ [x.length]) ++ (x ++ t))) := h'.row
    rw [rowB_app, row_one, List.append_assoc] at h''
    have e : venc x.length ++ (x ++ t) = lastB false x ++ t := (List.append_assoc _ _ _).symm
    rw [e] at h''
    exact body_stream (ho _ (.tail _ (.head _))) hr hd h'' fun h => nomatch h
  | newcid seq prior cid tok =>
    obtain ⟨h1, h2, h3, h4⟩ := hr
    have h' : At d a (rowB [seq, prior, cid.length] ++ ((cid ++ tok) ++ t)) := h
    have h'' : At d a (venc seq ++ (rowB [prior, cid.length] ++ ((cid ++ tok) ++ t))) := h'.row
    have e : rowB [prior, cid.length] ++ ((cid ++ tok) ++ t) = venc prior ++ (venc cid.length ++ (cid ++ (tok ++ t))) := by
      show (venc prior ++ rowB [cid.length]) ++ _ = _
      rw [row_one, List.append_assoc, List.append_assoc]
    rw [e] at h''
    obtain ⟨p, h310, hp⟩ := call310 (c := c + 2) (σ := σ) h'' hd (ho _ (.tail _ (.head _))) h1 h2 h3 h4 (.int 24)
    exact ⟨p, c_fn rfl rfl (s_skip (e_cmp rfl rfl rfl) rfl (s_skip (e_cmp rfl rfl rfl) rfl (s_no2 rfl rfl rfl (s_skip (cmp2T rfl rfl rfl rfl rfl) rfl (s_take (e_cmp rfl rfl rfl) rfl (s_ret (e_call rfl h310))))))), hp⟩
  | close code ft x =>
    have h' : At d a (rowB (code :: (optL ft ++ [x.length])) ++ (x ++ t)) := h
    have h'' : At d a (venc code ++ (rowB (optL ft ++ [x.length]) ++ (x ++ t))) := h'.row
    rw [rowB_app, row_one, List.append_assoc] at h''
    obtain ⟨p, h317, hp⟩ := call317 (c := c + 1) (σ := σ) h'' hd (ho _ (.tail _ (.head _))) (fun n hn => ho n (.tail _ (.tail _ (List.mem_append_left _ hn))))
    cases ft with
    | none => exact ⟨p, c_fn rfl rfl (s_skip (e_cmp rfl rfl rfl) rfl (s_skip (e_cmp rfl rfl rfl) rfl (s_no2 rfl rfl rfl (s_skip (cmp2T rfl rfl rfl rfl rfl) rfl (s_skip (e_cmp rfl rfl rfl) rfl (s_take (e_orF (e_cmp rfl rfl rfl) rfl (e_cmp rfl rfl rfl)) rfl (s_ret (e_call rfl h317)))))))), hp⟩
    | some n => exact ⟨p, c_fn rfl rfl (s_skip (e_cmp rfl rfl rfl) rfl (s_skip (e_cmp rfl rfl rfl) rfl (s_no2 rfl rfl rfl (s_skip (cmp2T rfl rfl rfl rfl rfl) rfl (s_skip (e_cmp rfl rfl rfl) rfl (s_take (e_orT (e_cmp rfl rfl rfl) rfl) rfl (s_ret (e_call rfl h317)))))))), hp⟩
  | crypto o x => exact body_oct hd rfl rfl rfl rfl rfl (.inr rfl) rfl rfl rfl ho hr rfl h
  | token x => exact body_oct hd rfl rfl rfl rfl rfl (.inr rfl) rfl rfl rfl ho hr rfl h
  | streams mx uni n => cases mx <;> cases uni <;> exact body_oct hd rfl rfl rfl rfl rfl (.inl rfl) rfl rfl rfl ho hr rfl h
  | path ch x => cases ch <;> exact body_oct hd rfl rfl rfl rfl rfl (.inl rfl) rfl rfl rfl ho hr rfl h

/-! a frame is read -/
theorem head_eq (f : F) : f.head = f.head.headD 0 :: f.head.tail := by cases f <;> rfl
theorem call343 {f : F} (hd : d.length ≤ 10000) (ho : Ok62 f.head) (hr : f.Rd) (h : At d a (f.wire ++ t)) : ∃ p, callF tab (c + 8) 343 [rd σ] (R σ d a) = some (f.pv, R σ d p) ∧ At d p t := by
  have hh := head_eq f
  unfold F.wire at h
  rw [List.append_assoc, hh] at h
  have h1 := h.row
  obtain ⟨p, h336, hp⟩ := call336 (c := c) (σ := σ) hd ho hr h1.goV
  exact ⟨p, c_fn rfl rfl (s_asg rfl (s_end (s_asg (e_call rfl (call270 h1 hd (ho _ (by rw [hh]; exact .head _)))) (s_ret (e_call rfl h336))))), hp⟩
theorem call343s {n o : Nat} {fin : Bool} (hn : n < Top62) (ho : o + x.length < Top62) (hd : d.length ≤ 10000) (h : At d a (strB n o x fin true)) : ∃ p, callF tab (c + 8) 343 [rd σ] (R σ d a) = some ((F.stream n o x fin).pv, R σ d p) ∧ At d p [] := by
  have h0 : At d a (rowB (toldS o true fin :: n :: posL o) ++ x) := h
  have h1 := h0.row
  have h2 : At d _ (venc n ++ (rowB (posL o) ++ x)) := h1.goV.row
  have e : rowB (posL o) ++ x = rowB (posL o) ++ (lastB true x ++ []) := by rw [List.append_nil]; rfl
  rw [e] at h2
  obtain ⟨p, h336, hp⟩ := body_stream (c := c) (σ := σ) (fin := fin) hn ho hd h2 fun _ => rfl
  have ht := toldS_lt o true fin
  exact ⟨p, c_fn rfl rfl (s_asg rfl (s_end (s_asg (e_call rfl (call270 h1 hd (by unfold Top62; with_reducible (apply Mine.lt_f; apply Mine.lt_l; assumption; decide)))) (s_ret (e_call rfl h336))))), hp⟩

theorem pad_loop : ∀ (m : Nat) (a k fuel : Nat), m < fuel → At d a (List.replicate m 0 ++ t) → (∀ b r, t = b :: r → b ≠ 0) → d.length ≤ 10000 →
    ∃ p, whlS (tst (callF tab (c + 2)) (.and (.cmp (.meth 206 (.var 0) .nil) .gt (.lit (.int 0))) (.cmp (.idx (.attr (.var 0) false) (.attr (.var 0) true)) .eq (.lit (.int 0))))) (xss (callF tab (c + 2)) (.cons (.expr (.meth 213 (.var 0) (.cons (.lit (.int 1)) .nil))) (.cons (.augN 1 .add (.lit (.int 1))) .nil))) fuel [.val (rd σ), .val (.int (k : Int))] (R σ d a) =
      some (.nxt [.val (rd σ), .val (.int ((k + m : Nat) : Int))] (R σ d p)) ∧ At d p t
  | 0, a, k, fuel + 1, _, h, ht, hd => by
    have h : At d a t := h
    have hl := h.len
    refine ⟨a, ?_, h⟩
    cases t with
    | nil =>
      rw [List.length_nil] at hl
      exact w_stop (e_andF (e_cmp (e_meth rfl inst_R rfl (call206 hd)) rfl rfl) (df (by omega))) (df (by omega))
    | cons b r =>
      rw [List.length_cons] at hl
      have e0 : idxV (R σ d a) (.byt d) (.int (a : Int)) = some (.int (b.toNat : Int)) := by
        show (if 0 ≤ (a : Int) ∧ d.length ≤ lim then (d[(a : Int).toNat]?).map _ else none) = _
        rw [if_pos ⟨by (with_reducible exact Mine.nn), by unfold lim; with_reducible (apply Mine.le_f; assumption; decide)⟩, Int.toNat_natCast, h.get]; rfl
      have hb : ¬ (b.toNat : Int) = 0 := fun e => ht b r rfl (UInt8.toNat_inj.mp (by show b.toNat = 0; omega))
      exact w_stop (e_andT (e_cmp (e_meth rfl inst_R rfl (call206 hd)) rfl rfl) (dt (by omega)) (e_cmp (e_idx (e_attr rfl attr_d) (e_attr rfl attr_a) e0) rfl rfl)) (df hb)
  | m + 1, a, k, fuel + 1, hf, h, ht, hd => by
    have h1 : At d a ([0] ++ (List.replicate m 0 ++ t)) := h
    have hl := h1.len
    rw [List.length_append, List.length_append] at hl
    have hl : d.length = a + (1 + (_ + t.length)) := hl
    have h213 := call213 (c := c) (σ := σ) h1 hd
    have e0 : idxV (R σ d a) (.byt d) (.int (a : Int)) = some (.int 0) := by
      show (if 0 ≤ (a : Int) ∧ d.length ≤ lim then (d[(a : Int).toNat]?).map _ else none) = _
      rw [if_pos ⟨by (with_reducible exact Mine.nn), by unfold lim; with_reducible (apply Mine.le_f; assumption; decide)⟩, Int.toNat_natCast, At.get (b := 0) (t := List.replicate m 0 ++ t) h1]; rfl
    obtain ⟨p, ih, hp⟩ := pad_loop m (a + 1) (k + 1) fuel (by omega) h1.go ht hd
    refine ⟨p, ?_, hp⟩
    rw [show k + (m + 1) = k + 1 + m by (with_reducible exact Mine.ad2)]
    refine w_step (e_andT (e_cmp (e_meth rfl inst_R rfl (call206 hd)) rfl rfl) (dt (by with_reducible (apply Mine.cs9 <;> assumption))) (e_cmp (e_idx (e_attr rfl attr_d) (e_attr rfl attr_a) e0) rfl rfl)) rfl ?_ ih
    refine s_seq (ρ' := [.val (rd σ), .val (.int (k : Int))]) (σ₁ := R σ d (a + 1)) ?_ rfl
    rw [xs_expr, e_meth (σ₁ := R σ d a) rfl inst_R (e_cons rfl e_nil) h213]; rfl
theorem call343p {m : Nat} (hd : d.length ≤ 10000) (hm : m ≤ 20) (h : At d a (List.replicate (m + 1) 0 ++ t)) (ht : ∀ b r, t = b :: r → b ≠ 0) : ∃ p, callF tab (c + 8) 343 [rd σ] (R σ d a) = some (.tup [.str (Str.ofString "padding"), .int ((m + 1 : Nat) : Int)], R σ d p) ∧ At d p t := by
  have ez : venc 0 = [0] := venc_small (by decide)
  have es : sz 0 = 1 := rfl
  have h1 : At d a (venc 0 ++ (List.replicate m 0 ++ t)) := by rw [ez]; exact h
  have h2 := h1.goV
  have h270 := call270 (c := c + 3) (σ := σ) h1 hd (by decide)
  rw [es] at h2 h270
  obtain ⟨p, hl, hp⟩ := pad_loop (c := c + 3) (σ := σ) m (a + 1) 1 whlFuel (by unfold whlFuel; with_reducible (apply Mine.lt_f; assumption; decide)) h2 ht hd
  rw [Nat.add_comm 1 m] at hl
  have h324 : callF tab (c + 6) 324 [rd σ] (R σ d (a + 1)) = some (.tup [.str (Str.ofString "padding"), .int ((m + 1 : Nat) : Int)], R σ d p) := c_fn rfl rfl (s_asg rfl (s_seq hl (s_ret rfl)))
  have h336 : callF tab (c + 7) 336 [rd σ, .int ((0 : Nat) : Int)] (R σ d (a + 1)) = some (.tup [.str (Str.ofString "padding"), .int ((m + 1 : Nat) : Int)], R σ d p) := c_fn rfl rfl (s_take (e_cmp rfl rfl rfl) rfl (s_ret (e_call rfl h324)))
  exact ⟨p, c_fn rfl rfl (s_asg rfl (s_end (s_asg (e_call rfl h270) (s_ret (e_call rfl h336))))), hp⟩
end
end Mine.P
end
section
namespace Mine.P
open PySem

inductive Chain (c : Nat) (σ : St) (d : List UInt8) : Nat → List PV → Prop
  | nil {a : Nat} (h : At d a []) : Chain c σ d a []
  | cons {a p : Nat} {v : PV} {vs : List PV} (ha : a < d.length) (h : callF tab (c + 8) 343 [rd σ] (R σ d a) = some (v, R σ d p)) (r : Chain c σ d p vs) : Chain c σ d a (v :: vs)
section
variable {c : Nat} {σ : St} {d : List UInt8}
theorem frames_loop (hd : d.length ≤ 10000) {s0 : Slot} : ∀ (vs : List PV) (a fuel : Nat) (acc : List PV), Chain c σ d a vs → vs.length < fuel → acc.length + vs.length < 900 →
    ∃ p, whlS (tst (callF tab (c + 8)) (.cmp (.meth 206 (.var 1) .nil) .gt (.lit (.int 0)))) (xss (callF tab (c + 8)) (.cons (.app 2 (.call 343 (.cons (.var 1) .nil))) .nil)) fuel [s0, .val (rd σ), .ol acc] (R σ d a) = some (.nxt [s0, .val (rd σ), .ol (acc ++ vs)] (R σ d p))
  | [], a, fuel + 1, acc, h, _, _ => by
    cases h with
    | nil h =>
      have hl := h.len
      rw [List.length_nil] at hl
      exact ⟨a, by rw [List.append_nil]; exact w_stop (e_cmp (e_meth rfl inst_R rfl (call206 hd)) rfl rfl) (df (by omega))⟩
  | v :: vs, a, fuel + 1, acc, h, hf, hn => by
    rw [List.length_cons] at hf hn
    cases h with
    | @cons _ p _ _ ha h r =>
      obtain ⟨q, ih⟩ := frames_loop hd (s0 := s0) vs p fuel (acc ++ [v]) r (by omega) (by rw [List.length_append]; show acc.length + 1 + _ < _; with_reducible (apply Mine.sh2 <;> assumption))
      rw [List.append_assoc] at ih
      exact ⟨q, w_step (e_cmp (e_meth rfl inst_R rfl (call206 hd)) rfl rfl) (dt (by omega)) (s_app (e_call rfl h) rfl (by with_reducible (apply Mine.lt_f; apply Mine.tr_l; apply Mine.lt_l; assumption; decide)) rfl) ih⟩
theorem call350 {vs : List PV} (hd : d.length ≤ 10000) (h0 : d ≠ []) (hn : vs.length ≤ 20) (h : Chain c σ d 0 vs) : ∃ p, callF tab (c + 9) 350 [.byt d] σ = some (.lst vs, R σ d p) := by
  obtain ⟨p, hl⟩ := frames_loop hd (s0 := .val (.byt d)) vs 0 whlFuel [] h (by unfold whlFuel; with_reducible (apply Mine.lt_f; assumption; decide)) (by show 0 + _ < _; with_reducible (apply Mine.lt_f; apply Nat.add_le_add; exact Mine.lit; assumption; decide))
  have hne : ¬ ((d.length : Int) = 0) := fun e => h0 (List.length_eq_zero_iff.mp (by omega))
  exact ⟨p, c_fn rfl rfl (s_asgTo (vs := [rd σ]) (σ₁ := R σ d 0) (e_cons (σ₁ := R σ d 0) rfl e_nil) rfl rfl (s_skip (e_cmp (e_bi rfl (len_ok hd)) rfl rfl) (df hne) (s_seq hl (s_ret rfl))))⟩
theorem wire_pos (f : F) : 1 ≤ f.wire.length := by
  unfold F.wire
  rw [head_eq f]
  show 1 ≤ ((venc _ ++ rowB _) ++ _).length
  rw [List.length_append, List.length_append, venc_len]
  have : 1 ≤ sz (f.head.headD 0) := by
    unfold sz
    repeat' split
    all_goals (with_reducible decide)
  omega
structure F.All (f : F) : Prop where
  ok : f.Ok
  rd : f.Rd
  cid : f.cidOk
  short : f.head.length ≤ 100
theorem chain_row (hd : d.length ≤ 10000) {t : List UInt8} {ws : List PV} (hw : ∀ p, At d p t → Chain c σ d p ws) : ∀ (fs : List F) (a : Nat), (∀ f ∈ fs, f.All) → At d a ((fs.map F.wire).flatten ++ t) → Chain c σ d a (fs.map F.pv ++ ws)
  | [], a, _, h => hw a h
  | f :: fs, a, hf, h => by
    have h1 : At d a (f.wire ++ ((fs.map F.wire).flatten ++ t)) := by
      have e : ((f :: fs).map F.wire).flatten ++ t = f.wire ++ ((fs.map F.wire).flatten ++ t) := List.append_assoc _ _ _
      rw [← e]; exact h
    obtain ⟨p, h2, hp⟩ := call343 (c := c) (σ := σ) hd (hf f (.head _)).ok.head (hf f (.head _)).rd h1
    have hl := h1.len
    have hw1 := wire_pos f
    rw [List.length_append] at hl
    exact .cons (by with_reducible (apply Mine.ptl <;> assumption)) h2 (chain_row hd hw fs p (fun g hg => hf g (.tail _ hg)) hp)
theorem chain_end {p : Nat} (h : At d p []) : Chain c σ d p [] := .nil h
end

/-! what is drawn -/
noncomputable abbrev bx (zs : List Int) (p s : Nat) : MO := .list [.lst (zs.map .int), .int (p : Int), .int (s : Int)]
inductive G (rest : List MO) (σ : St) : Prop
  | mk (zs : List Int) (p s : Nat) (hp : p ≤ zs.length) (hl : zs.length ≤ 40) (hs : s < 4294967296) (e : σ = bx zs p s :: rest) : G rest σ
theorem mod_nat {a b : Int} (h : 0 < b) : ∃ r : Nat, a % b = (r : Int) ∧ (r : Int) < b :=
  ⟨(a % b).toNat, (Int.toNat_of_nonneg (Int.emod_nonneg a (Int.ne_of_gt h))).symm, by rw [Int.toNat_of_nonneg (Int.emod_nonneg a (Int.ne_of_gt h))]; exact Int.emod_lt_of_pos a h⟩
theorem mod_ev {a b : Int} {r : Nat} (h : 0 < b) (e : a % b = (r : Int)) : bin .mod (.int a) (.int b) = some (.int (r : Int)) := by
  show (onlyIf (0 < b) (a % b)).map PV.int = _
  unfold onlyIf
  rw [if_pos h, e]; rfl
theorem s_setI {cf : CF} {ρ : List Slot} {σ σ₁ : St} {ss : PSs} {X : Option XR} {x : PV} {b : PX} {vs : List PV} {k : Int} {rest : List MO} (h1 : ev cf b ρ σ = some (x, σ₁)) (h0 : ρ[0]? = some (.val (.loc 0))) (hσ : σ₁ = .list vs :: rest) (hk : 0 ≤ k ∧ k.toNat < vs.length ∧ k ≤ 1000) (h : xss cf ss ρ (.list (vs.set k.toNat x) :: rest) = X) :
    xss cf (.cons (.setI 0 (.lit (.int k)) b) ss) ρ σ = X := by
  subst hσ
  refine s_seq ?_ h
  rw [xs_setI, h1, sb, h0, sb]
  show (if 0 ≤ k ∧ k.toNat < vs.length ∧ k ≤ 1000 then some (XR.nxt ρ (.list (vs.set k.toNat x) :: rest)) else none) = _
  rw [if_pos hk]
theorem take {rest : List MO} {σ : St} {c : Nat} (g : G rest σ) (m : Int) (h1 : 0 < m) : ∃ (r : Nat) (σ' : St), callF tab (c + 1) 357 [.loc 0, .int m] σ = some (.int (r : Int), σ') ∧ (r : Int) < m ∧ G rest σ' := by
  obtain ⟨zs, p, s, hp, hl, hs, rfl⟩ := g
  have hlen : biV .len [.lst (zs.map PV.int)] = some (.int (zs.length : Int)) := by
    show (if (zs.map PV.int).length ≤ lim then some (PV.int ((zs.map PV.int).length : Int)) else none) = _
    rw [List.length_map, if_pos (by unfold lim; with_reducible (apply Mine.le_f; assumption; decide))]
  have hm : bin .mul (.int (s : Int)) (.int 69069) = some (.int ((s : Int) * 69069)) := by
    show (if (small (s : Int) && small 69069) = true then _ else none) = _
    have : small (s : Int) = true := decide_eq_true (by rw [Int.natAbs_natCast]; with_reducible (apply Mine.lt_f; apply Mine.lt_l; assumption; decide))
    rw [this]; rfl
  by_cases hlt : p < zs.length
  · obtain ⟨r0, e0, l0⟩ := mod_nat (a := zs[p]) (b := 1000003) (by decide)
    obtain ⟨s1, e1, l1⟩ := mod_nat (a := (s : Int) * 69069 + (r0 : Int) + 1) (b := 4294967296) (by decide)
    obtain ⟨r, e2, l2⟩ := mod_nat (a := zs[p]) h1
    have hix : idxV (bx zs (p + 1) s :: rest) (.lst (zs.map PV.int)) (.int (p : Int)) = some (.int zs[p]) := by
      show idxL (zs.map PV.int) (.int (p : Int)) = _
      unfold idxL
      rw [asI, sb, if_pos ⟨by (with_reducible exact Mine.nn), by unfold lim; omega⟩, Int.toNat_natCast, List.getElem?_map, List.getElem?_eq_getElem hlt]; rfl
    have hsub : bin .sub (.int ((p + 1 : Nat) : Int)) (.int 1) = some (.int (p : Int)) := by
      show some (PV.int (((p + 1 : Nat) : Int) - 1)) = _
      rw [Int.natCast_add]
      show some (PV.int ((p : Int) + 1 - 1)) = _
      rw [Int.add_sub_cancel]
    refine ⟨r, bx zs (p + 1) s1 :: rest, ?_, l2, ⟨zs, p + 1, s1, hlt, hl, by with_reducible (apply Mine.lt_f; apply Mine.li_l; assumption; decide), rfl⟩⟩
    refine c_fn rfl rfl (s_take (e_cmp (e_idx rfl rfl rfl) (e_bi (e_cons (e_idx rfl rfl rfl) e_nil) hlen) rfl) (dt (by with_reducible (apply Mine.c_lt <;> assumption))) ?_)
    refine s_setI (x := .int ((p + 1 : Nat) : Int)) (e_bin (e_idx rfl rfl rfl) rfl rfl) rfl rfl ⟨by decide, (show 1 < 3 by decide), by decide⟩ ?_
    refine s_asg (e_idx (e_idx rfl rfl rfl) (e_bin (e_idx rfl rfl rfl) rfl hsub) hix) ?_
    refine s_setI (x := .int (s1 : Int)) (e_bin (e_bin (e_bin (e_bin (e_idx rfl rfl rfl) rfl hm) (e_bin rfl rfl (mod_ev (by decide) e0)) rfl) rfl rfl) rfl (mod_ev (by decide) e1)) rfl rfl ⟨by decide, (show 2 < 3 by decide), by decide⟩ ?_
    exact s_ret (e_bin rfl rfl (mod_ev h1 e2))
  · obtain ⟨s1, e1, l1⟩ := mod_nat (a := (s : Int) * 69069 + 12345) (b := 4294967296) (by decide)
    obtain ⟨r, e2, l2⟩ := mod_nat (a := (s1 : Int) / 4096) h1
    refine ⟨r, bx zs p s1 :: rest, ?_, l2, ⟨zs, p, s1, hp, hl, by with_reducible (apply Mine.lt_f; apply Mine.li_l; assumption; decide), rfl⟩⟩
    refine c_fn rfl rfl (s_skip (e_cmp (e_idx rfl rfl rfl) (e_bi (e_cons (e_idx rfl rfl rfl) e_nil) hlen) rfl) (df (by omega)) ?_)
    refine s_setI (x := .int (s1 : Int)) (e_bin (e_bin (e_bin (e_idx rfl rfl rfl) rfl hm) rfl rfl) rfl (mod_ev (by decide) e1)) rfl rfl ⟨by decide, (show 2 < 3 by decide), by decide⟩ ?_
    exact s_ret (e_bin (e_bin (e_idx rfl rfl rfl) rfl rfl) rfl (mod_ev h1 e2))
end Mine.P
end
section
namespace Mine.P
open PySem

section
variable {c : Nat} {σ : St} {rest : List MO} {ρ : List Slot}
theorem box_ev {cf : CF} (h0 : valAt ρ 0 = some (.loc 0)) : ev cf (.var 0) ρ σ = some (.loc 0, σ) := by rw [ev_var, h0]; rfl
noncomputable abbrev drawX (m : Int) : PX := .call 357 (.cons (.var 0) (.cons (.lit (.int m)) .nil))
theorem draw (g : G rest σ) (m : Int) (hm : 0 < m) (h0 : valAt ρ 0 = some (.loc 0)) : ∃ (r : Nat) (σ' : St), ev (callF tab (c + 1)) (drawX m) ρ σ = some (.int (r : Int), σ') ∧ (r : Int) < m ∧ G rest σ' := by
  obtain ⟨r, σ', h, hr, g'⟩ := take (c := c) g m hm
  exact ⟨r, σ', e_call (e_cons (box_ev h0) (e_cons rfl e_nil)) h, hr, g'⟩
theorem drawB (g : G rest σ) (h0 : valAt ρ 0 = some (.loc 0)) : ∃ (b : Bool) (σ' : St), ev (callF tab (c + 1)) (.cmp (drawX 2) .eq (.lit (.int 0))) ρ σ = some (.bool b, σ') ∧ G rest σ' := by
  obtain ⟨r, σ', h, _, g'⟩ := draw (c := c) g 2 (by decide) h0
  exact ⟨_, σ', e_cmp h rfl rfl, g'⟩

theorem number (g : G rest σ) : ∃ (n : Nat) (σ' : St), callF tab (c + 2) 364 [.loc 0] σ = some (.int (n : Int), σ') ∧ n ≤ 2305843009213693959 ∧ G rest σ' := by
  obtain ⟨r, σ₁, h1, hr, g1⟩ := draw (c := c) (ρ := [.val (.loc 0), .un]) g 6 (by decide) rfl
  obtain ⟨a, σ₂, h2, ha, g2⟩ := draw (c := c) (ρ := [.val (.loc 0), .val (.int (r : Int))]) g1 64 (by decide) rfl
  obtain ⟨b, σ₃, h3, hb, g3⟩ := draw (c := c) (ρ := [.val (.loc 0), .val (.int (r : Int))]) g2 900 (by decide) rfl
  obtain ⟨d, σ₄, h4, hd, g4⟩ := draw (c := c) (ρ := [.val (.loc 0), .val (.int (r : Int))]) g3 9 (by decide) rfl
  have main : ∀ n : Nat, idxV σ₄ (.lst [.int (a : Int), .int (64 + (b : Int)), .int (16384 + (d : Int)), .int 1073741829, .int 2305843009213693959, .int 0]) (.int (r : Int)) = some (.int (n : Int)) → n ≤ 2305843009213693959 → ∃ (n : Nat) (σ' : St), callF tab (c + 2) 364 [.loc 0] σ = some (.int (n : Int), σ') ∧ n ≤ 2305843009213693959 ∧ G rest σ' := fun n hi hn =>
    ⟨n, σ₄, c_fn rfl rfl (s_asg h1 (s_ret (e_idx (e_lst (e_cons h2 (e_cons (e_bin rfl h3 rfl) (e_cons (e_bin rfl h4 rfl) (e_cons rfl (e_cons rfl (e_cons rfl e_nil))))))) rfl hi))), hn, g4⟩
  have : r = 0 ∨ r = 1 ∨ r = 2 ∨ r = 3 ∨ r = 4 ∨ r = 5 := by with_reducible (apply Mine.dz6 <;> assumption)
  rcases this with rfl | rfl | rfl | rfl | rfl | rfl
  · exact main a rfl (by with_reducible (apply Mine.le_f; apply Mine.li_l; assumption; decide))
  · exact main (64 + b) rfl (by with_reducible (apply Mine.le_f; apply Nat.add_le_add; exact Mine.lit; apply Mine.li_l; assumption; decide))
  · exact main (16384 + d) rfl (by with_reducible (apply Mine.le_f; apply Nat.add_le_add; exact Mine.lit; apply Mine.li_l; assumption; decide))
  · exact main 1073741829 rfl (by (with_reducible decide))
  · exact main 2305843009213693959 rfl (by (with_reducible decide))
  · exact main 0 rfl (by (with_reducible decide))
theorem numE (g : G rest σ) (h0 : valAt ρ 0 = some (.loc 0)) : ∃ (n : Nat) (σ' : St), ev (callF tab (c + 2)) (.call 364 (.cons (.var 0) .nil)) ρ σ = some (.int (n : Int), σ') ∧ n ≤ 2305843009213693959 ∧ G rest σ' := by
  obtain ⟨n, σ', h, hn, g'⟩ := number (c := c) g
  exact ⟨n, σ', e_call (e_cons (box_ev h0) e_nil) h, hn, g'⟩

theorem octs_map {ρ : List Slot} (h0 : valAt ρ 0 = some (.loc 0)) : ∀ (l : List PV) (σ : St), G rest σ → ∃ (x : List UInt8) (σ' : St), mapS (fun v σ => ev (callF tab (c + 1)) (.call 357 (.cons (.var 1) (.cons (.lit (.int 256)) .nil))) (.val v :: ρ) σ) l σ = some (intsV x, σ') ∧ x.length = l.length ∧ G rest σ'
  | [], σ, g => ⟨[], σ, rfl, rfl, g⟩
  | v :: l, σ, g => by
    obtain ⟨r, σ₁, h1, hr, g1⟩ := take (c := c) g 256 (by decide)
    obtain ⟨x, σ₂, h2, hx, g2⟩ := octs_map h0 l σ₁ g1
    refine ⟨UInt8.ofNat r :: x, σ₂, ?_, congrArg Nat.succ hx, g2⟩
    have hv : ev (callF tab (c + 1)) (.var 1) (.val v :: ρ) σ = some (.loc 0, σ) := by
      rw [ev_var]
      show (valAt ρ 0).map _ = _
      rw [h0]; rfl
    show (ev (callF tab (c + 1)) (.call 357 (.cons (.var 1) (.cons (.lit (.int 256)) .nil))) (.val v :: ρ) σ).bind _ = _
    rw [e_call (e_cons hv (e_cons rfl e_nil)) h1, sb]
    show (mapS _ l σ₁).map _ = _
    rw [h2]
    show some (PV.int (r : Int) :: intsV x, σ₂) = some (PV.int ((UInt8.ofNat r).toNat : Int) :: intsV x, σ₂)
    rw [u8_toNat (by with_reducible (apply Mine.lt_f; apply Mine.li_l; assumption; decide))]
theorem octs (g : G rest σ) (least most : Nat) (hl : least ≤ most) (hm : most ≤ 100) : ∃ (x : List UInt8) (σ' : St), callF tab (c + 2) 369 [.loc 0, .int (least : Int), .int (most : Int)] σ = some (.byt x, σ') ∧ least ≤ x.length ∧ x.length ≤ most ∧ G rest σ' := by
  obtain ⟨r, σ₁, h1, hr, g1⟩ := take (c := c) g ((most : Int) - (least : Int) + 1) (by omega)
  obtain ⟨hrng, hit⟩ := rng_items (n := least + r) (by omega)
  obtain ⟨x, σ₂, h2, hx, g2⟩ := octs_map (c := c) (ρ := [.val (.loc 0), .val (.int (least : Int)), .val (.int (most : Int))]) rfl (rngUp 0 (least + r)) σ₁ g1
  rw [rng_len] at hx
  refine ⟨x, σ₂, c_fn rfl rfl (s_ret (e_bi (e_cons (e_comp (e_bi (e_cons (x := .int ((least + r : Nat) : Int)) (e_bin rfl (e_call (e_cons rfl (e_cons (e_bin (e_bin rfl rfl rfl) rfl rfl) e_nil)) h1) rfl) e_nil) hrng) hit (by rw [rng_len]; unfold lim; omega) h2) e_nil) ?_)), by omega, by omega, g2⟩
  show (if (intsV x).length ≤ lim then (octets? (intsV x)).map PV.byt else none) = _
  rw [if_pos (by show (List.map _ _).length ≤ _; rw [List.length_map]; unfold lim; omega), octets_ints']; rfl
theorem octE (g : G rest σ) (least most : Nat) (hl : least ≤ most) (hm : most ≤ 100) (h0 : valAt ρ 0 = some (.loc 0)) : ∃ (x : List UInt8) (σ' : St), ev (callF tab (c + 2)) (.call 369 (.cons (.var 0) (.cons (.lit (.int (least : Int))) (.cons (.lit (.int (most : Int))) .nil)))) ρ σ = some (.byt x, σ') ∧ least ≤ x.length ∧ x.length ≤ most ∧ G rest σ' := by
  obtain ⟨x, σ', h, h1, h2, g'⟩ := octs (c := c) g least most hl hm
  exact ⟨x, σ', e_call (e_cons (box_ev h0) (e_cons rfl (e_cons rfl e_nil))) h, h1, h2, g'⟩

noncomputable abbrev bd376 : PSs := .cons (.asg 4 (.bin .sub (.var 1) (drawX 4))) (.cons (.app 2 (.tup (.cons (.var 4) (.cons (.var 1) .nil)))) (.cons (.asg 1 (.bin .sub (.bin .sub (.var 4) (.lit (.int 2))) (drawX 5))) .nil))
theorem ranges_loop : ∀ (l : List PV) (σ : St) (high : Nat) (acc : List (Nat × Nat)) (s3 s4 : Slot), G rest σ → 9 * l.length ≤ high → acc.length + l.length ≤ 500 →
    ∃ (rs : List (Nat × Nat)) (s1' s3' s4' : Slot) (σ' : St), forS (fun v ρ σ => xss (callF tab (c + 1)) bd376 (ρ.set 3 (.val v)) σ) l [.val (.loc 0), .val (.int (high : Int)), .ol (rv acc), s3, s4] σ = some (.nxt [.val (.loc 0), s1', .ol (rv (acc ++ rs)), s3', s4'] σ') ∧ Desc (high + 2) rs ∧ rs.length = l.length ∧ G rest σ'
  | [], σ, high, acc, s3, s4, g, _, _ => ⟨[], _, _, _, σ, by rw [List.append_nil]; rfl, trivial, rfl, g⟩
  | v :: l, σ, high, acc, s3, s4, g, hh, hn => by
    rw [List.length_cons] at hh hn
    obtain ⟨r, σ₁, h1, hr, g1⟩ := draw (c := c) (ρ := [.val (.loc 0), .val (.int (high : Int)), .ol (rv acc), .val v, s4]) g 4 (by decide) rfl
    have e1 : (high : Int) - (r : Int) = ((high - r : Nat) : Int) := by omega
    obtain ⟨q, σ₂, h2, hq, g2⟩ := draw (c := c) (ρ := [.val (.loc 0), .val (.int (high : Int)), .ol (rv (acc ++ [(high - r, high)])), .val v, .val (.int ((high - r : Nat) : Int))]) g1 5 (by decide) rfl
    have e2 : ((high - r : Nat) : Int) - 2 - (q : Int) = ((high - r - 2 - q : Nat) : Int) := by omega
    obtain ⟨rs, a, b, d, σ₃, ih, hD, hL, g3⟩ := ranges_loop l σ₂ (high - r - 2 - q) (acc ++ [(high - r, high)]) (.val v) (.val (.int ((high - r : Nat) : Int))) g2 (by omega) (by rw [List.length_append]; show acc.length + 1 + _ ≤ _; with_reducible (apply Mine.sh1 <;> assumption))
    refine ⟨(high - r, high) :: rs, a, b, d, σ₃, ?_, ⟨Nat.le_refl _, Nat.sub_le _ _, ?_⟩, congrArg Nat.succ hL, g3⟩
    · rw [List.append_assoc] at ih
      refine for_nx ?_ ih
      refine s_asg (x := .int ((high - r : Nat) : Int)) (e_bin rfl h1 (congrArg (fun z => some (PV.int z)) e1)) (s_app (e_tup (e_cons rfl (e_cons rfl e_nil))) rfl (by rw [rv_len]; with_reducible (apply Mine.lt_f; apply Mine.tr_l; assumption; decide)) ?_)
      have e3 : rv acc ++ [PV.tup [.int ((high - r : Nat) : Int), .int (high : Int)]] = rv (acc ++ [(high - r, high)]) := by rw [rv_app]; rfl
      rw [e3]
      exact s_asg (x := .int ((high - r - 2 - q : Nat) : Int)) (e_bin (e_bin rfl rfl rfl) h2 (congrArg (fun z => some (PV.int z)) e2)) rfl
    · rw [show high - r - 2 - q + 2 = high - r - q by omega] at hD
      revert hD
      cases rs with
      | nil => exact fun _ => trivial
      | cons z zs => exact fun ⟨k1, k2, k3⟩ => ⟨by omega, k2, k3⟩
theorem ranges (g : G rest σ) : ∃ (r : Nat × Nat) (rs : List (Nat × Nat)) (σ' : St), callF tab (c + 2) 376 [.loc 0] σ = some (.tup (rv (r :: rs)), σ') ∧ r.1 ≤ r.2 ∧ r.2 ≤ 139 ∧ Desc r.1 rs ∧ rs.length ≤ 2 ∧ G rest σ' := by
  obtain ⟨h, σ₁, h1, hh, g1⟩ := draw (c := c) (ρ := [.val (.loc 0), .un, .un, .un, .un]) g 100 (by decide) rfl
  obtain ⟨k, σ₂, h2, hk, g2⟩ := draw (c := c) (ρ := [.val (.loc 0), .val (.int ((40 + h : Nat) : Int)), .ol [], .un, .un]) g1 3 (by decide) rfl
  obtain ⟨hrng, hit⟩ := rng_items (n := 1 + k) (by with_reducible (apply Mine.le_f; apply Nat.add_le_add; exact Mine.lit; apply Mine.li_l; assumption; decide))
  obtain ⟨rs, a, b, d, σ₃, hl, hD, hL, g3⟩ := ranges_loop (c := c) (rngUp 0 (1 + k)) σ₂ (40 + h) [] .un .un g2 (by rw [rng_len]; with_reducible (apply Mine.k9 <;> assumption)) (by rw [rng_len]; show 0 + _ ≤ _; with_reducible (apply Mine.le_f; apply Nat.add_le_add; exact Mine.lit; apply Nat.add_le_add; exact Mine.lit; apply Mine.li_l; assumption; decide))
  rw [rng_len] at hL
  match rs, hl, hD, hL with
  | [], _, _, hL => exact absurd hL (by rw [List.length_nil]; omega)
  | r :: rs, hl, ⟨d1, d2, d3⟩, hL =>
    rw [List.length_cons] at hL
    refine ⟨r, rs, σ₃, c_fn rfl rfl (s_asgTo (e_cons (x := .int ((40 + h : Nat) : Int)) (e_bin rfl h1 rfl) e_nil) rfl rfl (s_seq (s_for1 (e_bi (e_cons (x := .int ((1 + k : Nat) : Int)) (e_bin rfl h2 rfl) e_nil) hrng) hit hl) (s_ret (e_bi rfl (if_pos ?_))))), d2, by omega, d3, by with_reducible (apply Mine.le_f; apply Mine.se1; assumption; apply Mine.li_l; assumption; decide), g3⟩
    show (rv (r :: rs)).length ≤ lim
    rw [rv_len]; show rs.length + 1 ≤ _; unfold lim; with_reducible (apply Mine.le_f; apply Nat.add_le_add; apply Mine.se1; assumption; apply Mine.li_l; assumption; exact Mine.lit; decide)

theorem ok_cons {n : Nat} {ns : List Nat} (h : n < Top62) (hs : Ok62 ns) : Ok62 (n :: ns) := fun m hm => by
  rcases List.mem_cons.mp hm with rfl | hm
  · exact h
  · exact hs m hm
theorem ok_nil : Ok62 [] := fun _ h => nomatch h
theorem ok_app {a b : List Nat} (ha : Ok62 a) (hb : Ok62 b) : Ok62 (a ++ b) := fun m hm => (List.mem_append.mp hm).elim (ha m) (hb m)
theorem all_of {f : F} (h1 : Ok62 f.head) (h2 : f.head.length ≤ 100) (h3 : f.body.length ≤ 100) (hr : f.Rd) (hc : f.cidOk) (ha : ∀ delay r rs ecn, f ≠ .ack delay r rs ecn) (hn : ∀ k ns, f ≠ .nums k ns) : f.All :=
  ⟨⟨h1, Nat.le_trans h2 (by decide), h3, fun _ _ _ _ e => absurd e (ha _ _ _ _), fun _ _ e => absurd e (hn _ _)⟩, hr, hc, h2⟩
theorem all_nums {k : NK} {ns : List Nat} (h : Ok62 ns) (hl : ns.length = k.cnt) : (F.nums k ns).All :=
  ⟨⟨ok_cons (by cases k <;> decide) h, by show ns.length + 1 ≤ _; rw [hl]; cases k <;> decide, Nat.zero_le _, (fun _ _ _ _ e => nomatch e), fun k' ns' e => by injection e with e1 e2; rw [← e1, ← e2]; exact hl⟩, hl, trivial, by show ns.length + 1 ≤ _; rw [hl]; cases k <;> decide⟩
theorem lawAck (g : G rest σ) : ∃ (f : F) (σ' : St), callF tab (c + 3) 383 [.loc 0] σ = some (f.pv, σ') ∧ f.All ∧ G rest σ' := by
  obtain ⟨r, rs, σ₁, h1, k1, k2, k3, k4, g1⟩ := ranges (c := c) g
  obtain ⟨b, σ₂, h2, g2⟩ := drawB (c := c + 1) (ρ := [.val (.loc 0), .val (.tup (rv (r :: rs))), .un]) g1 rfl
  have fin : ∀ (ecn : Option (Nat × Nat × Nat)) (σ₃ : St), G rest σ₃ → (∀ n ∈ ecnL ecn, n ≤ 300) → ev (callF tab (c + 2)) (.ite (.cmp (drawX 2) .eq (.lit (.int 0))) (.tup (.cons (drawX 70) (.cons (drawX 3) (.cons (.lit (.int 300)) .nil)))) (.lit .none)) [.val (.loc 0), .val (.tup (rv (r :: rs))), .un] σ₁ = some (ecnV ecn, σ₃) →
      ∃ (f : F) (σ' : St), callF tab (c + 3) 383 [.loc 0] σ = some (f.pv, σ') ∧ f.All ∧ G rest σ' := by
    intro ecn σ₃ g3 he h3
    obtain ⟨n, σ₄, h4, hn, g4⟩ := numE (c := c) (ρ := [.val (.loc 0), .val (.tup (rv (r :: rs))), .val (ecnV ecn)]) g3 rfl
    have hm := mo_len rs r.1
    have hlt := mo_lt rs r.1 k3
    have hok : Ok62 (ackN n r rs ecn) := by
      refine ok_app (a := ackK ecn :: r.2 :: n :: (rs.length :: (r.2 - r.1) :: mo r.1 rs)) (ok_cons ?_ (ok_cons ?_ (ok_cons ?_ (ok_cons ?_ (ok_cons ?_ fun m hm => ?_))))) fun m hm => ?_
      · cases ecn with
        | none => exact (show 2 < Top62 by decide)
        | some z => exact (show 3 < Top62 by decide)
      all_goals unfold Top62
      · with_reducible (apply Mine.lt_f; assumption; decide)
      · with_reducible (apply Mine.lt_f; assumption; decide)
      · with_reducible (apply Mine.lt_f; assumption; decide)
      · with_reducible (apply Mine.lt_f; apply Mine.sub_b; assumption; decide)
      · have := hlt m hm; with_reducible (apply Mine.lt_f; apply Nat.le_trans; assumption; apply Nat.le_trans; assumption; assumption; decide)
      · have := he m hm; with_reducible (apply Mine.lt_f; assumption; decide)
    refine ⟨.ack n r rs ecn, σ₄, c_fn rfl rfl (s_asg (e_call rfl h1) (s_asg h3 (s_ret (e_tup (e_cons rfl (e_cons h4 (e_cons rfl (e_cons ?_ e_nil)))))))), ⟨⟨hok, ackN_len (by with_reducible (apply Mine.le_f; assumption; decide)), Nat.zero_le _, fun a b d e eq => by injection eq with e1 e2 e3 e4; subst e2; subst e3; exact ⟨k1, k3, by with_reducible (apply Mine.le_f; assumption; decide)⟩, fun _ _ e => nomatch e⟩, ⟨k1, k3, by with_reducible (apply Mine.le_f; assumption; decide)⟩, trivial, ?_⟩, g4⟩
    · cases ecn <;> rfl
    · have h2 : (ecnL ecn).length ≤ 3 := by
        cases ecn with
        | none => decide
        | some p => exact Nat.le_refl _
      show ((_ :: _ :: _ :: _ :: _ :: mo r.1 rs) ++ ecnL ecn).length ≤ _
      rw [List.length_append]
      show (mo r.1 rs).length + 1 + 1 + 1 + 1 + 1 + _ ≤ _
      with_reducible (apply Mine.le_f; apply Nat.add_le_add; apply Nat.add_le_add; apply Nat.add_le_add; apply Nat.add_le_add; apply Nat.add_le_add; apply Nat.add_le_add; apply Mine.le_e; assumption; apply Nat.mul_le_mul_left; assumption; exact Mine.lit; exact Mine.lit; exact Mine.lit; exact Mine.lit; exact Mine.lit; assumption; decide)
  cases b with
  | false => exact fin none σ₂ g2 (fun _ h => nomatch h) (e_iteF h2 rfl rfl)
  | true =>
    obtain ⟨x, σ₃, h3, hx, g3⟩ := draw (c := c + 1) (ρ := [.val (.loc 0), .val (.tup (rv (r :: rs))), .un]) g2 70 (by decide) rfl
    obtain ⟨y, σ₄, h4, hy, g4⟩ := draw (c := c + 1) (ρ := [.val (.loc 0), .val (.tup (rv (r :: rs))), .un]) g3 3 (by decide) rfl
    refine fin (some (x, y, 300)) σ₄ g4 (fun n hn => ?_) (e_iteT h2 rfl (e_tup (e_cons h3 (e_cons h4 (e_cons rfl e_nil)))))
    rcases List.mem_cons.mp hn with rfl | hn
    · with_reducible (apply Mine.le_f; apply Mine.li_l; assumption; decide)
    rcases List.mem_cons.mp hn with rfl | hn
    · with_reducible (apply Mine.le_f; apply Mine.li_l; assumption; decide)
    rcases List.mem_cons.mp hn with rfl | hn
    · (with_reducible decide)
    exact nomatch hn
end
end Mine.P
end
section
namespace Mine.P
open PySem

section
variable {cf : CF} {ρ : List Slot} {σ σ₁ : St} {ss tt : PSs} {X : Option XR}
theorem s_neI {k i : Int} (h1 : ev cf (.var 1) ρ σ = some (.int k, σ)) (h : decide (k = i) = false) (h3 : xss cf ss ρ σ = X) : xss cf (.cons (.ifs (.cmp (.var 1) .eq (.lit (.int i))) tt .nil) ss) ρ σ = X :=
  s_skip (e_cmp h1 rfl rfl) (fl h) h3
theorem s_eqI {k i : Int} {r : PV} (h1 : ev cf (.var 1) ρ σ = some (.int k, σ)) (h : decide (k = i) = true) (h3 : xss cf tt ρ σ = some (.ret r σ₁)) : xss cf (.cons (.ifs (.cmp (.var 1) .eq (.lit (.int i))) tt .nil) ss) ρ σ = some (.ret r σ₁) :=
  s_take (e_cmp h1 rfl rfl) (tr h) h3
end
section
variable {c : Nat} {σ : St} {rest : List MO}
theorem n62 {n : Nat} (h : n ≤ 2305843009213693959) : n < Top62 := by unfold Top62; with_reducible (apply Mine.lt_f; assumption; decide)
theorem len62 {x : List UInt8} (h : x.length ≤ 100) : x.length < Top62 := by unfold Top62; with_reducible (apply Mine.lt_f; assumption; decide)
noncomputable abbrev Out (c : Nat) (rest : List MO) (σ : St) : Prop := ∃ (f : F) (σ' : St), callF tab (c + 4) 390 [.loc 0] σ = some (f.pv, σ') ∧ f.All ∧ G rest σ'
theorem lawFrame (g : G rest σ) : Out c rest σ := by
  obtain ⟨r, σ₁, h1, hr, g1⟩ := draw (c := c + 2) (ρ := [.val (.loc 0), .un, .un, .un]) g 12 (by decide) rfl
  have : r = 0 ∨ r = 1 ∨ r = 2 ∨ r = 3 ∨ r = 4 ∨ r = 5 ∨ r = 6 ∨ r = 7 ∨ r = 8 ∨ r = 9 ∨ r = 10 ∨ r = 11 := by with_reducible (apply Mine.dz12 <;> assumption)
  rcases this with rfl | rfl | rfl | rfl | rfl | rfl | rfl | rfl | rfl | rfl | rfl | rfl
  · obtain ⟨f, σ₂, h2, hf, g2⟩ := lawAck (c := c) g1
    exact ⟨f, σ₂, c_fn rfl rfl (s_asg h1 (s_eqI rfl rfl (s_ret (e_call rfl h2)))), hf, g2⟩
  · obtain ⟨n, σ₂, en, bn, g2⟩ := numE (c := c + 1) (ρ := [.val (.loc 0), .val (.int ((1 : Nat) : Int)), .un, .un]) g1 rfl
    obtain ⟨x, σ₃, ex, lx, mx, g3⟩ := octE (c := c + 1) (ρ := [.val (.loc 0), .val (.int ((1 : Nat) : Int)), .un, .un]) g2 0 4 (by decide) (by decide) rfl
    exact ⟨.crypto n x, σ₃, c_fn rfl rfl (s_asg h1 (s_neI rfl rfl (s_eqI rfl rfl (s_ret (e_tup (e_cons rfl (e_cons en (e_cons ex e_nil)))))))), (all_of (ok_cons (by decide) (ok_cons (n62 bn) (ok_cons (len62 (by with_reducible (apply Mine.le_f; assumption; decide))) ok_nil))) (show 3 ≤ 100 by decide) (show x.length ≤ 100 by with_reducible (apply Mine.le_f; assumption; decide)) (show n + x.length < Top62 by unfold Top62; with_reducible (apply Mine.lt_f; apply Nat.add_le_add; assumption; assumption; decide)) trivial (fun _ _ _ _ e => nomatch e) (fun _ _ e => nomatch e)), g3⟩
  · obtain ⟨n, σ₂, en, bn, g2⟩ := numE (c := c + 1) (ρ := [.val (.loc 0), .val (.int ((2 : Nat) : Int)), .un, .un]) g1 rfl
    obtain ⟨o, σ₃, eo, bo, g3⟩ := numE (c := c + 1) (ρ := [.val (.loc 0), .val (.int ((2 : Nat) : Int)), .un, .un]) g2 rfl
    obtain ⟨x, σ₄, ex, lx, mx, g4⟩ := octE (c := c + 1) (ρ := [.val (.loc 0), .val (.int ((2 : Nat) : Int)), .un, .un]) g3 0 5 (by decide) (by decide) rfl
    obtain ⟨b, σ₅, eb, g5⟩ := drawB (c := c + 2) (ρ := [.val (.loc 0), .val (.int ((2 : Nat) : Int)), .un, .un]) g4 rfl
    have hp := posL_len o
    have ht := toldS_lt o false b
    have ho : Ok62 (posL o) := by
      unfold posL
      split
      · exact ok_cons (n62 bo) ok_nil
      · exact ok_nil
    refine ⟨.stream n o x b, σ₅, c_fn rfl rfl (s_asg h1 (s_neI rfl rfl (s_neI rfl rfl (s_eqI rfl rfl (s_ret (e_tup (e_cons rfl (e_cons en (e_cons eo (e_cons ex (e_cons eb e_nil))))))))))), all_of (ok_cons (by unfold Top62; with_reducible (apply Mine.lt_f; apply Mine.lt_l; assumption; decide)) (ok_cons (n62 bn) (ok_app ho (ok_cons (len62 (by with_reducible (apply Mine.le_f; assumption; decide))) ok_nil)))) ?_ (show x.length ≤ 100 by with_reducible (apply Mine.le_f; assumption; decide)) (show o + x.length < Top62 by unfold Top62; with_reducible (apply Mine.lt_f; apply Nat.add_le_add; assumption; assumption; decide)) trivial (fun _ _ _ _ e => nomatch e) (fun _ _ e => nomatch e), g5⟩
    show (posL o ++ [x.length]).length + 1 + 1 ≤ 100
    rw [List.length_append]; show (posL o).length + 1 + 1 + 1 ≤ _; with_reducible (apply Mine.le_f; apply Nat.add_le_add; apply Nat.add_le_add; apply Nat.add_le_add; assumption; exact Mine.lit; exact Mine.lit; exact Mine.lit; decide)
  · obtain ⟨x, σ₂, ex, lx, mx, g2⟩ := octE (c := c + 1) (ρ := [.val (.loc 0), .val (.int ((3 : Nat) : Int)), .un, .un]) g1 1 4 (by decide) (by decide) rfl
    exact ⟨.token x, σ₂, c_fn rfl rfl (s_asg h1 (s_neI rfl rfl (s_neI rfl rfl (s_neI rfl rfl (s_eqI rfl rfl (s_ret (e_tup (e_cons rfl (e_cons ex e_nil))))))))), (all_of (ok_cons (by decide) (ok_cons (len62 (by with_reducible (apply Mine.le_f; assumption; decide))) ok_nil)) (show 2 ≤ 100 by decide) (show x.length ≤ 100 by with_reducible (apply Mine.le_f; assumption; decide)) (show 1 ≤ x.length by (with_reducible assumption)) trivial (fun _ _ _ _ e => nomatch e) (fun _ _ e => nomatch e)), g2⟩
  · obtain ⟨p, σ₂, ep, g2⟩ := drawB (c := c + 2) (ρ := [.val (.loc 0), .val (.int ((4 : Nat) : Int)), .un, .un]) g1 rfl
    obtain ⟨q, σ₃, eq, g3⟩ := drawB (c := c + 2) (ρ := [.val (.loc 0), .val (.int ((4 : Nat) : Int)), .val (.str (mxS p)), .un]) g2 rfl
    obtain ⟨z, σ₄, ez, bz, g4⟩ := draw (c := c + 2) (ρ := [.val (.loc 0), .val (.int ((4 : Nat) : Int)), .val (.str (mxS p)), .un]) g3 9 (by decide) rfl
    have e1 : (1152921504606846976 : Int) - (z : Int) = ((1152921504606846976 - z : Nat) : Int) := by with_reducible (apply Mine.big1 <;> assumption)
    have ek : ev (callF tab (c + 3)) (.ite (.cmp (drawX 2) .eq (.lit (.int 0))) (.lit (.str (Str.ofString "max_streams"))) (.lit (.str (Str.ofString "streams_blocked")))) [.val (.loc 0), .val (.int ((4 : Nat) : Int)), .un, .un] σ₁ = some (.str (mxS p), σ₂) := by
      cases p with
      | true => exact e_iteT ep rfl rfl
      | false => exact e_iteF ep rfl rfl
    refine ⟨.streams p q (1152921504606846976 - z), σ₄, c_fn rfl rfl (s_asg h1 (s_neI rfl rfl (s_neI rfl rfl (s_neI rfl rfl (s_neI rfl rfl (s_eqI rfl rfl (s_asg ek (s_ret (e_tup (e_cons rfl (e_cons eq (e_cons (e_bin rfl ez (congrArg (fun z => some (PV.int z)) e1)) e_nil)))))))))))), all_of (ok_cons ?_ (ok_cons (by unfold Top62; with_reducible (apply Mine.lt_f; apply Mine.sub_b; exact Mine.lit; decide)) ok_nil)) (show 2 ≤ 100 by decide) (Nat.zero_le _) (Nat.sub_le _ _) trivial (fun _ _ _ _ e => nomatch e) (fun _ _ e => nomatch e), g4⟩
    cases p <;> cases q <;> decide
  · obtain ⟨p, σ₂, ep, bp, g2⟩ := draw (c := c + 2) (ρ := [.val (.loc 0), .val (.int ((5 : Nat) : Int)), .un, .un]) g1 70 (by decide) rfl
    obtain ⟨z, σ₃, ez, bz, g3⟩ := draw (c := c + 2) (ρ := [.val (.loc 0), .val (.int ((5 : Nat) : Int)), .un, .val (.int (p : Int))]) g2 9 (by decide) rfl
    obtain ⟨x, σ₄, ex, lx, mx, g4⟩ := octE (c := c + 1) (ρ := [.val (.loc 0), .val (.int ((5 : Nat) : Int)), .un, .val (.int (p : Int))]) g3 1 20 (by decide) (by decide) rfl
    refine ⟨.newcid (p + z) p x ((List.range 16).map UInt8.ofNat), σ₄, c_fn rfl rfl (s_asg h1 (s_neI rfl rfl (s_neI rfl rfl (s_neI rfl rfl (s_neI rfl rfl (s_neI rfl rfl (s_eqI rfl rfl (s_asg ep (s_ret (e_tup (e_cons rfl (e_cons (e_bin rfl ez rfl) (e_cons rfl (e_cons ex (e_cons rfl e_nil))))))))))))))), all_of (ok_cons (by decide) (ok_cons (by unfold Top62; with_reducible (apply Mine.lt_f; apply Nat.add_le_add; apply Mine.li_l; assumption; apply Mine.li_l; assumption; decide)) (ok_cons (by unfold Top62; with_reducible (apply Mine.lt_f; apply Mine.li_l; assumption; decide)) (ok_cons (len62 (by with_reducible (apply Mine.le_f; assumption; decide))) ok_nil)))) (show 4 ≤ 100 by decide) ?_ ⟨by (with_reducible exact Nat.le_add_right _ _), lx, mx, rfl⟩ (show x.length < 64 by with_reducible (apply Mine.lt_f; assumption; decide)) (fun _ _ _ _ e => nomatch e) (fun _ _ e => nomatch e), g4⟩
    show (x ++ _).length ≤ 100
    rw [List.length_append]; show x.length + 16 ≤ _; with_reducible (apply Mine.le_f; apply Nat.add_le_add; assumption; exact Mine.lit; decide)
  · obtain ⟨p, σ₂, ep, g2⟩ := drawB (c := c + 2) (ρ := [.val (.loc 0), .val (.int ((6 : Nat) : Int)), .un, .un]) g1 rfl
    obtain ⟨x, σ₃, ex, lx, mx, g3⟩ := octE (c := c + 1) (ρ := [.val (.loc 0), .val (.int ((6 : Nat) : Int)), .un, .un]) g2 8 8 (by decide) (by decide) rfl
    have ek : ev (callF tab (c + 3)) (.ite (.cmp (drawX 2) .eq (.lit (.int 0))) (.lit (.str (Str.ofString "path_challenge"))) (.lit (.str (Str.ofString "path_response")))) [.val (.loc 0), .val (.int ((6 : Nat) : Int)), .un, .un] σ₁ = some (.str (chS p), σ₂) := by
      cases p with
      | true => exact e_iteT ep rfl rfl
      | false => exact e_iteF ep rfl rfl
    refine ⟨.path p x, σ₃, c_fn rfl rfl (s_asg h1 (s_neI rfl rfl (s_neI rfl rfl (s_neI rfl rfl (s_neI rfl rfl (s_neI rfl rfl (s_neI rfl rfl (s_eqI rfl rfl (s_ret (e_tup (e_cons ek (e_cons ex e_nil)))))))))))), all_of (ok_cons ?_ ok_nil) (show 1 ≤ 100 by decide) (show x.length ≤ 100 by with_reducible (apply Mine.le_f; assumption; decide)) (show x.length = 8 by with_reducible (apply Nat.le_antisymm <;> assumption)) trivial (fun _ _ _ _ e => nomatch e) (fun _ _ e => nomatch e), g3⟩
    cases p <;> decide
  · obtain ⟨p, σ₂, ep, g2⟩ := drawB (c := c + 2) (ρ := [.val (.loc 0), .val (.int ((7 : Nat) : Int)), .un, .un]) g1 rfl
    have fin : ∀ (ft : Option Nat) (σ₃ : St), G rest σ₃ → (∀ n ∈ optL ft, n ≤ 31) → ev (callF tab (c + 3)) (.ite (.cmp (drawX 2) .eq (.lit (.int 0))) (.lit .none) (drawX 31)) [.val (.loc 0), .val (.int ((7 : Nat) : Int)), .un, .un] σ₁ = some (optV ft, σ₃) → Out c rest σ := by
      intro ft σ₃ g3 hft ek
      obtain ⟨n, σ₄, en, bn, g4⟩ := numE (c := c + 1) (ρ := [.val (.loc 0), .val (.int ((7 : Nat) : Int)), .val (optV ft), .un]) g3 rfl
      obtain ⟨x, σ₅, ex, lx, mx, g5⟩ := octE (c := c + 1) (ρ := [.val (.loc 0), .val (.int ((7 : Nat) : Int)), .val (optV ft), .un]) g4 0 3 (by decide) (by decide) rfl
      refine ⟨.close n ft x, σ₅, c_fn rfl rfl (s_asg h1 (s_neI rfl rfl (s_neI rfl rfl (s_neI rfl rfl (s_neI rfl rfl (s_neI rfl rfl (s_neI rfl rfl (s_neI rfl rfl (s_eqI rfl rfl (s_asg ek (s_ret (e_tup (e_cons rfl (e_cons en (e_cons rfl (e_cons ex e_nil)))))))))))))))), all_of (ok_cons ?_ (ok_cons (n62 bn) (ok_app (fun m hm => ?_) (ok_cons (len62 (by with_reducible (apply Mine.le_f; assumption; decide))) ok_nil)))) ?_ (show x.length ≤ 100 by with_reducible (apply Mine.le_f; assumption; decide)) trivial trivial (fun _ _ _ _ e => nomatch e) (fun _ _ e => nomatch e), g5⟩
      · cases ft with
        | none => exact (show 29 < Top62 by decide)
        | some z => exact (show 28 < Top62 by decide)
      · have := hft m hm; unfold Top62; with_reducible (apply Mine.lt_f; assumption; decide)
      · cases ft with
        | none => exact (show 3 ≤ 100 by decide)
        | some z => exact (show 4 ≤ 100 by decide)
    cases p with
    | true => exact fin none σ₂ g2 (fun _ h => nomatch h) (e_iteT ep rfl rfl)
    | false =>
      obtain ⟨z, σ₃, ez, bz, g3⟩ := draw (c := c + 2) (ρ := [.val (.loc 0), .val (.int ((7 : Nat) : Int)), .un, .un]) g2 31 (by decide) rfl
      refine fin (some z) σ₃ g3 (fun n hn => ?_) (e_iteF ep rfl ez)
      rcases List.mem_cons.mp hn with rfl | hn
      · with_reducible (apply Mine.le_f; apply Mine.li_l; assumption; decide)
      · exact nomatch hn
  · obtain ⟨z, σ₂, ez, bz, g2⟩ := draw (c := c + 2) (ρ := [.val (.loc 0), .val (.int ((8 : Nat) : Int)), .un, .un]) g1 2 (by decide) rfl
    have : z = 0 ∨ z = 1 := by with_reducible (apply Mine.dz2 <;> assumption)
    rcases this with rfl | rfl
    · exact ⟨.nums .ping [], σ₂, c_fn rfl rfl (s_asg h1 (s_neI rfl rfl (s_neI rfl rfl (s_neI rfl rfl (s_neI rfl rfl (s_neI rfl rfl (s_neI rfl rfl (s_neI rfl rfl (s_neI rfl rfl (s_eqI rfl rfl (s_ret (e_idx rfl ez rfl)))))))))))), all_nums ok_nil rfl, g2⟩
    · exact ⟨.nums .hsd [], σ₂, c_fn rfl rfl (s_asg h1 (s_neI rfl rfl (s_neI rfl rfl (s_neI rfl rfl (s_neI rfl rfl (s_neI rfl rfl (s_neI rfl rfl (s_neI rfl rfl (s_neI rfl rfl (s_eqI rfl rfl (s_ret (e_idx rfl ez rfl)))))))))))), all_nums ok_nil rfl, g2⟩
  · obtain ⟨n, σ₂, en, bn, g2⟩ := numE (c := c + 1) (ρ := [.val (.loc 0), .val (.int ((9 : Nat) : Int)), .un, .un]) g1 rfl
    obtain ⟨o, σ₃, eo, bo, g3⟩ := numE (c := c + 1) (ρ := [.val (.loc 0), .val (.int ((9 : Nat) : Int)), .un, .un]) g2 rfl
    obtain ⟨q, σ₄, eq, bq, g4⟩ := numE (c := c + 1) (ρ := [.val (.loc 0), .val (.int ((9 : Nat) : Int)), .un, .un]) g3 rfl
    exact ⟨.nums .reset [n, o, q], σ₄, c_fn rfl rfl (s_asg h1 (s_neI rfl rfl (s_neI rfl rfl (s_neI rfl rfl (s_neI rfl rfl (s_neI rfl rfl (s_neI rfl rfl (s_neI rfl rfl (s_neI rfl rfl (s_neI rfl rfl (s_eqI rfl rfl (s_ret (e_tup (e_cons rfl (e_cons en (e_cons eo (e_cons eq e_nil))))))))))))))))), all_nums (ok_cons (n62 bn) (ok_cons (n62 bo) (ok_cons (n62 bq) ok_nil))) rfl, g4⟩
  · obtain ⟨z, σ₂, ez, bz, g2⟩ := draw (c := c + 2) (ρ := [.val (.loc 0), .val (.int ((10 : Nat) : Int)), .un, .un]) g1 3 (by decide) rfl
    have fin : ∀ (k : NK), k.cnt = 2 → ev (callF tab (c + 3)) (.idx (.lst (.cons (.lit (.str (Str.ofString "stop_sending"))) (.cons (.lit (.str (Str.ofString "max_stream_data"))) (.cons (.lit (.str (Str.ofString "stream_data_blocked"))) .nil)))) (drawX 3)) [.val (.loc 0), .val (.int ((10 : Nat) : Int)), .un, .un] σ₁ = some (.str k.name, σ₂) → Out c rest σ := by
      intro k hk ek
      obtain ⟨n, σ₃, en, bn, g3⟩ := numE (c := c + 1) (ρ := [.val (.loc 0), .val (.int ((10 : Nat) : Int)), .val (.str k.name), .un]) g2 rfl
      obtain ⟨o, σ₄, eo, bo, g4⟩ := numE (c := c + 1) (ρ := [.val (.loc 0), .val (.int ((10 : Nat) : Int)), .val (.str k.name), .un]) g3 rfl
      exact ⟨.nums k [n, o], σ₄, c_fn rfl rfl (s_asg h1 (s_neI rfl rfl (s_neI rfl rfl (s_neI rfl rfl (s_neI rfl rfl (s_neI rfl rfl (s_neI rfl rfl (s_neI rfl rfl (s_neI rfl rfl (s_neI rfl rfl (s_neI rfl rfl (s_eqI rfl rfl (s_asg ek (s_ret (e_tup (e_cons rfl (e_cons en (e_cons eo e_nil)))))))))))))))))), all_nums (ok_cons (n62 bn) (ok_cons (n62 bo) ok_nil)) hk.symm, g4⟩
    have : z = 0 ∨ z = 1 ∨ z = 2 := by with_reducible (apply Mine.dz3 <;> assumption)
    rcases this with rfl | rfl | rfl
    · exact fin .stop rfl (e_idx rfl ez rfl)
    · exact fin .maxsd rfl (e_idx rfl ez rfl)
    · exact fin .sdb rfl (e_idx rfl ez rfl)
  · obtain ⟨z, σ₂, ez, bz, g2⟩ := draw (c := c + 2) (ρ := [.val (.loc 0), .val (.int ((11 : Nat) : Int)), .un, .un]) g1 3 (by decide) rfl
    obtain ⟨n, σ₃, en, bn, g3⟩ := numE (c := c + 1) (ρ := [.val (.loc 0), .val (.int ((11 : Nat) : Int)), .un, .un]) g2 rfl
    have fin : ∀ (k : NK), k.cnt = 1 → ev (callF tab (c + 3)) (.idx (.lst (.cons (.lit (.str (Str.ofString "max_data"))) (.cons (.lit (.str (Str.ofString "data_blocked"))) (.cons (.lit (.str (Str.ofString "retire_connection_id"))) .nil)))) (drawX 3)) [.val (.loc 0), .val (.int ((11 : Nat) : Int)), .un, .un] σ₁ = some (.str k.name, σ₂) → Out c rest σ := by
      intro k hk ek
      exact ⟨.nums k [n], σ₃, c_fn rfl rfl (s_asg h1 (s_neI rfl rfl (s_neI rfl rfl (s_neI rfl rfl (s_neI rfl rfl (s_neI rfl rfl (s_neI rfl rfl (s_neI rfl rfl (s_neI rfl rfl (s_neI rfl rfl (s_neI rfl rfl (s_neI rfl rfl (s_ret (e_tup (e_cons ek (e_cons en e_nil)))))))))))))))), all_nums (ok_cons (n62 bn) ok_nil) hk.symm, g3⟩
    have : z = 0 ∨ z = 1 ∨ z = 2 := by with_reducible (apply Mine.dz3 <;> assumption)
    rcases this with rfl | rfl | rfl
    · exact fin .maxd rfl (e_idx rfl ez rfl)
    · exact fin .db rfl (e_idx rfl ez rfl)
    · exact fin .retire rfl (e_idx rfl ez rfl)
end
end Mine.P
end
section
namespace Mine.P
open PySem

/-! equal values -/
theorem eqvL_self {f : PV → PV → Option Bool} : ∀ {vs : List PV}, (∀ v ∈ vs, f v v = some true) → eqvL f vs vs = some true
  | [], _ => rfl
  | v :: vs, h => by
    show (f v v).bind _ = _
    rw [h v (.head _), sb, if_pos rfl]
    exact eqvL_self fun u hu => h u (.tail _ hu)
theorem eqv_int (n : Nat) (i : Int) : eqv (n + 1) (.int i) (.int i) = some true := congrArg some (decide_eq_true rfl)
theorem eqv_str (n : Nat) (s : Str) : eqv (n + 1) (.str s) (.str s) = some true := congrArg some (decide_eq_true rfl)
theorem eqv_byt (n : Nat) (b : List UInt8) : eqv (n + 1) (.byt b) (.byt b) = some true := congrArg some (decide_eq_true rfl)
theorem eqv_bool (n : Nat) (b : Bool) : eqv (n + 1) (.bool b) (.bool b) = some true := congrArg some (beq_self_eq_true b)
theorem eqv_nl (n : Nat) (ns : List Nat) : ∀ v ∈ nl ns, eqv (n + 1) v v = some true := fun v hv => by
  obtain ⟨m, _, rfl⟩ := List.mem_map.mp hv
  exact eqv_int n _
theorem eqv_tup {n : Nat} {vs : List PV} (h : ∀ v ∈ vs, eqv n v v = some true) : eqv (n + 1) (.tup vs) (.tup vs) = some true := eqvL_self h
theorem eqv_lst {n : Nat} {vs : List PV} (h : ∀ v ∈ vs, eqv n v v = some true) : eqv (n + 1) (.lst vs) (.lst vs) = some true := eqvL_self h
theorem all_cons {P : PV → Prop} {v : PV} {vs : List PV} (h : P v) (hs : ∀ u ∈ vs, P u) : ∀ u ∈ v :: vs, P u := fun u hu => by
  rcases List.mem_cons.mp hu with rfl | hu
  · exact h
  · exact hs u hu
theorem all_nil {P : PV → Prop} : ∀ u ∈ ([] : List PV), P u := fun _ h => nomatch h
theorem eqv_pv (f : F) : eqv 8 f.pv f.pv = some true := by
  cases f with
  | nums k ns => exact eqv_tup (n := 7) (all_cons (eqv_str 6 _) (eqv_nl 6 ns))
  | ack delay r rs ecn =>
    refine eqv_tup (n := 7) (all_cons (eqv_str 6 _) (all_cons (eqv_int 6 _) (all_cons (eqv_tup (n := 6) fun v hv => ?_) (all_cons ?_ all_nil))))
    · obtain ⟨m, _, rfl⟩ := List.mem_map.mp hv
      exact eqv_tup (n := 5) (all_cons (eqv_int 4 _) (all_cons (eqv_int 4 _) all_nil))
    · cases ecn with
      | none => rfl
      | some z => exact eqv_tup (n := 6) (eqv_nl 5 _)
  | crypto o d => exact eqv_tup (n := 7) (all_cons (eqv_str 6 _) (all_cons (eqv_int 6 _) (all_cons (eqv_byt 6 _) all_nil)))
  | stream n o d fin => exact eqv_tup (n := 7) (all_cons (eqv_str 6 _) (all_cons (eqv_int 6 _) (all_cons (eqv_int 6 _) (all_cons (eqv_byt 6 _) (all_cons (eqv_bool 6 _) all_nil)))))
  | token d => exact eqv_tup (n := 7) (all_cons (eqv_str 6 _) (all_cons (eqv_byt 6 _) all_nil))
  | streams mx uni n => exact eqv_tup (n := 7) (all_cons (eqv_str 6 _) (all_cons (eqv_bool 6 _) (all_cons (eqv_int 6 _) all_nil)))
  | newcid s p c t => exact eqv_tup (n := 7) (all_cons (eqv_str 6 _) (all_cons (eqv_int 6 _) (all_cons (eqv_int 6 _) (all_cons (eqv_byt 6 _) (all_cons (eqv_byt 6 _) all_nil)))))
  | path ch d => exact eqv_tup (n := 7) (all_cons (eqv_str 6 _) (all_cons (eqv_byt 6 _) all_nil))
  | close code ft d =>
    refine eqv_tup (n := 7) (all_cons (eqv_str 6 _) (all_cons (eqv_int 6 _) (all_cons ?_ (all_cons (eqv_byt 6 _) all_nil))))
    cases ft with
    | none => rfl
    | some n => exact eqv_int 6 _
theorem ne_of {x y : PV} (h : eqv 9 x y = some true) : cmp .ne x y = some false := by
  show (eqv 9 x y).map not = _
  rw [h]; rfl

section
variable {c : Nat} {σ : St}
theorem call171 {f : F} (h : f.Ok) (hc : f.cidOk) (hl : f.wire.length ≤ 10000) : callF tab (c + 6) 171 [f.pv] σ = some (.int (f.wire.length : Int), σ) :=
  c_fn rfl rfl (s_ret (e_bi (e_cons (e_call rfl (call159 h hc)) e_nil) (len_ok hl)))
theorem wire_len {f : F} (h : f.head.length ≤ 100) (hb : f.body.length ≤ 100) : f.wire.length ≤ 900 := by
  have := rowB_len f.head
  unfold F.wire
  rw [List.length_append]; with_reducible (apply Mine.le_f; apply Nat.add_le_add; apply Nat.le_trans; assumption; apply Nat.mul_le_mul_left; assumption; assumption; decide)

/-! the rooms -/
theorem rowB_len_cons (n : Nat) (ns : List Nat) : (rowB (n :: ns)).length = sz n + (rowB ns).length := by
  show (venc n ++ rowB ns).length = _
  rw [List.length_append, venc_len]
theorem sz_mono {a b : Nat} (h : a ≤ b) : sz a ≤ sz b := by
  unfold sz
  repeat' split
  all_goals omega
theorem max_nat (most a b : Nat) : biV .max [.int 0, .int ((most : Int) - (a : Int) - (b : Int))] = some (.int ((most - a - b : Nat) : Int)) := by
  show some (PV.int (if (most : Int) - (a : Int) - (b : Int) > 0 then (most : Int) - (a : Int) - (b : Int) else 0)) = _
  by_cases h : (most : Int) - (a : Int) - (b : Int) > 0
  · rw [if_pos h, show (most : Int) - (a : Int) - (b : Int) = ((most - a - b : Nat) : Int) by omega]
  · rw [if_neg h, show most - a - b = 0 by omega]; rfl
theorem max0 (most : Nat) : biV .max [.int (most : Int), .int 0] = some (.int (most : Int)) := by
  show some (PV.int (if (0 : Int) > (most : Int) then 0 else (most : Int))) = _
  rw [if_neg (by with_reducible (apply Mine.no_lt <;> assumption))]
theorem room_tail {ρ : List Slot} {a : PX} {most : Nat} (h : ∀ σ, ev (callF tab (c + 2)) a ρ σ = some (.int (most : Int), σ)) (hm : most < Top62) : ev (callF tab (c + 2)) (.bi .len (.cons (.call 90 (.cons (.bi .max (.cons a (.cons (.lit (.int 0)) .nil))) (.cons (.lit .none) .nil))) .nil)) ρ σ = some (.int ((sz most : Nat) : Int), σ) := by
  have hl : biV .len [.byt (venc most)] = some (.int ((sz most : Nat) : Int)) := by
    rw [len_ok (by rw [venc_len]; have := sz_le most; with_reducible (apply Mine.le_f; assumption; decide)), venc_len]
  exact e_bi (e_cons (e_call (e_cons (e_bi (e_cons (h _) (e_cons rfl e_nil)) (max0 most)) (e_cons rfl e_nil)) (call90 hm)) e_nil) hl
theorem call178 {n o most : Nat} (hn : n < Top62) (ho : o < Top62) (hm : most < Top62) : callF tab (c + 4) 178 [.int (n : Int), .int (o : Int), .int (most : Int)] σ = some (.int ((most - (rowB (8 :: n :: posL o)).length - sz most : Nat) : Int), σ) := by
  have hp := posL_len o
  have hl1 : (8 :: n :: posL o).length ≤ 1000 := by show (posL o).length + 1 + 1 ≤ _; with_reducible (apply Mine.le_f; apply Nat.add_le_add; apply Nat.add_le_add; assumption; exact Mine.lit; exact Mine.lit; decide)
  have hok : Ok62 (8 :: n :: posL o) := ok_cons (by decide) (ok_cons hn (by
    unfold posL
    split
    · exact ok_cons ho ok_nil
    · exact ok_nil))
  have hb := rowB_lt hl1
  refine c_fn rfl rfl (s_asg (e_bi (e_cons (e_call (e_cons (e_bin (e_lst (e_cons rfl (e_cons rfl e_nil))) (posL_ev rfl) (add_lst (by show 2 + (nl (posL o)).length ≤ _; rw [nl_len]; with_reducible (apply Mine.le_f; apply Nat.add_le_add; exact Mine.lit; assumption; decide)))) e_nil) (call103 hl1 hok)) e_nil) (len_ok (by with_reducible (apply Mine.le_f; assumption; decide)))) (s_ret ?_))
  exact e_bi (e_cons rfl (e_cons (e_bin (e_bin rfl rfl rfl) (room_tail (c := c + 1) (fun _ => rfl) hm) rfl) e_nil)) (max_nat _ _ _)
theorem call185 {o most : Nat} (ho : o < Top62) (hm : most < Top62) : callF tab (c + 4) 185 [.int (o : Int), .int (most : Int)] σ = some (.int ((most - (rowB [6, o]).length - sz most : Nat) : Int), σ) := by
  have hb := rowB_lt (ns := [6, o]) (show 2 ≤ 1000 by decide)
  have h103 := call103 (c := c) (σ := σ) (ns := [6, o]) (show 2 ≤ 1000 by decide) (ok_cons (by decide) (ok_cons ho ok_nil))
  exact c_fn rfl rfl (s_ret (e_bi (e_cons rfl (e_cons (e_bin (e_bin rfl (e_bi (e_cons (e_call rfl h103) e_nil) (len_ok (by with_reducible (apply Mine.le_f; assumption; decide)))) rfl) (room_tail (c := c + 1) (fun _ => rfl) hm) rfl) e_nil)) (max_nat _ _ _)))
theorem rep_ev {b : UInt8} {n : Nat} (h : n ≤ 1000) : bin .mul (.byt [b]) (.int (n : Int)) = some (.byt (List.replicate n b)) := by
  show (if 0 ≤ (n : Int) ∧ (n : Int) ≤ 1024 ∧ [b] ≠ [] ∧ [b].length ≤ 16 then some (PV.byt (List.replicate (n : Int).toNat [b]).flatten) else none) = _
  rw [if_pos ⟨by (with_reducible exact Mine.nn), by with_reducible (apply Mine.nle; assumption; decide), (fun e => nomatch e), (show 1 ≤ 16 by decide)⟩, Int.toNat_natCast]
  have : ∀ n : Nat, (List.replicate n [b]).flatten = List.replicate n b := fun n => by
    induction n with
    | zero => rfl
    | succ n ih => exact congrArg (b :: ·) ih
  rw [this]
end
end Mine.P
end
section
namespace Mine.P
open PySem

/-! rows of frames -/
section
variable {c : Nat} {σ : St}
theorem map_all {α : Type} {cf : CF} {ρ : List Slot} {σ : St} {e : PX} {u g : α → PV} : ∀ {xs : List α}, (∀ x ∈ xs, ev cf e (.val (u x) :: ρ) σ = some (g x, σ)) → mapS (fun v σ => ev cf e (.val v :: ρ) σ) (xs.map u) σ = some (xs.map g, σ)
  | [], _ => rfl
  | x :: xs, h => by
    show (ev cf e (.val (u x) :: ρ) σ).bind _ = _
    rw [h x (.head _), sb]
    show (mapS _ (xs.map u) σ).map _ = _
    rw [map_all fun y hy => h y (.tail _ hy)]; rfl
theorem comp_all {α : Type} {cf : CF} {ρ : List Slot} {e b : PX} {u g : α → PV} {xs : List α} (hl : xs.length ≤ 20) (hb : ev cf b ρ σ = some (.lst (xs.map u), σ)) (h : ∀ x ∈ xs, ev cf e (.val (u x) :: ρ) σ = some (g x, σ)) : ev cf (.comp e b) ρ σ = some (.lst (xs.map g), σ) :=
  e_comp hb rfl (by rw [List.length_map]; unfold lim; with_reducible (apply Mine.le_f; assumption; decide)) (map_all h)
noncomputable abbrev toldV (fs : List F) : PV := .lst (fs.map fun f => .byt f.wire)
noncomputable abbrev wires (fs : List F) : List UInt8 := (fs.map F.wire).flatten
theorem wires_len : ∀ fs : List F, (∀ f ∈ fs, f.All) → (wires fs).length ≤ 900 * fs.length
  | [], _ => Nat.zero_le _
  | f :: fs, h => by
    have h1 := wire_len (h f (.head _)).short (h f (.head _)).ok.body
    have h2 := wires_len fs fun g hg => h g (.tail _ hg)
    have e : (wires (f :: fs)).length = f.wire.length + (wires fs).length := List.length_append
    rw [e, List.length_cons]; with_reducible (apply Mine.w900 <;> assumption)
theorem join_told {fs : List F} (h : ∀ f ∈ fs, f.All) (hl : fs.length ≤ 10) : joinV (.byt []) (toldV fs) = some (.byt (wires fs)) := by
  have h1 := wires_len fs h
  have e : fs.map (fun f => PV.byt f.wire) = (fs.map F.wire).map .byt := by rw [List.map_map]; rfl
  unfold toldV
  rw [e]
  exact join_ok (by unfold lim; show (wires fs).length ≤ _; with_reducible (apply Mine.le_f; apply Nat.le_trans; assumption; apply Nat.mul_le_mul_left; assumption; decide))
theorem call164 {fs : List F} (h : ∀ f ∈ fs, f.All) (hl : fs.length ≤ 10) : callF tab (c + 6) 164 [.lst (fs.map F.pv)] σ = some (.byt (wires fs), σ) :=
  c_fn rfl rfl (s_ret (e_join rfl (comp_all (u := F.pv) (g := fun f => .byt f.wire) (by with_reducible (apply Mine.le_f; assumption; decide)) rfl fun f hf => e_call (e_cons rfl e_nil) (call159 (c := c) (h f hf).ok (h f hf).cid)) (join_told h hl)))

/-! the first octet -/
theorem rng_of {k : Nat} (h : (Nat.ble 1 k && Nat.ble (k + 1) 64) = true) : 0 < k ∧ k < 64 := by
  rw [Bool.and_eq_true] at h
  exact ⟨Nat.le_of_ble_eq_true h.1, Nat.le_of_ble_eq_true h.2⟩
theorem code_rng (f : F) : 0 < f.head.headD 0 ∧ f.head.headD 0 < 64 := by
  cases f with
  | stream n o x fin =>
    have := toldS_rng o false fin
    exact (show 0 < toldS o false fin ∧ toldS o false fin < 64 by omega)
  | nums k ns => cases k <;> exact rng_of rfl
  | ack d r rs ecn => cases ecn <;> exact rng_of rfl
  | streams mx uni n => cases mx <;> cases uni <;> exact rng_of rfl
  | path ch x => cases ch <;> exact rng_of rfl
  | close c ft x => cases ft <;> exact rng_of rfl
  | _ => exact rng_of rfl
theorem row_first {k : Nat} {ks : List Nat} {t : List UInt8} (h : k < 64) : rowB (k :: ks) ++ t = UInt8.ofNat k :: (rowB ks ++ t) := by
  show (venc k ++ rowB ks) ++ t = _
  rw [venc_small h]; rfl
theorem wire_first {f : F} {t : List UInt8} : ∀ b r, f.wire ++ t = b :: r → b ≠ 0 := fun b r e => by
  obtain ⟨h1, h2⟩ := code_rng f
  unfold F.wire at e
  rw [head_eq f, row_first h2] at e
  have e1 : UInt8.ofNat (f.head.headD 0) = b := by injection e
  intro e2
  have e3 : (UInt8.ofNat (f.head.headD 0)).toNat = 0 := by rw [e1, e2]; rfl
  rw [u8_toNat (by with_reducible (apply Mine.lt_f; apply Mine.lt_l; assumption; decide))] at e3
  omega
theorem str_first {n o : Nat} {x t : List UInt8} {fin last : Bool} : strB n o x fin last ++ t = UInt8.ofNat (toldS o last fin) :: ((rowB (n :: posL o) ++ lastB last x) ++ t) := by
  unfold strB
  rw [row_first (toldS_lt o last fin)]; rfl
theorem str_ne {n o : Nat} {x t : List UInt8} {fin : Bool} : strB n o x fin true ++ t ≠ strB n o x fin false := fun e => by
  have e0 : strB n o x fin false = strB n o x fin false ++ [] := (List.append_nil _).symm
  rw [e0, str_first, str_first] at e
  have e1 : UInt8.ofNat (toldS o true fin) = UInt8.ofNat (toldS o false fin) := by injection e
  have h1 := toldS_lt o true fin
  have h2 := toldS_lt o false fin
  have e2 := congrArg UInt8.toNat e1
  rw [u8_toNat (by with_reducible (apply Mine.lt_f; apply Mine.lt_l; assumption; decide)), u8_toNat (by with_reducible (apply Mine.lt_f; apply Mine.lt_l; assumption; decide))] at e2
  unfold toldS at e2
  rw [if_pos rfl, if_neg Bool.false_ne_true] at e2
  omega

/-! _law_last_right -/
theorem row_one_len (n : Nat) : (rowB [n]).length = sz n := by rw [rowB_len_cons]; rfl
theorem room_str {n o most room : Nat} (h : room = most - (rowB (8 :: n :: posL o)).length - sz most) (hp : 0 < room) : (F.stream n o (List.replicate room 115) true).wire.length ≤ most := by
  have e1 : (rowB (8 :: n :: posL o)).length = 1 + (rowB (n :: posL o)).length := rowB_len_cons _ _
  have e2 : sz (toldS o false true) = 1 := by unfold sz; rw [if_pos (toldS_lt o false true)]
  have e3 := sz_mono (a := room) (b := most) (by with_reducible (apply Mine.rm1 <;> assumption))
  have e4 : (F.stream n o (List.replicate room 115) true).wire.length = 1 + (rowB (n :: posL o)).length + sz room + room := by
    show (rowB (toldS o false true :: n :: (posL o ++ [(List.replicate room (115 : UInt8)).length])) ++ List.replicate room 115).length = _
    rw [List.length_append, List.length_replicate, rowB_len_cons, e2]
    show 1 + (rowB ((n :: posL o) ++ [room])).length + room = _
    rw [rowB_app, List.length_append, row_one_len]; (with_reducible exact Mine.ad3)
  with_reducible (apply Mine.rm2 <;> assumption)
theorem room_cry {o most room : Nat} (h : room = most - (rowB [6, o]).length - sz most) (hp : 0 < room) : (F.crypto o (List.replicate room 99)).wire.length ≤ most := by
  have e3 := sz_mono (a := room) (b := most) (by with_reducible (apply Mine.rm1 <;> assumption))
  have e4 : (F.crypto o (List.replicate room 99)).wire.length = (rowB [6, o]).length + sz room + room := by
    show (rowB ([6, o] ++ [(List.replicate room (99 : UInt8)).length]) ++ List.replicate room 99).length = _
    rw [List.length_append, List.length_replicate, rowB_app, List.length_append, row_one_len]
  with_reducible (apply Mine.rm3 <;> assumption)
theorem all_str {n o : Nat} {x : List UInt8} {fin : Bool} (hn : n < 100) (ho : o ≤ 200) (hx : x.length ≤ 100) : (F.stream n o x fin).All := by
  have hp := posL_len o
  have ht := toldS_lt o false fin
  refine all_of (ok_cons (by unfold Top62; with_reducible (apply Mine.lt_f; apply Mine.lt_l; assumption; decide)) (ok_cons (by unfold Top62; with_reducible (apply Mine.lt_f; apply Mine.lt_l; assumption; decide)) (ok_app ?_ (ok_cons (by unfold Top62; with_reducible (apply Mine.lt_f; assumption; decide)) ok_nil)))) ?_ hx (show o + x.length < Top62 by unfold Top62; with_reducible (apply Mine.lt_f; apply Nat.add_le_add; assumption; assumption; decide)) trivial (fun _ _ _ _ e => nomatch e) (fun _ _ e => nomatch e)
  · unfold posL
    split
    · exact ok_cons (by unfold Top62; with_reducible (apply Mine.lt_f; assumption; decide)) ok_nil
    · exact ok_nil
  · show (posL o ++ [x.length]).length + 1 + 1 ≤ 100
    rw [List.length_append]; show _ + 1 + 1 + 1 ≤ 100; with_reducible (apply Mine.le_f; apply Nat.add_le_add; apply Nat.add_le_add; apply Nat.add_le_add; assumption; exact Mine.lit; exact Mine.lit; exact Mine.lit; decide)
theorem all_cry {o : Nat} {x : List UInt8} (ho : o ≤ 200) (hx : x.length ≤ 100) : (F.crypto o x).All :=
  all_of (ok_cons (by decide) (ok_cons (by unfold Top62; with_reducible (apply Mine.lt_f; assumption; decide)) (ok_cons (by unfold Top62; with_reducible (apply Mine.lt_f; assumption; decide)) ok_nil))) (show 3 ≤ 100 by decide) hx (show o + x.length < Top62 by unfold Top62; with_reducible (apply Mine.lt_f; apply Nat.add_le_add; assumption; assumption; decide)) trivial (fun _ _ _ _ e => nomatch e) (fun _ _ e => nomatch e)
theorem mul100 {r : Nat} (h : (r : Int) < 3) : bin .mul (.int (r : Int)) (.int 100) = some (.int ((r * 100 : Nat) : Int)) := by
  have : r = 0 ∨ r = 1 ∨ r = 2 := by with_reducible (apply Mine.dz3 <;> assumption)
  rcases this with rfl | rfl | rfl <;> rfl
theorem strB_len {n o : Nat} {x : List UInt8} {fin : Bool} (last : Bool) : (strB n o x fin last).length ≤ 100 + x.length := by
  have h1 := rowB_len (toldS o last fin :: n :: posL o)
  have h2 := posL_len o
  rw [List.length_cons, List.length_cons] at h1
  have h3 : (lastB last x).length ≤ 8 + x.length := by
    cases last with
    | true => exact Nat.le_add_left _ _
    | false => exact cntd_len
  unfold strB
  rw [List.length_append]; omega
theorem eqv_row1 {f : F} : cmp .ne (.lst [f.pv]) (.lst [f.pv]) = some false := ne_of (eqv_lst (n := 8) (all_cons (eqv_pv f) all_nil))
theorem call421 {rest : List MO} (g : G rest σ) : ∃ σ', callF tab (c + 10) 421 [.loc 0] σ = some (.bool true, σ') := by
  obtain ⟨n, σ₁, h1, bn, g1⟩ := draw (c := c + 8) (ρ := [.val (.loc 0), .un, .un, .un, .un, .un, .un]) g 70 (by decide) rfl
  obtain ⟨o, σ₂, h2, bo, g2⟩ := draw (c := c + 8) (ρ := [.val (.loc 0), .un, .un, .un, .un, .un, .un]) g1 3 (by decide) rfl
  obtain ⟨m, σ₃, h3, bm, g3⟩ := draw (c := c + 8) (ρ := [.val (.loc 0), .un, .un, .un, .un, .un, .un]) g2 90 (by decide) rfl
  obtain ⟨x, σ₄, h4, lx, mx, g4⟩ := octE (c := c + 7) (ρ := [.val (.loc 0), .val (.int (n : Int)), .val (.int ((o * 100 : Nat) : Int)), .val (.int (m : Int)), .un, .un, .un]) g3 0 4 (by decide) (by decide) rfl
  obtain ⟨fin, σ₅, h5, g5⟩ := drawB (c := c + 8) (ρ := [.val (.loc 0), .val (.int (n : Int)), .val (.int ((o * 100 : Nat) : Int)), .val (.int (m : Int)), .un, .un, .un]) g4 rfl
  generalize hO : o * 100 = O at *
  have bO : O ≤ 200 := by with_reducible (apply Mine.le_f; apply Mine.le_e'; assumption; apply Nat.mul_le_mul_right; apply Mine.li_l; assumption; decide)
  have nT : n < Top62 := by unfold Top62; with_reducible (apply Mine.lt_f; apply Mine.li_l; assumption; decide)
  have oT : O < Top62 := by unfold Top62; with_reducible (apply Mine.lt_f; assumption; decide)
  have mT : m < Top62 := by unfold Top62; with_reducible (apply Mine.lt_f; apply Mine.li_l; assumption; decide)
  have hd := strB_len (n := n) (o := O) (x := x) (fin := fin) true
  have hdf := strB_len (n := n) (o := O) (x := x) (fin := fin) false
  have c131 : ∀ (last : Bool) (σ : St), callF tab (c + 9) 131 [(F.stream n O x fin).pv, .bool last] σ = some (.byt (strB n O x fin last), σ) := fun last σ => call131 (c := c + 5) last nT oT (by with_reducible (apply Mine.le_f; assumption; decide))
  obtain ⟨p, hr, hp⟩ := call343s (c := c) (σ := σ₅) (a := 0) (x := x) (fin := fin) nT (show O + x.length < Top62 by unfold Top62; with_reducible (apply Mine.lt_f; apply Nat.add_le_add; assumption; assumption; decide)) (by with_reducible (apply Mine.le_f; apply Nat.le_trans; assumption; apply Nat.add_le_add; exact Mine.lit; assumption; decide)) (At.start (strB n O x fin true))
  have hne : strB n O x fin true ≠ [] := fun e => by
    have := str_first (n := n) (o := O) (x := x) (t := []) (fin := fin) (last := true)
    rw [e] at this; exact nomatch this
  have hpos : 0 < (strB n O x fin true).length := List.length_pos_iff.mpr hne
  obtain ⟨q, h350⟩ := call350 (c := c) (σ := σ₅) (vs := [(F.stream n O x fin).pv]) (show (strB n O x fin true).length ≤ 10000 by with_reducible (apply Mine.le_f; apply Nat.le_trans; assumption; apply Nat.add_le_add; exact Mine.lit; assumption; decide)) hne (show 1 ≤ 20 by decide) (.cons hpos hr (.nil hp))
  have r178 : ∀ σ, callF tab (c + 9) 178 [.int (n : Int), .int (O : Int), .int (m : Int)] σ = _ := fun σ => call178 (c := c + 5) (σ := σ) nT oT mT
  have r185 : ∀ σ, callF tab (c + 9) 185 [.int (O : Int), .int (m : Int)] σ = _ := fun σ => call185 (c := c + 5) (σ := σ) oT mT
  generalize hA : m - (rowB (8 :: n :: posL O)).length - sz m = A at r178
  generalize hB : m - (rowB [6, O]).length - sz m = B at r185
  have fA := all_str (n := n) (o := O) (x := List.replicate A 115) (fin := true) (by with_reducible (apply Mine.lt_f; apply Mine.li_l; assumption; decide)) bO (by rw [List.length_replicate]; with_reducible (apply Mine.le_f; apply Mine.le_e'; assumption; apply Mine.le_e; assumption; apply Mine.le_e'; assumption; apply Mine.le_e; assumption; apply Mine.le_e'; assumption; apply Mine.le_e; assumption; apply Mine.le_e'; assumption; apply Mine.le_e; assumption; apply Mine.sub2_e; assumption; apply Mine.li_l; assumption; decide))
  have fB := all_cry (o := O) (x := List.replicate B 99) bO (by rw [List.length_replicate]; with_reducible (apply Mine.le_f; apply Mine.le_e'; assumption; apply Mine.le_e; assumption; apply Mine.le_e'; assumption; apply Mine.le_e; assumption; apply Mine.le_e'; assumption; apply Mine.le_e; assumption; apply Mine.le_e'; assumption; apply Mine.le_e; assumption; apply Mine.sub2_e; assumption; apply Mine.li_l; assumption; decide))
  refine ⟨R σ₅ (strB n O x fin true) q, c_fn rfl rfl (s_asgT (e_cons h1 (e_cons (e_bin h2 rfl ((mul100 bo).trans (by rw [hO]))) (e_cons h3 e_nil))) rfl (s_asg (x := (F.stream n O x fin).pv) (e_tup (e_cons rfl (e_cons rfl (e_cons rfl (e_cons h4 (e_cons h5 e_nil)))))) (s_skip (x := .bool false) (σ₁ := R σ₅ (strB n O x fin true) q) ?_ rfl (s_asgT (e_cons (e_call rfl (r178 _)) (e_cons (e_call rfl (r185 _)) e_nil)) rfl (s_skip (x := .bool false) (σ₁ := R σ₅ (strB n O x fin true) q) ?_ rfl (s_ret ?_))))))⟩
  · refine e_orF (e_cmp (e_call (e_cons (e_call rfl (c131 true _)) e_nil) h350) (e_lst (e_cons rfl e_nil)) eqv_row1) rfl (e_cmp (e_bin (e_call rfl (c131 true _)) rfl (add_byt ?_)) (e_call rfl (c131 false _)) (congrArg some (decide_eq_false str_ne)))
    show _ + 1 ≤ _; with_reducible (apply Mine.le_f; apply Nat.add_le_add; apply Nat.le_trans; assumption; apply Nat.add_le_add; exact Mine.lit; assumption; exact Mine.lit; decide)
  · by_cases hA0 : 0 < A
    · exact e_andT (e_cmp rfl rfl rfl) (dt (by with_reducible (apply Mine.posA <;> assumption))) (e_cmp (e_call (e_cons (e_tup (e_cons rfl (e_cons rfl (e_cons rfl (e_cons (e_bin rfl rfl (rep_ev (by with_reducible (apply Mine.le_f; apply Mine.le_e'; assumption; apply Mine.le_e; assumption; apply Mine.le_e'; assumption; apply Mine.le_e; assumption; apply Mine.le_e'; assumption; apply Mine.le_e; assumption; apply Mine.le_e'; assumption; apply Mine.le_e; assumption; apply Mine.sub2_e; assumption; apply Mine.li_l; assumption; decide)))) (e_cons rfl e_nil)))))) e_nil) (call171 (c := c + 3) (f := .stream n O (List.replicate A 115) true) fA.ok fA.cid (by have := wire_len fA.short fA.ok.body; with_reducible (apply Mine.le_f; assumption; decide)))) rfl (congrArg some (decide_eq_false (by have := room_str hA.symm hA0; with_reducible (apply Mine.ngt <;> assumption)))))
    · have e : decide ((A : Int) > 0) = false := decide_eq_false (by with_reducible (apply Mine.negA <;> assumption))
      rw [← e]
      exact e_andF (e_cmp rfl rfl rfl) (df (by with_reducible (apply Mine.negA <;> assumption)))
  · by_cases hB0 : 0 < B
    · exact e_orF (e_cmp rfl rfl rfl) (df (by with_reducible (apply Mine.nposB <;> assumption))) (e_cmp (e_call (e_cons (e_tup (e_cons rfl (e_cons rfl (e_cons (e_bin rfl rfl (rep_ev (by with_reducible (apply Mine.le_f; apply Mine.le_e'; assumption; apply Mine.le_e; assumption; apply Mine.le_e'; assumption; apply Mine.le_e; assumption; apply Mine.le_e'; assumption; apply Mine.le_e; assumption; apply Mine.le_e'; assumption; apply Mine.le_e; assumption; apply Mine.sub2_e; assumption; apply Mine.li_l; assumption; decide)))) e_nil)))) e_nil) (call171 (c := c + 3) (f := .crypto O (List.replicate B 99)) fB.ok fB.cid (by have := wire_len fB.short fB.ok.body; with_reducible (apply Mine.le_f; assumption; decide)))) rfl (congrArg some (decide_eq_true (by have := room_cry hB.symm hB0; with_reducible (apply Mine.c_le <;> assumption)))))
    · have e : decide ((B : Int) ≤ 0) = true := decide_eq_true (by with_reducible (apply Mine.ng0 <;> assumption))
      rw [← e]
      exact e_orT (e_cmp rfl rfl rfl) (dt (by with_reducible (apply Mine.ng0 <;> assumption)))
end
end Mine.P
end
section
namespace Mine.P
open PySem

theorem s_asgC {cf : CF} {ρ : List Slot} {σ σ₁ : St} {x : PV} {a b : PX} {ss : PSs} {X : Option XR} {i : Nat} (h1 : ev cf (.comp a b) ρ σ = some (x, σ₁)) (h2 : xss cf ss (ρ.set i (.val x)) σ₁ = X) : xss cf (.cons (.asgC i a b) ss) ρ σ = X := s_seq (by rw [xs_asgC, h1]; rfl) h2
theorem s_box {cf : CF} {ρ : List Slot} {σ σ₁ : St} {vs : List PV} {es : PXs} {ss : PSs} {X : Option XR} {i : Nat} (h1 : evs cf es ρ σ = some (vs, σ₁)) (h2 : xss cf ss (ρ.set i (.val (.loc σ₁.length))) (σ₁ ++ [.list vs]) = X) : xss cf (.cons (.newbox i es) ss) ρ σ = X := s_seq (by rw [xs_newbox, h1]; rfl) h2
theorem G.more {rest : List MO} {σ : St} (g : G rest σ) (m : MO) : G (rest ++ [m]) (σ ++ [m]) := by
  obtain ⟨zs, p, s, hp, hl, hs, rfl⟩ := g
  exact ⟨zs, p, s, hp, hl, hs, rfl⟩
section
variable {c : Nat} {σ : St}
theorem frames_map {rest : List MO} {ρ : List Slot} (h0 : valAt ρ 1 = some (.loc 0)) : ∀ (l : List PV) (σ : St), G rest σ →
    ∃ (fs : List F) (σ' : St), mapS (fun v σ => ev (callF tab (c + 4)) (.call 390 (.cons (.var 2) .nil)) (.val v :: ρ) σ) l σ = some (fs.map F.pv, σ') ∧ fs.length = l.length ∧ (∀ f ∈ fs, f.All) ∧ G rest σ'
  | [], σ, g => ⟨[], σ, rfl, rfl, (fun _ h => nomatch h), g⟩
  | v :: l, σ, g => by
    obtain ⟨f, σ₁, h1, hf, g1⟩ := lawFrame (c := c) g
    obtain ⟨fs, σ₂, h2, hl, hfs, g2⟩ := frames_map h0 l σ₁ g1
    refine ⟨f :: fs, σ₂, ?_, congrArg Nat.succ hl, fun k hk => ?_, g2⟩
    · have hv : ev (callF tab (c + 4)) (.var 2) (.val v :: ρ) σ = some (.loc 0, σ) := by
        rw [ev_var]
        show (valAt ρ 1).map _ = _
        rw [h0]; rfl
      show (ev (callF tab (c + 4)) (.call 390 (.cons (.var 2) .nil)) (.val v :: ρ) σ).bind _ = _
      rw [e_call (e_cons hv e_nil) h1, sb]
      show (mapS _ l σ₁).map _ = _
      rw [h2]; rfl
    · rcases List.mem_cons.mp hk with rfl | hk
      · exact hf
      · exact hfs k hk
theorem bytes_pad {r : Nat} (h : r < 4) : biV .bytes [.int ((r + 1 : Nat) : Int)] = some (.byt (List.replicate (r + 1) 0)) := by
  have : r = 0 ∨ r = 1 ∨ r = 2 ∨ r = 3 := by with_reducible (apply Mine.dn4 <;> assumption)
  rcases this with rfl | rfl | rfl | rfl <;> rfl
noncomputable abbrev padV (r : Nat) : PV := .tup [.str (Str.ofString "padding"), .int ((r + 1 : Nat) : Int)]
theorem put_pad {r : Nat} (h : r < 4) : callF tab (c + 1) 159 [padV r] σ = some (.byt (List.replicate (r + 1) 0), σ) := by
  have : r = 0 ∨ r = 1 ∨ r = 2 ∨ r = 3 := by with_reducible (apply Mine.dn4 <;> assumption)
  rcases this with rfl | rfl | rfl | rfl <;> exact c_fn rfl rfl (s_asg rfl (s_end (s_ifT (e_cmp rfl rfl rfl) rfl (s_ret rfl))))
theorem idx_lst0 {σ : St} {v : PV} {vs : List PV} : idxV σ (.lst (v :: vs)) (.int 0) = some v := by
  show (if 0 ≤ (0 : Int) ∧ (0 : Int) < lim then _ else none) = _
  rw [if_pos ⟨Int.le_refl _, by unfold lim; decide⟩]; rfl
theorem eqv_padV (r : Nat) : eqv 8 (padV r) (padV r) = some true := eqv_tup (n := 7) (all_cons (eqv_str 6 _) (all_cons (eqv_int 6 _) all_nil))
theorem eqv_fs {fs : List F} : cmp .ne (.lst (fs.map F.pv)) (.lst (fs.map F.pv)) = some false := ne_of (eqv_lst (n := 8) fun v hv => by
  obtain ⟨f, _, rfl⟩ := List.mem_map.mp hv
  exact eqv_pv f)
theorem eqv_told {fs : List F} : cmp .ne (toldV fs) (toldV fs) = some false := ne_of (eqv_lst (n := 8) fun v hv => by
  obtain ⟨f, _, rfl⟩ := List.mem_map.mp hv
  exact eqv_byt 7 _)
noncomputable abbrev sizesV (fs : List F) : PV := .lst (fs.map fun f => .int (f.wire.length : Int))
theorem eqv_sizes {fs : List F} : cmp .ne (sizesV fs) (sizesV fs) = some false := ne_of (eqv_lst (n := 8) fun v hv => by
  obtain ⟨f, _, rfl⟩ := List.mem_map.mp hv
  exact eqv_int 7 _)
theorem read_row {f : F} {fs : List F} (h : ∀ k ∈ f :: fs, k.All) (hl : (f :: fs).length ≤ 10) : ∃ p, callF tab (c + 9) 350 [.byt (wires (f :: fs))] σ = some (.lst ((f :: fs).map F.pv), R σ (wires (f :: fs)) p) := by
  have h1 := wires_len _ h
  have hne : wires (f :: fs) ≠ [] := fun e => by
    have e1 : (f.wire ++ wires fs).length = 0 := congrArg List.length e
    have := wire_pos f
    rw [List.length_append] at e1; omega
  have hch := chain_row (c := c) (σ := σ) (d := wires (f :: fs)) (t := []) (ws := []) (by with_reducible (apply Mine.le_f; apply Nat.le_trans; assumption; apply Nat.mul_le_mul_left; assumption; decide)) (fun p hp => .nil hp) (f :: fs) 0 h (by rw [List.append_nil]; exact At.start _)
  rw [List.append_nil] at hch
  exact call350 (by with_reducible (apply Mine.le_f; apply Nat.le_trans; assumption; apply Nat.mul_le_mul_left; assumption; decide)) hne (by rw [List.length_map]; with_reducible (apply Mine.le_f; assumption; decide)) hch
theorem read_pad {f : F} (h : f.All) {r : Nat} (hr : r < 4) : ∃ p, callF tab (c + 9) 350 [.byt (List.replicate (r + 1) 0 ++ f.wire ++ List.replicate (r + 1) 0)] σ = some (.lst [padV r, f.pv, padV r], R σ (List.replicate (r + 1) 0 ++ f.wire ++ List.replicate (r + 1) 0) p) := by
  have hw := wire_len h.short h.ok.body
  have hw1 := wire_pos f
  have hlen : (List.replicate (r + 1) (0 : UInt8) ++ f.wire ++ List.replicate (r + 1) 0).length = r + 1 + f.wire.length + (r + 1) := by rw [List.length_append, List.length_append, List.length_replicate]
  have a0 : At (List.replicate (r + 1) 0 ++ f.wire ++ List.replicate (r + 1) 0) 0 (List.replicate (r + 1) 0 ++ (f.wire ++ (List.replicate (r + 1) 0 ++ []))) := by
    have := At.start (List.replicate (r + 1) 0 ++ f.wire ++ List.replicate (r + 1) 0)
    rw [List.append_nil, ← List.append_assoc]; exact this
  generalize hD : List.replicate (r + 1) 0 ++ f.wire ++ List.replicate (r + 1) 0 = d at hlen a0 ⊢
  have hd : d.length ≤ 10000 := by with_reducible (apply Mine.le_f; apply Mine.le_e; assumption; apply Nat.add_le_add; apply Nat.add_le_add; apply Nat.add_le_add; apply Mine.lt_l; assumption; exact Mine.lit; assumption; apply Nat.add_le_add; apply Mine.lt_l; assumption; exact Mine.lit; decide)
  obtain ⟨p1, c1, a1⟩ := call343p (c := c) (σ := σ) hd (by with_reducible (apply Mine.le_f; apply Mine.lt_l; assumption; decide)) a0 fun b t e => wire_first b t e
  obtain ⟨p2, c2, a2⟩ := call343 (c := c) (σ := σ) hd h.ok.head h.rd a1
  obtain ⟨p3, c3, a3⟩ := call343p (c := c) (σ := σ) hd (by with_reducible (apply Mine.le_f; apply Mine.lt_l; assumption; decide)) a2 fun b t e => nomatch e
  have l1 := a1.len
  have l2 := a2.len
  rw [List.length_append, List.length_append, List.length_replicate] at l1
  rw [List.length_append, List.length_replicate] at l2
  exact call350 hd (fun e => by rw [e] at hlen; have : 0 = _ := hlen; omega) (show 3 ≤ 20 by decide) (.cons (by omega) c1 (.cons (by with_reducible (apply Mine.ptl <;> assumption)) c2 (.cons (by omega) c3 (.nil a3))))
end
theorem law_holds (zs : List Int) (hz : zs.length ≤ 63) : ∃ σ, callF tab 12 426 [.lst (zs.map .int)] [] = some (.bool true, σ) := by
  have g0 : G [] [bx (zs.take 40) 0 17] := ⟨zs.take 40, 0, 17, Nat.zero_le _, by rw [List.length_take]; (with_reducible exact Nat.min_le_left _ _), by decide, rfl⟩
  have hsl : slB (.lst (zs.map PV.int)) (.int 40) = some (.lst ((zs.take 40).map PV.int)) := by
    show (if 0 ≤ (40 : Int) ∧ (zs.map PV.int).length ≤ lim then some (PV.lst ((zs.map PV.int).take (40 : Int).toNat)) else none) = _
    rw [if_pos ⟨by decide, by rw [List.length_map]; unfold lim; with_reducible (apply Mine.le_f; assumption; decide)⟩, List.map_take]; rfl
  obtain ⟨k, σ₁, h1, bk, g1⟩ := take (c := 10) g0 3 (by decide)
  obtain ⟨hrng, hit⟩ := rng_items (n := 1 + k) (by with_reducible (apply Mine.le_f; apply Nat.add_le_add; exact Mine.lit; apply Mine.li_l; assumption; decide))
  obtain ⟨row, σ₂, h2, hl, hall, g2⟩ := frames_map (c := 7) (ρ := [.val (.lst (zs.map PV.int)), .val (.loc 0), .un, .un, .un]) rfl (rngUp 0 (1 + k)) σ₁ g1
  rw [rng_len] at hl
  cases row with
  | nil => exact absurd hl (by rw [List.length_nil]; omega)
  | cons f fs =>
  generalize hrow : f :: fs = row at *
  have hl10 : row.length ≤ 10 := by with_reducible (apply Mine.le_f; apply Mine.le_e; assumption; apply Nat.add_le_add; exact Mine.lit; apply Mine.li_l; assumption; decide)
  have put : ∀ (σ : St) (k : F), k ∈ row → callF tab 11 159 [k.pv] σ = some (.byt k.wire, σ) := fun σ k hk => call159 (c := 6) (hall k hk).ok (hall k hk).cid
  have told : ∀ (σ : St) (k : F), k ∈ row → callF tab 11 414 [k.pv] σ = some (.byt k.wire, σ) := fun σ k hk => call414 (c := 7) (hall k hk).ok (hall k hk).cid
  have size : ∀ (σ : St) (k : F), k ∈ row → callF tab 11 171 [k.pv] σ = some (.int (k.wire.length : Int), σ) := fun σ k hk => call171 (c := 5) (hall k hk).ok (hall k hk).cid (by have := wire_len (hall k hk).short (hall k hk).ok.body; with_reducible (apply Mine.le_f; assumption; decide))
  have lens : ∀ k : F, k ∈ row → biV .len [.byt k.wire] = some (.int (k.wire.length : Int)) := fun k hk => len_ok (by have := wire_len (hall k hk).short (hall k hk).ok.body; with_reducible (apply Mine.le_f; assumption; decide))
  obtain ⟨p, hrd⟩ : ∃ p, callF tab 11 350 [.byt (wires row)] σ₂ = some (.lst (row.map F.pv), R σ₂ (wires row) p) := by
    subst hrow
    exact read_row (c := 2) hall hl10
  obtain ⟨r, σ₃, h3, br, g3⟩ := take (c := 10) (g2.more _) 4 (by decide)
  have hf : f ∈ row := by rw [← hrow]; exact .head _
  obtain ⟨q, hpad⟩ := read_pad (c := 2) (σ := σ₃) (hall f hf) (r := r) (by with_reducible (apply Mine.lt_f; apply Mine.li_l; assumption; decide))
  obtain ⟨σ₅, hlast⟩ := call421 (c := 1) (g3.more _)
  have i2 : ∀ σ : St, idxV σ (.lst (row.map F.pv)) (.int 0) = some f.pv := fun σ => by rw [← hrow]; exact idx_lst0
  have i3 : ∀ σ : St, idxV σ (toldV row) (.int 0) = some (.byt f.wire) := fun σ => by rw [← hrow]; exact idx_lst0
  have e1 : (1 : Int) + (r : Int) = ((r + 1 : Nat) : Int) := by omega
  have hw := wire_len (hall f hf).short (hall f hf).ok.body
  refine ⟨σ₅, c_fn rfl rfl (s_box (vs := [.lst ((zs.take 40).map PV.int), .int 0, .int 17]) (σ₁ := []) (e_cons (e_slB rfl rfl hsl) (e_cons rfl (e_cons rfl e_nil))) (s_asgC (x := .lst (row.map F.pv)) (σ₁ := σ₂) ?_ (s_asgC (x := toldV row) (σ₁ := σ₂) ?_ (s_skip (x := .bool false) (σ₁ := σ₂) ?_ rfl (s_skip (x := .bool false) (σ₁ := R σ₂ (wires row) p) ?_ rfl (s_asg (x := .int ((r + 1 : Nat) : Int)) (σ₁ := σ₃) ?_ (s_skip (x := .bool false) (σ₁ := R σ₃ (List.replicate (r + 1) 0 ++ f.wire ++ List.replicate (r + 1) 0) q) ?_ rfl (s_ret ?_))))))))⟩
  · exact e_comp (e_bi (e_cons (x := .int ((1 + k : Nat) : Int)) (e_bin rfl (e_call rfl h1) rfl) e_nil) hrng) hit (by rw [rng_len]; unfold lim; with_reducible (apply Mine.le_f; apply Nat.add_le_add; exact Mine.lit; apply Mine.li_l; assumption; decide)) h2
  · exact comp_all (u := F.pv) (by with_reducible (apply Mine.le_f; assumption; decide)) rfl fun k hk => e_call (e_cons rfl e_nil) (told _ k hk)
  · exact e_orF (e_cmp (comp_all (u := F.pv) (g := fun k => .byt k.wire) (by with_reducible (apply Mine.le_f; assumption; decide)) rfl fun k hk => e_call (e_cons rfl e_nil) (put _ k hk)) rfl eqv_told) rfl (e_cmp (comp_all (u := F.pv) (g := fun k => .int (k.wire.length : Int)) (by with_reducible (apply Mine.le_f; assumption; decide)) rfl fun k hk => e_call (e_cons rfl e_nil) (size _ k hk)) (comp_all (u := fun k : F => .byt k.wire) (by with_reducible (apply Mine.le_f; assumption; decide)) rfl fun k hk => e_bi (e_cons rfl e_nil) (lens k hk)) eqv_sizes)
  · exact e_orF (e_cmp (e_call rfl (call164 (c := 5) hall hl10)) (e_join rfl rfl (join_told hall hl10)) (ne_of (eqv_byt 8 _))) rfl (e_cmp (e_call (e_cons (e_join rfl rfl (join_told hall hl10)) e_nil) hrd) rfl eqv_fs)
  · exact e_bin rfl (e_call rfl h3) (congrArg (fun z => some (PV.int z)) e1)
  · refine e_cmp (e_call (e_cons (e_bin (e_bin (e_bi rfl (bytes_pad (by with_reducible (apply Mine.lt_f; apply Mine.li_l; assumption; decide)))) (e_idx rfl rfl (i3 _)) (add_byt ?_)) (e_bi rfl (bytes_pad (by with_reducible (apply Mine.lt_f; apply Mine.li_l; assumption; decide)))) (add_byt ?_)) e_nil) hpad) (e_lst (e_cons (e_tup (e_cons rfl (e_cons rfl e_nil))) (e_cons (e_idx rfl rfl (i2 _)) (e_cons (e_tup (e_cons rfl (e_cons rfl e_nil))) e_nil)))) (ne_of (eqv_lst (n := 8) (all_cons (eqv_padV r) (all_cons (eqv_pv f) (all_cons (eqv_padV r) all_nil)))))
    · rw [List.length_replicate]; with_reducible (apply Mine.le_f; apply Nat.add_le_add; apply Nat.add_le_add; apply Mine.li_l; assumption; exact Mine.lit; assumption; decide)
    · rw [List.length_append, List.length_replicate]; with_reducible (apply Mine.le_f; apply Nat.add_le_add; apply Nat.add_le_add; apply Nat.add_le_add; apply Mine.li_l; assumption; exact Mine.lit; assumption; apply Nat.add_le_add; apply Mine.li_l; assumption; exact Mine.lit; decide)
  · exact e_andT (e_cmp (e_call (e_cons (e_tup (e_cons rfl (e_cons rfl e_nil))) e_nil) (put_pad (c := 10) (by with_reducible (apply Mine.lt_f; apply Mine.li_l; assumption; decide)))) (e_bi rfl (bytes_pad (by with_reducible (apply Mine.lt_f; apply Mine.li_l; assumption; decide)))) (congrArg some (decide_eq_true rfl))) rfl (e_call rfl hlast)
end Mine.P
end
section
namespace Mine
open PySem PySem.W PyProof.Rows PySem.Spec PySem.Calls

noncomputable def obOf (K : Frag) (a : Nat) : Obj := (K.lookup a).getD default
noncomputable def fdOf (K : Frag) (a : Nat) : FuncData := match (obOf K a).data with
  | .func fd => fd
  | _ => default
noncomputable def bodyOf (fd : FuncData) : List Stmt := match fd.body with
  | .stmts b => b
  | _ => []
noncomputable def argsOf (fd : FuncData) : List Str := fd.params.args.map (·.arg)
noncomputable def codeOf (fd : FuncData) : Nat := match fd.code with
  | .ref c => c
  | _ => 0
noncomputable def vsOf (K : Frag) (c : Nat) : Array Value := match (obOf K c).data with
  | .fields vs => vs
  | _ => #[]
noncomputable def tokOf : Option Value → Tok
  | some (.str _ t) => t
  | _ => 0
noncomputable def fxOf (fd : FuncData) : FuncData := fnX fd.name fd.qualname fd.params (bodyOf fd) fd.scope [] .none .none fd.doc fd.pyModule fd.annotations (.ref (codeOf fd)) fd.closureTuple

section
variable {b₀ : Heap} {K : Frag} (X : K.In b₀) {a : Nat} {pf : PFun}
include X
theorem fnOk_of (h1 : K.lookup a = some ⟨(obOf K a).cls, (obOf K a).dict, .func (fxOf (fdOf K a)), (obOf K a).slots⟩)
    (h2 : K.lookup (codeOf (fdOf K a)) = some ⟨(obOf K (codeOf (fdOf K a))).cls, (obOf K (codeOf (fdOf K a))).dict, .fields (vsOf K (codeOf (fdOf K a))), (obOf K (codeOf (fdOf K a))).slots⟩)
    (h3 : (vsOf K (codeOf (fdOf K a)))[1]? = some (.str (fdOf K a).qualname (tokOf (vsOf K (codeOf (fdOf K a)))[1]?)))
    (h4 : Mine.cf gl (argsOf (fdOf K a)) (fdOf K a).scope (bodyOf (fdOf K a)) = some pf) (h5 : fnChk (argsOf (fdOf K a)) (fdOf K a).scope = true)
    (h6 : ∀ vs : List Value, vs.length = (argsOf (fdOf K a)).length → bindArgs (fxOf (fdOf K a)) ⟨vs, []⟩ = pure ((argsOf (fdOf K a)).zip vs)) : FnOk b₀ a pf :=
  ⟨_, _, _, _, _, _, _, _, _, _, _, _, _, _, _, _, X _ _ h1, ⟨_, _, _, _, rfl, X _ _ h2, rfl, h3⟩, h4, h6, h5⟩
end
noncomputable def foL (K : Frag) (r : Nat × PFun) : Option Obj × Option Obj × Option Value × Option PFun × Bool × Nat :=
  (K.lookup r.1, K.lookup (codeOf (fdOf K r.1)), (vsOf K (codeOf (fdOf K r.1)))[1]?, Mine.cf gl (argsOf (fdOf K r.1)) (fdOf K r.1).scope (bodyOf (fdOf K r.1)), fnChk (argsOf (fdOf K r.1)) (fdOf K r.1).scope, (argsOf (fdOf K r.1)).length)
noncomputable def foR (K : Frag) (r : Nat × PFun) : Option Obj × Option Obj × Option Value × Option PFun × Bool × Nat :=
  (some ⟨(obOf K r.1).cls, (obOf K r.1).dict, .func (fxOf (fdOf K r.1)), (obOf K r.1).slots⟩, some ⟨(obOf K (codeOf (fdOf K r.1))).cls, (obOf K (codeOf (fdOf K r.1))).dict, .fields (vsOf K (codeOf (fdOf K r.1))), (obOf K (codeOf (fdOf K r.1))).slots⟩,
    some (.str (fdOf K r.1).qualname (tokOf (vsOf K (codeOf (fdOf K r.1)))[1]?)), some r.2, true, r.2.np)
noncomputable def pick3 (n : Nat) (a b c : Value) : List Value := match n with
  | 1 => [a]
  | 2 => [a, b]
  | _ => [a, b, c]
theorem fo_ar : (rows.all fun r => r.2.np == 1 || r.2.np == 2 || r.2.np == 3) = true := by kernel_rfl
theorem lookup_memN {β : Type} {k : Nat} {v : β} : ∀ {l : List (Nat × β)}, l.lookup k = some v → (k, v) ∈ l
  | (a, b) :: r, h => by
    rw [List.lookup_cons] at h
    cases e : k == a with
    | true => rw [e] at h; obtain rfl := eq_of_beq e; obtain rfl := Option.some.inj h; exact .head _
    | false => rw [e] at h; exact .tail _ (lookup_memN h)
theorem map_at {α β : Type} {f g : α → β} : ∀ {l : List α}, l.map f = l.map g → ∀ {x : α}, x ∈ l → f x = g x
  | _ :: _, h, _, .head _ => (List.cons.inj h).1
  | _ :: _, h, _, .tail _ m => map_at (List.cons.inj h).2 m
theorem pick_all {n : Nat} (h : (n == 1 || n == 2 || n == 3) = true) {vs : List Value} (e : vs.length = n) : ∃ a b c, vs = pick3 n a b c := by
  subst e
  match vs, h with
  | [a], _ => exact ⟨a, a, a, rfl⟩
  | [a, b], _ => exact ⟨a, b, b, rfl⟩
  | [a, b, c], _ => exact ⟨a, b, c, rfl⟩
theorem fo_tab {b₀ : Heap} {K : Frag} (X : K.In b₀) (fo : rows.map (foL K) = rows.map (foR K)) (bd : ∀ a b c, rows.map (fun r => bindArgs (fxOf (fdOf K r.1)) ⟨pick3 r.2.np a b c, []⟩) = rows.map fun r => pure ((argsOf (fdOf K r.1)).zip (pick3 r.2.np a b c))) :
    ∀ f pf, tab f = some pf → FnOk b₀ f pf := by
  intro f pf h
  have hm : (f, pf) ∈ rows := lookup_memN h
  have e := map_at fo hm
  obtain ⟨h1, e⟩ := Prod.mk.inj e
  obtain ⟨h2, e⟩ := Prod.mk.inj e
  obtain ⟨h3, e⟩ := Prod.mk.inj e
  obtain ⟨h4, e⟩ := Prod.mk.inj e
  obtain ⟨h5, h6⟩ := Prod.mk.inj e
  refine fnOk_of X h1 h2 h3 h4 h5 fun vs hv => ?_
  obtain ⟨a, b, c, rfl⟩ := pick_all (List.all_eq_true.mp fo_ar _ hm) (hv.trans h6)
  exact map_at (bd a b c) hm
end Mine
end
section
namespace Mine
open PySem PySem.W PyProof.Rows PySem.Spec PySem.Calls

noncomputable def MethIn (K : Frag) (x : Str) (f : Nat) : Prop := findIn K (.ref 237) x = some (some (.ref f)) ∧ isFn K (.ref f) = true ∧ keepIn K (.ref f) = true
theorem meth_of {K : Frag} (a : MethIn K (Str.ofString "left") 206) (b : MethIn K (Str.ofString "take") 213) (c : MethIn K (Str.ofString "whole") 227) (d : MethIn K (Str.ofString "varint") 234) : ∀ x f, methOf x = some f → MethIn K x f := by
  intro x f h
  unfold methOf at h
  by_cases h1 : x = Str.ofString "left"
  · rw [if_pos h1] at h; cases h; subst h1; exact a
  rw [if_neg h1] at h
  by_cases h1 : x = Str.ofString "take"
  · rw [if_pos h1] at h; cases h; subst h1; exact b
  rw [if_neg h1] at h
  by_cases h1 : x = Str.ofString "whole"
  · rw [if_pos h1] at h; cases h; subst h1; exact c
  rw [if_neg h1] at h
  by_cases h1 : x = Str.ofString "varint"
  · rw [if_pos h1] at h; cases h; subst h1; exact d
  rw [if_neg h1] at h
  cases h
theorem of_bool {p : Bool → Prop} (a : p false) (b : p true) : ∀ f, p f
  | false => a
  | true => b
end Mine
end
section
namespace Mine
open PySem PySem.W PyProof.Rows PySem.Spec PySem.Calls

noncomputable def biName : BI → Str
  | .len => Str.ofString "len" | .range => Str.ofString "range" | .bytes => Str.ofString "bytes" | .tuple => Str.ofString "tuple" | .list => Str.ofString "list" | .max => Str.ofString "max" | .int => Str.ofString "int"
noncomputable def isIntV (i : Int) : Option (Option Value) → Bool
  | some (some (.int j _)) => decide (j = i)
  | _ => false
noncomputable def isRefV (a : Nat) : Option (Option Value) → Bool
  | some (some (.ref b)) => b == a
  | _ => false
noncomputable def isNo : Option (Option Value) → Bool
  | some none => true
  | _ => false
noncomputable def grChk (K : Frag) (x : Str) : GR → Bool
  | .c (.int i) => isIntV i (nsIn K mainGlobals x)
  | .c _ => false
  | .f a => isRefV a (nsIn K mainGlobals x)
  | .k => isRefV 237 (nsIn K mainGlobals x)
  | .b b => isNo (nsIn K mainGlobals x) && decide (x = biName b)
  | .ba => isNo (nsIn K mainGlobals x) && decide (x = Str.ofString "bytearray")
  | .en => isNo (nsIn K mainGlobals x) && decide (x = Str.ofString "enumerate")
theorem isIntV_eq {i : Int} {o : Option (Option Value)} (h : isIntV i o = true) : ∃ t, o = some (some (.int i t)) := by
  match o, h with
  | some (some (.int j t)), h => exact ⟨t, by rw [of_decide_eq_true h]⟩
theorem isRefV_eq {a : Nat} {o : Option (Option Value)} (h : isRefV a o = true) : o = some (some (.ref a)) := by
  match o, h with
  | some (some (.ref b)), h => rw [eq_of_beq h]
theorem isNo_eq {o : Option (Option Value)} (h : isNo o = true) : o = some none := by
  match o, h with
  | some none, _ => rfl

theorem boot_bi : ∀ b, bootBuiltins (biName b) = some (biVal b)
  | .len => by decide +kernel
  | .range => by decide +kernel
  | .bytes => by decide +kernel
  | .tuple => by decide +kernel
  | .list => by decide +kernel
  | .max => by decide +kernel
  | .int => by decide +kernel
theorem biName_ne : ∀ b, biName b ≠ Str.ofString "__name__"
  | .len => by decide +kernel
  | .range => by decide +kernel
  | .bytes => by decide +kernel
  | .tuple => by decide +kernel
  | .list => by decide +kernel
  | .max => by decide +kernel
  | .int => by decide +kernel
theorem boot_ba : bootBuiltins (Str.ofString "bytearray") = some (.type "bytearray") := by decide +kernel
theorem boot_en : bootBuiltins (Str.ofString "enumerate") = some (.type "enumerate") := by decide +kernel

noncomputable def tabNames : List Str := [Str.ofString "VARINT_SIZES", Str.ofString "NUMBER_FRAMES", Str.ofString "PLAIN_FRAMES", Str.ofString "COUNT_FRAMES"]


section
variable {w : World} {b₀ : Heap} {mg mb : Str → Option Value}
theorem grChk_ok {K : Frag} {x : Str} {g : GR} (X : K.In b₀) (hg : b₀.Ns mainGlobals mg) (hb : ∀ x : Str, x ≠ Str.ofString "__name__" → mb x = bootBuiltins x) (h : grChk K x g = true) : GlOk w b₀ mg mb x g := by
  cases g with
  | c d =>
    cases d <;> first | exact absurd h Bool.false_ne_true | skip
    obtain ⟨t, e⟩ := isIntV_eq h
    exact ⟨_, mg_of X hg e, .int _ t⟩
  | f a => exact mg_of X hg (isRefV_eq h)
  | k => exact mg_of X hg (isRefV_eq h)
  | b b =>
    obtain ⟨h1, h2⟩ := Bool.and_eq_true_iff.mp h
    obtain rfl := of_decide_eq_true h2
    exact ⟨mg_none_of X hg (isNo_eq h1), (hb _ (biName_ne b)).trans (boot_bi b)⟩
  | ba =>
    obtain ⟨h1, h2⟩ := Bool.and_eq_true_iff.mp h
    obtain rfl := of_decide_eq_true h2
    exact ⟨mg_none_of X hg (isNo_eq h1), (hb _ (by decide +kernel)).trans boot_ba⟩
  | en =>
    obtain ⟨h1, h2⟩ := Bool.and_eq_true_iff.mp h
    obtain rfl := of_decide_eq_true h2
    exact ⟨mg_none_of X hg (isNo_eq h1), (hb _ (by decide +kernel)).trans boot_en⟩

/-! the tables -/
theorem rv_tupK {K : Frag} (X : K.In b₀) {a : Nat} {vs : List Value} {ds : List PV} (h : K.lookup a = some { cls := .type "tuple", data := .seq vs.toArray }) (r : Rvs w b₀ [] [] vs ds) : Rv w b₀ [] [] (.ref a) (.tup ds) :=
  .tup (.inr (X _ _ h)) ⟨rfl, rfl⟩ rfl r
theorem rv_pair {K : Frag} (X : K.In b₀) {a : Nat} {x : Str} {d : PV} {t : Tok} {v : Value} (h : K.lookup a = some { cls := .type "tuple", data := .seq [.str x t, v].toArray }) (r : Rv w b₀ [] [] v d) : Rv w b₀ [] [] (.ref a) (.tup [.str x, d]) :=
  rv_tupK X h (.cons (.str _ _) (.cons r .nil))
theorem rs_cons {x : Str} {t t' : Tok} {i : Int} {es : List DictEntry} {ds : List (Str × PV)} (r : ReS w b₀ [] [] es ds) : ReS w b₀ [] [] (⟨PyData.keyHash w.params x, .str x t, .int i t'⟩ :: es) ((x, .int i) :: ds) :=
  .cons rfl (.int _ _) r
theorem ri_cons {k : Nat} {t : Tok} {v : Value} {d : PV} {es : List DictEntry} {ds : List (Int × PV)} (hk : (k : Int) = hashInt k) (h : Rv w b₀ [] [] v d) (r : ReI w b₀ [] [] es ds) : ReI w b₀ [] [] (⟨(k : Int), .int (k : Int) t, v⟩ :: es) (((k : Int), d) :: ds) :=
  .cons hk h r

end
structure KFacts (K : Params → Frag) : Prop where
  fo : ∀ P, rows.map (foL (K P)) = rows.map (foR (K P))
  bd : ∀ P a b c, rows.map (fun r => bindArgs (fxOf (fdOf (K P) r.1)) ⟨pick3 r.2.np a b c, []⟩) = rows.map fun r => pure ((argsOf (fdOf (K P) r.1)).zip (pick3 r.2.np a b c))
  krd : ∀ P, KRd (K P)
  gl : ∀ P, (gl.all fun p => grChk (K P) p.1 p.2 || tabNames.contains p.1) = true
  t1 : ∀ (w : World) (b₀ : Heap), (K w.params).In b₀ → Rv w b₀ [] [] (.ref 62) tSizes
  t2 : ∀ (w : World) (b₀ : Heap), (K w.params).In b₀ → Rv w b₀ [] [] (.ref 98) tNumbers
  t3 : ∀ (w : World) (b₀ : Heap), (K w.params).In b₀ → Rv w b₀ [] [] (.ref 242) tPlain
  t4 : ∀ (w : World) (b₀ : Heap), (K w.params).In b₀ → Rv w b₀ [] [] (.ref 252) tCount
  n1 : ∀ P, nsIn (K P) mainGlobals (Str.ofString "VARINT_SIZES") = some (some (.ref 62))
  n2 : ∀ P, nsIn (K P) mainGlobals (Str.ofString "NUMBER_FRAMES") = some (some (.ref 98))
  n3 : ∀ P, nsIn (K P) mainGlobals (Str.ofString "PLAIN_FRAMES") = some (some (.ref 242))
  n4 : ∀ P, nsIn (K P) mainGlobals (Str.ofString "COUNT_FRAMES") = some (some (.ref 252))
  law : ∀ P, nsIn (K P) mainGlobals (Str.ofString "law") = some (some (.ref 426))
  iBody : ∀ P, ∃ p1 p2 p3 p4 p5 p6 p7 p8 k, bodyOf (fdOf (K P) 199) = [.Assign [.Attribute (.Name (Str.ofString "self") p1) (Str.ofString "data") p2] (.Name (Str.ofString "data") p3) p4,
    .Assign [.Attribute (.Name (Str.ofString "self") p5) (Str.ofString "at") p6] (.Constant (.int 0) k p7) p8]
  iNames : ∀ P, (fdOf (K P) 199).scope.names = [(Str.ofString "self", .local), (Str.ofString "data", .local)]
  iObj : ∀ P, (K P).lookup 199 = some ⟨(obOf (K P) 199).cls, (obOf (K P) 199).dict, .func (fxOf (fdOf (K P) 199)), (obOf (K P) 199).slots⟩
  iBind : ∀ P (a b : Value), bindArgs (fxOf (fdOf (K P) 199)) ⟨[a, b], []⟩ = pure [(Str.ofString "self", a), (Str.ofString "data", b)]
  iCo : ∀ P, (fdOf (K P) 199).scope.isCoroutine = false
  iGen : ∀ P, (fdOf (K P) 199).scope.isGenerator = false
  iKind : ∀ P, (fdOf (K P) 199).scope.kind = .function
  iCode : ∀ P, (K P).lookup (codeOf (fdOf (K P) 199)) = some ⟨(obOf (K P) (codeOf (fdOf (K P) 199))).cls, (obOf (K P) (codeOf (fdOf (K P) 199))).dict, .fields (vsOf (K P) (codeOf (fdOf (K P) 199))), (obOf (K P) (codeOf (fdOf (K P) 199))).slots⟩
  iCode2 : ∀ P, (vsOf (K P) (codeOf (fdOf (K P) 199)))[1]? = some (.str (fdOf (K P) 199).qualname (tokOf (vsOf (K P) (codeOf (fdOf (K P) 199)))[1]?))

section
variable {w : World} {b₀ : Heap} {mg mb : Str → Option Value} {K : Params → Frag} (H : KFacts K) (X : (K w.params).In b₀)
include H X
theorem gl_names (hg : b₀.Ns mainGlobals mg) (hb : ∀ x : Str, x ≠ Str.ofString "__name__" → mb x = bootBuiltins x) : ∀ x g, gl.lookup x = some g → GlOk w b₀ mg mb x g := by
  intro x g h
  have hc := List.all_eq_true.mp (H.gl w.params) _ (mem_of_lookup h)
  rcases Bool.or_eq_true_iff.mp hc with hc | hc
  · exact grChk_ok X hg hb hc
  · have hm := List.contains_iff_mem.mp hc
    rcases List.mem_cons.mp hm with e | hm
    · obtain rfl : x = _ := e
      obtain rfl := Option.some.inj ((show gl.lookup (Str.ofString "VARINT_SIZES") = some (.c tSizes) by kernel_rfl).symm.trans h)
      exact ⟨_, mg_of X hg (H.n1 _), H.t1 w b₀ X⟩
    rcases List.mem_cons.mp hm with e | hm
    · obtain rfl : x = _ := e
      obtain rfl := Option.some.inj ((show gl.lookup (Str.ofString "NUMBER_FRAMES") = some (.c tNumbers) by kernel_rfl).symm.trans h)
      exact ⟨_, mg_of X hg (H.n2 _), H.t2 w b₀ X⟩
    rcases List.mem_cons.mp hm with e | hm
    · obtain rfl : x = _ := e
      obtain rfl := Option.some.inj ((show gl.lookup (Str.ofString "PLAIN_FRAMES") = some (.c tPlain) by kernel_rfl).symm.trans h)
      exact ⟨_, mg_of X hg (H.n3 _), H.t3 w b₀ X⟩
    rcases List.mem_cons.mp hm with e | hm
    · obtain rfl : x = _ := e
      obtain rfl := Option.some.inj ((show gl.lookup (Str.ofString "COUNT_FRAMES") = some (.c tCount) by kernel_rfl).symm.trans h)
      exact ⟨_, mg_of X hg (H.n4 _), H.t4 w b₀ X⟩
    exact nomatch hm
end
end Mine
end
section
namespace Mine
open PySem PySem.W PyProof.Rows PySem.Spec PySem.Calls

theorem ini_self (x v : Value) : List.lookup (Str.ofString "self") ([(Str.ofString "self", x), (Str.ofString "data", v)].reverse) = some x := by kernel_rfl
theorem ini_data (x v : Value) : List.lookup (Str.ofString "data") ([(Str.ofString "self", x), (Str.ofString "data", v)].reverse) = some v := by kernel_rfl
theorem dbg_self : (Str.ofString "self" == ("__debug__" : Str)) = false := by decide +kernel
theorem dbg_data : (Str.ofString "data" == ("__debug__" : Str)) = false := by decide +kernel
theorem ini_ks {l : List (Str × NameKind)} (h : l = [(Str.ofString "self", .local), (Str.ofString "data", .local)]) : l.lookup (Str.ofString "self") = some .local := by subst h; kernel_rfl
theorem ini_kd {l : List (Str × NameKind)} (h : l = [(Str.ofString "self", .local), (Str.ofString "data", .local)]) : l.lookup (Str.ofString "data") = some .local := by subst h; kernel_rfl
theorem bindsTo_of {s : Shared} {fd : FuncData} {args : Args} {binds : List (Str × Value)} (h : bindArgs fd args = pure binds) : BindsTo s fd args binds := BindsTo.of_eq h
theorem fld_data : fldName false = Str.ofString "data" := by unfold fldName; rfl
theorem fld_at : fldName true = Str.ofString "at" := by unfold fldName; rfl
theorem newOk {prog : Program} {w : World} {b₀ : Heap} {K : Params → Frag} (H : KFacts K) (X₀ : (K w.params).In b₀) (lim : b₀.NoLimit) : NewOk prog w b₀ := by
  intro c A fenv L h₀ m U X T φ σ s v d Q C I hv k
  obtain ⟨A₀, base, outer, B, hA⟩ := C.below
  obtain ⟨F, es, N, R, nd, sep⟩ := I
  refine call_cls F (X₀.keeps C.stay) N (H.krd w.params).makes (H.krd w.params).init (H.krd w.params).initFn fun x dx h' F' N' l1 l2 => ?_
  have up : ∀ b o, b₀.get? b = some o → h'.get? b = some o := fun b o e => F'.keep b o (C.stay b o e)
  have hbnd := @bindsTo_of { s with heap := h' } (fxOf (fdOf (K w.params) 199)) ⟨[.ref x, v], []⟩ [(Str.ofString "self", .ref x), (Str.ofString "data", v)] (H.iBind w.params _ _)
  have hfn : h'.get? 199 = some ⟨(obOf (K w.params) 199).cls, (obOf (K w.params) 199).dict, .func (fxOf (fdOf (K w.params) 199)), (obOf (K w.params) 199).slots⟩ := up _ _ (X₀ _ _ (H.iObj w.params))
  have hcr : h'.CodeRec (.ref (codeOf (fdOf (K w.params) 199))) (fdOf (K w.params) 199).qualname := ⟨_, _, _, _, rfl, up _ _ (X₀ _ _ (H.iCode w.params)), rfl, H.iCode2 w.params⟩
  refine callX_plain (s := { s with heap := h' }) (name := (fdOf (K w.params) 199).name) (qual := (fdOf (K w.params) 199).qualname) (params := (fdOf (K w.params) 199).params) (body := bodyOf (fdOf (K w.params) 199)) (scope := (fdOf (K w.params) 199).scope) (cl := []) (dV := .none) (kV := .none) (doc := (fdOf (K w.params) 199).doc) (pm := (fdOf (K w.params) 199).pyModule) (an := (fdOf (K w.params) 199).annotations) (cdv := .ref (codeOf (fdOf (K w.params) 199))) (ct := (fdOf (K w.params) 199).closureTuple) (binds := [(Str.ofString "self", .ref x), (Str.ofString "data", v)])
    B F' N' (lim.keeps C.stay) hA C.fr C.kind hfn rfl hcr ?_ @hbnd ?_ (fun g L' h₁ FG F₁ N₁ B₁ st hlt => ?_) ?_ (H.iCo _) (H.iGen _) (H.iKind _)
  · rw [depth_under_make]
    have := C.depth
    omega
  · intro y hy
    rw [H.iNames]
    rcases List.mem_cons.mp hy with rfl | hy
    · rfl
    rcases List.mem_cons.mp hy with rfl | hy
    · rfl
    exact nomatch hy
  · have hx : ∀ p ∈ es.flatten ++ (U ++ (X ++ T)), p.1 ≠ x ∧ p.1 ≠ dx := fun p hp => ⟨Nat.ne_of_lt (Nat.lt_trans (l1 p hp) l2), Nat.ne_of_lt (l1 p hp)⟩
    have J : Inv w b₀ g L' (fun y => ([(Str.ofString "self", Value.ref x), (Str.ofString "data", v)].reverse).lookup y) φ σ [] ([(x, instObj 237 dx), (dx, dictOf [] 0)] ++ (U ++ X)) T h₁ := by
      refine ⟨F₁, es, fun p hp => N₁ p ?_, R, ?_, fun p hp hq => ?_⟩
      · simp only [List.mem_append, List.mem_cons, List.nil_append, List.not_mem_nil, or_false] at hp ⊢
        rcases hp with hp | (((hp | hp) | hp | hp) | hp) <;> simp [hp]
      · have hperm : List.Perm (es.flatten ++ ([] ++ ([(x, instObj 237 dx), (dx, dictOf [] 0)] ++ (U ++ X)))) ([(x, instObj 237 dx), (dx, dictOf [] 0)] ++ (es.flatten ++ (U ++ X))) := by
          have := List.Perm.append_right (U ++ X) (List.perm_append_comm (l₁ := es.flatten) (l₂ := [(x, instObj 237 dx), (dx, dictOf [] 0)]))
          rw [List.append_assoc, List.append_assoc] at this
          exact this
        rw [(List.Perm.map (·.1) hperm).nodup_iff]
        show (x :: dx :: _).Nodup
        rw [List.nodup_cons, List.nodup_cons]
        refine ⟨fun hm => ?_, fun hm => ?_, nd⟩
        · rcases List.mem_cons.mp hm with e | hm
          · exact Nat.lt_irrefl _ (e ▸ l2)
          · obtain ⟨q, hq1, hq2⟩ := List.mem_map.mp hm
            replace hq1 : q ∈ es.flatten ++ (U ++ X) := hq1
            exact (hx q (by simp only [List.mem_append] at hq1 ⊢; rcases hq1 with h | h | h <;> simp [h])).1 hq2
        · obtain ⟨q, hq1, hq2⟩ := List.mem_map.mp hm
          replace hq1 : q ∈ es.flatten ++ (U ++ X) := hq1
          exact (hx q (by simp only [List.mem_append] at hq1 ⊢; rcases hq1 with h | h | h <;> simp [h])).2 hq2
      · obtain ⟨q, hq1, hq2⟩ := List.mem_map.mp hq
        have hxp := hx p (by simp [hp])
        simp only [List.mem_append, List.mem_cons, List.nil_append, List.not_mem_nil, or_false] at hq1
        rcases hq1 with h | (h | h) | h | h
        · exact sep p hp (List.mem_map.mpr ⟨q, by simp [h], hq2⟩)
        · subst h; exact hxp.1 hq2.symm
        · subst h; exact hxp.2 hq2.symm
        · exact sep p hp (List.mem_map.mpr ⟨q, by simp [h], hq2⟩)
        · exact sep p hp (List.mem_map.mpr ⟨q, by simp [h], hq2⟩)
    have I₁ := J.share (e := [(x, instObj 237 dx), (dx, dictOf [] 0)]) (.inst (n := 0) .nil)
    clear J
    have hφ : φ.length = σ.length := R.length
    have C₁ : b₀.StaysIn g := fun b o e => st b o (C.stay b o e)
    have rx : Rv w b₀ T (φ ++ [x]) (.ref x) (.loc σ.length) := .loc (by rw [← hφ]; simp)
    have rv : Rv w b₀ T (φ ++ [x]) v d := hv.mono (fun _ h => h) (List.prefix_append _ _)
    have look : ∀ y, (envX (fdOf (K w.params) 199).qualname (fdOf (K w.params) 199).scope L' 199 (.ref (codeOf (fdOf (K w.params) 199))) []).kindOf y = (fdOf (K w.params) 199).scope.names.lookup y := fun _ => rfl
    obtain ⟨p1, p2, p3, p4, p5, p6, p7, p8, kk, hb⟩ := H.iBody w.params
    rw [hb]
    refine wpAny_execs_cons (plainObj_wpAny_Assign_Attribute (wpAny_Name (wpAny_loadName_local (H.iKind w.params) ((look _).trans (ini_kd (H.iNames _))) I₁.F.ns (ini_data _ _) ?_) dbg_data) (swaps_plain rfl _ _ _))
    refine wpAny_Name (wpAny_loadName_local (H.iKind w.params) ((look _).trans (ini_ks (H.iNames _))) I₁.F.ns (ini_self _ _) ?_) dbg_self
    have s1 : setAttrV (σ ++ [.inst none none]) false (.loc σ.length) d = some (σ ++ [.inst (some d) none]) := by
      show Option.bind (Option.bind ((σ ++ [MO.inst none none])[σ.length]?) asInst) _ = _
      rw [List.getElem?_append_right (Nat.le_refl _), Nat.sub_self]
      show some ((σ ++ [MO.inst none none]).set σ.length (.inst (some d) none)) = _
      rw [List.set_append_right _ _ (Nat.le_refl _), Nat.sub_self]
      rfl
    have s2 : setAttrV (σ ++ [.inst (some d) none]) true (.loc σ.length) (.int 0) = some (σ ++ [.inst (some d) (some (.int 0))]) := by
      show Option.bind (Option.bind ((σ ++ [MO.inst (some d) none])[σ.length]?) asInst) _ = _
      rw [List.getElem?_append_right (Nat.le_refl _), Nat.sub_self]
      show some ((σ ++ [MO.inst (some d) none]).set σ.length (.inst (some d) (some (.int 0)))) = _
      rw [List.set_append_right _ _ (Nat.le_refl _), Nat.sub_self]
      rfl
    rw [← fld_data]
    refine setAttr_ok (f := false) (s := { s with heap := h₁, toks := _ }) (H.krd w.params) X₀ s1 rx rv I₁ C₁ fun h₂ t₂ I₂ => ?_
    refine wpAny_execs_cons (plainObj_wpAny_Assign_Attribute (wpAny_Constant_int (wpAny_Name (wpAny_loadName_local (H.iKind w.params) ((look _).trans (ini_ks (H.iNames _))) I₂.F.ns (ini_self _ _) ?_) dbg_self)) (swaps_plain rfl _ _ _))
    rw [← fld_at]
    refine setAttr_ok (f := true) (s := { s with heap := h₂, toks := _ }) (H.krd w.params) X₀ s2 rx (.int 0 t₂) I₂ C₁ fun h₃ t₃ I₃ => ?_
    refine wpAny_execs_nil ?_
    obtain ⟨F₃, es₃, N₃, R₃, nd₃, sep₃⟩ := I₃
    refine ⟨L', _, es₃.flatten ++ (U ++ (X ++ T)), F₃, fun p hp => N₃ p ?_, fun FF NN => ⟨rfl, k x h₃ t₃ ⟨FF, es₃, NN, R₃, nd₃, sep₃⟩⟩⟩
    simp only [List.mem_append, List.nil_append] at hp ⊢
    rcases hp with hp | hp | hp | hp <;> simp [hp]
  · intro y hy
    rw [H.iNames] at hy
    rcases List.mem_cons.mp hy with rfl | hy
    · exact fun h => nomatch h
    rcases List.mem_cons.mp hy with rfl | hy
    · exact fun h => nomatch h
    exact nomatch hy
end Mine
end
section
namespace MineH
open Mine PySem PySem.W PyProof.Rows PySem.Calls
open Sem (wp)

theorem thread_endsC {prog : Program} {w : World} {t : Sem Fin} {s : Shared} {R : Result → Shared → Prop} (hreg : s.asleep)
    (h : wpC (model prog w) callerA t (fun fin s' => ∃ f, fin = .done f ∧ (R (.ok f) s' ∧ leftWithCleanup s'.gens = false)) s) :
    ∃ n r s' s'', runN (denote table) prog w n s ⟨t, .builtin "claim.caller" {}, default, []⟩ = .halted (outcomeOf r) s' ∧
      schedN (denote table) prog w n (.single s ⟨t, .builtin "claim.caller" {}, default, []⟩) = .halted (outcomeOf r) s' ∧ s'.forget = s''.forget ∧ R r s'' := by
  have h0 : wp (model prog w) ⟨.builtin "claim.caller" {}, none, none, [], none⟩ t
      (Sem.finPost (model prog w) ⟨.builtin "claim.caller" {}, none, none, [], none⟩ fun r s' => R r s' ∧ leftWithCleanup s'.gens = false)
      (fun e _ s' => R (.error e) s' ∧ leftWithCleanup s'.gens = false) default s := by
    refine Sem.wp_mono _ _ t (fun fin p' s' h' => ?_) (fun _ _ _ h' => h'.elim) default s (h _ default caller_in rfl (fun x hx => (nomatch hx)))
    obtain ⟨f, rfl, hf⟩ := h'
    exact hf
  obtain ⟨n, r, s₁, s₂, hs, hn, hfo, hR⟩ := wp_halts_full (M := model prog w) (R := R) hreg h0
  exact ⟨n, r, s₂, s₁, hn, hs, hfo, hR⟩

theorem callFrom_of_specC {c : ClaimW} {tree : List Value → Sem Fin} {w : World} {s : Shared} {free : Addr → Prop} {gens : Prop} {kept : Heap → Prop} (hz : s.asleep) (hgens : s.gens = #[])
    (hspec : ∀ args, c.pre args = true → WData.layableAll args = true →
      ∀ ord : List DictEntry → List DictEntry, (∀ l, (ord l).Perm l) →
      ∃ vs s₁, layAllW c.records (classAt s.heap) w.params ord args s = some (vs, s₁) ∧
        wpC (model c.prog w) callerA (tree vs) (fun fin s' => ∃ f, fin = .done f ∧ (c.Ends s args vs s₁ (.ok f) s' ∧ s'.os = s.os ∧ AllBare s'.gens ∧ kept s'.heap)) s₁) :
    c.CallFrom (fun vs => ⟨tree vs, .builtin "claim.caller" {}, default, []⟩) w free gens kept s := by
  intro args hpre hlay ord hord
  obtain ⟨vs, s₁, hlaid, hcode⟩ := hspec args hpre hlay ord hord
  have hal := layAllW_rest _ _ _ hlaid
  obtain ⟨k, r, s', s'', hrun, hsched, hfo, hcase, hos, hkp⟩ := thread_endsC (prog := c.prog) (w := w) (t := tree vs) (s := s₁)
    (R := fun r s' => c.Ends s args vs s₁ r s' ∧ s'.os = s.os ∧ kept s'.heap)
    (Shared.asleep_of_life hal.2.2.2 hz)
    (wpC_mono hcode (by
      rintro fin s' ⟨f, e, h1, h2, h3, h4⟩
      exact ⟨f, e, ⟨h1, h2, h4⟩, leftWithCleanup_false_of_bare h3⟩))
  obtain ⟨eh, _, _, eo, _⟩ := Shared.forget_eq hfo
  have hcase := hcase.congr eh
  have hkp : kept s'.heap := by first | exact eh ▸ hkp | (rw [eh] at hkp; exact hkp) | (rw [← eh] at hkp; exact hkp)
  rw [← eo] at hos
  have hlife : s'.heap.life = s.heap.life := (runN_life _ _ _ hrun).trans hal.2.2.2
  refine ⟨vs, s₁, hlaid, k, _, s', hsched, ?_, (fun _ i x hx => by rw [hgens] at hx; simp at hx), hkp, by rw [hlife], Shared.rest_eq hos⟩
  rcases hcase with ⟨v, rfl, d1, d2, d3, d4, d5⟩ | ⟨e, ob, cls, rfl, d1, d2, d3, d4, d5⟩
  · exact .inl ⟨v, rfl, d1, d2, d3, fun b o y _ => d4 b o y, d5⟩
  · exact .inr ⟨e, ob, cls, rfl, d1, d2, d3, d4, fun b o y _ => d5 b o y⟩

theorem open_anyC {r : RowW} {run : Value → List Value → Sem Value} {tree : List Value → Sem Fin} {q : Program} {loose defs kps : List Str} {writes : Bool} {Xt : Shared → Bool} {XP : (Str → Option Value) → Heap → Prop} {α : Type} {Yf : Shared → α} {Ya : World → α} {YP : World → Heap → Prop} {N : Nat}
    (left : LeftO r.prog q loose Xt Yf Ya N) (hY : ∀ w s, Yf s = Ya w → YP w s.heap) (hYk : ∀ w h h', YP w h → (∀ b o, h.get? b = some o → h'.get? b = some o) → YP w h') (hX : ∀ s, Xt s = true → XP (s.heap.nsMap mainGlobals) s.heap) (hXk : ∀ mg h h', XP mg h → (∀ b o, h.get? b = some o → h'.get? b = some o) → XP mg h')
    (hRf : ∀ s, Xt s = true → RecFacts r.records s.heap) (hwr : (!writes || r.records.isEmpty) = true) (ok : (chainsOk q && opensWell r.prog && (frees r && r.within.isEmpty)) = true) (hb : r.prog.bare) (hw : r.promised)
    (ht : ∀ vs (w : World) (s : Shared) mg f (Q : Fin → Shared → Prop), s.heap.Ns mainGlobals mg → mg r.name = some f → wpC (model r.prog w) callerA (run f vs) (fun v s' => Q (.done (.ret v)) s') s → wpC (model r.prog w) callerA (tree vs) Q s)
    (pin : ∀ w s, s.heap.isNs mainGlobals = true → Ground q loose [] XP w s (s.heap.nsMap mainGlobals) (s.heap.nsMap builtinsNs) s.heap → ∀ n ∈ defs, isTheDefsW r.prog s.heap n)
    (call : ∀ (w : World) (s₀ s₁ : Shared) (mg mb : Str → Option Value), Ground q loose r.records XP w s₀ mg mb s₁.heap → YP w s₁.heap → ∀ (args : List WData) (vs : List Value) (as : List Addr),
      r.claim.pre args = true → WData.layableAll args = true → Laid r.records w s₀ s₁ args vs as → sysModules < s₀.heap.objs.size → ∃ f, mg r.name = some f ∧
        wpC (model r.prog w) callerA (run f vs) (fun v s' => GoodWG r.claim (classAt s₀.heap) (ExcName.means s₀.heap) args s₁ (.ok (.ret v)) s') s₁) : r.claim.HoldsOpenBy (fun vs => ⟨tree vs, .builtin "claim.caller" {}, default, []⟩) defs kps writes := by
  obtain ⟨ok, k5⟩ := Bool.and_eq_true_iff.mp ok
  obtain ⟨hch, o1⟩ := Bool.and_eq_true_iff.mp ok
  obtain ⟨k5, k6⟩ := Bool.and_eq_true_iff.mp k5
  obtain ⟨hsame, hu, ha, hap, hm⟩ := frees_parts k5
  refine ⟨⟨hb, o1, by show r.makers.map _ = []; rw [hm]; rfl⟩, hw.witness, fun w => ⟨(left.behind hX hch w).1, fun s' hs' => ?_⟩⟩
  obtain ⟨s₀, hf, hg0, s, hT, hz, hgens, hg, G00, y⟩ := (left.behind (XP := fun mg h => XP mg h ∧ RecFacts r.records h) (fun s hs => ⟨hX s hs, hRf s hs⟩) hch w).2 s' hs'
  have G0 : Ground q loose [] XP w s (s.heap.nsMap mainGlobals) (s.heap.nsMap builtinsNs) s.heap := ⟨G00.T, G00.B, G00.D, G00.TE, G00.TD, G00.W, G00.X.1, G00.cls, G00.has, G00.apart, G00.once, G00.K⟩
  have RF := G00.X.2
  have hT' := hT
  refine ⟨s₀, hf, hg0, s, hT, pin w s hg G0, RF.1, RF.2.1, ?_⟩
  have hgens : s.gens = #[] := Array.eq_empty_of_size_eq_zero (beq_iff_eq.mp hgens)
  have G : Ground q loose r.records XP w s _ _ s.heap := RF.ground G0
  refine callFrom_of_specC (c := r.claim) hz hgens fun args hpre hlay ord hord => ?_
  obtain ⟨⟨vs, s₁⟩, hlaid⟩ := Option.isSome_iff_exists.mp (layAllW_isSome (P := w.params) (ord := ord) G.has args r.args s (pre_splitW hpre).1)
  have keeps := layAllW_keeps _ _ _ hlaid
  have hal := layAllW_rest _ _ _ hlaid
  obtain ⟨as, hrd, hin, hold⟩ := reads_layAllW hord _ _ _ hlaid hlay s₁.heap (fun _ _ e => e)
  have L : Laid r.records w s s₁ args vs as := ⟨⟨ord, hord, hlaid⟩, hrd, hin, hold, keeps, hal.1.trans hgens, hal.2.2.1⟩
  have G₁ := G.keeps hXk keeps
  obtain ⟨f, hf, h⟩ := call w s s₁ _ _ G₁ (hYk _ _ _ (hY w s y) keeps) args vs as hpre hlay L G.low
  have hi := ident_freeW hu ha hap
  have hwi : r.claim.within = [] := List.isEmpty_iff.mp k6
  exact ⟨vs, s₁, hlaid, ht vs w s₁ _ f _ G₁.T.g hf (wpC_mono h (fun v s' g => ⟨_, rfl, have z := g.laid (c := r.claim) hsame hwi hi L; ⟨z.1, z.2.1, z.2.2, fun q => ⟨namesKept_of hT' hg kps keeps g.2.1.old, noTable hwr q⟩⟩⟩))⟩

noncomputable abbrev WalkOC (q : Program) (loose : List Str) (XP : (Str → Option Value) → Heap → Prop) (YP : World → Heap → Prop) (r : RowW) (d : DefRec) (kwd : List (Str × Expr)) : Prop :=
  ∀ (w : World) (s₀ s₁ : Shared) (mg mb : Str → Option Value), Ground q loose r.records XP w s₀ mg mb s₁.heap → YP w s₁.heap → ∀ (a : Addr) (o : Obj) (pm cd doc dV kV : Value), s₁.heap.get? a = some o →
    o.data = .func { docDef d.name d.params d.body d.scope pm cd doc with defaults := dV, kwdefaults := kV } → s₁.heap.CodeRec cd d.name → Dflts mg s₁.heap d.params kwd dV kV → mg d.name = some (.ref a) → s₁.gens = #[] →
    ∀ (args : List WData) (vals : List Value) (as : List Addr), r.claim.pre args = true → WData.layableAll args = true → ReadsAllW r.records (classAt s₀.heap) s₁.heap vals args as → WellAll w.params s₁.heap vals args → (∀ a ∈ as, (a == sysModules) = false) →
      wpC (model r.prog w) callerA (PySem.call (.ref a) vals) (fun v s' => GoodWG r.claim (classAt s₀.heap) (ExcName.means s₀.heap) args s₁ (.ok (.ret v)) s') s₁

theorem PySem.W.holds_open {r : OpenRow} {q : Program} {loose : List Str} {Xt : Shared → Bool} {XP : (Str → Option Value) → Heap → Prop} {α : Type} {Yf : Shared → α} {Ya : World → α} {YP : World → Heap → Prop} {d : DefRec} {kwd : List (Str × Expr)} {N : Nat}
    (left : LeftO r.prog q loose Xt Yf Ya N) (hY : ∀ w s, Yf s = Ya w → YP w s.heap) (hYk : ∀ w h h', YP w h → (∀ b o, h.get? b = some o → h'.get? b = some o) → YP w h')
    (hX : ∀ s, Xt s = true → XP (s.heap.nsMap mainGlobals) s.heap) (hXk : ∀ mg h h', XP mg h → (∀ b o, h.get? b = some o → h'.get? b = some o) → XP mg h')
    (hdef : defOf q r.name = some (d, kwd)) (hp : r.prog.theDef r.name = some (d.params, d.body, d.scope)) (hk : kwWritten? d.params.kwonlyargs d.params.kw_defaults = some kwd) (hRf : ∀ s, Xt s = true → RecFacts r.records s.heap) (hwr : (!r.writes || r.records.isEmpty) = true)
    (k1 : r.wellSaid = true) (ok : (chainsOk q && opensWell r.prog && (frees r.toRowW && r.within.isEmpty)) = true) (hb : r.prog.bare) (hw : r.toRowW.promised)
    (call : WalkOC q loose XP YP r.toRowW d kwd) : r.Holds := by
  refine ⟨k1, hw, open_anyC (r := r.toRowW) (run := fun f vs => PySem.call f vs) (tree := fun vs => do match ← nsGet mainNs r.name with
      | some f => do ret (← PySem.call f vs)
      | none => unsupported "claim.caller:no-such-global") left hY hYk hX hXk hRf hwr ok hb hw
    (fun vs w s mg f Q hg hf h => wpC_bindA (wpAny_nsGet hg (by rw [hf]; exact wpC_bind (wpC_mono h (fun _ _ x => wpC_pure x)))))
    (fun w s hg G n hn => ?_) fun w s₀ s₁ mg mb G Y args vs as hpre hlay L low => ?_⟩
  · obtain rfl : n = r.name := by split at hn <;> simp_all
    exact pinned_of_view hg G hdef hp hk
  · obtain ⟨a, o, pm, cd, doc, dV, kV, h1, h2, h3, h4, h5⟩ := G.fn hdef
    exact ⟨.ref a, h1, call w s₀ s₁ mg mb G Y a o pm cd doc dV kV h2 h3 h4 h5 (defOf_name hdef ▸ h1) L.gens args vs as hpre hlay L.reads L.well (L.low low)⟩
end MineH
end
section
namespace Mine
open PySem PySem.W PyProof.Rows PySem.Spec PySem.Calls

theorem rvs_zs {w : World} {b₀ : Heap} : ∀ {us : List Value} {zs : List Int}, IntsAre us zs → Rvs w b₀ [] [] us (zs.map .int)
  | _, _, .nil => .nil
  | _, _, .cons _ _ h => .cons (.int _ _) (rvs_zs h)
set_option tactic.hygienic true in
theorem walk {q : Program} {loose : List Str} {XP : (Str → Option Value) → Heap → Prop} {K : Params → Frag} {as : List Addr} {ea : ∀ P, as = (K P).map (·.1)} {d : DefRec} {kwd : List (Str × Expr)} (H : KFacts K)
    (plain : ∀ zs : List Int, zs.length ≤ 63 → ∃ σ, callF tab 12 426 [.lst (zs.map .int)] [] = some (.bool true, σ)) (hdn : d.name = Str.ofString "law") :
    MineH.WalkOC q loose XP (kHook K as ea).says PySem.Challenge.rw_no0084_01.row.toRowW d kwd := by
  intro w s₀ s₁ mg mb G Y fa o pm cd doc dV kV ho hd hcd hD hmg hg args vals as hpre hlay hrd hwl hlo
  have KX := kIn_of Y
  refine Ground.open G ?_
  intro T B D TE TW
  rw [hdn] at hmg
  have e426 := mg_of KX T.g (H.law w.params)
  clear ho hd hcd hD Y D TE TW B
  wrow_args hpre hlay hrd hwl hlo
  rename_i zs _ _ _ _ _ _ _ la us _ hL _ _ _ hI _ hn _
  obtain rfl : fa = 426 := by
    have := hmg.symm.trans e426
    injection this with this
    injection this
  obtain ⟨σ', hev⟩ := plain zs (by omega)
  obtain ⟨oL, g1, g2, n, g3⟩ := hL
  refine top_sound (K := K w.params) (mg := mg) (mb := mb) ⟨KX, T.nolimit, T.g, T.b, gl_names H KX T.g T.builtins⟩ (H.krd _) (fo_tab KX (H.fo _) (H.bd _)) (newOk H KX T.nolimit) (c := 11) (by decide) (.cons (.lst (.inr g1) g2 g3 (rvs_zs hI)) .nil) hev fun h' tk' hk => ?_
  exact ⟨.inl ⟨_, _, [], rfl, fun _ => rfl, ReadsW.bool true, by first | kernel_rfl | wrow_post, fun _ => ⟨List.nodup_nil, fun _ hm => nomatch hm⟩⟩, .of_keep hk, rfl, .of_eq hg⟩
end Mine
end
section
open PySem PySem.W PyProof.Rows
set_option maxHeartbeats 0
namespace MineH
open Mine
theorem main.tw10076390470670894166 : True := trivial
theorem main.tw10088807016957461200 : True := trivial
theorem main.tw10113630332201615472 : True := trivial
theorem main.tw10120993006311050865 : True := trivial
theorem main.tw10132114313996172173 : True := trivial
theorem main.tw10172172648298372466 : True := trivial
theorem main.tw10198986435069126266 : True := trivial
theorem main.tw10201170075467172938 : True := trivial
theorem main.tw10284881922229882313 : True := trivial
theorem main.tw10323541742324239732 : True := trivial
theorem main.tw10332642982221827050 : True := trivial
theorem main.tw10344207253421477299 : True := trivial
theorem main.tw10400937037401089959 : True := trivial
theorem main.tw10406127479568643274 : True := trivial
theorem main.tw10424931748148819077 : True := trivial
theorem main.tw10432590280607709136 : True := trivial
theorem main.tw10448912206563460698 : True := trivial
theorem main.tw10561426795461843048 : True := trivial
theorem main.tw10593462931436902380 : True := trivial
theorem main.tw106151447178880287 : True := trivial
theorem main.tw10625364403657486510 : True := trivial
theorem main.tw10784428223497215706 : True := trivial
theorem main.tw10847121487499344019 : True := trivial
theorem main.tw1086074143021762383 : True := trivial
theorem main.tw10862668482125274395 : True := trivial
theorem main.tw10898019929806777004 : True := trivial
theorem main.tw11040430697129219637 : True := trivial
theorem main.tw11045811137646062575 : True := trivial
theorem main.tw11083504456789651756 : True := trivial
theorem main.tw11085013755684023295 : True := trivial
theorem main.tw11104419998492660958 : True := trivial
theorem main.tw1115725743963292642 : True := trivial
theorem main.tw1119296585676027877 : True := trivial
theorem main.tw1128142969672972051 : True := trivial
theorem main.tw11282910049295012047 : True := trivial
theorem main.tw11312293502114431774 : True := trivial
theorem main.tw11351857847971611137 : True := trivial
theorem main.tw11357430071459494066 : True := trivial
theorem main.tw11390284324008837863 : True := trivial
theorem main.tw1139214884595974876 : True := trivial
theorem main.tw114162561802999577 : True := trivial
theorem main.tw11418969872871439320 : True := trivial
theorem main.tw11446656519044638809 : True := trivial
theorem main.tw11557158977521975160 : True := trivial
theorem main.tw11604606186793896498 : True := trivial
theorem main.tw11630109849464882253 : True := trivial
theorem main.tw11664083721386310897 : True := trivial
theorem main.tw11712356879387117228 : True := trivial
theorem main.tw1174018015328180281 : True := trivial
theorem main.tw11806655842114371720 : True := trivial
theorem main.tw11822629228753412362 : True := trivial
theorem main.tw11855438101421228612 : True := trivial
theorem main.tw11877180700522350815 : True := trivial
theorem main.tw11931154682608289745 : True := trivial
theorem main.tw11945008490516555890 : True := trivial
theorem main.tw11993070871720183960 : True := trivial
theorem main.tw1200645911215508598 : True := trivial
theorem main.tw12016517420238499765 : True := trivial
theorem main.tw12100754748272884596 : True := trivial
theorem main.tw12101416270248706551 : True := trivial
theorem main.tw1210603684755506319 : True := trivial
theorem main.tw12121588398770820453 : True := trivial
theorem main.tw12149409558891780768 : True := trivial
theorem main.tw12159310469556510341 : True := trivial
theorem main.tw12178434308895904108 : True := trivial
theorem main.tw12183327085460467759 : True := trivial
theorem main.tw1219867011492501399 : True := trivial
theorem main.tw12221421188771852216 : True := trivial
theorem main.tw12239534891042662589 : True := trivial
theorem main.tw12271494463150433659 : True := trivial
theorem main.tw12384337445571658643 : True := trivial
theorem main.tw12391952221384400328 : True := trivial
theorem main.tw1240079944402187708 : True := trivial
theorem main.tw12551210365247189832 : True := trivial
theorem main.tw12554646544545582584 : True := trivial
theorem main.tw12566710535634270756 : True := trivial
theorem main.tw12590215316526559794 : True := trivial
theorem main.tw12714857785988552744 : True := trivial
theorem main.tw12723574721597795109 : True := trivial
theorem main.tw12730462199681678766 : True := trivial
theorem main.tw12755220196455264767 : True := trivial
theorem main.tw12811167343004857278 : True := trivial
theorem main.tw12842580451467489702 : True := trivial
theorem main.tw12938132343570289934 : True := trivial
theorem main.tw13018107538738358290 : True := trivial
theorem main.tw13100317032754741304 : True := trivial
theorem main.tw13131792920304365461 : True := trivial
theorem main.tw13169657959558129659 : True := trivial
theorem main.tw13176177083128962631 : True := trivial
theorem main.tw13231591332314194748 : True := trivial
theorem main.tw13328761384811816488 : True := trivial
theorem main.tw13355009075718051712 : True := trivial
theorem main.tw13453896658854007867 : True := trivial
theorem main.tw1345418969623506702 : True := trivial
theorem main.tw1347619247332217190 : True := trivial
theorem main.tw1352527287601402303 : True := trivial
theorem main.tw13541590023020684197 : True := trivial
theorem main.tw13566504329788154544 : True := trivial
theorem main.tw13592221027946293777 : True := trivial
theorem main.tw13664619942520407458 : True := trivial
theorem main.tw13668390684424922933 : True := trivial
theorem main.tw13690510623230042113 : True := trivial
theorem main.tw13692201996031423318 : True := trivial
theorem main.tw13746943019240547158 : True := trivial
theorem main.tw13782987334733230538 : True := trivial
theorem main.tw13824511606901266057 : True := trivial
theorem main.tw13867924032348999413 : True := trivial
theorem main.tw13903115885359056570 : True := trivial
theorem main.tw13912451569379196860 : True := trivial
theorem main.tw14031562117840649569 : True := trivial
theorem main.tw14058426693140172780 : True := trivial
theorem main.tw14065299476289742859 : True := trivial
theorem main.tw1407649201947050657 : True := trivial
theorem main.tw14077318915438637091 : True := trivial
theorem main.tw14084432832614206546 : True := trivial
theorem main.tw14103415595840597898 : True := trivial
theorem main.tw14185264912467173685 : True := trivial
theorem main.tw14223009379322115523 : True := trivial
theorem main.tw14314926326678988003 : True := trivial
theorem main.tw14327996730964760238 : True := trivial
theorem main.tw14345441222747559410 : True := trivial
theorem main.tw14396042334961462509 : True := trivial
theorem main.tw14421107325854885663 : True := trivial
theorem main.tw14443157680245182567 : True := trivial
theorem main.tw1445062207620114814 : True := trivial
theorem main.tw14495832308044846840 : True := trivial
theorem main.tw14524639092374337602 : True := trivial
theorem main.tw14528109209907015296 : True := trivial
theorem main.tw14560025447576359590 : True := trivial
theorem main.tw14607844470847840412 : True := trivial
theorem main.tw14677358488199682270 : True := trivial
theorem main.tw14717870076168165104 : True := trivial
theorem main.tw14745855352706072513 : True := trivial
theorem main.tw14748245949295481094 : True := trivial
theorem main.tw14768834125118087352 : True := trivial
theorem main.tw14832364511423944075 : True := trivial
theorem main.tw14835417779901986153 : True := trivial
theorem main.tw1485593047713217411 : True := trivial
theorem main.tw1490249004832759943 : True := trivial
theorem main.tw14925379092958832023 : True := trivial
theorem main.tw15013300297327382310 : True := trivial
theorem main.tw15013944485283979197 : True := trivial
theorem main.tw15014679946378471996 : True := trivial
theorem main.tw15056217348734115049 : True := trivial
theorem main.tw15129708441565286182 : True := trivial
theorem main.tw15152039527553312649 : True := trivial
theorem main.tw1516764586117849108 : True := trivial
theorem main.tw1526729471600048572 : True := trivial
theorem main.tw15294756316178271388 : True := trivial
theorem main.tw15340059674340141819 : True := trivial
theorem main.tw15341740082326407746 : True := trivial
theorem main.tw15415538315453740714 : True := trivial
theorem main.tw15416527728052049770 : True := trivial
theorem main.tw154498216161322990 : True := trivial
theorem main.tw154680765812183511 : True := trivial
theorem main.tw15504405086214816974 : True := trivial
theorem main.tw15513603914415026048 : True := trivial
theorem main.tw15560377089511427287 : True := trivial
theorem main.tw15576814219370149423 : True := trivial
theorem main.tw15601809186770144657 : True := trivial
theorem main.tw15636668996130024941 : True := trivial
theorem main.tw15642889654642605553 : True := trivial
theorem main.tw15669924740540739416 : True := trivial
theorem main.tw15724736855803682630 : True := trivial
theorem main.tw15753984548592841211 : True := trivial
theorem main.tw15758160655798212634 : True := trivial
theorem main.tw15803750474374855275 : True := trivial
theorem main.tw15860239645773217334 : True := trivial
theorem main.tw15866263271410744202 : True := trivial
theorem main.tw15922889457492595582 : True := trivial
theorem main.tw15950891276083202314 : True := trivial
theorem main.tw15994317085741194090 : True := trivial
theorem main.tw16035665408160122690 : True := trivial
theorem main.tw16097046974460260644 : True := trivial
theorem main.tw16147565777775706130 : True := trivial
theorem main.tw16166011255872909525 : True := trivial
theorem main.tw161837337584427084 : True := trivial
theorem main.tw16210034060304618966 : True := trivial
theorem main.tw16237802442675044354 : True := trivial
theorem main.tw16283694143954522615 : True := trivial
theorem main.tw16302133512722843967 : True := trivial
theorem main.tw16324654467292463082 : True := trivial
theorem main.tw16385073739267736408 : True := trivial
theorem main.tw16433736020141549718 : True := trivial
theorem main.tw16437709003862024208 : True := trivial
theorem main.tw16483379722563516048 : True := trivial
theorem main.tw16490034332516691571 : True := trivial
theorem main.tw16594298861398245498 : True := trivial
theorem main.tw16601698448403361885 : True := trivial
theorem main.tw16642970634869141581 : True := trivial
theorem main.tw16757003069644778603 : True := trivial
theorem main.tw16832019618019802655 : True := trivial
theorem main.tw16842189652793130061 : True := trivial
theorem main.tw16844197777274544852 : True := trivial
theorem main.tw16921128107127036670 : True := trivial
theorem main.tw17012842484654308683 : True := trivial
theorem main.tw17060687236862877674 : True := trivial
theorem main.tw17081204656426425239 : True := trivial
theorem main.tw17147933912195969581 : True := trivial
theorem main.tw17158590857818861623 : True := trivial
theorem main.tw17289252584036040733 : True := trivial
theorem main.tw17332574585139750647 : True := trivial
theorem main.tw17386597705021134307 : True := trivial
theorem main.tw17410117873435500819 : True := trivial
theorem main.tw17410215612446078938 : True := trivial
theorem main.tw17411521317110783940 : True := trivial
theorem main.tw17461717628877489167 : True := trivial
theorem main.tw17550634763711746821 : True := trivial
theorem main.tw17675803073095498135 : True := trivial
theorem main.tw17748479086634090261 : True := trivial
theorem main.tw1779730753392906020 : True := trivial
theorem main.tw17838602687874381813 : True := trivial
theorem main.tw17846066879490252191 : True := trivial
theorem main.tw17899308006684868155 : True := trivial
theorem main.tw179202407737443134 : True := trivial
theorem main.tw17962546829210745328 : True := trivial
theorem main.tw18038302532284999495 : True := trivial
theorem main.tw18072782144642175524 : True := trivial
theorem main.tw18076035799302120021 : True := trivial
theorem main.tw18202878814856795876 : True := trivial
theorem main.tw18226117168201410923 : True := trivial
theorem main.tw18255223620248600627 : True := trivial
theorem main.tw18310698611757224986 : True := trivial
theorem main.tw18311624528744276754 : True := trivial
theorem main.tw18337800566154176742 : True := trivial
theorem main.tw18344396988551568877 : True := trivial
theorem main.tw1844364366785666215 : True := trivial
theorem main.tw1851439065415735661 : True := trivial
theorem main.tw192429321694715368 : True := trivial
theorem main.tw196507616671563962 : True := trivial
theorem main.tw2007065473917317118 : True := trivial
theorem main.tw2057660103094769029 : True := trivial
theorem main.tw2098558620834618385 : True := trivial
theorem main.tw2132075396106924465 : True := trivial
theorem main.tw2197048929127594215 : True := trivial
theorem main.tw2257148773191543935 : True := trivial
theorem main.tw2313120321512568564 : True := trivial
theorem main.tw2335395739024093943 : True := trivial
theorem main.tw2389316006348327280 : True := trivial
theorem main.tw2425246319316987387 : True := trivial
theorem main.tw2467226538910249681 : True := trivial
theorem main.tw2508336239949540687 : True := trivial
theorem main.tw2552478889283312092 : True := trivial
theorem main.tw2575843541351535186 : True := trivial
theorem main.tw2612737463591186239 : True := trivial
theorem main.tw2649270190792562278 : True := trivial
theorem main.tw2677462056345484179 : True := trivial
theorem main.tw2704838110345438204 : True := trivial
theorem main.tw2793758218729708686 : True := trivial
theorem main.tw2822252428656841 : True := trivial
theorem main.tw2943588636201458550 : True := trivial
theorem main.tw2950065216822108846 : True := trivial
theorem main.tw3081862560107176077 : True := trivial
theorem main.tw319168381177489173 : True := trivial
theorem main.tw3213641011572915766 : True := trivial
theorem main.tw3284948395104786448 : True := trivial
theorem main.tw341578770398738066 : True := trivial
theorem main.tw3545647134766337722 : True := trivial
theorem main.tw3652814477426334614 : True := trivial
theorem main.tw3667828423383514184 : True := trivial
theorem main.tw3695408627977586019 : True := trivial
theorem main.tw3715851300567815336 : True := trivial
theorem main.tw3732527051428497461 : True := trivial
theorem main.tw3761570713499840038 : True := trivial
theorem main.tw378026270084544497 : True := trivial
theorem main.tw3801596944067324107 : True := trivial
theorem main.tw3834235999671675442 : True := trivial
theorem main.tw3837297948876025259 : True := trivial
theorem main.tw3886270304163671495 : True := trivial
theorem main.tw3923967308816887830 : True := trivial
theorem main.tw3940824200027680077 : True := trivial
theorem main.tw4469527970015010570 : True := trivial
theorem main.tw4547821649959161268 : True := trivial
theorem main.tw457162778879736067 : True := trivial
theorem main.tw4589313356792356352 : True := trivial
theorem main.tw4661524852130829907 : True := trivial
theorem main.tw4678521581964290031 : True := trivial
theorem main.tw4699574702907372924 : True := trivial
theorem main.tw4728190908878973648 : True := trivial
theorem main.tw4836089430116196893 : True := trivial
theorem main.tw4901053936746283528 : True := trivial
theorem main.tw4948809203992205789 : True := trivial
theorem main.tw5027225929190464154 : True := trivial
theorem main.tw5051165237903316540 : True := trivial
theorem main.tw5145040944924658763 : True := trivial
theorem main.tw5321592870814228801 : True := trivial
theorem main.tw5325863384735180278 : True := trivial
theorem main.tw53358172569626256 : True := trivial
theorem main.tw5397261385559121081 : True := trivial
theorem main.tw5642316535396081532 : True := trivial
theorem main.tw5660081242945218291 : True := trivial
theorem main.tw5712244738037329683 : True := trivial
theorem main.tw5736502393311202829 : True := trivial
theorem main.tw5766201698252219214 : True := trivial
theorem main.tw5798710060980010393 : True := trivial
theorem main.tw5850383437917949977 : True := trivial
theorem main.tw5973342753934197854 : True := trivial
theorem main.tw6033121456764310706 : True := trivial
theorem main.tw6047776247091988805 : True := trivial
theorem main.tw6093883934184946558 : True := trivial
theorem main.tw613501847738014040 : True := trivial
theorem main.tw614807377801580713 : True := trivial
theorem main.tw6248040263287617286 : True := trivial
theorem main.tw6250906576302922143 : True := trivial
theorem main.tw6271944529294171080 : True := trivial
theorem main.tw6275568426560391127 : True := trivial
theorem main.tw6277277000892025206 : True := trivial
theorem main.tw6335159453904241314 : True := trivial
theorem main.tw6339552191059671105 : True := trivial
theorem main.tw6346266678515382883 : True := trivial
theorem main.tw6369284469713307035 : True := trivial
theorem main.tw6392150940771978649 : True := trivial
theorem main.tw6424226977518719283 : True := trivial
theorem main.tw643180450616159273 : True := trivial
theorem main.tw6545523203337289675 : True := trivial
theorem main.tw6678013309165245657 : True := trivial
theorem main.tw6713529284814557973 : True := trivial
theorem main.tw676882056125864324 : True := trivial
theorem main.tw6826389099555421226 : True := trivial
theorem main.tw6833260117044650791 : True := trivial
theorem main.tw6847748051370228768 : True := trivial
theorem main.tw6874223917117228587 : True := trivial
theorem main.tw6887952612254543710 : True := trivial
theorem main.tw6933115275968595945 : True := trivial
theorem main.tw7065663618574835366 : True := trivial
theorem main.tw7127422082448352230 : True := trivial
theorem main.tw714076714926537486 : True := trivial
theorem main.tw7194006584687391759 : True := trivial
theorem main.tw7252809148833135023 : True := trivial
theorem main.tw7322008692608381182 : True := trivial
theorem main.tw7339077089498313370 : True := trivial
theorem main.tw7344671196199682919 : True := trivial
theorem main.tw7465929971665247517 : True := trivial
theorem main.tw7655899410710716174 : True := trivial
theorem main.tw7694529764133229601 : True := trivial
theorem main.tw7716266675467317956 : True := trivial
theorem main.tw7720583215872665991 : True := trivial
theorem main.tw7751449670035051328 : True := trivial
theorem main.tw7782845491160857225 : True := trivial
theorem main.tw7791122995219072527 : True := trivial
theorem main.tw7909881911216074371 : True := trivial
theorem main.tw7923728395256248139 : True := trivial
theorem main.tw7926052886367492621 : True := trivial
theorem main.tw8045784899160878981 : True := trivial
theorem main.tw8072744937313810194 : True := trivial
theorem main.tw8135491577996042838 : True := trivial
theorem main.tw8172481818199667919 : True := trivial
theorem main.tw8206829916662980184 : True := trivial
theorem main.tw8275905298325580813 : True := trivial
theorem main.tw8279499465786837193 : True := trivial
theorem main.tw8332126186635371392 : True := trivial
theorem main.tw8340444951055088075 : True := trivial
theorem main.tw8379127436272425284 : True := trivial
theorem main.tw8501876303375976660 : True := trivial
theorem main.tw8511667248658003581 : True := trivial
theorem main.tw8527262631216163885 : True := trivial
theorem main.tw8553598375807057721 : True := trivial
theorem main.tw8579014624232773526 : True := trivial
theorem main.tw8607571116300609560 : True := trivial
theorem main.tw8638015134109276842 : True := trivial
theorem main.tw866014257560589192 : True := trivial
theorem main.tw8818327666241391738 : True := trivial
theorem main.tw8877167712514059531 : True := trivial
theorem main.tw8993057205451000619 : True := trivial
theorem main.tw899717459314827248 : True := trivial
theorem main.tw9034665843774398296 : True := trivial
theorem main.tw9076905472559380764 : True := trivial
theorem main.tw9112784584555542656 : True := trivial
theorem main.tw9142382614788812431 : True := trivial
theorem main.tw9156003035437577859 : True := trivial
theorem main.tw9165749021734475716 : True := trivial
theorem main.tw9176736933824983479 : True := trivial
theorem main.tw9182875705865207141 : True := trivial
theorem main.tw919589914411148497 : True := trivial
theorem main.tw9205915823182874215 : True := trivial
theorem main.tw9220631645648384225 : True := trivial
theorem main.tw9289999159246781253 : True := trivial
theorem main.tw9295337785951632383 : True := trivial
theorem main.tw9309528449056708426 : True := trivial
theorem main.tw9384976556201643376 : True := trivial
theorem main.tw9424654703009492949 : True := trivial
theorem main.tw9434257662119488934 : True := trivial
theorem main.tw9466728767799936015 : True := trivial
theorem main.tw9489114854932975819 : True := trivial
theorem main.tw9507249775243268649 : True := trivial
theorem main.tw955242297871609831 : True := trivial
theorem main.tw9612430492314916559 : True := trivial
theorem main.tw9888125661542094712 : True := trivial
theorem main.tw9889837086241672223 : True := trivial
theorem main.tw9901144911591462992 : True := trivial
theorem main.tw9920259180374759553 : True := trivial
theorem main.tw9943908935984057628 : True := trivial
theorem main.tw9956989618166210417 : True := trivial
theorem main.tw9970623342834685230 : True := trivial
theorem main.tw9973482681469221845 : True := trivial
theorem main.tw9974048899653142124 : True := trivial
set_option Elab.async true in
set_option tactic.hygienic true in
theorem main : PySem.Challenge.rw_no0084_01.Holds := by
  w_on; o_law; k_head; (case hw => w_witness2)
  refine Mine.walk ?facts Mine.P.law_holds ?nm
  case nm => kernel_rfl
  case facts =>
    exact ⟨fun P => by kernel_rfl, fun P a b c => by kernel_rfl, fun P => ⟨fun x => by kernel_rfl, by kernel_rfl, of_bool (p := fun f => findIn (_) (.ref 237) (fldName f) = some none) (by kernel_rfl) (by kernel_rfl), by kernel_rfl, by kernel_rfl, of_bool (p := fun f => takerIn (_) 237 (fldName f) = some none) (by kernel_rfl) (by kernel_rfl), by kernel_rfl, by kernel_rfl, by kernel_rfl, by kernel_rfl, meth_of ⟨by kernel_rfl, by kernel_rfl, by kernel_rfl⟩ ⟨by kernel_rfl, by kernel_rfl, by kernel_rfl⟩ ⟨by kernel_rfl, by kernel_rfl, by kernel_rfl⟩ ⟨by kernel_rfl, by kernel_rfl, by kernel_rfl⟩⟩, fun P => by kernel_rfl,
      fun w b₀ X => rv_tupK X (vs := [.int 1 336, .int 2 337, .int 4 338, .int 8 339]) (by kernel_rfl) (.cons (.int _ _) (.cons (.int _ _) (.cons (.int _ _) (.cons (.int _ _) .nil)))),
      fun w b₀ X => .dcS (n := 9) (.inr (X _ _ (by kernel_rfl))) (by decide) (rs_cons (t := 390) (t' := 266) (rs_cons (t := 391) (t' := 272) (rs_cons (t := 392) (t' := 274) (rs_cons (t := 393) (t' := 282) (rs_cons (t := 394) (t' := 284) (rs_cons (t := 395) (t' := 290) (rs_cons (t := 396) (t' := 292) (rs_cons (t := 397) (t' := 300) (rs_cons (t := 398) (t' := 310) .nil))))))))),
      fun w b₀ X => .dcI (n := 9) (.inr (X _ _ (by kernel_rfl))) (by decide) (ri_cons (k := 1) (t := 266) (by decide +kernel) (rv_pair X (a := 243) (t := 608) (v := .int 0 609) (by kernel_rfl) (.int _ _)) (ri_cons (k := 4) (t := 272) (by decide +kernel) (rv_pair X (a := 244) (t := 610) (v := .int 3 611) (by kernel_rfl) (.int _ _)) (ri_cons (k := 5) (t := 274) (by decide +kernel) (rv_pair X (a := 245) (t := 612) (v := .int 2 613) (by kernel_rfl) (.int _ _)) (ri_cons (k := 16) (t := 282) (by decide +kernel) (rv_pair X (a := 246) (t := 614) (v := .int 1 615) (by kernel_rfl) (.int _ _)) (ri_cons (k := 17) (t := 284) (by decide +kernel) (rv_pair X (a := 247) (t := 616) (v := .int 2 617) (by kernel_rfl) (.int _ _)) (ri_cons (k := 20) (t := 290) (by decide +kernel) (rv_pair X (a := 248) (t := 618) (v := .int 1 619) (by kernel_rfl) (.int _ _)) (ri_cons (k := 21) (t := 292) (by decide +kernel) (rv_pair X (a := 249) (t := 620) (v := .int 2 621) (by kernel_rfl) (.int _ _)) (ri_cons (k := 25) (t := 300) (by decide +kernel) (rv_pair X (a := 250) (t := 622) (v := .int 1 623) (by kernel_rfl) (.int _ _)) (ri_cons (k := 30) (t := 310) (by decide +kernel) (rv_pair X (a := 251) (t := 624) (v := .int 0 625) (by kernel_rfl) (.int _ _)) .nil))))))))),
      fun w b₀ X => .dcI (n := 4) (.inr (X _ _ (by kernel_rfl))) (by decide) (ri_cons (k := 18) (t := 286) (by decide +kernel) (rv_pair X (a := 253) (t := 636) (v := .bool false) (by kernel_rfl) (.bool _)) (ri_cons (k := 19) (t := 288) (by decide +kernel) (rv_pair X (a := 254) (t := 637) (v := .bool true) (by kernel_rfl) (.bool _)) (ri_cons (k := 22) (t := 294) (by decide +kernel) (rv_pair X (a := 255) (t := 638) (v := .bool false) (by kernel_rfl) (.bool _)) (ri_cons (k := 23) (t := 296) (by decide +kernel) (rv_pair X (a := 256) (t := 639) (v := .bool true) (by kernel_rfl) (.bool _)) .nil)))),
      fun P => by kernel_rfl, fun P => by kernel_rfl, fun P => by kernel_rfl, fun P => by kernel_rfl, fun P => by kernel_rfl,
      fun P => ⟨_, _, _, _, _, _, _, _, _, rfl⟩, fun P => by kernel_rfl, fun P => by kernel_rfl, fun P a b => by kernel_rfl, fun P => by kernel_rfl, fun P => by kernel_rfl, fun P => by kernel_rfl, fun P => by kernel_rfl, fun P => by kernel_rfl⟩
end MineH
theorem PySem.Challenge.cw_no0084_01_holds : PySem.Challenge.rw_no0084_01.Holds :=
  MineH.main
end
