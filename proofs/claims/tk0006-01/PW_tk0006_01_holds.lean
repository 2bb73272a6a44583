import PyProof.Rows.All
import Wide.All
import OpenK.AllK
import Wide.FinOn
import PySem.Challenge.RW_tk0006_01
open PySem PySem.W PyProof.Rows
set_option Elab.async false
set_option linter.all false
namespace Mine
def vw : Program := { PySem.Challenge.pw_tk0006_01 with main := { PySem.Challenge.pw_tk0006_01.main with body := (PySem.Challenge.pw_tk0006_01.main.body.zipIdx.filter fun x => x.2 != 0 && x.2 != 10 && x.2 != 22 && x.2 != 34).map (·.1) } }
theorem left_boot {p q : Program} {loose : List Str} {Xt : Shared → Bool} {α : Type} {Yf : Shared → α} {Ya : World → α} {N : Nat} {g0 : Bool}
    (e : opening p = plainProg p.main.scope.names) (hN : Nat.ble 600 N = true) (f : ∀ s, fenceModules? p s = some s)
    (h : ∀ w : World, (fun os => (topFrom treeTable p w N ⟨boot_heap w.params, Array.mk [], boot_drawn, boot_toks, os⟩).map (fun s => (openSeen q loose (importedModules p.main.body) Xt g0 s, Yf s))) = fun _ => some (openGood q loose, Ya w)) : LeftO p q loose Xt Yf Ya N g0 := fun w => by
  obtain ⟨⟨h', gs, d, k, os⟩, e1, e2⟩ := Option.map_eq_some_iff.mp (boot_open e hN f w)
  obtain ⟨rfl, rfl, rfl, rfl⟩ : h' = boot_heap w.params ∧ gs = Array.mk [] ∧ d = boot_drawn ∧ k = boot_toks := by simpa using e2
  unfold openEnds
  rw [e1]
  exact congrFun (h w) os
local macro_rules | `(tactic| o_head $H:term) => `(tactic| (
  refine holds_open (q := vw) (loose := [Str.ofString "BasicError"]) (Xt := fun s => xlAt vw [] s && recOk (RowW.records (PySem.Challenge.rw_tk0006_01.row.toRowW)) s) (XP := XL vw []) (Yf := Hook.obs $H) (Ya := Hook.val $H) (YP := Hook.says $H) (N := 2976) ?hl (Hook.of $H) (Hook.keeps $H) (fun s e => xl_of s (Bool.and_eq_true_iff.mp e).1) XL.keeps (by rfl) (by rfl) (by rfl) (fun s e => recFacts_of (Bool.and_eq_true_iff.mp e).2) (by rfl) (by first | assumption | decide +kernel) (by decide +kernel) ⟨rfl, rfl, rfl, rfl, rfl, by decide +kernel⟩ ?hw ?hc
  (case hl => (refine left_boot (by kernel_rfl) (by decide) (fun s => by kernel_rfl) ?_; intro w; unfold topFrom openGood; rewrite [PySem.W.Fast.te14082659384304107361, PySem.W.Fast.te14364793385576792824, PySem.W.Fast.te4187177175401517315, PySem.W.Fast.te5923862056798008813, PySem.W.Fast.te8920871248978507458, PySem.W.Fast.te3247288618530077131, PySem.W.Fast.te821141287760084731]; kernel_rfl))))
set_option maxRecDepth 100000 in
set_option maxHeartbeats 8000000 in
open_top hd for PySem.Challenge.rw_tk0006_01
-- p
abbrev bA := Builtin.bitAnd
abbrev bX := Builtin.bitXor
abbrev bO := Builtin.bitOr

theorem x_eq (x y : Int) : bX x y = x + y - 2 * bA x y := bitXor_and x y
theorem o_eq (x y : Int) : bO x y = x + y - bA x y := bitOr_and x y
theorem a_h (x y : Int) : bA x y = 2 * bA (x / 2) (y / 2) + (if x % 2 = 1 ∧ y % 2 = 1 then 1 else 0) := kbt_halves x y
theorem x_h (x y : Int) : bX x y = 2 * bX (x / 2) (y / 2) + (if x % 2 = y % 2 then 0 else 1) := by
  rw [x_eq, x_eq, a_h x y]
  split <;> split <;> omega
theorem a_nn {x y : Int} (hx : 0 ≤ x) (hy : 0 ≤ y) : 0 ≤ bA x y ∧ bA x y ≤ x ∧ bA x y ≤ y := by
  have h1 := bitAnd_range x hy
  have h2 := bitAnd_range y hx
  rw [bitAnd_comm y x] at h2
  exact ⟨h1.1, h2.2, h1.2⟩
theorem x_nn {x y : Int} (hx : 0 ≤ x) (hy : 0 ≤ y) : 0 ≤ bX x y := by
  have h := a_nn hx hy
  rw [x_eq]; omega
theorem a_fit (k : Nat) : ∀ x y : Int, -(2 : Int) ^ k ≤ x → x < 2 ^ k → -(2 : Int) ^ k ≤ y → y < 2 ^ k → -(2 : Int) ^ k ≤ bA x y ∧ bA x y < 2 ^ k := by
  induction k with
  | zero =>
    intro x y h1 h2 h3 h4
    have hx : x = 0 ∨ x = -1 := by rw [Int.pow_zero] at *; omega
    have hy : y = 0 ∨ y = -1 := by rw [Int.pow_zero] at *; omega
    rcases hx with rfl | rfl <;> rcases hy with rfl | rfl <;> decide
  | succ k ih =>
    intro x y h1 h2 h3 h4
    rw [Int.pow_succ] at *
    have h := ih (x / 2) (y / 2) (by omega) (by omega) (by omega) (by omega)
    rw [a_h]
    split <;> omega
theorem x_fit (k : Nat) : ∀ x y : Int, -(2 : Int) ^ k ≤ x → x < 2 ^ k → -(2 : Int) ^ k ≤ y → y < 2 ^ k → -(2 : Int) ^ k ≤ bX x y ∧ bX x y < 2 ^ k := by
  induction k with
  | zero =>
    intro x y h1 h2 h3 h4
    have hx : x = 0 ∨ x = -1 := by rw [Int.pow_zero] at *; omega
    have hy : y = 0 ∨ y = -1 := by rw [Int.pow_zero] at *; omega
    rcases hx with rfl | rfl <;> rcases hy with rfl | rfl <;> decide
  | succ k ih =>
    intro x y h1 h2 h3 h4
    rw [Int.pow_succ] at *
    have h := ih (x / 2) (y / 2) (by omega) (by omega) (by omega) (by omega)
    rw [x_h]
    split <;> omega
theorem a_dvd (t : Nat) : ∀ x y : Int, y % 2 ^ t = 0 → bA x y % 2 ^ t = 0 := by
  induction t with
  | zero => intro x y _; rw [Int.pow_zero]; exact Int.emod_one _
  | succ t ih =>
    intro x y h
    have hp := kbt_pos t
    rw [Int.pow_succ, Int.mul_comm] at h ⊢
    have hd : (2 : Int) * 2 ^ t ∣ y := Int.dvd_of_emod_eq_zero h
    obtain ⟨c, hc⟩ := hd
    have h2 : y / 2 = 2 ^ t * c := by rw [hc, Int.mul_assoc]; omega
    have h3 : y % 2 = 0 := by rw [hc, Int.mul_assoc]; omega
    have h4 := ih (x / 2) (y / 2) (by rw [h2]; exact Int.mul_emod_right _ _)
    obtain ⟨e, he⟩ := Int.dvd_of_emod_eq_zero h4
    rw [a_h, if_neg (by omega), he, Int.add_zero, ← Int.mul_assoc]
    exact Int.mul_emod_right _ _

theorem pwm {a b : Nat} (h : a ≤ b) : (2 : Int) ^ a ≤ 2 ^ b := by
  have h1 : (2 : Nat) ^ a ≤ 2 ^ b := Nat.pow_le_pow_right (by decide) h
  have h2 := kbt_cast a
  have h3 := kbt_cast b
  omega
/-- what the sums' loop keeps -/
abbrev SumsP (S B x y turn : Int) : Prop :=
  0 ≤ turn ∧ turn ≤ B ∧ 0 ≤ x ∧ 0 ≤ y ∧ x + y = S ∧ (B ≤ turn → y = 0) ∧ y % 2 ^ turn.toNat = 0 ∧
  0 ≤ Builtin.bitAnd x y ∧ 0 ≤ Builtin.bitXor x y ∧ Builtin.bitXor x y + 2 * Builtin.bitAnd x y = S ∧ (2 * Builtin.bitAnd x y).fmod (2 ^ (turn + 1).toNat) = 0
theorem sums_all {S B x y turn : Int} (hS : S < 2 ^ (B - 1).toNat) (h0 : 0 ≤ turn) (h1 : turn ≤ B) (hx : 0 ≤ x) (hy : 0 ≤ y) (hs : x + y = S) (hd : y % 2 ^ turn.toNat = 0) : SumsP S B x y turn := by
  have ha := a_nn hx hy
  have hX := x_nn hx hy
  refine ⟨h0, h1, hx, hy, hs, ?_, hd, ha.1, hX, ?_, ?_⟩
  · intro hb
    have hm : (2 : Int) ^ (B - 1).toNat ≤ 2 ^ turn.toNat := pwm (by omega)
    exact Int.emod_eq_zero_of_dvd (Int.dvd_of_emod_eq_zero hd) |> fun _ => by
      have h2 : y < 2 ^ turn.toNat := by omega
      rw [Int.emod_eq_of_lt hy h2] at hd
      exact hd
  · have := x_eq x y
    show bX x y + 2 * bA x y = S
    omega
  · have h5 := a_dvd turn.toNat x y hd
    have e : (turn + 1).toNat = turn.toNat + 1 := by omega
    rw [Int.fmod_eq_emod_of_nonneg _ (Int.le_of_lt (kbt_pos _)), e, Int.pow_succ, Int.mul_comm _ 2]
    obtain ⟨c, hc⟩ := Int.dvd_of_emod_eq_zero h5
    have hc' : Builtin.bitAnd x y = 2 ^ turn.toNat * c := hc
    rw [hc', ← Int.mul_assoc]
    exact Int.mul_emod_right _ _
theorem sums_start {B x y : Int} (hB : 8 ≤ B) (hx : 0 ≤ x) (hy : 0 ≤ y) (hS : x + y < 2 ^ (B - 1).toNat) : SumsP (x + y) B x y 0 :=
  sums_all hS (Int.le_refl 0) (by omega) hx hy rfl (by rw [show (0 : Int).toNat = 0 from rfl, Int.pow_zero]; exact Int.emod_one y)
theorem sums_step {S B x y k : Int} (hS : S < 2 ^ (B - 1).toNat) (hk : k < B) (h : SumsP S B x y k) : SumsP S B (Builtin.bitXor x y) (2 * Builtin.bitAnd x y) (k + 1) := by
  obtain ⟨h0, h1, hx, hy, hs, _, hd, ha, hX, he, hf⟩ := h
  refine sums_all hS (by omega) (by omega) hX (by omega) he ?_
  rw [← Int.fmod_eq_emod_of_nonneg _ (Int.le_of_lt (kbt_pos _))]
  exact hf
-- p2
theorem x_nat : ∀ m n : Nat, bX (m : Int) (n : Int) = ((m ^^^ n : Nat) : Int) := by
  intro m
  induction m using Nat.strongRecOn with
  | _ m ih =>
    intro n
    have hx : ((m ^^^ n) / 2) = (m / 2) ^^^ (n / 2) := Nat.xor_div_two
    have hp := @Nat.xor_mod_two_eq_one m n
    by_cases h0 : m = 0
    · subst h0
      rw [Nat.zero_xor, x_eq, show bA ((0 : Nat) : Int) (n : Int) = 0 from by rw [show ((0 : Nat) : Int) = 0 from rfl]; exact (bitAnd_comm _ _).trans (bitAnd_zero _)]
      omega
    · have h := ih (m / 2) (by omega) (n / 2)
      have e1 : (((m / 2 : Nat) : Int)) = (m : Int) / 2 := by omega
      have e2 : (((n / 2 : Nat) : Int)) = (n : Int) / 2 := by omega
      rw [e1, e2, ← hx] at h
      rw [x_h, h]
      split <;> omega
theorem a_nat (m n : Nat) : bA (m : Int) (n : Int) = ((m &&& n : Nat) : Int) := by
  have h := bitAnd_pp (x := (m : Int)) (y := (n : Int)) (by omega) (by omega)
  simpa using h

def apN (N : Nat) : Nat := (N ^^^ N / 2) ^^^ ((N + 1) ^^^ (N + 1) / 2)
theorem apN_good : ∀ N : Nat, 0 < apN N ∧ apN N &&& (apN N - 1) = 0 := by
  intro N
  induction N using Nat.strongRecOn with
  | _ N ih =>
    have d1 : apN N / 2 = (N / 2 ^^^ N / 2 / 2) ^^^ ((N + 1) / 2 ^^^ (N + 1) / 2 / 2) := by
      unfold apN
      rw [Nat.xor_div_two, Nat.xor_div_two, Nat.xor_div_two]
    have m1 := @Nat.xor_mod_two_eq_one (N ^^^ N / 2) ((N + 1) ^^^ (N + 1) / 2)
    have m2 := @Nat.xor_mod_two_eq_one N (N / 2)
    have m3 := @Nat.xor_mod_two_eq_one (N + 1) ((N + 1) / 2)
    by_cases hN : N % 2 = 0
    · have e : (N + 1) / 2 = N / 2 := by omega
      rw [e, Nat.xor_self] at d1
      have hodd : apN N % 2 = 1 := by
        show ((N ^^^ N / 2) ^^^ ((N + 1) ^^^ (N + 1) / 2)) % 2 = 1
        rw [e] at m3
        rw [m1, e]
        omega
      have : apN N = 1 := by omega
      rw [this]
      decide
    · have e : (N + 1) / 2 = N / 2 + 1 := by omega
      have hi := ih (N / 2) (by omega)
      have d2 : apN N / 2 = apN (N / 2) := by rw [d1, e]; rfl
      have hev : apN N % 2 = 0 := by
        have h9 : ¬ apN N % 2 = 1 := by
          show ¬ ((N ^^^ N / 2) ^^^ ((N + 1) ^^^ (N + 1) / 2)) % 2 = 1
          rw [m1]
          omega
        omega
      generalize apN N = a at *
      generalize apN (N / 2) = b at *
      have ha : a = 2 * b := by omega
      refine ⟨by omega, ?_⟩
      have q1 : (a &&& (a - 1)) / 2 = a / 2 &&& (a - 1) / 2 := Nat.and_div_two
      have q2 := @Nat.and_mod_two_eq_one a (a - 1)
      have q3 : (a - 1) / 2 = b - 1 := by omega
      rw [d2, q3, hi.2] at q1
      have q4 : ¬ (a &&& (a - 1)) % 2 = 1 := by rw [q2]; omega
      omega

abbrev turned (n : Int) : Int := Builtin.bitXor n (n / 2)
theorem turned_nat (N : Nat) : turned (N : Int) = ((N ^^^ N / 2 : Nat) : Int) := by
  have e : (N : Int) / 2 = ((N / 2 : Nat) : Int) := by omega
  show bX (N : Int) ((N : Int) / 2) = _
  rw [e, x_nat]
theorem apart_good {n : Int} (h0 : 0 ≤ n) : 0 < Builtin.bitXor (turned n) (turned (n + 1)) ∧ Builtin.bitAnd (Builtin.bitXor (turned n) (turned (n + 1))) (Builtin.bitXor (turned n) (turned (n + 1)) - 1) = 0 := by
  obtain ⟨N, rfl⟩ := Int.eq_ofNat_of_zero_le h0
  have e : ((N : Int) + 1) = ((N + 1 : Nat) : Int) := by omega
  rw [e, turned_nat, turned_nat]
  have ex : Builtin.bitXor ((N ^^^ N / 2 : Nat) : Int) (((N + 1) ^^^ (N + 1) / 2 : Nat) : Int) = ((apN N : Nat) : Int) := x_nat _ _
  rw [ex]
  obtain ⟨h1, h2⟩ := apN_good N
  refine ⟨by omega, ?_⟩
  have e1 : ((apN N : Nat) : Int) - 1 = ((apN N - 1 : Nat) : Int) := by omega
  rw [e1]
  exact (a_nat _ _).trans (by rw [h2]; rfl)
theorem turned_fit {n B : Int} (h0 : 0 ≤ n) (h1 : n < 2 ^ (B - 1).toNat) : 0 ≤ turned n ∧ turned n < 2 ^ (B - 1).toNat := by
  have hp := kbt_pos (B - 1).toNat
  have h := x_fit (B - 1).toNat n (n / 2) (by omega) h1 (by omega) (by omega)
  exact ⟨x_nn h0 (by omega), h.2⟩

/-- what the way back keeps -/
abbrev NbP (n B : Int) (k : Nat) (back left : Int) : Prop :=
  0 ≤ back ∧ back < 2 ^ (B - 1).toNat ∧ 0 ≤ left ∧ left < 2 ^ (B - 1).toNat ∧
  back = ((n.toNat ^^^ n.toNat / 2 ^ k : Nat) : Int) ∧ left = ((n.toNat / 2 ^ k ^^^ n.toNat / 2 ^ k / 2 : Nat) : Int)
theorem nb_all {n B : Int} {k : Nat} {back left : Int} (h0 : 0 ≤ n) (h1 : n < 2 ^ (B - 1).toNat)
    (hb : back = ((n.toNat ^^^ n.toNat / 2 ^ k : Nat) : Int)) (hl : left = ((n.toNat / 2 ^ k ^^^ n.toNat / 2 ^ k / 2 : Nat) : Int)) : NbP n B k back left := by
  have hc := kbt_cast (B - 1).toNat
  have hN : n.toNat < 2 ^ (B - 1).toNat := by omega
  have hk : n.toNat / 2 ^ k < 2 ^ (B - 1).toNat := Nat.lt_of_le_of_lt (Nat.div_le_self _ _) hN
  have hk2 : n.toNat / 2 ^ k / 2 < 2 ^ (B - 1).toNat := Nat.lt_of_le_of_lt (Nat.div_le_self _ _) hk
  have b1 := Nat.xor_lt_two_pow hN hk
  have b2 := Nat.xor_lt_two_pow hk hk2
  exact ⟨by omega, by omega, by omega, by omega, hb, hl⟩
theorem nb_start {n B : Int} (h0 : 0 ≤ n) (h1 : n < 2 ^ (B - 1).toNat) : NbP n B 0 0 (turned n) := by
  refine nb_all h0 h1 ?_ ?_
  · rw [Nat.pow_zero, Nat.div_one, Nat.xor_self]; rfl
  · rw [Nat.pow_zero, Nat.div_one]
    have h := turned_nat n.toNat
    rw [Int.toNat_of_nonneg h0] at h
    exact h
theorem nb_step {n B : Int} {k : Nat} {back left : Int} (h0 : 0 ≤ n) (h1 : n < 2 ^ (B - 1).toNat) (h : NbP n B k back left) : NbP n B (k + 1) (Builtin.bitXor back left) (left / 2) := by
  obtain ⟨_, _, _, _, hb, hl⟩ := h
  have hd : n.toNat / 2 ^ (k + 1) = n.toNat / 2 ^ k / 2 := by rw [Nat.pow_succ, Nat.div_div_eq_div_mul]
  refine nb_all h0 h1 ?_ ?_
  · rw [hb, hl, hd]
    refine (x_nat _ _).trans ?_
    rw [Nat.xor_assoc, ← Nat.xor_assoc (n.toNat / 2 ^ k), Nat.xor_self, Nat.zero_xor]
  · rw [hl, hd, ← Nat.xor_div_two]
    omega
theorem nb_end {n B : Int} {k : Nat} {back left : Int} (h0 : 0 ≤ n) (h1 : n < 2 ^ (B - 1).toNat) (hk : (B - 1).toNat ≤ k) (h : NbP n B k back left) : back = n ∧ left = 0 := by
  obtain ⟨_, _, _, _, hb, hl⟩ := h
  have hc := kbt_cast (B - 1).toNat
  have hN : n.toNat < 2 ^ (B - 1).toNat := by omega
  have hp : 2 ^ (B - 1).toNat ≤ 2 ^ k := Nat.pow_le_pow_right (by decide) hk
  have hz : n.toNat / 2 ^ k = 0 := Nat.div_eq_of_lt (by omega)
  rw [hz] at hb hl
  rw [Nat.xor_zero] at hb
  exact ⟨by omega, by rw [hl]; rfl⟩
-- p3
theorem a_inv (a b : Int) : bA (-1 - a) b = b - bA a b := by
  have h := bitAnd_not b a
  have e : Builtin.bitNot a = -1 - a := by unfold Builtin.bitNot; omega
  rw [e, bitAnd_comm b a, bitAnd_comm b (-1 - a)] at h
  exact h
theorem o_inv (a b : Int) : bO (-1 - a) (-1 - b) = -1 - bA a b := by
  have h1 := o_eq (-1 - a) (-1 - b)
  have h2 := a_inv a (-1 - b)
  have h3 : bA a (-1 - b) = bA (-1 - b) a := bitAnd_comm _ _
  have h4 := a_inv b a
  have h5 : bA b a = bA a b := bitAnd_comm _ _
  omega
-- p4
/-- what the products' loop keeps, and what its turn asks -/
abbrev PrP (a b B : Int) (k : Nat) (p x y : Int) : Prop :=
  (0 ≤ p ∧ 0 ≤ x ∧ x ≤ a ∧ 0 ≤ y ∧ p + x * y = a * b ∧ x * 2 ^ k ≤ a ∧ (x = 0 → k = 0) ∧ y + y < 2 ^ (B - 1).toNat) ∧
  Builtin.bitAnd x 1 = x % 2 ∧ (x % 2 = 1 → p + y < 2 ^ (B - 1).toNat ∧ p + y + x / 2 * (y + y) = a * b) ∧ (x % 2 = 0 → p + x / 2 * (y + y) = a * b) ∧
  0 ≤ x / 2 * (y + y) ∧ x / 2 * (y + y) < 2 ^ (B - 1).toNat ∧ p < 2 ^ (B - 1).toNat ∧ (x / 2 = 0 → x / 2 * (y + y) = 0)
theorem pr_all {a b B : Int} {k : Nat} {p x y : Int} (hab : 2 * (a * b) < 2 ^ (B - 1).toNat) (h1 : 0 ≤ p) (h2 : 0 ≤ x) (h3 : x ≤ a) (h4 : 0 ≤ y) (h5 : p + x * y = a * b) (h6 : x * 2 ^ k ≤ a) (h7 : x = 0 → k = 0) (h8 : y + y < 2 ^ (B - 1).toNat) : PrP a b B k p x y := by
  have hxy : 0 ≤ x * y := Int.mul_nonneg h2 h4
  have hab0 : 0 ≤ a * b := by omega
  have hq : 0 ≤ x / 2 * (y + y) := Int.mul_nonneg (by omega) (by omega)
  have hsplit : x * y = x / 2 * (y + y) + (x % 2) * y := by
    have e : x = 2 * (x / 2) + x % 2 := by omega
    have e2 : x / 2 * (y + y) = 2 * (x / 2) * y := by
      rw [show y + y = 2 * y by omega, ← Int.mul_assoc, Int.mul_comm (x / 2) 2]
    rw [e2, ← Int.add_mul, ← e]
  have hr : x % 2 = 0 ∨ x % 2 = 1 := by omega
  refine ⟨⟨h1, h2, h3, h4, h5, h6, h7, h8⟩, bitAnd_m1 x, ?_, ?_, hq, ?_, by omega, ?_⟩
  · intro h
    rw [h, Int.one_mul] at hsplit
    omega
  · intro h
    rw [h, Int.zero_mul] at hsplit
    omega
  · rcases hr with h | h
    · rw [h, Int.zero_mul] at hsplit; omega
    · rw [h, Int.one_mul] at hsplit; omega
  · intro h
    rw [h, Int.zero_mul]
theorem pr_start {a b B : Int} (h0 : 0 ≤ a) (h1 : 0 ≤ b) (h2 : 2 * b < 2 ^ (B - 1).toNat) (hab : 2 * (a * b) < 2 ^ (B - 1).toNat) : PrP a b B 0 0 a b := by
  refine pr_all hab (Int.le_refl 0) h0 (Int.le_refl a) h1 (Int.zero_add _) ?_ (fun _ => rfl) (by omega)
  rw [Int.pow_zero, Int.mul_one]
  exact Int.le_refl a
theorem pr_step {a b B : Int} {k : Nat} {x y p' : Int} (hab : 2 * (a * b) < 2 ^ (B - 1).toNat) (h2 : 0 ≤ x) (h3 : x ≤ a) (h4 : 0 ≤ y) (h6 : x * 2 ^ k ≤ a)
    (hx : x / 2 ≠ 0) (hp : 0 ≤ p') (he : p' + x / 2 * (y + y) = a * b) : PrP a b B (k + 1) p' (x / 2) (y + y) := by
  have hp0 := kbt_pos k
  have hq : 1 * (y + y) ≤ x / 2 * (y + y) := Int.mul_le_mul_of_nonneg_right (by omega) (by omega)
  refine pr_all hab hp (by omega) (by omega) (by omega) he ?_ (fun h => absurd h hx) (by omega)
  have h9 : 2 * (x / 2) * 2 ^ k ≤ x * 2 ^ k := Int.mul_le_mul_of_nonneg_right (by omega) (by omega)
  have e : x / 2 * 2 ^ (k + 1) = 2 * (x / 2) * 2 ^ k := by
    rw [Int.pow_succ, Int.mul_comm (2 ^ k) 2, ← Int.mul_assoc, Int.mul_comm (x / 2) 2]
  omega
theorem pr_end {a B x : Int} {k : Nat} (h6 : x * 2 ^ k ≤ a) (h7 : x = 0 → k = 0) (ha : a < 2 ^ (B - 1).toNat) (hk : (B - 1).toNat < k) (h2 : 0 ≤ x) : False := by
  have hp : (2 : Int) ^ (B - 1).toNat ≤ 2 ^ k := pwm (Nat.le_of_lt hk)
  have hx : 1 ≤ x := by
    by_cases h : x = 0
    · have := h7 h; omega
    · omega
  have h9 : 1 * 2 ^ k ≤ x * 2 ^ k := Int.mul_le_mul_of_nonneg_right hx (Int.le_of_lt (kbt_pos k))
  omega
-- p5
theorem pw_half {B : Int} (h : 8 ≤ B) : (2 : Int) ^ (B - 2).toNat + 2 ^ (B - 2).toNat = 2 ^ (B - 1).toNat := by
  have e : (B - 1).toNat = (B - 2).toNat + 1 := by omega
  rw [e, Int.pow_succ]
  omega
theorem pw_small {B : Int} (h : 8 ≤ B) : (2 : Int) ^ (B.fdiv 2 - 1).toNat ≤ 2 ^ (B - 2).toNat := by
  refine pwm ?_
  rw [Int.fdiv_eq_ediv_of_nonneg _ (by decide)]
  omega
theorem prod_fit {B x y : Int} (h : 8 ≤ B) (h0 : 0 ≤ x) (h1 : x < 2 ^ (B.fdiv 2 - 1).toNat) (h2 : 0 ≤ y) (h3 : y < 2 ^ (B.fdiv 2 - 1).toNat) : 2 * (x * y) < 2 ^ (B - 1).toNat := by
  have hs := kbt_pos (B.fdiv 2 - 1).toNat
  have e1 : x * y ≤ x * 2 ^ (B.fdiv 2 - 1).toNat := Int.mul_le_mul_of_nonneg_left (Int.le_of_lt h3) h0
  have e2 : x * 2 ^ (B.fdiv 2 - 1).toNat < 2 ^ (B.fdiv 2 - 1).toNat * 2 ^ (B.fdiv 2 - 1).toNat := Int.mul_lt_mul_of_pos_right h1 hs
  have e3 : (2 : Int) ^ (B.fdiv 2 - 1).toNat * 2 ^ (B.fdiv 2 - 1).toNat = 2 ^ ((B.fdiv 2 - 1).toNat + (B.fdiv 2 - 1).toNat) := (Int.pow_add 2 _ _).symm
  have e4 : (2 : Int) ^ ((B.fdiv 2 - 1).toNat + (B.fdiv 2 - 1).toNat) ≤ 2 ^ (B - 2).toNat := by
    refine pwm ?_
    rw [Int.fdiv_eq_ediv_of_nonneg _ (by decide)]
    omega
  have e5 := pw_half h
  omega
theorem law_facts {v : Int} (h0 : 0 ≤ v) (h1 : v < 9) : (2 : Int) ^ (8 + v - 2).toNat + 2 ^ (8 + v - 2).toNat = 2 ^ (8 + v - 1).toNat ∧ (2 : Int) ^ ((8 + v).fdiv 2 - 1).toNat ≤ 2 ^ (8 + v - 2).toNat ∧ (128 : Int) ≤ 2 ^ (8 + v - 1).toNat ∧ (2 : Int) ^ (8 + v - 1).toNat ≤ 32768 := by
  refine ⟨pw_half (by omega), pw_small (by omega), ?_, ?_⟩
  · have h := pwm (show 7 ≤ (8 + v - 1).toNat by omega)
    omega
  · have h := pwm (show (8 + v - 1).toNat ≤ 15 by omega)
    omega
-- p6
theorem and_add_pow (s : Nat) : ∀ z w : Int, 0 ≤ w → w < 2 ^ s → bA z (w + 2 ^ s) = bA z w + (if z / 2 ^ s % 2 = 1 then 2 ^ s else 0) := by
  induction s with
  | zero =>
    intro z w h0 h1
    rw [Int.pow_zero] at *
    have hw : w = 0 := by omega
    subst hw
    rw [Int.ediv_one, show bA z 0 = 0 from bitAnd_zero z, show (0 : Int) + 1 = 1 from rfl, show bA z 1 = z % 2 from bitAnd_m1 z]
    split <;> omega
  | succ s ih =>
    intro z w h0 h1
    have hp := kbt_pos s
    have e : (2 : Int) ^ (s + 1) = 2 * 2 ^ s := by rw [Int.pow_succ, Int.mul_comm]
    rw [e] at *
    have hd : (w + 2 * 2 ^ s) / 2 = w / 2 + 2 ^ s := by omega
    have hm : (w + 2 * 2 ^ s) % 2 = w % 2 := by omega
    have hz : z / (2 * 2 ^ s) = z / 2 / 2 ^ s := by
      rw [Int.ediv_ediv_of_nonneg (by omega)]
    rw [a_h z (w + 2 * 2 ^ s), a_h z w, hd, hm, ih (z / 2) (w / 2) (by omega) (by omega), hz]
    generalize bA (z / 2) (w / 2) = q
    generalize z / 2 / 2 ^ s % 2 = r
    split <;> split <;> omega
theorem and_sub_pow (s : Nat) : ∀ z w : Int, 0 ≤ w → w < 2 ^ s → bA (z - 2 ^ s) w = bA z w := by
  induction s with
  | zero =>
    intro z w h0 h1
    rw [Int.pow_zero] at *
    have hw : w = 0 := by omega
    subst hw
    rw [show bA (z - 1) 0 = 0 from bitAnd_zero _, show bA z 0 = 0 from bitAnd_zero z]
  | succ s ih =>
    intro z w h0 h1
    have e : (2 : Int) ^ (s + 1) = 2 * 2 ^ s := by rw [Int.pow_succ, Int.mul_comm]
    rw [e] at *
    have hd : (z - 2 * 2 ^ s) / 2 = z / 2 - 2 ^ s := by omega
    have hm : (z - 2 * 2 ^ s) % 2 = z % 2 := by omega
    rw [a_h (z - 2 * 2 ^ s) w, a_h z w, hd, hm, ih (z / 2) (w / 2) (by omega) (by omega)]

abbrev fW (W p : Int) : Int := Builtin.bitAnd (p - W) W
theorem fW_low {s : Nat} {W p : Int} (h0 : 0 ≤ W) (h1 : W < 2 ^ s) (hp : 0 ≤ p) (hq : p < W) : fW (W + 2 ^ s) p = fW W p := by
  have hpow := kbt_pos s
  have h := and_add_pow s (p - (W + 2 ^ s)) W h0 h1
  have hd : (p - (W + 2 ^ s)) / 2 ^ s = -2 := by
    have e : p - (W + 2 ^ s) = (p - W + 2 ^ s) + 2 ^ s * (-2) := by omega
    rw [e, Int.add_mul_ediv_left _ _ (by omega), Int.ediv_eq_zero_of_lt (by omega) (by omega)]
    omega
  rw [hd, if_neg (by decide)] at h
  have h2 := and_sub_pow s (p - W) W h0 h1
  have e : p - (W + 2 ^ s) = p - W - 2 ^ s := by omega
  show bA (p - (W + 2 ^ s)) (W + 2 ^ s) = bA (p - W) W
  rw [h, e, h2]
  omega
theorem fW_mid {s : Nat} {W : Int} (h0 : 0 ≤ W) (h1 : W < 2 ^ s) : fW (W + 2 ^ s) W = 2 ^ s := by
  have hpow := kbt_pos s
  have h := and_add_pow s (W - (W + 2 ^ s)) W h0 h1
  have hd : (W - (W + 2 ^ s)) / 2 ^ s = -1 := by
    have e : W - (W + 2 ^ s) = 0 + 2 ^ s * (-1) := by omega
    rw [e, Int.add_mul_ediv_left _ _ (by omega), Int.zero_ediv]
    omega
  rw [hd, if_pos (by decide)] at h
  have h2 := and_sub_pow s 0 W h0 h1
  have e : W - (W + 2 ^ s) = 0 - 2 ^ s := by omega
  have z : bA 0 W = 0 := (bitAnd_comm 0 W).trans (bitAnd_zero W)
  show bA (W - (W + 2 ^ s)) (W + 2 ^ s) = 2 ^ s
  rw [h, e, h2, z]
  omega
theorem fW_high {s : Nat} {W p : Int} (h0 : 0 ≤ W) (h1 : W < 2 ^ s) (hp : 0 ≤ p) (hq : p < W) : fW (W + 2 ^ s) (p + 2 ^ s) = fW W p + 2 ^ s := by
  have hpow := kbt_pos s
  have e : p + 2 ^ s - (W + 2 ^ s) = p - W := by omega
  have h := and_add_pow s (p - W) W h0 h1
  have hd : (p - W) / 2 ^ s = -1 := by
    have e : p - W = (p - W + 2 ^ s) + 2 ^ s * (-1) := by omega
    rw [e, Int.add_mul_ediv_left _ _ (by omega), Int.ediv_eq_zero_of_lt (by omega) (by omega)]
    omega
  rw [hd, if_pos (by decide)] at h
  show bA (p + 2 ^ s - (W + 2 ^ s)) (W + 2 ^ s) = bA (p - W) W + 2 ^ s
  rw [e, h]
theorem fW_self (W : Int) : fW W W = 0 := by
  show bA (W - W) W = 0
  rw [show W - W = 0 by omega]
  exact (bitAnd_comm 0 W).trans (bitAnd_zero W)

/-- due: the parts of W, ascending, each the one behind it by fW -/
structure Due (W : Int) (due : List Int) : Prop where
  pos : 0 < due.length
  first : due.getD 0 0 = 0
  next : ∀ k, k + 1 < due.length → fW W (due.getD k 0) = due.getD (k + 1) 0
  last : due.getD (due.length - 1) 0 = W
  below : ∀ k, k + 1 < due.length → due.getD k 0 < W
  nn : ∀ k, k < due.length → 0 ≤ due.getD k 0
theorem Due.le {W : Int} {due : List Int} (h : Due W due) {k : Nat} (hk : k < due.length) : due.getD k 0 ≤ W := by
  by_cases h1 : k + 1 < due.length
  · exact Int.le_of_lt (h.below k h1)
  · have : k = due.length - 1 := by omega
    rw [this, h.last]
    exact Int.le_refl W
theorem Due.start : Due 0 [0] :=
  ⟨by decide, rfl, fun k hk => absurd hk (by simp), rfl, fun k hk => absurd hk (by simp), fun k hk => by
    have : k = 0 := by simp at hk; omega
    subst this
    exact Int.le_refl 0⟩
theorem getD_app {a b : List Int} {k : Nat} : (a ++ b).getD k 0 = if k < a.length then a.getD k 0 else b.getD (k - a.length) 0 := by
  by_cases h : k < a.length
  · rw [if_pos h, List.getD_eq_getElem?_getD, List.getD_eq_getElem?_getD, List.getElem?_append_left h]
  · rw [if_neg h, List.getD_eq_getElem?_getD, List.getD_eq_getElem?_getD, List.getElem?_append_right (by omega)]
theorem getD_map {a : List Int} {c : Int} {k : Nat} (h : k < a.length) : (a.map fun x => x + c).getD k 0 = a.getD k 0 + c := by
  simp [List.getD_eq_getElem?_getD, h]
theorem Due.step {W : Int} {due : List Int} {s : Nat} (h : Due W due) (h0 : 0 ≤ W) (h1 : W < 2 ^ s) : Due (W + 2 ^ s) (due ++ due.map fun x => x + 2 ^ s) := by
  have hp := kbt_pos s
  have hn := h.pos
  have hlen : (due ++ due.map fun x => x + 2 ^ s).length = due.length + due.length := by simp
  have lo : ∀ k, k < due.length → (due ++ due.map fun x => x + 2 ^ s).getD k 0 = due.getD k 0 := fun k hk => by rw [getD_app, if_pos hk]
  have hi : ∀ k, k < due.length → (due ++ due.map fun x => x + 2 ^ s).getD (due.length + k) 0 = due.getD k 0 + 2 ^ s := fun k hk => by
    rw [getD_app, if_neg (by omega), show due.length + k - due.length = k by omega, getD_map hk]
  refine ⟨by omega, ?_, ?_, ?_, ?_, ?_⟩
  · rw [lo 0 hn, h.first]
  · intro k hk
    rw [hlen] at hk
    by_cases a : k + 1 < due.length
    · rw [lo k (by omega), lo (k + 1) a, fW_low h0 h1 (h.nn k (by omega)) (h.below k a), h.next k a]
    · by_cases b : k < due.length
      · have e : k = due.length - 1 := by omega
        have e2 : k + 1 = due.length + 0 := by omega
        rw [lo k b, e2, hi 0 hn, h.first, e, h.last, fW_mid h0 h1]
        omega
      · obtain ⟨j, rfl⟩ : ∃ j, k = due.length + j := ⟨k - due.length, by omega⟩
        have e2 : due.length + j + 1 = due.length + (j + 1) := by omega
        rw [e2, hi j (by omega), hi (j + 1) (by omega), fW_high h0 h1 (h.nn j (by omega)) (h.below j (by omega)), h.next j (by omega)]
  · have e : (due ++ due.map fun x => x + 2 ^ s).length - 1 = due.length + (due.length - 1) := by omega
    rw [e, hi _ (by omega), h.last]
  · intro k hk
    rw [hlen] at hk
    by_cases b : k < due.length
    · rw [lo k b]
      have := h.le b
      omega
    · obtain ⟨j, rfl⟩ : ∃ j, k = due.length + j := ⟨k - due.length, by omega⟩
      rw [hi j (by omega)]
      have := h.below j (by omega)
      omega
  · intro k hk
    rw [hlen] at hk
    by_cases b : k < due.length
    · rw [lo k b]; exact h.nn k b
    · obtain ⟨j, rfl⟩ : ∃ j, k = due.length + j := ⟨k - due.length, by omega⟩
      rw [hi j (by omega)]
      have := h.nn j (by omega)
      omega
/-- one turn further along due; beyond its end nought -/
theorem Due.go {W : Int} {due : List Int} (h : Due W due) {k : Nat} (hk : k < due.length) : fW W (due.getD k 0) = due.getD (k + 1) 0 := by
  by_cases h1 : k + 1 < due.length
  · exact h.next k h1
  · have e : k = due.length - 1 := by omega
    have e2 : due.getD (k + 1) 0 = 0 := by
      rw [List.getD_eq_getElem?_getD, List.getElem?_eq_none (by omega)]; rfl
    rw [e2, e, h.last, fW_self]
/-- a bit that is not there -/
theorem bit_free {W : Int} {s : Nat} (h0 : 0 ≤ W) (h1 : W < 2 ^ (s + 1)) (h : (W.fdiv (2 ^ s)).fmod 2 = 0) : W < 2 ^ s := by
  have hp := kbt_pos s
  rw [Int.fdiv_eq_ediv_of_nonneg _ (Int.le_of_lt hp), Int.fmod_eq_emod_of_nonneg _ (by decide)] at h
  rw [Int.pow_succ] at h1
  have hq : W / 2 ^ s < 2 := Int.ediv_lt_of_lt_mul hp (by omega)
  have hq0 : 0 ≤ W / 2 ^ s := Int.ediv_nonneg h0 (Int.le_of_lt hp)
  have hz : W / 2 ^ s = 0 := by omega
  have hm := Int.emod_lt_of_pos W hp
  have he := Int.mul_ediv_add_emod W (2 ^ s)
  rw [hz, Int.mul_zero] at he
  omega
-- q4
/-- what the second loop keeps -/
abbrev FdP (W : Int) (due : List Int) (k : Nat) (part : Int) (found : List Int) : Prop :=
  found = due.take k ∧ part = due.getD k 0 ∧ (k < due.length → 0 ≤ part ∧ part ≤ W) ∧ (k ≤ due.length → found.length = k)
theorem fd_all {W : Int} {due : List Int} (h : Due W due) {k : Nat} {part : Int} {found : List Int} (h1 : found = due.take k) (h2 : part = due.getD k 0) : FdP W due k part found :=
  ⟨h1, h2, fun hk => by rw [h2]; exact ⟨h.nn k hk, h.le hk⟩, fun hk => by rw [h1, List.length_take]; omega⟩
theorem fd_start {W : Int} {due : List Int} (h : Due W due) : FdP W due 0 0 [] := fd_all h rfl h.first.symm
theorem fd_step {W : Int} {due : List Int} (h : Due W due) {k : Nat} {part : Int} {found : List Int} (h1 : found = due.take k) (h2 : part = due.getD k 0) (hk : k < due.length) : FdP W due (k + 1) (Builtin.bitAnd (part - W) W) (found ++ [part]) := by
  refine fd_all h ?_ ?_
  · rw [h1, h2, List.take_add_one, List.getD_eq_getElem?_getD, List.getElem?_eq_getElem hk]
    rfl
  · rw [h2]
    exact h.go hk
theorem fd_end {due : List Int} {k : Nat} {part : Int} {found : List Int} (h1 : found = due.take k) (h2 : part = due.getD k 0) (hk : due.length ≤ k) : part = 0 ∧ found = due := by
  refine ⟨?_, ?_⟩
  · rw [h2, List.getD_eq_getElem?_getD, List.getElem?_eq_none hk]; rfl
  · rw [h1, List.take_of_length_le hk]
-- c1
abbrev CT (f : Addr) (n : Nat) (vs : List Value) (pre : Prop) (R : Value → Prop) : Prop :=
  ∀ (prog : Program) (w : World) (p : Program) (loose : List Str) (mean : ExcName → Option Value) (mg mb : Str → Option Value) (dp un : Nat) (gd : Option (List Code)) (cn : Str) (cs : Scope) (a : Addr) (ccd : Value) (cl : List (Str × Addr)) (outer : List Env) (A₀ : Around) (base h₀ : Heap) (L : Addr) (m : Str → Option Value) (news : List (Addr × Obj)) (s : Shared) (Q E : Value → Shared → Prop),
    Below A₀ base outer h₀ → Fr h₀ L s.heap m → (hd.heap_39 w.params).In h₀ → News h₀ L s.heap news → Top p loose mean mg mb h₀ → cs.kind = .function → dp + n < recursionLimit → un + 8 * n < cLine → pre →
    (∀ r h' tk', R r → Fr h₀ L h' m → News h₀ L h' news → Q r { s with heap := h', toks := tk' }) →
    wpAny (model prog w) (ktrTop dp un gd cn cs L a ccd cl outer) (call (.ref f) vs) Q E s

theorem ct_use {f : Addr} {n : Nat} {vs : List Value} {pre : Prop} {R : Value → Prop} (C : CT f n vs pre R)
    {prog : Program} {w : World} {p : Program} {loose : List Str} {mean : ExcName → Option Value} {mg mb : Str → Option Value} {dp un : Nat} {gd : Option (List Code)} {cn : Str} {cs : Scope} {a : Addr} {ccd : Value} {cl : List (Str × Addr)} {outer : List Env} {A₀ : Around} {base h₀ : Heap} {L : Addr} {m : Str → Option Value} {news : List (Addr × Obj)} {s : Shared} {Q E : Value → Shared → Prop}
    (hB : Below A₀ base outer h₀) (F : Fr h₀ L s.heap m) (X : (hd.heap_39 w.params).In h₀) (N : News h₀ L s.heap news) (T : Top p loose mean mg mb h₀) (hk : cs.kind = .function) (hd : dp + n < recursionLimit) (hu : un + 8 * n < cLine) (hp : pre)
    (ret : ∀ r h' tk', R r → Fr h₀ L h' m → News h₀ L h' news → Q r { s with heap := h', toks := tk' }) :
    wpAny (model prog w) (ktrTop dp un gd cn cs L a ccd cl outer) (call (.ref f) vs) Q E s :=
  C _ _ _ _ _ _ _ _ _ _ _ _ _ _ _ _ _ _ _ _ _ _ _ _ _ hB F X N T hk hd hu hp ret

abbrev Bt (B : Int) : Prop := 8 ≤ B ∧ B ≤ 16
abbrev Ft (n B : Int) : Prop := -(2 : Int) ^ (B - 1).toNat ≤ n ∧ n < (2 : Int) ^ (B - 1).toNat

theorem pw_mono {a b : Nat} (h : a ≤ b) : (2 : Int) ^ a ≤ 2 ^ b := by
  have h1 : (2 : Nat) ^ a ≤ 2 ^ b := Nat.pow_le_pow_right (by decide) h
  have h2 := kbt_cast a
  have h3 := kbt_cast b
  omega
theorem pw_lo {B : Int} (h : 8 ≤ B) : (128 : Int) ≤ 2 ^ (B - 1).toNat := by
  have h1 := pw_mono (show 7 ≤ (B - 1).toNat by omega)
  omega
theorem pw_hi {B : Int} (h : B ≤ 16) : (2 : Int) ^ (B - 1).toNat ≤ 32768 := by
  have h1 := pw_mono (show (B - 1).toNat ≤ 15 by omega)
  omega

theorem fill : (PySem.Challenge.rw_tk0006_01, hd.heap_39) = (PySem.Challenge.rw_tk0006_01, hd.heap_39) := by w_top off; k_fill; rfl

-- my own small words, said as keys: "M ask": what a contract asks; "M go": into the def and through it; "M use": a contract's premises at a call
local macro_rules | `(tactic| walk_at "M ask") => `(tactic| ((try dsimp only [Bt, Ft] at *); (repeat' (refine And.intro ?_ ?_)); all_goals (first | assumption | omega)))
local macro_rules | `(tactic| walk_at "M go") => `(tactic| (
  refine wpAny_call ?_
  k_dflt cell_enter
  k_steps))
local macro_rules | `(tactic| walk_at "M use") => `(tactic| (
  (case k1 => k_asm)
  (case k2 => k_asm)
  (case k3 => k_asm)
  (case k4 => k_asm)
  (case k5 => k_asm)
  (case kK => first | exact rfl | assumption)
  (case kd => ktr_room)
  (case ku => ktr_units)
  (case kp => walk_at "M ask")
  (intro r9 h9 tk9 hr9 F9 N9; (first | subst hr9 | (obtain ⟨t9, hr9⟩ := hr9; subst hr9)); (try dsimp only); (try k_fold))))
local macro_rules | `(tactic| walk_at "M in") => `(tactic| (
  intro prog w p loose mean mg mb dp un gd cn cs a ccd cl outer A₀ base h₀ L m news s Q E hB F X N T hk hd hu hpre hret))

local macro_rules | `(tactic| walk_at "M news") => `(tactic| first | assumption | exact cb_drop (by assumption) (fun _ h => .tail _ h) | exact cb_drop (by assumption) (fun _ h => .tail _ (.tail _ h)) | exact cb_drop (by assumption) (fun _ h => .tail _ (.tail _ (.tail _ h))))
set_option maxRecDepth 100000 in
set_option maxHeartbeats 8000000 in
theorem fits_ct (n B : Int) (t u : Tok) : CT 72 1 [.int n t, .int B u] (Bt B ∧ Ft n B) (fun r => r = .bool true) := by
  intro prog w p loose mean mg mb dp un gd cn cs a ccd cl outer A₀ base h₀ L m news s Q E hB F X N T hk hd hu hpre hret
  obtain ⟨⟨hB1, hB2⟩, hf1, hf2⟩ := hpre
  walk_at "M go"
  refine hret _ _ _ ?_ (by assumption) (by assumption)
  rw [Int.one_mul]
  exact congrArg _ (decide_eq_true hf2)
local macro_rules | `(tactic| walk_at "call ref") => `(tactic| (k_here; k_dflt (refine' ct_use (fits_ct _ _ _ _) ?k1 ?k2 ?k3 ?k4 ?k5 ?kK ?kd ?ku ?kp ?_; walk_at "M use")))

set_option maxRecDepth 100000 in
set_option maxHeartbeats 8000000 in
theorem whole_of_ct (n B : Int) (t u : Tok) : CT 79 2 [.int n t, .int B u] (Bt B ∧ Ft n B) (fun r => ∃ t, r = .int n t) := by
  intro prog w p loose mean mg mb dp un gd cn cs a ccd cl outer A₀ base h₀ L m news s Q E hB F X N T hk hd hu hpre hret
  obtain ⟨⟨hB1, hB2⟩, hf1, hf2⟩ := hpre
  walk_at "M go"
  refine hret _ _ _ ⟨_, rfl⟩ (by assumption) (by assumption)
local macro_rules | `(tactic| walk_at "call ref") => `(tactic| (k_here; k_dflt (refine' ct_use (whole_of_ct _ _ _ _) ?k1 ?k2 ?k3 ?k4 ?k5 ?kK ?kd ?ku ?kp ?_; walk_at "M use")))

set_option maxRecDepth 100000 in
set_option maxHeartbeats 8000000 in
theorem is_whole_ct (n : Int) (t : Tok) : CT 157 1 [.int n t] True (fun r => r = .bool true) := by
  intro prog w p loose mean mg mb dp un gd cn cs a ccd cl outer A₀ base h₀ L m news s Q E hB F X N T hk hd hu hpre hret
  walk_at "M go"
  refine hret _ _ _ rfl (by assumption) (by assumption)
local macro_rules | `(tactic| walk_at "call ref") => `(tactic| (k_here; k_dflt (refine' ct_use (is_whole_ct _ _) ?k1 ?k2 ?k3 ?k4 ?k5 ?kK ?kd ?ku ?kp ?_; walk_at "M use")))

set_option maxRecDepth 100000 in
set_option maxHeartbeats 8000000 in
theorem settled_ct (n B d : Int) (t u v : Tok) : CT 164 2 [.int n t, .int B u, .int d v] (Bt B ∧ Ft n B) (fun r => ∃ t, r = .int n t) := by
  intro prog w p loose mean mg mb dp un gd cn cs a ccd cl outer A₀ base h₀ L m news s Q E hB F X N T hk hd hu hpre hret
  obtain ⟨⟨hB1, hB2⟩, hf1, hf2⟩ := hpre
  walk_at "M go"
  refine hret _ _ _ ⟨_, rfl⟩ (by assumption) (by assumption)
local macro_rules | `(tactic| walk_at "call ref") => `(tactic| (k_here; k_dflt (refine' ct_use (settled_ct _ _ _ _ _ _) ?k1 ?k2 ?k3 ?k4 ?k5 ?kK ?kd ?ku ?kp ?_; walk_at "M use")))

set_option maxRecDepth 100000 in
set_option maxHeartbeats 8000000 in
theorem wr_add_ct (a b B d : Int) (o t u v x : Tok) : CT 171 3 [.str (PySem.Str.ofString "+") o, .int a t, .int b u, .int B v, .int d x] (Bt B ∧ Ft (a + b) B) (fun r => ∃ t, r = .int (a + b) t) := by
  intro prog w p loose mean mg mb dp un gd cn cs a ccd cl outer A₀ base h₀ L m news s Q E hB F X N T hk hd hu hpre hret
  obtain ⟨⟨hB1, hB2⟩, hf1, hf2⟩ := hpre
  walk_at "M go"
  refine hret _ _ _ ⟨_, rfl⟩ (by assumption) (by assumption)
set_option maxRecDepth 100000 in
set_option maxHeartbeats 8000000 in
theorem wr_sub_ct (a b B d : Int) (o t u v x : Tok) : CT 171 3 [.str (PySem.Str.ofString "-") o, .int a t, .int b u, .int B v, .int d x] (Bt B ∧ Ft (a - b) B) (fun r => ∃ t, r = .int (a - b) t) := by
  intro prog w p loose mean mg mb dp un gd cn cs a ccd cl outer A₀ base h₀ L m news s Q E hB F X N T hk hd hu hpre hret
  obtain ⟨⟨hB1, hB2⟩, hf1, hf2⟩ := hpre
  walk_at "M go"
  refine hret _ _ _ ⟨_, rfl⟩ (by assumption) (by assumption)
set_option maxRecDepth 100000 in
set_option maxHeartbeats 8000000 in
theorem wr_mul_ct (a b B d : Int) (o t u v x : Tok) : CT 171 3 [.str (PySem.Str.ofString "*") o, .int a t, .int b u, .int B v, .int d x] (Bt B ∧ Ft (a * b) B ∧ 0 ≤ a ∧ a ≤ 65536) (fun r => ∃ t, r = .int (a * b) t) := by
  intro prog w p loose mean mg mb dp un gd cn cs a ccd cl outer A₀ base h₀ L m news s Q E hB F X N T hk hd hu hpre hret
  obtain ⟨⟨hB1, hB2⟩, ⟨hf1, hf2⟩, ha1, ha2⟩ := hpre
  walk_at "M go"
  refine hret _ _ _ ⟨_, rfl⟩ (by assumption) (by assumption)
local macro_rules | `(tactic| walk_at "call ref") => `(tactic| (k_here; k_dflt (refine' ct_use (wr_add_ct _ _ _ _ _ _ _ _ _) ?k1 ?k2 ?k3 ?k4 ?k5 ?kK ?kd ?ku ?kp ?_; walk_at "M use")))
local macro_rules | `(tactic| walk_at "call ref") => `(tactic| (k_here; k_dflt (refine' ct_use (wr_sub_ct _ _ _ _ _ _ _ _ _) ?k1 ?k2 ?k3 ?k4 ?k5 ?kK ?kd ?ku ?kp ?_; walk_at "M use")))
local macro_rules | `(tactic| walk_at "call ref") => `(tactic| (k_here; k_dflt (refine' ct_use (wr_mul_ct _ _ _ _ _ _ _ _ _) ?k1 ?k2 ?k3 ?k4 ?k5 ?kK ?kd ?ku ?kp ?_; walk_at "M use")))

set_option maxRecDepth 100000 in
set_option maxHeartbeats 8000000 in
theorem cut_quotient_ct (x : Int) (t u : Tok) : CT 178 1 [.int x t, .int 2 u] (0 ≤ x) (fun r => ∃ t, r = .int (x / 2) t) := by
  intro prog w p loose mean mg mb dp un gd cn cs a ccd cl outer A₀ base h₀ L m news s Q E hB F X N T hk hd hu hpre hret
  walk_at "M go"
  · have e : (if x < 0 then -x else x).fdiv (if (2 : Int) < 0 then -2 else 2) = x / 2 := by
      rw [if_neg (by omega), if_neg (by decide)]
      exact Int.fdiv_eq_ediv_of_nonneg x (by decide)
    rw [e]
    exact hret _ _ _ ⟨_, rfl⟩ (by assumption) (by assumption)
  · exfalso
    rename (_ == _) = false => hh
    rw [decide_eq_false (by omega), decide_eq_false (by decide)] at hh
    exact absurd hh (by decide)
local macro_rules | `(tactic| walk_at "call ref") => `(tactic| (k_here; k_dflt (refine' ct_use (cut_quotient_ct _ _ _) ?k1 ?k2 ?k3 ?k4 ?k5 ?kK ?kd ?ku ?kp ?_; walk_at "M use")))
set_option maxRecDepth 100000 in
set_option maxHeartbeats 8000000 in
theorem rk_add_ct (x y B : Int) (o t u v z : Tok) : CT 213 4 [.str (PySem.Str.ofString "+") o, .int x t, .int y u, .int B v, .int 9 z] (Bt B ∧ Ft (x + y) B) (fun r => ∃ t, r = .int (x + y) t) := by
  intro prog w p loose mean mg mb dp un gd cn cs a ccd cl outer A₀ base h₀ L m news s Q E hB F X N T hk hd hu hpre hret
  obtain ⟨⟨hB1, hB2⟩, hf1, hf2⟩ := hpre
  walk_at "M go"
  refine hret _ _ _ ⟨_, rfl⟩ (by assumption) (by walk_at "M news")
set_option maxRecDepth 100000 in
set_option maxHeartbeats 8000000 in
theorem rk_sub_ct (x y B : Int) (o t u v z : Tok) : CT 213 4 [.str (PySem.Str.ofString "-") o, .int x t, .int y u, .int B v, .int 9 z] (Bt B ∧ Ft (x - y) B) (fun r => ∃ t, r = .int (x - y) t) := by
  intro prog w p loose mean mg mb dp un gd cn cs a ccd cl outer A₀ base h₀ L m news s Q E hB F X N T hk hd hu hpre hret
  obtain ⟨⟨hB1, hB2⟩, hf1, hf2⟩ := hpre
  walk_at "M go"
  refine hret _ _ _ ⟨_, rfl⟩ (by assumption) (by walk_at "M news")
set_option maxRecDepth 100000 in
set_option maxHeartbeats 8000000 in
theorem rk_mul_ct (x y B : Int) (o t u v z : Tok) : CT 213 4 [.str (PySem.Str.ofString "*") o, .int x t, .int y u, .int B v, .int 9 z] (Bt B ∧ Ft (x * y) B ∧ 0 ≤ x ∧ x ≤ 65536) (fun r => ∃ t, r = .int (x * y) t) := by
  intro prog w p loose mean mg mb dp un gd cn cs a ccd cl outer A₀ base h₀ L m news s Q E hB F X N T hk hd hu hpre hret
  obtain ⟨⟨hB1, hB2⟩, ⟨hf1, hf2⟩, ha1, ha2⟩ := hpre
  walk_at "M go"
  refine hret _ _ _ ⟨_, rfl⟩ (by assumption) (by walk_at "M news")
set_option maxRecDepth 100000 in
set_option maxHeartbeats 8000000 in
theorem rk_half_ct (x B : Int) (o t u v z : Tok) : CT 213 4 [.str (PySem.Str.ofString "\\") o, .int x t, .int 2 u, .int B v, .int 9 z] (Bt B ∧ Ft x B ∧ 0 ≤ x) (fun r => ∃ t, r = .int (x / 2) t) := by
  intro prog w p loose mean mg mb dp un gd cn cs a ccd cl outer A₀ base h₀ L m news s Q E hB F X N T hk hd hu hpre hret
  obtain ⟨⟨hB1, hB2⟩, ⟨hf1, hf2⟩, ha1⟩ := hpre
  have hP := pw_lo hB1
  walk_at "M go"
  refine hret _ _ _ ⟨_, rfl⟩ (by assumption) (by walk_at "M news")
set_option maxRecDepth 100000 in
set_option maxHeartbeats 8000000 in
theorem inverted_ct (x B : Int) (t v : Tok) : CT 220 3 [.int x t, .int B v] (Bt B ∧ Ft x B) (fun r => ∃ t, r = .int (-1 - x) t) := by
  intro prog w p loose mean mg mb dp un gd cn cs a ccd cl outer A₀ base h₀ L m news s Q E hB F X N T hk hd hu hpre hret
  obtain ⟨⟨hB1, hB2⟩, hf1, hf2⟩ := hpre
  walk_at "M go"
  refine hret _ _ _ ⟨_, rfl⟩ (by assumption) (by walk_at "M news")
set_option maxRecDepth 100000 in
set_option maxHeartbeats 8000000 in
theorem lg_and_ct (x y B : Int) (o t u v : Tok) : CT 227 3 [.str (PySem.Str.ofString "AND") o, .int x t, .int y u, .int B v] (Bt B ∧ Ft x B ∧ Ft y B) (fun r => ∃ t, r = .int (Builtin.bitAnd x y) t) := by
  intro prog w p loose mean mg mb dp un gd cn cs a ccd cl outer A₀ base h₀ L m news s Q E hB F X N T hk hd hu hpre hret
  obtain ⟨⟨hB1, hB2⟩, ⟨hf1, hf2⟩, hg1, hg2⟩ := hpre
  walk_at "M go"
  refine hret _ _ _ ⟨_, rfl⟩ (by assumption) (by walk_at "M news")
set_option maxRecDepth 100000 in
set_option maxHeartbeats 8000000 in
theorem lg_or_ct (x y B : Int) (o t u v : Tok) : CT 227 3 [.str (PySem.Str.ofString "OR") o, .int x t, .int y u, .int B v] (Bt B ∧ Ft x B ∧ Ft y B) (fun r => ∃ t, r = .int (Builtin.bitOr x y) t) := by
  intro prog w p loose mean mg mb dp un gd cn cs a ccd cl outer A₀ base h₀ L m news s Q E hB F X N T hk hd hu hpre hret
  obtain ⟨⟨hB1, hB2⟩, ⟨hf1, hf2⟩, hg1, hg2⟩ := hpre
  walk_at "M go"
  refine hret _ _ _ ⟨_, rfl⟩ (by assumption) (by walk_at "M news")
set_option maxRecDepth 100000 in
set_option maxHeartbeats 8000000 in
theorem lg_xor_ct (x y B : Int) (o t u v : Tok) : CT 227 3 [.str (PySem.Str.ofString "XOR") o, .int x t, .int y u, .int B v] (Bt B ∧ Ft x B ∧ Ft y B) (fun r => ∃ t, r = .int (Builtin.bitXor x y) t) := by
  intro prog w p loose mean mg mb dp un gd cn cs a ccd cl outer A₀ base h₀ L m news s Q E hB F X N T hk hd hu hpre hret
  obtain ⟨⟨hB1, hB2⟩, ⟨hf1, hf2⟩, hg1, hg2⟩ := hpre
  walk_at "M go"
  refine hret _ _ _ ⟨_, rfl⟩ (by assumption) (by walk_at "M news")
set_option maxRecDepth 100000 in
set_option maxHeartbeats 8000000 in
theorem lg_eqv_ct (x y B : Int) (o t u v : Tok) : CT 227 3 [.str (PySem.Str.ofString "EQV") o, .int x t, .int y u, .int B v] (Bt B ∧ Ft x B ∧ Ft y B) (fun r => ∃ t, r = .int (-1 - Builtin.bitXor x y) t) := by
  intro prog w p loose mean mg mb dp un gd cn cs a ccd cl outer A₀ base h₀ L m news s Q E hB F X N T hk hd hu hpre hret
  obtain ⟨⟨hB1, hB2⟩, ⟨hf1, hf2⟩, hg1, hg2⟩ := hpre
  walk_at "M go"
  refine hret _ _ _ ⟨_, rfl⟩ (by assumption) (by walk_at "M news")
set_option maxRecDepth 100000 in
set_option maxHeartbeats 8000000 in
theorem lg_imp_ct (x y B : Int) (o t u v : Tok) : CT 227 3 [.str (PySem.Str.ofString "IMP") o, .int x t, .int y u, .int B v] (Bt B ∧ Ft x B ∧ Ft y B) (fun r => ∃ t, r = .int (Builtin.bitOr (-1 - x) y) t) := by
  intro prog w p loose mean mg mb dp un gd cn cs a ccd cl outer A₀ base h₀ L m news s Q E hB F X N T hk hd hu hpre hret
  obtain ⟨⟨hB1, hB2⟩, ⟨hf1, hf2⟩, hg1, hg2⟩ := hpre
  walk_at "M go"
  refine hret _ _ _ ⟨_, rfl⟩ (by assumption) (by walk_at "M news")
-- mac2
-- my own pruning: a condition that plain facts decide
local macro_rules | `(tactic| walk_at "ite") => `(tactic| (k_here; k_openite; k_dflt (first
  | (refine ite_pos (by (try simp only [decide_eq_true_eq, decide_eq_false_iff_not, bne_iff_ne, beq_iff_eq, ne_eq, Bool.not_eq_true', Bool.not_eq_true, bne_eq_false_iff_eq]); first | assumption | (law_purse 4000 => omega)) ?_; walk_say "MINE+")
  | (refine ite_neg (by (try simp only [decide_eq_true_eq, decide_eq_false_iff_not, bne_iff_ne, beq_iff_eq, ne_eq, Bool.not_eq_true', Bool.not_eq_true, bne_eq_false_iff_eq, Decidable.not_not]); first | assumption | (law_purse 4000 => omega)) ?_; walk_say "MINE-"))))
-- "M news": the ledger at the call stands in the ledger at the end
local macro_rules | `(tactic| walk_at "M news") => `(tactic| exact cb_drop (by assumption) (by intro _ hm; simp only [List.mem_cons, List.mem_append, hm, true_or, or_true])) -- M news2
-- use1
local macro_rules | `(tactic| walk_at "call ref") => `(tactic| (k_here; k_dflt (refine' ct_use (rk_add_ct _ _ _ _ _ _ _ _) ?k1 ?k2 ?k3 ?k4 ?k5 ?kK ?kd ?ku ?kp ?_; walk_at "M use")))
local macro_rules | `(tactic| walk_at "call ref") => `(tactic| (k_here; k_dflt (refine' ct_use (rk_sub_ct _ _ _ _ _ _ _ _) ?k1 ?k2 ?k3 ?k4 ?k5 ?kK ?kd ?ku ?kp ?_; walk_at "M use")))
local macro_rules | `(tactic| walk_at "call ref") => `(tactic| (k_here; k_dflt (refine' ct_use (rk_mul_ct _ _ _ _ _ _ _ _) ?k1 ?k2 ?k3 ?k4 ?k5 ?kK ?kd ?ku ?kp ?_; walk_at "M use")))
local macro_rules | `(tactic| walk_at "call ref") => `(tactic| (k_here; k_dflt (refine' ct_use (rk_half_ct _ _ _ _ _ _ _) ?k1 ?k2 ?k3 ?k4 ?k5 ?kK ?kd ?ku ?kp ?_; walk_at "M use")))
local macro_rules | `(tactic| walk_at "call ref") => `(tactic| (k_here; k_dflt (refine' ct_use (inverted_ct _ _ _ _) ?k1 ?k2 ?k3 ?k4 ?k5 ?kK ?kd ?ku ?kp ?_; walk_at "M use")))
local macro_rules | `(tactic| walk_at "call ref") => `(tactic| (k_here; k_dflt (refine' ct_use (lg_and_ct _ _ _ _ _ _ _) ?k1 ?k2 ?k3 ?k4 ?k5 ?kK ?kd ?ku ?kp ?_; walk_at "M use")))
local macro_rules | `(tactic| walk_at "call ref") => `(tactic| (k_here; k_dflt (refine' ct_use (lg_or_ct _ _ _ _ _ _ _) ?k1 ?k2 ?k3 ?k4 ?k5 ?kK ?kd ?ku ?kp ?_; walk_at "M use")))
local macro_rules | `(tactic| walk_at "call ref") => `(tactic| (k_here; k_dflt (refine' ct_use (lg_xor_ct _ _ _ _ _ _ _) ?k1 ?k2 ?k3 ?k4 ?k5 ?kK ?kd ?ku ?kp ?_; walk_at "M use")))
local macro_rules | `(tactic| walk_at "call ref") => `(tactic| (k_here; k_dflt (refine' ct_use (lg_eqv_ct _ _ _ _ _ _ _) ?k1 ?k2 ?k3 ?k4 ?k5 ?kK ?kd ?ku ?kp ?_; walk_at "M use")))
local macro_rules | `(tactic| walk_at "call ref") => `(tactic| (k_here; k_dflt (refine' ct_use (lg_imp_ct _ _ _ _ _ _ _) ?k1 ?k2 ?k3 ?k4 ?k5 ?kK ?kd ?ku ?kp ?_; walk_at "M use")))
-- s1
local macro_rules | `(tactic| kst_p) => `(tactic| ((try dsimp only); first
  | exact sums_start (by assumption) (by assumption) (by assumption) (by assumption)
  | exact sums_step (by assumption) (by omega) ⟨by assumption, by assumption, by assumption, by assumption, by assumption, by assumption, by assumption, by assumption, by assumption, by assumption, by assumption⟩))
local macro_rules | `(tactic| walk_at "exec While BoolOp cons nil") => `(tactic| k_while_given ["a", "b", "bits"] (fun a b B _ x y k => SumsP (a + b) B x y k) (fun _ _ B _ _ _ k => (B - k).toNat) "x" "y" "turn")
set_option maxRecDepth 100000 in
set_option maxHeartbeats 8000000 in
theorem sums_ct (x y B : Int) (t u v : Tok) : CT 241 5 [.int x t, .int y u, .int B v] (Bt B ∧ 0 ≤ x ∧ 0 ≤ y ∧ x + y < 2 ^ (B - 1).toNat) (fun r => r = .bool true) := by
  intro prog w p loose mean mg mb dp un gd cn cs a ccd cl outer A₀ base h₀ L m news s Q E hB F X N T hk hd hu hpre hret
  obtain ⟨⟨hB1, hB2⟩, hx, hy, hS⟩ := hpre
  have hP := pw_lo hB1
  have hP2 := pw_hi hB2
  walk_at "M go"
  all_goals (refine hret _ _ _ (congrArg _ (beq_iff_eq.mpr (by omega))) (by assumption) (by walk_at "M news"))
-- n1
set_option maxRecDepth 100000 in
set_option maxHeartbeats 600000 in
theorem turned_ct (x B : Int) (t v : Tok) : CT 260 5 [.int x t, .int B v] (Bt B ∧ 0 ≤ x ∧ x < 2 ^ (B - 1).toNat) (fun r => ∃ t, r = .int (turned x) t) := by
  intro prog w p loose mean mg mb dp un gd cn cs a ccd cl outer A₀ base h₀ L m news s Q E hB F X N T hk hd hu hpre hret
  obtain ⟨⟨hB1, hB2⟩, hx, hS⟩ := hpre
  have hP := pw_lo hB1
  walk_at "M go"
  refine hret _ _ _ ⟨_, rfl⟩ (by assumption) (by walk_at "M news")
-- use3
local macro_rules | `(tactic| walk_at "call ref") => `(tactic| (k_here; k_dflt (refine' ct_use (turned_ct _ _ _ _) ?k1 ?k2 ?k3 ?k4 ?k5 ?kK ?kd ?ku ?kp ?_; walk_at "M use")))
-- n2
local macro_rules | `(tactic| kst_p) => `(tactic| k_dflt ((try dsimp only); (try simp only [List.length_append, List.length_cons, List.length_nil, Nat.zero_add]); first
  | exact nb_start (by assumption) (by assumption)
  | exact nb_step (by assumption) (by assumption) ⟨by assumption, by assumption, by assumption, by assumption, by assumption, by assumption⟩
  | fail "no end"))
set_option maxRecDepth 100000 in
set_option maxHeartbeats 600000 in
theorem neighbours_ct (x B : Int) (t v : Tok) : CT 267 6 [.int x t, .int B v] (Bt B ∧ 0 ≤ x ∧ x + 1 < 2 ^ (B - 1).toNat) (fun r => r = .bool true) := by
  intro prog w p loose mean mg mb dp un gd cn cs a ccd cl outer A₀ base h₀ L m news s Q E hB F X N T hk hd hu hpre hret
  obtain ⟨⟨hB1, hB2⟩, hx, hS⟩ := hpre
  have hP := pw_lo hB1
  have hP2 := pw_hi hB2
  have hx1 : 0 ≤ x + 1 := by omega
  have hS1 : x < 2 ^ (B - 1).toNat := by omega
  obtain ⟨ht1, ht2⟩ := turned_fit hx hS1
  obtain ⟨hu1, hu2⟩ := turned_fit hx1 hS
  obtain ⟨ha1, ha2⟩ := apart_good hx
  have ha3 := x_fit (B - 1).toNat (turned x) (turned (x + 1)) (by omega) ht2 (by omega) hu2
  obtain ⟨ha4, ha5⟩ := ha3
  dsimp only [bX, bA] at ha4 ha5
  k_with_none
  k_with "pyIter ref" => k_state_given ["number", "bits"] (fun n B pre back left => NbP n B pre.length back left) "back" "left"
  walk_at "M go"
  all_goals (
    rename (_ : Int) = ((x.toNat ^^^ _ : Nat) : Int) => hb
    rename (_ : Int) = ((x.toNat / _ ^^^ _ : Nat) : Int) => hl)
  all_goals (
    obtain ⟨e1, e2⟩ := nb_end (B := B) hx hS1 (by rw [rangeKs_length]; omega) ⟨by assumption, by assumption, by assumption, by assumption, hb, hl⟩
    refine hret _ _ _ (congrArg _ (beq_iff_eq.mpr (by omega))) (by assumption) (by walk_at "M news"))
-- g1
set_option maxRecDepth 100000 in
set_option maxHeartbeats 1000000 in
theorem signs_ct (x y B : Int) (t u v : Tok) : CT 274 6 [.int x t, .int y u, .int B v] (Bt B ∧ Ft x B ∧ Ft y B) (fun r => r = .bool true) := by
  intro prog w p loose mean mg mb dp un gd cn cs a ccd cl outer A₀ base h₀ L m news s Q E hB F X N T hk hd hu hpre hret
  obtain ⟨⟨hB1, hB2⟩, ⟨hf1, hf2⟩, hg1, hg2⟩ := hpre
  have hP := pw_lo hB1
  have hP2 := pw_hi hB2
  obtain ⟨ha1, ha2⟩ : -2 ^ (B - 1).toNat ≤ Builtin.bitAnd x y ∧ Builtin.bitAnd x y < 2 ^ (B - 1).toNat := a_fit (B - 1).toNat x y hf1 hf2 hg1 hg2
  obtain ⟨hx1, hx2⟩ : -2 ^ (B - 1).toNat ≤ Builtin.bitXor x y ∧ Builtin.bitXor x y < 2 ^ (B - 1).toNat := x_fit (B - 1).toNat x y hf1 hf2 hg1 hg2
  have e1 : Builtin.bitXor x y = x + y - 2 * Builtin.bitAnd x y := x_eq x y
  have e2 : Builtin.bitOr x y = x + y - Builtin.bitAnd x y := o_eq x y
  have e3 : Builtin.bitAnd (-1 - x) y = y - Builtin.bitAnd x y := a_inv x y
  have e4 : Builtin.bitOr (-1 - x) (-1 - y) = -1 - Builtin.bitAnd x y := o_inv x y
  k_with_none
  walk_at "M go"
  all_goals (refine hret _ _ _ (congrArg _ (beq_iff_eq.mpr (by first | rfl | omega))) (by assumption) (by walk_at "M news"))
-- r1
local macro_rules | `(tactic| kst_p) => `(tactic| k_dflt ((try dsimp only); (try simp only [List.length_append, List.length_cons, List.length_nil, Nat.zero_add]); first
  | exact pr_start (by assumption) (by assumption) (by assumption) (by assumption)
  | exact pr_step (by assumption) (by assumption) (by assumption) (by assumption) (by assumption) (by omega) (by omega) (by omega)
  | fail "no end"))
set_option maxRecDepth 100000 in
set_option maxHeartbeats 1000000 in
theorem products_ct (x y B : Int) (t u v : Tok) : CT 248 5 [.int x t, .int y u, .int B v] (Bt B ∧ 0 ≤ x ∧ x < 2 ^ (B - 1).toNat ∧ 0 ≤ y ∧ 2 * y < 2 ^ (B - 1).toNat ∧ 2 * (x * y) < 2 ^ (B - 1).toNat) (fun r => r = .bool true) := by
  intro prog w p loose mean mg mb dp un gd cn cs a ccd cl outer A₀ base h₀ L m news s Q E hB F X N T hk hd hu hpre hret
  obtain ⟨⟨hB1, hB2⟩, hx, hx2, hy, hy2, hxy⟩ := hpre
  have hP := pw_lo hB1
  have hP2 := pw_hi hB2
  k_with_none
  k_with "pyIter ref" => k_state_given ["a", "b", "bits"] (fun a b B pre p x y => PrP a b B pre.length p x y) "p" "x" "y"
  walk_at "M go"
  all_goals first
    | (refine hret _ _ _ (congrArg _ (beq_iff_eq.mpr (by omega))) (by assumption) (by walk_at "M news"))
    | exact (pr_end (a := x) (B := B) (by assumption) (by assumption) hx2 (by rw [rangeKs_length]; omega) (by assumption)).elim
-- t1
abbrev jarO (c : Addr) (n : Int) (t : Tok) (k : Nat) : Obj := listOf [Value.ref c, Value.int n t].toArray k
section
variable {prog : Program} {w : World} {A : Around} {E : Value → Shared → Prop} {s : Shared} {h₀ : Heap} {L : Addr} {m : Str → Option Value}
theorem jar_set {j c : Addr} {n n' : Int} {t t' tk : Tok} {k : Nat} {news news' : List (Addr × Obj)} {Q : Unit → Shared → Prop} (F : Fr h₀ L s.heap m) (N : News h₀ L s.heap news) (U : Upd j (jarO c n t k) (jarO c n' t' k) news news')
    (h : ∀ h', Fr h₀ L h' m → News h₀ L h' news' → Q () { s with heap := h' }) : wpAny (model prog w) A (setItem (.ref j) (.int 1 tk) (.int n' t')) Q E s := by
  obtain ⟨pre, post, rfl, rfl, a, b⟩ := U.split
  have z := N (j, jarO c n t k) (List.mem_append.mpr (.inr (.head _)))
  refine ki_setAt z.1 (by decide) (by decide) (by simp) (h _ (F.change (Heap.SameBut.update ..) z.2.1 z.2.2) (ki_turn _ N a b ?_ ?_))
  · rfl
  · rfl
end
local macro_rules | `(tactic| walk_at "setItem ref int") => `(tactic| (k_here; (with_reducible show wpAny _ _ (setItem (Value.ref _) (Value.int 1 _) (Value.int _ _)) _ _ _); k_dflt (refine' jar_set ?k1 ?k2 ?k3 ?_; (case k1 => k_asm); (case k2 => k_asm); (case k3 => ((rename (∀ _ : Tok, Upd _ _ _ _ _) => hU9); exact hU9 _)); k_whole); intro h' F' N'; (try k_sweep)))
local macro_rules | `(tactic| walk_at "call builtin:len") => `(tactic| (k_here; (with_reducible show wpAny _ _ (call (Value.builtin "len") [Value.ref _]) _ _ _); k_dflt (refine' kst_len ?k1 ?k2 ?k3 ?k4 ?_; (case k1 => k_asm); (case k2 => ((rename (∀ _ : Tok, (_ : Addr × Obj) ∈ _) => hm9); exact hm9 _)); (case k3 => exact IntsAre.length (by assumption)); (case k4 => omega); k_whole)))
local macro_rules | `(tactic| walk_at "subscriptTail Name Name ref int") => `(tactic| (k_here; (with_reducible show wpAny _ _ (subscriptTail _ _ (Value.ref _) (Value.int _ _)) _ _ _); k_dflt (refine' ksa_sub ?k1 ?k2 ?k3 ?k4 ?k5 ?k6 ?_ ?k7; (case k1 => k_asm); (case k2 => ((rename (∀ _ : Tok, (_ : Addr × Obj) ∈ _) => hm9); exact hm9 _)); (case k3 => assumption); (case k4 => assumption); (case k5 => assumption); (case k6 => omega); (case k7 => with_unfolding_all rfl); k_whole); intro _))
set_option maxRecDepth 100000 in
set_option maxHeartbeats 1000000 in
theorem take_ct (j c : Addr) (n below : Int) (t u : Tok) (k k2 : Nat) (vs : List Value) (ns : List Int) (nw : Tok → List (Addr × Obj))
    (prog : Program) (w : World) (p : Program) (loose : List Str) (mean : ExcName → Option Value) (mg mb : Str → Option Value) (dp un : Nat) (gd : Option (List Code)) (cn : Str) (cs : Scope) (a : Addr) (ccd : Value) (cl : List (Str × Addr)) (outer : List Env) (A₀ : Around) (base h₀ : Heap) (L : Addr) (m : Str → Option Value) (news : List (Addr × Obj)) (s : Shared) (Q E : Value → Shared → Prop)
    (hB : Below A₀ base outer h₀) (F : Fr h₀ L s.heap m) (X : (hd.heap_39 w.params).In h₀) (N : News h₀ L s.heap news) (T : Top p loose mean mg mb h₀) (hk : cs.kind = .function) (hd : dp + 1 < recursionLimit) (hu : un + 8 * 1 < cLine)
    (hj : (j, jarO c n t k) ∈ news) (hc : (c, listOf vs.toArray k2) ∈ news) (hi : IntsAre vs ns) (hn : ns.length ≤ 20) (h0 : 0 ≤ n) (h1 : n ≤ 1000) (hb : 0 < below)
    (hU : ∀ t' : Tok, Upd j (jarO c n t k) (jarO c (n + 1) t' k) news (nw t')) (hc' : ∀ t' : Tok, (c, listOf vs.toArray k2) ∈ nw t')
    (hret : ∀ v t2 t' h' tk', 0 ≤ v → v < below → Fr h₀ L h' m → News h₀ L h' (nw t') → Q (.int v t2) { s with heap := h', toks := tk' }) :
    wpAny (model prog w) (ktrTop dp un gd cn cs L a ccd cl outer) (call (.ref 234) [.ref j, .int below u]) Q E s := by
  walk_at "M go"
  all_goals exact hret _ _ _ _ _ (fmod_lo _ hb) (fmod_hi _ hb) (by assumption) (by assumption)

theorem upd_mk {d : Addr} {o o' : Obj} {post : List (Addr × Obj)} (hq : ∀ p ∈ post, p.1 ≠ d) : ∀ {pre : List (Addr × Obj)}, (∀ p ∈ pre, p.1 ≠ d) → Upd d o o' (pre ++ (d, o) :: post) (pre ++ (d, o') :: post)
  | [], _ => .head hq
  | q :: r, h => .tail (h q (.head _)) (upd_mk hq fun p hp => h p (.tail _ hp))
theorem upd_fun {d : Addr} {o o' : Obj} {l l1 l2 : List (Addr × Obj)} (h1 : Upd d o o' l l1) : Upd d o o' l l2 → l1 = l2 := by
  induction h1 generalizing l2 with
  | head h =>
    intro h2
    cases h2 with
    | head _ => rfl
    | tail hp _ => exact absurd rfl hp
  | tail hp _ ih =>
    intro h2
    cases h2 with
    | head _ => exact absurd rfl hp
    | tail _ hr => rw [ih hr]
theorem take_use {j c : Addr} {n below : Int} {t u : Tok} {k k2 : Nat} {vs : List Value} {ns : List Int}
    {prog : Program} {w : World} {p : Program} {loose : List Str} {mean : ExcName → Option Value} {mg mb : Str → Option Value} {dp un : Nat} {gd : Option (List Code)} {cn : Str} {cs : Scope} {a : Addr} {ccd : Value} {cl : List (Str × Addr)} {outer : List Env} {A₀ : Around} {base h₀ : Heap} {L : Addr} {m : Str → Option Value} {news news0 : List (Addr × Obj)} {s : Shared} {Q E : Value → Shared → Prop}
    (hB : Below A₀ base outer h₀) (F : Fr h₀ L s.heap m) (X : (hd.heap_39 w.params).In h₀) (N : News h₀ L s.heap news) (T : Top p loose mean mg mb h₀) (hk : cs.kind = .function) (hd : dp + 1 < recursionLimit) (hu : un + 8 * 1 < cLine)
    (hU : Upd j (jarO c n t k) (jarO c n t k) news news0) (hc : (c, listOf vs.toArray k2) ∈ news) (hne : c ≠ j) (hi : IntsAre vs ns) (hn : ns.length ≤ 20) (h0 : 0 ≤ n) (h1 : n ≤ 1000) (hb : 0 < below)
    (hret : ∀ v t2 t' h' tk', 0 ≤ v → v < below → Fr h₀ L h' m → (∀ news', Upd j (jarO c n t k) (jarO c (n + 1) t' k) news news' → News h₀ L h' news') → Q (.int v t2) { s with heap := h', toks := tk' }) :
    wpAny (model prog w) (ktrTop dp un gd cn cs L a ccd cl outer) (call (.ref 234) [.ref j, .int below u]) Q E s := by
  obtain ⟨pre, post, rfl, _, hp, hq⟩ := hU.split
  refine take_ct j c n below t u k k2 vs ns (fun t' => pre ++ (j, jarO c (n + 1) t' k) :: post) prog w p loose mean mg mb dp un gd cn cs a ccd cl outer A₀ base h₀ L m _ s Q E hB F X N T hk hd hu
    (List.mem_append.mpr (.inr (.head _))) hc hi hn h0 h1 hb (fun t' => upd_mk hq hp) (fun t' => ?_) (fun v t2 t' h' tk' hv0 hv1 F' N' => ?_)
  · rcases List.mem_append.mp hc with h | h
    · exact List.mem_append.mpr (.inl h)
    · rcases List.mem_cons.mp h with h | h
      · exact absurd (congrArg Prod.fst h) hne
      · exact List.mem_append.mpr (.inr (.tail _ h))
  · refine hret v t2 t' h' tk' hv0 hv1 F' fun news' U' => ?_
    rw [← upd_fun (upd_mk hq hp) U']
    exact N'
-- q2
section
open PySem.Calls
variable {prog : Program} {w : World} {A : Around} {E : Value → Shared → Prop} {s : Shared} {env : Env} {h₀ : Heap} {target : Expr} {body : List Stmt} {Q : Flow → Shared → Prop}
/-- the end of a turn -/
def TurnEnd (h₀ : Heap) (L : Addr) (J : (Str → Option Value) → List (Addr × Obj) → Prop) (I : Addr) (oI : Obj) (s : Shared) (f : Flow) (s₂ : Shared) : Prop :=
  f = .next ∧ ∃ h' tk m' news', s₂ = { s with heap := h', toks := tk } ∧ Fr h₀ L h' m' ∧ News h₀ L h' ((I, oI) :: news') ∧ (∀ p ∈ news', p.1 ≠ I) ∧ J m' news'
/-- a for over a list of ints that the call has made, whatever its target is -/
theorem list_turns {l : Addr} {vs : List Value} {ns : List Int} {nn : Nat} {m₀ : Str → Option Value} {news : List (Addr × Obj)} (J : Nat → (Str → Option Value) → List (Addr × Obj) → Prop)
    (hh : A.handled = none) (hl : (l, listOf vs.toArray nn) ∈ news) (hi : IntsAre vs ns) (F : Fr h₀ env.locals s.heap m₀) (N : News h₀ env.locals s.heap news) (hj : J 0 m₀ news)
    (hJ : ∀ i m nx, J i m nx → (l, listOf vs.toArray nn) ∈ nx)
    (turn : ∀ i n t m₁ news₁ h tk I oI, ns[i]? = some n → (∀ p ∈ news, p.1 < I) → J i m₁ news₁ → (∀ p ∈ news₁, p.1 ≠ I) → Fr h₀ env.locals h m₁ → News h₀ env.locals h ((I, oI) :: news₁) →
      wpAny (model prog w) A (assign target env (.int n t)) (fun _ s₃ => wpAny (model prog w) A (execs body env) (TurnEnd h₀ env.locals (J (i + 1)) I oI { s with heap := h, toks := tk }) E s₃) E { s with heap := h, toks := tk })
    (done : ∀ m₁ news₁ h tk, J ns.length m₁ news₁ → Fr h₀ env.locals h m₁ → News h₀ env.locals h news₁ → Q .next { s with heap := h, toks := tk }) :
    wpAny (model prog w) A (pyIter (.ref l)) (fun it s₂ => TurnsAt prog w A h₀ env target body Q E it s₂) E s := by
  have hol : s.heap.get? l = some (listOf vs.toArray nn) := (N _ hl).1
  have hls : s.heap.IsList l vs.toArray := ⟨_, hol, rfl, nn, rfl⟩
  have hne : l ≠ s.heap.objs.size := Nat.ne_of_lt (Heap.lt_size hol)
  refine wpAny_pyIter_list hls ?_
  have W := Walks.list (prog := prog) (w := w) hh s.heap.objs.size l hne vs.toArray
  have hlen : vs.toArray.size = ns.length := by simp [hi.length]
  rw [hlen] at W
  have hI₀ : h₀.get? s.heap.objs.size = none := next_is_new F
  refine ⟨_, _, _, ns.length, _, _, _, m₀, news, (fun i m nx => (∀ p ∈ nx, p.1 ≠ s.heap.objs.size) ∧ J i m nx), rfl, KTurns.ofWalks W (fun i v s' Q' E' st hQ' => letGo_listiter st.1 hQ'), ?_, ?_, ?_,
    ⟨⟨_, Heap.get?_push_size _ rfl, rfl, rfl⟩, hls.at fun o e => Heap.get?_push_of_some _ e⟩, F.push _, (fun p hp => ⟨Heap.get?_push_of_some _ (N p hp).1, (N p hp).2⟩), ⟨?_, hj⟩, ?_, ?_⟩
  · intro hm
    rcases List.mem_cons.mp hm with e | hm
    · exact absurd F.ns.lt (e ▸ Nat.lt_irrefl _)
    · exact (N _ hl).2.1 ((List.mem_singleton.mp hm).symm)
  · intro b hb
    rw [List.mem_singleton.mp hb]
    exact hI₀
  · intro p hp hI
    exact absurd (Heap.lt_size (N p hp).1) ((List.mem_singleton.mp hI) ▸ Nat.lt_irrefl _)
  · intro p hp e
    exact absurd (Heap.lt_size (N p hp).1) (e ▸ Nat.lt_irrefl _)
  · rintro i v m₁ news₁ hh' tk' own hin hP ⟨hoffI, hJ₁⟩ hoff hown hget hfp st F₁ N₁
    obtain ⟨oI, heI⟩ : ∃ o, hh'.get? s.heap.objs.size = some o := by
      obtain ⟨o, e, _⟩ := st.1
      exact ⟨o, e⟩
    have hIown : (s.heap.objs.size, oI) ∈ own := hfp _ (List.mem_cons_self ..) hI₀ _ heI
    have hlt' : i < ns.length := hin
    obtain ⟨t, hx⟩ := hi.get i ns[i] (by simp [hlt'])
    have hv : v = .int ns[i] t := by
      have hP' : vs[i]? = some v := by simpa using hP
      rw [hx] at hP'; exact (Option.some.inj hP').symm
    subst hv
    have N₂ : News h₀ env.locals hh' ((s.heap.objs.size, oI) :: news₁) := fun p hp => by
      rcases List.mem_cons.mp hp with rfl | h
      · exact N₁ _ (List.mem_append.mpr (.inl hIown))
      · exact N₁ _ (List.mem_append.mpr (.inr h))
    have hl₁ := hJ i m₁ news₁ hJ₁
    have hlo : hh'.get? l = some (listOf vs.toArray nn) := (N₁ _ (List.mem_append.mpr (.inr hl₁))).1
    refine wpAny_mono (turn i ns[i] t m₁ news₁ hh' tk' s.heap.objs.size oI (by simp [hlt']) (fun p hp => Heap.lt_size (N p hp).1) hJ₁ hoffI F₁ N₂) (fun _ s₃ p => wpAny_mono p (fun f s₂ q => ?_) fun _ _ e => e) fun _ _ e => e
    obtain ⟨rfl, h', tk, m', news', e, F', N', hn, hj'⟩ := q
    refine ⟨rfl, h', tk, m', news', e, F', fun p hp => ?_, fun p hp hI => hn p hp (List.mem_singleton.mp hI), hn, hj'⟩
    rcases List.mem_append.mp hp with h | h
    · have h2 : hh'.get? p.1 = some p.2 := hget p h
      rcases List.mem_cons.mp (hown p h) with h1 | h1
      · rw [h1, heI] at h2
        have h3 : p = (s.heap.objs.size, oI) := Prod.ext h1 (Option.some.inj h2).symm
        rw [h3]
        exact N' _ (List.mem_cons_self ..)
      · have h1 := List.mem_singleton.mp h1
        rw [h1, hlo] at h2
        have h3 : p = (l, listOf vs.toArray nn) := Prod.ext h1 (Option.some.inj h2).symm
        rw [h3]
        exact N' _ (List.mem_cons_of_mem _ (hJ _ _ _ hj'))
    · exact N' _ (List.mem_cons_of_mem _ h)
  · intro h' tk m' news' F' N' _ hj'
    exact done m' news' h' tk hj'.2 F' N'
end
-- q3
abbrev mP (W : Int) (t : Tok) (Dd : Addr) (mB : Str → Option Value) : Str → Option Value := fun y => if y = Str.ofString "whole" then some (Value.int W t) else if y = Str.ofString "due" then some (Value.ref Dd) else mB y
section
open PySem.Calls
variable {prog : Program} {w : World} {A : Around} {E : Value → Shared → Prop} {s : Shared} {env : Env} {h₀ : Heap} {target : Expr} {body : List Stmt} {Q : Flow → Shared → Prop}
def PTurn (h₀ : Heap) (L : Addr) (mB : Str → Option Value) (P : Int → List Int → Prop) (I : Addr) (oI : Obj) (csp l : Addr) (ol : Obj) (news : List (Addr × Obj)) (s : Shared) (f : Flow) (s₂ : Shared) : Prop :=
  f = .next ∧ ∃ h' tk W t Dd us kk due oc v, s₂ = { s with heap := h', toks := tk } ∧ Fr h₀ L h' (mP W t Dd mB) ∧ News h₀ L h' ((I, oI) :: (Dd, listOf us kk) :: (csp, oc) :: (l, ol) :: news) ∧
    (Dd ≠ I ∧ Dd ≠ csp ∧ Dd ≠ l) ∧ oc.data = .cell v ∧ IntsAre us.toList due ∧ P W due
theorem parts_turns {l csp D₀ : Addr} {vs : List Value} {ns : List Int} {nn k₀ : Nat} {mB : Str → Option Value} {news : List (Addr × Obj)} {W₀ : Int} {t₀ : Tok} {us₀ : Array Value} {due₀ : List Int} {oc₀ : Obj} {v₀ : Option Value} (P : Nat → Int → List Int → Prop)
    (hh : A.handled = none) (hi : IntsAre vs ns) (F : Fr h₀ env.locals s.heap (mP W₀ t₀ D₀ mB)) (N : News h₀ env.locals s.heap ((D₀, listOf us₀ k₀) :: (csp, oc₀) :: (l, listOf vs.toArray nn) :: news))
    (hd : D₀ ≠ csp ∧ D₀ ≠ l) (ho : oc₀.data = .cell v₀) (hu : IntsAre us₀.toList due₀) (hp : P 0 W₀ due₀) (hcl : csp ≠ l) (hn : ∀ p ∈ news, p.1 < csp)
    (turn : ∀ i n t W tW Dd us kk due oc v I oI h tk, ns[i]? = some n → P i W due → IntsAre us.toList due → oc.data = .cell v → (@LT.lt Nat _ csp I ∧ @LT.lt Nat _ l I ∧ @Ne Nat Dd I ∧ @Ne Nat Dd csp ∧ @Ne Nat Dd l) →
      Fr h₀ env.locals h (mP W tW Dd mB) → News h₀ env.locals h ((I, oI) :: (Dd, listOf us kk) :: (csp, oc) :: (l, listOf vs.toArray nn) :: news) →
      wpAny (model prog w) A (assign target env (.int n t)) (fun _ s₃ => wpAny (model prog w) A (execs body env) (PTurn h₀ env.locals mB (P (i + 1)) I oI csp l (listOf vs.toArray nn) news { s with heap := h, toks := tk }) E s₃) E { s with heap := h, toks := tk })
    (done : ∀ W t Dd us kk due oc v h tk, P ns.length W due → IntsAre us.toList due → oc.data = .cell v → (Dd ≠ csp ∧ Dd ≠ l) → Fr h₀ env.locals h (mP W t Dd mB) → News h₀ env.locals h ((Dd, listOf us kk) :: (csp, oc) :: (l, listOf vs.toArray nn) :: news) → Q .next { s with heap := h, toks := tk }) :
    wpAny (model prog w) A (pyIter (.ref l)) (fun it s₂ => TurnsAt prog w A h₀ env target body Q E it s₂) E s := by
  refine list_turns (fun i m nx => ∃ W t Dd us kk due oc v, m = mP W t Dd mB ∧ nx = (Dd, listOf us kk) :: (csp, oc) :: (l, listOf vs.toArray nn) :: news ∧ (Dd ≠ csp ∧ Dd ≠ l) ∧ oc.data = .cell v ∧ IntsAre us.toList due ∧ P i W due)
    hh (.tail _ (.tail _ (.head _))) hi F N ⟨W₀, t₀, D₀, us₀, k₀, due₀, oc₀, v₀, rfl, rfl, hd, ho, hu, hp⟩ ?_ ?_ ?_
  · rintro i m nx ⟨W, t, Dd, us, kk, due, oc, v, _, rfl, _⟩
    exact .tail _ (.tail _ (.head _))
  · rintro i n t m₁ news₁ h tk I oI hin hlt ⟨W, tW, Dd, us, kk, due, oc, v, rfl, rfl, hd', ho', hu', hp'⟩ hne F₁ N₁
    have hI1 : csp < I := hlt _ (.tail _ (.head _))
    have hI2 : l < I := hlt _ (.tail _ (.tail _ (.head _)))
    have hI3 : Dd ≠ I := hne _ (.head _)
    refine wpAny_mono (turn i n t W tW Dd us kk due oc v I oI h tk hin hp' hu' ho' ⟨hI1, hI2, hI3, hd'.1, hd'.2⟩ F₁ N₁) (fun _ s₃ p => wpAny_mono p (fun f s₂ q => ?_) fun _ _ e => e) fun _ _ e => e
    obtain ⟨rfl, h', tk', W', t', Dd', us', kk', due', oc', v', e, F', N', hd9, ho9, hu9, hp9⟩ := q
    refine ⟨rfl, h', tk', _, _, e, F', N', ?_, W', t', Dd', us', kk', due', oc', v', rfl, rfl, hd9.2, ho9, hu9, hp9⟩
    intro p hp
    rcases List.mem_cons.mp hp with rfl | hp
    · exact hd9.1
    rcases List.mem_cons.mp hp with rfl | hp
    · exact Nat.ne_of_lt hI1
    rcases List.mem_cons.mp hp with rfl | hp
    · exact Nat.ne_of_lt hI2
    · exact Nat.ne_of_lt (Nat.lt_trans (hn p hp) hI1)
  · rintro m₁ news₁ h tk ⟨W, t, Dd, us, kk, due, oc, v, rfl, rfl, hd', ho', hu', hp'⟩ F₁ N₁
    exact done W t Dd us kk due oc v h tk hp' hu' ho' hd' F₁ N₁
theorem fr_cast {L : Addr} {h : Heap} {m m' : Str → Option Value} (F : Fr h₀ L h m) (e : m = m') : Fr h₀ L h m' := e ▸ F
end
/-- what the first loop keeps of the spots -/
def SpP (B : Int) (ns : List Int) (i : Nat) (W : Int) (due : List Int) : Prop :=
  Due W due ∧ 0 ≤ W ∧ W < 2 ^ (B - 1).toNat ∧ (∀ v ∈ ns.drop i, W < 2 ^ (v.toNat + 1)) ∧ due.length ≤ 2 ^ i
theorem sp_start {B : Int} {ns : List Int} : SpP B ns 0 0 [0] :=
  ⟨Due.start, Int.le_refl 0, kbt_pos _, fun _ _ => kbt_pos _, Nat.le_refl 1⟩
theorem sp_at {B : Int} {ns : List Int} {i : Nat} {n W : Int} {due : List Int} (h : SpP B ns i W due) (hn : ns[i]? = some n) : 0 ≤ W ∧ W < 2 ^ (B - 1).toNat ∧ W < 2 ^ (n.toNat + 1) ∧ due.length ≤ 2 ^ i := by
  obtain ⟨_, h0, h1, h2, h3⟩ := h
  refine ⟨h0, h1, h2 n ?_, h3⟩
  rw [List.drop_eq_getElem_cons (List.getElem?_eq_some_iff.mp hn).1]
  rw [(List.getElem?_eq_some_iff.mp hn).2]
  exact List.mem_cons_self
theorem sp_tail {ns : List Int} {i : Nat} {n : Int} (ho : ns.Pairwise (· ≤ ·)) (hn : ns[i]? = some n) : ∀ v ∈ ns.drop (i + 1), v ∈ ns.drop i ∧ n ≤ v := by
  obtain ⟨hlt, e⟩ := List.getElem?_eq_some_iff.mp hn
  have hd := List.drop_eq_getElem_cons hlt
  rw [e] at hd
  have hp : (ns.drop i).Pairwise (· ≤ ·) := ho.sublist (List.drop_sublist i ns)
  rw [hd] at hp
  intro v hv
  rw [hd]
  exact ⟨List.mem_cons_of_mem _ hv, (List.pairwise_cons.mp hp).1 v hv⟩
theorem sp_keep {B : Int} {ns : List Int} {i : Nat} {n W : Int} {due : List Int} (ho : ns.Pairwise (· ≤ ·)) (h : SpP B ns i W due) (hn : ns[i]? = some n) : SpP B ns (i + 1) W due := by
  obtain ⟨hd, h0, h1, h2, h3⟩ := h
  exact ⟨hd, h0, h1, fun v hv => h2 v (sp_tail ho hn v hv).1, Nat.le_trans h3 (Nat.pow_le_pow_right (by decide) (Nat.le_succ i))⟩
theorem sp_more {B : Int} {ns : List Int} {i : Nat} {n W : Int} {due : List Int} (ho : ns.Pairwise (· ≤ ·)) (h : SpP B ns i W due) (hn : ns[i]? = some n) (hn0 : 0 ≤ n) (hn1 : n < B - 1) (hb : (W.fdiv (2 ^ n.toNat)).fmod 2 = 0) :
    SpP B ns (i + 1) (W + 2 ^ n.toNat) (due ++ due.map fun x => x + 2 ^ n.toNat) := by
  obtain ⟨a0, a1, a2, a3⟩ := sp_at h hn
  obtain ⟨hd, h0, h1, h2, h3⟩ := h
  have hp := kbt_pos n.toNat
  have hf := bit_free a0 a2 hb
  have hq : (2 : Int) ^ (n.toNat + 1) = 2 ^ n.toNat * 2 := Int.pow_succ 2 _
  refine ⟨hd.step a0 hf, by omega, ?_, fun v hv => ?_, ?_⟩
  · have hm := pwm (show n.toNat + 1 ≤ (B - 1).toNat by omega)
    omega
  · have hv' := (sp_tail ho hn v hv).2
    have hm := pwm (show n.toNat + 1 ≤ v.toNat + 1 by omega)
    omega
  · rw [List.length_append, List.length_map, Nat.pow_succ]
    omega
theorem news_four {h₀ h : Heap} {L a b c d : Addr} {oa ob oc od : Obj} {news : List (Addr × Obj)} (N : News h₀ L h ((a, oa) :: (b, ob) :: (c, oc) :: (d, od) :: news)) : News h₀ L h ((c, oc) :: (d, od) :: (a, oa) :: news) := by
  refine cb_drop N fun p hp => ?_
  rcases List.mem_cons.mp hp with rfl | hp
  · exact .tail _ (.tail _ (.head _))
  rcases List.mem_cons.mp hp with rfl | hp
  · exact .tail _ (.tail _ (.tail _ (.head _)))
  rcases List.mem_cons.mp hp with rfl | hp
  · exact .head _
  · exact .tail _ (.tail _ (.tail _ (.tail _ hp)))
theorem lt_step {news : List (Addr × Obj)} {a : Addr} (h : ∀ p ∈ news, p.1 < a) : ∀ p ∈ news, p.1 < a + 1 := fun p hp => Nat.lt_succ_of_lt (h p hp)
theorem mP_eq {W' W : Int} {t' t : Tok} {D' Dd : Addr} {mB : Str → Option Value} : (fun y => if y = Str.ofString "whole" then some (Value.int W' t') else if y = Str.ofString "due" then some (Value.ref D') else mP W t Dd mB y) = mP W' t' D' mB := by
  funext y
  show (if y = Str.ofString "whole" then some (Value.int W' t') else if y = Str.ofString "due" then some (Value.ref D') else if y = Str.ofString "whole" then some (Value.int W t) else if y = Str.ofString "due" then some (Value.ref Dd) else mB y) = if y = Str.ofString "whole" then some (Value.int W' t') else if y = Str.ofString "due" then some (Value.ref D') else mB y
  by_cases h1 : y = Str.ofString "whole"
  · rw [if_pos h1, if_pos h1]
  · by_cases h2 : y = Str.ofString "due"
    · rw [if_neg h1, if_pos h2, if_neg h1, if_pos h2]
    · rw [if_neg h1, if_neg h2, if_neg h1, if_neg h2, if_neg h1, if_neg h2]
theorem news_pick {h₀ h : Heap} {L a b c d : Addr} {oa ob oc od : Obj} {news l : List (Addr × Obj)} (N : News h₀ L h l) (h1 : (a, oa) ∈ l) (h2 : (b, ob) ∈ l) (h3 : (c, oc) ∈ l) (h4 : (d, od) ∈ l) (h5 : ∀ p ∈ news, p ∈ l) : News h₀ L h ((a, oa) :: (b, ob) :: (c, oc) :: (d, od) :: news) := by
  refine cb_drop N fun p hp => ?_
  rcases List.mem_cons.mp hp with rfl | hp
  · exact h1
  rcases List.mem_cons.mp hp with rfl | hp
  · exact h2
  rcases List.mem_cons.mp hp with rfl | hp
  · exact h3
  rcases List.mem_cons.mp hp with rfl | hp
  · exact h4
  · exact h5 p hp
-- stop
local macro_rules | `(tactic| walk_at "M steps") => `(tactic| repeat' (first | ((fail_if_success (with_reducible show wpAny _ _ (exec (Stmt.While _ _ _ _) _) _ _ _)); (fail_if_success (with_reducible show wpAny _ _ (exec (Stmt.For _ _ _ _ _) _) _ _ _)); (fail_if_success (with_reducible show KswEnd _ _ _ _ _ _ _ _ _ _ _ _)); (fail_if_success (with_reducible show InvEndN _ _ _ _ _ _ _)); (first | (k_unfold; (try dsimp only)) | (k_end; wrow_close) | walk1 | (dsimp only; walk1))) | fail "no step"))
local macro_rules | `(tactic| walk_at "M go2") => `(tactic| (
  refine wpAny_call ?_
  k_dflt cell_enter
  walk_at "M steps"))
-- q1
local macro_rules | `(tactic| kst_p) => `(tactic| k_dflt ((try dsimp only); (try simp only [List.length_append, List.length_cons, List.length_nil, Nat.zero_add]); first
  | exact fd_start (by assumption)
  | exact fd_step (by assumption) (by assumption) (by assumption) (by omega)
  | fail "no end"))
local macro_rules | `(tactic| walk_at "compareOp Eq ref ref") => `(tactic| (k_here; (with_reducible show wpAny _ _ (compareOp CmpOp.Eq (Value.ref _) (Value.ref _)) _ _ _); k_dflt (refine' eq_intsK (kso_isList (by assumption) (by k_mem) rfl) ?k1 (kso_isList (by assumption) (by k_mem) rfl) ?k2 ?k3 ?_; (case k1 => assumption); (case k2 => assumption); (case k3 => ktr_units); k_whole)))
local macro_rules | `(tactic| walk_at "M enterC") => `(tactic| (refine' code_defC ?k1 ?k2 ?k3 ?k4 ?k5 ?kA ?kF ?kK ?k6 ?k7 ?k8 ?k9 ?kB ?kD ?_ ?c2 ?c3 ?c4; (case kA => exact rfl); (case kF => exact rfl); (case kK => assumption); (case k1 => k_asm); (case k2 => k_asm); (case k3 => k_asm); (case k4 => k_asm); (case k5 => k_asm); (case k6 => k_is); (case k7 => k_is); (case k8 => ktr_room); (case k9 => exact BindsTo.of_eq rfl); (case kB => exact rfl); (case kD => decide +kernel); (case c2 => exact rfl); (case c3 => exact rfl); (case c4 => exact rfl); k_whole; intro g' L' h' tk' cells' FG' F' N' Y' B' X' T' l1; k_cells Y'; (try simp only [List.cons_append, List.nil_append] at N'); (try dsimp only); (try k_lift B'); (try k_fold)))
set_option maxRecDepth 100000 in
set_option maxHeartbeats 1000000 in
theorem parts_ct {D : Addr} {k : Nat} {vs : List Value} {ns : List Int} {B : Int} {u : Tok}
    {prog : Program} {w : World} {p : Program} {loose : List Str} {mean : ExcName → Option Value} {mg mb : Str → Option Value} {dp un : Nat} {gd : Option (List Code)} {cn : Str} {cs : Scope} {a : Addr} {ccd : Value} {cl : List (Str × Addr)} {outer : List Env} {A₀ : Around} {base h₀ : Heap} {L : Addr} {m : Str → Option Value} {news : List (Addr × Obj)} {s : Shared} {Q E : Value → Shared → Prop}
    (hB : Below A₀ base outer h₀) (F : Fr h₀ L s.heap m) (X : (hd.heap_39 w.params).In h₀) (N : News h₀ L s.heap news) (T : Top p loose mean mg mb h₀) (hk : cs.kind = .function) (hd : dp + 6 < recursionLimit) (hu : un + 8 * 20 < cLine)
    (hm : (D, listOf vs.toArray k) ∈ news) (hi : IntsAre vs ns) (hl : ns.length = 4) (hr : ∀ v ∈ ns, 0 ≤ v ∧ v < B - 1) (hB1 : Bt B)
    (hret : ∀ r h' tk', r = .bool true → Fr h₀ L h' m → News h₀ L h' news → Q r { s with heap := h', toks := tk' }) :
    wpAny (model prog w) (ktrTop dp un gd cn cs L a ccd cl outer) (call (.ref 253) [.ref D, .int B u]) Q E s := by
  refine wpAny_call ?_
  k_dflt (walk_at "M enterC")
  walk_at "M steps"
  refine For_turns (by assumption) ?_
  k_steps
  refine kso_sorted (by assumption) (by assumption) (kso_isList (by assumption) (.tail _ (.tail _ (.tail _ hm))) (by simp)) hi (by omega) ?_
  intro S ss os cS h1 F1 N1 l1 i1 e1 p1 o1 b1
  clear b1
  k_sweep
  have hos : ∀ v ∈ os, 0 ≤ v ∧ v < B - 1 := fun v hv => hr v (p1.mem_iff.mp hv)
  have hol : os.length = 4 := by omega
  k_lt l1
  have kM := kstMark
  refine parts_turns (SpP B os) (by rfl) i1 F1 (news_four N1) ?_ (by assumption) (IntsAre.cons _ _ IntsAre.nil) sp_start ?_ ?_ ?_ ?_
  · exact ⟨by refine neN ?_; omega, by refine neN ?_; omega⟩
  · refine neN ?_; omega
  · rename (∀ p ∈ news, p.1 < _) => hln
    exact lt_step hln
  · clear F1 N1
    intro i n t W tW Dd us kk due oc v I oI h tk hin hsp hiu hoc hord F2 N2
    obtain ⟨us, rfl⟩ : ∃ l, us = List.toArray l := ⟨us.toList, by simp⟩
    simp only [List.toList_toArray] at hiu
    obtain ⟨g1, g2, g3, g4⟩ := sp_at hsp hin
    obtain ⟨g5, g6⟩ := hos n (List.mem_of_getElem? hin)
    obtain ⟨q1, q2, q3, q4, q5⟩ := hord
    have hi4 : i < 4 := by have := (List.getElem?_eq_some_iff.mp hin).1; omega
    have hdl : due.length ≤ 8 := Nat.le_trans g4 (Nat.pow_le_pow_right (n := 2) (by decide) (show i ≤ 3 by omega))
    rename (∀ p ∈ news, p.1 < _) => hln
    have hln2 := lt_step hln
    try k_fold
    k_steps
    · rename Fr _ _ _ _ => Fx
      rename News _ _ _ _ => Nx
      rename (IntsAre _ (due ++ _)) => hIx
      refine ⟨rfl, _, _, W + 2 ^ n.toNat, _, _, _, _, due ++ due.map fun x => x + 2 ^ n.toNat, _, _, rfl, fr_cast Fx mP_eq, news_pick Nx (by k_mem) (by k_mem) (by k_mem) (by k_mem) (by intro p hp; repeat (first | exact hp | refine List.Mem.tail _ ?_)), ?_, by assumption, by simpa only [List.toList_toArray] using hIx, sp_more o1 hsp hin g5 g6 (by assumption)⟩
      exact ⟨by refine neN ?_; omega, by refine neN ?_; omega, by refine neN ?_; omega⟩
    · rename Fr _ _ _ _ => Fx
      rename News _ _ _ _ => Nx
      refine ⟨rfl, _, _, W, _, _, _, _, due, _, _, rfl, Fx, news_pick Nx (by k_mem) (by k_mem) (by k_mem) (by k_mem) (by intro p hp; repeat (first | exact hp | refine List.Mem.tail _ ?_)), ⟨q3, q4, q5⟩, by assumption, by simpa only [List.toList_toArray] using hiu, sp_keep o1 hsp hin⟩
  · clear F1 N1
    intro W tW Dd us kk due oc v h tk hsp hiu hoc hord F2 N2
    obtain ⟨us, rfl⟩ : ∃ l, us = List.toArray l := ⟨us.toList, by simp⟩
    simp only [List.toList_toArray] at hiu
    obtain ⟨hdue, hW0, hW1, _, hdl⟩ := hsp
    rw [hol] at hdl
    dsimp only
    try k_fold
    k_with_none
    k_with "pyIter ref" => k_state_given ["due", "whole", "bits"] (fun due W B pre part found => FdP W due pre.length part found) "part" "found"
    k_steps
    all_goals obtain ⟨y1, y2⟩ := fd_end (due := due) (by assumption) (by assumption) (by rw [rangeKs_length]; omega)
    all_goals exact hret _ _ _ (congrArg _ (by first | exact decide_eq_true y2 | exact beq_iff_eq.mpr y1)) (by assumption) (by walk_at "M news")
-- use4
local macro_rules | `(tactic| walk_at "M all2") => `(tactic| first | exact List.forall_mem_nil _ | (refine' List.forall_mem_cons.mpr ⟨?a, ?b⟩; (case a => k_ne); (case b => walk_at "M all2")))
local macro_rules | `(tactic| walk_at "M upd") => `(tactic| first | (refine' Upd.head ?a; (case a => walk_at "M all2")) | (refine' Upd.tail ?a ?b; (case a => k_ne); (case b => walk_at "M upd")))
local macro_rules | `(tactic| walk_at "call ref") => `(tactic| (k_here; k_dflt (refine' ct_use (sums_ct _ _ _ _ _ _) ?k1 ?k2 ?k3 ?k4 ?k5 ?kK ?kd ?ku ?kp ?_; walk_at "M use")))
local macro_rules | `(tactic| walk_at "call ref") => `(tactic| (k_here; k_dflt (refine' ct_use (products_ct _ _ _ _ _ _) ?k1 ?k2 ?k3 ?k4 ?k5 ?kK ?kd ?ku ?kp ?_; walk_at "M use")))
local macro_rules | `(tactic| walk_at "call ref") => `(tactic| (k_here; k_dflt (refine' ct_use (neighbours_ct _ _ _ _) ?k1 ?k2 ?k3 ?k4 ?k5 ?kK ?kd ?ku ?kp ?_; walk_at "M use")))
local macro_rules | `(tactic| walk_at "call ref") => `(tactic| (k_here; k_dflt (refine' ct_use (signs_ct _ _ _ _ _ _) ?k1 ?k2 ?k3 ?k4 ?k5 ?kK ?kd ?ku ?kp ?_; walk_at "M use")))
local macro_rules | `(tactic| walk_at "call ref") => `(tactic| (k_here; k_dflt (
  refine' take_use ?k1 ?k2 ?k3 ?k4 ?k5 ?kK ?kd ?ku ?kU ?kc ?kne ?ki ?kn ?k0 ?kl ?kb ?_
  (case k1 => k_asm)
  (case k2 => k_asm)
  (case k3 => k_asm)
  (case k4 => k_asm)
  (case k5 => k_asm)
  (case kK => first | exact rfl | assumption)
  (case kd => ktr_room)
  (case ku => ktr_units)
  (case kU => walk_at "M upd")
  (case kc => k_mem)
  (case kne => walk_at "M ne")
  (case ki => l_ints)
  (case kn => walk_at "M len")
  (case k0 => omega)
  (case kl => omega)
  (case kb => walk_at "M pos")
  (intro v9 t8 t9 h9 tk9 hv0 hv1 F9 hN9; (have N9 := hN9 _ (by walk_at "M upd")); clear hN9; (try dsimp only); (try k_sweep); (try k_fold)))))
local macro_rules | `(tactic| walk_at "M ne") => `(tactic| k_ne)
local macro_rules | `(tactic| walk_at "M len") => `(tactic| exact List.length_take_le _ _)
local macro_rules | `(tactic| walk_at "M pos") => `(tactic| first | omega | exact kbt_pos _)
local macro_rules | `(tactic| walk_at "M ask") => `(tactic| ((repeat' (refine And.intro ?_ ?_)); all_goals (first | assumption | omega | exact prod_fit (by omega) (by assumption) (by assumption) (by assumption) (by assumption))))
-- use5
local macro_rules | `(tactic| walk_at "CompSrc") => `(tactic| (k_here; k_dflt (refine LCg.CompSrc.range (by rfl) (by k_asm) (by k_asm) (by assumption) (by first | decide | rfl) (by first | rfl | decide) (by exact Nat.le_of_ble_eq_true rfl) ?_; intro g'; lcg_lit)))
local macro_rules | `(tactic| walk_at "call ref") => `(tactic| (k_here; k_dflt (
  refine' parts_ct ?k1 ?k2 ?k3 ?k4 ?k5 ?kK ?kd ?ku ?km ?ki ?kl ?kr ?kb ?_
  (case k1 => k_asm)
  (case k2 => k_asm)
  (case k3 => k_asm)
  (case k4 => k_asm)
  (case k5 => k_asm)
  (case kK => first | exact rfl | assumption)
  (case kd => ktr_room)
  (case ku => ktr_units)
  (case km => k_mem)
  (case ki => l_ints)
  (case kl => rfl)
  (case kr => walk_at "M all")
  (case kb => walk_at "M ask")
  (intro r9 h9 tk9 hr9 F9 N9; subst hr9; (try dsimp only); (try k_fold)))))
local macro_rules | `(tactic| walk_at "M all") => `(tactic| (simp only [List.forall_mem_cons, List.forall_mem_nil, and_true, List.not_mem_nil, false_implies, implies_true]; (repeat' (refine And.intro ?_ ?_)); all_goals (first | assumption | omega)))
-- law
set_option maxRecDepth 100000 in
set_option maxHeartbeats 2000000 in
theorem law_holds : PySem.Challenge.rw_tk0006_01.Holds := hd (by
  k_go0
  all_goals (try k_fold)
  k_with_none
  repeat' (first | ((fail_if_success (with_reducible show wpAny _ _ (exec (Stmt.If _ _ _ _) _) _ _ _)); (first | (k_unfold; (try dsimp only)) | walk1 | (dsimp only; walk1))) | fail "no step")
  rename (_ : Int) < 9 => hv1
  rename 0 ≤ (_ : Int) => hv0
  obtain ⟨f1, f2, f3, f4⟩ := law_facts hv0 hv1
  k_steps)
end Mine
set_option maxRecDepth 100000 in
set_option maxHeartbeats 8000000 in
theorem PySem.Challenge.cw_tk0006_01_holds : PySem.Challenge.rw_tk0006_01.Holds :=
  Mine.law_holds
