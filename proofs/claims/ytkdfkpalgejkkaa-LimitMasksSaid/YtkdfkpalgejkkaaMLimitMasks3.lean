/- Part 3 of 3. The statement LimitMasks holds: the mask of a point has its class, and that of each deviation less than one part of the scale away; for every input, under no condition. -/
import Derived.Test.YtkdfkpalgejkkaaMLimitMasks2
import Derived.WalkMore
import Derived.Laws.EntriesVeiled
import Derived.Deep.DeepCutAuto
import Derived.Deep.LoopGhost
import Derived.ChangeSame
import Derived.ChangeShapes
import Derived.WideShapes
import Derived.Test.YtkdfkpalgejkkaaRows
import Derived.WalkKit
import Derived.ProofKit
import Derived.OpenShut
import Derived.ShutString
import Derived.ChangeOld
import Derived.Below
import Derived.SizedLaws
/-
  GIVEN, C: divide.Div by closed numbers.
-/
set_option linter.unusedSimpArgs false
namespace Go.Proofs.Ytkdfkpalgejkkaa
open Go.RowKit Go.Shelf Go.Proofs.YtkdfkpalgejkkaaW.PrintWords Go.Proofs.YtkdfkpalgejkkaaW.PrintMore

theorem wide_Less.f_eq {a b : Int} : wide_Less.f (hiW a) (loW a) (hiW b) (loW b) = some (decide (a < b)) := by
  unfold wide_Less.f; rw [if_pos ⟨word_loW a, word_loW b⟩, ofW_hiW_loW, ofW_hiW_loW]
theorem wide_Sub.f_eq {a b : Int} (ha : Wide a) (hb : Wide b) : wide_Sub.f (hiW a) (loW a) (hiW b) (loW b) = some (hiW ((a - b) % 340282366920938463463374607431768211456), loW ((a - b) % 340282366920938463463374607431768211456), decide (a < b)) := by
  unfold wide_Sub.f; rw [if_pos ⟨⟨word_hiW ha, word_loW a⟩, word_hiW hb, word_loW b⟩, ofW_hiW_loW, ofW_hiW_loW]
theorem wide_Add.f_eq {a b : Int} (ha : Wide a) (hb : Wide b) : wide_Add.f (hiW a) (loW a) (hiW b) (loW b) = some (hiW ((a + b) % 340282366920938463463374607431768211456), loW ((a + b) % 340282366920938463463374607431768211456), decide (340282366920938463463374607431768211456 ≤ a + b)) := by
  unfold wide_Add.f; rw [if_pos ⟨⟨word_hiW ha, word_loW a⟩, word_hiW hb, word_loW b⟩, ofW_hiW_loW, ofW_hiW_loW]
theorem wide_Times.f_eq {a b : Int} (ha : Wide a) (hb : Wide b) : wide_Times.f (hiW a) (loW a) (hiW b) (loW b) = some (hiW ((a * b) % 340282366920938463463374607431768211456), loW ((a * b) % 340282366920938463463374607431768211456), decide (340282366920938463463374607431768211456 ≤ a * b)) := by
  unfold wide_Times.f; rw [if_pos ⟨⟨word_hiW ha, word_loW a⟩, word_hiW hb, word_loW b⟩, ofW_hiW_loW, ofW_hiW_loW]

theorem div_loop {b : Int} {t : Nat} (hb : Wide b) (hb0 : 0 < b) (ht : t ≤ 63) (hbt : hiW b * 2 ^ t < 18446744073709551616) :
    ∀ (n k : Nat) (cur q m : Int), n ≤ t + 1 → Wide cur → 0 ≤ m → q = m * 2 ^ n → q + 2 ^ n ≤ 18446744073709551616 → cur < b * 2 ^ n →
    Pc.divide_Div.l0 (k + n + 1) ((n : Int) - 1) (hiW cur) (loW cur) (hiW b) (loW b) 0 q = some (0, q + cur / b, hiW (cur % b), loW (cur % b), 0)
  | 0, k, cur, q, m, _, hc, _, _, _, hlt => by
    simp only [Pc.divide_Div.l0]
    rw [if_neg (by omega)]
    have hlt : cur < b := by simpa using hlt
    rw [Int.ediv_eq_zero_of_lt hc.1 hlt, Int.emod_eq_of_lt hc.1 hlt, Int.add_zero]
  | n + 1, k, cur, q, m, hn, hc, hm, hq, hq2, hlt => by
    have hp : (0 : Int) < 2 ^ n := Int.pow_pos (by omega)
    have hs : (2 : Int) ^ (n + 1) = 2 ^ n * 2 := Int.pow_succ 2 n
    have hbh := word_hiW hb
    -- what is shifted fits
    have hfit : hiW b * 2 ^ n + 2 ^ n ≤ 18446744073709551616 := by
      have p2 : (0 : Int) < 2 ^ (t - n) := Int.pow_pos (by omega)
      have p3 : (2 : Int) ^ t = 2 ^ n * 2 ^ (t - n) := by rw [← Int.pow_add]; congr 1; omega
      have p4 : (2 : Int) ^ (64 - t) * 2 ^ t = 18446744073709551616 := by rw [← Int.pow_add, show 64 - t + t = 64 by omega]; rfl
      have p5 : hiW b < 2 ^ (64 - t) := by
        refine Int.lt_of_mul_lt_mul_right (a := 2 ^ t) ?_ (Int.le_of_lt (Int.pow_pos (by omega)))
        rw [p4]; exact hbt
      have p6 : (hiW b + 1) * 2 ^ n ≤ 2 ^ (64 - t) * 2 ^ n := Int.mul_le_mul_of_nonneg_right (by omega) (by omega)
      have p7 : (2 : Int) ^ (64 - t) * 2 ^ n ≤ 2 ^ (64 - t) * 2 ^ t := by
        refine Int.mul_le_mul_of_nonneg_left ?_ (Int.le_of_lt (Int.pow_pos (by omega)))
        rw [p3]
        have := Int.mul_le_mul_of_nonneg_left (show 1 ≤ (2 : Int) ^ (t - n) by omega) (show (0 : Int) ≤ 2 ^ n by omega)
        omega
      rw [Int.add_mul, Int.one_mul] at p6
      omega
    have hd : Wide (b * 2 ^ n) := by
      refine ⟨Int.mul_nonneg (by omega) (by omega), ?_⟩
      have e : b * 2 ^ n = hiW b * 2 ^ n * 18446744073709551616 + loW b * 2 ^ n := by
        have := ofW_hiW_loW b
        unfold ofW at this
        rw [show b * 2 ^ n = (hiW b * 18446744073709551616 + loW b) * 2 ^ n by rw [this]]
        grind
      have l1 : loW b * 2 ^ n ≤ 18446744073709551615 * 2 ^ n := Int.mul_le_mul_of_nonneg_right (by have := (word_loW b).2; omega) (by omega)
      omega
    have hw : wrap64 ((n : Int) - 1) = (n : Int) - 1 := by unfold wrap64; omega
    show Pc.divide_Div.l0 (k + n + 1 + 1) ((n + 1 : Nat) - 1 : Int) _ _ _ _ _ _ = _
    rw [show (((n + 1 : Nat) : Int) - 1) = (n : Int) by omega]
    simp only [Pc.divide_Div.l0]
    rw [if_pos (by omega)]
    have hsh : divide_shifted.f (hiW b) (loW b) (n : Int) = some (hiW (b * 2 ^ n), loW (b * 2 ^ n)) := by
      unfold divide_shifted.f
      rw [Int.toNat_natCast, if_pos ⟨hbh.1, word_loW b, by omega, hfit⟩, ofW_hiW_loW]
    rw [hsh]
    simp only [Option.bind_some]
    rw [wide_Less.f_eq]
    simp only [Option.bind_some]
    by_cases hl : cur < b * 2 ^ n
    · rw [if_pos (decide_eq_true hl), hw]
      exact div_loop hb hb0 ht hbt n k cur q (m * 2) (by omega) hc (by omega) (by rw [hq, hs]; grind) (by omega) hl
    · rw [if_neg (by simpa using hl), wide_Sub.f_eq hc hd]
      simp only [Option.bind_some]
      have hw2 : (cur - b * 2 ^ n) % 340282366920938463463374607431768211456 = cur - b * 2 ^ n := by unfold Wide at hc; have := hd.1; omega
      have hor : Go.bits .or .u64 q (shl .u64 1 (n : Int)) = q + 2 ^ n := by
        rw [shl64 (by omega), Int.one_mul, Int.emod_eq_of_lt (by omega) (by have := Int.mul_nonneg hm (show (0 : Int) ≤ 2 ^ (n + 1) by omega); omega), hq]
        exact or_apart (t := n + 1) (by omega) hm (by omega) (by omega) (by omega)
      rw [if_pos (by omega), hw2, hor, hw]
      refine Eq.trans (div_loop hb hb0 ht hbt n k (cur - b * 2 ^ n) (q + 2 ^ n) (m * 2 + 1) (by omega) ⟨by omega, by have := hd.1; unfold Wide at hc; omega⟩ (by omega) (by rw [hq, hs]; grind) (by omega) (by rw [hs] at hlt; grind)) ?_
      have e1 : (cur - b * 2 ^ n) / b = cur / b - 2 ^ n := by
        rw [show cur - b * 2 ^ n = cur + b * (-(2 ^ n)) by grind, Int.add_mul_ediv_left _ _ (by omega)]; omega
      have e2 : (cur - b * 2 ^ n) % b = cur % b := by
        rw [show cur - b * 2 ^ n = cur + b * (-(2 ^ n)) by grind, Int.add_mul_emod_self_left]
      rw [e1, e2]
      congr 3
      omega

theorem div_f {a b : Int} (ha : Wide a) (hb : Wide b) (hb0 : 0 < b) : Pc.divide_Div.f 70 (hiW a) (loW a) (hiW b) (loW b) = some (hiW (a / b), loW (a / b), hiW (a % b), loW (a % b), 0) := by
  have hah := word_hiW ha
  have hal := word_loW a
  have hbh := word_hiW hb
  have hbl := word_loW b
  have ea := ofW_hiW_loW a
  have eb := ofW_hiW_loW b
  unfold ofW at ea eb
  unfold Pc.divide_Div.f
  have hne : ¬ (hiW b == 0 && (loW b == 0)) = true := by
    intro z
    simp at z
    omega
  rw [if_neg hne]
  by_cases h0 : hiW b = 0
  · rw [if_pos h0]
    have e0 : loW b = b := by omega
    rw [bits_Div64.f_eq (Int.le_refl 0) hah hbl (by omega)]
    simp only [Option.bind_some]
    have e1 : ofW 0 (hiW a) = hiW a := by unfold ofW; omega
    rw [e1, e0]
    have r0 := Int.emod_nonneg (hiW a) (show b ≠ 0 by omega)
    have r1 := Int.emod_lt_of_pos (hiW a) hb0
    have d := Int.mul_ediv_add_emod (hiW a) b
    rw [bits_Div64.f_eq r0 hal (by rwa [e0] at hbl) r1]
    simp only [Option.bind_some]
    have eA : a = ofW (hiW a % b) (loW a) + b * (hiW a / b * 18446744073709551616) := by
      unfold ofW
      have : b * (hiW a / b * 18446744073709551616) = b * (hiW a / b) * 18446744073709551616 := by grind
      omega
    have q : a / b = ofW (hiW a % b) (loW a) / b + hiW a / b * 18446744073709551616 := by
      conv => lhs; rw [eA]
      rw [Int.add_mul_ediv_left _ _ (by omega)]
    have r : a % b = ofW (hiW a % b) (loW a) % b := by
      conv => lhs; rw [eA]
      rw [Int.add_mul_emod_self_left]
    have s0 : 0 ≤ ofW (hiW a % b) (loW a) / b := Int.ediv_nonneg (by unfold ofW; have := hal.1; omega) (by omega)
    have s1 : ofW (hiW a % b) (loW a) / b < 18446744073709551616 := by
      rw [Int.ediv_lt_iff_lt_mul hb0]
      unfold ofW
      have := hal.2
      omega
    have t0 := Int.emod_nonneg a (show b ≠ 0 by omega)
    have t1 := Int.emod_lt_of_pos a hb0
    have hbw := hbl.2
    rw [e0] at hbw
    rw [← r]
    have u1 : hiW (a / b) = hiW a / b := by rw [q]; unfold hiW at *; omega
    have u2 : loW (a / b) = ofW (hiW a % b) (loW a) / b := by rw [q]; unfold loW at *; omega
    rw [u1, u2, hiW_small ⟨t0, by omega⟩, loW_small ⟨t0, by omega⟩]
  · rw [if_neg h0, bits_LeadingZeros64.f_eq hbh]
    simp only [Option.bind_some]
    obtain ⟨t, ht, et, y1, y2⟩ := lift_y hbh (by have := hbh.1; omega)
    rw [et]
    have hp : (0 : Int) < 2 ^ t := Int.pow_pos (by omega)
    have hs : (2 : Int) ^ (t + 1) = 2 ^ t * 2 := Int.pow_succ 2 t
    have h64 : (2 : Int) ^ (t + 1) ≤ 2 ^ 64 := by
      have h := Nat.pow_le_pow_right (n := 2) (by omega) (show t + 1 ≤ 64 by omega)
      have e : ((2 ^ (t + 1) : Nat) : Int) = 2 ^ (t + 1) := by simp
      omega
    have hlt : a < b * 2 ^ (t + 1) := by
      have e : b * 2 ^ (t + 1) = hiW b * 2 ^ t * 36893488147419103232 + loW b * 2 ^ (t + 1) := by
        rw [show b * 2 ^ (t + 1) = (hiW b * 18446744073709551616 + loW b) * 2 ^ (t + 1) by rw [eb], hs]
        grind
      have := Int.mul_nonneg hbl.1 (show (0 : Int) ≤ 2 ^ (t + 1) by omega)
      unfold Wide at ha
      omega
    have hl := div_loop hb hb0 ht y2 (t + 1) (68 - t) a 0 0 (by omega) ha (by omega) (by omega) (by omega) hlt
    rw [show 68 - t + (t + 1) + 1 = 70 by omega, show (((t + 1 : Nat) : Int) - 1) = (t : Int) by omega] at hl
    rw [hl, Int.zero_add]
    have q0 : 0 ≤ a / b := Int.ediv_nonneg ha.1 (by omega)
    have q1 : a / b < 18446744073709551616 := by
      rw [Int.ediv_lt_iff_lt_mul hb0]
      have := hbl.1
      have := hbh.1
      unfold Wide at ha
      omega
    rw [hiW_small ⟨q0, q1⟩, loW_small ⟨q0, q1⟩]

theorem divide_Div_c (a b : Int) (ha : Wide a) (hb : Wide b) (hb0 : 0 < b) (w : World) :
    Calls Try.prog 110 #[wv a, wv b] w fun e w' => e = .returned (.tuple #[wv (a / b), wv (a % b), .int .i64 0]) ∧ Below w.heap.size w w' :=
  (Pc.divide_Div.calls 70 (hiW a) (loW a) (hiW b) (loW b) _ _ _ _ _ w (div_f ha hb hb0)).mono fun _ _ h => h
theorem divide_Div_zero (a : Int) (w : World) :
    Calls Try.prog 110 #[wv a, wv 0] w fun e w' => e = .returned (.tuple #[wv 0, wv 0, .int .i64 4]) ∧ Below w.heap.size w w' :=
  (Pc.divide_Div.calls 70 (hiW a) (loW a) (hiW 0) (loW 0) _ _ _ _ _ w (by unfold Pc.divide_Div.f; rw [if_pos (by decide)]; rfl)).mono fun _ _ h => h
end Go.Proofs.Ytkdfkpalgejkkaa
/-
  span.Right and limit.Verdict.
-/
set_option linter.unusedSimpArgs false
namespace Go.Proofs.Ytkdfkpalgejkkaa
open Go.RowKit Go.Shelf

theorem spanRight_c (a b : Int) (w : World) : Calls Try.prog 56 #[.agg #[.int .i64 a, .int .i64 b]] w fun e w' => e = .returned (.bool (decide (a ≤ b))) ∧ Below w.heap.size w w' := by
  go_enter Try.func56, Try.ntmps56
  go_wp2
  go_ret
  exact ⟨rfl, (Below.refl _ _).alloc (Nat.le_refl _) _⟩

/-- What lines tell of a value. -/
def told (l1 l2 h1 h2 v1 v2 : Int) : Int := if h2 < v1 ∨ v2 < l1 then 1 else if h1 < v2 ∨ v1 < l2 then 2 else 0

set_option maxHeartbeats 1000000 in
set_option maxRecDepth 100000 in
theorem verdict_ok (l1 l2 m1 m2 h1 h2 v1 v2 : Int) (r1 : l1 ≤ l2) (r2 : m1 ≤ m2) (r3 : h1 ≤ h2) (r4 : v1 ≤ v2) (w : World) :
    Calls Try.prog 30 #[.agg #[.int .i64 l1, .int .i64 l2, .int .i64 m1, .int .i64 m2, .int .i64 h1, .int .i64 h2, .int .i64 v1, .int .i64 v2]] w fun e w' => e = .returned (.tuple #[.int .i64 (told l1 l2 h1 h2 v1 v2), .int .i64 0]) ∧ Below w.heap.size w w' := by
  have d1 : decide (l1 ≤ l2) = true := decide_eq_true r1
  have d2 : decide (m1 ≤ m2) = true := decide_eq_true r2
  have d3 : decide (h1 ≤ h2) = true := decide_eq_true r3
  have d4 : decide (v1 ≤ v2) = true := decide_eq_true r4
  have H1 := Lib.hid (fun W => d1 ▸ spanRight_c l1 l2 W)
  have H2 := Lib.hid (fun W => d2 ▸ spanRight_c m1 m2 W)
  have H3 := Lib.hid (fun W => d3 ▸ spanRight_c h1 h2 W)
  have H4 := Lib.hid (fun W => d4 ▸ spanRight_c v1 v2 W)
  clear d1 d2 d3 d4 r1 r2 r3 r4
  have i0 : ∀ W, (Instr.index 98 (.agg #[.int .i64 l1, .int .i64 l2, .int .i64 m1, .int .i64 m2, .int .i64 h1, .int .i64 h2, .int .i64 v1, .int .i64 v2]) (.int .i64 0)).run Try.prog W = .ok (.agg #[.int .i64 l1, .int .i64 l2]) W := fun _ => by kernel_rfl
  have i1 : ∀ W, (Instr.index 98 (.agg #[.int .i64 l1, .int .i64 l2, .int .i64 m1, .int .i64 m2, .int .i64 h1, .int .i64 h2, .int .i64 v1, .int .i64 v2]) (.int .i64 1)).run Try.prog W = .ok (.agg #[.int .i64 m1, .int .i64 m2]) W := fun _ => by kernel_rfl
  have i2 : ∀ W, (Instr.index 98 (.agg #[.int .i64 l1, .int .i64 l2, .int .i64 m1, .int .i64 m2, .int .i64 h1, .int .i64 h2, .int .i64 v1, .int .i64 v2]) (.int .i64 2)).run Try.prog W = .ok (.agg #[.int .i64 h1, .int .i64 h2]) W := fun _ => by kernel_rfl
  have i3 : ∀ W, (Instr.index 98 (.agg #[.int .i64 l1, .int .i64 l2, .int .i64 m1, .int .i64 m2, .int .i64 h1, .int .i64 h2, .int .i64 v1, .int .i64 v2]) (.int .i64 3)).run Try.prog W = .ok (.agg #[.int .i64 v1, .int .i64 v2]) W := fun _ => by kernel_rfl
  go_enter Try.func30, Try.ntmps30
  go_wp2_with fail
  go_step3
  go_wp2_with (first | ((with_reducible refine wp_loop_rounds 5 ?_); rw [rounds_succ]) | rw [rounds_succ])
  refine (H1.out _).mono ?_
  rintro e w1 ⟨rfl, hb⟩
  have hK : Knows w.heap.size w [(⟨w.heap.size, 0, none⟩, .int .i64 l1), (⟨w.heap.size, 1, none⟩, .int .i64 l2), (⟨w.heap.size, 2, none⟩, .int .i64 m1), (⟨w.heap.size, 3, none⟩, .int .i64 m2), (⟨w.heap.size, 4, none⟩, .int .i64 h1), (⟨w.heap.size, 5, none⟩, .int .i64 h2), (⟨w.heap.size, 6, none⟩, .int .i64 v1), (⟨w.heap.size, 7, none⟩, .int .i64 v2)] [] w1 :=
    Knows.call (W := (w.alloc (.cells #[.int .i64 l1, .int .i64 l2, .int .i64 m1, .int .i64 m2, .int .i64 h1, .int .i64 h2, .int .i64 v1, .int .i64 v2] 39)).alloc (.cells #[.int .i64 l1, .int .i64 l2] 23)) ⟨((Below.refl _ _).alloc (Nat.le_refl _) _).alloc (by simp) _, by simp; omega, by simp [Cells, go_sem], trivial⟩ hb
  have HK := Lib.hid hK
  clear hK hb
  go_wp2_with (first | rw [rounds_succ])
  refine (H2.out _).mono ?_
  rintro e w2 ⟨rfl, hb⟩
  have HK2 := Lib.hid ((HK.out.alloc _).call hb)
  clear HK hb
  go_wp2_with (first | rw [rounds_succ])
  refine (H3.out _).mono ?_
  rintro e w3 ⟨rfl, hb⟩
  have HK := Lib.hid ((HK2.out.alloc _).call hb)
  clear HK2 hb
  go_wp2_with (first | rw [rounds_succ])
  refine (H4.out _).mono ?_
  rintro e w4 ⟨rfl, hb⟩
  have HK2 := Lib.hid ((HK.out.alloc _).call hb)
  clear HK hb
  obtain ⟨-, -, ⟨q1, q2, q3, q4, q5, q6, q7, q8, -⟩, -⟩ := HK2.out
  clear H1 H2 H3 H4 i0 i1 i2 i3
  go_wp2_with (first | rw [rounds_succ])
  have HB := Lib.hid HK2.out.1
  clear HK2
  go_step3
  go_wp2_with (first | ((with_reducible refine wp_loop_rounds 5 ?_); rw [rounds_succ]) | rw [rounds_succ])
  all_goals
    rw [Exit.noGoto_ret]
    go_ret2
    exact ⟨by unfold told; (split <;> (try split) <;> first | rfl | (exfalso; omega)), HB.out⟩
def limit_Verdict.f (l1 l2 m1 m2 h1 h2 v1 v2 : Int) : Option (Int × Int) := if l1 ≤ l2 ∧ m1 ≤ m2 ∧ h1 ≤ h2 ∧ v1 ≤ v2 then some (told l1 l2 h1 h2 v1 v2, 0) else none
theorem limit_Verdict.calls (l1 l2 m1 m2 h1 h2 v1 v2 r1 r2 : Int) (w : World) (h : limit_Verdict.f l1 l2 m1 m2 h1 h2 v1 v2 = some (r1, r2)) :
    Calls Try.prog 30 #[.agg #[.int .i64 l1, .int .i64 l2, .int .i64 m1, .int .i64 m2, .int .i64 h1, .int .i64 h2, .int .i64 v1, .int .i64 v2]] w fun e w' => e = .returned (.tuple #[.int .i64 r1, .int .i64 r2]) ∧ Below w.heap.size w w' := by
  unfold limit_Verdict.f at h
  split at h
  · rename_i hw
    simp only [Option.some.injEq, Prod.mk.injEq] at h
    obtain ⟨rfl, rfl⟩ := h
    exact verdict_ok l1 l2 m1 m2 h1 h2 v1 v2 hw.1 hw.2.1 hw.2.2.1 hw.2.2.2 w
  · cases h
end Go.Proofs.Ytkdfkpalgejkkaa
/-
  fix: ints that tell when they are too small for a result.
-/
namespace Go.Proofs.Ytkdfkpalgejkkaa
open Go.RowKit Go.Shelf

theorem ret_int {k : IntKind} {a b : Int} (h : a = b) : Ending.returned (.int k a) = .returned (.int k b) := by rw [h]
theorem neg_word {a : Int} (h1 : -9223372036854775808 ≤ a) (h2 : a < 0) : IntKind.u64.wrap (-IntKind.u64.wrap a) = -a := by
  simp only [IntKind.wrap_u64]; omega
theorem fix_size_c (a : Int) (ha : IsInt a) (w : World) :
    Calls Try.prog 109 #[.int .i64 a] w fun e w' => e = .returned (.int .u64 (absZ a)) ∧ w = w' := by
  have h1 := ha.1
  have h2 := ha.2
  by_cases h : a < 0
  · have e : absZ a = -a := by unfold absZ; rw [if_pos h]
    rw [e]
    clear e
    go_enter Try.func109, Try.ntmps109
    go_wp2
    go_ret
    exact ⟨ret_int (neg_word h1 h), rfl⟩
  · have e : absZ a = a := by unfold absZ; rw [if_neg h]
    rw [e]
    clear e
    go_enter Try.func109, Try.ntmps109
    go_wp2
    go_ret
    exact ⟨rfl, rfl⟩

/-- What gives up. -/
abbrev overChain : List PanicEntry := [{ v := .iface 147 (.agg #[]), recovered := false }]

theorem signed_ok (h l : Int) (b : Bool) (hl : Word l) (hh : h = 0) (hf : l ≤ 9223372036854775807 ∨ (l ≤ 9223372036854775808 ∧ b = true)) (w : World) :
    Calls Try.prog 111 #[.agg #[.int .u64 h, .int .u64 l], .bool b] w fun e w' => e = .returned (.int .i64 (if b then -l else l)) ∧ Below w.heap.size w w' := by
  subst hh
  have l0 := hl.1
  cases b
  · have l1 : l ≤ 9223372036854775807 := by simpa using hf
    clear hf hl
    go_enter Try.func111, Try.ntmps111
    go_wp2
    go_ret
    exact ⟨by simp, (Below.refl _ _).alloc (Nat.le_refl _) _⟩
  · have l1 : l ≤ 9223372036854775808 := by omega
    clear hf hl
    have hn : wrap64 (IntKind.u64.wrap (-l)) = -l := by simp only [IntKind.wrap_u64]; unfold wrap64; omega
    have Hn := Lib.hid hn
    clear hn
    by_cases l2 : l ≤ 9223372036854775807
    · go_enter Try.func111, Try.ntmps111
      go_wp2
      go_ret
      exact ⟨ret_int (by simpa using Hn.out), (Below.refl _ _).alloc (Nat.le_refl _) _⟩
    · have l3 : 9223372036854775807 < l := by omega
      go_enter Try.func111, Try.ntmps111
      go_wp2
      go_ret
      exact ⟨ret_int (by simpa using Hn.out), (Below.refl _ _).alloc (Nat.le_refl _) _⟩
theorem signed_bad (h l : Int) (b : Bool) (hl : Word l) (hh : Word h) (hf : 0 < h ∨ 9223372036854775808 < l ∨ (9223372036854775807 < l ∧ b = false)) (w : World) :
    Calls Try.prog 111 #[.agg #[.int .u64 h, .int .u64 l], .bool b] w fun e w' => e = .panicked overChain ∧ Below w.heap.size w w' := by
  have l0 := hl.1
  have h0 := hh.1
  clear hl hh
  by_cases g1 : 0 < h
  · clear hf
    go_enter Try.func111, Try.ntmps111
    go_wp2
    exact ⟨rfl, rfl, (Below.refl _ _).alloc (Nat.le_refl _) _⟩
  · obtain rfl : h = 0 := by omega
    clear g1
    by_cases g2 : 9223372036854775808 < l
    · clear hf
      go_enter Try.func111, Try.ntmps111
      go_wp2
      exact ⟨rfl, rfl, (Below.refl _ _).alloc (Nat.le_refl _) _⟩
    · obtain ⟨g3, rfl⟩ : 9223372036854775807 < l ∧ b = false := by
        rcases hf with h | h | h
        · omega
        · omega
        · exact h
      have g4 : l ≤ 9223372036854775808 := by omega
      clear hf g2
      go_enter Try.func111, Try.ntmps111
      go_wp2
      exact ⟨rfl, rfl, (Below.refl _ _).alloc (Nat.le_refl _) _⟩

theorem assert_over (v : Value) (W : World) : (Instr.typeAssert (.iface 147 v) 20 147 true).run Try.prog W = .ok (.tuple #[v, .bool true]) W := by kernel_rfl
/-- The deferred recovery: a panic that gives up is told as an error. -/
theorem catch_over (gn ge : Nat) (x y : Int) (older : List PanicEntry) (w : World) (hn : w.cell? ⟨gn, 0, none⟩ = some (.int .i64 x)) (he : w.cell? ⟨ge, 0, none⟩ = some (.int .i64 y)) (zn : w.frozen? ⟨gn, 0, none⟩ = false) (ze : w.frozen? ⟨ge, 0, none⟩ = false) (hne : ¬ gn = ge) :
    CallsD Try.prog 131 #[.pointer (some ⟨gn, 0, none⟩), .pointer (some ⟨ge, 0, none⟩)] (.panicking ({ v := .iface 147 (.agg #[]), recovered := false } :: older)) w fun e u' w' =>
      e = .returned (.tuple #[]) ∧ u' = .panicking ({ v := .iface 147 (.agg #[]), recovered := true } :: older) ∧ w' = ((w.setCell ⟨gn, 0, none⟩ (.int .i64 0)).setCell ⟨ge, 0, none⟩ (.int .i64 5)).alloc (.cells #[] 147) := by
  have ln := World.block_lt_of_cell? w _ hn
  have le := World.block_lt_of_cell? w _ he
  simp only [] at ln le
  have hta := assert_over
  refine callsD_of_wpS Try.func131 rfl fun c₀ cs hu => ?_
  apply wpS_seq
  apply wpS_region
  simp [wpOpsS, go_sem, recoverD, hu, Try.ntmps131, Exit.thenS]
  refine wpS_of_wp ?_
  simp only [Array.replicate_succ, Array.replicate_zero, List.push_toArray, List.append_toArray, List.nil_append, List.cons_append, List.setIfInBounds_toArray, List.set_cons_zero, List.set_cons_succ]
  go_wp2
  simp [bodyPostS, results, Try.results131]
theorem catch_idle (gn ge : Nat) (w : World) :
    CallsD Try.prog 131 #[.pointer (some ⟨gn, 0, none⟩), .pointer (some ⟨ge, 0, none⟩)] .returning w fun e u' w' => e = .returned (.tuple #[]) ∧ u' = .returning ∧ w' = w := by
  refine callsD_of_wpS Try.func131 rfl fun c₀ cs hu => ?_
  apply wpS_seq
  apply wpS_region
  simp [wpOpsS, go_sem, recoverD, hu, Try.ntmps131, Exit.thenS]
  refine wpS_of_wp ?_
  simp only [Array.replicate_succ, Array.replicate_zero, List.push_toArray, List.append_toArray, List.nil_append, List.cons_append, List.setIfInBounds_toArray, List.set_cons_zero, List.set_cons_succ]
  go_wp2
  cases c₀
  simp_all [bodyPostS, results, Try.results131]

set_option maxHeartbeats 1000000 in
theorem try_ret (g : FuncId) (lb : Array Value) (n : Int) (w : World) (eg : ∀ (args : Array Value) (W : World), (callFunc g args).run Try.prog W = .ok (.enter g args) W)
    (hc : ∀ W, Below w.heap.size w W → Calls Try.prog g lb W fun e W' => e = .returned (.int .i64 n) ∧ Below W.heap.size W W') :
    Calls Try.prog 107 #[.func (.func g) #[] lb] w fun e w' => e = .returned (.tuple #[.int .i64 n, .int .i64 0]) ∧ Below w.heap.size w w' := by
  have hmf : ∀ (fn : Fn) (first cap : Array Value) (w : World), (Instr.makeFunc fn first cap).run Try.prog w = .ok (.func fn first cap) w := fun _ _ _ _ => rfl
  have HC := Lib.hid hc
  clear hc
  go_enter_defers Try.func107, Try.ntmps107
  go_wp2_with fail
  refine (HC.out _ (((Below.refl _ _).alloc (Nat.le_refl _) _).alloc (by simp) _)).mono ?_
  rintro e w1 ⟨rfl, hb1⟩
  have hz1 := hb1.size
  simp only [World.size_alloc] at hz1
  have c0 : w1.cell? ⟨w.heap.size, 0, none⟩ = some (.int .i64 0) := keep_cell hb1 (by simp [go_sem])
  have c1 : w1.cell? ⟨w.heap.size + 1, 0, none⟩ = some (.int .i64 0) := keep_cell hb1 (by simp [go_sem])
  have f0 : w1.frozen? ⟨w.heap.size, 0, none⟩ = false := keep_frozen hb1 (by simp; omega) (by simp [go_sem])
  have f1 : w1.frozen? ⟨w.heap.size + 1, 0, none⟩ = false := keep_frozen hb1 (by simp) (by simp [go_sem])
  have hB1 : Below w.heap.size w w1 := below_then_ (((Below.refl _ _).alloc (Nat.le_refl _) _).alloc (by simp) _) (by simp; omega) hb1
  have HB := Lib.hid hB1
  clear hB1 hb1 HC
  go_wp2
  refine leaves_cons (f := 131) (args := #[.pointer (some ⟨w.heap.size, 0, none⟩), .pointer (some ⟨w.heap.size + 1, 0, none⟩)]) (by simp) (by simp [go_sem]) ?_
  refine (catch_idle _ _ _).mono ?_
  rintro e u' w'' ⟨rfl, rfl, rfl⟩
  have g0 : ((w1.setCell ⟨w.heap.size, 0, none⟩ (.int .i64 n)).setCell ⟨w.heap.size + 1, 0, none⟩ (.int .i64 0)).cell? ⟨w.heap.size, 0, none⟩ = some (.int .i64 n) := setCell_cell (World.cell?_setCell_same' _ _ _ (by rw [c0]; rfl)) (by simp)
  have g1 : ((w1.setCell ⟨w.heap.size, 0, none⟩ (.int .i64 n)).setCell ⟨w.heap.size + 1, 0, none⟩ (.int .i64 0)).cell? ⟨w.heap.size + 1, 0, none⟩ = some (.int .i64 0) := World.cell?_setCell_same' _ _ _ (by rw [setCell_cell c1 (by simp)]; rfl)
  simp [Leaves, settle, results, Try.results107, go_sem, g0, g1]
  exact (HB.out.setCell (Nat.le_refl _) _).setCell (by simp) _
theorem try_panic (g : FuncId) (lb : Array Value) (w : World) (eg : ∀ (args : Array Value) (W : World), (callFunc g args).run Try.prog W = .ok (.enter g args) W)
    (hc : ∀ W, Below w.heap.size w W → Calls Try.prog g lb W fun e W' => e = .panicked overChain ∧ Below W.heap.size W W') :
    Calls Try.prog 107 #[.func (.func g) #[] lb] w fun e w' => e = .returned (.tuple #[.int .i64 0, .int .i64 5]) ∧ Below w.heap.size w w' := by
  have hmf : ∀ (fn : Fn) (first cap : Array Value) (w : World), (Instr.makeFunc fn first cap).run Try.prog w = .ok (.func fn first cap) w := fun _ _ _ _ => rfl
  have HC := Lib.hid hc
  clear hc
  go_enter_defers Try.func107, Try.ntmps107
  go_wp2_with fail
  refine (HC.out _ (((Below.refl _ _).alloc (Nat.le_refl _) _).alloc (by simp) _)).mono ?_
  rintro e w1 ⟨rfl, hb1⟩
  have hz1 := hb1.size
  simp only [World.size_alloc] at hz1
  have c0 : w1.cell? ⟨w.heap.size, 0, none⟩ = some (.int .i64 0) := keep_cell hb1 (by simp [go_sem])
  have c1 : w1.cell? ⟨w.heap.size + 1, 0, none⟩ = some (.int .i64 0) := keep_cell hb1 (by simp [go_sem])
  have f0 : w1.frozen? ⟨w.heap.size, 0, none⟩ = false := keep_frozen hb1 (by simp; omega) (by simp [go_sem])
  have f1 : w1.frozen? ⟨w.heap.size + 1, 0, none⟩ = false := keep_frozen hb1 (by simp) (by simp [go_sem])
  have hB1 : Below w.heap.size w w1 := below_then_ (((Below.refl _ _).alloc (Nat.le_refl _) _).alloc (by simp) _) (by simp; omega) hb1
  have HB := Lib.hid hB1
  clear hB1 hb1 HC
  refine leaves_cons (f := 131) (args := #[.pointer (some ⟨w.heap.size, 0, none⟩), .pointer (some ⟨w.heap.size + 1, 0, none⟩)]) (by simp) (by simp [go_sem]) ?_
  refine (catch_over w.heap.size (w.heap.size + 1) 0 0 _ _ c0 c1 f0 f1 (by omega)).mono ?_
  rintro e u' w'' ⟨rfl, rfl, rfl⟩
  have g0 : ((w1.setCell ⟨w.heap.size, 0, none⟩ (.int .i64 0)).setCell ⟨w.heap.size + 1, 0, none⟩ (.int .i64 5)).cell? ⟨w.heap.size, 0, none⟩ = some (.int .i64 0) := setCell_cell (World.cell?_setCell_same' _ _ _ (by rw [c0]; rfl)) (by simp)
  have g1 : ((w1.setCell ⟨w.heap.size, 0, none⟩ (.int .i64 0)).setCell ⟨w.heap.size + 1, 0, none⟩ (.int .i64 5)).cell? ⟨w.heap.size + 1, 0, none⟩ = some (.int .i64 5) := World.cell?_setCell_same' _ _ _ (by rw [setCell_cell c1 (by simp)]; rfl)
  have g0' := alloc_cell g0 (.cells #[] 147)
  have g1' := alloc_cell g1 (.cells #[] 147)
  simp [Leaves, settle, results, Try.results107, go_sem, g0', g1']
  exact ((HB.out.setCell (Nat.le_refl _) _).setCell (by simp) _).alloc (by simp; omega) _

/-! ### Sums and differences -/
theorem add1_ok (ga gb : Nat) (a b : Int) (ha : IsInt a) (hb : IsInt b) (hs : IsInt (a + b)) (w : World) (ca : w.cell? ⟨ga, 0, none⟩ = some (.int .i64 a)) (cb : w.cell? ⟨gb, 0, none⟩ = some (.int .i64 b)) :
    Calls Try.prog 135 #[.pointer (some ⟨ga, 0, none⟩), .pointer (some ⟨gb, 0, none⟩)] w fun e w' => e = .returned (.int .i64 (a + b)) ∧ Below w.heap.size w w' := by
  obtain ⟨a1, a2⟩ := ha; obtain ⟨b1, b2⟩ := hb; obtain ⟨s1, s2⟩ := hs
  by_cases h : 0 < b
  · go_enter Try.func135, Try.ntmps135
    go_wp2
    go_ret
    exact ⟨rfl, Below.refl _ _⟩
  · have k : decide (a < a + b) = false := decide_eq_false (by omega)
    go_enter Try.func135, Try.ntmps135
    go_wp2
    go_ret
    exact ⟨rfl, Below.refl _ _⟩
theorem add1_bad (ga gb : Nat) (a b : Int) (ha : IsInt a) (hb : IsInt b) (hs : ¬ IsInt (a + b)) (w : World) (ca : w.cell? ⟨ga, 0, none⟩ = some (.int .i64 a)) (cb : w.cell? ⟨gb, 0, none⟩ = some (.int .i64 b)) :
    Calls Try.prog 135 #[.pointer (some ⟨ga, 0, none⟩), .pointer (some ⟨gb, 0, none⟩)] w fun e w' => e = .panicked overChain ∧ Below w.heap.size w w' := by
  unfold IsInt at ha hb hs
  obtain ⟨a1, a2⟩ := ha; obtain ⟨b1, b2⟩ := hb
  by_cases h : 0 < b
  · have k : ¬ a < wrap64 (a + b) := by unfold wrap64; omega
    have k2 : decide (a < wrap64 (a + b)) = false := decide_eq_false k
    clear hs k
    go_enter Try.func135, Try.ntmps135
    go_wp2
    exact ⟨rfl, rfl, Below.refl _ _⟩
  · have k : a < wrap64 (a + b) := by unfold wrap64; omega
    clear hs
    go_enter Try.func135, Try.ntmps135
    go_wp2
    exact ⟨rfl, rfl, Below.refl _ _⟩
theorem sub1_ok (ga gb : Nat) (a b : Int) (ha : IsInt a) (hb : IsInt b) (hs : IsInt (a - b)) (w : World) (ca : w.cell? ⟨ga, 0, none⟩ = some (.int .i64 a)) (cb : w.cell? ⟨gb, 0, none⟩ = some (.int .i64 b)) :
    Calls Try.prog 136 #[.pointer (some ⟨ga, 0, none⟩), .pointer (some ⟨gb, 0, none⟩)] w fun e w' => e = .returned (.int .i64 (a - b)) ∧ Below w.heap.size w w' := by
  obtain ⟨a1, a2⟩ := ha; obtain ⟨b1, b2⟩ := hb; obtain ⟨s1, s2⟩ := hs
  by_cases h : 0 < b
  · go_enter Try.func136, Try.ntmps136
    go_wp2
    go_ret
    exact ⟨rfl, Below.refl _ _⟩
  · have k : decide (a - b < a) = false := decide_eq_false (by omega)
    go_enter Try.func136, Try.ntmps136
    go_wp2
    go_ret
    exact ⟨rfl, Below.refl _ _⟩
theorem sub1_bad (ga gb : Nat) (a b : Int) (ha : IsInt a) (hb : IsInt b) (hs : ¬ IsInt (a - b)) (w : World) (ca : w.cell? ⟨ga, 0, none⟩ = some (.int .i64 a)) (cb : w.cell? ⟨gb, 0, none⟩ = some (.int .i64 b)) :
    Calls Try.prog 136 #[.pointer (some ⟨ga, 0, none⟩), .pointer (some ⟨gb, 0, none⟩)] w fun e w' => e = .panicked overChain ∧ Below w.heap.size w w' := by
  unfold IsInt at ha hb hs
  obtain ⟨a1, a2⟩ := ha; obtain ⟨b1, b2⟩ := hb
  by_cases h : 0 < b
  · have k : ¬ wrap64 (a - b) < a := by unfold wrap64; omega
    have k2 : decide (wrap64 (a - b) < a) = false := decide_eq_false k
    clear hs k
    go_enter Try.func136, Try.ntmps136
    go_wp2
    exact ⟨rfl, rfl, Below.refl _ _⟩
  · have k : wrap64 (a - b) < a := by unfold wrap64; omega
    clear hs
    go_enter Try.func136, Try.ntmps136
    go_wp2
    exact ⟨rfl, rfl, Below.refl _ _⟩

theorem fix_Add_c (a b : Int) (ha : IsInt a) (hb : IsInt b) (w : World) :
    Calls Try.prog 115 #[.int .i64 a, .int .i64 b] w fun e w' => e = .returned (.tuple #[.int .i64 (fit (a + b)).1, .int .i64 (fit (a + b)).2]) ∧ Below w.heap.size w w' := by
  have hmf : ∀ (fn : Fn) (first cap : Array Value) (w : World), (Instr.makeFunc fn first cap).run Try.prog w = .ok (.func fn first cap) w := fun _ _ _ _ => rfl
  have eg := enters_of Try.func135 (by kernel_rfl) rfl
  have HC : Hid (Calls Try.prog 107 #[.func (.func 135) #[] #[.pointer (some ⟨w.heap.size, 0, none⟩), .pointer (some ⟨w.heap.size + 1, 0, none⟩)]] ((w.alloc (.cells #[.int .i64 a] 3)).alloc (.cells #[.int .i64 b] 3)) fun e w' =>
      e = .returned (.tuple #[.int .i64 (fit (a + b)).1, .int .i64 (fit (a + b)).2]) ∧ Below ((w.alloc (.cells #[.int .i64 a] 3)).alloc (.cells #[.int .i64 b] 3)).heap.size ((w.alloc (.cells #[.int .i64 a] 3)).alloc (.cells #[.int .i64 b] 3)) w') := by
    by_cases hs : IsInt (a + b)
    · rw [fit_ok hs]
      exact try_ret _ _ _ _ eg (fun W hW => add1_ok _ _ a b ha hb hs W (keep_cell hW (by simp [go_sem])) (keep_cell hW (by simp [go_sem])))
    · rw [fit_bad hs]
      exact try_panic _ _ _ eg (fun W hW => add1_bad _ _ a b ha hb hs W (keep_cell hW (by simp [go_sem])) (keep_cell hW (by simp [go_sem])))
  clear eg
  go_enter Try.func115, Try.ntmps115
  go_wp2_with fail
  refine (HC.out).mono ?_
  rintro e w1 ⟨rfl, hb1⟩
  clear HC
  go_wp2
  go_ret2
  exact ⟨rfl, below_then_ (((Below.refl _ _).alloc (Nat.le_refl _) _).alloc (by simp) _) (by simp; omega) hb1⟩
theorem fix_Sub_c (a b : Int) (ha : IsInt a) (hb : IsInt b) (w : World) :
    Calls Try.prog 116 #[.int .i64 a, .int .i64 b] w fun e w' => e = .returned (.tuple #[.int .i64 (fit (a - b)).1, .int .i64 (fit (a - b)).2]) ∧ Below w.heap.size w w' := by
  have hmf : ∀ (fn : Fn) (first cap : Array Value) (w : World), (Instr.makeFunc fn first cap).run Try.prog w = .ok (.func fn first cap) w := fun _ _ _ _ => rfl
  have eg := enters_of Try.func136 (by kernel_rfl) rfl
  have HC : Hid (Calls Try.prog 107 #[.func (.func 136) #[] #[.pointer (some ⟨w.heap.size, 0, none⟩), .pointer (some ⟨w.heap.size + 1, 0, none⟩)]] ((w.alloc (.cells #[.int .i64 a] 3)).alloc (.cells #[.int .i64 b] 3)) fun e w' =>
      e = .returned (.tuple #[.int .i64 (fit (a - b)).1, .int .i64 (fit (a - b)).2]) ∧ Below ((w.alloc (.cells #[.int .i64 a] 3)).alloc (.cells #[.int .i64 b] 3)).heap.size ((w.alloc (.cells #[.int .i64 a] 3)).alloc (.cells #[.int .i64 b] 3)) w') := by
    by_cases hs : IsInt (a - b)
    · rw [fit_ok hs]
      exact try_ret _ _ _ _ eg (fun W hW => sub1_ok _ _ a b ha hb hs W (keep_cell hW (by simp [go_sem])) (keep_cell hW (by simp [go_sem])))
    · rw [fit_bad hs]
      exact try_panic _ _ _ eg (fun W hW => sub1_bad _ _ a b ha hb hs W (keep_cell hW (by simp [go_sem])) (keep_cell hW (by simp [go_sem])))
  clear eg
  go_enter Try.func116, Try.ntmps116
  go_wp2_with fail
  refine (HC.out).mono ?_
  rintro e w1 ⟨rfl, hb1⟩
  clear HC
  go_wp2
  go_ret2
  exact ⟨rfl, below_then_ (((Below.refl _ _).alloc (Nat.le_refl _) _).alloc (by simp) _) (by simp; omega) hb1⟩

/-- Where a region that draws its order ends in a panic: what would follow is asked under False alone. -/
theorem leave_here {G : Prop} {S : World → Prop} {V : Act → World → Prop} {K : Act → World → Prop} (_hK : Shut (∀ a w, S w → (S w → V a w) → K a w)) (w : World) (g : G) (_k : False → K { tmps := #[], defers := [] } w) : G := g
/-! ### Products -/
theorem absZ_of_neg {a : Int} (h : a < 0) : absZ a = -a := by unfold absZ; rw [if_pos h]
set_option maxHeartbeats 4000000 in
set_option maxRecDepth 100000 in
theorem mul1_ok (ga gb : Nat) (a b : Int) (ha : IsInt a) (hb : IsInt b) (hs : IsInt (a * b)) (w : World) (ca : w.cell? ⟨ga, 0, none⟩ = some (.int .i64 a)) (cb : w.cell? ⟨gb, 0, none⟩ = some (.int .i64 b)) :
    Calls Try.prog 123 #[.pointer (some ⟨ga, 0, none⟩), .pointer (some ⟨gb, 0, none⟩)] w fun e w' => e = .returned (.int .i64 (a * b)) ∧ Below w.heap.size w w' := by
  have wa := absZ_word ha
  have wb := absZ_word hb
  have hm := word_mul wa wb
  have wl := word_loW (absZ a * absZ b)
  obtain ⟨k1, k2, k3⟩ := (below_of hm.1 (mul_signed a b)).1 hs
  obtain ⟨t1, h1⟩ : ∃ t, decide (a < 0) = t := ⟨_, rfl⟩
  obtain ⟨t2, h2⟩ : ∃ t, decide (b < 0) = t := ⟨_, rfl⟩
  have hb2 : below2 a b = (t1 != t2) := by unfold below2; rw [h1, h2]
  rw [hb2] at k2 k3
  have K1 := Lib.hid k1
  have K2 := Lib.hid k2
  have K3 := Lib.hid k3
  clear k1 k2 k3 hb2 hm hs
  cases t1 <;> cases t2
  all_goals
    go_enter Try.func123, Try.ntmps123
    go_wp2_with fail
    go_region_held3 (fun w' => w'.cell? ⟨ga, 0, none⟩ = some (.int .i64 a) ∧ w'.cell? ⟨gb, 0, none⟩ = some (.int .i64 b) ∧ Below w.heap.size w w')
      ((first | (go_split_ands; refine ⟨?_, ?_, ?_⟩ <;> assumption) | (go_split_ands; refine ⟨?_, ?_, ?_⟩ <;> first | exact keep_cell hbw (by assumption) | exact below_then_ (by assumption) (Below.size (by assumption)) hbw) | (refine ⟨?_, ?_, ?_⟩ <;> first | exact Below.drew (Below.refl _ _) | (simp [go_sem, *]; done))))
      (first | (go_at_call 109; ((with_reducible refine (fix_size_c a ha _).mono ?_); rintro e w' ⟨rfl, rfl⟩)) | (go_at_call 109; ((with_reducible refine (fix_size_c b hb _).mono ?_); rintro e w' ⟨rfl, rfl⟩)) | (go_at_call 49; ((with_reducible refine (wide_Mul_c _ _ wa wb _).mono ?_); rintro e w' ⟨rfl, hbw⟩)) | (go_at_call 111; (refine (signed_ok _ _ _ wl K1.out K2.out _).mono ?_; rintro e w' ⟨rfl, hbw⟩)))
    go_split_ands
    go_wp2
    go_ret
    exact ⟨ret_int K3.out, by assumption⟩
set_option maxHeartbeats 4000000 in
set_option maxRecDepth 100000 in
theorem mul1_bad (ga gb : Nat) (a b : Int) (ha : IsInt a) (hb : IsInt b) (hs : ¬ IsInt (a * b)) (w : World) (ca : w.cell? ⟨ga, 0, none⟩ = some (.int .i64 a)) (cb : w.cell? ⟨gb, 0, none⟩ = some (.int .i64 b)) :
    Calls Try.prog 123 #[.pointer (some ⟨ga, 0, none⟩), .pointer (some ⟨gb, 0, none⟩)] w fun e w' => e = .panicked overChain ∧ Below w.heap.size w w' := by
  have wa := absZ_word ha
  have wb := absZ_word hb
  have hm := word_mul wa wb
  have wl := word_loW (absZ a * absZ b)
  have wh := word_hiW hm
  have k2 := (below_of hm.1 (mul_signed a b)).2 hs
  obtain ⟨t1, h1⟩ : ∃ t, decide (a < 0) = t := ⟨_, rfl⟩
  obtain ⟨t2, h2⟩ : ∃ t, decide (b < 0) = t := ⟨_, rfl⟩
  have hb2 : below2 a b = (t1 != t2) := by unfold below2; rw [h1, h2]
  rw [hb2] at k2
  have K2 := Lib.hid k2
  clear k2 hb2 hm hs
  cases t1 <;> cases t2
  all_goals
    go_enter Try.func123, Try.ntmps123
    go_wp2_with fail
    go_region_held (fun w' => w'.cell? ⟨ga, 0, none⟩ = some (.int .i64 a) ∧ w'.cell? ⟨gb, 0, none⟩ = some (.int .i64 b) ∧ Below w.heap.size w w')
      ((first | exact hF.elim | (go_split_ands; refine ⟨?_, ?_, ?_⟩ <;> assumption) | (go_split_ands; refine ⟨?_, ?_, ?_⟩ <;> first | exact keep_cell hbw (by assumption) | exact below_then_ (by assumption) (Below.size (by assumption)) hbw) | (refine ⟨?_, ?_, ?_⟩ <;> first | exact Below.drew (Below.refl _ _) | (simp [go_sem, *]; done))))
      (first | (go_at_call 109; ((with_reducible refine (fix_size_c a ha _).mono ?_); rintro e w' ⟨rfl, rfl⟩)) | (go_at_call 109; ((with_reducible refine (fix_size_c b hb _).mono ?_); rintro e w' ⟨rfl, rfl⟩)) | (go_at_call 49; ((with_reducible refine (wide_Mul_c _ _ wa wb _).mono ?_); rintro e w' ⟨rfl, hbw⟩)) | (go_at_call 111; refine (signed_bad _ _ _ wl wh K2.out _).mono ?_; rintro e w' ⟨rfl, hbw⟩; go_split_ands; refine leave_here (by assumption) w' ⟨rfl, rfl, below_then_ (by assumption) (Below.size (by assumption)) hbw⟩ (fun hF => ?_)))
    exact hF.elim
theorem fix_Mul_c (a b : Int) (ha : IsInt a) (hb : IsInt b) (w : World) :
    Calls Try.prog 96 #[.int .i64 a, .int .i64 b] w fun e w' => e = .returned (.tuple #[.int .i64 (fit (a * b)).1, .int .i64 (fit (a * b)).2]) ∧ Below w.heap.size w w' := by
  have hmf : ∀ (fn : Fn) (first cap : Array Value) (w : World), (Instr.makeFunc fn first cap).run Try.prog w = .ok (.func fn first cap) w := fun _ _ _ _ => rfl
  have eg := enters_of Try.func123 (by kernel_rfl) rfl
  have HC : Hid (Calls Try.prog 107 #[.func (.func 123) #[] #[.pointer (some ⟨w.heap.size, 0, none⟩), .pointer (some ⟨w.heap.size + 1, 0, none⟩)]] ((w.alloc (.cells #[.int .i64 a] 3)).alloc (.cells #[.int .i64 b] 3)) fun e w' =>
      e = .returned (.tuple #[.int .i64 (fit (a * b)).1, .int .i64 (fit (a * b)).2]) ∧ Below ((w.alloc (.cells #[.int .i64 a] 3)).alloc (.cells #[.int .i64 b] 3)).heap.size ((w.alloc (.cells #[.int .i64 a] 3)).alloc (.cells #[.int .i64 b] 3)) w') := by
    by_cases hs : IsInt (a * b)
    · rw [fit_ok hs]
      exact try_ret _ _ _ _ eg (fun W hW => mul1_ok _ _ a b ha hb hs W (keep_cell hW (by simp [go_sem])) (keep_cell hW (by simp [go_sem])))
    · rw [fit_bad hs]
      exact try_panic _ _ _ eg (fun W hW => mul1_bad _ _ a b ha hb hs W (keep_cell hW (by simp [go_sem])) (keep_cell hW (by simp [go_sem])))
  clear eg
  go_enter Try.func96, Try.ntmps96
  go_wp2_with fail
  refine (HC.out).mono ?_
  rintro e w1 ⟨rfl, hb1⟩
  clear HC
  go_wp2
  go_ret2
  exact ⟨rfl, below_then_ (((Below.refl _ _).alloc (Nat.le_refl _) _).alloc (by simp) _) (by simp; omega) hb1⟩
end Go.Proofs.Ytkdfkpalgejkkaa
/-
  zone: classes of deviations, hulls and masks.
-/
set_option linter.unusedSimpArgs false
namespace Go.Proofs.Ytkdfkpalgejkkaa
open Go.RowKit Go.Shelf

theorem zone_size_c (a : Int) (ha : IsInt a) (w : World) :
    Calls Try.prog 121 #[.int .i64 a] w fun e w' => e = .returned (.int .u64 (absZ a)) ∧ w = w' := by
  have h1 := ha.1
  have h2 := ha.2
  by_cases h : a < 0
  · have e : absZ a = -a := by unfold absZ; rw [if_pos h]
    rw [e]
    clear e
    go_enter Try.func121, Try.ntmps121
    go_wp2
    go_ret
    exact ⟨ret_int (neg_word h1 h), rfl⟩
  · have e : absZ a = a := by unfold absZ; rw [if_neg h]
    rw [e]
    clear e
    go_enter Try.func121, Try.ntmps121
    go_wp2
    go_ret
    exact ⟨rfl, rfl⟩

set_option maxRecDepth 100000 in
/-- Is a square more than k times k variances? -/
theorem beyond_c (gv gs : Nat) (k V S : Int) (hk : 1 ≤ k ∧ k ≤ 3) (hV : 0 ≤ V ∧ 9 * V < 340282366920938463463374607431768211456) (w : World)
    (v0 : w.cell? ⟨gv, 0, none⟩ = some (.int .u64 (hiW V))) (v1 : w.cell? ⟨gv, 1, none⟩ = some (.int .u64 (loW V))) (s0 : w.cell? ⟨gs, 0, none⟩ = some (.int .u64 (hiW S))) (s1 : w.cell? ⟨gs, 1, none⟩ = some (.int .u64 (loW S))) :
    Calls Try.prog 122 #[.int .u64 k, .pointer (some ⟨gv, 0, none⟩), .pointer (some ⟨gs, 0, none⟩)] w fun e w' => e = .returned (.bool (decide (k * k * V < S))) ∧ Below w.heap.size w w' := by
  have hkk : 1 ≤ k * k ∧ k * k ≤ 9 := by
    have : k = 1 ∨ k = 2 ∨ k = 3 := by omega
    rcases this with rfl | rfl | rfl <;> decide
  have hw : Word (k * k) := by unfold Word; omega
  have hp : Wide (k * k * V) := by
    have : k = 1 ∨ k = 2 ∨ k = 3 := by omega
    unfold Wide
    rcases this with rfl | rfl | rfl <;> omega
  have HT : Hid (∀ W, Calls Try.prog 51 #[.agg #[.int .u64 0, .int .u64 (k * k)], wv V] W fun e w' => e = .returned (.tuple #[wv (k * k * V), .bool false]) ∧ Below W.heap.size W w') := Lib.hid (fun W => by
    have h := wide_Times_c (k * k) V hw.wide ⟨hV.1, by omega⟩ W
    unfold Wide at hp
    rwa [show wv (k * k) = .agg #[.int .u64 0, .int .u64 (k * k)] by unfold wv; rw [hiW_small hw, loW_small hw], mod_wide hp, decide_eq_false (by omega)] at h)
  have HL := Lib.hid (fun W => wide_Less_c (k * k * V) S W)
  have hc : IntKind.u64.wrap (k * k) = k * k := by rw [IntKind.wrap_u64]; omega
  have l1 := World.block_lt_of_cell? w _ s0
  simp only [] at l1
  generalize k * k * V = Q at *
  have S0 := Lib.hid s0
  have S1 := Lib.hid s1
  clear hV hp hw
  go_enter Try.func122, Try.ntmps122
  go_wp2_with fail
  refine (HT.out _).mono ?_
  rintro e w1 ⟨rfl, hb⟩
  have c0 := keep_cell hb S0.out
  have c1 := keep_cell hb S1.out
  have l2 := World.block_lt_of_cell? w1 _ c0
  simp only [] at l2
  have HB := Lib.hid hb
  clear hb s0 s1 v0 v1 l1
  go_wp2_with fail
  refine (HL.out _).mono ?_
  rintro e w2 ⟨rfl, hb⟩
  go_wp2_with fail
  go_ret
  exact ⟨rfl, below_then_ (HB.out.alloc HB.out.size _) (by have := HB.out.size; simp; omega) hb⟩

/-- A deviation's class, of a variance. -/
def classN (dev V : Int) : Int := 1 + (if V < dev * dev then 1 else 0) + (if 4 * V < dev * dev then 1 else 0) + (if 9 * V < dev * dev then 1 else 0)
def classZ (dev V : Int) : Int := if dev = 0 then 0 else if dev < 0 then -(classN dev V) else classN dev V
theorem abs_sq (d : Int) : absZ d * absZ d = d * d := by
  unfold absZ
  split
  · rw [Int.neg_mul_neg]
  · rfl
set_option maxHeartbeats 1000000 in
set_option maxRecDepth 100000 in
theorem class_c (dev V : Int) (hd : IsInt dev) (hV : 0 ≤ V ∧ 9 * V < 340282366920938463463374607431768211456) (w : World) :
    Calls Try.prog 93 #[.int .i64 dev, wv V] w fun e w' => e = .returned (.int .i64 (classZ dev V)) ∧ Below w.heap.size w w' := by
  have hmf : ∀ (fn : Fn) (first cap : Array Value) (w : World), (Instr.makeFunc fn first cap).run Try.prog w = .ok (.func fn first cap) w := fun _ _ _ _ => rfl
  have eg := enters_of Try.func122 (by kernel_rfl) rfl
  have HS := Lib.hid (fun W => zone_size_c dev hd W)
  have wa := absZ_word hd
  have HM : Hid (∀ W, Calls Try.prog 49 #[.int .u64 (absZ dev), .int .u64 (absZ dev)] W fun e w' => e = .returned (wv (dev * dev)) ∧ Below W.heap.size W w') := Lib.hid (fun W => by have h := wide_Mul_c (absZ dev) (absZ dev) wa wa W; rwa [abs_sq] at h)
  have hz : classZ dev V = if dev = 0 then 0 else if dev < 0 then -(classN dev V) else classN dev V := rfl
  have hN : classN dev V = 1 + (if V < dev * dev then 1 else 0) + (if 4 * V < dev * dev then 1 else 0) + (if 9 * V < dev * dev then 1 else 0) := rfl
  generalize classZ dev V = Z at *
  generalize classN dev V = N at *
  generalize dev * dev = S at *
  have HZ := Lib.hid hz
  have HN := Lib.hid hN
  obtain ⟨t1, ht1⟩ : ∃ t, decide (V < S) = t := ⟨_, rfl⟩
  obtain ⟨t2, ht2⟩ : ∃ t, decide (4 * V < S) = t := ⟨_, rfl⟩
  obtain ⟨t3, ht3⟩ : ∃ t, decide (9 * V < S) = t := ⟨_, rfl⟩
  have B1 : Hid (∀ (gv gs : Nat) (W : World), W.cell? ⟨gv, 0, none⟩ = some (.int .u64 (hiW V)) → W.cell? ⟨gv, 1, none⟩ = some (.int .u64 (loW V)) → W.cell? ⟨gs, 0, none⟩ = some (.int .u64 (hiW S)) → W.cell? ⟨gs, 1, none⟩ = some (.int .u64 (loW S)) →
      Calls Try.prog 122 #[.int .u64 1, .pointer (some ⟨gv, 0, none⟩), .pointer (some ⟨gs, 0, none⟩)] W fun e w' => e = .returned (.bool t1) ∧ Below W.heap.size W w') := Lib.hid (fun gv gs W a b c d => by
    have h := beyond_c gv gs 1 V S (by omega) hV W a b c d
    rwa [show (1 * 1 * V : Int) = V by omega, ht1] at h)
  have B2 : Hid (∀ (gv gs : Nat) (W : World), W.cell? ⟨gv, 0, none⟩ = some (.int .u64 (hiW V)) → W.cell? ⟨gv, 1, none⟩ = some (.int .u64 (loW V)) → W.cell? ⟨gs, 0, none⟩ = some (.int .u64 (hiW S)) → W.cell? ⟨gs, 1, none⟩ = some (.int .u64 (loW S)) →
      Calls Try.prog 122 #[.int .u64 2, .pointer (some ⟨gv, 0, none⟩), .pointer (some ⟨gs, 0, none⟩)] W fun e w' => e = .returned (.bool t2) ∧ Below W.heap.size W w') := Lib.hid (fun gv gs W a b c d => by
    have h := beyond_c gv gs 2 V S (by omega) hV W a b c d
    rwa [show (2 * 2 * V : Int) = 4 * V by omega, ht2] at h)
  have B3 : Hid (∀ (gv gs : Nat) (W : World), W.cell? ⟨gv, 0, none⟩ = some (.int .u64 (hiW V)) → W.cell? ⟨gv, 1, none⟩ = some (.int .u64 (loW V)) → W.cell? ⟨gs, 0, none⟩ = some (.int .u64 (hiW S)) → W.cell? ⟨gs, 1, none⟩ = some (.int .u64 (loW S)) →
      Calls Try.prog 122 #[.int .u64 3, .pointer (some ⟨gv, 0, none⟩), .pointer (some ⟨gs, 0, none⟩)] W fun e w' => e = .returned (.bool t3) ∧ Below W.heap.size W w') := Lib.hid (fun gv gs W a b c d => by
    have h := beyond_c gv gs 3 V S (by omega) hV W a b c d
    rwa [show (3 * 3 * V : Int) = 9 * V by omega, ht3] at h)
  have hn : N = 1 + (if t1 = true then 1 else 0) + (if t2 = true then 1 else 0) + (if t3 = true then 1 else 0) := by
    rw [HN.out, ← ht1, ← ht2, ← ht3]; simp
  have h12 : t2 = true → t1 = true := by rw [← ht1, ← ht2]; simp; omega
  have h23 : t3 = true → t2 = true := by rw [← ht2, ← ht3]; simp; omega
  clear ht1 ht2 ht3 HN hN hz hV wa hd
  go_enter Try.func93, Try.ntmps93
  go_wp2_with (first | (go_at_call 121; ((with_reducible refine (HS.out _).mono ?_); rintro e w' ⟨rfl, rfl⟩)))
  refine (HM.out _).mono ?_
  rintro e w1 ⟨rfl, hb⟩
  have l0 : w.heap.size < w1.heap.size := by have := hb.size; simp at this; omega
  have hK : Hid (Knows w.heap.size w [(⟨w.heap.size, 0, none⟩, .int .u64 (hiW V)), (⟨w.heap.size, 1, none⟩, .int .u64 (loW V)), (⟨w1.heap.size, 0, none⟩, .int .u64 (hiW S)), (⟨w1.heap.size, 1, none⟩, .int .u64 (loW S))] [] (w1.alloc (.cells #[.int .u64 (hiW S), .int .u64 (loW S)] 35))) := by
    have hK0 : Knows w.heap.size w [(⟨w.heap.size, 0, none⟩, .int .u64 (hiW V)), (⟨w.heap.size, 1, none⟩, .int .u64 (loW V))] [] w1 :=
      Knows.call (W := w.alloc (.cells #[.int .u64 (hiW V), .int .u64 (loW V)] 35)) ⟨(Below.refl _ _).alloc (Nat.le_refl _) _, by simp, by simp [Cells, go_sem], trivial⟩ hb
    exact Lib.hid ⟨hK0.1.alloc hK0.2.1 _, Nat.le_trans hK0.2.1 (by simp), ⟨alloc_cell hK0.2.2.1.1 _, alloc_cell hK0.2.2.1.2.1 _, by simp [go_sem], by simp [go_sem], trivial⟩, trivial⟩
  clear hb HM HS
  obtain ⟨m, hm⟩ : ∃ m, w1.heap.size = m := ⟨_, rfl⟩
  rw [hm] at hK
  have HK := hK
  clear hK
  obtain ⟨-, -, ⟨c0, c1, c2, c3, -⟩, -⟩ := HK.out
  have hall : (t1 = false ∧ t2 = false ∧ t3 = false) ∨ (t1 = true ∧ t2 = false ∧ t3 = false) ∨ (t1 = true ∧ t2 = true ∧ t3 = false) ∨ (t1 = true ∧ t2 = true ∧ t3 = true) := by
    cases t1 <;> cases t2 <;> cases t3 <;> simp_all
  clear h12 h23
  rcases hall with ⟨rfl, rfl, rfl⟩ | ⟨rfl, rfl, rfl⟩ | ⟨rfl, rfl, rfl⟩ | ⟨rfl, rfl, rfl⟩
  all_goals
    go_wp2_with (first | ((with_reducible refine wp_loop_rounds 4 ?_); rw [rounds_succ]) | rw [rounds_succ])
    refine (B1.out _ _ _ c0 c1 c2 c3).mono ?_
    rintro e w2 ⟨rfl, hb⟩
    have hK := HK.out.call hb
    clear HK hb c0 c1 c2 c3
    have HK := Lib.hid hK
    obtain ⟨-, -, ⟨c0, c1, c2, c3, -⟩, -⟩ := hK
    go_wp2_with (first | rw [rounds_succ])
    refine (B2.out _ _ _ c0 c1 c2 c3).mono ?_
    rintro e w3 ⟨rfl, hb⟩
    have hK := HK.out.call hb
    clear HK hb c0 c1 c2 c3
    have HK := Lib.hid hK
    obtain ⟨-, -, ⟨c0, c1, c2, c3, -⟩, -⟩ := hK
    go_wp2_with (first | rw [rounds_succ])
    refine (B3.out _ _ _ c0 c1 c2 c3).mono ?_
    rintro e w4 ⟨rfl, hb⟩
    have hK := HK.out.call hb
    clear HK hb c0 c1 c2 c3
    have HK := Lib.hid hK
    obtain ⟨-, -, ⟨c0, c1, c2, c3, -⟩, -⟩ := hK
    go_wp2_with (first | rw [rounds_succ])
    all_goals
      go_ret
      exact ⟨ret_int (by rw [HZ.out, hn]; simp_all), HK.out.1⟩
end Go.Proofs.Ytkdfkpalgejkkaa
/-
  fix.modes and its functions.
-/
set_option linter.unusedSimpArgs false
namespace Go.Proofs.Ytkdfkpalgejkkaa
open Go.RowKit Go.Shelf

theorem modes_c (w : World) : Calls Try.prog 106 #[] w fun e w' => e = .returned (.agg #[.func (.func 127) #[] #[], .func (.func 128) #[] #[], .func (.func 129) #[] #[]]) ∧ Below w.heap.size w w' := by
  go_enter Try.func106, Try.ntmps106
  go_wp2
  refine bodyPost_ret (v := .agg #[.func (.func 127) #[] #[], .func (.func 128) #[] #[], .func (.func 129) #[] #[]]) (by simp [results, Try.results106, go_sem]) rfl ⟨rfl, ?_⟩
  exact (Below.refl _ _).alloc (Nat.le_refl _) _
theorem modes1_c (q1 q2 r c1 c2 : Int) (b : Bool) (w : World) :
    Calls Try.prog 127 #[.agg #[.int .u64 q1, .int .u64 q2, .int .u64 (hiW r), .int .u64 (loW r), .int .u64 c1, .int .u64 c2, .bool b]] w fun e w' => e = .returned (.bool (b && decide (r ≠ 0))) ∧ Below w.heap.size w w' := by
  have hr : decide (r ≠ 0) = !(hiW r == 0 && (loW r == 0)) := by
    by_cases h : r = 0
    · subst h; decide
    · have : ¬ (hiW r = 0 ∧ loW r = 0) := by unfold hiW loW; omega
      rw [decide_eq_true h]; symm; simp; omega
  rw [hr]
  clear hr
  generalize hiW r = x
  generalize loW r = y
  cases b <;> go_enter Try.func127, Try.ntmps127 <;> go_wp2
  all_goals
    go_ret
    exact ⟨by simp_all, (Below.refl _ _).alloc (Nat.le_refl _) _⟩
theorem modes2_c (q1 q2 r c1 c2 : Int) (b : Bool) (w : World) :
    Calls Try.prog 128 #[.agg #[.int .u64 q1, .int .u64 q2, .int .u64 (hiW r), .int .u64 (loW r), .int .u64 c1, .int .u64 c2, .bool b]] w fun e w' => e = .returned (.bool (!b && decide (r ≠ 0))) ∧ Below w.heap.size w w' := by
  have hr : decide (r ≠ 0) = !(hiW r == 0 && (loW r == 0)) := by
    by_cases h : r = 0
    · subst h; decide
    · have : ¬ (hiW r = 0 ∧ loW r = 0) := by unfold hiW loW; omega
      rw [decide_eq_true h]; symm; simp; omega
  rw [hr]
  clear hr
  generalize hiW r = x
  generalize loW r = y
  cases b <;> go_enter Try.func128, Try.ntmps128 <;> go_wp2
  all_goals
    go_ret
    exact ⟨by simp_all, (Below.refl _ _).alloc (Nat.le_refl _) _⟩
theorem md_parts {a b c m q r : Int} {bel mo : Bool} (ha : a ≠ 0) (hb : b ≠ 0) (hc : c ≠ 0) (hq : absZ a * absZ b / absZ c = q) (hr : absZ a * absZ b % absZ c = r)
    (hbel : ((decide (a < 0) != decide (b < 0)) != decide (c < 0)) = bel) (hmo : ((if m = 0 then bel else !bel) && decide (r ≠ 0)) = mo) : (if bel then -(if mo then q + 1 else q) else if mo then q + 1 else q) = md (a * b) c m := by
  have hp : a * b ≠ 0 := Int.mul_ne_zero ha hb
  have hs : decide (a * b < 0) = (decide (a < 0) != decide (b < 0)) := by
    by_cases h1 : a < 0 <;> by_cases h2 : b < 0 <;> simp only [h1, h2, decide_true, decide_false]
    · have := Int.mul_pos_of_neg_of_neg h1 h2; simp; omega
    · have := Int.mul_neg_of_neg_of_pos h1 (show 0 < b by omega); simp; omega
    · have := Int.mul_neg_of_pos_of_neg (show 0 < a by omega) h2; simp; omega
    · have := Int.mul_pos (show 0 < a by omega) (show 0 < b by omega); simp; omega
  rw [← bySize_md hc hp]
  unfold bySize
  simp only [hs, absZ_mul, hq, hr, hbel]
  rw [← hmo]
  by_cases h0 : r = 0 <;> by_cases h1 : m = 0 <;> cases bel <;> simp [h0, h1]
theorem quot_small {a b c : Int} (ha : IsInt a) (hb : IsInt b) (hc : c ≠ 0) : 0 ≤ absZ a * absZ b / absZ c ∧ absZ a * absZ b / absZ c ≤ 85070591730234615865843651857942052864 := by
  have h1 := absZ_nonneg a
  have h2 := absZ_nonneg b
  have h3 : 0 < absZ c := by unfold absZ; split <;> omega
  have h4 : absZ a ≤ 9223372036854775808 := by unfold IsInt at ha; unfold absZ; split <;> omega
  have h5 : absZ b ≤ 9223372036854775808 := by unfold IsInt at hb; unfold absZ; split <;> omega
  have h6 : absZ a * absZ b ≤ 9223372036854775808 * 9223372036854775808 := Int.mul_le_mul h4 h5 h2 (by omega)
  have h7 := Int.mul_nonneg h1 h2
  exact ⟨Int.ediv_nonneg h7 (by omega), Int.le_trans (Int.ediv_le_self _ h7) (by omega)⟩
end Go.Proofs.Ytkdfkpalgejkkaa
/-
  fix.MulDiv.
-/
set_option linter.unusedSimpArgs false
namespace Go.Proofs.Ytkdfkpalgejkkaa
open Go.RowKit Go.Shelf

/-- fix.left as cells. -/
abbrev leftO (qh ql rh rl c : Int) (b : Bool) : Obj := .cells #[.int .u64 qh, .int .u64 ql, .int .u64 rh, .int .u64 rl, .int .u64 0, .int .u64 c, .bool b] 128

/-- The first four cells of a block may be written. A word that the walk does not open. -/
def Roomy (w : World) (g : Nat) : Prop := ∀ o, o < 4 → (w.cell? ⟨g, o, none⟩).isSome = true ∧ w.frozen? ⟨g, o, none⟩ = false
theorem isSome_set (w : World) (a p : Addr) (v : Value) : ((w.setCell a v).cell? p).isSome = (w.cell? p).isSome := by
  by_cases h : a = p
  · subst h
    cases hc : w.cell? a with
    | some u => rw [World.cell?_setCell_same' w a v (by rw [hc]; rfl)]; rfl
    | none =>
      unfold World.cell? at hc ⊢
      unfold World.setCell
      simp only [Array.getElem?_modify, if_true]
      cases hb : w.heap[a.block]? with
      | none => rfl
      | some o =>
        cases o <;> simp_all
  · rw [World.cell?_setCell_other w a p v h]
theorem stored_roomy (P : Program) (w : World) (g o : Nat) (v : Value) (m : Mode) (h : Roomy w g) (ho : o < 4) : stored P w ⟨g, o, none⟩ v m = .ok () (w.setCell ⟨g, o, none⟩ v) := by
  obtain ⟨h1, hf⟩ := h o ho
  obtain ⟨u, hu⟩ := Option.isSome_iff_exists.1 h1
  unfold stored
  rw [hu]
  simp [hf]
theorem roomy_set (w : World) (g o : Nat) (v : Value) (h : Roomy w g) : Roomy (w.setCell ⟨g, o, none⟩ v) g := fun k hk => by
  obtain ⟨h1, hf⟩ := h k hk
  refine ⟨by rw [isSome_set]; exact h1, ?_⟩
  simpa [go_sem] using hf
theorem roomy_call {w w' : World} {g : Nat} (hb : Below w.heap.size w w') (h : Roomy w g) : Roomy w' g := fun k hk => by
  obtain ⟨h1, hf⟩ := h k hk
  obtain ⟨u, hu⟩ := Option.isSome_iff_exists.1 h1
  exact ⟨by rw [keep_cell hb hu]; rfl, keep_frozen hb (World.block_lt_of_cell? w _ hu) hf⟩
theorem roomy_drew {w : World} {g : Nat} (h : Roomy w g) : Roomy w.drew g := h
theorem stored_roomy0 (P : Program) (w : World) (g : Nat) (v : Value) (m : Mode) (h : Roomy w g) : stored P w ⟨g, 0, none⟩ v m = .ok () (w.setCell ⟨g, 0, none⟩ v) := stored_roomy P w g 0 v m h (by omega)
theorem roomy_set0 (w : World) (g : Nat) (v : Value) (h : Roomy w g) : Roomy (w.setCell ⟨g, 0, none⟩ v) g := roomy_set w g 0 v h
theorem stored_roomy1 (P : Program) (w : World) (g : Nat) (v : Value) (m : Mode) (h : Roomy w g) : stored P w ⟨g, 1, none⟩ v m = .ok () (w.setCell ⟨g, 1, none⟩ v) := stored_roomy P w g 1 v m h (by omega)
theorem roomy_set1 (w : World) (g : Nat) (v : Value) (h : Roomy w g) : Roomy (w.setCell ⟨g, 1, none⟩ v) g := roomy_set w g 1 v h
theorem stored_roomy2 (P : Program) (w : World) (g : Nat) (v : Value) (m : Mode) (h : Roomy w g) : stored P w ⟨g, 2, none⟩ v m = .ok () (w.setCell ⟨g, 2, none⟩ v) := stored_roomy P w g 2 v m h (by omega)
theorem roomy_set2 (w : World) (g : Nat) (v : Value) (h : Roomy w g) : Roomy (w.setCell ⟨g, 2, none⟩ v) g := roomy_set w g 2 v h
theorem stored_roomy3 (P : Program) (w : World) (g : Nat) (v : Value) (m : Mode) (h : Roomy w g) : stored P w ⟨g, 3, none⟩ v m = .ok () (w.setCell ⟨g, 3, none⟩ v) := stored_roomy P w g 3 v m h (by omega)
theorem roomy_set3 (w : World) (g : Nat) (v : Value) (h : Roomy w g) : Roomy (w.setCell ⟨g, 3, none⟩ v) g := roomy_set w g 3 v h
theorem stored_new (P : Program) (w : World) (cs : Array Value) (t : TypeId) (o : Nat) (v : Value) (m : Mode) (ho : o < cs.size) : stored P (w.alloc (.cells cs t)).drew ⟨w.heap.size, o, none⟩ v m = .ok () ((w.alloc (.cells cs t)).drew.setCell ⟨w.heap.size, o, none⟩ v) := by
  unfold stored
  have h1 : (w.alloc (.cells cs t)).drew.cell? ⟨w.heap.size, o, none⟩ = some cs[o] := by simp [go_sem, ho]
  have h2 : (w.alloc (.cells cs t)).drew.frozen? ⟨w.heap.size, o, none⟩ = false := by simp [go_sem]
  rw [h1]
  simp [h2]
theorem stored_new0 (P : Program) (w : World) (x0 x1 x2 x3 x4 x5 x6 v : Value) (t : TypeId) (m : Mode) : stored P (w.alloc (.cells #[x0, x1, x2, x3, x4, x5, x6] t)).drew ⟨w.heap.size, 0, none⟩ v m = .ok () ((w.alloc (.cells #[x0, x1, x2, x3, x4, x5, x6] t)).drew.setCell ⟨w.heap.size, 0, none⟩ v) := stored_new _ _ _ _ _ _ _ (by simp)
theorem stored_new1 (P : Program) (w : World) (x0 x1 x2 x3 x4 x5 x6 v : Value) (t : TypeId) (m : Mode) : stored P (w.alloc (.cells #[x0, x1, x2, x3, x4, x5, x6] t)).drew ⟨w.heap.size, 1, none⟩ v m = .ok () ((w.alloc (.cells #[x0, x1, x2, x3, x4, x5, x6] t)).drew.setCell ⟨w.heap.size, 1, none⟩ v) := stored_new _ _ _ _ _ _ _ (by simp)
theorem stored_new2 (P : Program) (w : World) (x0 x1 x2 x3 x4 x5 x6 v : Value) (t : TypeId) (m : Mode) : stored P (w.alloc (.cells #[x0, x1, x2, x3, x4, x5, x6] t)).drew ⟨w.heap.size, 2, none⟩ v m = .ok () ((w.alloc (.cells #[x0, x1, x2, x3, x4, x5, x6] t)).drew.setCell ⟨w.heap.size, 2, none⟩ v) := stored_new _ _ _ _ _ _ _ (by simp)
theorem stored_new3 (P : Program) (w : World) (x0 x1 x2 x3 x4 x5 x6 v : Value) (t : TypeId) (m : Mode) : stored P (w.alloc (.cells #[x0, x1, x2, x3, x4, x5, x6] t)).drew ⟨w.heap.size, 3, none⟩ v m = .ok () ((w.alloc (.cells #[x0, x1, x2, x3, x4, x5, x6] t)).drew.setCell ⟨w.heap.size, 3, none⟩ v) := stored_new _ _ _ _ _ _ _ (by simp)
theorem stored_new4 (P : Program) (w : World) (x0 x1 x2 x3 x4 x5 x6 v : Value) (t : TypeId) (m : Mode) : stored P (w.alloc (.cells #[x0, x1, x2, x3, x4, x5, x6] t)).drew ⟨w.heap.size, 4, none⟩ v m = .ok () ((w.alloc (.cells #[x0, x1, x2, x3, x4, x5, x6] t)).drew.setCell ⟨w.heap.size, 4, none⟩ v) := stored_new _ _ _ _ _ _ _ (by simp)
theorem stored_new5 (P : Program) (w : World) (x0 x1 x2 x3 x4 x5 x6 v : Value) (t : TypeId) (m : Mode) : stored P (w.alloc (.cells #[x0, x1, x2, x3, x4, x5, x6] t)).drew ⟨w.heap.size, 5, none⟩ v m = .ok () ((w.alloc (.cells #[x0, x1, x2, x3, x4, x5, x6] t)).drew.setCell ⟨w.heap.size, 5, none⟩ v) := stored_new _ _ _ _ _ _ _ (by simp)
theorem stored_new6 (P : Program) (w : World) (x0 x1 x2 x3 x4 x5 x6 v : Value) (t : TypeId) (m : Mode) : stored P (w.alloc (.cells #[x0, x1, x2, x3, x4, x5, x6] t)).drew ⟨w.heap.size, 6, none⟩ v m = .ok () ((w.alloc (.cells #[x0, x1, x2, x3, x4, x5, x6] t)).drew.setCell ⟨w.heap.size, 6, none⟩ v) := stored_new _ _ _ _ _ _ _ (by simp)
attribute [local go_sem high] stored_roomy0 stored_roomy1 stored_roomy2 stored_roomy3 roomy_set0 roomy_set1 roomy_set2 roomy_set3 stored_new0 stored_new1 stored_new2 stored_new3 stored_new4 stored_new5 stored_new6
attribute [-go_sem] stored
theorem four_cells {W : World} {g : Nat} {x0 x1 x2 x3 : Value} (kr : Roomy ((((W.setCell ⟨g, 0, none⟩ x0).setCell ⟨g, 1, none⟩ x1).setCell ⟨g, 2, none⟩ x2).setCell ⟨g, 3, none⟩ x3) g) :
    ((((W.setCell ⟨g, 0, none⟩ x0).setCell ⟨g, 1, none⟩ x1).setCell ⟨g, 2, none⟩ x2).setCell ⟨g, 3, none⟩ x3).cell? ⟨g, 0, none⟩ = some x0 ∧
    ((((W.setCell ⟨g, 0, none⟩ x0).setCell ⟨g, 1, none⟩ x1).setCell ⟨g, 2, none⟩ x2).setCell ⟨g, 3, none⟩ x3).cell? ⟨g, 1, none⟩ = some x1 ∧
    ((((W.setCell ⟨g, 0, none⟩ x0).setCell ⟨g, 1, none⟩ x1).setCell ⟨g, 2, none⟩ x2).setCell ⟨g, 3, none⟩ x3).cell? ⟨g, 2, none⟩ = some x2 ∧
    ((((W.setCell ⟨g, 0, none⟩ x0).setCell ⟨g, 1, none⟩ x1).setCell ⟨g, 2, none⟩ x2).setCell ⟨g, 3, none⟩ x3).cell? ⟨g, 3, none⟩ = some x3 := by
  have i0 := (kr 0 (by omega)).1
  have i1 := (kr 1 (by omega)).1
  have i2 := (kr 2 (by omega)).1
  have i3 := (kr 3 (by omega)).1
  simp only [isSome_set] at i0 i1 i2 i3
  refine ⟨?_, ?_, ?_, ?_⟩
  · rw [World.cell?_setCell_other _ _ _ _ (by simp), World.cell?_setCell_other _ _ _ _ (by simp), World.cell?_setCell_other _ _ _ _ (by simp), World.cell?_setCell_same' _ _ _ i0]
  · rw [World.cell?_setCell_other _ _ _ _ (by simp), World.cell?_setCell_other _ _ _ _ (by simp), World.cell?_setCell_same' _ _ _ (by rw [isSome_set]; exact i1)]
  · rw [World.cell?_setCell_other _ _ _ _ (by simp), World.cell?_setCell_same' _ _ _ (by simp only [isSome_set]; exact i2)]
  · rw [World.cell?_setCell_same' _ _ _ (by simp only [isSome_set]; exact i3)]
/-- divide.Div, as the loads give its arguments. -/
theorem div_small (a c : Int) (ha : Wide a) (hc : Word c) (h0 : c ≠ 0) (w : World) :
    Calls Try.prog 110 #[wv a, .agg #[.int .u64 0, .int .u64 c]] w fun e w' => e = .returned (.tuple #[wv (a / c), wv (a % c), .int .i64 0]) ∧ Below w.heap.size w w' := by
  have h := divide_Div_c a c ha hc.wide (by have := hc.1; omega) w
  rwa [show wv c = .agg #[.int .u64 0, .int .u64 c] by unfold wv; rw [hiW_small hc, loW_small hc]] at h
theorem below_then2 {g : Nat} {w W w' : World} (hb : Below W.heap.size W w') (h : Roomy W g) (k : Below g w W) : Below g w w' := by
  obtain ⟨u, hu⟩ := Option.isSome_iff_exists.1 (h 0 (by omega)).1
  exact below_then_ k (Nat.le_of_lt (World.block_lt_of_cell? W _ hu)) hb
theorem cell_set2 {g : Nat} {W : World} {p : Addr} {u : Value} (h : W.cell? p = some u) (o o' : Nat) (v v' : Value) (n1 : Addr.mk g o none ≠ p) (n2 : Addr.mk g o' none ≠ p) : ((W.setCell ⟨g, o, none⟩ v).setCell ⟨g, o', none⟩ v').cell? p = some u := by
  rw [World.cell?_setCell_other _ _ _ _ n2, World.cell?_setCell_other _ _ _ _ n1]; exact h
theorem below_set2 {g : Nat} {w W : World} (h : Below g w W) (o o' : Nat) (v v' : Value) : Below g w ((W.setCell ⟨g, o, none⟩ v).setCell ⟨g, o', none⟩ v') := (h.setCell (Nat.le_refl _) _).setCell (Nat.le_refl _) _
theorem alloc_drew_block (w : World) (o : Obj) : (w.alloc o).drew.heap[w.heap.size]? = some o := by
  show (w.heap.push o)[w.heap.size]? = some o
  simp
theorem signed_of {W : World} {bel : Bool} {q R : Int} (h0 : 0 ≤ q) (h1 : q < 340282366920938463463374607431768211456) (hR : (if bel = true then -q else q) = R) :
    Calls Try.prog 111 #[wv q, .bool bel] W fun e w' => e = (if IsInt R then .returned (.int .i64 R) else .panicked overChain) ∧ Below W.heap.size W w' := by
  obtain ⟨g1, g2⟩ := below_of h0 hR
  by_cases hi : IsInt R
  · obtain ⟨p1, p2, p3⟩ := g1 hi
    rw [if_pos hi]
    have := signed_ok (hiW q) (loW q) bel (word_loW q) p1 p2 W
    rwa [p3] at this
  · rw [if_neg hi]
    exact signed_bad (hiW q) (loW q) bel (word_loW q) (word_hiW ⟨h0, h1⟩) (g2 hi) W
set_option maxHeartbeats 4000000 in
set_option maxRecDepth 100000 in
theorem md1_c (gc ga gb gall gm : Nat) (a b c m : Int) (ha : IsInt a) (hb : IsInt b) (hc : IsInt c) (hc0 : c ≠ 0) (hm01 : m = 0 ∨ m = 1) (w : World)
    (ca : w.cell? ⟨ga, 0, none⟩ = some (.int .i64 a)) (cb : w.cell? ⟨gb, 0, none⟩ = some (.int .i64 b)) (cc : w.cell? ⟨gc, 0, none⟩ = some (.int .i64 c)) (cm : w.cell? ⟨gm, 0, none⟩ = some (.int .i64 m))
    (cf0 : w.cell? ⟨gall, 0, none⟩ = some (.func (.func 127) #[] #[])) (cf1 : w.cell? ⟨gall, 1, none⟩ = some (.func (.func 128) #[] #[])) :
    Calls Try.prog 108 #[.pointer (some ⟨gc, 0, none⟩), .pointer (some ⟨ga, 0, none⟩), .pointer (some ⟨gb, 0, none⟩), .pointer (some ⟨gall, 0, none⟩), .pointer (some ⟨gm, 0, none⟩)] w fun e w' => e = (if IsInt (md (a * b) c m) then .returned (.int .i64 (md (a * b) c m)) else .panicked overChain) ∧ Below w.heap.size w w' := by
  generalize hR : md (a * b) c m = R
  have HR := Lib.hid hR
  clear hR
  have CA := Lib.hid ca
  have CB := Lib.hid cb
  have CM := Lib.hid cm
  have CF0 := Lib.hid cf0
  have CF1 := Lib.hid cf1
  have HC0 := Lib.hid hc0
  clear cf0 cf1
  have wa := absZ_word ha
  have wb := absZ_word hb
  have wC := absZ_word hc
  have wc0 : absZ c ≠ 0 := by unfold absZ; split <;> omega
  have hm := word_mul wa wb
  obtain ⟨t1, h1⟩ : ∃ t, decide (a < 0) = t := ⟨_, rfl⟩
  obtain ⟨t2, h2⟩ : ∃ t, decide (b < 0) = t := ⟨_, rfl⟩
  obtain ⟨t3, h3⟩ : ∃ t, decide (c < 0) = t := ⟨_, rfl⟩
  go_enter Try.func108, Try.ntmps108
  go_upto_region 1 with fail
  go_cut [6] (fun s6 wx => s6 = .pointer (some ⟨w.heap.size, 0, none⟩) ∧ wx.heap[w.heap.size]? = some (leftO 0 0 0 0 (absZ c) ((t1 != t2) != t3)) ∧ Below w.heap.size w wx)
  case first =>
    go_region_held3 (fun w' => w'.cell? ⟨ga, 0, none⟩ = some (.int .i64 a) ∧ w'.cell? ⟨gb, 0, none⟩ = some (.int .i64 b) ∧ w'.cell? ⟨gc, 0, none⟩ = some (.int .i64 c) ∧ Below w.heap.size w w')
      ((first | (go_split_ands; refine ⟨?_, ?_, ?_, ?_⟩ <;> assumption) | (go_split_ands; refine ⟨?_, ?_, ?_, ?_⟩ <;> first | exact keep_cell hbw (by assumption) | exact below_then_ (by assumption) (Below.size (by assumption)) hbw | exact alloc_cell (by assumption) _ | exact Below.alloc (by assumption) (Below.size (by assumption)) _ | exact ((Below.refl _ _).alloc (Nat.le_refl _) _).drew | exact Below.drew (Below.alloc (by assumption) (Below.size (by assumption)) _)) | (refine ⟨?_, ?_, ?_, ?_⟩ <;> first | exact Below.drew (Below.refl _ _) | (simp [go_sem, *]; done))))
      (first | (go_at_call 109; ((with_reducible refine (fix_size_c c hc _).mono ?_); rintro e w' ⟨rfl, rfl⟩)))
    all_goals
      go_step
      rename_i J K' hJ hK hHeld
      obtain ⟨-, -, -, hS⟩ := hHeld
      refine hK _ _ (Met.intro ?_)
      refine hJ _ _ ?_
      (repeat apply Exists.intro)
      refine ⟨?_, rfl⟩
      exact ⟨rfl, alloc_drew_block _ _, hS⟩
  case rest =>
    obtain ⟨rfl, hg, hB⟩ := hcut
    have ka : wc.cell? ⟨ga, 0, none⟩ = some (.int .i64 a) := keep_cell hB ca
    have kb : wc.cell? ⟨gb, 0, none⟩ = some (.int .i64 b) := keep_cell hB cb
    have km : wc.cell? ⟨gm, 0, none⟩ = some (.int .i64 m) := keep_cell hB cm
    have na : ga ≠ w.heap.size := Nat.ne_of_lt (World.block_lt_of_cell? w _ ca)
    have nb : gb ≠ w.heap.size := Nat.ne_of_lt (World.block_lt_of_cell? w _ cb)
    have nm : gm ≠ w.heap.size := Nat.ne_of_lt (World.block_lt_of_cell? w _ cm)
    clear ca cb cc cm
    have l0 : wc.cell? ⟨w.heap.size, 0, none⟩ = some (.int .u64 0) := by simp [World.cell?, hg]
    have l1 : wc.cell? ⟨w.heap.size, 1, none⟩ = some (.int .u64 0) := by simp [World.cell?, hg]
    have l2 : wc.cell? ⟨w.heap.size, 2, none⟩ = some (.int .u64 0) := by simp [World.cell?, hg]
    have l3 : wc.cell? ⟨w.heap.size, 3, none⟩ = some (.int .u64 0) := by simp [World.cell?, hg]
    have l4 : wc.cell? ⟨w.heap.size, 4, none⟩ = some (.int .u64 0) := by simp [World.cell?, hg]
    have l5 : wc.cell? ⟨w.heap.size, 5, none⟩ = some (.int .u64 (absZ c)) := by simp [World.cell?, hg]
    have l6 : wc.cell? ⟨w.heap.size, 6, none⟩ = some (.bool ((t1 != t2) != t3)) := by simp [World.cell?, hg]
    have z0 : wc.frozen? ⟨w.heap.size, 0, none⟩ = false := by simp [World.frozen?, hg]
    have z1 : wc.frozen? ⟨w.heap.size, 1, none⟩ = false := by simp [World.frozen?, hg]
    have z2 : wc.frozen? ⟨w.heap.size, 2, none⟩ = false := by simp [World.frozen?, hg]
    have z3 : wc.frozen? ⟨w.heap.size, 3, none⟩ = false := by simp [World.frozen?, hg]
    have hrm : Roomy wc w.heap.size := fun o ho => by
      have : o = 0 ∨ o = 1 ∨ o = 2 ∨ o = 3 := by omega
      rcases this with rfl | rfl | rfl | rfl
      · exact ⟨by rw [l0]; rfl, z0⟩
      · exact ⟨by rw [l1]; rfl, z1⟩
      · exact ⟨by rw [l2]; rfl, z2⟩
      · exact ⟨by rw [l3]; rfl, z3⟩
    clear l0 l1 l2 l3 z0 z1 z2 z3
    have na' := na.symm
    have nb' := nb.symm
    have HD : Hid (∀ W, Calls Try.prog 110 #[wv (absZ a * absZ b), .agg #[.int .u64 0, .int .u64 (absZ c)]] W fun e w' => e = .returned (.tuple #[wv (absZ a * absZ b / absZ c), wv (absZ a * absZ b % absZ c), .int .i64 0]) ∧ Below W.heap.size W w') := Lib.hid (fun W => div_small _ _ hm wC wc0 W)
    have HM : Hid (∀ W, Calls Try.prog 49 #[.int .u64 (absZ a), .int .u64 (absZ b)] W fun e w' => e = .returned (wv (absZ a * absZ b)) ∧ Below W.heap.size W w') := Lib.hid (fun W => wide_Mul_c _ _ wa wb W)
    have hqs := quot_small ha hb hc0
    generalize hq : absZ a * absZ b / absZ c = q at *
    generalize hr : absZ a * absZ b % absZ c = r at *
    have HQ := Lib.hid hq
    have HRR := Lib.hid hr
    clear hq hr
    generalize hgg : w.heap.size = g at *
    have HG := Lib.hid hgg
    clear hgg
    clear hg wc0 hm wa wb wC
    go_upto_region 2 with fail
    go_cut [6] (fun s6 wx => s6 = .pointer (some ⟨g, 0, none⟩) ∧ wx.cell? ⟨g, 0, none⟩ = some (.int .u64 (hiW q)) ∧ wx.cell? ⟨g, 1, none⟩ = some (.int .u64 (loW q)) ∧ wx.cell? ⟨g, 2, none⟩ = some (.int .u64 (hiW r)) ∧ wx.cell? ⟨g, 3, none⟩ = some (.int .u64 (loW r)) ∧ wx.cell? ⟨g, 4, none⟩ = some (.int .u64 0) ∧ wx.cell? ⟨g, 5, none⟩ = some (.int .u64 (absZ c)) ∧ wx.cell? ⟨g, 6, none⟩ = some (.bool ((t1 != t2) != t3)) ∧ Below g w wx ∧ Roomy wx g)
    case first =>
      go_region_held3 (fun w' => w'.cell? ⟨ga, 0, none⟩ = some (.int .i64 a) ∧ w'.cell? ⟨gb, 0, none⟩ = some (.int .i64 b) ∧ w'.cell? ⟨g, 4, none⟩ = some (.int .u64 0) ∧ w'.cell? ⟨g, 5, none⟩ = some (.int .u64 (absZ c)) ∧ w'.cell? ⟨g, 6, none⟩ = some (.bool ((t1 != t2) != t3)) ∧ Roomy w' g ∧ Below g w w')
        ((first | (go_split_ands; refine ⟨?_, ?_, ?_, ?_, ?_, ?_, ?_⟩ <;> with_reducible assumption) | (go_split_ands; refine ⟨?_, ?_, ?_, ?_, ?_, ?_, ?_⟩ <;> first | with_reducible assumption | with_reducible exact keep_cell hbw (by assumption) | with_reducible exact roomy_call hbw (by assumption) | with_reducible exact below_then2 hbw (by assumption) (by assumption) | with_reducible exact below_set2 (by assumption) _ _ _ _ | with_reducible exact roomy_set _ _ _ _ (roomy_set _ _ _ _ (by assumption)) | with_reducible exact cell_set2 (by assumption) _ _ _ _ (by simp [*]) (by simp [*]) | with_reducible exact Below.drew (by assumption) | with_reducible exact roomy_drew (by assumption) | (simp [go_sem, *]; done))))
        (first | (go_at_call 109; ((with_reducible refine (fix_size_c a ha _).mono ?_); rintro e w' ⟨rfl, rfl⟩)) | (go_at_call 109; ((with_reducible refine (fix_size_c b hb _).mono ?_); rintro e w' ⟨rfl, rfl⟩)) | (go_at_call 49; ((with_reducible refine (HM.out _).mono ?_); rintro e w' ⟨rfl, hbw⟩)) | (go_at_call 110; ((with_reducible refine (HD.out _).mono ?_); rintro e w' ⟨rfl, hbw⟩)))
      all_goals
        go_step
        rename_i hHeld
        rename ∀ (a' : Act) (w' : World), Met _ a' w' → _ => hK
        rename ∀ (a' : Act) (w' : World), (∃ _, _) → _ => hJ
        obtain ⟨-, -, k4, k5, k6, kr, kB⟩ := hHeld
        obtain ⟨k0, k1, k2, k3⟩ := four_cells kr
        refine hK _ _ (Met.intro ?_)
        refine hJ _ _ ?_
        (repeat apply Exists.intro)
        refine ⟨?_, rfl⟩
        exact ⟨rfl, k0, k1, k2, k3, k4, k5, k6, kB, kr⟩
    case rest =>
      obtain ⟨rfl, k0, k1, k2, k3, k4, k5, k6, kB, kr⟩ := hcut
      have kB' : Below w.heap.size w wc := by rw [HG.out]; exact kB
      clear ka kb km na nb nm na' nb' HD HM hrm hB
      have ka : wc.cell? ⟨ga, 0, none⟩ = some (.int .i64 a) := keep_cell kB' CA.out
      have kb : wc.cell? ⟨gb, 0, none⟩ = some (.int .i64 b) := keep_cell kB' CB.out
      have km : wc.cell? ⟨gm, 0, none⟩ = some (.int .i64 m) := keep_cell kB' CM.out
      have kf0 : wc.cell? ⟨gall, 0, none⟩ = some (.func (.func 127) #[] #[]) := keep_cell kB' CF0.out
      have kf1 : wc.cell? ⟨gall, 1, none⟩ = some (.func (.func 128) #[] #[]) := keep_cell kB' CF1.out
      by_cases ha0 : a = 0
      · subst ha0
        have hz : R = 0 := by
          rw [← HR.out, Int.zero_mul]
          unfold md cl fl
          split <;> (split <;> simp)
        subst hz
        go_wp2
        go_ret
        exact ⟨rfl, kB'⟩
      · by_cases hb0 : b = 0
        · subst hb0
          have hz : R = 0 := by
            rw [← HR.out, Int.mul_zero]
            unfold md cl fl
            split <;> (split <;> simp)
          subst hz
          go_wp2
          go_ret
          exact ⟨rfl, kB'⟩
        · have ea : (a == 0) = false := beq_eq_false_iff_ne.2 ha0
          have eb : (b == 0) = false := beq_eq_false_iff_ne.2 hb0
          have eg1 := enters_of Try.func127 (by kernel_rfl) rfl
          have eg2 := enters_of Try.func128 (by kernel_rfl) rfl
          obtain ⟨bel, hbel⟩ : ∃ bel, ((t1 != t2) != t3) = bel := ⟨_, rfl⟩
          rw [hbel] at k6
          rw [← h1, ← h2, ← h3] at hbel
          clear h1 h2 h3
          rcases hm01 with rfl | rfl
          · go_upto_region 5 with fail
            refine wp_region_plan (fun _ _ => Knows g w [(⟨gm, 0, none⟩, .int .i64 0), (⟨gall, 0, none⟩, .func (.func 127) #[] #[]), (⟨g, 0, none⟩, .int .u64 (hiW q)), (⟨g, 1, none⟩, .int .u64 (loW q)), (⟨g, 2, none⟩, .int .u64 (hiW r)), (⟨g, 3, none⟩, .int .u64 (loW r)), (⟨g, 4, none⟩, .int .u64 0), (⟨g, 5, none⟩, .int .u64 (absZ c)), (⟨g, 6, none⟩, .bool bel)] [⟨g, 0, none⟩, ⟨g, 1, none⟩]) 5 (by kernel_rfl) (by kernel_rfl) rfl ?_ ?_
            · have hgl := World.block_lt_of_cell? wc _ k0
              exact Knows.drew ⟨kB, Nat.le_of_lt hgl, ⟨km, kf0, k0, k1, k2, k3, k4, k5, k6, trivial⟩, ⟨hgl, (kr 0 (by omega)).2⟩, ⟨hgl, (kr 1 (by omega)).2⟩, trivial⟩
            simp only [List.zipIdx_cons, List.zipIdx_nil, List.map_cons, List.map_nil, Nat.zero_add, Nat.reduceAdd]
            apply inOrder_op rfl rfl
            · intro L g' W _ _ _ hW
              obtain ⟨-, -, ⟨q1, q2, q3, q4, q5, q6, q7, q8, q9, -⟩, -⟩ := id hW
              apply comes_value (hv := rfl) (hD := hW)
              go_simp
              rfl
            simp only [Act.put, List.setIfInBounds_toArray, List.set_cons_zero, List.set_cons_succ]
            apply inOrder_op rfl rfl
            · intro L g' W _ _ _ hW
              obtain ⟨-, -, ⟨q1, q2, q3, q4, q5, q6, q7, q8, q9, -⟩, -⟩ := id hW
              apply comes_value (hv := rfl) (hD := hW)
              go_simp
              rfl
            simp only [Act.put, List.setIfInBounds_toArray, List.set_cons_zero, List.set_cons_succ]
            apply inOrder_op rfl rfl
            · intro L g' W _ _ _ hW
              obtain ⟨-, -, ⟨q1, q2, q3, q4, q5, q6, q7, q8, q9, -⟩, -⟩ := id hW
              apply comes_value (hv := rfl) (hD := hW)
              go_simp
              rfl
            simp only [Act.put, List.setIfInBounds_toArray, List.set_cons_zero, List.set_cons_succ]
            apply inOrder_op rfl rfl
            · intro L g' W _ _ _ hW
              obtain ⟨-, -, ⟨q1, q2, q3, q4, q5, q6, q7, q8, q9, -⟩, -⟩ := id hW
              apply comes_value (hv := rfl) (hD := hW)
              go_simp
              rfl
            simp only [Act.put, List.setIfInBounds_toArray, List.set_cons_zero, List.set_cons_succ]
            apply inOrder_op rfl rfl
            · intro L g' W _ _ _ hW
              obtain ⟨-, -, ⟨q1, q2, q3, q4, q5, q6, q7, q8, q9, -⟩, -⟩ := id hW
              apply comes_call
              · go_simp
                first | rfl | exact ⟨rfl, rfl⟩ | exact ⟨⟨rfl, rfl⟩, rfl⟩
              · refine (modes1_c _ _ r _ _ bel W).mono ?_
                rintro e w' ⟨rfl, hb⟩
                exact ⟨rfl, Knows.call hW hb⟩
            simp only [Act.put, List.setIfInBounds_toArray, List.set_cons_zero, List.set_cons_succ]
            refine inOrder_nil ?_
            intro W hW
            obtain ⟨hWB, hWs, ⟨-, -, q1, q2, -, -, -, -, q3, -⟩, ⟨-, z1⟩, ⟨-, z2⟩, -⟩ := hW
            clear km kf0 kf1 k0 k1 k2 k3 k4 k5 k6 kB kB' kr ka kb eg1 eg2
            obtain ⟨mo, hmo⟩ : ∃ mo, (bel && decide (r ≠ 0)) = mo := ⟨_, rfl⟩
            rw [hmo]
            have hR := md_parts (m := 0) ha0 hb0 HC0.out HQ.out HRR.out hbel (by simpa using hmo)
            rw [HR.out] at hR
            clear hmo
            cases mo
            · have HS := signed_of (W := W) (bel := bel) (q := q) (R := R) hqs.1 (by omega) (by simpa using hR)
              have HS' := Lib.hid HS
              clear HS hR
              by_cases hi : IsInt R
              · rw [if_pos hi] at HS'
                go_wp2_with (first | (go_at_call 111; refine (HS'.out).mono ?_; rintro e w' ⟨rfl, hb⟩))
                go_ret
                exact ⟨rfl, HG.out ▸ hWB.trans (hb.mono hWs)⟩
              · rw [if_neg hi] at HS'
                go_wp2_with (first | (go_at_call 111; refine (HS'.out).mono ?_; rintro e w' ⟨rfl, hb⟩))
                exact ⟨rfl, rfl, HG.out ▸ hWB.trans (hb.mono hWs)⟩
            · have HS := fun W => signed_of (W := W) (bel := bel) (q := q + 1) (R := R) (by omega) (by omega) (by simpa using hR)
              have HA := fun W => wide_Add_c q 1 ⟨hqs.1, by omega⟩ (by decide) W
              rw [mod_wide (show Wide (q + 1) from ⟨by omega, by omega⟩)] at HA
              have HS' := Lib.hid HS
              have HA' := Lib.hid HA
              clear HS HA hR
              go_wp2_with fail
              refine (HA'.out _).mono ?_
              rintro e W1 ⟨rfl, hb1⟩
              have p1 := keep_cell hb1 q1
              have p2 := keep_cell hb1 q2
              have p3 := keep_cell hb1 q3
              have hgl := World.block_lt_of_cell? W _ q1
              have y1 := keep_frozen (p := ⟨g, 0, none⟩) hb1 hgl z1
              have y2 := keep_frozen (p := ⟨g, 1, none⟩) hb1 hgl z2
              have hWB1 : Below g w W1 := hWB.trans (hb1.mono hWs)
              have hWs1 := Nat.le_trans hWs hb1.size
              have st0 : ∀ v m, stored Try.prog W1 ⟨g, 0, none⟩ v m = .ok () (W1.setCell ⟨g, 0, none⟩ v) := fun v m => by unfold stored; rw [p1]; simp [y1]
              have st1 : ∀ u v m, stored Try.prog (W1.setCell ⟨g, 0, none⟩ u) ⟨g, 1, none⟩ v m = .ok () ((W1.setCell ⟨g, 0, none⟩ u).setCell ⟨g, 1, none⟩ v) := fun u v m => by unfold stored; rw [World.cell?_setCell_other _ _ _ _ (by simp), p2]; simp [y2]
              clear q1 q2 q3 z1 z2 hb1 hgl
              by_cases hi : IsInt R
              · simp only [if_pos hi] at HS'
                go_wp2_with (first | (go_at_call 111; refine (HS'.out _).mono ?_; rintro e w' ⟨rfl, hb⟩))
                go_ret
                exact ⟨rfl, HG.out ▸ ((hWB1.setCell (Nat.le_refl _) _).setCell (Nat.le_refl _) _).trans (hb.mono (by simpa using hWs1))⟩
              · simp only [if_neg hi] at HS'
                go_wp2_with (first | (go_at_call 111; refine (HS'.out _).mono ?_; rintro e w' ⟨rfl, hb⟩))
                exact ⟨rfl, rfl, HG.out ▸ ((hWB1.setCell (Nat.le_refl _) _).setCell (Nat.le_refl _) _).trans (hb.mono (by simpa using hWs1))⟩
          · go_upto_region 5 with fail
            refine wp_region_plan (fun _ _ => Knows g w [(⟨gm, 0, none⟩, .int .i64 1), (⟨gall, 1, none⟩, .func (.func 128) #[] #[]), (⟨g, 0, none⟩, .int .u64 (hiW q)), (⟨g, 1, none⟩, .int .u64 (loW q)), (⟨g, 2, none⟩, .int .u64 (hiW r)), (⟨g, 3, none⟩, .int .u64 (loW r)), (⟨g, 4, none⟩, .int .u64 0), (⟨g, 5, none⟩, .int .u64 (absZ c)), (⟨g, 6, none⟩, .bool bel)] [⟨g, 0, none⟩, ⟨g, 1, none⟩]) 5 (by kernel_rfl) (by kernel_rfl) rfl ?_ ?_
            · have hgl := World.block_lt_of_cell? wc _ k0
              exact Knows.drew ⟨kB, Nat.le_of_lt hgl, ⟨km, kf1, k0, k1, k2, k3, k4, k5, k6, trivial⟩, ⟨hgl, (kr 0 (by omega)).2⟩, ⟨hgl, (kr 1 (by omega)).2⟩, trivial⟩
            simp only [List.zipIdx_cons, List.zipIdx_nil, List.map_cons, List.map_nil, Nat.zero_add, Nat.reduceAdd]
            apply inOrder_op rfl rfl
            · intro L g' W _ _ _ hW
              obtain ⟨-, -, ⟨q1, q2, q3, q4, q5, q6, q7, q8, q9, -⟩, -⟩ := id hW
              apply comes_value (hv := rfl) (hD := hW)
              go_simp
              rfl
            simp only [Act.put, List.setIfInBounds_toArray, List.set_cons_zero, List.set_cons_succ]
            apply inOrder_op rfl rfl
            · intro L g' W _ _ _ hW
              obtain ⟨-, -, ⟨q1, q2, q3, q4, q5, q6, q7, q8, q9, -⟩, -⟩ := id hW
              apply comes_value (hv := rfl) (hD := hW)
              go_simp
              rfl
            simp only [Act.put, List.setIfInBounds_toArray, List.set_cons_zero, List.set_cons_succ]
            apply inOrder_op rfl rfl
            · intro L g' W _ _ _ hW
              obtain ⟨-, -, ⟨q1, q2, q3, q4, q5, q6, q7, q8, q9, -⟩, -⟩ := id hW
              apply comes_value (hv := rfl) (hD := hW)
              go_simp
              rfl
            simp only [Act.put, List.setIfInBounds_toArray, List.set_cons_zero, List.set_cons_succ]
            apply inOrder_op rfl rfl
            · intro L g' W _ _ _ hW
              obtain ⟨-, -, ⟨q1, q2, q3, q4, q5, q6, q7, q8, q9, -⟩, -⟩ := id hW
              apply comes_value (hv := rfl) (hD := hW)
              go_simp
              rfl
            simp only [Act.put, List.setIfInBounds_toArray, List.set_cons_zero, List.set_cons_succ]
            apply inOrder_op rfl rfl
            · intro L g' W _ _ _ hW
              obtain ⟨-, -, ⟨q1, q2, q3, q4, q5, q6, q7, q8, q9, -⟩, -⟩ := id hW
              apply comes_call
              · go_simp
                first | rfl | exact ⟨rfl, rfl⟩ | exact ⟨⟨rfl, rfl⟩, rfl⟩
              · refine (modes2_c _ _ r _ _ bel W).mono ?_
                rintro e w' ⟨rfl, hb⟩
                exact ⟨rfl, Knows.call hW hb⟩
            simp only [Act.put, List.setIfInBounds_toArray, List.set_cons_zero, List.set_cons_succ]
            refine inOrder_nil ?_
            intro W hW
            obtain ⟨hWB, hWs, ⟨-, -, q1, q2, -, -, -, -, q3, -⟩, ⟨-, z1⟩, ⟨-, z2⟩, -⟩ := hW
            clear km kf0 kf1 k0 k1 k2 k3 k4 k5 k6 kB kB' kr ka kb eg1 eg2
            obtain ⟨mo, hmo⟩ : ∃ mo, (!bel && decide (r ≠ 0)) = mo := ⟨_, rfl⟩
            rw [hmo]
            have hR := md_parts (m := 1) ha0 hb0 HC0.out HQ.out HRR.out hbel (by simpa using hmo)
            rw [HR.out] at hR
            clear hmo
            cases mo
            · have HS := signed_of (W := W) (bel := bel) (q := q) (R := R) hqs.1 (by omega) (by simpa using hR)
              have HS' := Lib.hid HS
              clear HS hR
              by_cases hi : IsInt R
              · rw [if_pos hi] at HS'
                go_wp2_with (first | (go_at_call 111; refine (HS'.out).mono ?_; rintro e w' ⟨rfl, hb⟩))
                go_ret
                exact ⟨rfl, HG.out ▸ hWB.trans (hb.mono hWs)⟩
              · rw [if_neg hi] at HS'
                go_wp2_with (first | (go_at_call 111; refine (HS'.out).mono ?_; rintro e w' ⟨rfl, hb⟩))
                exact ⟨rfl, rfl, HG.out ▸ hWB.trans (hb.mono hWs)⟩
            · have HS := fun W => signed_of (W := W) (bel := bel) (q := q + 1) (R := R) (by omega) (by omega) (by simpa using hR)
              have HA := fun W => wide_Add_c q 1 ⟨hqs.1, by omega⟩ (by decide) W
              rw [mod_wide (show Wide (q + 1) from ⟨by omega, by omega⟩)] at HA
              have HS' := Lib.hid HS
              have HA' := Lib.hid HA
              clear HS HA hR
              go_wp2_with fail
              refine (HA'.out _).mono ?_
              rintro e W1 ⟨rfl, hb1⟩
              have p1 := keep_cell hb1 q1
              have p2 := keep_cell hb1 q2
              have p3 := keep_cell hb1 q3
              have hgl := World.block_lt_of_cell? W _ q1
              have y1 := keep_frozen (p := ⟨g, 0, none⟩) hb1 hgl z1
              have y2 := keep_frozen (p := ⟨g, 1, none⟩) hb1 hgl z2
              have hWB1 : Below g w W1 := hWB.trans (hb1.mono hWs)
              have hWs1 := Nat.le_trans hWs hb1.size
              have st0 : ∀ v m, stored Try.prog W1 ⟨g, 0, none⟩ v m = .ok () (W1.setCell ⟨g, 0, none⟩ v) := fun v m => by unfold stored; rw [p1]; simp [y1]
              have st1 : ∀ u v m, stored Try.prog (W1.setCell ⟨g, 0, none⟩ u) ⟨g, 1, none⟩ v m = .ok () ((W1.setCell ⟨g, 0, none⟩ u).setCell ⟨g, 1, none⟩ v) := fun u v m => by unfold stored; rw [World.cell?_setCell_other _ _ _ _ (by simp), p2]; simp [y2]
              clear q1 q2 q3 z1 z2 hb1 hgl
              by_cases hi : IsInt R
              · simp only [if_pos hi] at HS'
                go_wp2_with (first | (go_at_call 111; refine (HS'.out _).mono ?_; rintro e w' ⟨rfl, hb⟩))
                go_ret
                exact ⟨rfl, HG.out ▸ ((hWB1.setCell (Nat.le_refl _) _).setCell (Nat.le_refl _) _).trans (hb.mono (by simpa using hWs1))⟩
              · simp only [if_neg hi] at HS'
                go_wp2_with (first | (go_at_call 111; refine (HS'.out _).mono ?_; rintro e w' ⟨rfl, hb⟩))
                exact ⟨rfl, rfl, HG.out ▸ ((hWB1.setCell (Nat.le_refl _) _).setCell (Nat.le_refl _) _).trans (hb.mono (by simpa using hWs1))⟩
end Go.Proofs.Ytkdfkpalgejkkaa
/-
  fix.MulDiv: a product, divided and rounded down or up; the contract for callers.
-/
set_option linter.unusedSimpArgs false
namespace Go.Proofs.Ytkdfkpalgejkkaa
open Go.RowKit Go.Shelf

theorem fix_MulDiv_c (a b c m : Int) (ha : IsInt a) (hb : IsInt b) (hc : IsInt c) (hc0 : c ≠ 0) (hm : m = 0 ∨ m = 1) (w : World) :
    Calls Try.prog 70 #[.int .i64 a, .int .i64 b, .int .i64 c, .int .i64 m] w fun e w' => e = .returned (.tuple #[.int .i64 (fit (md (a * b) c m)).1, .int .i64 (fit (md (a * b) c m)).2]) ∧ Below w.heap.size w w' := by
  have hmf : ∀ (fn : Fn) (first cap : Array Value) (w : World), (Instr.makeFunc fn first cap).run Try.prog w = .ok (.func fn first cap) w := fun _ _ _ _ => rfl
  have eg := enters_of Try.func108 (by kernel_rfl) rfl
  have HT : Hid (∀ (ga gb gc gall gm : Nat) (W : World), W.cell? ⟨ga, 0, none⟩ = some (.int .i64 a) → W.cell? ⟨gb, 0, none⟩ = some (.int .i64 b) → W.cell? ⟨gc, 0, none⟩ = some (.int .i64 c) → W.cell? ⟨gm, 0, none⟩ = some (.int .i64 m) →
      W.cell? ⟨gall, 0, none⟩ = some (.func (.func 127) #[] #[]) → W.cell? ⟨gall, 1, none⟩ = some (.func (.func 128) #[] #[]) →
      Calls Try.prog 107 #[.func (.func 108) #[] #[.pointer (some ⟨gc, 0, none⟩), .pointer (some ⟨ga, 0, none⟩), .pointer (some ⟨gb, 0, none⟩), .pointer (some ⟨gall, 0, none⟩), .pointer (some ⟨gm, 0, none⟩)]] W fun e w' =>
        e = .returned (.tuple #[.int .i64 (fit (md (a * b) c m)).1, .int .i64 (fit (md (a * b) c m)).2]) ∧ Below W.heap.size W w') := by
    refine Lib.hid fun ga gb gc gall gm W ca cb cc cm cf0 cf1 => ?_
    have key := fun W' (hW : Below W.heap.size W W') => md1_c gc ga gb gall gm a b c m ha hb hc hc0 hm W' (keep_cell hW ca) (keep_cell hW cb) (keep_cell hW cc) (keep_cell hW cm) (keep_cell hW cf0) (keep_cell hW cf1)
    by_cases hs : IsInt (md (a * b) c m)
    · rw [fit_ok hs]
      simp only [if_pos hs] at key
      exact try_ret _ _ _ _ eg key
    · rw [fit_bad hs]
      simp only [if_neg hs] at key
      exact try_panic _ _ _ eg key
  have HM := Lib.hid (fun W => modes_c W)
  clear eg
  have ec : (c == 0) = false := beq_eq_false_iff_ne.2 hc0
  have m1 : ¬ m < 0 := by omega
  have m2 : m < 3 := by omega
  have m3 : decide (m ≥ 3) = false := decide_eq_false (by omega)
  clear hm hc0
  go_enter Try.func70, Try.ntmps70
  go_wp2_with fail
  refine (HM.out _).mono ?_
  rintro e w1 ⟨rfl, hb1⟩
  have c0 : w1.cell? ⟨w.heap.size, 0, none⟩ = some (.int .i64 a) := keep_cell hb1 (by simp [go_sem])
  have c1 : w1.cell? ⟨w.heap.size + 1, 0, none⟩ = some (.int .i64 b) := keep_cell hb1 (by simp [go_sem])
  have c2 : w1.cell? ⟨w.heap.size + 1 + 1, 0, none⟩ = some (.int .i64 c) := keep_cell hb1 (by simp [go_sem])
  have c3 : w1.cell? ⟨w.heap.size + 1 + 1 + 1, 0, none⟩ = some (.int .i64 m) := keep_cell hb1 (by simp [go_sem])
  have hB1 : Below w.heap.size w w1 := below_then_ (((((Below.refl _ _).alloc (Nat.le_refl _) _).alloc (by simp) _).alloc (by simp; omega) _).alloc (by simp; omega) _) (by simp; omega) hb1
  have HB := Lib.hid hB1
  clear hB1 hb1
  have l0 : w.heap.size < w1.heap.size := World.block_lt_of_cell? w1 _ c0
  have l1 : w.heap.size + 1 < w1.heap.size := World.block_lt_of_cell? w1 _ c1
  have l2 : w.heap.size + 1 + 1 < w1.heap.size := World.block_lt_of_cell? w1 _ c2
  have l3 : w.heap.size + 1 + 1 + 1 < w1.heap.size := World.block_lt_of_cell? w1 _ c3
  go_wp2_with fail
  refine (HT.out _ _ _ _ _ _ (by simp [go_sem, *]) (by simp [go_sem, *]) (by simp [go_sem, *]) (by simp [go_sem, *]) (by simp [go_sem]) (by simp [go_sem])).mono ?_
  rintro e w2 ⟨rfl, hb2⟩
  clear HT HM c0 c1 c2 c3
  go_wp2
  go_ret2
  exact ⟨rfl, below_then_ (HB.out.alloc (Nat.le_of_lt l0) _) (by simp; omega) hb2⟩
end Go.Proofs.Ytkdfkpalgejkkaa
/-
  root.Root.
-/
set_option linter.unusedSimpArgs false
namespace Go.Proofs.Ytkdfkpalgejkkaa
open Go.RowKit Go.Shelf

set_option maxHeartbeats 4000000 in
set_option maxRecDepth 100000 in
theorem root1_c (g : Nat) (a x : Int) (hx : Word x) (w : World) (c0 : w.cell? ⟨g, 0, none⟩ = some (.int .u64 (hiW a))) (c1 : w.cell? ⟨g, 1, none⟩ = some (.int .u64 (loW a))) :
    Calls Try.prog 99 #[.int .u64 x, .pointer (some ⟨g, 0, none⟩)] w fun e w' => e = .returned (.bool (decide (x * x ≤ a))) ∧ Below w.heap.size w w' := by
  have hm := word_mul hx hx
  have hd : (!decide (a < x * x)) = decide (x * x ≤ a) := by
    by_cases h : a < x * x
    · rw [decide_eq_true h, decide_eq_false (by omega)]; rfl
    · rw [decide_eq_false h, decide_eq_true (by omega)]; rfl
  rw [← hd]
  clear hd
  go_enter Try.func99, Try.ntmps99
  go_wp2_with fail
  go_region_held3 (fun w' => w'.cell? ⟨g, 0, none⟩ = some (.int .u64 (hiW a)) ∧ w'.cell? ⟨g, 1, none⟩ = some (.int .u64 (loW a)) ∧ Below w.heap.size w w')
      ((first | (go_split_ands; refine ⟨?_, ?_, ?_⟩ <;> assumption) | (go_split_ands; refine ⟨?_, ?_, ?_⟩ <;> first | exact keep_cell hbw (by assumption) | exact below_then_ (by assumption) (Below.size (by assumption)) hbw) | (refine ⟨?_, ?_, ?_⟩ <;> first | exact Below.drew (Below.refl _ _) | (simp [go_sem, *]; done))))
      (first | (go_at_call 49; ((with_reducible refine (wide_Mul_c _ _ hx hx _).mono ?_); rintro e w' ⟨rfl, hbw⟩)) | (go_at_call 50; ((with_reducible refine (wide_Less_c a (x * x) _).mono ?_); rintro e w' ⟨rfl, hbw⟩)))
  go_split_ands
  go_wp2
  go_ret
  exact ⟨rfl, by assumption⟩

theorem blen_zero (x : Nat) (h : x < 18446744073709551616) : Lib.bitLen x = 0 ↔ x = 0 := by
  constructor
  · intro z
    have := (blen_spec x h).1
    rw [z] at this
    omega
  · rintro rfl; decide
theorem or_low {x : Int} (hx : Word x) : Go.bits .or .u64 4294967295 (x / 4294967296) = 4294967295 := by
  obtain ⟨X, rfl⟩ := Int.eq_ofNat_of_zero_le hx.1
  have hX := hx.2
  have h := u64_or_nat 4294967295 (X / 4294967296) (by omega) (by omega)
  have e : 4294967295 ||| X / 4294967296 = 4294967295 := by
    have h1 : X / 4294967296 < 2 ^ 32 := by omega
    apply Nat.eq_of_testBit_eq
    intro i
    rw [Nat.testBit_or]
    by_cases hi : i < 32
    · rw [show (4294967295 : Nat) = 2 ^ 32 - 1 by rfl, Nat.testBit_two_pow_sub_one]; simp [hi]
    · rw [Nat.testBit_lt_two_pow (Nat.lt_of_lt_of_le h1 (Nat.pow_le_pow_right (by omega) (by omega)))]; simp
  rw [e] at h
  exact h

set_option maxHeartbeats 4000000 in
set_option maxRecDepth 100000 in
theorem root_Root_c (a : Int) (ha : Wide a) (w : World) :
    Calls Try.prog 61 #[wv a] w fun e w' => e = .returned (.int .u64 (isqrt a)) ∧ Below w.heap.size w w' := by
  have hmf : ∀ (fn : Fn) (first cap : Array Value) (w : World), (Instr.makeFunc fn first cap).run Try.prog w = .ok (.func fn first cap) w := fun _ _ _ _ => rfl
  have eg := enters_of Try.func99 (by kernel_rfl) rfl
  have hh := word_hiW ha
  have hl := word_loW a
  have hr := isqrt_word ha
  obtain ⟨n, hn⟩ : ∃ n : Int, (Lib.bitLen (hiW a).toNat : Int) = n := ⟨_, rfl⟩
  have hz : n = 0 ↔ hiW a = 0 := by
    have := blen_zero (hiW a).toNat (by unfold Word at hh; omega)
    unfold Word at hh; omega
  have HL : Hid (∀ W, Calls Try.prog 100 #[.int .u64 (hiW a)] W fun e w' => e = .returned (.int .i64 n) ∧ w' = W) := Lib.hid (fun W => by
    rw [← hn]; exact Try.bits_Len64 (hiW a) W hh.1 (by unfold Word at hh; omega))
  obtain ⟨G, hG⟩ : ∃ G : World → Prop, G = fun W => W.cell? ⟨w.heap.size, 0, none⟩ = some (.int .u64 (hiW a)) ∧ W.cell? ⟨w.heap.size, 1, none⟩ = some (.int .u64 (loW a)) := ⟨_, rfl⟩
  have HC : Hid (∀ (x : Int) (W : World), Word x → G W →
      Calls Try.prog 99 #[.int .u64 x, .pointer (some ⟨w.heap.size, 0, none⟩)] W fun e w' => e = .returned (.bool (decide (x * x ≤ a))) ∧ Below W.heap.size W w') :=
    Lib.hid (fun x W hx c => by rw [hG] at c; exact root1_c _ a x hx W c.1 c.2)
  have HK : Hid (∀ W W' : World, G W → Below W.heap.size W W' → G W') := Lib.hid (fun W W' c hb => by rw [hG] at c ⊢; exact ⟨keep_cell hb c.1, keep_cell hb c.2⟩)
  have HG0 : Hid (G (w.alloc (.cells #[.int .u64 (hiW a), .int .u64 (loW a)] 35))) := Lib.hid (by rw [hG]; constructor <;> simp [go_sem])
  clear hG
  have HB0 : Hid (Below w.heap.size w (w.alloc (.cells #[.int .u64 (hiW a), .int .u64 (loW a)] 35))) := Lib.hid ((Below.refl _ _).alloc (Nat.le_refl _) _)
  have HS0 : Hid (w.heap.size < (w.alloc (.cells #[.int .u64 (hiW a), .int .u64 (loW a)] 35)).heap.size) := Lib.hid (by simp)
  have R0 := isqrt_nonneg a
  have hle : Hid (∀ x : Int, 0 ≤ x → (x * x ≤ a ↔ x ≤ isqrt a)) := Lib.hid (fun x hx => (le_isqrt ha.1 hx).symm)
  have hsm : hiW a = 0 → isqrt a ≤ 4294967295 := fun h => by
    have hw := (hiW_eq_zero ha).1 h
    have := isqrt_sq ha.1
    have : isqrt a < 4294967296 := lt_of_sq_lt (by omega) (by have := hw.2; omega)
    omega
  have hol := or_low hl
  show Calls Try.prog 61 #[.agg #[.int .u64 (hiW a), .int .u64 (loW a)]] w _
  generalize hiW a = z at *
  generalize loW a = l at *
  have hr1 : isqrt a ≤ 18446744073709551615 := by unfold Word at hr; omega
  generalize isqrt a = R at *
  clear ha hn hh hl hr
  have h64 : (18446744073709551616 : Int) = 2 ^ 64 := by decide
  by_cases h0 : z = 0
  case' pos =>
    have hn0 : n = 0 := hz.2 h0
    subst hn0
    subst h0
    have HH : Hid ((0 : Int) ≤ 0 ∧ 0 ≤ R ∧ R ≤ 4294967295 ∧ (4294967295 : Int) < 18446744073709551616 ∧ (4294967295 : Int) - 0 < 2 ^ 64) := Lib.hid ⟨by omega, R0, hsm rfl, by omega, by decide⟩
    clear hz R0 hsm hr1 h64
    go_enter Try.func61, Try.ntmps61
    go_wp2_with fail
    go_step3
    go_wp2_with (go_at_call 100; (with_reducible refine (HL.out _).mono ?_); rintro e w' ⟨rfl, rfl⟩)
    go_step3
    go_wp2_with fail
    clear HL hol
    generalize (4294967295 : Int) = hi0 at *
  case' neg =>
    have hn0 : ¬ n = 0 := fun h => h0 (hz.1 h)
    have HH : Hid ((0 : Int) ≤ 0 ∧ 0 ≤ R ∧ R ≤ 18446744073709551615 ∧ (18446744073709551615 : Int) < 18446744073709551616 ∧ (18446744073709551615 : Int) - 0 < 2 ^ 64) := Lib.hid ⟨by omega, R0, hr1, by omega, by decide⟩
    clear hz R0 hsm hr1 h64 hol h0
    go_enter Try.func61, Try.ntmps61
    go_wp2_with fail
    go_step3
    go_wp2_with (go_at_call 100; (with_reducible refine (HL.out _).mono ?_); rintro e w' ⟨rfl, rfl⟩)
    go_step3
    go_wp2_with fail
    have hq : (n == 0) = false := by simpa using hn0
    simp only [hq]
    clear HL
    generalize (18446744073709551615 : Int) = hi0 at *
  all_goals
    go_loopg [4, 5] 64 (fun k v4 v5 wx => ∃ lo hi : Int, v4 = .int .u64 lo ∧ v5 = .int .u64 hi ∧ Hid (0 ≤ lo ∧ lo ≤ R ∧ R ≤ hi ∧ hi < 18446744073709551616 ∧ hi - lo < 2 ^ k) ∧ Hid (G wx) ∧ Hid (Below w.heap.size w wx) ∧ Hid (w.heap.size < wx.heap.size))
    case atStart => exact ⟨0, hi0, rfl, rfl, HH, HG0, HB0, HS0⟩
    case round =>
      clear HG0 HB0 HS0 HH
      obtain ⟨lo, hi, rfl, rfl, H1, HG, HB, HS⟩ := hrel
      obtain ⟨q1, q2, q3, q4, q5⟩ := H1.out
      by_cases e : lo = hi
      · subst e
        obtain rfl : lo = R := by omega
        clear H1 q1 q2 q3 q4 q5
        go_wp2
        simp only [Exit.noGoto_ret]
        go_ret
        exact ⟨rfl, HB.out⟩
      · obtain ⟨k, rfl⟩ : ∃ k, gk = k + 1 := ⟨gk - 1, by
          by_cases z : gk = 0
          · subst z; simp at q5; omega
          · omega⟩
        have hmid : lo < hi - (hi - lo) / 2 ∧ hi - (hi - lo) / 2 ≤ hi ∧ hi - (hi - (hi - lo) / 2) < 2 ^ k ∧ hi - (hi - lo) / 2 - 1 - lo < 2 ^ k := by
          have : (2 : Int) ^ (k + 1) = 2 ^ k * 2 := Int.pow_succ 2 k
          refine ⟨?_, ?_, ?_, ?_⟩ <;> omega
        have HM := Lib.hid hmid
        clear hmid
        go_wp2_with fail
        obtain ⟨m1, m2, m3, m4⟩ := HM.out
        clear HM
        generalize hi - (hi - lo) / 2 = mid at *
        refine (HC.out mid wr ⟨by omega, by omega⟩ HG.out).mono ?_
        rintro ee w' ⟨rfl, hbw⟩
        have HG' := Lib.hid (HK.out _ _ HG.out hbw)
        have HB' := Lib.hid (below_then_ HB.out (Nat.le_of_lt HS.out) hbw)
        have HS' := Lib.hid (Nat.lt_of_lt_of_le HS.out hbw.size)
        have ht := hle.out mid (by omega)
        by_cases t : mid * mid ≤ a
        · have H2 : Hid (0 ≤ mid ∧ mid ≤ R ∧ R ≤ hi ∧ hi < 18446744073709551616 ∧ hi - mid < 2 ^ k) := Lib.hid ⟨by omega, ht.1 t, q3, q4, m3⟩
          clear ht m1 m2 m3 m4 q1 q2 q3 q4 q5 H1 hbw e
          go_wp2
          go_roundg k
          case measure => omega
          case rel => exact ⟨mid, hi, rfl, rfl, H2, HG', HB', HS'⟩
        · have H2 : Hid (0 ≤ lo ∧ lo ≤ R ∧ R ≤ mid - 1 ∧ mid - 1 < 18446744073709551616 ∧ mid - 1 - lo < 2 ^ k) := Lib.hid ⟨q1, q2, by
            by_cases z : mid ≤ R
            · exact absurd (ht.2 z) t
            · omega, by omega, m4⟩
          clear ht m3 m4 q2 q3 q5 H1 hbw e
          go_wp2
          go_roundg k
          case measure => omega
          case rel => exact ⟨lo, mid - 1, rfl, rfl, H2, HG', HB', HS'⟩

/-! ### In the printed form -/
def root_Root.f (h l : Int) : Option Int := if Word h ∧ Word l then some (isqrt (ofW h l)) else none
theorem root_Root.f_eq {a : Int} (ha : Wide a) : root_Root.f (hiW a) (loW a) = some (isqrt a) := by unfold root_Root.f; rw [if_pos ⟨word_hiW ha, word_loW a⟩, ofW_hiW_loW]
theorem root_Root.calls (h l r : Int) (w : World) (hf : root_Root.f h l = some r) :
    Calls Try.prog 61 #[.agg #[.int .u64 h, .int .u64 l]] w fun e w' => e = .returned (.int .u64 r) ∧ Below w.heap.size w w' := by
  unfold root_Root.f at hf
  split at hf
  · rename_i hw
    cases hf
    rw [← wv_ofW hw.2]
    exact root_Root_c _ (wide_ofW hw.1 hw.2) w
  · cases hf
def divide_Div.f (ah al bh bl : Int) : Option (Int × Int × Int × Int × Int) := if (Word ah ∧ Word al) ∧ Word bh ∧ Word bl then (if ofW bh bl = 0 then some (0, 0, 0, 0, 4) else some (hiW (ofW ah al / ofW bh bl), loW (ofW ah al / ofW bh bl), hiW (ofW ah al % ofW bh bl), loW (ofW ah al % ofW bh bl), 0)) else none
theorem divide_Div.calls (ah al bh bl r1 r2 r3 r4 r5 : Int) (w : World) (h : divide_Div.f ah al bh bl = some (r1, r2, r3, r4, r5)) :
    Calls Try.prog 110 #[.agg #[.int .u64 ah, .int .u64 al], .agg #[.int .u64 bh, .int .u64 bl]] w fun e w' => e = .returned (.tuple #[.agg #[.int .u64 r1, .int .u64 r2], .agg #[.int .u64 r3, .int .u64 r4], .int .i64 r5]) ∧ Below w.heap.size w w' := by
  unfold divide_Div.f at h
  split at h
  · rename_i hw
    rw [← wv_ofW hw.1.2, ← wv_ofW hw.2.2]
    split at h
    · rename_i hz
      cases h
      rw [hz]
      exact divide_Div_zero _ w
    · rename_i hz
      cases h
      have := wide_ofW hw.2.1 hw.2.2
      exact divide_Div_c _ _ (wide_ofW hw.1.1 hw.1.2) this (by unfold Wide at this; omega) w
  · cases h
end Go.Proofs.Ytkdfkpalgejkkaa
/-
  limit: the walks of Draw and what it calls.
-/
set_option linter.unusedSimpArgs false
namespace Go.Proofs.Ytkdfkpalgejkkaa
open Go.RowKit Go.Shelf

theorem md_small {x d m : Int} (hd : 1 ≤ d) : -(absZ x) ≤ md x d m ∧ md x d m ≤ absZ x := by
  have h1 := fl_mul_le (p := x) (show 0 < d by omega)
  have hd0 : (0 : Int) < d := by omega
  have a1 : fl x d ≤ absZ x := by
    rw [fl_pos hd0]
    unfold absZ
    split
    · have := Int.ediv_neg_of_neg_of_pos (show x < 0 by assumption) hd0
      omega
    · exact Int.ediv_le_self _ (by omega)
  have a2 : -(absZ x) ≤ fl x d := by
    refine (le_fl hd0).2 ?_
    have := absZ_nonneg x
    have h3 : -(absZ x) * d ≤ -(absZ x) * 1 := Int.mul_le_mul_of_nonpos_left (by omega) hd
    have h4 : -(absZ x) ≤ x := by unfold absZ; split <;> omega
    omega
  have b1 : cl x d ≤ absZ x := by
    refine (cl_le hd0).2 ?_
    have := absZ_nonneg x
    have h3 : absZ x * 1 ≤ absZ x * d := Int.mul_le_mul_of_nonneg_left hd (by omega)
    have h4 : x ≤ absZ x := by unfold absZ; split <;> omega
    omega
  have b2 : -(absZ x) ≤ cl x d := Int.le_trans a2 (fl_le_cl (by omega))
  unfold md
  split
  · exact ⟨a2, a1⟩
  · exact ⟨b2, b1⟩
theorem md_int {x d m : Int} (hx : -9223372036854775807 ≤ x ∧ x ≤ 9223372036854775807) (hd : 1 ≤ d) : IsInt (md x d m) := by
  have h := md_small (x := x) (m := m) hd
  have : absZ x ≤ 9223372036854775807 := by unfold absZ; split <;> omega
  unfold IsInt; omega

/-- x divided by a number of a point's that is at least 1, rounded down or up. -/
theorem div1_c (x d m : Int) (hx : -9223372036854775807 ≤ x ∧ x ≤ 9223372036854775807) (hd : IsInt d) (hd1 : 1 ≤ d) (hm : m = 0 ∨ m = 1) (w : World) :
    Calls Try.prog 70 #[.int .i64 x, .int .i64 1, .int .i64 d, .int .i64 m] w fun e w' => e = .returned (.tuple #[.int .i64 (md x d m), .int .i64 0]) ∧ Below w.heap.size w w' := by
  have h := fix_MulDiv_c x 1 d m (by unfold IsInt; omega) (by decide) hd (by omega) hm w
  rw [Int.mul_one, fit_ok (md_int hx hd1)] at h
  exact h

theorem draw1_c (gp : Nat) (x d m : Int) (hx : -9223372036854775807 ≤ x ∧ x ≤ 9223372036854775807) (hd : IsInt d) (hd1 : 1 ≤ d) (hm : m = 0 ∨ m = 1) (w : World) (cd : w.cell? ⟨gp, 1, none⟩ = some (.int .i64 d)) :
    Calls Try.prog 69 #[.int .i64 x, .int .i64 m, .pointer (some ⟨gp, 0, none⟩)] w fun e w' => e = .returned (.int .i64 (md x d m)) ∧ Below w.heap.size w w' := by
  have HM := Lib.hid (fun W => div1_c x d m hx hd hd1 hm W)
  clear hx hd hd1 hm
  go_enter Try.func69, Try.ntmps69
  go_wp2_with (go_at_call 70; refine (HM.out _).mono ?_; rintro e w' ⟨rfl, hb⟩)
  go_ret
  exact ⟨rfl, hb⟩

theorem rounded_c (gp : Nat) (x y d : Int) (hx : -9223372036854775807 ≤ x ∧ x ≤ 9223372036854775807) (hy : -9223372036854775807 ≤ y ∧ y ≤ 9223372036854775807) (hd : IsInt d) (hd1 : 1 ≤ d) (w : World) (cd : w.cell? ⟨gp, 1, none⟩ = some (.int .i64 d)) :
    Calls Try.prog 71 #[.int .i64 x, .int .i64 y, .func (.func 69) #[] #[.pointer (some ⟨gp, 0, none⟩)]] w fun e w' => e = .returned (.agg #[.int .i64 (fl x d), .int .i64 (cl y d)]) ∧ Below w.heap.size w w' := by
  have eg := enters_of Try.func69 (by kernel_rfl) rfl
  have H1 := Lib.hid (fun W hW => draw1_c gp x d 0 hx hd hd1 (.inl rfl) W hW)
  have H2 := Lib.hid (fun W hW => draw1_c gp y d 1 hy hd hd1 (.inr rfl) W hW)
  clear hx hy hd hd1
  go_enter Try.func71, Try.ntmps71
  go_wp2_with fail
  refine (H1.out _ (alloc_cell cd _)).mono ?_
  rintro e w1 ⟨rfl, hb1⟩
  have hK : Knows w.heap.size w [(⟨gp, 1, none⟩, .int .i64 d), (⟨w.heap.size, 0, none⟩, .int .i64 0), (⟨w.heap.size, 1, none⟩, .int .i64 0)] [⟨w.heap.size, 0, none⟩, ⟨w.heap.size, 1, none⟩] w1 :=
    Knows.call (W := w.alloc (.cells #[.int .i64 0, .int .i64 0] 23)) ⟨(Below.refl _ _).alloc (Nat.le_refl _) _, by simp, ⟨alloc_cell cd _, by simp [go_sem], by simp [go_sem], trivial⟩, ⟨by simp, by simp [go_sem]⟩, ⟨by simp, by simp [go_sem]⟩, trivial⟩ hb1
  clear hb1
  go_wp2_with fail
  refine (H2.out _ hK.2.2.1.1).mono ?_
  rintro e w2 ⟨rfl, hb2⟩
  have hK2 := hK.call hb2
  clear hK hb2
  obtain ⟨hB, hs, ⟨-, c0, c1, -⟩, ⟨-, z0⟩, ⟨-, z1⟩, -⟩ := hK2
  have HB := Lib.hid hB
  clear hB
  go_wp2
  refine bodyPost_ret (v := .agg #[.int .i64 (fl x d), .int .i64 (cl y d)]) (by simp [results, Try.results71, go_sem, c0, c1, z0, z1, md]) rfl ⟨rfl, ?_⟩
  exact (HB.out.setCell (Nat.le_refl _) _).setCell (Nat.le_refl _) _

/-! ### Which points may be -/
def far (n : Int) : Bool := decide (n < -100000000000000) || decide (100000000000000 < n)
theorem far_c (n : Int) (w : World) : Calls Try.prog 72 #[.int .i64 n] w fun e w' => e = .returned (.bool (far n)) ∧ w = w' := by
  unfold far
  by_cases h : n < -100000000000000
  · go_enter Try.func72, Try.ntmps72
    go_wp2
    go_ret
    simp [h]
  · have h' : decide (n < -100000000000000) = false := decide_eq_false h
    go_enter Try.func72, Try.ntmps72
    go_wp2
    go_ret
    simp
def pointB (c d v h : Int) : Bool := decide (1 ≤ d) && (!far d && (!far c && (!far v && decide (h < 274877906944))))
theorem right_c (c d v h l : Int) (w : World) : Calls Try.prog 24 #[.agg #[.int .i64 c, .int .i64 d, .int .i64 v, .int .u64 h, .int .u64 l]] w fun e w' => e = .returned (.bool (pointB c d v h)) ∧ Below w.heap.size w w' := by
  have HF := Lib.hid (fun n W => far_c n W)
  unfold pointB
  generalize hd : far d = xd at *
  generalize hc : far c = xc at *
  generalize hv : far v = xv at *
  have HD := Lib.hid hd
  have HC := Lib.hid hc
  have HV := Lib.hid hv
  have KD : ∀ W, Calls Try.prog 72 #[.int .i64 d] W fun e w' => e = .returned (.bool xd) ∧ W = w' := fun W => HD.out ▸ HF.out d W
  have KC : ∀ W, Calls Try.prog 72 #[.int .i64 c] W fun e w' => e = .returned (.bool xc) ∧ W = w' := fun W => HC.out ▸ HF.out c W
  have KV : ∀ W, Calls Try.prog 72 #[.int .i64 v] W fun e w' => e = .returned (.bool xv) ∧ W = w' := fun W => HV.out ▸ HF.out v W
  have JD := Lib.hid KD
  have JC := Lib.hid KC
  have JV := Lib.hid KV
  clear HF hd hc hv HD HC HV KD KC KV
  by_cases h1 : 1 ≤ d
  · cases xd
    · cases xc
      · cases xv
        · go_enter Try.func24, Try.ntmps24
          go_wp2_with (first | (go_at_call 72; ((with_reducible refine (JD.out _).mono ?_); rintro e w' ⟨rfl, rfl⟩)) | (go_at_call 72; ((with_reducible refine (JC.out _).mono ?_); rintro e w' ⟨rfl, rfl⟩)) | (go_at_call 72; ((with_reducible refine (JV.out _).mono ?_); rintro e w' ⟨rfl, rfl⟩)))
          go_ret
          exact ⟨by simp [h1], (Below.refl _ _).alloc (Nat.le_refl _) _⟩
        · go_enter Try.func24, Try.ntmps24
          go_wp2_with (first | (go_at_call 72; ((with_reducible refine (JD.out _).mono ?_); rintro e w' ⟨rfl, rfl⟩)) | (go_at_call 72; ((with_reducible refine (JC.out _).mono ?_); rintro e w' ⟨rfl, rfl⟩)) | (go_at_call 72; ((with_reducible refine (JV.out _).mono ?_); rintro e w' ⟨rfl, rfl⟩)))
          go_ret
          exact ⟨by simp, (Below.refl _ _).alloc (Nat.le_refl _) _⟩
      · go_enter Try.func24, Try.ntmps24
        go_wp2_with (first | (go_at_call 72; ((with_reducible refine (JD.out _).mono ?_); rintro e w' ⟨rfl, rfl⟩)) | (go_at_call 72; ((with_reducible refine (JC.out _).mono ?_); rintro e w' ⟨rfl, rfl⟩)))
        go_ret
        exact ⟨by simp, (Below.refl _ _).alloc (Nat.le_refl _) _⟩
    · go_enter Try.func24, Try.ntmps24
      go_wp2_with (first | (go_at_call 72; ((with_reducible refine (JD.out _).mono ?_); rintro e w' ⟨rfl, rfl⟩)))
      go_ret
      exact ⟨by simp, (Below.refl _ _).alloc (Nat.le_refl _) _⟩
  · have h1' : decide (1 ≤ d) = false := decide_eq_false h1
    go_enter Try.func24, Try.ntmps24
    go_wp2
    go_ret
    exact ⟨by simp, (Below.refl _ _).alloc (Nat.le_refl _) _⟩
def scaleB (s : Int) : Bool := decide (1 ≤ s) && decide (s ≤ 1000)
theorem isScale_c (s : Int) (w : World) : Calls Try.prog 68 #[.int .i64 s] w fun e w' => e = .returned (.bool (scaleB s)) ∧ w = w' := by
  unfold scaleB
  by_cases h : 1 ≤ s
  · go_enter Try.func68, Try.ntmps68
    go_wp2
    go_ret
    simp [h]
  · have h' : decide (1 ≤ s) = false := decide_eq_false h
    go_enter Try.func68, Try.ntmps68
    go_wp2
    go_ret
    simp
end Go.Proofs.Ytkdfkpalgejkkaa
/-
  root.Square and root.Up.
-/
set_option linter.unusedSimpArgs false
namespace Go.Proofs.Ytkdfkpalgejkkaa
open Go.RowKit Go.Shelf

theorem pair_eq (a b : Int) : (hiW a == hiW b && loW a == loW b) = decide (a = b) := by
  by_cases h : a = b
  · subst h; simp
  · rw [decide_eq_false h]
    have : ¬ (hiW a = hiW b ∧ loW a = loW b) := fun ⟨h1, h2⟩ => h (wide_ext h1 h2)
    simpa using this
set_option maxRecDepth 100000 in
theorem root_Square_c (a : Int) (ha : Wide a) (w : World) :
    Calls Try.prog 97 #[wv a] w fun e w' => e = .returned (.bool (decide (isqrt a * isqrt a = a))) ∧ Below w.heap.size w w' := by
  have hr := isqrt_word ha
  have HR := Lib.hid (fun W => root_Root_c a ha W)
  have HM := Lib.hid (fun W => wide_Mul_c (isqrt a) (isqrt a) hr hr W)
  generalize isqrt a = r at *
  clear ha hr
  by_cases e1 : hiW (r * r) = hiW a
  · by_cases e2 : loW (r * r) = loW a
    · rw [show decide (r * r = a) = true from decide_eq_true (wide_ext e1 e2)]
      go_enter Try.func97, Try.ntmps97
      go_wp2_with fail
      refine (HR.out _).mono ?_
      rintro e w1 ⟨rfl, hb1⟩
      have hK : Knows w.heap.size w [(⟨w.heap.size, 0, none⟩, .int .u64 (hiW a)), (⟨w.heap.size, 1, none⟩, .int .u64 (loW a))] [] w1 :=
        Knows.call (W := w.alloc (.cells #[.int .u64 (hiW a), .int .u64 (loW a)] 35)) ⟨(Below.refl _ _).alloc (Nat.le_refl _) _, by simp, ⟨by simp [go_sem], by simp [go_sem], trivial⟩, trivial⟩ hb1
      have HK := Lib.hid hK
      clear hK hb1
      go_wp2_with fail
      refine wp_region_plan (fun _ _ W => Knows w.heap.size w [(⟨w.heap.size, 0, none⟩, .int .u64 (hiW a)), (⟨w.heap.size, 1, none⟩, .int .u64 (loW a))] [] W) 6 (by kernel_rfl) (by kernel_rfl) rfl ?_ ?_
      · exact HK.out.drew
      simp only [List.zipIdx_cons, List.zipIdx_nil, List.map_cons, List.map_nil, Nat.zero_add, Nat.reduceAdd]
      apply inOrder_op rfl rfl
      · intro L g' W _ _ _ hW
        obtain ⟨-, -, ⟨q1, q2, -⟩, -⟩ := id hW
        apply comes_value (hv := rfl) (hD := hW)
        go_simp
        rfl
      simp only [Act.put, List.setIfInBounds_toArray, List.set_cons_zero, List.set_cons_succ]
      apply inOrder_op rfl rfl
      · intro L g' W _ _ _ hW
        obtain ⟨-, -, ⟨q1, q2, -⟩, -⟩ := id hW
        apply comes_value (hv := rfl) (hD := hW)
        go_simp
        rfl
      simp only [Act.put, List.setIfInBounds_toArray, List.set_cons_zero, List.set_cons_succ]
      apply inOrder_op rfl rfl
      · intro L g' W _ _ _ hW
        obtain ⟨-, -, ⟨q1, q2, -⟩, -⟩ := id hW
        apply comes_call
        · go_simp
          first | rfl | exact ⟨rfl, rfl⟩ | exact ⟨⟨rfl, rfl⟩, rfl⟩
        · refine (HM.out W).mono ?_
          rintro e w' ⟨rfl, hb⟩
          exact ⟨rfl, Knows.call hW hb⟩
      simp only [Act.put, List.setIfInBounds_toArray, List.set_cons_zero, List.set_cons_succ]
      apply inOrder_op rfl rfl
      · intro L g' W _ _ _ hW
        obtain ⟨-, -, ⟨q1, q2, -⟩, -⟩ := id hW
        apply comes_value (hv := rfl) (hD := hW)
        go_simp
        rfl
      simp only [Act.put, List.setIfInBounds_toArray, List.set_cons_zero, List.set_cons_succ]
      apply inOrder_op rfl rfl
      · intro L g' W _ _ _ hW
        obtain ⟨-, -, ⟨q1, q2, -⟩, -⟩ := id hW
        apply comes_value (hv := rfl) (hD := hW)
        go_simp
        rfl
      simp only [Act.put, List.setIfInBounds_toArray, List.set_cons_zero, List.set_cons_succ]
      apply inOrder_op rfl rfl
      · intro L g' W _ _ _ hW
        obtain ⟨-, -, ⟨q1, q2, -⟩, -⟩ := id hW
        apply comes_value (hv := rfl) (hD := hW)
        go_simp
        rfl
      simp only [Act.put, List.setIfInBounds_toArray, List.set_cons_zero, List.set_cons_succ]
      refine inOrder_nil ?_
      intro W hW
      have HB := Lib.hid hW.1
      clear hW
      go_wp2
      go_ret
      exact ⟨rfl, HB.out⟩
    · rw [show decide (r * r = a) = false from decide_eq_false (fun h => e2 (by rw [h]))]
      go_enter Try.func97, Try.ntmps97
      go_wp2_with fail
      refine (HR.out _).mono ?_
      rintro e w1 ⟨rfl, hb1⟩
      have hK : Knows w.heap.size w [(⟨w.heap.size, 0, none⟩, .int .u64 (hiW a)), (⟨w.heap.size, 1, none⟩, .int .u64 (loW a))] [] w1 :=
        Knows.call (W := w.alloc (.cells #[.int .u64 (hiW a), .int .u64 (loW a)] 35)) ⟨(Below.refl _ _).alloc (Nat.le_refl _) _, by simp, ⟨by simp [go_sem], by simp [go_sem], trivial⟩, trivial⟩ hb1
      have HK := Lib.hid hK
      clear hK hb1
      go_wp2_with fail
      refine wp_region_plan (fun _ _ W => Knows w.heap.size w [(⟨w.heap.size, 0, none⟩, .int .u64 (hiW a)), (⟨w.heap.size, 1, none⟩, .int .u64 (loW a))] [] W) 6 (by kernel_rfl) (by kernel_rfl) rfl ?_ ?_
      · exact HK.out.drew
      simp only [List.zipIdx_cons, List.zipIdx_nil, List.map_cons, List.map_nil, Nat.zero_add, Nat.reduceAdd]
      apply inOrder_op rfl rfl
      · intro L g' W _ _ _ hW
        obtain ⟨-, -, ⟨q1, q2, -⟩, -⟩ := id hW
        apply comes_value (hv := rfl) (hD := hW)
        go_simp
        rfl
      simp only [Act.put, List.setIfInBounds_toArray, List.set_cons_zero, List.set_cons_succ]
      apply inOrder_op rfl rfl
      · intro L g' W _ _ _ hW
        obtain ⟨-, -, ⟨q1, q2, -⟩, -⟩ := id hW
        apply comes_value (hv := rfl) (hD := hW)
        go_simp
        rfl
      simp only [Act.put, List.setIfInBounds_toArray, List.set_cons_zero, List.set_cons_succ]
      apply inOrder_op rfl rfl
      · intro L g' W _ _ _ hW
        obtain ⟨-, -, ⟨q1, q2, -⟩, -⟩ := id hW
        apply comes_call
        · go_simp
          first | rfl | exact ⟨rfl, rfl⟩ | exact ⟨⟨rfl, rfl⟩, rfl⟩
        · refine (HM.out W).mono ?_
          rintro e w' ⟨rfl, hb⟩
          exact ⟨rfl, Knows.call hW hb⟩
      simp only [Act.put, List.setIfInBounds_toArray, List.set_cons_zero, List.set_cons_succ]
      apply inOrder_op rfl rfl
      · intro L g' W _ _ _ hW
        obtain ⟨-, -, ⟨q1, q2, -⟩, -⟩ := id hW
        apply comes_value (hv := rfl) (hD := hW)
        go_simp
        rfl
      simp only [Act.put, List.setIfInBounds_toArray, List.set_cons_zero, List.set_cons_succ]
      apply inOrder_op rfl rfl
      · intro L g' W _ _ _ hW
        obtain ⟨-, -, ⟨q1, q2, -⟩, -⟩ := id hW
        apply comes_value (hv := rfl) (hD := hW)
        go_simp
        rfl
      simp only [Act.put, List.setIfInBounds_toArray, List.set_cons_zero, List.set_cons_succ]
      apply inOrder_op rfl rfl
      · intro L g' W _ _ _ hW
        obtain ⟨-, -, ⟨q1, q2, -⟩, -⟩ := id hW
        apply comes_value (hv := rfl) (hD := hW)
        go_simp
        rfl
      simp only [Act.put, List.setIfInBounds_toArray, List.set_cons_zero, List.set_cons_succ]
      refine inOrder_nil ?_
      intro W hW
      have HB := Lib.hid hW.1
      clear hW
      go_wp2
      go_ret
      exact ⟨rfl, HB.out⟩
  · rw [show decide (r * r = a) = false from decide_eq_false (fun h => e1 (by rw [h]))]
    go_enter Try.func97, Try.ntmps97
    go_wp2_with fail
    refine (HR.out _).mono ?_
    rintro e w1 ⟨rfl, hb1⟩
    have hK : Knows w.heap.size w [(⟨w.heap.size, 0, none⟩, .int .u64 (hiW a)), (⟨w.heap.size, 1, none⟩, .int .u64 (loW a))] [] w1 :=
      Knows.call (W := w.alloc (.cells #[.int .u64 (hiW a), .int .u64 (loW a)] 35)) ⟨(Below.refl _ _).alloc (Nat.le_refl _) _, by simp, ⟨by simp [go_sem], by simp [go_sem], trivial⟩, trivial⟩ hb1
    have HK := Lib.hid hK
    clear hK hb1
    go_wp2_with fail
    refine wp_region_plan (fun _ _ W => Knows w.heap.size w [(⟨w.heap.size, 0, none⟩, .int .u64 (hiW a)), (⟨w.heap.size, 1, none⟩, .int .u64 (loW a))] [] W) 6 (by kernel_rfl) (by kernel_rfl) rfl ?_ ?_
    · exact HK.out.drew
    simp only [List.zipIdx_cons, List.zipIdx_nil, List.map_cons, List.map_nil, Nat.zero_add, Nat.reduceAdd]
    apply inOrder_op rfl rfl
    · intro L g' W _ _ _ hW
      obtain ⟨-, -, ⟨q1, q2, -⟩, -⟩ := id hW
      apply comes_value (hv := rfl) (hD := hW)
      go_simp
      rfl
    simp only [Act.put, List.setIfInBounds_toArray, List.set_cons_zero, List.set_cons_succ]
    apply inOrder_op rfl rfl
    · intro L g' W _ _ _ hW
      obtain ⟨-, -, ⟨q1, q2, -⟩, -⟩ := id hW
      apply comes_value (hv := rfl) (hD := hW)
      go_simp
      rfl
    simp only [Act.put, List.setIfInBounds_toArray, List.set_cons_zero, List.set_cons_succ]
    apply inOrder_op rfl rfl
    · intro L g' W _ _ _ hW
      obtain ⟨-, -, ⟨q1, q2, -⟩, -⟩ := id hW
      apply comes_call
      · go_simp
        first | rfl | exact ⟨rfl, rfl⟩ | exact ⟨⟨rfl, rfl⟩, rfl⟩
      · refine (HM.out W).mono ?_
        rintro e w' ⟨rfl, hb⟩
        exact ⟨rfl, Knows.call hW hb⟩
    simp only [Act.put, List.setIfInBounds_toArray, List.set_cons_zero, List.set_cons_succ]
    apply inOrder_op rfl rfl
    · intro L g' W _ _ _ hW
      obtain ⟨-, -, ⟨q1, q2, -⟩, -⟩ := id hW
      apply comes_value (hv := rfl) (hD := hW)
      go_simp
      rfl
    simp only [Act.put, List.setIfInBounds_toArray, List.set_cons_zero, List.set_cons_succ]
    apply inOrder_op rfl rfl
    · intro L g' W _ _ _ hW
      obtain ⟨-, -, ⟨q1, q2, -⟩, -⟩ := id hW
      apply comes_value (hv := rfl) (hD := hW)
      go_simp
      rfl
    simp only [Act.put, List.setIfInBounds_toArray, List.set_cons_zero, List.set_cons_succ]
    apply inOrder_op rfl rfl
    · intro L g' W _ _ _ hW
      obtain ⟨-, -, ⟨q1, q2, -⟩, -⟩ := id hW
      apply comes_value (hv := rfl) (hD := hW)
      go_simp
      rfl
    simp only [Act.put, List.setIfInBounds_toArray, List.set_cons_zero, List.set_cons_succ]
    refine inOrder_nil ?_
    intro W hW
    have HB := Lib.hid hW.1
    clear hW
    go_wp2
    go_ret
    exact ⟨rfl, HB.out⟩
theorem usqrt_wide {a : Int} (ha : Wide a) : Wide (usqrt a) := by
  have h := isqrt_word ha
  have h1 := usqrt_le_isqrt a
  have h2 := usqrt_nonneg a
  unfold Word at h; unfold Wide; omega
set_option maxRecDepth 100000 in
theorem root_Up_c (a : Int) (ha : Wide a) (w : World) :
    Calls Try.prog 60 #[wv a] w fun e w' => e = .returned (wv (usqrt a)) ∧ Below w.heap.size w w' := by
  have hr := isqrt_word ha
  have HR := Lib.hid (fun W => root_Root_c a ha W)
  have HS := Lib.hid (fun W => root_Square_c a ha W)
  have HA := Lib.hid (fun W => wide_Add_c (isqrt a) 1 hr.wide (by decide) W)
  have hwv : (Value.agg #[.int .u64 0, .int .u64 (isqrt a)]) = wv (isqrt a) := by unfold wv; rw [hiW_small hr, loW_small hr]
  have h1 : (isqrt a + 1) % 340282366920938463463374607431768211456 = isqrt a + 1 := mod_wide (by unfold Word at hr; unfold Wide; omega)
  rw [h1] at HA
  have hU : usqrt a = if decide (isqrt a * isqrt a = a) = true then isqrt a else isqrt a + 1 := by unfold usqrt; simp
  generalize usqrt a = u at *
  generalize decide (isqrt a * isqrt a = a) = sq at *
  have e0 : hiW (isqrt a) = 0 := hiW_small hr
  have e1 : loW (isqrt a) = isqrt a := loW_small hr
  have l1 : hiW 1 = 0 := by decide
  have l2 : loW 1 = 1 := by decide
  generalize isqrt a = r at *
  rw [show wv r = .agg #[.int .u64 0, .int .u64 r] by unfold wv; rw [e0, e1], show wv 1 = .agg #[.int .u64 0, .int .u64 1] by unfold wv; rw [l1, l2]] at HA
  have HU := Lib.hid hU
  have HE0 := Lib.hid e0
  have HE1 := Lib.hid e1
  clear ha hr h1 hwv hU l1 l2 e0 e1
  go_enter Try.func60, Try.ntmps60
  go_wp2_with fail
  refine (HR.out _).mono ?_
  rintro e w1 ⟨rfl, hb1⟩
  have hK : Knows w.heap.size w [(⟨w.heap.size, 0, none⟩, .int .u64 (hiW a)), (⟨w.heap.size, 1, none⟩, .int .u64 (loW a)), (⟨w.heap.size + 1, 0, none⟩, .int .u64 0), (⟨w.heap.size + 1, 1, none⟩, .int .u64 0)] [⟨w.heap.size + 1, 0, none⟩, ⟨w.heap.size + 1, 1, none⟩] w1 :=
    Knows.call (W := (w.alloc (.cells #[.int .u64 (hiW a), .int .u64 (loW a)] 35)).alloc (.cells #[.int .u64 0, .int .u64 0] 35)) ⟨((Below.refl _ _).alloc (Nat.le_refl _) _).alloc (by simp) _, by simp; omega, ⟨by simp [go_sem], by simp [go_sem], by simp [go_sem], by simp [go_sem], trivial⟩, ⟨by simp, by simp [go_sem]⟩, ⟨by simp, by simp [go_sem]⟩, trivial⟩ hb1
  obtain ⟨hB, hs, ⟨c0, c1, c2, c3, -⟩, ⟨hl, z2⟩, ⟨-, z3⟩, -⟩ := hK
  have hl' : w.heap.size < w1.heap.size := World.block_lt_of_cell? w1 _ c0
  have hB' := Lib.hid hB
  clear hb1 hB
  simp only [] at hl
  go_wp2_with fail
  refine (HS.out _).mono ?_
  rintro e w2 ⟨rfl, hb2⟩
  have hK2 : Knows w.heap.size w [(⟨w.heap.size + 1, 0, none⟩, .int .u64 0), (⟨w.heap.size + 1, 1, none⟩, .int .u64 0), (⟨w1.heap.size, 0, none⟩, .int .u64 0), (⟨w1.heap.size, 1, none⟩, .int .u64 r)] [⟨w.heap.size + 1, 0, none⟩, ⟨w.heap.size + 1, 1, none⟩, ⟨w1.heap.size, 0, none⟩, ⟨w1.heap.size, 1, none⟩] w2 :=
    Knows.call (W := w1.alloc (.cells #[.int .u64 0, .int .u64 r] 35)) ⟨hB'.out.alloc (by omega) _, by simp; omega, ⟨alloc_cell c2 _, alloc_cell c3 _, by simp [go_sem], by simp [go_sem], trivial⟩, ⟨by simp; omega, by simp [go_sem, hl, z2]⟩, ⟨by simp; omega, by simp [go_sem, hl, z3]⟩, ⟨by simp, by simp [go_sem]⟩, ⟨by simp, by simp [go_sem]⟩, trivial⟩ hb2
  clear hB' hb2 hs c0 c1 c2 c3 z2 z3
  have HK2 := Lib.hid hK2
  obtain ⟨hB, hs, ⟨c2, c3, c4, c5, -⟩, ⟨-, z2⟩, ⟨-, z3⟩, ⟨-, z4⟩, ⟨-, z5⟩, -⟩ := hK2
  have HB := Lib.hid hB
  clear hB
  cases sq
  · go_wp2_with fail
    refine (HA.out _).mono ?_
    rintro e w3 ⟨rfl, hb3⟩
    have hK3 := HK2.out.call hb3
    clear HK2 HB hb3 c2 c3 c4 c5 z2 z3 z4 z5
    obtain ⟨hB, hs', ⟨c2, c3, c4, c5, -⟩, ⟨-, z2⟩, ⟨-, z3⟩, ⟨-, z4⟩, ⟨-, z5⟩, -⟩ := hK3
    have HB := Lib.hid hB
    clear hB
    have hne : ¬ w1.heap.size = w.heap.size + 1 := by omega
    have hne' : ¬ w.heap.size + 1 = w1.heap.size := by omega
    have hu : u = r + 1 := by have := HU.out; simpa using this
    subst hu
    clear HU
    go_wp2
    refine bodyPost_ret (v := wv (r + 1)) (by simp [results, Try.results60, go_sem, c2, c3, c4, c5, z2, z3, z4, z5, hne, hne']) rfl ⟨rfl, ?_⟩
    exact (((HB.out.setCell (by simp; omega) _).setCell (by simp; omega) _).setCell (by simp) _).setCell (by simp) _
  · have hu : u = r := by have := HU.out; simpa using this
    subst hu
    clear HU
    go_wp2
    refine bodyPost_ret (v := wv u) (by simp [results, Try.results60, go_sem, c2, c3, c4, c5, z2, z3, z4, z5, wv, HE0.out, HE1.out]) rfl ⟨rfl, ?_⟩
    exact (HB.out.setCell (by simp) _).setCell (by simp) _
end Go.Proofs.Ytkdfkpalgejkkaa
/-
  limit.Draw.
-/
set_option linter.unusedSimpArgs false
namespace Go.Proofs.Ytkdfkpalgejkkaa
open Go.RowKit Go.Shelf

/-- What a point's lines are, by its numbers: the radicand, and the eight ends. -/
def rad (vh vl s : Int) : Int := ofW vh vl * (9 * s * s)
theorem sq_bound {s : Int} (h1 : 1 ≤ s) (h2 : s ≤ 1000) : 9 ≤ 9 * s * s ∧ 9 * s * s ≤ 9000000 := by
  have a : 1 * 1 ≤ s * s := Int.mul_le_mul h1 h1 (by omega) (by omega)
  have b : s * s ≤ 1000 * 1000 := Int.mul_le_mul h2 h2 (by omega) (by omega)
  rw [Int.mul_assoc]
  omega
theorem rad_bound {vh vl s : Int} (h0 : 0 ≤ vh) (hv : vh < 274877906944) (hl : Word vl) (h1 : 1 ≤ s) (h2 : s ≤ 1000) : 0 ≤ rad vh vl s ∧ rad vh vl s ≤ 45635462218867216710008832000000000000 := by
  obtain ⟨a, b⟩ := sq_bound h1 h2
  unfold Word at hl
  have c : 0 ≤ ofW vh vl := by unfold ofW; omega
  have d : ofW vh vl ≤ 5070602400912917605986812821503 := by unfold ofW; omega
  unfold rad
  constructor
  · exact Int.mul_nonneg c (by omega)
  · have : ofW vh vl * (9 * s * s) ≤ 5070602400912917605986812821504 * 9000000 := Int.mul_le_mul (by omega) b (by omega) (by omega)
    omega
theorem rad_root {A : Int} (h0 : 0 ≤ A) (h1 : A ≤ 45635462218867216710008832000000000000) : 0 ≤ isqrt A ∧ isqrt A ≤ usqrt A ∧ usqrt A ≤ 6755402446847057884 := by
  refine ⟨isqrt_nonneg A, isqrt_le_usqrt A, (usqrt_le h0 (by omega)).2 (by omega)⟩
theorem prod_bound {c s : Int} {k : Int} (hc : -k ≤ c ∧ c ≤ k) (hk : 0 ≤ k) (h1 : 1 ≤ s) (h2 : s ≤ 1000) : -(1000 * k) ≤ c * s ∧ c * s ≤ 1000 * k := by
  constructor
  · have a : -k * s ≤ c * s := Int.mul_le_mul_of_nonneg_right hc.1 (by omega)
    have b : -k * 1000 ≤ -k * s := Int.mul_le_mul_of_nonpos_left (by omega) h2
    omega
  · have a : c * s ≤ k * s := Int.mul_le_mul_of_nonneg_right hc.2 (by omega)
    have b : k * s ≤ k * 1000 := Int.mul_le_mul_of_nonneg_left h2 hk
    omega

set_option maxHeartbeats 1000000 in
set_option maxRecDepth 100000 in
theorem draw_ok (c d v vh vl s : Int) (hc : -100000000000000 ≤ c ∧ c ≤ 100000000000000) (hd : 1 ≤ d ∧ d ≤ 100000000000000) (hv : -100000000000000 ≤ v ∧ v ≤ 100000000000000) (hh : 0 ≤ vh ∧ vh < 274877906944) (hl : Word vl) (hs : 1 ≤ s ∧ s ≤ 1000) (w : World) :
    Calls Try.prog 23 #[.agg #[.int .i64 c, .int .i64 d, .int .i64 v, .int .u64 vh, .int .u64 vl], .int .i64 s] w fun e w' =>
      e = .returned (.tuple #[.agg #[.int .i64 (fl (c * s - usqrt (rad vh vl s)) d), .int .i64 (cl (c * s - isqrt (rad vh vl s)) d), .int .i64 (fl (c * s) d), .int .i64 (cl (c * s) d), .int .i64 (fl (c * s + isqrt (rad vh vl s)) d), .int .i64 (cl (c * s + usqrt (rad vh vl s)) d), .int .i64 (fl ((c + v) * s) d), .int .i64 (cl ((c + v) * s) d)], .int .i64 0]) ∧ Below w.heap.size w w' := by
  obtain ⟨s1, s2⟩ := hs
  have hp : pointB c d v vh = true := by unfold pointB far; simp; omega
  have hsc : scaleB s = true := by unfold scaleB; simp; omega
  have HP : Hid (∀ W, Calls Try.prog 24 #[.agg #[.int .i64 c, .int .i64 d, .int .i64 v, .int .u64 vh, .int .u64 vl]] W fun e w' => e = .returned (.bool true) ∧ Below W.heap.size W w') := Lib.hid (fun W => hp ▸ right_c c d v vh vl W)
  have HSc : Hid (∀ W, Calls Try.prog 68 #[.int .i64 s] W fun e w' => e = .returned (.bool true) ∧ W = w') := Lib.hid (fun W => hsc ▸ isScale_c s W)
  obtain ⟨k1, k2⟩ := sq_bound s1 s2
  obtain ⟨r1, r2⟩ := rad_bound hh.1 hh.2 hl s1 s2
  obtain ⟨r3, r4, r5⟩ := rad_root r1 r2
  have hA : Wide (rad vh vl s) := ⟨r1, by omega⟩
  have hV : Wide (ofW vh vl) := wide_ofW (by unfold Word; omega) hl
  have HT : Hid (∀ W, Calls Try.prog 51 #[.agg #[.int .u64 vh, .int .u64 vl], .agg #[.int .u64 0, .int .u64 (9 * s * s)]] W fun e w' => e = .returned (.tuple #[wv (rad vh vl s), .bool false]) ∧ Below W.heap.size W w') := by
    refine Lib.hid fun W => ?_
    have h := wide_Times_c (ofW vh vl) (9 * s * s) hV (show Word (9 * s * s) by unfold Word; omega).wide W
    rw [wv_ofW hl, show wv (9 * s * s) = .agg #[.int .u64 0, .int .u64 (9 * s * s)] by unfold wv; rw [hiW_small (by unfold Word; omega), loW_small (by unfold Word; omega)], show ofW vh vl * (9 * s * s) = rad vh vl s from rfl, mod_wide hA, decide_eq_false (by omega)] at h
    exact h
  have HRo := Lib.hid (fun W => root_Root_c (rad vh vl s) hA W)
  have HUp : Hid (∀ W, Calls Try.prog 60 #[wv (rad vh vl s)] W fun e w' => e = .returned (.agg #[.int .u64 0, .int .u64 (usqrt (rad vh vl s))]) ∧ Below W.heap.size W w') := by
    refine Lib.hid fun W => ?_
    have h := root_Up_c (rad vh vl s) hA W
    rwa [show wv (usqrt (rad vh vl s)) = .agg #[.int .u64 0, .int .u64 (usqrt (rad vh vl s))] by unfold wv; rw [hiW_small (by unfold Word; omega), loW_small (by unfold Word; omega)]] at h
  have HRn : Hid (∀ (gp : Nat) (x y : Int), (-9223372036854775807 ≤ x ∧ x ≤ 9223372036854775807) → (-9223372036854775807 ≤ y ∧ y ≤ 9223372036854775807) → ∀ W : World, W.cell? ⟨gp, 1, none⟩ = some (.int .i64 d) →
      Calls Try.prog 71 #[.int .i64 x, .int .i64 y, .func (.func 69) #[] #[.pointer (some ⟨gp, 0, none⟩)]] W fun e w' => e = .returned (.agg #[.int .i64 (fl x d), .int .i64 (cl y d)]) ∧ Below W.heap.size W w') :=
    Lib.hid fun gp x y hx hy W hW => rounded_c gp x y d hx hy (by unfold IsInt; omega) hd.1 W hW
  obtain ⟨p1, p2⟩ := prod_bound hc (by omega) s1 s2
  obtain ⟨p3, p4⟩ := prod_bound (c := c + v) (k := 200000000000000) (by omega) (by omega) s1 s2
  obtain ⟨hc1, hc2⟩ := hc
  obtain ⟨hv1, hv2⟩ := hv
  generalize isqrt (rad vh vl s) = r at *
  generalize usqrt (rad vh vl s) = u at *
  generalize rad vh vl s = A at *
  clear hp hsc hV hA r1 r2
  have hmf : ∀ (fn : Fn) (first cap : Array Value) (w : World), (Instr.makeFunc fn first cap).run Try.prog w = .ok (.func fn first cap) w := fun _ _ _ _ => rfl
  go_enter Try.func23, Try.ntmps23
  go_wp2_with fail
  refine (HP.out _).mono ?_
  rintro e w1 ⟨rfl, hb1⟩
  have hK : Knows w.heap.size w [(⟨w.heap.size, 0, none⟩, .int .i64 c), (⟨w.heap.size, 1, none⟩, .int .i64 d), (⟨w.heap.size, 2, none⟩, .int .i64 v), (⟨w.heap.size, 3, none⟩, .int .u64 vh), (⟨w.heap.size, 4, none⟩, .int .u64 vl), (⟨w.heap.size + 1, 0, none⟩, .int .i64 0), (⟨w.heap.size + 1, 1, none⟩, .int .i64 0), (⟨w.heap.size + 1, 2, none⟩, .int .i64 0), (⟨w.heap.size + 1, 3, none⟩, .int .i64 0), (⟨w.heap.size + 1, 4, none⟩, .int .i64 0), (⟨w.heap.size + 1, 5, none⟩, .int .i64 0), (⟨w.heap.size + 1, 6, none⟩, .int .i64 0), (⟨w.heap.size + 1, 7, none⟩, .int .i64 0)] [⟨w.heap.size + 1, 0, none⟩, ⟨w.heap.size + 1, 1, none⟩, ⟨w.heap.size + 1, 2, none⟩, ⟨w.heap.size + 1, 3, none⟩, ⟨w.heap.size + 1, 4, none⟩, ⟨w.heap.size + 1, 5, none⟩, ⟨w.heap.size + 1, 6, none⟩, ⟨w.heap.size + 1, 7, none⟩] w1 :=
    Knows.call (W := (w.alloc (.cells #[.int .i64 c, .int .i64 d, .int .i64 v, .int .u64 vh, .int .u64 vl] 37)).alloc (.cells #[.int .i64 0, .int .i64 0, .int .i64 0, .int .i64 0, .int .i64 0, .int .i64 0, .int .i64 0, .int .i64 0] 39)) ⟨((Below.refl _ _).alloc (Nat.le_refl _) _).alloc (by simp) _, by simp; omega, by simp [Cells, go_sem], by simp [Frees, go_sem]⟩ hb1
  generalize hn : w.heap.size = n at *
  clear hb1 HP
  have HK := Lib.hid hK
  clear hK
  obtain ⟨-, hs1, ⟨q1, q2, q3, q4, q5, -⟩, -⟩ := HK.out
  go_wp2_with (first | (go_at_call 68; ((with_reducible refine (HSc.out _).mono ?_); rintro e w' ⟨rfl, rfl⟩)))
  refine (HT.out _).mono ?_
  rintro e w2 ⟨rfl, hb2⟩
  have hK2 := HK.out.call hb2
  have hlt : n < w2.heap.size := World.block_lt_of_cell? w2 _ hK2.2.2.1.1
  clear HK hb2 HT q1 q2 q3 q4 q5 hs1
  have HK2 := Lib.hid hK2
  obtain ⟨-, hs2, ⟨q1, q2, q3, q4, q5, -⟩, -⟩ := hK2
  have HK3 : Hid (Knows n w [(⟨w2.heap.size, 0, none⟩, .int .u64 (hiW A)), (⟨w2.heap.size, 1, none⟩, .int .u64 (loW A)), (⟨n, 0, none⟩, .int .i64 c), (⟨n, 1, none⟩, .int .i64 d), (⟨n, 2, none⟩, .int .i64 v), (⟨n, 3, none⟩, .int .u64 vh), (⟨n, 4, none⟩, .int .u64 vl), (⟨n + 1, 0, none⟩, .int .i64 0), (⟨n + 1, 1, none⟩, .int .i64 0), (⟨n + 1, 2, none⟩, .int .i64 0), (⟨n + 1, 3, none⟩, .int .i64 0), (⟨n + 1, 4, none⟩, .int .i64 0), (⟨n + 1, 5, none⟩, .int .i64 0), (⟨n + 1, 6, none⟩, .int .i64 0), (⟨n + 1, 7, none⟩, .int .i64 0)] [⟨n + 1, 0, none⟩, ⟨n + 1, 1, none⟩, ⟨n + 1, 2, none⟩, ⟨n + 1, 3, none⟩, ⟨n + 1, 4, none⟩, ⟨n + 1, 5, none⟩, ⟨n + 1, 6, none⟩, ⟨n + 1, 7, none⟩] (w2.alloc (.cells #[.int .u64 (hiW A), .int .u64 (loW A)] 35))) :=
    Lib.hid (((HK2.out.alloc _).more (by simp [go_sem])).more (by simp [go_sem]))
  clear HK2
  generalize hm : w2.heap.size = m at *
  go_wp2_with fail
  refine wp_region_plan (fun _ _ W => Knows n w [(⟨m, 0, none⟩, .int .u64 (hiW A)), (⟨m, 1, none⟩, .int .u64 (loW A)), (⟨n, 0, none⟩, .int .i64 c), (⟨n, 1, none⟩, .int .i64 d), (⟨n, 2, none⟩, .int .i64 v), (⟨n, 3, none⟩, .int .u64 vh), (⟨n, 4, none⟩, .int .u64 vl), (⟨n + 1, 0, none⟩, .int .i64 0), (⟨n + 1, 1, none⟩, .int .i64 0), (⟨n + 1, 2, none⟩, .int .i64 0), (⟨n + 1, 3, none⟩, .int .i64 0), (⟨n + 1, 4, none⟩, .int .i64 0), (⟨n + 1, 5, none⟩, .int .i64 0), (⟨n + 1, 6, none⟩, .int .i64 0), (⟨n + 1, 7, none⟩, .int .i64 0)] [⟨n + 1, 0, none⟩, ⟨n + 1, 1, none⟩, ⟨n + 1, 2, none⟩, ⟨n + 1, 3, none⟩, ⟨n + 1, 4, none⟩, ⟨n + 1, 5, none⟩, ⟨n + 1, 6, none⟩, ⟨n + 1, 7, none⟩] W) 9 (by kernel_rfl) (by kernel_rfl) rfl ?_ ?_
  · exact HK3.out.drew
  simp only [List.zipIdx_cons, List.zipIdx_nil, List.map_cons, List.map_nil, Nat.zero_add, Nat.reduceAdd]
  apply inOrder_op rfl rfl
  · intro L g' W _ _ _ hW
    obtain ⟨-, -, ⟨q1, q2, -⟩, -⟩ := id hW
    apply comes_value (hv := rfl) (hD := hW)
    go_simp
    rfl
  simp only [Act.put, List.setIfInBounds_toArray, List.set_cons_zero, List.set_cons_succ]
  apply inOrder_op rfl rfl
  · intro L g' W _ _ _ hW
    obtain ⟨-, -, ⟨q1, q2, -⟩, -⟩ := id hW
    apply comes_call
    · go_simp
      first | rfl | exact ⟨rfl, rfl⟩ | exact ⟨⟨rfl, rfl⟩, rfl⟩
    · refine (HRo.out W).mono ?_
      rintro e w' ⟨rfl, hb⟩
      exact ⟨rfl, Knows.call hW hb⟩
  simp only [Act.put, List.setIfInBounds_toArray, List.set_cons_zero, List.set_cons_succ]
  apply inOrder_op rfl rfl
  · intro L g' W _ _ _ hW
    obtain ⟨-, -, ⟨q1, q2, -⟩, -⟩ := id hW
    apply comes_value (hv := rfl) (hD := hW)
    go_simp
    rfl
  simp only [Act.put, List.setIfInBounds_toArray, List.set_cons_zero, List.set_cons_succ]
  apply inOrder_op rfl rfl
  · intro L g' W _ _ _ hW
    obtain ⟨-, -, ⟨q1, q2, -⟩, -⟩ := id hW
    apply comes_value (hv := rfl) (hD := hW)
    go_simp
    rfl
  simp only [Act.put, List.setIfInBounds_toArray, List.set_cons_zero, List.set_cons_succ]
  apply inOrder_op rfl rfl
  · intro L g' W _ _ _ hW
    obtain ⟨-, -, ⟨q1, q2, -⟩, -⟩ := id hW
    apply comes_call
    · go_simp
      first | rfl | exact ⟨rfl, rfl⟩ | exact ⟨⟨rfl, rfl⟩, rfl⟩
    · refine (HUp.out W).mono ?_
      rintro e w' ⟨rfl, hb⟩
      exact ⟨rfl, Knows.call hW hb⟩
  simp only [Act.put, List.setIfInBounds_toArray, List.set_cons_zero, List.set_cons_succ]
  apply inOrder_op rfl rfl
  · intro L g' W _ _ _ hW
    obtain ⟨-, -, ⟨q1, q2, -⟩, -⟩ := id hW
    apply comes_value (hv := rfl) (hD := hW)
    go_simp
    rfl
  simp only [Act.put, List.setIfInBounds_toArray, List.set_cons_zero, List.set_cons_succ]
  apply inOrder_op rfl rfl
  · intro L g' W _ _ _ hW
    obtain ⟨-, -, ⟨q1, q2, -⟩, -⟩ := id hW
    apply comes_value (hv := rfl) (hD := hW)
    go_simp
    rfl
  simp only [Act.put, List.setIfInBounds_toArray, List.set_cons_zero, List.set_cons_succ]
  apply inOrder_op rfl rfl
  · intro L g' W _ _ _ hW
    obtain ⟨-, -, ⟨q1, q2, -⟩, -⟩ := id hW
    apply comes_value (hv := rfl) (hD := hW)
    go_simp
    rfl
  simp only [Act.put, List.setIfInBounds_toArray, List.set_cons_zero, List.set_cons_succ]
  apply inOrder_op rfl rfl
  · intro L g' W _ _ _ hW
    obtain ⟨-, -, ⟨q1, q2, -⟩, -⟩ := id hW
    apply comes_value (hv := rfl) (hD := hW)
    go_simp
    rfl
  simp only [Act.put, List.setIfInBounds_toArray, List.set_cons_zero, List.set_cons_succ]
  refine inOrder_nil ?_
  intro W hW
  have HK := Lib.hid hW
  obtain ⟨-, -, ⟨-, -, q1, q2, q3, q4, q5, -⟩, -⟩ := hW
  clear HK3 HRo HUp
  go_wp2_with fail
  have wc1 : IntKind.i64.wrap (c * s) = c * s := IntWalk.i64_in _ (by omega)
  have wc2 : IntKind.i64.wrap (c + v) = c + v := IntWalk.i64_in _ (by omega)
  have wc3 : IntKind.i64.wrap ((c + v) * s) = (c + v) * s := IntWalk.i64_in _ (by omega)
  refine wp_region_plan (fun _ _ W => Knows n w [(⟨m, 0, none⟩, .int .u64 (hiW A)), (⟨m, 1, none⟩, .int .u64 (loW A)), (⟨n, 0, none⟩, .int .i64 c), (⟨n, 1, none⟩, .int .i64 d), (⟨n, 2, none⟩, .int .i64 v), (⟨n, 3, none⟩, .int .u64 vh), (⟨n, 4, none⟩, .int .u64 vl), (⟨n + 1, 0, none⟩, .int .i64 0), (⟨n + 1, 1, none⟩, .int .i64 0), (⟨n + 1, 2, none⟩, .int .i64 0), (⟨n + 1, 3, none⟩, .int .i64 0), (⟨n + 1, 4, none⟩, .int .i64 0), (⟨n + 1, 5, none⟩, .int .i64 0), (⟨n + 1, 6, none⟩, .int .i64 0), (⟨n + 1, 7, none⟩, .int .i64 0)] [⟨n + 1, 0, none⟩, ⟨n + 1, 1, none⟩, ⟨n + 1, 2, none⟩, ⟨n + 1, 3, none⟩, ⟨n + 1, 4, none⟩, ⟨n + 1, 5, none⟩, ⟨n + 1, 6, none⟩, ⟨n + 1, 7, none⟩] W) 13 (by kernel_rfl) (by kernel_rfl) rfl ?_ ?_
  · exact HK.out.drew
  simp only [List.zipIdx_cons, List.zipIdx_nil, List.map_cons, List.map_nil, Nat.zero_add, Nat.reduceAdd]
  apply inOrder_op rfl rfl
  · intro L g' W _ _ _ hW
    obtain ⟨-, -, ⟨q1, q2, q3, q4, q5, q6, q7, -⟩, -⟩ := id hW
    apply comes_value (hv := rfl) (hD := hW)
    go_simp
    rfl
  simp only [Act.put, List.setIfInBounds_toArray, List.set_cons_zero, List.set_cons_succ]
  apply inOrder_op rfl rfl
  · intro L g' W _ _ _ hW
    obtain ⟨-, -, ⟨q1, q2, q3, q4, q5, q6, q7, -⟩, -⟩ := id hW
    apply comes_value (hv := rfl) (hD := hW)
    go_simp
    rfl
  simp only [Act.put, List.setIfInBounds_toArray, List.set_cons_zero, List.set_cons_succ]
  apply inOrder_op rfl rfl
  · intro L g' W _ _ _ hW
    obtain ⟨-, -, ⟨q1, q2, q3, q4, q5, q6, q7, -⟩, -⟩ := id hW
    apply comes_value (hv := rfl) (hD := hW)
    go_simp
    rfl
  simp only [Act.put, List.setIfInBounds_toArray, List.set_cons_zero, List.set_cons_succ]
  apply inOrder_op rfl rfl
  · intro L g' W _ _ _ hW
    obtain ⟨-, -, ⟨q1, q2, q3, q4, q5, q6, q7, -⟩, -⟩ := id hW
    apply comes_value (hv := rfl) (hD := hW)
    go_simp
    rfl
  simp only [Act.put, List.setIfInBounds_toArray, List.set_cons_zero, List.set_cons_succ]
  apply inOrder_op rfl rfl
  · intro L g' W _ _ _ hW
    obtain ⟨-, -, ⟨q1, q2, q3, q4, q5, q6, q7, -⟩, -⟩ := id hW
    apply comes_value (hv := rfl) (hD := hW)
    go_simp
    rfl
  simp only [Act.put, List.setIfInBounds_toArray, List.set_cons_zero, List.set_cons_succ]
  apply inOrder_op rfl rfl
  · intro L g' W _ _ _ hW
    obtain ⟨-, -, ⟨q1, q2, q3, q4, q5, q6, q7, -⟩, -⟩ := id hW
    apply comes_value (hv := rfl) (hD := hW)
    go_simp
    rfl
  simp only [Act.put, List.setIfInBounds_toArray, List.set_cons_zero, List.set_cons_succ]
  apply inOrder_op rfl rfl
  · intro L g' W _ _ _ hW
    obtain ⟨-, -, ⟨q1, q2, q3, q4, q5, q6, q7, -⟩, -⟩ := id hW
    apply comes_value (hv := rfl) (hD := hW)
    go_simp
    rfl
  simp only [Act.put, List.setIfInBounds_toArray, List.set_cons_zero, List.set_cons_succ]
  apply inOrder_op rfl rfl
  · intro L g' W _ _ _ hW
    obtain ⟨-, -, ⟨q1, q2, q3, q4, q5, q6, q7, -⟩, -⟩ := id hW
    apply comes_value (hv := rfl) (hD := hW)
    go_simp
    rfl
  simp only [Act.put, List.setIfInBounds_toArray, List.set_cons_zero, List.set_cons_succ]
  apply inOrder_op rfl rfl
  · intro L g' W _ _ _ hW
    obtain ⟨-, -, ⟨q1, q2, q3, q4, q5, q6, q7, -⟩, -⟩ := id hW
    apply comes_value (hv := rfl) (hD := hW)
    go_simp
    rfl
  simp only [Act.put, List.setIfInBounds_toArray, List.set_cons_zero, List.set_cons_succ]
  apply inOrder_op rfl rfl
  · intro L g' W _ _ _ hW
    obtain ⟨-, -, ⟨q1, q2, q3, q4, q5, q6, q7, -⟩, -⟩ := id hW
    apply comes_value (hv := rfl) (hD := hW)
    go_simp
    rfl
  simp only [Act.put, List.setIfInBounds_toArray, List.set_cons_zero, List.set_cons_succ]
  apply inOrder_op rfl rfl
  · intro L g' W _ _ _ hW
    obtain ⟨-, -, ⟨q1, q2, q3, q4, q5, q6, q7, -⟩, -⟩ := id hW
    apply comes_value (hv := rfl) (hD := hW)
    go_simp
    rfl
  simp only [Act.put, List.setIfInBounds_toArray, List.set_cons_zero, List.set_cons_succ]
  apply inOrder_op rfl rfl
  · intro L g' W _ _ _ hW
    obtain ⟨-, -, ⟨q1, q2, q3, q4, q5, q6, q7, -⟩, -⟩ := id hW
    apply comes_value (hv := rfl) (hD := hW)
    go_simp
    rfl
  simp only [Act.put, List.setIfInBounds_toArray, List.set_cons_zero, List.set_cons_succ]
  apply inOrder_op rfl rfl
  · intro L g' W _ _ _ hW
    obtain ⟨-, -, ⟨q1, q2, q3, q4, q5, q6, q7, -⟩, -⟩ := id hW
    apply comes_value (hv := rfl) (hD := hW)
    go_simp
    rfl
  simp only [Act.put, List.setIfInBounds_toArray, List.set_cons_zero, List.set_cons_succ]
  refine inOrder_nil ?_
  clear HK
  intro W hW
  have HK := Lib.hid hW
  obtain ⟨-, -, ⟨-, -, q1, q2, q3, q4, q5, -⟩, -⟩ := hW
  clear wc1 wc2 wc3
  go_wp2_with fail
  refine (HRn.out n _ _ (by omega) (by omega) _ q2).mono ?_
  rintro e W' ⟨rfl, hb⟩
  have HK' := Lib.hid (HK.out.call hb)
  clear HK hb q1 q2 q3 q4 q5
  have HK := Lib.hid HK'.out
  clear HK'
  obtain ⟨-, -, ⟨-, -, q1, q2, q3, q4, q5, -⟩, -⟩ := HK.out
  go_wp2_with fail
  refine (HRn.out n _ _ (by omega) (by omega) _ q2).mono ?_
  rintro e W' ⟨rfl, hb⟩
  have HK' := Lib.hid (HK.out.call hb)
  clear HK hb q1 q2 q3 q4 q5
  have HK := Lib.hid HK'.out
  clear HK'
  obtain ⟨-, -, ⟨-, -, q1, q2, q3, q4, q5, -⟩, -⟩ := HK.out
  go_wp2_with fail
  refine (HRn.out n _ _ (by omega) (by omega) _ q2).mono ?_
  rintro e W' ⟨rfl, hb⟩
  have HK' := Lib.hid (HK.out.call hb)
  clear HK hb q1 q2 q3 q4 q5
  have HK := Lib.hid HK'.out
  clear HK'
  obtain ⟨-, -, ⟨-, -, q1, q2, q3, q4, q5, -⟩, -⟩ := HK.out
  go_wp2_with fail
  refine (HRn.out n _ _ (by omega) (by omega) _ q2).mono ?_
  rintro e W' ⟨rfl, hb⟩
  have HK' := Lib.hid (HK.out.call hb)
  clear HK hb q1 q2 q3 q4 q5
  have HK := Lib.hid HK'.out
  clear HK'
  obtain ⟨-, -, ⟨-, -, q1, q2, q3, q4, q5, -⟩, -⟩ := HK.out
  obtain ⟨hB, hsz, ⟨-, -, -, -, -, -, -, y0, y1, y2, y3, y4, y5, y6, y7, -⟩, ⟨-, z0⟩, ⟨-, z1⟩, ⟨-, z2⟩, ⟨-, z3⟩, ⟨-, z4⟩, ⟨-, z5⟩, ⟨-, z6⟩, ⟨-, z7⟩, -⟩ := HK.out
  have HB := Lib.hid hB
  clear HK hB q1 q2 q3 q4 q5 HRn
  go_wp2_with fail
  refine bodyPost_ret (v := .tuple #[.agg #[.int .i64 (fl (c * s - u) d), .int .i64 (cl (c * s - r) d), .int .i64 (fl (c * s) d), .int .i64 (cl (c * s) d), .int .i64 (fl (c * s + r) d), .int .i64 (cl (c * s + u) d), .int .i64 (fl ((c + v) * s) d), .int .i64 (cl ((c + v) * s) d)], .int .i64 0]) ?_ rfl ⟨rfl, ?_⟩
  · simp [results, Try.results23, go_sem, y0, y1, y2, y3, y4, y5, y6, y7, z0, z1, z2, z3, z4, z5, z6, z7]
  · have h1 : n ≤ n + 1 := Nat.le_succ n
    rw [hn]
    exact (((((((HB.out.setCell h1 _).setCell h1 _).setCell h1 _).setCell h1 _).setCell h1 _).setCell h1 _).setCell h1 _).setCell h1 _
theorem draw_arg (c d v vh vl s : Int) (hp : pointB c d v vh = false) (w : World) :
    Calls Try.prog 23 #[.agg #[.int .i64 c, .int .i64 d, .int .i64 v, .int .u64 vh, .int .u64 vl], .int .i64 s] w fun e w' => e = .returned (.tuple #[.agg #[.int .i64 0, .int .i64 0, .int .i64 0, .int .i64 0, .int .i64 0, .int .i64 0, .int .i64 0, .int .i64 0], .int .i64 1]) ∧ Below w.heap.size w w' := by
  have HP : Hid (∀ W, Calls Try.prog 24 #[.agg #[.int .i64 c, .int .i64 d, .int .i64 v, .int .u64 vh, .int .u64 vl]] W fun e w' => e = .returned (.bool false) ∧ Below W.heap.size W w') := Lib.hid (fun W => hp ▸ right_c c d v vh vl W)
  clear hp
  go_enter Try.func23, Try.ntmps23
  go_wp2_with fail
  refine (HP.out _).mono ?_
  rintro e w1 ⟨rfl, hb1⟩
  have hK : Knows w.heap.size w [(⟨w.heap.size + 1, 0, none⟩, .int .i64 0), (⟨w.heap.size + 1, 1, none⟩, .int .i64 0), (⟨w.heap.size + 1, 2, none⟩, .int .i64 0), (⟨w.heap.size + 1, 3, none⟩, .int .i64 0), (⟨w.heap.size + 1, 4, none⟩, .int .i64 0), (⟨w.heap.size + 1, 5, none⟩, .int .i64 0), (⟨w.heap.size + 1, 6, none⟩, .int .i64 0), (⟨w.heap.size + 1, 7, none⟩, .int .i64 0)] [⟨w.heap.size + 1, 0, none⟩, ⟨w.heap.size + 1, 1, none⟩, ⟨w.heap.size + 1, 2, none⟩, ⟨w.heap.size + 1, 3, none⟩, ⟨w.heap.size + 1, 4, none⟩, ⟨w.heap.size + 1, 5, none⟩, ⟨w.heap.size + 1, 6, none⟩, ⟨w.heap.size + 1, 7, none⟩] w1 :=
    Knows.call (W := (w.alloc (.cells #[.int .i64 c, .int .i64 d, .int .i64 v, .int .u64 vh, .int .u64 vl] 37)).alloc (.cells #[.int .i64 0, .int .i64 0, .int .i64 0, .int .i64 0, .int .i64 0, .int .i64 0, .int .i64 0, .int .i64 0] 39)) ⟨((Below.refl _ _).alloc (Nat.le_refl _) _).alloc (by simp) _, by simp; omega, by simp [Cells, go_sem], by simp [Frees, go_sem]⟩ hb1
  clear hb1 HP
  obtain ⟨hB, hsz, ⟨y0, y1, y2, y3, y4, y5, y6, y7, -⟩, ⟨-, z0⟩, ⟨-, z1⟩, ⟨-, z2⟩, ⟨-, z3⟩, ⟨-, z4⟩, ⟨-, z5⟩, ⟨-, z6⟩, ⟨-, z7⟩, -⟩ := hK
  have HB := Lib.hid hB
  clear hB
  go_wp2_with fail
  refine bodyPost_ret (v := .tuple #[.agg #[.int .i64 0, .int .i64 0, .int .i64 0, .int .i64 0, .int .i64 0, .int .i64 0, .int .i64 0, .int .i64 0], .int .i64 1]) ?_ rfl ⟨rfl, ?_⟩
  · simp [results, Try.results23, go_sem, y0, y1, y2, y3, y4, y5, y6, y7, z0, z1, z2, z3, z4, z5, z6, z7]
  · have h1 : w.heap.size ≤ w.heap.size + 1 := Nat.le_succ _
    exact (((((((HB.out.setCell h1 _).setCell h1 _).setCell h1 _).setCell h1 _).setCell h1 _).setCell h1 _).setCell h1 _).setCell h1 _
theorem draw_range (c d v vh vl s : Int) (hp : pointB c d v vh = true) (hs : scaleB s = false) (w : World) :
    Calls Try.prog 23 #[.agg #[.int .i64 c, .int .i64 d, .int .i64 v, .int .u64 vh, .int .u64 vl], .int .i64 s] w fun e w' => e = .returned (.tuple #[.agg #[.int .i64 0, .int .i64 0, .int .i64 0, .int .i64 0, .int .i64 0, .int .i64 0, .int .i64 0, .int .i64 0], .int .i64 3]) ∧ Below w.heap.size w w' := by
  have HP : Hid (∀ W, Calls Try.prog 24 #[.agg #[.int .i64 c, .int .i64 d, .int .i64 v, .int .u64 vh, .int .u64 vl]] W fun e w' => e = .returned (.bool true) ∧ Below W.heap.size W w') := Lib.hid (fun W => hp ▸ right_c c d v vh vl W)
  have HSc : Hid (∀ W, Calls Try.prog 68 #[.int .i64 s] W fun e w' => e = .returned (.bool false) ∧ W = w') := Lib.hid (fun W => hs ▸ isScale_c s W)
  clear hp hs
  go_enter Try.func23, Try.ntmps23
  go_wp2_with fail
  refine (HP.out _).mono ?_
  rintro e w1 ⟨rfl, hb1⟩
  have hK : Knows w.heap.size w [(⟨w.heap.size + 1, 0, none⟩, .int .i64 0), (⟨w.heap.size + 1, 1, none⟩, .int .i64 0), (⟨w.heap.size + 1, 2, none⟩, .int .i64 0), (⟨w.heap.size + 1, 3, none⟩, .int .i64 0), (⟨w.heap.size + 1, 4, none⟩, .int .i64 0), (⟨w.heap.size + 1, 5, none⟩, .int .i64 0), (⟨w.heap.size + 1, 6, none⟩, .int .i64 0), (⟨w.heap.size + 1, 7, none⟩, .int .i64 0)] [⟨w.heap.size + 1, 0, none⟩, ⟨w.heap.size + 1, 1, none⟩, ⟨w.heap.size + 1, 2, none⟩, ⟨w.heap.size + 1, 3, none⟩, ⟨w.heap.size + 1, 4, none⟩, ⟨w.heap.size + 1, 5, none⟩, ⟨w.heap.size + 1, 6, none⟩, ⟨w.heap.size + 1, 7, none⟩] w1 :=
    Knows.call (W := (w.alloc (.cells #[.int .i64 c, .int .i64 d, .int .i64 v, .int .u64 vh, .int .u64 vl] 37)).alloc (.cells #[.int .i64 0, .int .i64 0, .int .i64 0, .int .i64 0, .int .i64 0, .int .i64 0, .int .i64 0, .int .i64 0] 39)) ⟨((Below.refl _ _).alloc (Nat.le_refl _) _).alloc (by simp) _, by simp; omega, by simp [Cells, go_sem], by simp [Frees, go_sem]⟩ hb1
  clear hb1 HP
  obtain ⟨hB, hsz, ⟨y0, y1, y2, y3, y4, y5, y6, y7, -⟩, ⟨-, z0⟩, ⟨-, z1⟩, ⟨-, z2⟩, ⟨-, z3⟩, ⟨-, z4⟩, ⟨-, z5⟩, ⟨-, z6⟩, ⟨-, z7⟩, -⟩ := hK
  have HB := Lib.hid hB
  clear hB
  go_wp2_with (first | (go_at_call 68; ((with_reducible refine (HSc.out _).mono ?_); rintro e w' ⟨rfl, rfl⟩)))
  refine bodyPost_ret (v := .tuple #[.agg #[.int .i64 0, .int .i64 0, .int .i64 0, .int .i64 0, .int .i64 0, .int .i64 0, .int .i64 0, .int .i64 0], .int .i64 3]) ?_ rfl ⟨rfl, ?_⟩
  · simp [results, Try.results23, go_sem, y0, y1, y2, y3, y4, y5, y6, y7, z0, z1, z2, z3, z4, z5, z6, z7]
  · have h1 : w.heap.size ≤ w.heap.size + 1 := Nat.le_succ _
    exact (((((((HB.out.setCell h1 _).setCell h1 _).setCell h1 _).setCell h1 _).setCell h1 _).setCell h1 _).setCell h1 _).setCell h1 _

/-! ### In the printed texts' form -/
def limit_Right.f (c d v vh _vl : Int) : Option Bool := some (pointB c d v vh)
theorem limit_Right.calls (c d v vh vl : Int) (r : Bool) (w : World) (h : limit_Right.f c d v vh vl = some r) :
    Calls Try.prog 24 #[.agg #[.int .i64 c, .int .i64 d, .int .i64 v, .int .u64 vh, .int .u64 vl]] w fun e w' => e = .returned (.bool r) ∧ Below w.heap.size w w' := by
  unfold limit_Right.f at h
  simp only [Option.some.injEq] at h
  subst h
  exact right_c c d v vh vl w
def limit_Draw.f (c d v vh vl s : Int) : Option (Int × Int × Int × Int × Int × Int × Int × Int × Int) :=
  if pointB c d v vh = true then
    (if 0 ≤ vh ∧ Word vl then
      (if scaleB s = true then some (fl (c * s - usqrt (rad vh vl s)) d, cl (c * s - isqrt (rad vh vl s)) d, fl (c * s) d, cl (c * s) d, fl (c * s + isqrt (rad vh vl s)) d, cl (c * s + usqrt (rad vh vl s)) d, fl ((c + v) * s) d, cl ((c + v) * s) d, 0)
       else some (0, 0, 0, 0, 0, 0, 0, 0, 3)) else none)
  else some (0, 0, 0, 0, 0, 0, 0, 0, 1)
theorem pointB_spec {c d v h : Int} (hp : pointB c d v h = true) : (-100000000000000 ≤ c ∧ c ≤ 100000000000000) ∧ (1 ≤ d ∧ d ≤ 100000000000000) ∧ (-100000000000000 ≤ v ∧ v ≤ 100000000000000) ∧ h < 274877906944 := by
  unfold pointB far at hp
  simp at hp
  omega
theorem scaleB_spec {s : Int} (hp : scaleB s = true) : 1 ≤ s ∧ s ≤ 1000 := by
  unfold scaleB at hp
  simpa using hp
theorem limit_Draw.calls (c d v vh vl s r1 r2 r3 r4 r5 r6 r7 r8 r9 : Int) (w : World) (h : limit_Draw.f c d v vh vl s = some (r1, r2, r3, r4, r5, r6, r7, r8, r9)) :
    Calls Try.prog 23 #[.agg #[.int .i64 c, .int .i64 d, .int .i64 v, .int .u64 vh, .int .u64 vl], .int .i64 s] w fun e w' => e = .returned (.tuple #[.agg #[.int .i64 r1, .int .i64 r2, .int .i64 r3, .int .i64 r4, .int .i64 r5, .int .i64 r6, .int .i64 r7, .int .i64 r8], .int .i64 r9]) ∧ Below w.heap.size w w' := by
  unfold limit_Draw.f at h
  split at h
  · rename_i hp
    split at h
    · rename_i hw
      split at h
      · rename_i hs
        simp only [Option.some.injEq, Prod.mk.injEq] at h
        obtain ⟨rfl, rfl, rfl, rfl, rfl, rfl, rfl, rfl, rfl⟩ := h
        obtain ⟨a1, a2, a3, a4⟩ := pointB_spec hp
        exact draw_ok c d v vh vl s a1 a2 a3 ⟨hw.1, a4⟩ hw.2 (scaleB_spec hs) w
      · rename_i hs
        simp only [Option.some.injEq, Prod.mk.injEq] at h
        obtain ⟨rfl, rfl, rfl, rfl, rfl, rfl, rfl, rfl, rfl⟩ := h
        exact draw_range c d v vh vl s hp (by simpa using hs) w
    · cases h
  · rename_i hp
    simp only [Option.some.injEq, Prod.mk.injEq] at h
    obtain ⟨rfl, rfl, rfl, rfl, rfl, rfl, rfl, rfl, rfl⟩ := h
    exact draw_arg c d v vh vl s (by simpa using hp) w
end Go.Proofs.Ytkdfkpalgejkkaa
/-
  zone.Class, zone.Hull (of one variance), zone.Has; limit.Mask.
-/
set_option linter.unusedSimpArgs false
namespace Go.Proofs.Ytkdfkpalgejkkaa
open Go.RowKit Go.Shelf

theorem Class_c (dev V : Int) (hd : IsInt dev) (hV : 0 ≤ V ∧ V < 21267647932558653966460912964485513216) (w : World) :
    Calls Try.prog 52 #[.int .i64 dev, wv V] w fun e w' => e = .returned (.tuple #[.int .i64 (classZ dev V), .int .i64 0]) ∧ Below w.heap.size w w' := by
  have HC := Lib.hid (fun W => class_c dev V hd (by omega) W)
  have hh : hiW V < 1152921504606846976 := by unfold hiW; omega
  clear hV hd
  go_enter Try.func52, Try.ntmps52
  go_wp2_with fail
  refine (HC.out _).mono ?_
  rintro e w1 ⟨rfl, hb⟩
  go_wp2_with fail
  go_ret2
  exact ⟨rfl, below_then_ ((Below.refl _ _).alloc (Nat.le_refl _) _) (by simp) hb⟩

theorem classN_bound (dev V : Int) : 1 ≤ classN dev V ∧ classN dev V ≤ 4 := by
  unfold classN
  split <;> split <;> split <;> omega
theorem classZ_bound (dev V : Int) : -4 ≤ classZ dev V ∧ classZ dev V ≤ 4 := by
  have := classN_bound dev V
  unfold classZ
  split
  · omega
  · split <;> omega
theorem classN_mono {a b V : Int} (h : a * a ≤ b * b) : classN a V ≤ classN b V := by
  unfold classN
  have h1 : (if V < a * a then (1 : Int) else 0) ≤ if V < b * b then 1 else 0 := by split <;> split <;> omega
  have h2 : (if 4 * V < a * a then (1 : Int) else 0) ≤ if 4 * V < b * b then 1 else 0 := by split <;> split <;> omega
  have h3 : (if 9 * V < a * a then (1 : Int) else 0) ≤ if 9 * V < b * b then 1 else 0 := by split <;> split <;> omega
  omega
theorem classZ_mono {a b V : Int} (h : a ≤ b) : classZ a V ≤ classZ b V := by
  have ha := classN_bound a V
  have hb := classN_bound b V
  unfold classZ
  split <;> split <;> (try split) <;> (try split) <;> (try omega)
  · -- both below 0
    have := sq_le_sq (x := -b) (y := -a) (by omega) (by omega)
    rw [Int.neg_mul_neg, Int.neg_mul_neg] at this
    have := classN_mono (V := V) this
    omega
  · have := sq_le_sq (x := a) (y := b) (by omega) (by omega)
    exact classN_mono this

/-- The mask of all classes from l to m. -/
def maskZ (l m : Int) : Int := wrap64 (wrap64 (wrap64 (2 ^ (m - l + 1).toNat) - 1) * 2 ^ (l + 4).toNat)
set_option maxHeartbeats 1000000 in
set_option maxRecDepth 100000 in
theorem hull_c (x1 x2 V : Int) (h12 : x1 ≤ x2) (h1 : IsInt x1) (h2 : IsInt x2) (hV : 0 ≤ V ∧ V < 21267647932558653966460912964485513216) (w : World) :
    Calls Try.prog 83 #[.agg #[.int .i64 x1, .int .i64 x2], wv V, wv V] w fun e w' => e = .returned (.tuple #[.int .i64 (maskZ (classZ x1 V) (classZ x2 V)), .int .i64 0]) ∧ Below w.heap.size w w' := by
  have HR : Hid (∀ W, Calls Try.prog 56 #[.agg #[.int .i64 x1, .int .i64 x2]] W fun e w' => e = .returned (.bool true) ∧ Below W.heap.size W w') := Lib.hid (fun W => decide_eq_true h12 ▸ spanRight_c x1 x2 W)
  have HL : Hid (∀ W, Calls Try.prog 50 #[wv V, wv V] W fun e w' => e = .returned (.bool false) ∧ Below W.heap.size W w') := Lib.hid (fun W => by have h := wide_Less_c V V W; rwa [decide_eq_false (by omega)] at h)
  have H1 := Lib.hid (fun W => class_c x1 V h1 (by omega) W)
  have H2 := Lib.hid (fun W => class_c x2 V h2 (by omega) W)
  have hh : hiW V < 1152921504606846976 := by unfold hiW; omega
  have b1 := classZ_bound x1 V
  have b2 := classZ_bound x2 V
  have b3 : classZ x1 V ≤ classZ x2 V := classZ_mono h12
  generalize classZ x1 V = l at *
  generalize classZ x2 V = m at *
  obtain ⟨b11, b12⟩ := b1
  obtain ⟨b21, b22⟩ := b2
  have H12 := Lib.hid h12
  clear h12 h1 h2 hV
  go_enter Try.func83, Try.ntmps83
  go_wp2_with fail
  refine (HR.out _).mono ?_
  rintro e w1 ⟨rfl, hb⟩
  have HK : Hid (Knows w.heap.size w [(⟨w.heap.size, 0, none⟩, .int .i64 x1), (⟨w.heap.size, 1, none⟩, .int .i64 x2), (⟨w.heap.size + 1, 0, none⟩, .int .u64 (hiW V)), (⟨w.heap.size + 1, 1, none⟩, .int .u64 (loW V)), (⟨w.heap.size + 1 + 1, 0, none⟩, .int .u64 (hiW V)), (⟨w.heap.size + 1 + 1, 1, none⟩, .int .u64 (loW V))] [] w1) := by
    refine Lib.hid (Knows.call ?_ hb)
    exact ⟨(((Below.refl _ _).alloc (Nat.le_refl _) _).alloc (by simp) _).alloc (by simp; omega) _, by simp; omega, by simp [Cells, go_sem], trivial⟩
  clear hb
  obtain ⟨-, -, ⟨c0, c1, c2, c3, c4, c5, -⟩, -⟩ := HK.out
  go_wp2_with fail
  refine (HL.out _).mono ?_
  rintro e w2 ⟨rfl, hb⟩
  have hK := HK.out.call hb
  clear HK hb c0 c1 c2 c3 c4 c5
  have HK := Lib.hid hK
  obtain ⟨-, -, ⟨c0, c1, c2, c3, c4, c5, -⟩, -⟩ := hK
  go_wp2_with fail
  refine wp_region_plan (fun _ _ W => Knows w.heap.size w [(⟨w.heap.size, 0, none⟩, .int .i64 x1), (⟨w.heap.size, 1, none⟩, .int .i64 x2), (⟨w.heap.size + 1, 0, none⟩, .int .u64 (hiW V)), (⟨w.heap.size + 1, 1, none⟩, .int .u64 (loW V)), (⟨w.heap.size + 1 + 1, 0, none⟩, .int .u64 (hiW V)), (⟨w.heap.size + 1 + 1, 1, none⟩, .int .u64 (loW V))] [] W) 10 (by kernel_rfl) (by kernel_rfl) rfl ?_ ?_
  · exact HK.out.drew
  simp only [List.zipIdx_cons, List.zipIdx_nil, List.map_cons, List.map_nil, Nat.zero_add, Nat.reduceAdd]
  apply inOrder_op rfl rfl
  · intro L g' W _ _ _ hW
    obtain ⟨-, -, ⟨q1, q2, q3, q4, q5, q6, -⟩, -⟩ := id hW
    apply comes_value (hv := rfl) (hD := hW)
    go_simp
    rfl
  simp only [Act.put, List.setIfInBounds_toArray, List.set_cons_zero, List.set_cons_succ]
  apply inOrder_op rfl rfl
  · intro L g' W _ _ _ hW
    obtain ⟨-, -, ⟨q1, q2, q3, q4, q5, q6, -⟩, -⟩ := id hW
    apply comes_value (hv := rfl) (hD := hW)
    go_simp
    rfl
  simp only [Act.put, List.setIfInBounds_toArray, List.set_cons_zero, List.set_cons_succ]
  apply inOrder_op rfl rfl
  · intro L g' W _ _ _ hW
    obtain ⟨-, -, ⟨q1, q2, q3, q4, q5, q6, -⟩, -⟩ := id hW
    apply comes_value (hv := rfl) (hD := hW)
    go_simp
    rfl
  simp only [Act.put, List.setIfInBounds_toArray, List.set_cons_zero, List.set_cons_succ]
  apply inOrder_op rfl rfl
  · intro L g' W _ _ _ hW
    obtain ⟨-, -, ⟨q1, q2, q3, q4, q5, q6, -⟩, -⟩ := id hW
    apply comes_call
    · go_simp
      first | rfl | exact ⟨rfl, rfl⟩ | exact ⟨⟨rfl, rfl⟩, rfl⟩
    · refine (H1.out W).mono ?_
      rintro e w' ⟨rfl, hb⟩
      exact ⟨rfl, Knows.call hW hb⟩
  simp only [Act.put, List.setIfInBounds_toArray, List.set_cons_zero, List.set_cons_succ]
  apply inOrder_op rfl rfl
  · intro L g' W _ _ _ hW
    obtain ⟨-, -, ⟨q1, q2, q3, q4, q5, q6, -⟩, -⟩ := id hW
    apply comes_value (hv := rfl) (hD := hW)
    go_simp
    rfl
  simp only [Act.put, List.setIfInBounds_toArray, List.set_cons_zero, List.set_cons_succ]
  apply inOrder_op rfl rfl
  · intro L g' W _ _ _ hW
    obtain ⟨-, -, ⟨q1, q2, q3, q4, q5, q6, -⟩, -⟩ := id hW
    apply comes_value (hv := rfl) (hD := hW)
    go_simp
    rfl
  simp only [Act.put, List.setIfInBounds_toArray, List.set_cons_zero, List.set_cons_succ]
  apply inOrder_op rfl rfl
  · intro L g' W _ _ _ hW
    obtain ⟨-, -, ⟨q1, q2, q3, q4, q5, q6, -⟩, -⟩ := id hW
    apply comes_value (hv := rfl) (hD := hW)
    go_simp
    rfl
  simp only [Act.put, List.setIfInBounds_toArray, List.set_cons_zero, List.set_cons_succ]
  apply inOrder_op rfl rfl
  · intro L g' W _ _ _ hW
    obtain ⟨-, -, ⟨q1, q2, q3, q4, q5, q6, -⟩, -⟩ := id hW
    apply comes_call
    · go_simp
      first | rfl | exact ⟨rfl, rfl⟩ | exact ⟨⟨rfl, rfl⟩, rfl⟩
    · refine (H2.out W).mono ?_
      rintro e w' ⟨rfl, hb⟩
      exact ⟨rfl, Knows.call hW hb⟩
  simp only [Act.put, List.setIfInBounds_toArray, List.set_cons_zero, List.set_cons_succ]
  apply inOrder_op rfl rfl
  · intro L g' W _ _ _ hW
    obtain ⟨-, -, ⟨q1, q2, q3, q4, q5, q6, -⟩, -⟩ := id hW
    apply comes_value (hv := rfl) (hD := hW)
    go_simp
    rfl
  simp only [Act.put, List.setIfInBounds_toArray, List.set_cons_zero, List.set_cons_succ]
  apply inOrder_op rfl rfl
  · intro L g' W _ _ _ hW
    obtain ⟨-, -, ⟨q1, q2, q3, q4, q5, q6, -⟩, -⟩ := id hW
    apply comes_value (hv := rfl) (hD := hW)
    go_simp
    rfl
  simp only [Act.put, List.setIfInBounds_toArray, List.set_cons_zero, List.set_cons_succ]
  refine inOrder_nil ?_
  clear HK c0 c1 c2 c3 c4 c5
  intro W hW
  have HK := Lib.hid hW
  obtain ⟨-, -, ⟨c0, c1, c2, c3, c4, c5, -⟩, -⟩ := hW
  by_cases k1 : 0 < x1
  · have k2 : ¬ x2 < 0 := by have := H12.out; omega
    go_wp2_with fail
    refine (H1.out _).mono ?_
    rintro e w3 ⟨rfl, hb⟩
    have hK := HK.out.call hb
    clear HK hb c0 c1 c2 c3 c4 c5
    have HK := Lib.hid hK
    obtain ⟨-, -, ⟨c0, c1, c2, c3, c4, c5, -⟩, -⟩ := hK
    go_wp2_with fail
    go_ret2
    exact ⟨rfl, HK.out.1⟩
  · by_cases k2 : x2 < 0
    · skip
      go_wp2_with fail
      refine (H2.out _).mono ?_
      rintro e w3 ⟨rfl, hb⟩
      have hK := HK.out.call hb
      clear HK hb c0 c1 c2 c3 c4 c5
      have HK := Lib.hid hK
      obtain ⟨-, -, ⟨c0, c1, c2, c3, c4, c5, -⟩, -⟩ := hK
      go_wp2_with fail
      go_ret2
      exact ⟨rfl, HK.out.1⟩
    · go_wp2_with fail
      go_ret2
      exact ⟨rfl, HK.out.1⟩

/-- Does a mask have a class? -/
def hasZ (m c : Int) : Bool := decide (0 < m) && (decide (m < 512) && (decide (-4 ≤ c) && (decide (c ≤ 4) && (Go.bits .and .i64 (m / 2 ^ (c + 4).toNat) 1 == 1))))
theorem isMask_c (m : Int) (w : World) : Calls Try.prog 94 #[.int .i64 m] w fun e w' => e = .returned (.bool (decide (0 < m) && decide (m < 512))) ∧ w = w' := by
  by_cases h : 0 < m
  · go_enter Try.func94, Try.ntmps94
    go_wp2
    go_ret
    simp [h]
  · have h' : decide (0 < m) = false := decide_eq_false h
    go_enter Try.func94, Try.ntmps94
    go_wp2
    go_ret
    simp
theorem has_c (m c : Int) (h1 : 0 < m) (h2 : m < 512) (h3 : -4 ≤ c) (h4 : c ≤ 4) (w : World) : Calls Try.prog 53 #[.int .i64 m, .int .i64 c] w fun e w' => e = .returned (.bool (Go.bits .and .i64 (m / 2 ^ (c + 4).toNat) 1 == 1)) ∧ w = w' := by
  have HI : Hid (∀ W, Calls Try.prog 94 #[.int .i64 m] W fun e w' => e = .returned (.bool true) ∧ W = w') := Lib.hid (fun W => by
    have h := isMask_c m W
    rwa [decide_eq_true h1, decide_eq_true h2] at h)
  go_enter Try.func53, Try.ntmps53
  go_wp2_with (first | (go_at_call 94; ((with_reducible refine (HI.out _).mono ?_); rintro e w' ⟨rfl, rfl⟩)))
  go_ret
  exact ⟨rfl, rfl⟩

theorem mask_fin : ∀ (i j k : Fin 9), i.val ≤ k.val → k.val ≤ j.val → 0 < maskZ ((i.val : Int) - 4) ((j.val : Int) - 4) ∧ maskZ ((i.val : Int) - 4) ((j.val : Int) - 4) < 512 ∧ (Go.bits .and .i64 (maskZ ((i.val : Int) - 4) ((j.val : Int) - 4) / 2 ^ (((k.val : Int) - 4) + 4).toNat) 1 == 1) = true := by
  decide +kernel
theorem mask_has {l m c : Int} (h1 : -4 ≤ l) (h2 : l ≤ c) (h3 : c ≤ m) (h4 : m ≤ 4) : 0 < maskZ l m ∧ maskZ l m < 512 ∧ (Go.bits .and .i64 (maskZ l m / 2 ^ (c + 4).toNat) 1 == 1) = true := by
  have h := mask_fin ⟨(l + 4).toNat, by omega⟩ ⟨(m + 4).toNat, by omega⟩ ⟨(c + 4).toNat, by omega⟩ (by simp only []; omega) (by simp only []; omega)
  simp only [] at h
  rw [show (((l + 4).toNat : Nat) : Int) - 4 = l by omega, show (((m + 4).toNat : Nat) : Int) - 4 = m by omega, show (((c + 4).toNat : Nat) : Int) - 4 = c by omega] at h
  exact h

set_option maxRecDepth 100000 in
theorem Mask_c (c d v vh vl s : Int) (hp : pointB c d v vh = true) (hs : scaleB s = true) (h0 : 0 ≤ vh) (hl : Word vl) (w : World) :
    Calls Try.prog 40 #[.agg #[.int .i64 c, .int .i64 d, .int .i64 v, .int .u64 vh, .int .u64 vl], .int .i64 s] w fun e w' => e = .returned (.tuple #[.int .i64 (maskZ (classZ (v - cl d s) (ofW vh vl)) (classZ (v + cl d s) (ofW vh vl))), .int .i64 0]) ∧ Below w.heap.size w w' := by
  obtain ⟨hc, hd, hv, hh⟩ := pointB_spec hp
  obtain ⟨s1, s2⟩ := scaleB_spec hs
  have HP : Hid (∀ W, Calls Try.prog 24 #[.agg #[.int .i64 c, .int .i64 d, .int .i64 v, .int .u64 vh, .int .u64 vl]] W fun e w' => e = .returned (.bool true) ∧ Below W.heap.size W w') := Lib.hid (fun W => hp ▸ right_c c d v vh vl W)
  have HSc : Hid (∀ W, Calls Try.prog 68 #[.int .i64 s] W fun e w' => e = .returned (.bool true) ∧ W = w') := Lib.hid (fun W => hs ▸ isScale_c s W)
  have HM : Hid (∀ W, Calls Try.prog 70 #[.int .i64 d, .int .i64 1, .int .i64 s, .int .i64 1] W fun e w' => e = .returned (.tuple #[.int .i64 (cl d s), .int .i64 0]) ∧ Below W.heap.size W w') := Lib.hid (fun W => div1_c d s 1 (by omega) (by unfold IsInt; omega) s1 (.inr rfl) W)
  have g0 : 0 ≤ cl d s := by have := fl_le_cl (p := d) (c := s) (by omega); have := (le_fl (p := d) (c := s) (x := 0) (by omega)).2 (by omega); omega
  have g1 : cl d s ≤ d := (cl_le (by omega)).2 (by have := Int.mul_le_mul_of_nonneg_left s1 (show 0 ≤ d by omega); omega)
  unfold Word at hl
  have HH : Hid (∀ W, Calls Try.prog 83 #[.agg #[.int .i64 (v - cl d s), .int .i64 (v + cl d s)], .agg #[.int .u64 vh, .int .u64 vl], .agg #[.int .u64 vh, .int .u64 vl]] W fun e w' => e = .returned (.tuple #[.int .i64 (maskZ (classZ (v - cl d s) (ofW vh vl)) (classZ (v + cl d s) (ofW vh vl))), .int .i64 0]) ∧ Below W.heap.size W w') := Lib.hid (fun W => by
    have h := hull_c (v - cl d s) (v + cl d s) (ofW vh vl) (by omega) (by unfold IsInt; omega) (by unfold IsInt; omega) (by unfold ofW; omega) W
    rwa [wv_ofW hl] at h)
  generalize maskZ (classZ (v - cl d s) (ofW vh vl)) (classZ (v + cl d s) (ofW vh vl)) = R at *
  generalize cl d s = g at *
  obtain ⟨hv1, hv2⟩ := hv
  obtain ⟨hd1, hd2⟩ := hd
  clear hp hs hc hh h0 hl s1 s2
  go_enter Try.func40, Try.ntmps40
  go_wp2_with fail
  refine (HP.out _).mono ?_
  rintro e w1 ⟨rfl, hb⟩
  have HK : Hid (Knows w.heap.size w [(⟨w.heap.size, 0, none⟩, .int .i64 c), (⟨w.heap.size, 1, none⟩, .int .i64 d), (⟨w.heap.size, 2, none⟩, .int .i64 v), (⟨w.heap.size, 3, none⟩, .int .u64 vh), (⟨w.heap.size, 4, none⟩, .int .u64 vl)] [] w1) := by
    refine Lib.hid (Knows.call ?_ hb)
    exact ⟨(Below.refl _ _).alloc (Nat.le_refl _) _, by simp, by simp [Cells, go_sem], trivial⟩
  clear hb
  obtain ⟨-, -, ⟨c0, c1, c2, c3, c4, -⟩, -⟩ := HK.out
  go_wp2_with (first | (go_at_call 68; ((with_reducible refine (HSc.out _).mono ?_); rintro e w' ⟨rfl, rfl⟩)))
  refine (HM.out _).mono ?_
  rintro e w2 ⟨rfl, hb⟩
  have hK := HK.out.call hb
  clear HK hb c0 c1 c2 c3 c4
  have HK := Lib.hid hK
  obtain ⟨-, -, ⟨c0, c1, c2, c3, c4, -⟩, -⟩ := hK
  go_wp2_with fail
  refine (HH.out _).mono ?_
  rintro e w3 ⟨rfl, hb⟩
  have hK := HK.out.call hb
  clear HK hb c0 c1 c2 c3 c4
  go_wp2_with fail
  go_ret2
  exact ⟨rfl, hK.1⟩
end Go.Proofs.Ytkdfkpalgejkkaa
/-
  limit: plain numbers. How lines lie, and what a verdict says.
-/
set_option linter.unusedSimpArgs false
namespace Go.Proofs.Ytkdfkpalgejkkaa
open Go.RowKit

theorem wf_int {a : Int} (h : (Lit.int .i64 a).wf = true) : IsInt a := by
  have e1 : IntKind.i64.min = -9223372036854775808 := by decide
  have e2 : IntKind.i64.max = 9223372036854775807 := by decide
  unfold IsInt
  simp [Lit.wf, e1, e2] at h
  omega
theorem wf_word {a : Int} (h : (Lit.int .u64 a).wf = true) : Word a := by
  have e1 : IntKind.u64.min = 0 := by decide
  have e2 : IntKind.u64.max = 18446744073709551615 := by decide
  unfold Word
  simp [Lit.wf, e1, e2] at h
  omega
theorem tmod_bound (a : Int) {m : Int} (hm : 0 < m) : -m < Int.tmod a m ∧ Int.tmod a m < m := by
  constructor
  · have := Int.lt_tmod_of_pos a hm
    omega
  · exact Int.tmod_lt_of_pos a hm
/-- A number from 1 to m out of any one. -/
theorem one_to {a m : Int} (hm : 0 < m) (hm2 : m ≤ 1000000000000000) : 1 ≤ wrap64 (1 + Int.tmod (wrap64 (Int.tmod a m + m)) m) ∧ wrap64 (1 + Int.tmod (wrap64 (Int.tmod a m + m)) m) ≤ m := by
  obtain ⟨h1, h2⟩ := tmod_bound a hm
  have e : wrap64 (Int.tmod a m + m) = Int.tmod a m + m := by unfold wrap64; omega
  rw [e]
  obtain ⟨h3, h4⟩ := tmod_bound (Int.tmod a m + m) hm
  have h5 : 0 ≤ Int.tmod (Int.tmod a m + m) m := Int.tmod_nonneg _ (by omega)
  have e2 : wrap64 (1 + Int.tmod (Int.tmod a m + m) m) = 1 + Int.tmod (Int.tmod a m + m) m := by unfold wrap64; omega
  rw [e2]
  omega

theorem fl_succ {x d : Int} (hd : 1 ≤ d) : fl (x + 1) d ≤ fl x d + 1 := by
  have h := lt_fl_mul (p := x) (c := d) (by omega)
  have h2 : ¬ fl x d + 2 ≤ fl (x + 1) d := fun k => by
    have := (le_fl (p := x + 1) (c := d) (by omega)).1 k
    have e : (fl x d + 2) * d = (fl x d + 1) * d + d := by grind
    omega
  omega
theorem cl_pred {x d : Int} (hd : 1 ≤ d) : cl x d ≤ cl (x - 1) d + 1 := by
  have h := le_cl_mul (p := x - 1) (c := d) (by omega)
  refine (cl_le (by omega)).2 ?_
  have e : (cl (x - 1) d + 1) * d = cl (x - 1) d * d + d := by grind
  omega

section
variable {d mid r u : Int} (hd : 1 ≤ d) (hru : r ≤ u) (hur : u ≤ r + 1)
include hd hru hur
theorem low_wide : fl (mid - u) d ≤ cl (mid - r) d ∧ cl (mid - r) d - fl (mid - u) d ≤ 2 := by
  have h1 := cl_le_fl (p := mid - r) (c := d) (by omega)
  have h2 : fl (mid - r) d ≤ fl (mid - u + 1) d := fl_mono (by omega) (by omega)
  have h3 := fl_succ (x := mid - u) hd
  have h4 : fl (mid - u) d ≤ fl (mid - r) d := fl_mono (by omega) (by omega)
  have h5 := fl_le_cl (p := mid - r) (c := d) (by omega)
  omega
theorem high_wide : fl (mid + r) d ≤ cl (mid + u) d ∧ cl (mid + u) d - fl (mid + r) d ≤ 2 := by
  have h1 := cl_le_fl (p := mid + u) (c := d) (by omega)
  have h2 : fl (mid + u) d ≤ fl (mid + r + 1) d := fl_mono (by omega) (by omega)
  have h3 := fl_succ (x := mid + r) hd
  have h4 : fl (mid + r) d ≤ fl (mid + u) d := fl_mono (by omega) (by omega)
  have h5 := fl_le_cl (p := mid + u) (c := d) (by omega)
  omega
end
theorem one_wide {x d : Int} (hd : 1 ≤ d) : fl x d ≤ cl x d ∧ cl x d - fl x d ≤ 1 := by
  have h1 := cl_le_fl (p := x) (c := d) (by omega)
  have h5 := fl_le_cl (p := x) (c := d) (by omega)
  omega

/-- The verdict of a value that is D beyond the middle. -/
def verd (mid D d r u : Int) : Int := told (fl (mid - u) d) (cl (mid - r) d) (fl (mid + r) d) (cl (mid + u) d) (fl (mid + D) d) (cl (mid + D) d)
theorem verd_cases (mid D d r u : Int) : verd mid D d r u = 0 ∨ verd mid D d r u = 1 ∨ verd mid D d r u = 2 := by
  unfold verd told
  split
  · exact .inr (.inl rfl)
  · split
    · exact .inr (.inr rfl)
    · exact .inl rfl
theorem verd_out {d mid D r u : Int} (hd : 1 ≤ d) (hr0 : 0 ≤ r) (hru : r ≤ u) (h : verd mid D d r u = 1) : u * u < D * D := by
  unfold verd told at h
  have hd0 : (0 : Int) < d := by omega
  split at h
  · rename_i hh
    rcases hh with hh | hh
    · have h1 := le_cl_mul (p := mid + u) hd0
      have h2 := fl_mul_le (p := mid + D) hd0
      have h3 : cl (mid + u) d * d ≤ (fl (mid + D) d) * d := Int.mul_le_mul_of_nonneg_right (by omega) (by omega)
      have h4 : (cl (mid + u) d + 1) * d ≤ (fl (mid + D) d) * d := Int.mul_le_mul_of_nonneg_right (by omega) (by omega)
      have e : (cl (mid + u) d + 1) * d = cl (mid + u) d * d + d := by grind
      exact sq_lt_sq (by omega) (by omega)
    · have h1 := le_cl_mul (p := mid + D) hd0
      have h2 := fl_mul_le (p := mid - u) hd0
      have h4 : (cl (mid + D) d + 1) * d ≤ (fl (mid - u) d) * d := Int.mul_le_mul_of_nonneg_right (by omega) (by omega)
      have e : (cl (mid + D) d + 1) * d = cl (mid + D) d * d + d := by grind
      have := sq_lt_sq (x := u) (y := -D) (by omega) (by omega)
      rwa [Int.neg_mul_neg] at this
  · split at h <;> omega
theorem verd_in {d mid D r u : Int} (hd : 1 ≤ d) (h : verd mid D d r u = 0) : D * D ≤ r * r := by
  unfold verd told at h
  have hd0 : (0 : Int) < d := by omega
  split at h
  · omega
  · split at h
    · omega
    · rename_i h1 h2
      have a1 := le_cl_mul (p := mid + D) hd0
      have a2 := fl_mul_le (p := mid + r) hd0
      have a3 : cl (mid + D) d * d ≤ fl (mid + r) d * d := Int.mul_le_mul_of_nonneg_right (by omega) (by omega)
      have b1 := le_cl_mul (p := mid - r) hd0
      have b2 := fl_mul_le (p := mid + D) hd0
      have b3 : cl (mid - r) d * d ≤ fl (mid + D) d * d := Int.mul_le_mul_of_nonneg_right (by omega) (by omega)
      by_cases hD : 0 ≤ D
      · exact sq_le_sq hD (by omega)
      · have := sq_le_sq (x := -D) (y := r) (by omega) (by omega)
        rwa [Int.neg_mul_neg] at this
theorem out_verd {d mid D r u : Int} (hd : 1 ≤ d) (h : u + 3 * d ≤ absZ D) : verd mid D d r u = 1 := by
  have hd0 : (0 : Int) < d := by omega
  unfold verd told
  rw [if_pos]
  unfold absZ at h
  split at h
  · right
    have a1 := cl_mul_lt (p := mid + D) hd0
    have a2 := lt_fl_mul (p := mid - u) hd0
    have e1 : (cl (mid + D) d - 1) * d = cl (mid + D) d * d - d := by grind
    have e2 : (fl (mid - u) d + 1) * d = fl (mid - u) d * d + d := by grind
    have : cl (mid + D) d * d < fl (mid - u) d * d := by omega
    exact Int.lt_of_mul_lt_mul_right this (by omega)
  · left
    have a1 := cl_mul_lt (p := mid + u) hd0
    have a2 := lt_fl_mul (p := mid + D) hd0
    have e1 : (cl (mid + u) d - 1) * d = cl (mid + u) d * d - d := by grind
    have e2 : (fl (mid + D) d + 1) * d = fl (mid + D) d * d + d := by grind
    have : cl (mid + u) d * d < fl (mid + D) d * d := by omega
    exact Int.lt_of_mul_lt_mul_right this (by omega)
theorem in_verd {d mid D r u : Int} (hd : 1 ≤ d) (hru : r ≤ u) (h : absZ D + 3 * d ≤ r) : verd mid D d r u = 0 := by
  have hd0 : (0 : Int) < d := by omega
  have hD : -r + 3 * d ≤ D ∧ D ≤ r - 3 * d := by unfold absZ at h; split at h <;> omega
  have k1 : cl (mid + D) d ≤ fl (mid + r) d := by
    have a1 := cl_mul_lt (p := mid + D) hd0
    have a2 := lt_fl_mul (p := mid + r) hd0
    have e1 : (cl (mid + D) d - 1) * d = cl (mid + D) d * d - d := by grind
    have e2 : (fl (mid + r) d + 1) * d = fl (mid + r) d * d + d := by grind
    exact Int.le_of_lt (Int.lt_of_mul_lt_mul_right (show cl (mid + D) d * d < fl (mid + r) d * d by omega) (by omega))
  have k2 : cl (mid - r) d ≤ fl (mid + D) d := by
    have a1 := cl_mul_lt (p := mid - r) hd0
    have a2 := lt_fl_mul (p := mid + D) hd0
    have e1 : (cl (mid - r) d - 1) * d = cl (mid - r) d * d - d := by grind
    have e2 : (fl (mid + D) d + 1) * d = fl (mid + D) d * d + d := by grind
    exact Int.le_of_lt (Int.lt_of_mul_lt_mul_right (show cl (mid - r) d * d < fl (mid + D) d * d by omega) (by omega))
  have k3 := fl_le_cl (p := mid + D) (c := d) (by omega)
  have k4 : fl (mid + r) d ≤ fl (mid + u) d := fl_mono hd0 (by omega)
  have k5 := fl_le_cl (p := mid + u) (c := d) (by omega)
  have k6 : fl (mid - u) d ≤ fl (mid - r) d := fl_mono hd0 (by omega)
  have k7 := fl_le_cl (p := mid - r) (c := d) (by omega)
  unfold verd told
  rw [if_neg (by omega), if_neg (by omega)]
end Go.Proofs.Ytkdfkpalgejkkaa
/-
  datumlaw17.LimitMasks, walked.
-/
set_option linter.unusedSimpArgs false
namespace Go.Proofs.Ytkdfkpalgejkkaa
open Go.RowKit Go.Shelf

theorem alive17_c (w : World) : Calls Try.prog 26 #[] w fun e w' => e = .returned (.bool true) ∧ Below w.heap.size w w' := by
  have hA : rad 0 4 10 = 3600 := by decide
  have h1 : isqrt 3600 = 60 := isqrt_eq (by omega) (by omega) (by omega)
  have h2 : usqrt 3600 = 60 := by unfold usqrt; rw [h1]; rfl
  have HD : Hid (∀ W, Calls Try.prog 23 #[.agg #[.int .i64 5, .int .i64 1, .int .i64 7, .int .u64 0, .int .u64 4], .int .i64 10] W fun e w' => e = .returned (.tuple #[.agg #[.int .i64 (-10), .int .i64 (-10), .int .i64 50, .int .i64 50, .int .i64 110, .int .i64 110, .int .i64 120, .int .i64 120], .int .i64 0]) ∧ Below W.heap.size W w') := Lib.hid (fun W => by
    refine limit_Draw.calls 5 1 7 0 4 10 (-10) (-10) 50 50 110 110 120 120 0 W ?_
    unfold limit_Draw.f
    rw [if_pos (by decide), if_pos (by decide), if_pos (by decide), hA, h1, h2]
    rfl)
  have HV : Hid (∀ W, Calls Try.prog 30 #[.agg #[.int .i64 (-10), .int .i64 (-10), .int .i64 50, .int .i64 50, .int .i64 110, .int .i64 110, .int .i64 120, .int .i64 120]] W fun e w' => e = .returned (.tuple #[.int .i64 1, .int .i64 0]) ∧ Below W.heap.size W w') := Lib.hid (fun W => by
    have h := verdict_ok (-10) (-10) 50 50 110 110 120 120 (by omega) (by omega) (by omega) (by omega) W
    rwa [show told (-10) (-10) 110 110 120 120 = 1 by unfold told; rw [if_pos (by omega)]] at h)
  clear hA h1 h2
  go_enter Try.func26, Try.ntmps26
  go_wp2_with fail
  refine (HD.out _).mono ?_
  rintro e w1 ⟨rfl, hb⟩
  have HK : Hid (Knows w.heap.size w [(⟨w1.heap.size, 0, none⟩, .int .i64 (-10)), (⟨w1.heap.size, 1, none⟩, .int .i64 (-10)), (⟨w1.heap.size, 2, none⟩, .int .i64 50), (⟨w1.heap.size, 3, none⟩, .int .i64 50), (⟨w1.heap.size, 4, none⟩, .int .i64 110), (⟨w1.heap.size, 5, none⟩, .int .i64 110), (⟨w1.heap.size, 6, none⟩, .int .i64 120), (⟨w1.heap.size, 7, none⟩, .int .i64 120)] [] (w1.alloc (.cells #[.int .i64 (-10), .int .i64 (-10), .int .i64 50, .int .i64 50, .int .i64 110, .int .i64 110, .int .i64 120, .int .i64 120] 39))) :=
    Lib.hid ⟨hb.alloc hb.size _, Nat.le_trans hb.size (by simp), by simp [Cells, go_sem], trivial⟩
  clear hb
  go_wp2_with fail
  refine (HV.out _).mono ?_
  rintro e w2 ⟨rfl, hb⟩
  have hK := HK.out.call hb
  clear HK hb
  have HK := Lib.hid hK
  obtain ⟨-, -, ⟨c0, c1, c2, c3, c4, c5, c6, c7, -⟩, -⟩ := hK
  go_wp2_with fail
  go_ret
  exact ⟨rfl, HK.out.1⟩

/-- The point that is made. -/
theorem some17_c (a b c h l : Int) (hh : Word h) : ∃ x d v g, pointB x d v g = true ∧ 0 ≤ g ∧ (∀ W, Calls Try.prog 29 #[.int .i64 a, .int .i64 b, .int .i64 c, .agg #[.int .u64 h, .int .u64 l]] W fun e w' => e = .returned (.agg #[.int .i64 x, .int .i64 d, .int .i64 v, .int .u64 g, .int .u64 l]) ∧ Below W.heap.size W w') := by
  refine ⟨Int.tmod a 100000000000000, wrap64 (1 + Int.tmod (wrap64 (Int.tmod b 100000000000000 + 100000000000000)) 100000000000000), Int.tmod c 100000000000000, h / 67108864, ?_, ?_, ?_⟩
  · obtain ⟨c1, c2⟩ := tmod_bound a (m := 100000000000000) (by omega)
    obtain ⟨d1, d2⟩ := one_to (a := b) (m := 100000000000000) (by omega) (by omega)
    obtain ⟨v1, v2⟩ := tmod_bound c (m := 100000000000000) (by omega)
    unfold Word at hh
    unfold pointB far
    simp
    omega
  · unfold Word at hh
    omega
  · intro W
    go_enter Try.func29, Try.ntmps29
    go_wp2
    refine bodyPost_ret (v := .agg #[.int .i64 (Int.tmod a 100000000000000), .int .i64 (wrap64 (1 + Int.tmod (wrap64 (Int.tmod b 100000000000000 + 100000000000000)) 100000000000000)), .int .i64 (Int.tmod c 100000000000000), .int .u64 (h / 67108864), .int .u64 l]) (by simp [results, Try.results29, go_sem]) rfl ⟨rfl, ?_⟩
    exact ((Below.refl _ _).alloc (Nat.le_refl _) _).alloc (by simp) _

set_option maxHeartbeats 1000000 in
set_option maxRecDepth 100000 in
theorem limitMasks_walk (a b c h l sca near : Int) (_ : IsInt a) (_ : IsInt b) (_ : IsInt c) (hh : Word h) (hl : Word l) (_ : IsInt sca) (_ : IsInt near) (w : World) :
    Calls Try.prog 13 #[.int .i64 a, .int .i64 b, .int .i64 c, .agg #[.int .u64 h, .int .u64 l], .int .i64 sca, .int .i64 near] w fun e w' => e = .returned (.bool true) ∧ Below w.heap.size w w' := by
  obtain ⟨x, d, v, g, hp, hg, hsome⟩ := some17_c a b c h l hh
  have HSm := Lib.hid hsome
  clear hsome hh
  obtain ⟨s1, s2⟩ := one_to (a := sca) (m := 1000) (by omega) (by omega)
  obtain ⟨hc, hd, hv, hgh⟩ := pointB_spec hp
  obtain ⟨sc, hsc⟩ : ∃ s, wrap64 (1 + Int.tmod (wrap64 (Int.tmod sca 1000 + 1000)) 1000) = s := ⟨_, rfl⟩
  rw [hsc] at s1 s2
  have HSc := Lib.hid hsc
  clear hsc
  have hsB : scaleB sc = true := by unfold scaleB; simp; omega
  have HMk := Lib.hid (fun W => Mask_c x d v g l sc hp hsB hg hl W)
  have hl' := hl
  unfold Word at hl
  have hV : 0 ≤ ofW g l ∧ ofW g l < 21267647932558653966460912964485513216 := by unfold ofW; omega
  have hgq : 0 ≤ d / sc ∧ d / sc ≤ cl d sc := by
    refine ⟨Int.ediv_nonneg (by omega) (by omega), ?_⟩
    rw [← fl_pos (show 0 < sc by omega)]
    exact fl_le_cl (by omega)
  have hgd : cl d sc ≤ d := (cl_le (by omega)).2 (by have := Int.mul_le_mul_of_nonneg_left s1 (show 0 ≤ d by omega); omega)
  obtain ⟨q, hq⟩ : ∃ q, d / sc = q := ⟨_, rfl⟩
  rw [hq] at hgq
  obtain ⟨t1, t2⟩ := tmod_bound near (m := q + 1) (by omega)
  obtain ⟨δ, hδ⟩ : ∃ δ, Int.tmod near (q + 1) = δ := ⟨_, rfl⟩
  rw [hδ] at t1 t2
  have HC1 : Hid (∀ W, Calls Try.prog 52 #[.int .i64 v, .agg #[.int .u64 g, .int .u64 l]] W fun e w' => e = .returned (.tuple #[.int .i64 (classZ v (ofW g l)), .int .i64 0]) ∧ Below W.heap.size W w') := Lib.hid (fun W => wv_ofW hl' ▸ Class_c v (ofW g l) (by unfold IsInt; omega) hV W)
  have HC2 : Hid (∀ W, Calls Try.prog 52 #[.int .i64 (v + δ), .agg #[.int .u64 g, .int .u64 l]] W fun e w' => e = .returned (.tuple #[.int .i64 (classZ (v + δ) (ofW g l)), .int .i64 0]) ∧ Below W.heap.size W w') := Lib.hid (fun W => wv_ofW hl' ▸ Class_c (v + δ) (ofW g l) (by unfold IsInt; omega) hV W)
  have k1 := (classZ_bound (v - cl d sc) (ofW g l)).1
  have k2 := (classZ_bound (v + cl d sc) (ofW g l)).2
  have k3 : classZ (v - cl d sc) (ofW g l) ≤ classZ v (ofW g l) := classZ_mono (by omega)
  have k4 : classZ v (ofW g l) ≤ classZ (v + cl d sc) (ofW g l) := classZ_mono (by omega)
  have k5 : classZ (v - cl d sc) (ofW g l) ≤ classZ (v + δ) (ofW g l) := classZ_mono (by omega)
  have k6 : classZ (v + δ) (ofW g l) ≤ classZ (v + cl d sc) (ofW g l) := classZ_mono (by omega)
  obtain ⟨m1, m2, m3⟩ := mask_has k1 k3 k4 k2
  obtain ⟨-, -, m4⟩ := mask_has k1 k5 k6 k2
  have HH1 : Hid (∀ W, Calls Try.prog 53 #[.int .i64 (maskZ (classZ (v - cl d sc) (ofW g l)) (classZ (v + cl d sc) (ofW g l))), .int .i64 (classZ v (ofW g l))] W fun e w' => e = .returned (.bool true) ∧ W = w') := Lib.hid (fun W => m3 ▸ has_c _ _ m1 m2 (by omega) (by omega) W)
  have HH2 : Hid (∀ W, Calls Try.prog 53 #[.int .i64 (maskZ (classZ (v - cl d sc) (ofW g l)) (classZ (v + cl d sc) (ofW g l))), .int .i64 (classZ (v + δ) (ofW g l))] W fun e w' => e = .returned (.bool true) ∧ W = w') := Lib.hid (fun W => m4 ▸ has_c _ _ m1 m2 (by omega) (by omega) W)
  have HAl := Lib.hid (fun W => alive17_c W)
  generalize maskZ (classZ (v - cl d sc) (ofW g l)) (classZ (v + cl d sc) (ofW g l)) = M at *
  generalize classZ v (ofW g l) = z1 at *
  generalize classZ (v + δ) (ofW g l) = z2 at *
  have hs0 : (sc == 0) = false := beq_eq_false_iff_ne.2 (by omega)
  have hq0 : (q + 1 == 0) = false := beq_eq_false_iff_ne.2 (by omega)
  have bd : IntKind.i64.wrap (v + δ) = v + δ := IntWalk.i64_in _ (by omega)
  have bq : IntKind.i64.wrap (q + 1) = q + 1 := IntWalk.i64_in _ (by omega)
  have HQ := Lib.hid hq
  have HD := Lib.hid hδ
  have HX := Lib.hid (show hq0 = hq0 from rfl)
  have B1 := Lib.hid bd
  have B2 := Lib.hid bq
  have B3 := Lib.hid hq0
  clear k1 k2 k3 k4 k5 k6 m1 m2 m3 m4 hV hgq hgd hsB hp hg hc hgh hq hδ HX bd bq hq0
  obtain ⟨hd1, hd2⟩ := hd
  go_enter Try.func13, Try.ntmps13
  go_wp2_with fail
  refine (HSm.out _).mono ?_
  rintro e w1 ⟨rfl, hb⟩
  have HK : Hid (Knows w.heap.size w [(⟨w1.heap.size, 0, none⟩, .int .i64 x), (⟨w1.heap.size, 1, none⟩, .int .i64 d), (⟨w1.heap.size, 2, none⟩, .int .i64 v), (⟨w1.heap.size, 3, none⟩, .int .u64 g), (⟨w1.heap.size, 4, none⟩, .int .u64 l)] [] (w1.alloc (.cells #[.int .i64 x, .int .i64 d, .int .i64 v, .int .u64 g, .int .u64 l] 37))) :=
    Lib.hid ⟨(below_then_ ((Below.refl _ _).alloc (Nat.le_refl _) _) (by simp) hb).alloc (by have := hb.size; simp at this; omega) _, by have := hb.size; simp at this ⊢; omega, by simp [Cells, go_sem], trivial⟩
  clear hb HSm
  generalize hm : w1.heap.size = m at *
  go_wp2_with fail
  simp only [HSc.out]
  refine (HMk.out _).mono ?_
  rintro e w2 ⟨rfl, hb⟩
  have hK := HK.out.call hb
  clear HK hb HMk
  have HK := Lib.hid hK
  obtain ⟨-, -, ⟨c0, c1, c2, c3, c4, -⟩, -⟩ := hK
  go_wp2_with fail
  refine (HC1.out _).mono ?_
  rintro e w3 ⟨rfl, hb⟩
  have hK := HK.out.call hb
  clear HK hb HC1 c0 c1 c2 c3 c4
  have HK := Lib.hid hK
  obtain ⟨-, -, ⟨c0, c1, c2, c3, c4, -⟩, -⟩ := hK
  go_wp2_with fail
  simp only [HQ.out]
  have hδ := HD.out
  have bd := B1.out
  have bq := B2.out
  have hq0 : ¬ q + 1 = 0 := by have := B3.out; simpa using this
  refine wp_region_plan (fun _ _ W => Knows w.heap.size w [(⟨m, 0, none⟩, .int .i64 x), (⟨m, 1, none⟩, .int .i64 d), (⟨m, 2, none⟩, .int .i64 v), (⟨m, 3, none⟩, .int .u64 g), (⟨m, 4, none⟩, .int .u64 l)] [] W) 15 (by kernel_rfl) (by kernel_rfl) rfl ?_ ?_
  · exact HK.out.drew
  simp only [List.zipIdx_cons, List.zipIdx_nil, List.map_cons, List.map_nil, Nat.zero_add, Nat.reduceAdd]
  apply inOrder_op rfl rfl
  · intro L g' W _ _ _ hW
    obtain ⟨-, -, ⟨q1, q2, q3, q4, q5, -⟩, -⟩ := id hW
    apply comes_value (hv := rfl) (hD := hW)
    go_simp
    rfl
  simp only [Act.put, List.setIfInBounds_toArray, List.set_cons_zero, List.set_cons_succ]
  apply inOrder_op rfl rfl
  · intro L g' W _ _ _ hW
    obtain ⟨-, -, ⟨q1, q2, q3, q4, q5, -⟩, -⟩ := id hW
    apply comes_value (hv := rfl) (hD := hW)
    go_simp
    rfl
  simp only [Act.put, List.setIfInBounds_toArray, List.set_cons_zero, List.set_cons_succ]
  apply inOrder_op rfl rfl
  · intro L g' W _ _ _ hW
    obtain ⟨-, -, ⟨q1, q2, q3, q4, q5, -⟩, -⟩ := id hW
    apply comes_value (hv := rfl) (hD := hW)
    go_simp
    rfl
  simp only [Act.put, List.setIfInBounds_toArray, List.set_cons_zero, List.set_cons_succ]
  apply inOrder_op rfl rfl
  · intro L g' W _ _ _ hW
    obtain ⟨-, -, ⟨q1, q2, q3, q4, q5, -⟩, -⟩ := id hW
    apply comes_value (hv := rfl) (hD := hW)
    go_simp
    rfl
  simp only [Act.put, List.setIfInBounds_toArray, List.set_cons_zero, List.set_cons_succ]
  apply inOrder_op rfl rfl
  · intro L g' W _ _ _ hW
    obtain ⟨-, -, ⟨q1, q2, q3, q4, q5, -⟩, -⟩ := id hW
    apply comes_value (hv := rfl) (hD := hW)
    go_simp
    rfl
  simp only [Act.put, List.setIfInBounds_toArray, List.set_cons_zero, List.set_cons_succ]
  apply inOrder_op rfl rfl
  · intro L g' W _ _ _ hW
    obtain ⟨-, -, ⟨q1, q2, q3, q4, q5, -⟩, -⟩ := id hW
    apply comes_value (hv := rfl) (hD := hW)
    go_simp
    rfl
  simp only [Act.put, List.setIfInBounds_toArray, List.set_cons_zero, List.set_cons_succ]
  apply inOrder_op rfl rfl
  · intro L g' W _ _ _ hW
    obtain ⟨-, -, ⟨q1, q2, q3, q4, q5, -⟩, -⟩ := id hW
    apply comes_value (hv := rfl) (hD := hW)
    go_simp
    rfl
  simp only [Act.put, List.setIfInBounds_toArray, List.set_cons_zero, List.set_cons_succ]
  apply inOrder_op rfl rfl
  · intro L g' W _ _ _ hW
    obtain ⟨-, -, ⟨q1, q2, q3, q4, q5, -⟩, -⟩ := id hW
    apply comes_value (hv := rfl) (hD := hW)
    go_simp
    rfl
  simp only [Act.put, List.setIfInBounds_toArray, List.set_cons_zero, List.set_cons_succ]
  apply inOrder_op rfl rfl
  · intro L g' W _ _ _ hW
    obtain ⟨-, -, ⟨q1, q2, q3, q4, q5, -⟩, -⟩ := id hW
    apply comes_value (hv := rfl) (hD := hW)
    go_simp
    rfl
  simp only [Act.put, List.setIfInBounds_toArray, List.set_cons_zero, List.set_cons_succ]
  apply inOrder_op rfl rfl
  · intro L g' W _ _ _ hW
    obtain ⟨-, -, ⟨q1, q2, q3, q4, q5, -⟩, -⟩ := id hW
    apply comes_call
    · go_simp
      first | rfl | exact ⟨rfl, rfl⟩ | exact ⟨⟨rfl, rfl⟩, rfl⟩
    · refine (HC2.out W).mono ?_
      rintro e w' ⟨rfl, hb⟩
      exact ⟨rfl, Knows.call hW hb⟩
  simp only [Act.put, List.setIfInBounds_toArray, List.set_cons_zero, List.set_cons_succ]
  apply inOrder_op rfl rfl
  · intro L g' W _ _ _ hW
    obtain ⟨-, -, ⟨q1, q2, q3, q4, q5, -⟩, -⟩ := id hW
    apply comes_value (hv := rfl) (hD := hW)
    go_simp
    rfl
  simp only [Act.put, List.setIfInBounds_toArray, List.set_cons_zero, List.set_cons_succ]
  apply inOrder_op rfl rfl
  · intro L g' W _ _ _ hW
    obtain ⟨-, -, ⟨q1, q2, q3, q4, q5, -⟩, -⟩ := id hW
    apply comes_value (hv := rfl) (hD := hW)
    go_simp
    rfl
  simp only [Act.put, List.setIfInBounds_toArray, List.set_cons_zero, List.set_cons_succ]
  apply inOrder_op rfl rfl
  · intro L g' W _ _ _ hW
    obtain ⟨-, -, ⟨q1, q2, q3, q4, q5, -⟩, -⟩ := id hW
    apply comes_value (hv := rfl) (hD := hW)
    go_simp
    rfl
  simp only [Act.put, List.setIfInBounds_toArray, List.set_cons_zero, List.set_cons_succ]
  apply inOrder_op rfl rfl
  · intro L g' W _ _ _ hW
    obtain ⟨-, -, ⟨q1, q2, q3, q4, q5, -⟩, -⟩ := id hW
    apply comes_value (hv := rfl) (hD := hW)
    go_simp
    rfl
  simp only [Act.put, List.setIfInBounds_toArray, List.set_cons_zero, List.set_cons_succ]
  apply inOrder_op rfl rfl
  · intro L g' W _ _ _ hW
    obtain ⟨-, -, ⟨q1, q2, q3, q4, q5, -⟩, -⟩ := id hW
    apply comes_value (hv := rfl) (hD := hW)
    go_simp
    rfl
  simp only [Act.put, List.setIfInBounds_toArray, List.set_cons_zero, List.set_cons_succ]
  refine inOrder_nil ?_
  clear HK c0 c1 c2 c3 c4 hδ bd bq hq0
  intro W hW
  have HK := Lib.hid hW
  clear hW
  go_wp2_with fail
  refine (HAl.out _).mono ?_
  rintro e w4 ⟨rfl, hb⟩
  have hK := HK.out.call hb
  clear HK hb
  have HK := Lib.hid hK
  clear hK
  go_wp2_with fail
  refine (HH1.out _).mono ?_
  rintro e w5 ⟨rfl, rfl⟩
  go_wp2_with fail
  refine (HH2.out _).mono ?_
  rintro e w6 ⟨rfl, rfl⟩
  go_wp2_with fail
  go_ret
  exact ⟨rfl, HK.out.1⟩
end Go.Proofs.Ytkdfkpalgejkkaa
/-
  A parameter that is a struct of whole numbers (structs in structs too): what it is, where it reads as data.
-/
namespace Go.Proofs.Ytkdfkpalgejkkaa
open Go Go.ChangeShapes Go.WideShapes

/-- The kinds of a type's cells, if all are whole numbers; m: how deep structs may lie in structs. -/
def flatFs (P : Program) (K : TypeId → Option (List IntKind)) : List Field → Nat → Option (List IntKind)
  | [], _ => some []
  | f :: fs, off => if f.offset = off then (K f.type).bind fun ks => if P.cellsOf f.type = ks.length then (flatFs P K fs (off + ks.length)).map (ks ++ ·) else none else none
def flatK (P : Program) : Nat → TypeId → Option (List IntKind)
  | 0, _ => none
  | m + 1, t => match P.underlying t with
    | some (.int k) => some [k]
    | some (.struct fs) => (flatFs P (flatK P m) fs.toList 0).bind fun ks => if P.cellsOf t = ks.length then some ks else none
    | _ => none

def FlatOf (ks : List IntKind) (cs : List Value) : Prop := ∃ ns : List Int, ns.length = ks.length ∧ cs = List.zipWith Value.int ks ns ∧ ∀ p ∈ ks.zip ns, (Lit.int p.1 p.2).wf = true

theorem FlatOf.append {ks ks' : List IntKind} {cs cs' : List Value} (h : FlatOf ks cs) (h' : FlatOf ks' cs') : FlatOf (ks ++ ks') (cs ++ cs') := by
  obtain ⟨ns, h1, h2, h3⟩ := h
  obtain ⟨ns', h1', h2', h3'⟩ := h'
  refine ⟨ns ++ ns', by simp [h1, h1'], ?_, ?_⟩
  · rw [h2, h2', List.zipWith_append h1.symm]
  · intro p hp
    rw [List.zip_append h1.symm] at hp
    rcases List.mem_append.1 hp with hp | hp
    · exact h3 p hp
    · exact h3' p hp

variable {H : Type} {enc : TypeId × Value → H} {P : Program} {w : World} {base : Nat} {spare : Nat → Bool} {held : Bool}
theorem trod_flatFs {K : TypeId → Option (List IntKind)} {n : Nat} (hK : ∀ (t : TypeId) (ks : List IntKind) (cs : List Value) (x : DataW H × List MemPlace), K t = some ks → DataW.trod enc P w base spare held n t cs = some x → FlatOf ks cs) {cs : List Value} :
    ∀ (l : List Field) (off : Nat) (ks : List IntKind), (∀ f ∈ l, ∃ y, DataW.trod enc P w base spare held n f.type ((cs.drop f.offset).take (P.cellsOf f.type)) = some y) → flatFs P K l off = some ks → FlatOf ks ((cs.drop off).take ks.length)
  | [], off, ks, _, h => by
    simp only [flatFs, Option.some.injEq] at h
    subst h
    exact ⟨[], rfl, by simp, by simp⟩
  | f :: l, off, ks, hf, h => by
    unfold flatFs at h
    split at h
    · rename_i ho
      cases hk : K f.type with
      | none => simp [hk] at h
      | some k1 =>
        simp only [hk, Option.bind_some] at h
        split at h
        · rename_i hc
          cases hr : flatFs P K l (off + k1.length) with
          | none => simp [hr] at h
          | some k2 =>
            simp only [hr, Option.map_some, Option.some.injEq] at h
            subst h
            obtain ⟨y, hy⟩ := hf f (by simp)
            have h1 := hK f.type k1 _ y hk hy
            rw [hc, ho] at h1
            have h2 := trod_flatFs hK l (off + k1.length) k2 (fun g hg => hf g (by simp [hg])) hr
            have h3 := h1.append h2
            have e : (cs.drop off).take (k1 ++ k2).length = (cs.drop off).take k1.length ++ (cs.drop (off + k1.length)).take k2.length := by
              rw [List.length_append, List.take_add, List.drop_drop]
            rw [e]; exact h3
        · cases h
    · cases h

theorem trod_flat : ∀ (m : Nat) (t : TypeId) (ks : List IntKind) (fuel : Nat) (cs : List Value) (x : DataW H × List MemPlace), flatK P m t = some ks → DataW.trod enc P w base spare held fuel t cs = some x → FlatOf ks cs
  | 0, _, _, _, _, _, h, _ => by simp [flatK] at h
  | m + 1, t, ks, fuel, cs, x, h, hx => by
    unfold flatK at h
    split at h
    · rename_i k hu
      simp only [Option.some.injEq] at h
      subst h
      obtain ⟨n, hcs, -, hw⟩ := DataW.trod_int hu hx
      exact ⟨[n], rfl, by simp [hcs], by simpa using hw⟩
    · rename_i fs hu
      cases hr : flatFs P (flatK P m) fs.toList 0 with
      | none => simp [hr] at h
      | some k1 =>
        simp only [hr, Option.bind_some] at h
        split at h
        · rename_i hc
          simp only [Option.some.injEq] at h
          subst h
          obtain ⟨xs, n, _, _, hl, hlen, hf⟩ := DataW.trod_struct hu hx
          have := trod_flatFs (K := flatK P m) (n := n) (fun t' ks' cs' x' h1 h2 => trod_flat m t' ks' n cs' x' h1 h2) (cs := cs) fs.toList 0 k1 (fun f hfm => by
            obtain ⟨i, hi⟩ := List.getElem?_of_mem hfm
            have h1 := hf i f (by simpa using hi)
            have hil : i < fs.size := by
              have := (List.getElem?_eq_some_iff.1 hi).1
              simpa using this
            exact ⟨xs[i]'(by omega), h1.trans (List.getElem?_eq_getElem (by omega))⟩) hr
          rw [List.drop_zero, ← hc, ← hl, List.take_length] at this
          exact this
        · cases h
    · cases h

/-- The parameter itself. -/
theorem open_flat {r : Reach} {b0 m : Nat} {t : TypeId} {fs : Array Field} {ks : List IntKind} {v : Value} {d : DataW H} {p : List MemPlace} (hu : P.underlying t = some (.struct fs)) (hk : flatK P m t = some ks) (hv : Value.okWide P w r b0 t v) (h : DataW.Trod enc P w base spare held t v d p) :
    ∃ ns : List Int, ns.length = ks.length ∧ v = .agg (List.zipWith Value.int ks ns).toArray ∧ ∀ q ∈ ks.zip ns, (Lit.int q.1 q.2).wf = true := by
  obtain ⟨cs, rfl, -⟩ := okWide_struct hu hv
  obtain ⟨fuel, hf⟩ := h
  obtain ⟨ns, h1, h2, h3⟩ := trod_flat m t ks fuel _ _ hk hf
  refine ⟨ns, h1, ?_, h3⟩
  have e : (Value.agg cs).cells = cs := rfl
  rw [e] at h2
  rw [← h2]

theorem row_int {a : Int} (h : (Lit.int .i64 a).wf = true) : IsInt a := by
  have e1 : IntKind.i64.min = -9223372036854775808 := by decide
  have e2 : IntKind.i64.max = 9223372036854775807 := by decide
  unfold IsInt
  simp [Lit.wf, e1, e2] at h
  omega
theorem row_word {a : Int} (h : (Lit.int .u64 a).wf = true) : Word a := by
  have e1 : IntKind.u64.min = 0 := by decide
  have e2 : IntKind.u64.max = 18446744073709551615 := by decide
  unfold Word
  simp [Lit.wf, e1, e2] at h
  omega
end Go.Proofs.Ytkdfkpalgejkkaa
/-
  The row of the law LimitMasks, out of its walk.
-/
namespace Go.Proofs.Ytkdfkpalgejkkaa.limitMasks
open Go.ChangeShapes Go.WideShapes Go.ChangeAt Go.RowKit
theorem own : ownKnob Try.prog.godebug = none := by kernel_rfl
theorem laidOut : laidOutB Try.prog = true := by kernel_rfl
set_option maxRecDepth 100000 in
theorem lifted (os : Os) (started : os.Started) (H : Type) (enc : TypeId × Value → H) :
    ReturnsInHanded {} Try.checked os 13 .any (Rows.limitMasksSpec.pre6 enc Try.prog Try.f13 Rows.limitMasksRow.domain false) (Rows.limitMasksSpec.post enc Try.prog Try.f13 false true false false) := by
  refine returnsInHanded_of_change_sized (C := Try.checked) own started (by kernel_rfl) Try.func13
    (ChangeSpec.witness6 (enc := enc) (C := Try.checked) false ⟨#[], #[.int .i64 0, .int .i64 0, .int .i64 0, .agg #[.int .u64 0, .int .u64 0], .int .i64 0, .int .i64 0], []⟩ 8 (by kernel_rfl) (by kernel_rfl) (by kernel_rfl) (by kernel_rfl)) ?_
  intro W base args ds gs before hval0 hW hcnd hsz0 _
  have hval : ∀ (j : Nat) t v, Try.f13.params[j]? = some t → args[j]? = some v → Value.okWide Try.prog W .any base t v := hval0
  have hW' := hW
  obtain ⟨p, q, hA0, hV, rfl, hfz, hnd⟩ := hW
  have hA : DataW.TrodAll enc Try.prog W 0 (fun _ => true) true Try.f13.params.toList args.toList ds p := hA0
  rw [Try.params13] at hA hval
  obtain ⟨v0, vs0, d0, ds0, p0, q0, hargs, rfl, rfl, h0, r0⟩ := trodAll_cons hA
  obtain ⟨v1, vs1, d1, ds1, p1, q1, rfl, rfl, rfl, h1, r1⟩ := trodAll_cons r0
  obtain ⟨v2, vs2, d2, ds2, p2, q2, rfl, rfl, rfl, h2, r2⟩ := trodAll_cons r1
  obtain ⟨v3, vs3, d3, ds3, p3, q3, rfl, rfl, rfl, h3, r3⟩ := trodAll_cons r2
  obtain ⟨v4, vs4, d4, ds4, p4, q4, rfl, rfl, rfl, h4, r4⟩ := trodAll_cons r3
  obtain ⟨v5, vs5, d5, ds5, p5, q5, rfl, rfl, rfl, h5, r5⟩ := trodAll_cons r4
  obtain ⟨rfl, rfl, rfl⟩ := trodAll_nil r5
  obtain rfl : args = #[v0, v1, v2, v3, v4, v5] := by cases args; simp_all
  obtain ⟨rfl, rfl⟩ := trodVars_none hV
  obtain ⟨a0, rfl, rfl, rfl, w0⟩ := open_int Try.underlying3 (hval 0 3 v0 rfl rfl) h0
  obtain ⟨a1, rfl, rfl, rfl, w1⟩ := open_int Try.underlying3 (hval 1 3 v1 rfl rfl) h1
  obtain ⟨a2, rfl, rfl, rfl, w2⟩ := open_int Try.underlying3 (hval 2 3 v2 rfl rfl) h2
  have k3 := h3
  have lt3 : ∀ x ∈ p3, x.block < W.heap.size := by obtain ⟨m, hm⟩ := k3; exact DataW.trod_lt m _ _ _ hm
  obtain ⟨n3, nl3, nv3, nw3⟩ := open_flat (m := 8) (ks := [.u64, .u64]) Try.underlying35 (by kernel_rfl) (hval 3 35 v3 rfl rfl) h3
  obtain ⟨a3_0, a3_1, rfl⟩ : ∃ a3_0 a3_1, n3 = [a3_0, a3_1] := by
    match n3, nl3 with
    | [m3_0, m3_1], _ => exact ⟨m3_0, m3_1, rfl⟩
  obtain rfl : v3 = .agg #[.int .u64 a3_0, .int .u64 a3_1] := nv3
  have w3_0 : (Lit.int .u64 a3_0).wf = true := nw3 (.u64, a3_0) (by simp)
  have w3_1 : (Lit.int .u64 a3_1).wf = true := nw3 (.u64, a3_1) (by simp)
  obtain ⟨a4, rfl, rfl, rfl, w4⟩ := open_int Try.underlying3 (hval 4 3 v4 rfl rfl) h4
  obtain ⟨a5, rfl, rfl, rfl, w5⟩ := open_int Try.underlying3 (hval 5 3 v5 rfl rfl) h5
  clear hA0 hval0 hsz0
  refine (limitMasks_walk a0 a1 a2 a3_0 a3_1 a4 a5 (row_int w0) (row_int w1) (row_int w2) (row_word w3_0) (row_word w3_1) (row_int w4) (row_int w5) W).mono fun e W' ⟨he, bel⟩ => ?_
  subst he
  exact ⟨_, rfl, _, _, _, [], _, [], hW', trodAll_mk1 (shut_bool Try.underlying4 _), (trodAll_cons_mk (shut_int Try.underlying3 w0) (trodAll_cons_mk (shut_int Try.underlying3 w1) (trodAll_cons_mk (shut_int Try.underlying3 w2) (trodAll_cons_mk (Below.trod laidOut (by kernel_rfl) (of_decide_eq_true (by kernel_rfl)) k3 bel lt3) (trodAll_cons_mk (shut_int Try.underlying3 w4) (trodAll_cons_mk (shut_int Try.underlying3 w5) trodAll_mk0)))))), rfl, bel.frame _, fun h => by cases h⟩
theorem over : Rows.limitMasksRow.holds Try.pinned (OpenSpec.ofChange Rows.limitMasksSpec) :=
  OpenClaim.holds_of_wide 13 Try.f13 rfl rfl rfl rfl rfl rfl rfl ⟨rfl, rfl, rfl, rfl, rfl⟩ rfl rfl rfl rfl rfl (by kernel_rfl) Try.func13 (by kernel_rfl)
    (of_decide_eq_true (by kernel_rfl)) (by unfold Func.isWrapper; first | (rw [if_pos (by decide +kernel)]; kernel_rfl) | (rw [if_neg (by decide +kernel)]; exact ⟨rfl, rfl⟩))
    (fun os started H enc _ => lifted os started H enc)
theorem proved : Rows.LimitMasksSaid := over
#print axioms proved
end Go.Proofs.Ytkdfkpalgejkkaa.limitMasks
namespace Go.Proofs.Ytkdfkpalgejkkaa
/-- The row, under a short name, for the claim. -/
theorem limitMasks_holds : Rows.LimitMasksSaid := limitMasks.proved
end Go.Proofs.Ytkdfkpalgejkkaa
