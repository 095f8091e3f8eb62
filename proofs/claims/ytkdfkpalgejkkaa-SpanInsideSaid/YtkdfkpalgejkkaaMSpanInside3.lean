/- Part 3 of 3. The statement SpanInside holds: spans within others lead within what those lead to; for every input, under no condition. -/
import Derived.Test.YtkdfkpalgejkkaaMSpanInside2
import Derived.Laws.EntriesVeiled
import Derived.Deep.DeepCutAuto
import Derived.WalkMore
import Derived.Deep.LoopGhost
import Derived.ChangeSame
import Derived.ChangeShapes
import Derived.WideShapes
import Derived.Test.YtkdfkpalgejkkaaRows
import Derived.WalkKit
import Derived.ProofKit
import Derived.OpenShut
import Derived.ShutString
import Derived.ChangeOld
import Derived.Below
import Derived.SizedLaws
/-
  GIVEN, C: divide.Div by closed numbers.
-/
set_option linter.unusedSimpArgs false
namespace Go.Proofs.Ytkdfkpalgejkkaa
open Go.RowKit Go.Shelf Go.Proofs.YtkdfkpalgejkkaaW.PrintWords Go.Proofs.YtkdfkpalgejkkaaW.PrintMore

theorem wide_Less.f_eq {a b : Int} : wide_Less.f (hiW a) (loW a) (hiW b) (loW b) = some (decide (a < b)) := by
  unfold wide_Less.f; rw [if_pos ⟨word_loW a, word_loW b⟩, ofW_hiW_loW, ofW_hiW_loW]
theorem wide_Sub.f_eq {a b : Int} (ha : Wide a) (hb : Wide b) : wide_Sub.f (hiW a) (loW a) (hiW b) (loW b) = some (hiW ((a - b) % 340282366920938463463374607431768211456), loW ((a - b) % 340282366920938463463374607431768211456), decide (a < b)) := by
  unfold wide_Sub.f; rw [if_pos ⟨⟨word_hiW ha, word_loW a⟩, word_hiW hb, word_loW b⟩, ofW_hiW_loW, ofW_hiW_loW]
theorem wide_Add.f_eq {a b : Int} (ha : Wide a) (hb : Wide b) : wide_Add.f (hiW a) (loW a) (hiW b) (loW b) = some (hiW ((a + b) % 340282366920938463463374607431768211456), loW ((a + b) % 340282366920938463463374607431768211456), decide (340282366920938463463374607431768211456 ≤ a + b)) := by
  unfold wide_Add.f; rw [if_pos ⟨⟨word_hiW ha, word_loW a⟩, word_hiW hb, word_loW b⟩, ofW_hiW_loW, ofW_hiW_loW]
theorem wide_Times.f_eq {a b : Int} (ha : Wide a) (hb : Wide b) : wide_Times.f (hiW a) (loW a) (hiW b) (loW b) = some (hiW ((a * b) % 340282366920938463463374607431768211456), loW ((a * b) % 340282366920938463463374607431768211456), decide (340282366920938463463374607431768211456 ≤ a * b)) := by
  unfold wide_Times.f; rw [if_pos ⟨⟨word_hiW ha, word_loW a⟩, word_hiW hb, word_loW b⟩, ofW_hiW_loW, ofW_hiW_loW]

theorem div_loop {b : Int} {t : Nat} (hb : Wide b) (hb0 : 0 < b) (ht : t ≤ 63) (hbt : hiW b * 2 ^ t < 18446744073709551616) :
    ∀ (n k : Nat) (cur q m : Int), n ≤ t + 1 → Wide cur → 0 ≤ m → q = m * 2 ^ n → q + 2 ^ n ≤ 18446744073709551616 → cur < b * 2 ^ n →
    Pc.divide_Div.l0 (k + n + 1) ((n : Int) - 1) (hiW cur) (loW cur) (hiW b) (loW b) 0 q = some (0, q + cur / b, hiW (cur % b), loW (cur % b), 0)
  | 0, k, cur, q, m, _, hc, _, _, _, hlt => by
    simp only [Pc.divide_Div.l0]
    rw [if_neg (by omega)]
    have hlt : cur < b := by simpa using hlt
    rw [Int.ediv_eq_zero_of_lt hc.1 hlt, Int.emod_eq_of_lt hc.1 hlt, Int.add_zero]
  | n + 1, k, cur, q, m, hn, hc, hm, hq, hq2, hlt => by
    have hp : (0 : Int) < 2 ^ n := Int.pow_pos (by omega)
    have hs : (2 : Int) ^ (n + 1) = 2 ^ n * 2 := Int.pow_succ 2 n
    have hbh := word_hiW hb
    -- what is shifted fits
    have hfit : hiW b * 2 ^ n + 2 ^ n ≤ 18446744073709551616 := by
      have p2 : (0 : Int) < 2 ^ (t - n) := Int.pow_pos (by omega)
      have p3 : (2 : Int) ^ t = 2 ^ n * 2 ^ (t - n) := by rw [← Int.pow_add]; congr 1; omega
      have p4 : (2 : Int) ^ (64 - t) * 2 ^ t = 18446744073709551616 := by rw [← Int.pow_add, show 64 - t + t = 64 by omega]; rfl
      have p5 : hiW b < 2 ^ (64 - t) := by
        refine Int.lt_of_mul_lt_mul_right (a := 2 ^ t) ?_ (Int.le_of_lt (Int.pow_pos (by omega)))
        rw [p4]; exact hbt
      have p6 : (hiW b + 1) * 2 ^ n ≤ 2 ^ (64 - t) * 2 ^ n := Int.mul_le_mul_of_nonneg_right (by omega) (by omega)
      have p7 : (2 : Int) ^ (64 - t) * 2 ^ n ≤ 2 ^ (64 - t) * 2 ^ t := by
        refine Int.mul_le_mul_of_nonneg_left ?_ (Int.le_of_lt (Int.pow_pos (by omega)))
        rw [p3]
        have := Int.mul_le_mul_of_nonneg_left (show 1 ≤ (2 : Int) ^ (t - n) by omega) (show (0 : Int) ≤ 2 ^ n by omega)
        omega
      rw [Int.add_mul, Int.one_mul] at p6
      omega
    have hd : Wide (b * 2 ^ n) := by
      refine ⟨Int.mul_nonneg (by omega) (by omega), ?_⟩
      have e : b * 2 ^ n = hiW b * 2 ^ n * 18446744073709551616 + loW b * 2 ^ n := by
        have := ofW_hiW_loW b
        unfold ofW at this
        rw [show b * 2 ^ n = (hiW b * 18446744073709551616 + loW b) * 2 ^ n by rw [this]]
        grind
      have l1 : loW b * 2 ^ n ≤ 18446744073709551615 * 2 ^ n := Int.mul_le_mul_of_nonneg_right (by have := (word_loW b).2; omega) (by omega)
      omega
    have hw : wrap64 ((n : Int) - 1) = (n : Int) - 1 := by unfold wrap64; omega
    show Pc.divide_Div.l0 (k + n + 1 + 1) ((n + 1 : Nat) - 1 : Int) _ _ _ _ _ _ = _
    rw [show (((n + 1 : Nat) : Int) - 1) = (n : Int) by omega]
    simp only [Pc.divide_Div.l0]
    rw [if_pos (by omega)]
    have hsh : divide_shifted.f (hiW b) (loW b) (n : Int) = some (hiW (b * 2 ^ n), loW (b * 2 ^ n)) := by
      unfold divide_shifted.f
      rw [Int.toNat_natCast, if_pos ⟨hbh.1, word_loW b, by omega, hfit⟩, ofW_hiW_loW]
    rw [hsh]
    simp only [Option.bind_some]
    rw [wide_Less.f_eq]
    simp only [Option.bind_some]
    by_cases hl : cur < b * 2 ^ n
    · rw [if_pos (decide_eq_true hl), hw]
      exact div_loop hb hb0 ht hbt n k cur q (m * 2) (by omega) hc (by omega) (by rw [hq, hs]; grind) (by omega) hl
    · rw [if_neg (by simpa using hl), wide_Sub.f_eq hc hd]
      simp only [Option.bind_some]
      have hw2 : (cur - b * 2 ^ n) % 340282366920938463463374607431768211456 = cur - b * 2 ^ n := by unfold Wide at hc; have := hd.1; omega
      have hor : Go.bits .or .u64 q (shl .u64 1 (n : Int)) = q + 2 ^ n := by
        rw [shl64 (by omega), Int.one_mul, Int.emod_eq_of_lt (by omega) (by have := Int.mul_nonneg hm (show (0 : Int) ≤ 2 ^ (n + 1) by omega); omega), hq]
        exact or_apart (t := n + 1) (by omega) hm (by omega) (by omega) (by omega)
      rw [if_pos (by omega), hw2, hor, hw]
      refine Eq.trans (div_loop hb hb0 ht hbt n k (cur - b * 2 ^ n) (q + 2 ^ n) (m * 2 + 1) (by omega) ⟨by omega, by have := hd.1; unfold Wide at hc; omega⟩ (by omega) (by rw [hq, hs]; grind) (by omega) (by rw [hs] at hlt; grind)) ?_
      have e1 : (cur - b * 2 ^ n) / b = cur / b - 2 ^ n := by
        rw [show cur - b * 2 ^ n = cur + b * (-(2 ^ n)) by grind, Int.add_mul_ediv_left _ _ (by omega)]; omega
      have e2 : (cur - b * 2 ^ n) % b = cur % b := by
        rw [show cur - b * 2 ^ n = cur + b * (-(2 ^ n)) by grind, Int.add_mul_emod_self_left]
      rw [e1, e2]
      congr 3
      omega

theorem div_f {a b : Int} (ha : Wide a) (hb : Wide b) (hb0 : 0 < b) : Pc.divide_Div.f 70 (hiW a) (loW a) (hiW b) (loW b) = some (hiW (a / b), loW (a / b), hiW (a % b), loW (a % b), 0) := by
  have hah := word_hiW ha
  have hal := word_loW a
  have hbh := word_hiW hb
  have hbl := word_loW b
  have ea := ofW_hiW_loW a
  have eb := ofW_hiW_loW b
  unfold ofW at ea eb
  unfold Pc.divide_Div.f
  have hne : ¬ (hiW b == 0 && (loW b == 0)) = true := by
    intro z
    simp at z
    omega
  rw [if_neg hne]
  by_cases h0 : hiW b = 0
  · rw [if_pos h0]
    have e0 : loW b = b := by omega
    rw [bits_Div64.f_eq (Int.le_refl 0) hah hbl (by omega)]
    simp only [Option.bind_some]
    have e1 : ofW 0 (hiW a) = hiW a := by unfold ofW; omega
    rw [e1, e0]
    have r0 := Int.emod_nonneg (hiW a) (show b ≠ 0 by omega)
    have r1 := Int.emod_lt_of_pos (hiW a) hb0
    have d := Int.mul_ediv_add_emod (hiW a) b
    rw [bits_Div64.f_eq r0 hal (by rwa [e0] at hbl) r1]
    simp only [Option.bind_some]
    have eA : a = ofW (hiW a % b) (loW a) + b * (hiW a / b * 18446744073709551616) := by
      unfold ofW
      have : b * (hiW a / b * 18446744073709551616) = b * (hiW a / b) * 18446744073709551616 := by grind
      omega
    have q : a / b = ofW (hiW a % b) (loW a) / b + hiW a / b * 18446744073709551616 := by
      conv => lhs; rw [eA]
      rw [Int.add_mul_ediv_left _ _ (by omega)]
    have r : a % b = ofW (hiW a % b) (loW a) % b := by
      conv => lhs; rw [eA]
      rw [Int.add_mul_emod_self_left]
    have s0 : 0 ≤ ofW (hiW a % b) (loW a) / b := Int.ediv_nonneg (by unfold ofW; have := hal.1; omega) (by omega)
    have s1 : ofW (hiW a % b) (loW a) / b < 18446744073709551616 := by
      rw [Int.ediv_lt_iff_lt_mul hb0]
      unfold ofW
      have := hal.2
      omega
    have t0 := Int.emod_nonneg a (show b ≠ 0 by omega)
    have t1 := Int.emod_lt_of_pos a hb0
    have hbw := hbl.2
    rw [e0] at hbw
    rw [← r]
    have u1 : hiW (a / b) = hiW a / b := by rw [q]; unfold hiW at *; omega
    have u2 : loW (a / b) = ofW (hiW a % b) (loW a) / b := by rw [q]; unfold loW at *; omega
    rw [u1, u2, hiW_small ⟨t0, by omega⟩, loW_small ⟨t0, by omega⟩]
  · rw [if_neg h0, bits_LeadingZeros64.f_eq hbh]
    simp only [Option.bind_some]
    obtain ⟨t, ht, et, y1, y2⟩ := lift_y hbh (by have := hbh.1; omega)
    rw [et]
    have hp : (0 : Int) < 2 ^ t := Int.pow_pos (by omega)
    have hs : (2 : Int) ^ (t + 1) = 2 ^ t * 2 := Int.pow_succ 2 t
    have h64 : (2 : Int) ^ (t + 1) ≤ 2 ^ 64 := by
      have h := Nat.pow_le_pow_right (n := 2) (by omega) (show t + 1 ≤ 64 by omega)
      have e : ((2 ^ (t + 1) : Nat) : Int) = 2 ^ (t + 1) := by simp
      omega
    have hlt : a < b * 2 ^ (t + 1) := by
      have e : b * 2 ^ (t + 1) = hiW b * 2 ^ t * 36893488147419103232 + loW b * 2 ^ (t + 1) := by
        rw [show b * 2 ^ (t + 1) = (hiW b * 18446744073709551616 + loW b) * 2 ^ (t + 1) by rw [eb], hs]
        grind
      have := Int.mul_nonneg hbl.1 (show (0 : Int) ≤ 2 ^ (t + 1) by omega)
      unfold Wide at ha
      omega
    have hl := div_loop hb hb0 ht y2 (t + 1) (68 - t) a 0 0 (by omega) ha (by omega) (by omega) (by omega) hlt
    rw [show 68 - t + (t + 1) + 1 = 70 by omega, show (((t + 1 : Nat) : Int) - 1) = (t : Int) by omega] at hl
    rw [hl, Int.zero_add]
    have q0 : 0 ≤ a / b := Int.ediv_nonneg ha.1 (by omega)
    have q1 : a / b < 18446744073709551616 := by
      rw [Int.ediv_lt_iff_lt_mul hb0]
      have := hbl.1
      have := hbh.1
      unfold Wide at ha
      omega
    rw [hiW_small ⟨q0, q1⟩, loW_small ⟨q0, q1⟩]

theorem divide_Div_c (a b : Int) (ha : Wide a) (hb : Wide b) (hb0 : 0 < b) (w : World) :
    Calls Try.prog 110 #[wv a, wv b] w fun e w' => e = .returned (.tuple #[wv (a / b), wv (a % b), .int .i64 0]) ∧ Below w.heap.size w w' :=
  (Pc.divide_Div.calls 70 (hiW a) (loW a) (hiW b) (loW b) _ _ _ _ _ w (div_f ha hb hb0)).mono fun _ _ h => h
theorem divide_Div_zero (a : Int) (w : World) :
    Calls Try.prog 110 #[wv a, wv 0] w fun e w' => e = .returned (.tuple #[wv 0, wv 0, .int .i64 4]) ∧ Below w.heap.size w w' :=
  (Pc.divide_Div.calls 70 (hiW a) (loW a) (hiW 0) (loW 0) _ _ _ _ _ w (by unfold Pc.divide_Div.f; rw [if_pos (by decide)]; rfl)).mono fun _ _ h => h
end Go.Proofs.Ytkdfkpalgejkkaa
/-
  fix: ints that tell when they are too small for a result.
-/
namespace Go.Proofs.Ytkdfkpalgejkkaa
open Go.RowKit Go.Shelf

theorem ret_int {k : IntKind} {a b : Int} (h : a = b) : Ending.returned (.int k a) = .returned (.int k b) := by rw [h]
theorem neg_word {a : Int} (h1 : -9223372036854775808 ≤ a) (h2 : a < 0) : IntKind.u64.wrap (-IntKind.u64.wrap a) = -a := by
  simp only [IntKind.wrap_u64]; omega
theorem fix_size_c (a : Int) (ha : IsInt a) (w : World) :
    Calls Try.prog 109 #[.int .i64 a] w fun e w' => e = .returned (.int .u64 (absZ a)) ∧ w = w' := by
  have h1 := ha.1
  have h2 := ha.2
  by_cases h : a < 0
  · have e : absZ a = -a := by unfold absZ; rw [if_pos h]
    rw [e]
    clear e
    go_enter Try.func109, Try.ntmps109
    go_wp2
    go_ret
    exact ⟨ret_int (neg_word h1 h), rfl⟩
  · have e : absZ a = a := by unfold absZ; rw [if_neg h]
    rw [e]
    clear e
    go_enter Try.func109, Try.ntmps109
    go_wp2
    go_ret
    exact ⟨rfl, rfl⟩

/-- What gives up. -/
abbrev overChain : List PanicEntry := [{ v := .iface 147 (.agg #[]), recovered := false }]

theorem signed_ok (h l : Int) (b : Bool) (hl : Word l) (hh : h = 0) (hf : l ≤ 9223372036854775807 ∨ (l ≤ 9223372036854775808 ∧ b = true)) (w : World) :
    Calls Try.prog 111 #[.agg #[.int .u64 h, .int .u64 l], .bool b] w fun e w' => e = .returned (.int .i64 (if b then -l else l)) ∧ Below w.heap.size w w' := by
  subst hh
  have l0 := hl.1
  cases b
  · have l1 : l ≤ 9223372036854775807 := by simpa using hf
    clear hf hl
    go_enter Try.func111, Try.ntmps111
    go_wp2
    go_ret
    exact ⟨by simp, (Below.refl _ _).alloc (Nat.le_refl _) _⟩
  · have l1 : l ≤ 9223372036854775808 := by omega
    clear hf hl
    have hn : wrap64 (IntKind.u64.wrap (-l)) = -l := by simp only [IntKind.wrap_u64]; unfold wrap64; omega
    have Hn := Lib.hid hn
    clear hn
    by_cases l2 : l ≤ 9223372036854775807
    · go_enter Try.func111, Try.ntmps111
      go_wp2
      go_ret
      exact ⟨ret_int (by simpa using Hn.out), (Below.refl _ _).alloc (Nat.le_refl _) _⟩
    · have l3 : 9223372036854775807 < l := by omega
      go_enter Try.func111, Try.ntmps111
      go_wp2
      go_ret
      exact ⟨ret_int (by simpa using Hn.out), (Below.refl _ _).alloc (Nat.le_refl _) _⟩
theorem signed_bad (h l : Int) (b : Bool) (hl : Word l) (hh : Word h) (hf : 0 < h ∨ 9223372036854775808 < l ∨ (9223372036854775807 < l ∧ b = false)) (w : World) :
    Calls Try.prog 111 #[.agg #[.int .u64 h, .int .u64 l], .bool b] w fun e w' => e = .panicked overChain ∧ Below w.heap.size w w' := by
  have l0 := hl.1
  have h0 := hh.1
  clear hl hh
  by_cases g1 : 0 < h
  · clear hf
    go_enter Try.func111, Try.ntmps111
    go_wp2
    exact ⟨rfl, rfl, (Below.refl _ _).alloc (Nat.le_refl _) _⟩
  · obtain rfl : h = 0 := by omega
    clear g1
    by_cases g2 : 9223372036854775808 < l
    · clear hf
      go_enter Try.func111, Try.ntmps111
      go_wp2
      exact ⟨rfl, rfl, (Below.refl _ _).alloc (Nat.le_refl _) _⟩
    · obtain ⟨g3, rfl⟩ : 9223372036854775807 < l ∧ b = false := by
        rcases hf with h | h | h
        · omega
        · omega
        · exact h
      have g4 : l ≤ 9223372036854775808 := by omega
      clear hf g2
      go_enter Try.func111, Try.ntmps111
      go_wp2
      exact ⟨rfl, rfl, (Below.refl _ _).alloc (Nat.le_refl _) _⟩

theorem assert_over (v : Value) (W : World) : (Instr.typeAssert (.iface 147 v) 20 147 true).run Try.prog W = .ok (.tuple #[v, .bool true]) W := by kernel_rfl
/-- The deferred recovery: a panic that gives up is told as an error. -/
theorem catch_over (gn ge : Nat) (x y : Int) (older : List PanicEntry) (w : World) (hn : w.cell? ⟨gn, 0, none⟩ = some (.int .i64 x)) (he : w.cell? ⟨ge, 0, none⟩ = some (.int .i64 y)) (zn : w.frozen? ⟨gn, 0, none⟩ = false) (ze : w.frozen? ⟨ge, 0, none⟩ = false) (hne : ¬ gn = ge) :
    CallsD Try.prog 131 #[.pointer (some ⟨gn, 0, none⟩), .pointer (some ⟨ge, 0, none⟩)] (.panicking ({ v := .iface 147 (.agg #[]), recovered := false } :: older)) w fun e u' w' =>
      e = .returned (.tuple #[]) ∧ u' = .panicking ({ v := .iface 147 (.agg #[]), recovered := true } :: older) ∧ w' = ((w.setCell ⟨gn, 0, none⟩ (.int .i64 0)).setCell ⟨ge, 0, none⟩ (.int .i64 5)).alloc (.cells #[] 147) := by
  have ln := World.block_lt_of_cell? w _ hn
  have le := World.block_lt_of_cell? w _ he
  simp only [] at ln le
  have hta := assert_over
  refine callsD_of_wpS Try.func131 rfl fun c₀ cs hu => ?_
  apply wpS_seq
  apply wpS_region
  simp [wpOpsS, go_sem, recoverD, hu, Try.ntmps131, Exit.thenS]
  refine wpS_of_wp ?_
  simp only [Array.replicate_succ, Array.replicate_zero, List.push_toArray, List.append_toArray, List.nil_append, List.cons_append, List.setIfInBounds_toArray, List.set_cons_zero, List.set_cons_succ]
  go_wp2
  simp [bodyPostS, results, Try.results131]
theorem catch_idle (gn ge : Nat) (w : World) :
    CallsD Try.prog 131 #[.pointer (some ⟨gn, 0, none⟩), .pointer (some ⟨ge, 0, none⟩)] .returning w fun e u' w' => e = .returned (.tuple #[]) ∧ u' = .returning ∧ w' = w := by
  refine callsD_of_wpS Try.func131 rfl fun c₀ cs hu => ?_
  apply wpS_seq
  apply wpS_region
  simp [wpOpsS, go_sem, recoverD, hu, Try.ntmps131, Exit.thenS]
  refine wpS_of_wp ?_
  simp only [Array.replicate_succ, Array.replicate_zero, List.push_toArray, List.append_toArray, List.nil_append, List.cons_append, List.setIfInBounds_toArray, List.set_cons_zero, List.set_cons_succ]
  go_wp2
  cases c₀
  simp_all [bodyPostS, results, Try.results131]

set_option maxHeartbeats 1000000 in
theorem try_ret (g : FuncId) (lb : Array Value) (n : Int) (w : World) (eg : ∀ (args : Array Value) (W : World), (callFunc g args).run Try.prog W = .ok (.enter g args) W)
    (hc : ∀ W, Below w.heap.size w W → Calls Try.prog g lb W fun e W' => e = .returned (.int .i64 n) ∧ Below W.heap.size W W') :
    Calls Try.prog 107 #[.func (.func g) #[] lb] w fun e w' => e = .returned (.tuple #[.int .i64 n, .int .i64 0]) ∧ Below w.heap.size w w' := by
  have hmf : ∀ (fn : Fn) (first cap : Array Value) (w : World), (Instr.makeFunc fn first cap).run Try.prog w = .ok (.func fn first cap) w := fun _ _ _ _ => rfl
  have HC := Lib.hid hc
  clear hc
  go_enter_defers Try.func107, Try.ntmps107
  go_wp2_with fail
  refine (HC.out _ (((Below.refl _ _).alloc (Nat.le_refl _) _).alloc (by simp) _)).mono ?_
  rintro e w1 ⟨rfl, hb1⟩
  have hz1 := hb1.size
  simp only [World.size_alloc] at hz1
  have c0 : w1.cell? ⟨w.heap.size, 0, none⟩ = some (.int .i64 0) := keep_cell hb1 (by simp [go_sem])
  have c1 : w1.cell? ⟨w.heap.size + 1, 0, none⟩ = some (.int .i64 0) := keep_cell hb1 (by simp [go_sem])
  have f0 : w1.frozen? ⟨w.heap.size, 0, none⟩ = false := keep_frozen hb1 (by simp; omega) (by simp [go_sem])
  have f1 : w1.frozen? ⟨w.heap.size + 1, 0, none⟩ = false := keep_frozen hb1 (by simp) (by simp [go_sem])
  have hB1 : Below w.heap.size w w1 := below_then_ (((Below.refl _ _).alloc (Nat.le_refl _) _).alloc (by simp) _) (by simp; omega) hb1
  have HB := Lib.hid hB1
  clear hB1 hb1 HC
  go_wp2
  refine leaves_cons (f := 131) (args := #[.pointer (some ⟨w.heap.size, 0, none⟩), .pointer (some ⟨w.heap.size + 1, 0, none⟩)]) (by simp) (by simp [go_sem]) ?_
  refine (catch_idle _ _ _).mono ?_
  rintro e u' w'' ⟨rfl, rfl, rfl⟩
  have g0 : ((w1.setCell ⟨w.heap.size, 0, none⟩ (.int .i64 n)).setCell ⟨w.heap.size + 1, 0, none⟩ (.int .i64 0)).cell? ⟨w.heap.size, 0, none⟩ = some (.int .i64 n) := setCell_cell (World.cell?_setCell_same' _ _ _ (by rw [c0]; rfl)) (by simp)
  have g1 : ((w1.setCell ⟨w.heap.size, 0, none⟩ (.int .i64 n)).setCell ⟨w.heap.size + 1, 0, none⟩ (.int .i64 0)).cell? ⟨w.heap.size + 1, 0, none⟩ = some (.int .i64 0) := World.cell?_setCell_same' _ _ _ (by rw [setCell_cell c1 (by simp)]; rfl)
  simp [Leaves, settle, results, Try.results107, go_sem, g0, g1]
  exact (HB.out.setCell (Nat.le_refl _) _).setCell (by simp) _
theorem try_panic (g : FuncId) (lb : Array Value) (w : World) (eg : ∀ (args : Array Value) (W : World), (callFunc g args).run Try.prog W = .ok (.enter g args) W)
    (hc : ∀ W, Below w.heap.size w W → Calls Try.prog g lb W fun e W' => e = .panicked overChain ∧ Below W.heap.size W W') :
    Calls Try.prog 107 #[.func (.func g) #[] lb] w fun e w' => e = .returned (.tuple #[.int .i64 0, .int .i64 5]) ∧ Below w.heap.size w w' := by
  have hmf : ∀ (fn : Fn) (first cap : Array Value) (w : World), (Instr.makeFunc fn first cap).run Try.prog w = .ok (.func fn first cap) w := fun _ _ _ _ => rfl
  have HC := Lib.hid hc
  clear hc
  go_enter_defers Try.func107, Try.ntmps107
  go_wp2_with fail
  refine (HC.out _ (((Below.refl _ _).alloc (Nat.le_refl _) _).alloc (by simp) _)).mono ?_
  rintro e w1 ⟨rfl, hb1⟩
  have hz1 := hb1.size
  simp only [World.size_alloc] at hz1
  have c0 : w1.cell? ⟨w.heap.size, 0, none⟩ = some (.int .i64 0) := keep_cell hb1 (by simp [go_sem])
  have c1 : w1.cell? ⟨w.heap.size + 1, 0, none⟩ = some (.int .i64 0) := keep_cell hb1 (by simp [go_sem])
  have f0 : w1.frozen? ⟨w.heap.size, 0, none⟩ = false := keep_frozen hb1 (by simp; omega) (by simp [go_sem])
  have f1 : w1.frozen? ⟨w.heap.size + 1, 0, none⟩ = false := keep_frozen hb1 (by simp) (by simp [go_sem])
  have hB1 : Below w.heap.size w w1 := below_then_ (((Below.refl _ _).alloc (Nat.le_refl _) _).alloc (by simp) _) (by simp; omega) hb1
  have HB := Lib.hid hB1
  clear hB1 hb1 HC
  refine leaves_cons (f := 131) (args := #[.pointer (some ⟨w.heap.size, 0, none⟩), .pointer (some ⟨w.heap.size + 1, 0, none⟩)]) (by simp) (by simp [go_sem]) ?_
  refine (catch_over w.heap.size (w.heap.size + 1) 0 0 _ _ c0 c1 f0 f1 (by omega)).mono ?_
  rintro e u' w'' ⟨rfl, rfl, rfl⟩
  have g0 : ((w1.setCell ⟨w.heap.size, 0, none⟩ (.int .i64 0)).setCell ⟨w.heap.size + 1, 0, none⟩ (.int .i64 5)).cell? ⟨w.heap.size, 0, none⟩ = some (.int .i64 0) := setCell_cell (World.cell?_setCell_same' _ _ _ (by rw [c0]; rfl)) (by simp)
  have g1 : ((w1.setCell ⟨w.heap.size, 0, none⟩ (.int .i64 0)).setCell ⟨w.heap.size + 1, 0, none⟩ (.int .i64 5)).cell? ⟨w.heap.size + 1, 0, none⟩ = some (.int .i64 5) := World.cell?_setCell_same' _ _ _ (by rw [setCell_cell c1 (by simp)]; rfl)
  have g0' := alloc_cell g0 (.cells #[] 147)
  have g1' := alloc_cell g1 (.cells #[] 147)
  simp [Leaves, settle, results, Try.results107, go_sem, g0', g1']
  exact ((HB.out.setCell (Nat.le_refl _) _).setCell (by simp) _).alloc (by simp; omega) _

/-! ### Sums and differences -/
theorem add1_ok (ga gb : Nat) (a b : Int) (ha : IsInt a) (hb : IsInt b) (hs : IsInt (a + b)) (w : World) (ca : w.cell? ⟨ga, 0, none⟩ = some (.int .i64 a)) (cb : w.cell? ⟨gb, 0, none⟩ = some (.int .i64 b)) :
    Calls Try.prog 135 #[.pointer (some ⟨ga, 0, none⟩), .pointer (some ⟨gb, 0, none⟩)] w fun e w' => e = .returned (.int .i64 (a + b)) ∧ Below w.heap.size w w' := by
  obtain ⟨a1, a2⟩ := ha; obtain ⟨b1, b2⟩ := hb; obtain ⟨s1, s2⟩ := hs
  by_cases h : 0 < b
  · go_enter Try.func135, Try.ntmps135
    go_wp2
    go_ret
    exact ⟨rfl, Below.refl _ _⟩
  · have k : decide (a < a + b) = false := decide_eq_false (by omega)
    go_enter Try.func135, Try.ntmps135
    go_wp2
    go_ret
    exact ⟨rfl, Below.refl _ _⟩
theorem add1_bad (ga gb : Nat) (a b : Int) (ha : IsInt a) (hb : IsInt b) (hs : ¬ IsInt (a + b)) (w : World) (ca : w.cell? ⟨ga, 0, none⟩ = some (.int .i64 a)) (cb : w.cell? ⟨gb, 0, none⟩ = some (.int .i64 b)) :
    Calls Try.prog 135 #[.pointer (some ⟨ga, 0, none⟩), .pointer (some ⟨gb, 0, none⟩)] w fun e w' => e = .panicked overChain ∧ Below w.heap.size w w' := by
  unfold IsInt at ha hb hs
  obtain ⟨a1, a2⟩ := ha; obtain ⟨b1, b2⟩ := hb
  by_cases h : 0 < b
  · have k : ¬ a < wrap64 (a + b) := by unfold wrap64; omega
    have k2 : decide (a < wrap64 (a + b)) = false := decide_eq_false k
    clear hs k
    go_enter Try.func135, Try.ntmps135
    go_wp2
    exact ⟨rfl, rfl, Below.refl _ _⟩
  · have k : a < wrap64 (a + b) := by unfold wrap64; omega
    clear hs
    go_enter Try.func135, Try.ntmps135
    go_wp2
    exact ⟨rfl, rfl, Below.refl _ _⟩
theorem sub1_ok (ga gb : Nat) (a b : Int) (ha : IsInt a) (hb : IsInt b) (hs : IsInt (a - b)) (w : World) (ca : w.cell? ⟨ga, 0, none⟩ = some (.int .i64 a)) (cb : w.cell? ⟨gb, 0, none⟩ = some (.int .i64 b)) :
    Calls Try.prog 136 #[.pointer (some ⟨ga, 0, none⟩), .pointer (some ⟨gb, 0, none⟩)] w fun e w' => e = .returned (.int .i64 (a - b)) ∧ Below w.heap.size w w' := by
  obtain ⟨a1, a2⟩ := ha; obtain ⟨b1, b2⟩ := hb; obtain ⟨s1, s2⟩ := hs
  by_cases h : 0 < b
  · go_enter Try.func136, Try.ntmps136
    go_wp2
    go_ret
    exact ⟨rfl, Below.refl _ _⟩
  · have k : decide (a - b < a) = false := decide_eq_false (by omega)
    go_enter Try.func136, Try.ntmps136
    go_wp2
    go_ret
    exact ⟨rfl, Below.refl _ _⟩
theorem sub1_bad (ga gb : Nat) (a b : Int) (ha : IsInt a) (hb : IsInt b) (hs : ¬ IsInt (a - b)) (w : World) (ca : w.cell? ⟨ga, 0, none⟩ = some (.int .i64 a)) (cb : w.cell? ⟨gb, 0, none⟩ = some (.int .i64 b)) :
    Calls Try.prog 136 #[.pointer (some ⟨ga, 0, none⟩), .pointer (some ⟨gb, 0, none⟩)] w fun e w' => e = .panicked overChain ∧ Below w.heap.size w w' := by
  unfold IsInt at ha hb hs
  obtain ⟨a1, a2⟩ := ha; obtain ⟨b1, b2⟩ := hb
  by_cases h : 0 < b
  · have k : ¬ wrap64 (a - b) < a := by unfold wrap64; omega
    have k2 : decide (wrap64 (a - b) < a) = false := decide_eq_false k
    clear hs k
    go_enter Try.func136, Try.ntmps136
    go_wp2
    exact ⟨rfl, rfl, Below.refl _ _⟩
  · have k : wrap64 (a - b) < a := by unfold wrap64; omega
    clear hs
    go_enter Try.func136, Try.ntmps136
    go_wp2
    exact ⟨rfl, rfl, Below.refl _ _⟩

theorem fix_Add_c (a b : Int) (ha : IsInt a) (hb : IsInt b) (w : World) :
    Calls Try.prog 115 #[.int .i64 a, .int .i64 b] w fun e w' => e = .returned (.tuple #[.int .i64 (fit (a + b)).1, .int .i64 (fit (a + b)).2]) ∧ Below w.heap.size w w' := by
  have hmf : ∀ (fn : Fn) (first cap : Array Value) (w : World), (Instr.makeFunc fn first cap).run Try.prog w = .ok (.func fn first cap) w := fun _ _ _ _ => rfl
  have eg := enters_of Try.func135 (by kernel_rfl) rfl
  have HC : Hid (Calls Try.prog 107 #[.func (.func 135) #[] #[.pointer (some ⟨w.heap.size, 0, none⟩), .pointer (some ⟨w.heap.size + 1, 0, none⟩)]] ((w.alloc (.cells #[.int .i64 a] 3)).alloc (.cells #[.int .i64 b] 3)) fun e w' =>
      e = .returned (.tuple #[.int .i64 (fit (a + b)).1, .int .i64 (fit (a + b)).2]) ∧ Below ((w.alloc (.cells #[.int .i64 a] 3)).alloc (.cells #[.int .i64 b] 3)).heap.size ((w.alloc (.cells #[.int .i64 a] 3)).alloc (.cells #[.int .i64 b] 3)) w') := by
    by_cases hs : IsInt (a + b)
    · rw [fit_ok hs]
      exact try_ret _ _ _ _ eg (fun W hW => add1_ok _ _ a b ha hb hs W (keep_cell hW (by simp [go_sem])) (keep_cell hW (by simp [go_sem])))
    · rw [fit_bad hs]
      exact try_panic _ _ _ eg (fun W hW => add1_bad _ _ a b ha hb hs W (keep_cell hW (by simp [go_sem])) (keep_cell hW (by simp [go_sem])))
  clear eg
  go_enter Try.func115, Try.ntmps115
  go_wp2_with fail
  refine (HC.out).mono ?_
  rintro e w1 ⟨rfl, hb1⟩
  clear HC
  go_wp2
  go_ret2
  exact ⟨rfl, below_then_ (((Below.refl _ _).alloc (Nat.le_refl _) _).alloc (by simp) _) (by simp; omega) hb1⟩
theorem fix_Sub_c (a b : Int) (ha : IsInt a) (hb : IsInt b) (w : World) :
    Calls Try.prog 116 #[.int .i64 a, .int .i64 b] w fun e w' => e = .returned (.tuple #[.int .i64 (fit (a - b)).1, .int .i64 (fit (a - b)).2]) ∧ Below w.heap.size w w' := by
  have hmf : ∀ (fn : Fn) (first cap : Array Value) (w : World), (Instr.makeFunc fn first cap).run Try.prog w = .ok (.func fn first cap) w := fun _ _ _ _ => rfl
  have eg := enters_of Try.func136 (by kernel_rfl) rfl
  have HC : Hid (Calls Try.prog 107 #[.func (.func 136) #[] #[.pointer (some ⟨w.heap.size, 0, none⟩), .pointer (some ⟨w.heap.size + 1, 0, none⟩)]] ((w.alloc (.cells #[.int .i64 a] 3)).alloc (.cells #[.int .i64 b] 3)) fun e w' =>
      e = .returned (.tuple #[.int .i64 (fit (a - b)).1, .int .i64 (fit (a - b)).2]) ∧ Below ((w.alloc (.cells #[.int .i64 a] 3)).alloc (.cells #[.int .i64 b] 3)).heap.size ((w.alloc (.cells #[.int .i64 a] 3)).alloc (.cells #[.int .i64 b] 3)) w') := by
    by_cases hs : IsInt (a - b)
    · rw [fit_ok hs]
      exact try_ret _ _ _ _ eg (fun W hW => sub1_ok _ _ a b ha hb hs W (keep_cell hW (by simp [go_sem])) (keep_cell hW (by simp [go_sem])))
    · rw [fit_bad hs]
      exact try_panic _ _ _ eg (fun W hW => sub1_bad _ _ a b ha hb hs W (keep_cell hW (by simp [go_sem])) (keep_cell hW (by simp [go_sem])))
  clear eg
  go_enter Try.func116, Try.ntmps116
  go_wp2_with fail
  refine (HC.out).mono ?_
  rintro e w1 ⟨rfl, hb1⟩
  clear HC
  go_wp2
  go_ret2
  exact ⟨rfl, below_then_ (((Below.refl _ _).alloc (Nat.le_refl _) _).alloc (by simp) _) (by simp; omega) hb1⟩

/-- Where a region that draws its order ends in a panic: what would follow is asked under False alone. -/
theorem leave_here {G : Prop} {S : World → Prop} {V : Act → World → Prop} {K : Act → World → Prop} (_hK : Shut (∀ a w, S w → (S w → V a w) → K a w)) (w : World) (g : G) (_k : False → K { tmps := #[], defers := [] } w) : G := g
/-! ### Products -/
theorem absZ_of_neg {a : Int} (h : a < 0) : absZ a = -a := by unfold absZ; rw [if_pos h]
set_option maxHeartbeats 4000000 in
set_option maxRecDepth 100000 in
theorem mul1_ok (ga gb : Nat) (a b : Int) (ha : IsInt a) (hb : IsInt b) (hs : IsInt (a * b)) (w : World) (ca : w.cell? ⟨ga, 0, none⟩ = some (.int .i64 a)) (cb : w.cell? ⟨gb, 0, none⟩ = some (.int .i64 b)) :
    Calls Try.prog 123 #[.pointer (some ⟨ga, 0, none⟩), .pointer (some ⟨gb, 0, none⟩)] w fun e w' => e = .returned (.int .i64 (a * b)) ∧ Below w.heap.size w w' := by
  have wa := absZ_word ha
  have wb := absZ_word hb
  have hm := word_mul wa wb
  have wl := word_loW (absZ a * absZ b)
  obtain ⟨k1, k2, k3⟩ := (below_of hm.1 (mul_signed a b)).1 hs
  obtain ⟨t1, h1⟩ : ∃ t, decide (a < 0) = t := ⟨_, rfl⟩
  obtain ⟨t2, h2⟩ : ∃ t, decide (b < 0) = t := ⟨_, rfl⟩
  have hb2 : below2 a b = (t1 != t2) := by unfold below2; rw [h1, h2]
  rw [hb2] at k2 k3
  have K1 := Lib.hid k1
  have K2 := Lib.hid k2
  have K3 := Lib.hid k3
  clear k1 k2 k3 hb2 hm hs
  cases t1 <;> cases t2
  all_goals
    go_enter Try.func123, Try.ntmps123
    go_wp2_with fail
    go_region_held3 (fun w' => w'.cell? ⟨ga, 0, none⟩ = some (.int .i64 a) ∧ w'.cell? ⟨gb, 0, none⟩ = some (.int .i64 b) ∧ Below w.heap.size w w')
      ((first | (go_split_ands; refine ⟨?_, ?_, ?_⟩ <;> assumption) | (go_split_ands; refine ⟨?_, ?_, ?_⟩ <;> first | exact keep_cell hbw (by assumption) | exact below_then_ (by assumption) (Below.size (by assumption)) hbw) | (refine ⟨?_, ?_, ?_⟩ <;> first | exact Below.drew (Below.refl _ _) | (simp [go_sem, *]; done))))
      (first | (go_at_call 109; ((with_reducible refine (fix_size_c a ha _).mono ?_); rintro e w' ⟨rfl, rfl⟩)) | (go_at_call 109; ((with_reducible refine (fix_size_c b hb _).mono ?_); rintro e w' ⟨rfl, rfl⟩)) | (go_at_call 49; ((with_reducible refine (wide_Mul_c _ _ wa wb _).mono ?_); rintro e w' ⟨rfl, hbw⟩)) | (go_at_call 111; (refine (signed_ok _ _ _ wl K1.out K2.out _).mono ?_; rintro e w' ⟨rfl, hbw⟩)))
    go_split_ands
    go_wp2
    go_ret
    exact ⟨ret_int K3.out, by assumption⟩
set_option maxHeartbeats 4000000 in
set_option maxRecDepth 100000 in
theorem mul1_bad (ga gb : Nat) (a b : Int) (ha : IsInt a) (hb : IsInt b) (hs : ¬ IsInt (a * b)) (w : World) (ca : w.cell? ⟨ga, 0, none⟩ = some (.int .i64 a)) (cb : w.cell? ⟨gb, 0, none⟩ = some (.int .i64 b)) :
    Calls Try.prog 123 #[.pointer (some ⟨ga, 0, none⟩), .pointer (some ⟨gb, 0, none⟩)] w fun e w' => e = .panicked overChain ∧ Below w.heap.size w w' := by
  have wa := absZ_word ha
  have wb := absZ_word hb
  have hm := word_mul wa wb
  have wl := word_loW (absZ a * absZ b)
  have wh := word_hiW hm
  have k2 := (below_of hm.1 (mul_signed a b)).2 hs
  obtain ⟨t1, h1⟩ : ∃ t, decide (a < 0) = t := ⟨_, rfl⟩
  obtain ⟨t2, h2⟩ : ∃ t, decide (b < 0) = t := ⟨_, rfl⟩
  have hb2 : below2 a b = (t1 != t2) := by unfold below2; rw [h1, h2]
  rw [hb2] at k2
  have K2 := Lib.hid k2
  clear k2 hb2 hm hs
  cases t1 <;> cases t2
  all_goals
    go_enter Try.func123, Try.ntmps123
    go_wp2_with fail
    go_region_held (fun w' => w'.cell? ⟨ga, 0, none⟩ = some (.int .i64 a) ∧ w'.cell? ⟨gb, 0, none⟩ = some (.int .i64 b) ∧ Below w.heap.size w w')
      ((first | exact hF.elim | (go_split_ands; refine ⟨?_, ?_, ?_⟩ <;> assumption) | (go_split_ands; refine ⟨?_, ?_, ?_⟩ <;> first | exact keep_cell hbw (by assumption) | exact below_then_ (by assumption) (Below.size (by assumption)) hbw) | (refine ⟨?_, ?_, ?_⟩ <;> first | exact Below.drew (Below.refl _ _) | (simp [go_sem, *]; done))))
      (first | (go_at_call 109; ((with_reducible refine (fix_size_c a ha _).mono ?_); rintro e w' ⟨rfl, rfl⟩)) | (go_at_call 109; ((with_reducible refine (fix_size_c b hb _).mono ?_); rintro e w' ⟨rfl, rfl⟩)) | (go_at_call 49; ((with_reducible refine (wide_Mul_c _ _ wa wb _).mono ?_); rintro e w' ⟨rfl, hbw⟩)) | (go_at_call 111; refine (signed_bad _ _ _ wl wh K2.out _).mono ?_; rintro e w' ⟨rfl, hbw⟩; go_split_ands; refine leave_here (by assumption) w' ⟨rfl, rfl, below_then_ (by assumption) (Below.size (by assumption)) hbw⟩ (fun hF => ?_)))
    exact hF.elim
theorem fix_Mul_c (a b : Int) (ha : IsInt a) (hb : IsInt b) (w : World) :
    Calls Try.prog 96 #[.int .i64 a, .int .i64 b] w fun e w' => e = .returned (.tuple #[.int .i64 (fit (a * b)).1, .int .i64 (fit (a * b)).2]) ∧ Below w.heap.size w w' := by
  have hmf : ∀ (fn : Fn) (first cap : Array Value) (w : World), (Instr.makeFunc fn first cap).run Try.prog w = .ok (.func fn first cap) w := fun _ _ _ _ => rfl
  have eg := enters_of Try.func123 (by kernel_rfl) rfl
  have HC : Hid (Calls Try.prog 107 #[.func (.func 123) #[] #[.pointer (some ⟨w.heap.size, 0, none⟩), .pointer (some ⟨w.heap.size + 1, 0, none⟩)]] ((w.alloc (.cells #[.int .i64 a] 3)).alloc (.cells #[.int .i64 b] 3)) fun e w' =>
      e = .returned (.tuple #[.int .i64 (fit (a * b)).1, .int .i64 (fit (a * b)).2]) ∧ Below ((w.alloc (.cells #[.int .i64 a] 3)).alloc (.cells #[.int .i64 b] 3)).heap.size ((w.alloc (.cells #[.int .i64 a] 3)).alloc (.cells #[.int .i64 b] 3)) w') := by
    by_cases hs : IsInt (a * b)
    · rw [fit_ok hs]
      exact try_ret _ _ _ _ eg (fun W hW => mul1_ok _ _ a b ha hb hs W (keep_cell hW (by simp [go_sem])) (keep_cell hW (by simp [go_sem])))
    · rw [fit_bad hs]
      exact try_panic _ _ _ eg (fun W hW => mul1_bad _ _ a b ha hb hs W (keep_cell hW (by simp [go_sem])) (keep_cell hW (by simp [go_sem])))
  clear eg
  go_enter Try.func96, Try.ntmps96
  go_wp2_with fail
  refine (HC.out).mono ?_
  rintro e w1 ⟨rfl, hb1⟩
  clear HC
  go_wp2
  go_ret2
  exact ⟨rfl, below_then_ (((Below.refl _ _).alloc (Nat.le_refl _) _).alloc (by simp) _) (by simp; omega) hb1⟩
end Go.Proofs.Ytkdfkpalgejkkaa
/-
  fix.modes and its functions.
-/
set_option linter.unusedSimpArgs false
namespace Go.Proofs.Ytkdfkpalgejkkaa
open Go.RowKit Go.Shelf

theorem modes_c (w : World) : Calls Try.prog 106 #[] w fun e w' => e = .returned (.agg #[.func (.func 127) #[] #[], .func (.func 128) #[] #[], .func (.func 129) #[] #[]]) ∧ Below w.heap.size w w' := by
  go_enter Try.func106, Try.ntmps106
  go_wp2
  refine bodyPost_ret (v := .agg #[.func (.func 127) #[] #[], .func (.func 128) #[] #[], .func (.func 129) #[] #[]]) (by simp [results, Try.results106, go_sem]) rfl ⟨rfl, ?_⟩
  exact (Below.refl _ _).alloc (Nat.le_refl _) _
theorem modes1_c (q1 q2 r c1 c2 : Int) (b : Bool) (w : World) :
    Calls Try.prog 127 #[.agg #[.int .u64 q1, .int .u64 q2, .int .u64 (hiW r), .int .u64 (loW r), .int .u64 c1, .int .u64 c2, .bool b]] w fun e w' => e = .returned (.bool (b && decide (r ≠ 0))) ∧ Below w.heap.size w w' := by
  have hr : decide (r ≠ 0) = !(hiW r == 0 && (loW r == 0)) := by
    by_cases h : r = 0
    · subst h; decide
    · have : ¬ (hiW r = 0 ∧ loW r = 0) := by unfold hiW loW; omega
      rw [decide_eq_true h]; symm; simp; omega
  rw [hr]
  clear hr
  generalize hiW r = x
  generalize loW r = y
  cases b <;> go_enter Try.func127, Try.ntmps127 <;> go_wp2
  all_goals
    go_ret
    exact ⟨by simp_all, (Below.refl _ _).alloc (Nat.le_refl _) _⟩
theorem modes2_c (q1 q2 r c1 c2 : Int) (b : Bool) (w : World) :
    Calls Try.prog 128 #[.agg #[.int .u64 q1, .int .u64 q2, .int .u64 (hiW r), .int .u64 (loW r), .int .u64 c1, .int .u64 c2, .bool b]] w fun e w' => e = .returned (.bool (!b && decide (r ≠ 0))) ∧ Below w.heap.size w w' := by
  have hr : decide (r ≠ 0) = !(hiW r == 0 && (loW r == 0)) := by
    by_cases h : r = 0
    · subst h; decide
    · have : ¬ (hiW r = 0 ∧ loW r = 0) := by unfold hiW loW; omega
      rw [decide_eq_true h]; symm; simp; omega
  rw [hr]
  clear hr
  generalize hiW r = x
  generalize loW r = y
  cases b <;> go_enter Try.func128, Try.ntmps128 <;> go_wp2
  all_goals
    go_ret
    exact ⟨by simp_all, (Below.refl _ _).alloc (Nat.le_refl _) _⟩
theorem md_parts {a b c m q r : Int} {bel mo : Bool} (ha : a ≠ 0) (hb : b ≠ 0) (hc : c ≠ 0) (hq : absZ a * absZ b / absZ c = q) (hr : absZ a * absZ b % absZ c = r)
    (hbel : ((decide (a < 0) != decide (b < 0)) != decide (c < 0)) = bel) (hmo : ((if m = 0 then bel else !bel) && decide (r ≠ 0)) = mo) : (if bel then -(if mo then q + 1 else q) else if mo then q + 1 else q) = md (a * b) c m := by
  have hp : a * b ≠ 0 := Int.mul_ne_zero ha hb
  have hs : decide (a * b < 0) = (decide (a < 0) != decide (b < 0)) := by
    by_cases h1 : a < 0 <;> by_cases h2 : b < 0 <;> simp only [h1, h2, decide_true, decide_false]
    · have := Int.mul_pos_of_neg_of_neg h1 h2; simp; omega
    · have := Int.mul_neg_of_neg_of_pos h1 (show 0 < b by omega); simp; omega
    · have := Int.mul_neg_of_pos_of_neg (show 0 < a by omega) h2; simp; omega
    · have := Int.mul_pos (show 0 < a by omega) (show 0 < b by omega); simp; omega
  rw [← bySize_md hc hp]
  unfold bySize
  simp only [hs, absZ_mul, hq, hr, hbel]
  rw [← hmo]
  by_cases h0 : r = 0 <;> by_cases h1 : m = 0 <;> cases bel <;> simp [h0, h1]
theorem quot_small {a b c : Int} (ha : IsInt a) (hb : IsInt b) (hc : c ≠ 0) : 0 ≤ absZ a * absZ b / absZ c ∧ absZ a * absZ b / absZ c ≤ 85070591730234615865843651857942052864 := by
  have h1 := absZ_nonneg a
  have h2 := absZ_nonneg b
  have h3 : 0 < absZ c := by unfold absZ; split <;> omega
  have h4 : absZ a ≤ 9223372036854775808 := by unfold IsInt at ha; unfold absZ; split <;> omega
  have h5 : absZ b ≤ 9223372036854775808 := by unfold IsInt at hb; unfold absZ; split <;> omega
  have h6 : absZ a * absZ b ≤ 9223372036854775808 * 9223372036854775808 := Int.mul_le_mul h4 h5 h2 (by omega)
  have h7 := Int.mul_nonneg h1 h2
  exact ⟨Int.ediv_nonneg h7 (by omega), Int.le_trans (Int.ediv_le_self _ h7) (by omega)⟩
end Go.Proofs.Ytkdfkpalgejkkaa
/-
  fix.MulDiv.
-/
set_option linter.unusedSimpArgs false
namespace Go.Proofs.Ytkdfkpalgejkkaa
open Go.RowKit Go.Shelf

/-- fix.left as cells. -/
abbrev leftO (qh ql rh rl c : Int) (b : Bool) : Obj := .cells #[.int .u64 qh, .int .u64 ql, .int .u64 rh, .int .u64 rl, .int .u64 0, .int .u64 c, .bool b] 128

/-- The first four cells of a block may be written. A word that the walk does not open. -/
def Roomy (w : World) (g : Nat) : Prop := ∀ o, o < 4 → (w.cell? ⟨g, o, none⟩).isSome = true ∧ w.frozen? ⟨g, o, none⟩ = false
theorem isSome_set (w : World) (a p : Addr) (v : Value) : ((w.setCell a v).cell? p).isSome = (w.cell? p).isSome := by
  by_cases h : a = p
  · subst h
    cases hc : w.cell? a with
    | some u => rw [World.cell?_setCell_same' w a v (by rw [hc]; rfl)]; rfl
    | none =>
      unfold World.cell? at hc ⊢
      unfold World.setCell
      simp only [Array.getElem?_modify, if_true]
      cases hb : w.heap[a.block]? with
      | none => rfl
      | some o =>
        cases o <;> simp_all
  · rw [World.cell?_setCell_other w a p v h]
theorem stored_roomy (P : Program) (w : World) (g o : Nat) (v : Value) (m : Mode) (h : Roomy w g) (ho : o < 4) : stored P w ⟨g, o, none⟩ v m = .ok () (w.setCell ⟨g, o, none⟩ v) := by
  obtain ⟨h1, hf⟩ := h o ho
  obtain ⟨u, hu⟩ := Option.isSome_iff_exists.1 h1
  unfold stored
  rw [hu]
  simp [hf]
theorem roomy_set (w : World) (g o : Nat) (v : Value) (h : Roomy w g) : Roomy (w.setCell ⟨g, o, none⟩ v) g := fun k hk => by
  obtain ⟨h1, hf⟩ := h k hk
  refine ⟨by rw [isSome_set]; exact h1, ?_⟩
  simpa [go_sem] using hf
theorem roomy_call {w w' : World} {g : Nat} (hb : Below w.heap.size w w') (h : Roomy w g) : Roomy w' g := fun k hk => by
  obtain ⟨h1, hf⟩ := h k hk
  obtain ⟨u, hu⟩ := Option.isSome_iff_exists.1 h1
  exact ⟨by rw [keep_cell hb hu]; rfl, keep_frozen hb (World.block_lt_of_cell? w _ hu) hf⟩
theorem roomy_drew {w : World} {g : Nat} (h : Roomy w g) : Roomy w.drew g := h
theorem stored_roomy0 (P : Program) (w : World) (g : Nat) (v : Value) (m : Mode) (h : Roomy w g) : stored P w ⟨g, 0, none⟩ v m = .ok () (w.setCell ⟨g, 0, none⟩ v) := stored_roomy P w g 0 v m h (by omega)
theorem roomy_set0 (w : World) (g : Nat) (v : Value) (h : Roomy w g) : Roomy (w.setCell ⟨g, 0, none⟩ v) g := roomy_set w g 0 v h
theorem stored_roomy1 (P : Program) (w : World) (g : Nat) (v : Value) (m : Mode) (h : Roomy w g) : stored P w ⟨g, 1, none⟩ v m = .ok () (w.setCell ⟨g, 1, none⟩ v) := stored_roomy P w g 1 v m h (by omega)
theorem roomy_set1 (w : World) (g : Nat) (v : Value) (h : Roomy w g) : Roomy (w.setCell ⟨g, 1, none⟩ v) g := roomy_set w g 1 v h
theorem stored_roomy2 (P : Program) (w : World) (g : Nat) (v : Value) (m : Mode) (h : Roomy w g) : stored P w ⟨g, 2, none⟩ v m = .ok () (w.setCell ⟨g, 2, none⟩ v) := stored_roomy P w g 2 v m h (by omega)
theorem roomy_set2 (w : World) (g : Nat) (v : Value) (h : Roomy w g) : Roomy (w.setCell ⟨g, 2, none⟩ v) g := roomy_set w g 2 v h
theorem stored_roomy3 (P : Program) (w : World) (g : Nat) (v : Value) (m : Mode) (h : Roomy w g) : stored P w ⟨g, 3, none⟩ v m = .ok () (w.setCell ⟨g, 3, none⟩ v) := stored_roomy P w g 3 v m h (by omega)
theorem roomy_set3 (w : World) (g : Nat) (v : Value) (h : Roomy w g) : Roomy (w.setCell ⟨g, 3, none⟩ v) g := roomy_set w g 3 v h
theorem stored_new (P : Program) (w : World) (cs : Array Value) (t : TypeId) (o : Nat) (v : Value) (m : Mode) (ho : o < cs.size) : stored P (w.alloc (.cells cs t)).drew ⟨w.heap.size, o, none⟩ v m = .ok () ((w.alloc (.cells cs t)).drew.setCell ⟨w.heap.size, o, none⟩ v) := by
  unfold stored
  have h1 : (w.alloc (.cells cs t)).drew.cell? ⟨w.heap.size, o, none⟩ = some cs[o] := by simp [go_sem, ho]
  have h2 : (w.alloc (.cells cs t)).drew.frozen? ⟨w.heap.size, o, none⟩ = false := by simp [go_sem]
  rw [h1]
  simp [h2]
theorem stored_new0 (P : Program) (w : World) (x0 x1 x2 x3 x4 x5 x6 v : Value) (t : TypeId) (m : Mode) : stored P (w.alloc (.cells #[x0, x1, x2, x3, x4, x5, x6] t)).drew ⟨w.heap.size, 0, none⟩ v m = .ok () ((w.alloc (.cells #[x0, x1, x2, x3, x4, x5, x6] t)).drew.setCell ⟨w.heap.size, 0, none⟩ v) := stored_new _ _ _ _ _ _ _ (by simp)
theorem stored_new1 (P : Program) (w : World) (x0 x1 x2 x3 x4 x5 x6 v : Value) (t : TypeId) (m : Mode) : stored P (w.alloc (.cells #[x0, x1, x2, x3, x4, x5, x6] t)).drew ⟨w.heap.size, 1, none⟩ v m = .ok () ((w.alloc (.cells #[x0, x1, x2, x3, x4, x5, x6] t)).drew.setCell ⟨w.heap.size, 1, none⟩ v) := stored_new _ _ _ _ _ _ _ (by simp)
theorem stored_new2 (P : Program) (w : World) (x0 x1 x2 x3 x4 x5 x6 v : Value) (t : TypeId) (m : Mode) : stored P (w.alloc (.cells #[x0, x1, x2, x3, x4, x5, x6] t)).drew ⟨w.heap.size, 2, none⟩ v m = .ok () ((w.alloc (.cells #[x0, x1, x2, x3, x4, x5, x6] t)).drew.setCell ⟨w.heap.size, 2, none⟩ v) := stored_new _ _ _ _ _ _ _ (by simp)
theorem stored_new3 (P : Program) (w : World) (x0 x1 x2 x3 x4 x5 x6 v : Value) (t : TypeId) (m : Mode) : stored P (w.alloc (.cells #[x0, x1, x2, x3, x4, x5, x6] t)).drew ⟨w.heap.size, 3, none⟩ v m = .ok () ((w.alloc (.cells #[x0, x1, x2, x3, x4, x5, x6] t)).drew.setCell ⟨w.heap.size, 3, none⟩ v) := stored_new _ _ _ _ _ _ _ (by simp)
theorem stored_new4 (P : Program) (w : World) (x0 x1 x2 x3 x4 x5 x6 v : Value) (t : TypeId) (m : Mode) : stored P (w.alloc (.cells #[x0, x1, x2, x3, x4, x5, x6] t)).drew ⟨w.heap.size, 4, none⟩ v m = .ok () ((w.alloc (.cells #[x0, x1, x2, x3, x4, x5, x6] t)).drew.setCell ⟨w.heap.size, 4, none⟩ v) := stored_new _ _ _ _ _ _ _ (by simp)
theorem stored_new5 (P : Program) (w : World) (x0 x1 x2 x3 x4 x5 x6 v : Value) (t : TypeId) (m : Mode) : stored P (w.alloc (.cells #[x0, x1, x2, x3, x4, x5, x6] t)).drew ⟨w.heap.size, 5, none⟩ v m = .ok () ((w.alloc (.cells #[x0, x1, x2, x3, x4, x5, x6] t)).drew.setCell ⟨w.heap.size, 5, none⟩ v) := stored_new _ _ _ _ _ _ _ (by simp)
theorem stored_new6 (P : Program) (w : World) (x0 x1 x2 x3 x4 x5 x6 v : Value) (t : TypeId) (m : Mode) : stored P (w.alloc (.cells #[x0, x1, x2, x3, x4, x5, x6] t)).drew ⟨w.heap.size, 6, none⟩ v m = .ok () ((w.alloc (.cells #[x0, x1, x2, x3, x4, x5, x6] t)).drew.setCell ⟨w.heap.size, 6, none⟩ v) := stored_new _ _ _ _ _ _ _ (by simp)
attribute [local go_sem high] stored_roomy0 stored_roomy1 stored_roomy2 stored_roomy3 roomy_set0 roomy_set1 roomy_set2 roomy_set3 stored_new0 stored_new1 stored_new2 stored_new3 stored_new4 stored_new5 stored_new6
attribute [-go_sem] stored
theorem four_cells {W : World} {g : Nat} {x0 x1 x2 x3 : Value} (kr : Roomy ((((W.setCell ⟨g, 0, none⟩ x0).setCell ⟨g, 1, none⟩ x1).setCell ⟨g, 2, none⟩ x2).setCell ⟨g, 3, none⟩ x3) g) :
    ((((W.setCell ⟨g, 0, none⟩ x0).setCell ⟨g, 1, none⟩ x1).setCell ⟨g, 2, none⟩ x2).setCell ⟨g, 3, none⟩ x3).cell? ⟨g, 0, none⟩ = some x0 ∧
    ((((W.setCell ⟨g, 0, none⟩ x0).setCell ⟨g, 1, none⟩ x1).setCell ⟨g, 2, none⟩ x2).setCell ⟨g, 3, none⟩ x3).cell? ⟨g, 1, none⟩ = some x1 ∧
    ((((W.setCell ⟨g, 0, none⟩ x0).setCell ⟨g, 1, none⟩ x1).setCell ⟨g, 2, none⟩ x2).setCell ⟨g, 3, none⟩ x3).cell? ⟨g, 2, none⟩ = some x2 ∧
    ((((W.setCell ⟨g, 0, none⟩ x0).setCell ⟨g, 1, none⟩ x1).setCell ⟨g, 2, none⟩ x2).setCell ⟨g, 3, none⟩ x3).cell? ⟨g, 3, none⟩ = some x3 := by
  have i0 := (kr 0 (by omega)).1
  have i1 := (kr 1 (by omega)).1
  have i2 := (kr 2 (by omega)).1
  have i3 := (kr 3 (by omega)).1
  simp only [isSome_set] at i0 i1 i2 i3
  refine ⟨?_, ?_, ?_, ?_⟩
  · rw [World.cell?_setCell_other _ _ _ _ (by simp), World.cell?_setCell_other _ _ _ _ (by simp), World.cell?_setCell_other _ _ _ _ (by simp), World.cell?_setCell_same' _ _ _ i0]
  · rw [World.cell?_setCell_other _ _ _ _ (by simp), World.cell?_setCell_other _ _ _ _ (by simp), World.cell?_setCell_same' _ _ _ (by rw [isSome_set]; exact i1)]
  · rw [World.cell?_setCell_other _ _ _ _ (by simp), World.cell?_setCell_same' _ _ _ (by simp only [isSome_set]; exact i2)]
  · rw [World.cell?_setCell_same' _ _ _ (by simp only [isSome_set]; exact i3)]
/-- divide.Div, as the loads give its arguments. -/
theorem div_small (a c : Int) (ha : Wide a) (hc : Word c) (h0 : c ≠ 0) (w : World) :
    Calls Try.prog 110 #[wv a, .agg #[.int .u64 0, .int .u64 c]] w fun e w' => e = .returned (.tuple #[wv (a / c), wv (a % c), .int .i64 0]) ∧ Below w.heap.size w w' := by
  have h := divide_Div_c a c ha hc.wide (by have := hc.1; omega) w
  rwa [show wv c = .agg #[.int .u64 0, .int .u64 c] by unfold wv; rw [hiW_small hc, loW_small hc]] at h
theorem below_then2 {g : Nat} {w W w' : World} (hb : Below W.heap.size W w') (h : Roomy W g) (k : Below g w W) : Below g w w' := by
  obtain ⟨u, hu⟩ := Option.isSome_iff_exists.1 (h 0 (by omega)).1
  exact below_then_ k (Nat.le_of_lt (World.block_lt_of_cell? W _ hu)) hb
theorem cell_set2 {g : Nat} {W : World} {p : Addr} {u : Value} (h : W.cell? p = some u) (o o' : Nat) (v v' : Value) (n1 : Addr.mk g o none ≠ p) (n2 : Addr.mk g o' none ≠ p) : ((W.setCell ⟨g, o, none⟩ v).setCell ⟨g, o', none⟩ v').cell? p = some u := by
  rw [World.cell?_setCell_other _ _ _ _ n2, World.cell?_setCell_other _ _ _ _ n1]; exact h
theorem below_set2 {g : Nat} {w W : World} (h : Below g w W) (o o' : Nat) (v v' : Value) : Below g w ((W.setCell ⟨g, o, none⟩ v).setCell ⟨g, o', none⟩ v') := (h.setCell (Nat.le_refl _) _).setCell (Nat.le_refl _) _
theorem alloc_drew_block (w : World) (o : Obj) : (w.alloc o).drew.heap[w.heap.size]? = some o := by
  show (w.heap.push o)[w.heap.size]? = some o
  simp
theorem signed_of {W : World} {bel : Bool} {q R : Int} (h0 : 0 ≤ q) (h1 : q < 340282366920938463463374607431768211456) (hR : (if bel = true then -q else q) = R) :
    Calls Try.prog 111 #[wv q, .bool bel] W fun e w' => e = (if IsInt R then .returned (.int .i64 R) else .panicked overChain) ∧ Below W.heap.size W w' := by
  obtain ⟨g1, g2⟩ := below_of h0 hR
  by_cases hi : IsInt R
  · obtain ⟨p1, p2, p3⟩ := g1 hi
    rw [if_pos hi]
    have := signed_ok (hiW q) (loW q) bel (word_loW q) p1 p2 W
    rwa [p3] at this
  · rw [if_neg hi]
    exact signed_bad (hiW q) (loW q) bel (word_loW q) (word_hiW ⟨h0, h1⟩) (g2 hi) W
set_option maxHeartbeats 4000000 in
set_option maxRecDepth 100000 in
theorem md1_c (gc ga gb gall gm : Nat) (a b c m : Int) (ha : IsInt a) (hb : IsInt b) (hc : IsInt c) (hc0 : c ≠ 0) (hm01 : m = 0 ∨ m = 1) (w : World)
    (ca : w.cell? ⟨ga, 0, none⟩ = some (.int .i64 a)) (cb : w.cell? ⟨gb, 0, none⟩ = some (.int .i64 b)) (cc : w.cell? ⟨gc, 0, none⟩ = some (.int .i64 c)) (cm : w.cell? ⟨gm, 0, none⟩ = some (.int .i64 m))
    (cf0 : w.cell? ⟨gall, 0, none⟩ = some (.func (.func 127) #[] #[])) (cf1 : w.cell? ⟨gall, 1, none⟩ = some (.func (.func 128) #[] #[])) :
    Calls Try.prog 108 #[.pointer (some ⟨gc, 0, none⟩), .pointer (some ⟨ga, 0, none⟩), .pointer (some ⟨gb, 0, none⟩), .pointer (some ⟨gall, 0, none⟩), .pointer (some ⟨gm, 0, none⟩)] w fun e w' => e = (if IsInt (md (a * b) c m) then .returned (.int .i64 (md (a * b) c m)) else .panicked overChain) ∧ Below w.heap.size w w' := by
  generalize hR : md (a * b) c m = R
  have HR := Lib.hid hR
  clear hR
  have CA := Lib.hid ca
  have CB := Lib.hid cb
  have CM := Lib.hid cm
  have CF0 := Lib.hid cf0
  have CF1 := Lib.hid cf1
  have HC0 := Lib.hid hc0
  clear cf0 cf1
  have wa := absZ_word ha
  have wb := absZ_word hb
  have wC := absZ_word hc
  have wc0 : absZ c ≠ 0 := by unfold absZ; split <;> omega
  have hm := word_mul wa wb
  obtain ⟨t1, h1⟩ : ∃ t, decide (a < 0) = t := ⟨_, rfl⟩
  obtain ⟨t2, h2⟩ : ∃ t, decide (b < 0) = t := ⟨_, rfl⟩
  obtain ⟨t3, h3⟩ : ∃ t, decide (c < 0) = t := ⟨_, rfl⟩
  go_enter Try.func108, Try.ntmps108
  go_upto_region 1 with fail
  go_cut [6] (fun s6 wx => s6 = .pointer (some ⟨w.heap.size, 0, none⟩) ∧ wx.heap[w.heap.size]? = some (leftO 0 0 0 0 (absZ c) ((t1 != t2) != t3)) ∧ Below w.heap.size w wx)
  case first =>
    go_region_held3 (fun w' => w'.cell? ⟨ga, 0, none⟩ = some (.int .i64 a) ∧ w'.cell? ⟨gb, 0, none⟩ = some (.int .i64 b) ∧ w'.cell? ⟨gc, 0, none⟩ = some (.int .i64 c) ∧ Below w.heap.size w w')
      ((first | (go_split_ands; refine ⟨?_, ?_, ?_, ?_⟩ <;> assumption) | (go_split_ands; refine ⟨?_, ?_, ?_, ?_⟩ <;> first | exact keep_cell hbw (by assumption) | exact below_then_ (by assumption) (Below.size (by assumption)) hbw | exact alloc_cell (by assumption) _ | exact Below.alloc (by assumption) (Below.size (by assumption)) _ | exact ((Below.refl _ _).alloc (Nat.le_refl _) _).drew | exact Below.drew (Below.alloc (by assumption) (Below.size (by assumption)) _)) | (refine ⟨?_, ?_, ?_, ?_⟩ <;> first | exact Below.drew (Below.refl _ _) | (simp [go_sem, *]; done))))
      (first | (go_at_call 109; ((with_reducible refine (fix_size_c c hc _).mono ?_); rintro e w' ⟨rfl, rfl⟩)))
    all_goals
      go_step
      rename_i J K' hJ hK hHeld
      obtain ⟨-, -, -, hS⟩ := hHeld
      refine hK _ _ (Met.intro ?_)
      refine hJ _ _ ?_
      (repeat apply Exists.intro)
      refine ⟨?_, rfl⟩
      exact ⟨rfl, alloc_drew_block _ _, hS⟩
  case rest =>
    obtain ⟨rfl, hg, hB⟩ := hcut
    have ka : wc.cell? ⟨ga, 0, none⟩ = some (.int .i64 a) := keep_cell hB ca
    have kb : wc.cell? ⟨gb, 0, none⟩ = some (.int .i64 b) := keep_cell hB cb
    have km : wc.cell? ⟨gm, 0, none⟩ = some (.int .i64 m) := keep_cell hB cm
    have na : ga ≠ w.heap.size := Nat.ne_of_lt (World.block_lt_of_cell? w _ ca)
    have nb : gb ≠ w.heap.size := Nat.ne_of_lt (World.block_lt_of_cell? w _ cb)
    have nm : gm ≠ w.heap.size := Nat.ne_of_lt (World.block_lt_of_cell? w _ cm)
    clear ca cb cc cm
    have l0 : wc.cell? ⟨w.heap.size, 0, none⟩ = some (.int .u64 0) := by simp [World.cell?, hg]
    have l1 : wc.cell? ⟨w.heap.size, 1, none⟩ = some (.int .u64 0) := by simp [World.cell?, hg]
    have l2 : wc.cell? ⟨w.heap.size, 2, none⟩ = some (.int .u64 0) := by simp [World.cell?, hg]
    have l3 : wc.cell? ⟨w.heap.size, 3, none⟩ = some (.int .u64 0) := by simp [World.cell?, hg]
    have l4 : wc.cell? ⟨w.heap.size, 4, none⟩ = some (.int .u64 0) := by simp [World.cell?, hg]
    have l5 : wc.cell? ⟨w.heap.size, 5, none⟩ = some (.int .u64 (absZ c)) := by simp [World.cell?, hg]
    have l6 : wc.cell? ⟨w.heap.size, 6, none⟩ = some (.bool ((t1 != t2) != t3)) := by simp [World.cell?, hg]
    have z0 : wc.frozen? ⟨w.heap.size, 0, none⟩ = false := by simp [World.frozen?, hg]
    have z1 : wc.frozen? ⟨w.heap.size, 1, none⟩ = false := by simp [World.frozen?, hg]
    have z2 : wc.frozen? ⟨w.heap.size, 2, none⟩ = false := by simp [World.frozen?, hg]
    have z3 : wc.frozen? ⟨w.heap.size, 3, none⟩ = false := by simp [World.frozen?, hg]
    have hrm : Roomy wc w.heap.size := fun o ho => by
      have : o = 0 ∨ o = 1 ∨ o = 2 ∨ o = 3 := by omega
      rcases this with rfl | rfl | rfl | rfl
      · exact ⟨by rw [l0]; rfl, z0⟩
      · exact ⟨by rw [l1]; rfl, z1⟩
      · exact ⟨by rw [l2]; rfl, z2⟩
      · exact ⟨by rw [l3]; rfl, z3⟩
    clear l0 l1 l2 l3 z0 z1 z2 z3
    have na' := na.symm
    have nb' := nb.symm
    have HD : Hid (∀ W, Calls Try.prog 110 #[wv (absZ a * absZ b), .agg #[.int .u64 0, .int .u64 (absZ c)]] W fun e w' => e = .returned (.tuple #[wv (absZ a * absZ b / absZ c), wv (absZ a * absZ b % absZ c), .int .i64 0]) ∧ Below W.heap.size W w') := Lib.hid (fun W => div_small _ _ hm wC wc0 W)
    have HM : Hid (∀ W, Calls Try.prog 49 #[.int .u64 (absZ a), .int .u64 (absZ b)] W fun e w' => e = .returned (wv (absZ a * absZ b)) ∧ Below W.heap.size W w') := Lib.hid (fun W => wide_Mul_c _ _ wa wb W)
    have hqs := quot_small ha hb hc0
    generalize hq : absZ a * absZ b / absZ c = q at *
    generalize hr : absZ a * absZ b % absZ c = r at *
    have HQ := Lib.hid hq
    have HRR := Lib.hid hr
    clear hq hr
    generalize hgg : w.heap.size = g at *
    have HG := Lib.hid hgg
    clear hgg
    clear hg wc0 hm wa wb wC
    go_upto_region 2 with fail
    go_cut [6] (fun s6 wx => s6 = .pointer (some ⟨g, 0, none⟩) ∧ wx.cell? ⟨g, 0, none⟩ = some (.int .u64 (hiW q)) ∧ wx.cell? ⟨g, 1, none⟩ = some (.int .u64 (loW q)) ∧ wx.cell? ⟨g, 2, none⟩ = some (.int .u64 (hiW r)) ∧ wx.cell? ⟨g, 3, none⟩ = some (.int .u64 (loW r)) ∧ wx.cell? ⟨g, 4, none⟩ = some (.int .u64 0) ∧ wx.cell? ⟨g, 5, none⟩ = some (.int .u64 (absZ c)) ∧ wx.cell? ⟨g, 6, none⟩ = some (.bool ((t1 != t2) != t3)) ∧ Below g w wx ∧ Roomy wx g)
    case first =>
      go_region_held3 (fun w' => w'.cell? ⟨ga, 0, none⟩ = some (.int .i64 a) ∧ w'.cell? ⟨gb, 0, none⟩ = some (.int .i64 b) ∧ w'.cell? ⟨g, 4, none⟩ = some (.int .u64 0) ∧ w'.cell? ⟨g, 5, none⟩ = some (.int .u64 (absZ c)) ∧ w'.cell? ⟨g, 6, none⟩ = some (.bool ((t1 != t2) != t3)) ∧ Roomy w' g ∧ Below g w w')
        ((first | (go_split_ands; refine ⟨?_, ?_, ?_, ?_, ?_, ?_, ?_⟩ <;> with_reducible assumption) | (go_split_ands; refine ⟨?_, ?_, ?_, ?_, ?_, ?_, ?_⟩ <;> first | with_reducible assumption | with_reducible exact keep_cell hbw (by assumption) | with_reducible exact roomy_call hbw (by assumption) | with_reducible exact below_then2 hbw (by assumption) (by assumption) | with_reducible exact below_set2 (by assumption) _ _ _ _ | with_reducible exact roomy_set _ _ _ _ (roomy_set _ _ _ _ (by assumption)) | with_reducible exact cell_set2 (by assumption) _ _ _ _ (by simp [*]) (by simp [*]) | with_reducible exact Below.drew (by assumption) | with_reducible exact roomy_drew (by assumption) | (simp [go_sem, *]; done))))
        (first | (go_at_call 109; ((with_reducible refine (fix_size_c a ha _).mono ?_); rintro e w' ⟨rfl, rfl⟩)) | (go_at_call 109; ((with_reducible refine (fix_size_c b hb _).mono ?_); rintro e w' ⟨rfl, rfl⟩)) | (go_at_call 49; ((with_reducible refine (HM.out _).mono ?_); rintro e w' ⟨rfl, hbw⟩)) | (go_at_call 110; ((with_reducible refine (HD.out _).mono ?_); rintro e w' ⟨rfl, hbw⟩)))
      all_goals
        go_step
        rename_i hHeld
        rename ∀ (a' : Act) (w' : World), Met _ a' w' → _ => hK
        rename ∀ (a' : Act) (w' : World), (∃ _, _) → _ => hJ
        obtain ⟨-, -, k4, k5, k6, kr, kB⟩ := hHeld
        obtain ⟨k0, k1, k2, k3⟩ := four_cells kr
        refine hK _ _ (Met.intro ?_)
        refine hJ _ _ ?_
        (repeat apply Exists.intro)
        refine ⟨?_, rfl⟩
        exact ⟨rfl, k0, k1, k2, k3, k4, k5, k6, kB, kr⟩
    case rest =>
      obtain ⟨rfl, k0, k1, k2, k3, k4, k5, k6, kB, kr⟩ := hcut
      have kB' : Below w.heap.size w wc := by rw [HG.out]; exact kB
      clear ka kb km na nb nm na' nb' HD HM hrm hB
      have ka : wc.cell? ⟨ga, 0, none⟩ = some (.int .i64 a) := keep_cell kB' CA.out
      have kb : wc.cell? ⟨gb, 0, none⟩ = some (.int .i64 b) := keep_cell kB' CB.out
      have km : wc.cell? ⟨gm, 0, none⟩ = some (.int .i64 m) := keep_cell kB' CM.out
      have kf0 : wc.cell? ⟨gall, 0, none⟩ = some (.func (.func 127) #[] #[]) := keep_cell kB' CF0.out
      have kf1 : wc.cell? ⟨gall, 1, none⟩ = some (.func (.func 128) #[] #[]) := keep_cell kB' CF1.out
      by_cases ha0 : a = 0
      · subst ha0
        have hz : R = 0 := by
          rw [← HR.out, Int.zero_mul]
          unfold md cl fl
          split <;> (split <;> simp)
        subst hz
        go_wp2
        go_ret
        exact ⟨rfl, kB'⟩
      · by_cases hb0 : b = 0
        · subst hb0
          have hz : R = 0 := by
            rw [← HR.out, Int.mul_zero]
            unfold md cl fl
            split <;> (split <;> simp)
          subst hz
          go_wp2
          go_ret
          exact ⟨rfl, kB'⟩
        · have ea : (a == 0) = false := beq_eq_false_iff_ne.2 ha0
          have eb : (b == 0) = false := beq_eq_false_iff_ne.2 hb0
          have eg1 := enters_of Try.func127 (by kernel_rfl) rfl
          have eg2 := enters_of Try.func128 (by kernel_rfl) rfl
          obtain ⟨bel, hbel⟩ : ∃ bel, ((t1 != t2) != t3) = bel := ⟨_, rfl⟩
          rw [hbel] at k6
          rw [← h1, ← h2, ← h3] at hbel
          clear h1 h2 h3
          rcases hm01 with rfl | rfl
          · go_upto_region 5 with fail
            refine wp_region_plan (fun _ _ => Knows g w [(⟨gm, 0, none⟩, .int .i64 0), (⟨gall, 0, none⟩, .func (.func 127) #[] #[]), (⟨g, 0, none⟩, .int .u64 (hiW q)), (⟨g, 1, none⟩, .int .u64 (loW q)), (⟨g, 2, none⟩, .int .u64 (hiW r)), (⟨g, 3, none⟩, .int .u64 (loW r)), (⟨g, 4, none⟩, .int .u64 0), (⟨g, 5, none⟩, .int .u64 (absZ c)), (⟨g, 6, none⟩, .bool bel)] [⟨g, 0, none⟩, ⟨g, 1, none⟩]) 5 (by kernel_rfl) (by kernel_rfl) rfl ?_ ?_
            · have hgl := World.block_lt_of_cell? wc _ k0
              exact Knows.drew ⟨kB, Nat.le_of_lt hgl, ⟨km, kf0, k0, k1, k2, k3, k4, k5, k6, trivial⟩, ⟨hgl, (kr 0 (by omega)).2⟩, ⟨hgl, (kr 1 (by omega)).2⟩, trivial⟩
            simp only [List.zipIdx_cons, List.zipIdx_nil, List.map_cons, List.map_nil, Nat.zero_add, Nat.reduceAdd]
            apply inOrder_op rfl rfl
            · intro L g' W _ _ _ hW
              obtain ⟨-, -, ⟨q1, q2, q3, q4, q5, q6, q7, q8, q9, -⟩, -⟩ := id hW
              apply comes_value (hv := rfl) (hD := hW)
              go_simp
              rfl
            simp only [Act.put, List.setIfInBounds_toArray, List.set_cons_zero, List.set_cons_succ]
            apply inOrder_op rfl rfl
            · intro L g' W _ _ _ hW
              obtain ⟨-, -, ⟨q1, q2, q3, q4, q5, q6, q7, q8, q9, -⟩, -⟩ := id hW
              apply comes_value (hv := rfl) (hD := hW)
              go_simp
              rfl
            simp only [Act.put, List.setIfInBounds_toArray, List.set_cons_zero, List.set_cons_succ]
            apply inOrder_op rfl rfl
            · intro L g' W _ _ _ hW
              obtain ⟨-, -, ⟨q1, q2, q3, q4, q5, q6, q7, q8, q9, -⟩, -⟩ := id hW
              apply comes_value (hv := rfl) (hD := hW)
              go_simp
              rfl
            simp only [Act.put, List.setIfInBounds_toArray, List.set_cons_zero, List.set_cons_succ]
            apply inOrder_op rfl rfl
            · intro L g' W _ _ _ hW
              obtain ⟨-, -, ⟨q1, q2, q3, q4, q5, q6, q7, q8, q9, -⟩, -⟩ := id hW
              apply comes_value (hv := rfl) (hD := hW)
              go_simp
              rfl
            simp only [Act.put, List.setIfInBounds_toArray, List.set_cons_zero, List.set_cons_succ]
            apply inOrder_op rfl rfl
            · intro L g' W _ _ _ hW
              obtain ⟨-, -, ⟨q1, q2, q3, q4, q5, q6, q7, q8, q9, -⟩, -⟩ := id hW
              apply comes_call
              · go_simp
                first | rfl | exact ⟨rfl, rfl⟩ | exact ⟨⟨rfl, rfl⟩, rfl⟩
              · refine (modes1_c _ _ r _ _ bel W).mono ?_
                rintro e w' ⟨rfl, hb⟩
                exact ⟨rfl, Knows.call hW hb⟩
            simp only [Act.put, List.setIfInBounds_toArray, List.set_cons_zero, List.set_cons_succ]
            refine inOrder_nil ?_
            intro W hW
            obtain ⟨hWB, hWs, ⟨-, -, q1, q2, -, -, -, -, q3, -⟩, ⟨-, z1⟩, ⟨-, z2⟩, -⟩ := hW
            clear km kf0 kf1 k0 k1 k2 k3 k4 k5 k6 kB kB' kr ka kb eg1 eg2
            obtain ⟨mo, hmo⟩ : ∃ mo, (bel && decide (r ≠ 0)) = mo := ⟨_, rfl⟩
            rw [hmo]
            have hR := md_parts (m := 0) ha0 hb0 HC0.out HQ.out HRR.out hbel (by simpa using hmo)
            rw [HR.out] at hR
            clear hmo
            cases mo
            · have HS := signed_of (W := W) (bel := bel) (q := q) (R := R) hqs.1 (by omega) (by simpa using hR)
              have HS' := Lib.hid HS
              clear HS hR
              by_cases hi : IsInt R
              · rw [if_pos hi] at HS'
                go_wp2_with (first | (go_at_call 111; refine (HS'.out).mono ?_; rintro e w' ⟨rfl, hb⟩))
                go_ret
                exact ⟨rfl, HG.out ▸ hWB.trans (hb.mono hWs)⟩
              · rw [if_neg hi] at HS'
                go_wp2_with (first | (go_at_call 111; refine (HS'.out).mono ?_; rintro e w' ⟨rfl, hb⟩))
                exact ⟨rfl, rfl, HG.out ▸ hWB.trans (hb.mono hWs)⟩
            · have HS := fun W => signed_of (W := W) (bel := bel) (q := q + 1) (R := R) (by omega) (by omega) (by simpa using hR)
              have HA := fun W => wide_Add_c q 1 ⟨hqs.1, by omega⟩ (by decide) W
              rw [mod_wide (show Wide (q + 1) from ⟨by omega, by omega⟩)] at HA
              have HS' := Lib.hid HS
              have HA' := Lib.hid HA
              clear HS HA hR
              go_wp2_with fail
              refine (HA'.out _).mono ?_
              rintro e W1 ⟨rfl, hb1⟩
              have p1 := keep_cell hb1 q1
              have p2 := keep_cell hb1 q2
              have p3 := keep_cell hb1 q3
              have hgl := World.block_lt_of_cell? W _ q1
              have y1 := keep_frozen (p := ⟨g, 0, none⟩) hb1 hgl z1
              have y2 := keep_frozen (p := ⟨g, 1, none⟩) hb1 hgl z2
              have hWB1 : Below g w W1 := hWB.trans (hb1.mono hWs)
              have hWs1 := Nat.le_trans hWs hb1.size
              have st0 : ∀ v m, stored Try.prog W1 ⟨g, 0, none⟩ v m = .ok () (W1.setCell ⟨g, 0, none⟩ v) := fun v m => by unfold stored; rw [p1]; simp [y1]
              have st1 : ∀ u v m, stored Try.prog (W1.setCell ⟨g, 0, none⟩ u) ⟨g, 1, none⟩ v m = .ok () ((W1.setCell ⟨g, 0, none⟩ u).setCell ⟨g, 1, none⟩ v) := fun u v m => by unfold stored; rw [World.cell?_setCell_other _ _ _ _ (by simp), p2]; simp [y2]
              clear q1 q2 q3 z1 z2 hb1 hgl
              by_cases hi : IsInt R
              · simp only [if_pos hi] at HS'
                go_wp2_with (first | (go_at_call 111; refine (HS'.out _).mono ?_; rintro e w' ⟨rfl, hb⟩))
                go_ret
                exact ⟨rfl, HG.out ▸ ((hWB1.setCell (Nat.le_refl _) _).setCell (Nat.le_refl _) _).trans (hb.mono (by simpa using hWs1))⟩
              · simp only [if_neg hi] at HS'
                go_wp2_with (first | (go_at_call 111; refine (HS'.out _).mono ?_; rintro e w' ⟨rfl, hb⟩))
                exact ⟨rfl, rfl, HG.out ▸ ((hWB1.setCell (Nat.le_refl _) _).setCell (Nat.le_refl _) _).trans (hb.mono (by simpa using hWs1))⟩
          · go_upto_region 5 with fail
            refine wp_region_plan (fun _ _ => Knows g w [(⟨gm, 0, none⟩, .int .i64 1), (⟨gall, 1, none⟩, .func (.func 128) #[] #[]), (⟨g, 0, none⟩, .int .u64 (hiW q)), (⟨g, 1, none⟩, .int .u64 (loW q)), (⟨g, 2, none⟩, .int .u64 (hiW r)), (⟨g, 3, none⟩, .int .u64 (loW r)), (⟨g, 4, none⟩, .int .u64 0), (⟨g, 5, none⟩, .int .u64 (absZ c)), (⟨g, 6, none⟩, .bool bel)] [⟨g, 0, none⟩, ⟨g, 1, none⟩]) 5 (by kernel_rfl) (by kernel_rfl) rfl ?_ ?_
            · have hgl := World.block_lt_of_cell? wc _ k0
              exact Knows.drew ⟨kB, Nat.le_of_lt hgl, ⟨km, kf1, k0, k1, k2, k3, k4, k5, k6, trivial⟩, ⟨hgl, (kr 0 (by omega)).2⟩, ⟨hgl, (kr 1 (by omega)).2⟩, trivial⟩
            simp only [List.zipIdx_cons, List.zipIdx_nil, List.map_cons, List.map_nil, Nat.zero_add, Nat.reduceAdd]
            apply inOrder_op rfl rfl
            · intro L g' W _ _ _ hW
              obtain ⟨-, -, ⟨q1, q2, q3, q4, q5, q6, q7, q8, q9, -⟩, -⟩ := id hW
              apply comes_value (hv := rfl) (hD := hW)
              go_simp
              rfl
            simp only [Act.put, List.setIfInBounds_toArray, List.set_cons_zero, List.set_cons_succ]
            apply inOrder_op rfl rfl
            · intro L g' W _ _ _ hW
              obtain ⟨-, -, ⟨q1, q2, q3, q4, q5, q6, q7, q8, q9, -⟩, -⟩ := id hW
              apply comes_value (hv := rfl) (hD := hW)
              go_simp
              rfl
            simp only [Act.put, List.setIfInBounds_toArray, List.set_cons_zero, List.set_cons_succ]
            apply inOrder_op rfl rfl
            · intro L g' W _ _ _ hW
              obtain ⟨-, -, ⟨q1, q2, q3, q4, q5, q6, q7, q8, q9, -⟩, -⟩ := id hW
              apply comes_value (hv := rfl) (hD := hW)
              go_simp
              rfl
            simp only [Act.put, List.setIfInBounds_toArray, List.set_cons_zero, List.set_cons_succ]
            apply inOrder_op rfl rfl
            · intro L g' W _ _ _ hW
              obtain ⟨-, -, ⟨q1, q2, q3, q4, q5, q6, q7, q8, q9, -⟩, -⟩ := id hW
              apply comes_value (hv := rfl) (hD := hW)
              go_simp
              rfl
            simp only [Act.put, List.setIfInBounds_toArray, List.set_cons_zero, List.set_cons_succ]
            apply inOrder_op rfl rfl
            · intro L g' W _ _ _ hW
              obtain ⟨-, -, ⟨q1, q2, q3, q4, q5, q6, q7, q8, q9, -⟩, -⟩ := id hW
              apply comes_call
              · go_simp
                first | rfl | exact ⟨rfl, rfl⟩ | exact ⟨⟨rfl, rfl⟩, rfl⟩
              · refine (modes2_c _ _ r _ _ bel W).mono ?_
                rintro e w' ⟨rfl, hb⟩
                exact ⟨rfl, Knows.call hW hb⟩
            simp only [Act.put, List.setIfInBounds_toArray, List.set_cons_zero, List.set_cons_succ]
            refine inOrder_nil ?_
            intro W hW
            obtain ⟨hWB, hWs, ⟨-, -, q1, q2, -, -, -, -, q3, -⟩, ⟨-, z1⟩, ⟨-, z2⟩, -⟩ := hW
            clear km kf0 kf1 k0 k1 k2 k3 k4 k5 k6 kB kB' kr ka kb eg1 eg2
            obtain ⟨mo, hmo⟩ : ∃ mo, (!bel && decide (r ≠ 0)) = mo := ⟨_, rfl⟩
            rw [hmo]
            have hR := md_parts (m := 1) ha0 hb0 HC0.out HQ.out HRR.out hbel (by simpa using hmo)
            rw [HR.out] at hR
            clear hmo
            cases mo
            · have HS := signed_of (W := W) (bel := bel) (q := q) (R := R) hqs.1 (by omega) (by simpa using hR)
              have HS' := Lib.hid HS
              clear HS hR
              by_cases hi : IsInt R
              · rw [if_pos hi] at HS'
                go_wp2_with (first | (go_at_call 111; refine (HS'.out).mono ?_; rintro e w' ⟨rfl, hb⟩))
                go_ret
                exact ⟨rfl, HG.out ▸ hWB.trans (hb.mono hWs)⟩
              · rw [if_neg hi] at HS'
                go_wp2_with (first | (go_at_call 111; refine (HS'.out).mono ?_; rintro e w' ⟨rfl, hb⟩))
                exact ⟨rfl, rfl, HG.out ▸ hWB.trans (hb.mono hWs)⟩
            · have HS := fun W => signed_of (W := W) (bel := bel) (q := q + 1) (R := R) (by omega) (by omega) (by simpa using hR)
              have HA := fun W => wide_Add_c q 1 ⟨hqs.1, by omega⟩ (by decide) W
              rw [mod_wide (show Wide (q + 1) from ⟨by omega, by omega⟩)] at HA
              have HS' := Lib.hid HS
              have HA' := Lib.hid HA
              clear HS HA hR
              go_wp2_with fail
              refine (HA'.out _).mono ?_
              rintro e W1 ⟨rfl, hb1⟩
              have p1 := keep_cell hb1 q1
              have p2 := keep_cell hb1 q2
              have p3 := keep_cell hb1 q3
              have hgl := World.block_lt_of_cell? W _ q1
              have y1 := keep_frozen (p := ⟨g, 0, none⟩) hb1 hgl z1
              have y2 := keep_frozen (p := ⟨g, 1, none⟩) hb1 hgl z2
              have hWB1 : Below g w W1 := hWB.trans (hb1.mono hWs)
              have hWs1 := Nat.le_trans hWs hb1.size
              have st0 : ∀ v m, stored Try.prog W1 ⟨g, 0, none⟩ v m = .ok () (W1.setCell ⟨g, 0, none⟩ v) := fun v m => by unfold stored; rw [p1]; simp [y1]
              have st1 : ∀ u v m, stored Try.prog (W1.setCell ⟨g, 0, none⟩ u) ⟨g, 1, none⟩ v m = .ok () ((W1.setCell ⟨g, 0, none⟩ u).setCell ⟨g, 1, none⟩ v) := fun u v m => by unfold stored; rw [World.cell?_setCell_other _ _ _ _ (by simp), p2]; simp [y2]
              clear q1 q2 q3 z1 z2 hb1 hgl
              by_cases hi : IsInt R
              · simp only [if_pos hi] at HS'
                go_wp2_with (first | (go_at_call 111; refine (HS'.out _).mono ?_; rintro e w' ⟨rfl, hb⟩))
                go_ret
                exact ⟨rfl, HG.out ▸ ((hWB1.setCell (Nat.le_refl _) _).setCell (Nat.le_refl _) _).trans (hb.mono (by simpa using hWs1))⟩
              · simp only [if_neg hi] at HS'
                go_wp2_with (first | (go_at_call 111; refine (HS'.out _).mono ?_; rintro e w' ⟨rfl, hb⟩))
                exact ⟨rfl, rfl, HG.out ▸ ((hWB1.setCell (Nat.le_refl _) _).setCell (Nat.le_refl _) _).trans (hb.mono (by simpa using hWs1))⟩
end Go.Proofs.Ytkdfkpalgejkkaa
/-
  fix.MulDiv: a product, divided and rounded down or up; the contract for callers.
-/
set_option linter.unusedSimpArgs false
namespace Go.Proofs.Ytkdfkpalgejkkaa
open Go.RowKit Go.Shelf

theorem fix_MulDiv_c (a b c m : Int) (ha : IsInt a) (hb : IsInt b) (hc : IsInt c) (hc0 : c ≠ 0) (hm : m = 0 ∨ m = 1) (w : World) :
    Calls Try.prog 70 #[.int .i64 a, .int .i64 b, .int .i64 c, .int .i64 m] w fun e w' => e = .returned (.tuple #[.int .i64 (fit (md (a * b) c m)).1, .int .i64 (fit (md (a * b) c m)).2]) ∧ Below w.heap.size w w' := by
  have hmf : ∀ (fn : Fn) (first cap : Array Value) (w : World), (Instr.makeFunc fn first cap).run Try.prog w = .ok (.func fn first cap) w := fun _ _ _ _ => rfl
  have eg := enters_of Try.func108 (by kernel_rfl) rfl
  have HT : Hid (∀ (ga gb gc gall gm : Nat) (W : World), W.cell? ⟨ga, 0, none⟩ = some (.int .i64 a) → W.cell? ⟨gb, 0, none⟩ = some (.int .i64 b) → W.cell? ⟨gc, 0, none⟩ = some (.int .i64 c) → W.cell? ⟨gm, 0, none⟩ = some (.int .i64 m) →
      W.cell? ⟨gall, 0, none⟩ = some (.func (.func 127) #[] #[]) → W.cell? ⟨gall, 1, none⟩ = some (.func (.func 128) #[] #[]) →
      Calls Try.prog 107 #[.func (.func 108) #[] #[.pointer (some ⟨gc, 0, none⟩), .pointer (some ⟨ga, 0, none⟩), .pointer (some ⟨gb, 0, none⟩), .pointer (some ⟨gall, 0, none⟩), .pointer (some ⟨gm, 0, none⟩)]] W fun e w' =>
        e = .returned (.tuple #[.int .i64 (fit (md (a * b) c m)).1, .int .i64 (fit (md (a * b) c m)).2]) ∧ Below W.heap.size W w') := by
    refine Lib.hid fun ga gb gc gall gm W ca cb cc cm cf0 cf1 => ?_
    have key := fun W' (hW : Below W.heap.size W W') => md1_c gc ga gb gall gm a b c m ha hb hc hc0 hm W' (keep_cell hW ca) (keep_cell hW cb) (keep_cell hW cc) (keep_cell hW cm) (keep_cell hW cf0) (keep_cell hW cf1)
    by_cases hs : IsInt (md (a * b) c m)
    · rw [fit_ok hs]
      simp only [if_pos hs] at key
      exact try_ret _ _ _ _ eg key
    · rw [fit_bad hs]
      simp only [if_neg hs] at key
      exact try_panic _ _ _ eg key
  have HM := Lib.hid (fun W => modes_c W)
  clear eg
  have ec : (c == 0) = false := beq_eq_false_iff_ne.2 hc0
  have m1 : ¬ m < 0 := by omega
  have m2 : m < 3 := by omega
  have m3 : decide (m ≥ 3) = false := decide_eq_false (by omega)
  clear hm hc0
  go_enter Try.func70, Try.ntmps70
  go_wp2_with fail
  refine (HM.out _).mono ?_
  rintro e w1 ⟨rfl, hb1⟩
  have c0 : w1.cell? ⟨w.heap.size, 0, none⟩ = some (.int .i64 a) := keep_cell hb1 (by simp [go_sem])
  have c1 : w1.cell? ⟨w.heap.size + 1, 0, none⟩ = some (.int .i64 b) := keep_cell hb1 (by simp [go_sem])
  have c2 : w1.cell? ⟨w.heap.size + 1 + 1, 0, none⟩ = some (.int .i64 c) := keep_cell hb1 (by simp [go_sem])
  have c3 : w1.cell? ⟨w.heap.size + 1 + 1 + 1, 0, none⟩ = some (.int .i64 m) := keep_cell hb1 (by simp [go_sem])
  have hB1 : Below w.heap.size w w1 := below_then_ (((((Below.refl _ _).alloc (Nat.le_refl _) _).alloc (by simp) _).alloc (by simp; omega) _).alloc (by simp; omega) _) (by simp; omega) hb1
  have HB := Lib.hid hB1
  clear hB1 hb1
  have l0 : w.heap.size < w1.heap.size := World.block_lt_of_cell? w1 _ c0
  have l1 : w.heap.size + 1 < w1.heap.size := World.block_lt_of_cell? w1 _ c1
  have l2 : w.heap.size + 1 + 1 < w1.heap.size := World.block_lt_of_cell? w1 _ c2
  have l3 : w.heap.size + 1 + 1 + 1 < w1.heap.size := World.block_lt_of_cell? w1 _ c3
  go_wp2_with fail
  refine (HT.out _ _ _ _ _ _ (by simp [go_sem, *]) (by simp [go_sem, *]) (by simp [go_sem, *]) (by simp [go_sem, *]) (by simp [go_sem]) (by simp [go_sem])).mono ?_
  rintro e w2 ⟨rfl, hb2⟩
  clear HT HM c0 c1 c2 c3
  go_wp2
  go_ret2
  exact ⟨rfl, below_then_ (HB.out.alloc (Nat.le_of_lt l0) _) (by simp; omega) hb2⟩
end Go.Proofs.Ytkdfkpalgejkkaa
/-
  span.Right and limit.Verdict.
-/
set_option linter.unusedSimpArgs false
namespace Go.Proofs.Ytkdfkpalgejkkaa
open Go.RowKit Go.Shelf

theorem spanRight_c (a b : Int) (w : World) : Calls Try.prog 56 #[.agg #[.int .i64 a, .int .i64 b]] w fun e w' => e = .returned (.bool (decide (a ≤ b))) ∧ Below w.heap.size w w' := by
  go_enter Try.func56, Try.ntmps56
  go_wp2
  go_ret
  exact ⟨rfl, (Below.refl _ _).alloc (Nat.le_refl _) _⟩

/-- What lines tell of a value. -/
def told (l1 l2 h1 h2 v1 v2 : Int) : Int := if h2 < v1 ∨ v2 < l1 then 1 else if h1 < v2 ∨ v1 < l2 then 2 else 0

set_option maxHeartbeats 1000000 in
set_option maxRecDepth 100000 in
theorem verdict_ok (l1 l2 m1 m2 h1 h2 v1 v2 : Int) (r1 : l1 ≤ l2) (r2 : m1 ≤ m2) (r3 : h1 ≤ h2) (r4 : v1 ≤ v2) (w : World) :
    Calls Try.prog 30 #[.agg #[.int .i64 l1, .int .i64 l2, .int .i64 m1, .int .i64 m2, .int .i64 h1, .int .i64 h2, .int .i64 v1, .int .i64 v2]] w fun e w' => e = .returned (.tuple #[.int .i64 (told l1 l2 h1 h2 v1 v2), .int .i64 0]) ∧ Below w.heap.size w w' := by
  have d1 : decide (l1 ≤ l2) = true := decide_eq_true r1
  have d2 : decide (m1 ≤ m2) = true := decide_eq_true r2
  have d3 : decide (h1 ≤ h2) = true := decide_eq_true r3
  have d4 : decide (v1 ≤ v2) = true := decide_eq_true r4
  have H1 := Lib.hid (fun W => d1 ▸ spanRight_c l1 l2 W)
  have H2 := Lib.hid (fun W => d2 ▸ spanRight_c m1 m2 W)
  have H3 := Lib.hid (fun W => d3 ▸ spanRight_c h1 h2 W)
  have H4 := Lib.hid (fun W => d4 ▸ spanRight_c v1 v2 W)
  clear d1 d2 d3 d4 r1 r2 r3 r4
  have i0 : ∀ W, (Instr.index 98 (.agg #[.int .i64 l1, .int .i64 l2, .int .i64 m1, .int .i64 m2, .int .i64 h1, .int .i64 h2, .int .i64 v1, .int .i64 v2]) (.int .i64 0)).run Try.prog W = .ok (.agg #[.int .i64 l1, .int .i64 l2]) W := fun _ => by kernel_rfl
  have i1 : ∀ W, (Instr.index 98 (.agg #[.int .i64 l1, .int .i64 l2, .int .i64 m1, .int .i64 m2, .int .i64 h1, .int .i64 h2, .int .i64 v1, .int .i64 v2]) (.int .i64 1)).run Try.prog W = .ok (.agg #[.int .i64 m1, .int .i64 m2]) W := fun _ => by kernel_rfl
  have i2 : ∀ W, (Instr.index 98 (.agg #[.int .i64 l1, .int .i64 l2, .int .i64 m1, .int .i64 m2, .int .i64 h1, .int .i64 h2, .int .i64 v1, .int .i64 v2]) (.int .i64 2)).run Try.prog W = .ok (.agg #[.int .i64 h1, .int .i64 h2]) W := fun _ => by kernel_rfl
  have i3 : ∀ W, (Instr.index 98 (.agg #[.int .i64 l1, .int .i64 l2, .int .i64 m1, .int .i64 m2, .int .i64 h1, .int .i64 h2, .int .i64 v1, .int .i64 v2]) (.int .i64 3)).run Try.prog W = .ok (.agg #[.int .i64 v1, .int .i64 v2]) W := fun _ => by kernel_rfl
  go_enter Try.func30, Try.ntmps30
  go_wp2_with fail
  go_step3
  go_wp2_with (first | ((with_reducible refine wp_loop_rounds 5 ?_); rw [rounds_succ]) | rw [rounds_succ])
  refine (H1.out _).mono ?_
  rintro e w1 ⟨rfl, hb⟩
  have hK : Knows w.heap.size w [(⟨w.heap.size, 0, none⟩, .int .i64 l1), (⟨w.heap.size, 1, none⟩, .int .i64 l2), (⟨w.heap.size, 2, none⟩, .int .i64 m1), (⟨w.heap.size, 3, none⟩, .int .i64 m2), (⟨w.heap.size, 4, none⟩, .int .i64 h1), (⟨w.heap.size, 5, none⟩, .int .i64 h2), (⟨w.heap.size, 6, none⟩, .int .i64 v1), (⟨w.heap.size, 7, none⟩, .int .i64 v2)] [] w1 :=
    Knows.call (W := (w.alloc (.cells #[.int .i64 l1, .int .i64 l2, .int .i64 m1, .int .i64 m2, .int .i64 h1, .int .i64 h2, .int .i64 v1, .int .i64 v2] 39)).alloc (.cells #[.int .i64 l1, .int .i64 l2] 23)) ⟨((Below.refl _ _).alloc (Nat.le_refl _) _).alloc (by simp) _, by simp; omega, by simp [Cells, go_sem], trivial⟩ hb
  have HK := Lib.hid hK
  clear hK hb
  go_wp2_with (first | rw [rounds_succ])
  refine (H2.out _).mono ?_
  rintro e w2 ⟨rfl, hb⟩
  have HK2 := Lib.hid ((HK.out.alloc _).call hb)
  clear HK hb
  go_wp2_with (first | rw [rounds_succ])
  refine (H3.out _).mono ?_
  rintro e w3 ⟨rfl, hb⟩
  have HK := Lib.hid ((HK2.out.alloc _).call hb)
  clear HK2 hb
  go_wp2_with (first | rw [rounds_succ])
  refine (H4.out _).mono ?_
  rintro e w4 ⟨rfl, hb⟩
  have HK2 := Lib.hid ((HK.out.alloc _).call hb)
  clear HK hb
  obtain ⟨-, -, ⟨q1, q2, q3, q4, q5, q6, q7, q8, -⟩, -⟩ := HK2.out
  clear H1 H2 H3 H4 i0 i1 i2 i3
  go_wp2_with (first | rw [rounds_succ])
  have HB := Lib.hid HK2.out.1
  clear HK2
  go_step3
  go_wp2_with (first | ((with_reducible refine wp_loop_rounds 5 ?_); rw [rounds_succ]) | rw [rounds_succ])
  all_goals
    rw [Exit.noGoto_ret]
    go_ret2
    exact ⟨by unfold told; (split <;> (try split) <;> first | rfl | (exfalso; omega)), HB.out⟩
def limit_Verdict.f (l1 l2 m1 m2 h1 h2 v1 v2 : Int) : Option (Int × Int) := if l1 ≤ l2 ∧ m1 ≤ m2 ∧ h1 ≤ h2 ∧ v1 ≤ v2 then some (told l1 l2 h1 h2 v1 v2, 0) else none
theorem limit_Verdict.calls (l1 l2 m1 m2 h1 h2 v1 v2 r1 r2 : Int) (w : World) (h : limit_Verdict.f l1 l2 m1 m2 h1 h2 v1 v2 = some (r1, r2)) :
    Calls Try.prog 30 #[.agg #[.int .i64 l1, .int .i64 l2, .int .i64 m1, .int .i64 m2, .int .i64 h1, .int .i64 h2, .int .i64 v1, .int .i64 v2]] w fun e w' => e = .returned (.tuple #[.int .i64 r1, .int .i64 r2]) ∧ Below w.heap.size w w' := by
  unfold limit_Verdict.f at h
  split at h
  · rename_i hw
    simp only [Option.some.injEq, Prod.mk.injEq] at h
    obtain ⟨rfl, rfl⟩ := h
    exact verdict_ok l1 l2 m1 m2 h1 h2 v1 v2 hw.1 hw.2.1 hw.2.2.1 hw.2.2.2 w
  · cases h
end Go.Proofs.Ytkdfkpalgejkkaa
/-
  span: the least span of what functions tell of two spans' ends.
-/
set_option linter.unusedSimpArgs false
namespace Go.Proofs.Ytkdfkpalgejkkaa
open Go.RowKit Go.Shelf

theorem ends_plus_c (a b : Int) (ha : IsInt a) (hb : IsInt b) (w : World) : Calls Try.prog 75 #[.agg #[.int .i64 a, .int .i64 b]] w fun e w' => e = .returned (.tuple #[.int .i64 (fit (a + b)).1, .int .i64 (fit (a + b)).2]) ∧ Below w.heap.size w w' := by
  have H := Lib.hid (fun W => fix_Add_c a b ha hb W)
  generalize (fit (a + b)).1 = x at *
  generalize (fit (a + b)).2 = y at *
  go_enter Try.func75, Try.ntmps75
  go_wp2_with (go_at_call 115; refine (H.out _).mono ?_; rintro e w' ⟨rfl, hb⟩)
  go_ret2
  exact ⟨rfl, below_then_ ((Below.refl _ _).alloc (Nat.le_refl _) _) (by simp) hb⟩
theorem ends_less_c (a b : Int) (ha : IsInt a) (hb : IsInt b) (w : World) : Calls Try.prog 76 #[.agg #[.int .i64 a, .int .i64 b]] w fun e w' => e = .returned (.tuple #[.int .i64 (fit (a - b)).1, .int .i64 (fit (a - b)).2]) ∧ Below w.heap.size w w' := by
  have H := Lib.hid (fun W => fix_Sub_c a b ha hb W)
  generalize (fit (a - b)).1 = x at *
  generalize (fit (a - b)).2 = y at *
  go_enter Try.func76, Try.ntmps76
  go_wp2_with (go_at_call 116; refine (H.out _).mono ?_; rintro e w' ⟨rfl, hb⟩)
  go_ret2
  exact ⟨rfl, below_then_ ((Below.refl _ _).alloc (Nat.le_refl _) _) (by simp) hb⟩
theorem ends_times_c (a b : Int) (ha : IsInt a) (hb : IsInt b) (w : World) : Calls Try.prog 55 #[.agg #[.int .i64 a, .int .i64 b]] w fun e w' => e = .returned (.tuple #[.int .i64 (fit (a * b)).1, .int .i64 (fit (a * b)).2]) ∧ Below w.heap.size w w' := by
  have H := Lib.hid (fun W => fix_Mul_c a b ha hb W)
  generalize (fit (a * b)).1 = x at *
  generalize (fit (a * b)).2 = y at *
  go_enter Try.func55, Try.ntmps55
  go_wp2_with (go_at_call 96; refine (H.out _).mono ?_; rintro e w' ⟨rfl, hb⟩)
  go_ret2
  exact ⟨rfl, below_then_ ((Below.refl _ _).alloc (Nat.le_refl _) _) (by simp) hb⟩
theorem ends_down_c (a b : Int) (ha : IsInt a) (hb : IsInt b) (h0 : b ≠ 0) (w : World) : Calls Try.prog 58 #[.agg #[.int .i64 a, .int .i64 b]] w fun e w' => e = .returned (.tuple #[.int .i64 (fit (md a b 0)).1, .int .i64 (fit (md a b 0)).2]) ∧ Below w.heap.size w w' := by
  have H : Hid (∀ W, Calls Try.prog 70 #[.int .i64 a, .int .i64 1, .int .i64 b, .int .i64 0] W fun e w' => e = .returned (.tuple #[.int .i64 (fit (md a b 0)).1, .int .i64 (fit (md a b 0)).2]) ∧ Below W.heap.size W w') := Lib.hid (fun W => by
    have h := fix_MulDiv_c a 1 b 0 ha (by decide) hb h0 (by decide) W
    rwa [Int.mul_one] at h)
  generalize (fit (md a b 0)).1 = x at *
  generalize (fit (md a b 0)).2 = y at *
  go_enter Try.func58, Try.ntmps58
  go_wp2_with (go_at_call 70; refine (H.out _).mono ?_; rintro e w' ⟨rfl, hb⟩)
  go_ret2
  exact ⟨rfl, below_then_ ((Below.refl _ _).alloc (Nat.le_refl _) _) (by simp) hb⟩
theorem ends_up_c (a b : Int) (ha : IsInt a) (hb : IsInt b) (h0 : b ≠ 0) (w : World) : Calls Try.prog 59 #[.agg #[.int .i64 a, .int .i64 b]] w fun e w' => e = .returned (.tuple #[.int .i64 (fit (md a b 1)).1, .int .i64 (fit (md a b 1)).2]) ∧ Below w.heap.size w w' := by
  have H : Hid (∀ W, Calls Try.prog 70 #[.int .i64 a, .int .i64 1, .int .i64 b, .int .i64 1] W fun e w' => e = .returned (.tuple #[.int .i64 (fit (md a b 1)).1, .int .i64 (fit (md a b 1)).2]) ∧ Below W.heap.size W w') := Lib.hid (fun W => by
    have h := fix_MulDiv_c a 1 b 1 ha (by decide) hb h0 (by decide) W
    rwa [Int.mul_one] at h)
  generalize (fit (md a b 1)).1 = x at *
  generalize (fit (md a b 1)).2 = y at *
  go_enter Try.func59, Try.ntmps59
  go_wp2_with (go_at_call 70; refine (H.out _).mono ?_; rintro e w' ⟨rfl, hb⟩)
  go_ret2
  exact ⟨rfl, below_then_ ((Below.refl _ _).alloc (Nat.le_refl _) _) (by simp) hb⟩

theorem spanHas_c (a b x : Int) (w : World) : Calls Try.prog 57 #[.agg #[.int .i64 a, .int .i64 b], .int .i64 x] w fun e w' => e = .returned (.bool (decide (a ≤ x) && decide (x ≤ b))) ∧ Below w.heap.size w w' := by
  by_cases h : a ≤ x
  · go_enter Try.func57, Try.ntmps57
    go_wp2
    go_ret
    exact ⟨by simp [h], (Below.refl _ _).alloc (Nat.le_refl _) _⟩
  · have h' : decide (a ≤ x) = false := decide_eq_false h
    go_enter Try.func57, Try.ntmps57
    go_wp2
    go_ret
    exact ⟨by simp, (Below.refl _ _).alloc (Nat.le_refl _) _⟩

/-- The least span of some numbers, or the first error: of each a number and an error. -/
def hullGo : Int → Int → List (Int × Int) → Int × Int × Int
  | lo, hi, [] => (lo, hi, 0)
  | lo, hi, (n, e) :: l => if e = 0 then hullGo (min lo n) (max hi n) l else (0, 0, e)
def hullOf : List (Int × Int) → Int × Int × Int
  | [] => (0, 0, 0)
  | (n, e) :: l => if e = 0 then hullGo n n l else (0, 0, e)
/-- A function that tells a number and an error of two ends. -/
def Tells (f : FuncId) (g : Int → Int → Int × Int) (x y : Int) : Prop := ∀ W, Calls Try.prog f #[.agg #[.int .i64 x, .int .i64 y]] W fun e w' => e = .returned (.tuple #[.int .i64 (g x y).1, .int .i64 (g x y).2]) ∧ Below W.heap.size W w'

set_option maxHeartbeats 8000000 in
set_option maxRecDepth 100000 in
theorem hull1_c (f : FuncId) (p : Int → Int → Int × Int) (a1 a2 b1 b2 : Int) (e0 : ∀ (args : Array Value) (W : World), (callFunc f args).run Try.prog W = .ok (.enter f args) W) (t0 : Tells f p a1 b1) (t1 : Tells f p a1 b2) (t2 : Tells f p a2 b1) (t3 : Tells f p a2 b2) (gb : Nat) (w : World) (c0 : w.cell? ⟨gb, 0, none⟩ = some (.func (.func f) #[] #[])) :
    Calls Try.prog 95 #[.agg #[.int .i64 a1, .int .i64 a2], .agg #[.int .i64 b1, .int .i64 b2], .slice (some ⟨gb, 0, none⟩) 1 1] w fun e w' => e = .returned (.tuple #[.agg #[.int .i64 (hullOf [p a1 b1, p a1 b2, p a2 b1, p a2 b2]).1, .int .i64 (hullOf [p a1 b1, p a1 b2, p a2 b1, p a2 b2]).2.1], .int .i64 (hullOf [p a1 b1, p a1 b2, p a2 b1, p a2 b2]).2.2]) ∧ Below w.heap.size w w' := by
  have T0 := Lib.hid t0
  have T1 := Lib.hid t1
  have T2 := Lib.hid t2
  have T3 := Lib.hid t3
  clear t0 t1 t2 t3
  obtain ⟨n0, x0, hr0⟩ : ∃ n x, p a1 b1 = (n, x) := ⟨_, _, rfl⟩
  obtain ⟨n1, x1, hr1⟩ : ∃ n x, p a1 b2 = (n, x) := ⟨_, _, rfl⟩
  obtain ⟨n2, x2, hr2⟩ : ∃ n x, p a2 b1 = (n, x) := ⟨_, _, rfl⟩
  obtain ⟨n3, x3, hr3⟩ : ∃ n x, p a2 b2 = (n, x) := ⟨_, _, rfl⟩
  unfold Tells at *
  simp only [hr0, hr1, hr2, hr3] at *
  clear hr0 hr1 hr2 hr3
  have i00 : ∀ W, (Instr.index 91 (.agg #[.int .i64 a1, .int .i64 a2]) (.int .i64 0)).run Try.prog W = .ok (.int .i64 a1) W := fun _ => by kernel_rfl
  have i01 : ∀ W, (Instr.index 91 (.agg #[.int .i64 a1, .int .i64 a2]) (.int .i64 1)).run Try.prog W = .ok (.int .i64 a2) W := fun _ => by kernel_rfl
  have i10 : ∀ W, (Instr.index 91 (.agg #[.int .i64 b1, .int .i64 b2]) (.int .i64 0)).run Try.prog W = .ok (.int .i64 b1) W := fun _ => by kernel_rfl
  have i11 : ∀ W, (Instr.index 91 (.agg #[.int .i64 b1, .int .i64 b2]) (.int .i64 1)).run Try.prog W = .ok (.int .i64 b2) W := fun _ => by kernel_rfl
  have lq0 : gb < w.heap.size := World.block_lt_of_cell? w _ c0
  have lq1 : gb < w.heap.size + 1 := by omega
  have lq2 : gb < w.heap.size + 1 + 1 := by omega
  have lq3 : gb < w.heap.size + 1 + 1 + 1 := by omega
  have ln0 : ¬ gb = w.heap.size + 1 + 1 + 1 := by omega
  have ln1 : ¬ w.heap.size + 1 + 1 + 1 = gb := by omega
  have HS : Hid True := Lib.hid trivial
  go_enter Try.func95, Try.ntmps95
  go_wp2_with (first | ((with_reducible refine wp_loop_rounds 3 ?_); rw [rounds_succ]) | rw [rounds_succ])
  refine (T0.out _).mono ?_
  rintro e w1 ⟨rfl, hb⟩
  have hK : Knows w.heap.size w [(⟨w.heap.size, 0, none⟩, .int .i64 a1), (⟨w.heap.size, 1, none⟩, .int .i64 a2), (⟨w.heap.size + 1, 0, none⟩, .int .i64 b1), (⟨w.heap.size + 1, 1, none⟩, .int .i64 b2), (⟨w.heap.size + 1 + 1, 0, none⟩, .int .i64 0), (⟨w.heap.size + 1 + 1, 1, none⟩, .int .i64 0), (⟨w.heap.size + 1 + 1 + 1, 0, none⟩, .int .i64 0), (⟨w.heap.size + 1 + 1 + 1, 1, none⟩, .int .i64 0), (⟨gb, 0, none⟩, .func (.func f) #[] #[])] [⟨w.heap.size + 1 + 1, 0, none⟩, ⟨w.heap.size + 1 + 1, 1, none⟩, ⟨w.heap.size + 1 + 1 + 1, 0, none⟩, ⟨w.heap.size + 1 + 1 + 1, 1, none⟩] w1 :=
    Knows.call (W := (((w.alloc (.cells #[.int .i64 a1, .int .i64 a2] 23)).alloc (.cells #[.int .i64 b1, .int .i64 b2] 23)).alloc (.cells #[.int .i64 0, .int .i64 0] 23)).alloc (.cells #[.int .i64 0, .int .i64 0] 23)) ⟨(((((Below.refl _ _).alloc (Nat.le_refl _) _).alloc (by simp) _).alloc (by simp; omega) _).alloc (by simp; omega) _), by simp; omega, by simp [Cells, go_sem, *], by simp [Frees, go_sem]⟩ hb
  clear hb
  have HK := Lib.hid hK
  have lz := Lib.hid (World.block_lt_of_cell? w1 _ hK.2.2.1.2.2.2.2.2.2.1)
  obtain ⟨-, hsz, ⟨qa1, qa2, qb1, qb2, qz1, qz2, qo1, qo2, qf0, -⟩, ⟨-, z1⟩, ⟨-, z2⟩, ⟨-, z3⟩, ⟨-, z4⟩, -⟩ := hK
  by_cases hx0 : x0 = 0
  case' neg =>
    have hx0b : (x0 != 0) = true := bne_iff_ne.2 hx0
    clear HS
    go_wp2_with (first | ((with_reducible refine wp_loop_rounds 3 ?_); rw [rounds_succ]) | rw [rounds_succ])
    refine bodyPost_ret (v := .tuple #[.agg #[.int .i64 0, .int .i64 0], .int .i64 x0]) (by simp [results, Try.results95, go_sem, qa1, qa2, qb1, qb2, qz1, qz2, qo1, qo2, qf0, z1, z2, z3, z4]) rfl ⟨by simp [hullOf, hullGo, hx0], ?_⟩
    have h2 : w.heap.size ≤ w.heap.size + 1 + 1 := by omega
    exact (HK.out.1.setCell h2 _).setCell h2 _
  subst hx0
  go_wp2_with (first | ((with_reducible refine wp_loop_rounds 3 ?_); rw [rounds_succ]) | rw [rounds_succ])
  refine (T1.out _).mono ?_
  rintro e w2 ⟨rfl, hb⟩
  have h3 : w.heap.size ≤ w.heap.size + 1 + 1 + 1 := by omega
  have hK : Knows w.heap.size w [(⟨w.heap.size, 0, none⟩, .int .i64 a1), (⟨w.heap.size, 1, none⟩, .int .i64 a2), (⟨w.heap.size + 1, 0, none⟩, .int .i64 b1), (⟨w.heap.size + 1, 1, none⟩, .int .i64 b2), (⟨w.heap.size + 1 + 1, 0, none⟩, .int .i64 0), (⟨w.heap.size + 1 + 1, 1, none⟩, .int .i64 0), (⟨w.heap.size + 1 + 1 + 1, 0, none⟩, .int .i64 n0), (⟨w.heap.size + 1 + 1 + 1, 1, none⟩, .int .i64 n0), (⟨gb, 0, none⟩, .func (.func f) #[] #[])] [⟨w.heap.size + 1 + 1, 0, none⟩, ⟨w.heap.size + 1 + 1, 1, none⟩, ⟨w.heap.size + 1 + 1 + 1, 0, none⟩, ⟨w.heap.size + 1 + 1 + 1, 1, none⟩] w2 := by
    refine Knows.call ⟨((((HK.out.1).setCell h3 _).setCell h3 _).setCell h3 _).setCell h3 _, by simpa using hsz, ?_, ?_⟩ hb
    · first | (simp [Cells, go_sem, lq0, ln0, qa1, qa2, qb1, qb2, qz1, qz2, qo1, qo2, qf0, z1, z2, z3, z4]; done) | (simp [Cells, go_sem, lq0, ln0, qa1, qa2, qb1, qb2, qz1, qz2, qo1, qo2, qf0, z1, z2, z3, z4]; rw [World.cell?_setCell_same' _ _ _ (by simp [isSome_set, qo2])])
    · have := lz.out; simp [Frees, go_sem, qa1, qa2, qb1, qb2, qz1, qz2, qo1, qo2, qf0, z1, z2, z3, z4]; omega
  clear hb h3 HK hsz lz qa1 qa2 qb1 qb2 qz1 qz2 qo1 qo2 qf0 z1 z2 z3 z4
  have HK := Lib.hid hK
  have lz := Lib.hid (World.block_lt_of_cell? w2 _ hK.2.2.1.2.2.2.2.2.2.1)
  obtain ⟨-, hsz, ⟨qa1, qa2, qb1, qb2, qz1, qz2, qo1, qo2, qf0, -⟩, ⟨-, z1⟩, ⟨-, z2⟩, ⟨-, z3⟩, ⟨-, z4⟩, -⟩ := hK
  by_cases hx1 : x1 = 0
  case' neg =>
    have hx1b : (x1 != 0) = true := bne_iff_ne.2 hx1
    clear HS
    go_wp2_with (first | ((with_reducible refine wp_loop_rounds 3 ?_); rw [rounds_succ]) | rw [rounds_succ])
    refine bodyPost_ret (v := .tuple #[.agg #[.int .i64 0, .int .i64 0], .int .i64 x1]) (by simp [results, Try.results95, go_sem, qa1, qa2, qb1, qb2, qz1, qz2, qo1, qo2, qf0, z1, z2, z3, z4]) rfl ⟨by simp [hullOf, hullGo, hx1], ?_⟩
    have h2 : w.heap.size ≤ w.heap.size + 1 + 1 := by omega
    exact (HK.out.1.setCell h2 _).setCell h2 _
  subst hx1
  go_wp2_with (first | ((with_reducible refine wp_loop_rounds 3 ?_); rw [rounds_succ]) | rw [rounds_succ])
  refine (T2.out _).mono ?_
  rintro e w3 ⟨rfl, hb⟩
  have h3 : w.heap.size ≤ w.heap.size + 1 + 1 + 1 := by omega
  have hK : Knows w.heap.size w [(⟨w.heap.size, 0, none⟩, .int .i64 a1), (⟨w.heap.size, 1, none⟩, .int .i64 a2), (⟨w.heap.size + 1, 0, none⟩, .int .i64 b1), (⟨w.heap.size + 1, 1, none⟩, .int .i64 b2), (⟨w.heap.size + 1 + 1, 0, none⟩, .int .i64 0), (⟨w.heap.size + 1 + 1, 1, none⟩, .int .i64 0), (⟨w.heap.size + 1 + 1 + 1, 0, none⟩, .int .i64 (min n0 n1)), (⟨w.heap.size + 1 + 1 + 1, 1, none⟩, .int .i64 (max n0 n1)), (⟨gb, 0, none⟩, .func (.func f) #[] #[])] [⟨w.heap.size + 1 + 1, 0, none⟩, ⟨w.heap.size + 1 + 1, 1, none⟩, ⟨w.heap.size + 1 + 1 + 1, 0, none⟩, ⟨w.heap.size + 1 + 1 + 1, 1, none⟩] w3 := by
    refine Knows.call ⟨((HK.out.1).setCell h3 _).setCell h3 _, by simpa using hsz, ?_, ?_⟩ hb
    · first | (simp [Cells, go_sem, lq0, ln0, qa1, qa2, qb1, qb2, qz1, qz2, qo1, qo2, qf0, z1, z2, z3, z4]; done) | (simp [Cells, go_sem, lq0, ln0, qa1, qa2, qb1, qb2, qz1, qz2, qo1, qo2, qf0, z1, z2, z3, z4]; rw [World.cell?_setCell_same' _ _ _ (by simp [isSome_set, qo2])])
    · have := lz.out; simp [Frees, go_sem, qa1, qa2, qb1, qb2, qz1, qz2, qo1, qo2, qf0, z1, z2, z3, z4]; omega
  clear hb h3 HK hsz lz qa1 qa2 qb1 qb2 qz1 qz2 qo1 qo2 qf0 z1 z2 z3 z4
  have HK := Lib.hid hK
  have lz := Lib.hid (World.block_lt_of_cell? w3 _ hK.2.2.1.2.2.2.2.2.2.1)
  obtain ⟨-, hsz, ⟨qa1, qa2, qb1, qb2, qz1, qz2, qo1, qo2, qf0, -⟩, ⟨-, z1⟩, ⟨-, z2⟩, ⟨-, z3⟩, ⟨-, z4⟩, -⟩ := hK
  by_cases hx2 : x2 = 0
  case' neg =>
    have hx2b : (x2 != 0) = true := bne_iff_ne.2 hx2
    clear HS
    go_wp2_with (first | ((with_reducible refine wp_loop_rounds 3 ?_); rw [rounds_succ]) | rw [rounds_succ])
    refine bodyPost_ret (v := .tuple #[.agg #[.int .i64 0, .int .i64 0], .int .i64 x2]) (by simp [results, Try.results95, go_sem, qa1, qa2, qb1, qb2, qz1, qz2, qo1, qo2, qf0, z1, z2, z3, z4]) rfl ⟨by simp [hullOf, hullGo, hx2], ?_⟩
    have h2 : w.heap.size ≤ w.heap.size + 1 + 1 := by omega
    exact (HK.out.1.setCell h2 _).setCell h2 _
  subst hx2
  go_wp2_with (first | ((with_reducible refine wp_loop_rounds 3 ?_); rw [rounds_succ]) | rw [rounds_succ])
  refine (T3.out _).mono ?_
  rintro e w4 ⟨rfl, hb⟩
  have h3 : w.heap.size ≤ w.heap.size + 1 + 1 + 1 := by omega
  have hK : Knows w.heap.size w [(⟨w.heap.size, 0, none⟩, .int .i64 a1), (⟨w.heap.size, 1, none⟩, .int .i64 a2), (⟨w.heap.size + 1, 0, none⟩, .int .i64 b1), (⟨w.heap.size + 1, 1, none⟩, .int .i64 b2), (⟨w.heap.size + 1 + 1, 0, none⟩, .int .i64 0), (⟨w.heap.size + 1 + 1, 1, none⟩, .int .i64 0), (⟨w.heap.size + 1 + 1 + 1, 0, none⟩, .int .i64 (min (min n0 n1) n2)), (⟨w.heap.size + 1 + 1 + 1, 1, none⟩, .int .i64 (max (max n0 n1) n2)), (⟨gb, 0, none⟩, .func (.func f) #[] #[])] [⟨w.heap.size + 1 + 1, 0, none⟩, ⟨w.heap.size + 1 + 1, 1, none⟩, ⟨w.heap.size + 1 + 1 + 1, 0, none⟩, ⟨w.heap.size + 1 + 1 + 1, 1, none⟩] w4 := by
    refine Knows.call ⟨((HK.out.1).setCell h3 _).setCell h3 _, by simpa using hsz, ?_, ?_⟩ hb
    · first | (simp [Cells, go_sem, lq0, ln0, qa1, qa2, qb1, qb2, qz1, qz2, qo1, qo2, qf0, z1, z2, z3, z4]; done) | (simp [Cells, go_sem, lq0, ln0, qa1, qa2, qb1, qb2, qz1, qz2, qo1, qo2, qf0, z1, z2, z3, z4]; rw [World.cell?_setCell_same' _ _ _ (by simp [isSome_set, qo2])])
    · have := lz.out; simp [Frees, go_sem, qa1, qa2, qb1, qb2, qz1, qz2, qo1, qo2, qf0, z1, z2, z3, z4]; omega
  clear hb h3 HK hsz lz qa1 qa2 qb1 qb2 qz1 qz2 qo1 qo2 qf0 z1 z2 z3 z4
  have HK := Lib.hid hK
  have lz := Lib.hid (World.block_lt_of_cell? w4 _ hK.2.2.1.2.2.2.2.2.2.1)
  obtain ⟨-, hsz, ⟨qa1, qa2, qb1, qb2, qz1, qz2, qo1, qo2, qf0, -⟩, ⟨-, z1⟩, ⟨-, z2⟩, ⟨-, z3⟩, ⟨-, z4⟩, -⟩ := hK
  by_cases hx3 : x3 = 0
  case' neg =>
    have hx3b : (x3 != 0) = true := bne_iff_ne.2 hx3
    clear HS
    go_wp2_with (first | ((with_reducible refine wp_loop_rounds 3 ?_); rw [rounds_succ]) | rw [rounds_succ])
    refine bodyPost_ret (v := .tuple #[.agg #[.int .i64 0, .int .i64 0], .int .i64 x3]) (by simp [results, Try.results95, go_sem, qa1, qa2, qb1, qb2, qz1, qz2, qo1, qo2, qf0, z1, z2, z3, z4]) rfl ⟨by simp [hullOf, hullGo, hx3], ?_⟩
    have h2 : w.heap.size ≤ w.heap.size + 1 + 1 := by omega
    exact (HK.out.1.setCell h2 _).setCell h2 _
  subst hx3
  go_wp2_with (first | ((with_reducible refine wp_loop_rounds 3 ?_); rw [rounds_succ]) | rw [rounds_succ])
  have h3 : w.heap.size ≤ w.heap.size + 1 + 1 + 1 := by omega
  have h2 : w.heap.size ≤ w.heap.size + 1 + 1 := by omega
  refine bodyPost_ret (v := .tuple #[.agg #[.int .i64 (min (min (min n0 n1) n2) n3), .int .i64 (max (max (max n0 n1) n2) n3)], .int .i64 0]) (by simp [results, Try.results95, go_sem, qa1, qa2, qb1, qb2, qz1, qz2, qo1, qo2, qf0, z1, z2, z3, z4]) rfl ⟨by simp [hullOf, hullGo], ?_⟩
  exact ((((HK.out.1).setCell h3 _).setCell h3 _).setCell h2 _).setCell h2 _
end Go.Proofs.Ytkdfkpalgejkkaa
/-
  span.hull with two functions.
-/
set_option linter.unusedSimpArgs false
namespace Go.Proofs.Ytkdfkpalgejkkaa
open Go.RowKit Go.Shelf

set_option maxHeartbeats 8000000 in
set_option maxRecDepth 100000 in
theorem hull2_c (f h : FuncId) (p q : Int → Int → Int × Int) (a1 a2 b1 b2 : Int) (e0 : ∀ (args : Array Value) (W : World), (callFunc f args).run Try.prog W = .ok (.enter f args) W) (e1 : ∀ (args : Array Value) (W : World), (callFunc h args).run Try.prog W = .ok (.enter h args) W) (t0 : Tells f p a1 b1) (t1 : Tells h q a1 b1) (t2 : Tells f p a1 b2) (t3 : Tells h q a1 b2) (t4 : Tells f p a2 b1) (t5 : Tells h q a2 b1) (t6 : Tells f p a2 b2) (t7 : Tells h q a2 b2) (gb : Nat) (w : World) (c0 : w.cell? ⟨gb, 0, none⟩ = some (.func (.func f) #[] #[])) (c1 : w.cell? ⟨gb, 1, none⟩ = some (.func (.func h) #[] #[])) :
    Calls Try.prog 95 #[.agg #[.int .i64 a1, .int .i64 a2], .agg #[.int .i64 b1, .int .i64 b2], .slice (some ⟨gb, 0, none⟩) 2 2] w fun e w' => e = .returned (.tuple #[.agg #[.int .i64 (hullOf [p a1 b1, q a1 b1, p a1 b2, q a1 b2, p a2 b1, q a2 b1, p a2 b2, q a2 b2]).1, .int .i64 (hullOf [p a1 b1, q a1 b1, p a1 b2, q a1 b2, p a2 b1, q a2 b1, p a2 b2, q a2 b2]).2.1], .int .i64 (hullOf [p a1 b1, q a1 b1, p a1 b2, q a1 b2, p a2 b1, q a2 b1, p a2 b2, q a2 b2]).2.2]) ∧ Below w.heap.size w w' := by
  have T0 := Lib.hid t0
  have T1 := Lib.hid t1
  have T2 := Lib.hid t2
  have T3 := Lib.hid t3
  have T4 := Lib.hid t4
  have T5 := Lib.hid t5
  have T6 := Lib.hid t6
  have T7 := Lib.hid t7
  clear t0 t1 t2 t3 t4 t5 t6 t7
  obtain ⟨n0, x0, hr0⟩ : ∃ n x, p a1 b1 = (n, x) := ⟨_, _, rfl⟩
  obtain ⟨n1, x1, hr1⟩ : ∃ n x, q a1 b1 = (n, x) := ⟨_, _, rfl⟩
  obtain ⟨n2, x2, hr2⟩ : ∃ n x, p a1 b2 = (n, x) := ⟨_, _, rfl⟩
  obtain ⟨n3, x3, hr3⟩ : ∃ n x, q a1 b2 = (n, x) := ⟨_, _, rfl⟩
  obtain ⟨n4, x4, hr4⟩ : ∃ n x, p a2 b1 = (n, x) := ⟨_, _, rfl⟩
  obtain ⟨n5, x5, hr5⟩ : ∃ n x, q a2 b1 = (n, x) := ⟨_, _, rfl⟩
  obtain ⟨n6, x6, hr6⟩ : ∃ n x, p a2 b2 = (n, x) := ⟨_, _, rfl⟩
  obtain ⟨n7, x7, hr7⟩ : ∃ n x, q a2 b2 = (n, x) := ⟨_, _, rfl⟩
  unfold Tells at *
  simp only [hr0, hr1, hr2, hr3, hr4, hr5, hr6, hr7] at *
  clear hr0 hr1 hr2 hr3 hr4 hr5 hr6 hr7
  have i00 : ∀ W, (Instr.index 91 (.agg #[.int .i64 a1, .int .i64 a2]) (.int .i64 0)).run Try.prog W = .ok (.int .i64 a1) W := fun _ => by kernel_rfl
  have i01 : ∀ W, (Instr.index 91 (.agg #[.int .i64 a1, .int .i64 a2]) (.int .i64 1)).run Try.prog W = .ok (.int .i64 a2) W := fun _ => by kernel_rfl
  have i10 : ∀ W, (Instr.index 91 (.agg #[.int .i64 b1, .int .i64 b2]) (.int .i64 0)).run Try.prog W = .ok (.int .i64 b1) W := fun _ => by kernel_rfl
  have i11 : ∀ W, (Instr.index 91 (.agg #[.int .i64 b1, .int .i64 b2]) (.int .i64 1)).run Try.prog W = .ok (.int .i64 b2) W := fun _ => by kernel_rfl
  have lq0 : gb < w.heap.size := World.block_lt_of_cell? w _ c0
  have lq1 : gb < w.heap.size + 1 := by omega
  have lq2 : gb < w.heap.size + 1 + 1 := by omega
  have lq3 : gb < w.heap.size + 1 + 1 + 1 := by omega
  have ln0 : ¬ gb = w.heap.size + 1 + 1 + 1 := by omega
  have ln1 : ¬ w.heap.size + 1 + 1 + 1 = gb := by omega
  have HS : Hid True := Lib.hid trivial
  go_enter Try.func95, Try.ntmps95
  go_wp2_with (first | ((with_reducible refine wp_loop_rounds 3 ?_); rw [rounds_succ]) | rw [rounds_succ])
  refine (T0.out _).mono ?_
  rintro e w1 ⟨rfl, hb⟩
  have hK : Knows w.heap.size w [(⟨w.heap.size, 0, none⟩, .int .i64 a1), (⟨w.heap.size, 1, none⟩, .int .i64 a2), (⟨w.heap.size + 1, 0, none⟩, .int .i64 b1), (⟨w.heap.size + 1, 1, none⟩, .int .i64 b2), (⟨w.heap.size + 1 + 1, 0, none⟩, .int .i64 0), (⟨w.heap.size + 1 + 1, 1, none⟩, .int .i64 0), (⟨w.heap.size + 1 + 1 + 1, 0, none⟩, .int .i64 0), (⟨w.heap.size + 1 + 1 + 1, 1, none⟩, .int .i64 0), (⟨gb, 0, none⟩, .func (.func f) #[] #[]), (⟨gb, 1, none⟩, .func (.func h) #[] #[])] [⟨w.heap.size + 1 + 1, 0, none⟩, ⟨w.heap.size + 1 + 1, 1, none⟩, ⟨w.heap.size + 1 + 1 + 1, 0, none⟩, ⟨w.heap.size + 1 + 1 + 1, 1, none⟩] w1 :=
    Knows.call (W := (((w.alloc (.cells #[.int .i64 a1, .int .i64 a2] 23)).alloc (.cells #[.int .i64 b1, .int .i64 b2] 23)).alloc (.cells #[.int .i64 0, .int .i64 0] 23)).alloc (.cells #[.int .i64 0, .int .i64 0] 23)) ⟨(((((Below.refl _ _).alloc (Nat.le_refl _) _).alloc (by simp) _).alloc (by simp; omega) _).alloc (by simp; omega) _), by simp; omega, by simp [Cells, go_sem, *], by simp [Frees, go_sem]⟩ hb
  clear hb
  have HK := Lib.hid hK
  have lz := Lib.hid (World.block_lt_of_cell? w1 _ hK.2.2.1.2.2.2.2.2.2.1)
  obtain ⟨-, hsz, ⟨qa1, qa2, qb1, qb2, qz1, qz2, qo1, qo2, qf0, qf1, -⟩, ⟨-, z1⟩, ⟨-, z2⟩, ⟨-, z3⟩, ⟨-, z4⟩, -⟩ := hK
  by_cases hx0 : x0 = 0
  case' neg =>
    have hx0b : (x0 != 0) = true := bne_iff_ne.2 hx0
    clear HS
    go_wp2_with (first | ((with_reducible refine wp_loop_rounds 3 ?_); rw [rounds_succ]) | rw [rounds_succ])
    refine bodyPost_ret (v := .tuple #[.agg #[.int .i64 0, .int .i64 0], .int .i64 x0]) (by simp [results, Try.results95, go_sem, qa1, qa2, qb1, qb2, qz1, qz2, qo1, qo2, qf0, qf1, z1, z2, z3, z4]) rfl ⟨by simp [hullOf, hullGo, hx0], ?_⟩
    have h2 : w.heap.size ≤ w.heap.size + 1 + 1 := by omega
    exact (HK.out.1.setCell h2 _).setCell h2 _
  subst hx0
  go_wp2_with (first | ((with_reducible refine wp_loop_rounds 3 ?_); rw [rounds_succ]) | rw [rounds_succ])
  refine (T1.out _).mono ?_
  rintro e w2 ⟨rfl, hb⟩
  have h3 : w.heap.size ≤ w.heap.size + 1 + 1 + 1 := by omega
  have hK : Knows w.heap.size w [(⟨w.heap.size, 0, none⟩, .int .i64 a1), (⟨w.heap.size, 1, none⟩, .int .i64 a2), (⟨w.heap.size + 1, 0, none⟩, .int .i64 b1), (⟨w.heap.size + 1, 1, none⟩, .int .i64 b2), (⟨w.heap.size + 1 + 1, 0, none⟩, .int .i64 0), (⟨w.heap.size + 1 + 1, 1, none⟩, .int .i64 0), (⟨w.heap.size + 1 + 1 + 1, 0, none⟩, .int .i64 n0), (⟨w.heap.size + 1 + 1 + 1, 1, none⟩, .int .i64 n0), (⟨gb, 0, none⟩, .func (.func f) #[] #[]), (⟨gb, 1, none⟩, .func (.func h) #[] #[])] [⟨w.heap.size + 1 + 1, 0, none⟩, ⟨w.heap.size + 1 + 1, 1, none⟩, ⟨w.heap.size + 1 + 1 + 1, 0, none⟩, ⟨w.heap.size + 1 + 1 + 1, 1, none⟩] w2 := by
    refine Knows.call ⟨((((HK.out.1).setCell h3 _).setCell h3 _).setCell h3 _).setCell h3 _, by simpa using hsz, ?_, ?_⟩ hb
    · first | (simp [Cells, go_sem, lq0, ln0, qa1, qa2, qb1, qb2, qz1, qz2, qo1, qo2, qf0, qf1, z1, z2, z3, z4]; done) | (simp [Cells, go_sem, lq0, ln0, qa1, qa2, qb1, qb2, qz1, qz2, qo1, qo2, qf0, qf1, z1, z2, z3, z4]; rw [World.cell?_setCell_same' _ _ _ (by simp [isSome_set, qo2])])
    · have := lz.out; simp [Frees, go_sem, qa1, qa2, qb1, qb2, qz1, qz2, qo1, qo2, qf0, qf1, z1, z2, z3, z4]; omega
  clear hb h3 HK hsz lz qa1 qa2 qb1 qb2 qz1 qz2 qo1 qo2 qf0 qf1 z1 z2 z3 z4
  have HK := Lib.hid hK
  have lz := Lib.hid (World.block_lt_of_cell? w2 _ hK.2.2.1.2.2.2.2.2.2.1)
  obtain ⟨-, hsz, ⟨qa1, qa2, qb1, qb2, qz1, qz2, qo1, qo2, qf0, qf1, -⟩, ⟨-, z1⟩, ⟨-, z2⟩, ⟨-, z3⟩, ⟨-, z4⟩, -⟩ := hK
  by_cases hx1 : x1 = 0
  case' neg =>
    have hx1b : (x1 != 0) = true := bne_iff_ne.2 hx1
    clear HS
    go_wp2_with (first | ((with_reducible refine wp_loop_rounds 3 ?_); rw [rounds_succ]) | rw [rounds_succ])
    refine bodyPost_ret (v := .tuple #[.agg #[.int .i64 0, .int .i64 0], .int .i64 x1]) (by simp [results, Try.results95, go_sem, qa1, qa2, qb1, qb2, qz1, qz2, qo1, qo2, qf0, qf1, z1, z2, z3, z4]) rfl ⟨by simp [hullOf, hullGo, hx1], ?_⟩
    have h2 : w.heap.size ≤ w.heap.size + 1 + 1 := by omega
    exact (HK.out.1.setCell h2 _).setCell h2 _
  subst hx1
  go_wp2_with (first | ((with_reducible refine wp_loop_rounds 3 ?_); rw [rounds_succ]) | rw [rounds_succ])
  refine (T2.out _).mono ?_
  rintro e w3 ⟨rfl, hb⟩
  have h3 : w.heap.size ≤ w.heap.size + 1 + 1 + 1 := by omega
  have hK : Knows w.heap.size w [(⟨w.heap.size, 0, none⟩, .int .i64 a1), (⟨w.heap.size, 1, none⟩, .int .i64 a2), (⟨w.heap.size + 1, 0, none⟩, .int .i64 b1), (⟨w.heap.size + 1, 1, none⟩, .int .i64 b2), (⟨w.heap.size + 1 + 1, 0, none⟩, .int .i64 0), (⟨w.heap.size + 1 + 1, 1, none⟩, .int .i64 0), (⟨w.heap.size + 1 + 1 + 1, 0, none⟩, .int .i64 (min n0 n1)), (⟨w.heap.size + 1 + 1 + 1, 1, none⟩, .int .i64 (max n0 n1)), (⟨gb, 0, none⟩, .func (.func f) #[] #[]), (⟨gb, 1, none⟩, .func (.func h) #[] #[])] [⟨w.heap.size + 1 + 1, 0, none⟩, ⟨w.heap.size + 1 + 1, 1, none⟩, ⟨w.heap.size + 1 + 1 + 1, 0, none⟩, ⟨w.heap.size + 1 + 1 + 1, 1, none⟩] w3 := by
    refine Knows.call ⟨((HK.out.1).setCell h3 _).setCell h3 _, by simpa using hsz, ?_, ?_⟩ hb
    · first | (simp [Cells, go_sem, lq0, ln0, qa1, qa2, qb1, qb2, qz1, qz2, qo1, qo2, qf0, qf1, z1, z2, z3, z4]; done) | (simp [Cells, go_sem, lq0, ln0, qa1, qa2, qb1, qb2, qz1, qz2, qo1, qo2, qf0, qf1, z1, z2, z3, z4]; rw [World.cell?_setCell_same' _ _ _ (by simp [isSome_set, qo2])])
    · have := lz.out; simp [Frees, go_sem, qa1, qa2, qb1, qb2, qz1, qz2, qo1, qo2, qf0, qf1, z1, z2, z3, z4]; omega
  clear hb h3 HK hsz lz qa1 qa2 qb1 qb2 qz1 qz2 qo1 qo2 qf0 qf1 z1 z2 z3 z4
  have HK := Lib.hid hK
  have lz := Lib.hid (World.block_lt_of_cell? w3 _ hK.2.2.1.2.2.2.2.2.2.1)
  obtain ⟨-, hsz, ⟨qa1, qa2, qb1, qb2, qz1, qz2, qo1, qo2, qf0, qf1, -⟩, ⟨-, z1⟩, ⟨-, z2⟩, ⟨-, z3⟩, ⟨-, z4⟩, -⟩ := hK
  by_cases hx2 : x2 = 0
  case' neg =>
    have hx2b : (x2 != 0) = true := bne_iff_ne.2 hx2
    clear HS
    go_wp2_with (first | ((with_reducible refine wp_loop_rounds 3 ?_); rw [rounds_succ]) | rw [rounds_succ])
    refine bodyPost_ret (v := .tuple #[.agg #[.int .i64 0, .int .i64 0], .int .i64 x2]) (by simp [results, Try.results95, go_sem, qa1, qa2, qb1, qb2, qz1, qz2, qo1, qo2, qf0, qf1, z1, z2, z3, z4]) rfl ⟨by simp [hullOf, hullGo, hx2], ?_⟩
    have h2 : w.heap.size ≤ w.heap.size + 1 + 1 := by omega
    exact (HK.out.1.setCell h2 _).setCell h2 _
  subst hx2
  go_wp2_with (first | ((with_reducible refine wp_loop_rounds 3 ?_); rw [rounds_succ]) | rw [rounds_succ])
  refine (T3.out _).mono ?_
  rintro e w4 ⟨rfl, hb⟩
  have h3 : w.heap.size ≤ w.heap.size + 1 + 1 + 1 := by omega
  have hK : Knows w.heap.size w [(⟨w.heap.size, 0, none⟩, .int .i64 a1), (⟨w.heap.size, 1, none⟩, .int .i64 a2), (⟨w.heap.size + 1, 0, none⟩, .int .i64 b1), (⟨w.heap.size + 1, 1, none⟩, .int .i64 b2), (⟨w.heap.size + 1 + 1, 0, none⟩, .int .i64 0), (⟨w.heap.size + 1 + 1, 1, none⟩, .int .i64 0), (⟨w.heap.size + 1 + 1 + 1, 0, none⟩, .int .i64 (min (min n0 n1) n2)), (⟨w.heap.size + 1 + 1 + 1, 1, none⟩, .int .i64 (max (max n0 n1) n2)), (⟨gb, 0, none⟩, .func (.func f) #[] #[]), (⟨gb, 1, none⟩, .func (.func h) #[] #[])] [⟨w.heap.size + 1 + 1, 0, none⟩, ⟨w.heap.size + 1 + 1, 1, none⟩, ⟨w.heap.size + 1 + 1 + 1, 0, none⟩, ⟨w.heap.size + 1 + 1 + 1, 1, none⟩] w4 := by
    refine Knows.call ⟨((HK.out.1).setCell h3 _).setCell h3 _, by simpa using hsz, ?_, ?_⟩ hb
    · first | (simp [Cells, go_sem, lq0, ln0, qa1, qa2, qb1, qb2, qz1, qz2, qo1, qo2, qf0, qf1, z1, z2, z3, z4]; done) | (simp [Cells, go_sem, lq0, ln0, qa1, qa2, qb1, qb2, qz1, qz2, qo1, qo2, qf0, qf1, z1, z2, z3, z4]; rw [World.cell?_setCell_same' _ _ _ (by simp [isSome_set, qo2])])
    · have := lz.out; simp [Frees, go_sem, qa1, qa2, qb1, qb2, qz1, qz2, qo1, qo2, qf0, qf1, z1, z2, z3, z4]; omega
  clear hb h3 HK hsz lz qa1 qa2 qb1 qb2 qz1 qz2 qo1 qo2 qf0 qf1 z1 z2 z3 z4
  have HK := Lib.hid hK
  have lz := Lib.hid (World.block_lt_of_cell? w4 _ hK.2.2.1.2.2.2.2.2.2.1)
  obtain ⟨-, hsz, ⟨qa1, qa2, qb1, qb2, qz1, qz2, qo1, qo2, qf0, qf1, -⟩, ⟨-, z1⟩, ⟨-, z2⟩, ⟨-, z3⟩, ⟨-, z4⟩, -⟩ := hK
  by_cases hx3 : x3 = 0
  case' neg =>
    have hx3b : (x3 != 0) = true := bne_iff_ne.2 hx3
    clear HS
    go_wp2_with (first | ((with_reducible refine wp_loop_rounds 3 ?_); rw [rounds_succ]) | rw [rounds_succ])
    refine bodyPost_ret (v := .tuple #[.agg #[.int .i64 0, .int .i64 0], .int .i64 x3]) (by simp [results, Try.results95, go_sem, qa1, qa2, qb1, qb2, qz1, qz2, qo1, qo2, qf0, qf1, z1, z2, z3, z4]) rfl ⟨by simp [hullOf, hullGo, hx3], ?_⟩
    have h2 : w.heap.size ≤ w.heap.size + 1 + 1 := by omega
    exact (HK.out.1.setCell h2 _).setCell h2 _
  subst hx3
  go_wp2_with (first | ((with_reducible refine wp_loop_rounds 3 ?_); rw [rounds_succ]) | rw [rounds_succ])
  refine (T4.out _).mono ?_
  rintro e w5 ⟨rfl, hb⟩
  have h3 : w.heap.size ≤ w.heap.size + 1 + 1 + 1 := by omega
  have hK : Knows w.heap.size w [(⟨w.heap.size, 0, none⟩, .int .i64 a1), (⟨w.heap.size, 1, none⟩, .int .i64 a2), (⟨w.heap.size + 1, 0, none⟩, .int .i64 b1), (⟨w.heap.size + 1, 1, none⟩, .int .i64 b2), (⟨w.heap.size + 1 + 1, 0, none⟩, .int .i64 0), (⟨w.heap.size + 1 + 1, 1, none⟩, .int .i64 0), (⟨w.heap.size + 1 + 1 + 1, 0, none⟩, .int .i64 (min (min (min n0 n1) n2) n3)), (⟨w.heap.size + 1 + 1 + 1, 1, none⟩, .int .i64 (max (max (max n0 n1) n2) n3)), (⟨gb, 0, none⟩, .func (.func f) #[] #[]), (⟨gb, 1, none⟩, .func (.func h) #[] #[])] [⟨w.heap.size + 1 + 1, 0, none⟩, ⟨w.heap.size + 1 + 1, 1, none⟩, ⟨w.heap.size + 1 + 1 + 1, 0, none⟩, ⟨w.heap.size + 1 + 1 + 1, 1, none⟩] w5 := by
    refine Knows.call ⟨((HK.out.1).setCell h3 _).setCell h3 _, by simpa using hsz, ?_, ?_⟩ hb
    · first | (simp [Cells, go_sem, lq0, ln0, qa1, qa2, qb1, qb2, qz1, qz2, qo1, qo2, qf0, qf1, z1, z2, z3, z4]; done) | (simp [Cells, go_sem, lq0, ln0, qa1, qa2, qb1, qb2, qz1, qz2, qo1, qo2, qf0, qf1, z1, z2, z3, z4]; rw [World.cell?_setCell_same' _ _ _ (by simp [isSome_set, qo2])])
    · have := lz.out; simp [Frees, go_sem, qa1, qa2, qb1, qb2, qz1, qz2, qo1, qo2, qf0, qf1, z1, z2, z3, z4]; omega
  clear hb h3 HK hsz lz qa1 qa2 qb1 qb2 qz1 qz2 qo1 qo2 qf0 qf1 z1 z2 z3 z4
  have HK := Lib.hid hK
  have lz := Lib.hid (World.block_lt_of_cell? w5 _ hK.2.2.1.2.2.2.2.2.2.1)
  obtain ⟨-, hsz, ⟨qa1, qa2, qb1, qb2, qz1, qz2, qo1, qo2, qf0, qf1, -⟩, ⟨-, z1⟩, ⟨-, z2⟩, ⟨-, z3⟩, ⟨-, z4⟩, -⟩ := hK
  by_cases hx4 : x4 = 0
  case' neg =>
    have hx4b : (x4 != 0) = true := bne_iff_ne.2 hx4
    clear HS
    go_wp2_with (first | ((with_reducible refine wp_loop_rounds 3 ?_); rw [rounds_succ]) | rw [rounds_succ])
    refine bodyPost_ret (v := .tuple #[.agg #[.int .i64 0, .int .i64 0], .int .i64 x4]) (by simp [results, Try.results95, go_sem, qa1, qa2, qb1, qb2, qz1, qz2, qo1, qo2, qf0, qf1, z1, z2, z3, z4]) rfl ⟨by simp [hullOf, hullGo, hx4], ?_⟩
    have h2 : w.heap.size ≤ w.heap.size + 1 + 1 := by omega
    exact (HK.out.1.setCell h2 _).setCell h2 _
  subst hx4
  go_wp2_with (first | ((with_reducible refine wp_loop_rounds 3 ?_); rw [rounds_succ]) | rw [rounds_succ])
  refine (T5.out _).mono ?_
  rintro e w6 ⟨rfl, hb⟩
  have h3 : w.heap.size ≤ w.heap.size + 1 + 1 + 1 := by omega
  have hK : Knows w.heap.size w [(⟨w.heap.size, 0, none⟩, .int .i64 a1), (⟨w.heap.size, 1, none⟩, .int .i64 a2), (⟨w.heap.size + 1, 0, none⟩, .int .i64 b1), (⟨w.heap.size + 1, 1, none⟩, .int .i64 b2), (⟨w.heap.size + 1 + 1, 0, none⟩, .int .i64 0), (⟨w.heap.size + 1 + 1, 1, none⟩, .int .i64 0), (⟨w.heap.size + 1 + 1 + 1, 0, none⟩, .int .i64 (min (min (min (min n0 n1) n2) n3) n4)), (⟨w.heap.size + 1 + 1 + 1, 1, none⟩, .int .i64 (max (max (max (max n0 n1) n2) n3) n4)), (⟨gb, 0, none⟩, .func (.func f) #[] #[]), (⟨gb, 1, none⟩, .func (.func h) #[] #[])] [⟨w.heap.size + 1 + 1, 0, none⟩, ⟨w.heap.size + 1 + 1, 1, none⟩, ⟨w.heap.size + 1 + 1 + 1, 0, none⟩, ⟨w.heap.size + 1 + 1 + 1, 1, none⟩] w6 := by
    refine Knows.call ⟨((HK.out.1).setCell h3 _).setCell h3 _, by simpa using hsz, ?_, ?_⟩ hb
    · first | (simp [Cells, go_sem, lq0, ln0, qa1, qa2, qb1, qb2, qz1, qz2, qo1, qo2, qf0, qf1, z1, z2, z3, z4]; done) | (simp [Cells, go_sem, lq0, ln0, qa1, qa2, qb1, qb2, qz1, qz2, qo1, qo2, qf0, qf1, z1, z2, z3, z4]; rw [World.cell?_setCell_same' _ _ _ (by simp [isSome_set, qo2])])
    · have := lz.out; simp [Frees, go_sem, qa1, qa2, qb1, qb2, qz1, qz2, qo1, qo2, qf0, qf1, z1, z2, z3, z4]; omega
  clear hb h3 HK hsz lz qa1 qa2 qb1 qb2 qz1 qz2 qo1 qo2 qf0 qf1 z1 z2 z3 z4
  have HK := Lib.hid hK
  have lz := Lib.hid (World.block_lt_of_cell? w6 _ hK.2.2.1.2.2.2.2.2.2.1)
  obtain ⟨-, hsz, ⟨qa1, qa2, qb1, qb2, qz1, qz2, qo1, qo2, qf0, qf1, -⟩, ⟨-, z1⟩, ⟨-, z2⟩, ⟨-, z3⟩, ⟨-, z4⟩, -⟩ := hK
  by_cases hx5 : x5 = 0
  case' neg =>
    have hx5b : (x5 != 0) = true := bne_iff_ne.2 hx5
    clear HS
    go_wp2_with (first | ((with_reducible refine wp_loop_rounds 3 ?_); rw [rounds_succ]) | rw [rounds_succ])
    refine bodyPost_ret (v := .tuple #[.agg #[.int .i64 0, .int .i64 0], .int .i64 x5]) (by simp [results, Try.results95, go_sem, qa1, qa2, qb1, qb2, qz1, qz2, qo1, qo2, qf0, qf1, z1, z2, z3, z4]) rfl ⟨by simp [hullOf, hullGo, hx5], ?_⟩
    have h2 : w.heap.size ≤ w.heap.size + 1 + 1 := by omega
    exact (HK.out.1.setCell h2 _).setCell h2 _
  subst hx5
  go_wp2_with (first | ((with_reducible refine wp_loop_rounds 3 ?_); rw [rounds_succ]) | rw [rounds_succ])
  refine (T6.out _).mono ?_
  rintro e w7 ⟨rfl, hb⟩
  have h3 : w.heap.size ≤ w.heap.size + 1 + 1 + 1 := by omega
  have hK : Knows w.heap.size w [(⟨w.heap.size, 0, none⟩, .int .i64 a1), (⟨w.heap.size, 1, none⟩, .int .i64 a2), (⟨w.heap.size + 1, 0, none⟩, .int .i64 b1), (⟨w.heap.size + 1, 1, none⟩, .int .i64 b2), (⟨w.heap.size + 1 + 1, 0, none⟩, .int .i64 0), (⟨w.heap.size + 1 + 1, 1, none⟩, .int .i64 0), (⟨w.heap.size + 1 + 1 + 1, 0, none⟩, .int .i64 (min (min (min (min (min n0 n1) n2) n3) n4) n5)), (⟨w.heap.size + 1 + 1 + 1, 1, none⟩, .int .i64 (max (max (max (max (max n0 n1) n2) n3) n4) n5)), (⟨gb, 0, none⟩, .func (.func f) #[] #[]), (⟨gb, 1, none⟩, .func (.func h) #[] #[])] [⟨w.heap.size + 1 + 1, 0, none⟩, ⟨w.heap.size + 1 + 1, 1, none⟩, ⟨w.heap.size + 1 + 1 + 1, 0, none⟩, ⟨w.heap.size + 1 + 1 + 1, 1, none⟩] w7 := by
    refine Knows.call ⟨((HK.out.1).setCell h3 _).setCell h3 _, by simpa using hsz, ?_, ?_⟩ hb
    · first | (simp [Cells, go_sem, lq0, ln0, qa1, qa2, qb1, qb2, qz1, qz2, qo1, qo2, qf0, qf1, z1, z2, z3, z4]; done) | (simp [Cells, go_sem, lq0, ln0, qa1, qa2, qb1, qb2, qz1, qz2, qo1, qo2, qf0, qf1, z1, z2, z3, z4]; rw [World.cell?_setCell_same' _ _ _ (by simp [isSome_set, qo2])])
    · have := lz.out; simp [Frees, go_sem, qa1, qa2, qb1, qb2, qz1, qz2, qo1, qo2, qf0, qf1, z1, z2, z3, z4]; omega
  clear hb h3 HK hsz lz qa1 qa2 qb1 qb2 qz1 qz2 qo1 qo2 qf0 qf1 z1 z2 z3 z4
  have HK := Lib.hid hK
  have lz := Lib.hid (World.block_lt_of_cell? w7 _ hK.2.2.1.2.2.2.2.2.2.1)
  obtain ⟨-, hsz, ⟨qa1, qa2, qb1, qb2, qz1, qz2, qo1, qo2, qf0, qf1, -⟩, ⟨-, z1⟩, ⟨-, z2⟩, ⟨-, z3⟩, ⟨-, z4⟩, -⟩ := hK
  by_cases hx6 : x6 = 0
  case' neg =>
    have hx6b : (x6 != 0) = true := bne_iff_ne.2 hx6
    clear HS
    go_wp2_with (first | ((with_reducible refine wp_loop_rounds 3 ?_); rw [rounds_succ]) | rw [rounds_succ])
    refine bodyPost_ret (v := .tuple #[.agg #[.int .i64 0, .int .i64 0], .int .i64 x6]) (by simp [results, Try.results95, go_sem, qa1, qa2, qb1, qb2, qz1, qz2, qo1, qo2, qf0, qf1, z1, z2, z3, z4]) rfl ⟨by simp [hullOf, hullGo, hx6], ?_⟩
    have h2 : w.heap.size ≤ w.heap.size + 1 + 1 := by omega
    exact (HK.out.1.setCell h2 _).setCell h2 _
  subst hx6
  go_wp2_with (first | ((with_reducible refine wp_loop_rounds 3 ?_); rw [rounds_succ]) | rw [rounds_succ])
  refine (T7.out _).mono ?_
  rintro e w8 ⟨rfl, hb⟩
  have h3 : w.heap.size ≤ w.heap.size + 1 + 1 + 1 := by omega
  have hK : Knows w.heap.size w [(⟨w.heap.size, 0, none⟩, .int .i64 a1), (⟨w.heap.size, 1, none⟩, .int .i64 a2), (⟨w.heap.size + 1, 0, none⟩, .int .i64 b1), (⟨w.heap.size + 1, 1, none⟩, .int .i64 b2), (⟨w.heap.size + 1 + 1, 0, none⟩, .int .i64 0), (⟨w.heap.size + 1 + 1, 1, none⟩, .int .i64 0), (⟨w.heap.size + 1 + 1 + 1, 0, none⟩, .int .i64 (min (min (min (min (min (min n0 n1) n2) n3) n4) n5) n6)), (⟨w.heap.size + 1 + 1 + 1, 1, none⟩, .int .i64 (max (max (max (max (max (max n0 n1) n2) n3) n4) n5) n6)), (⟨gb, 0, none⟩, .func (.func f) #[] #[]), (⟨gb, 1, none⟩, .func (.func h) #[] #[])] [⟨w.heap.size + 1 + 1, 0, none⟩, ⟨w.heap.size + 1 + 1, 1, none⟩, ⟨w.heap.size + 1 + 1 + 1, 0, none⟩, ⟨w.heap.size + 1 + 1 + 1, 1, none⟩] w8 := by
    refine Knows.call ⟨((HK.out.1).setCell h3 _).setCell h3 _, by simpa using hsz, ?_, ?_⟩ hb
    · first | (simp [Cells, go_sem, lq0, ln0, qa1, qa2, qb1, qb2, qz1, qz2, qo1, qo2, qf0, qf1, z1, z2, z3, z4]; done) | (simp [Cells, go_sem, lq0, ln0, qa1, qa2, qb1, qb2, qz1, qz2, qo1, qo2, qf0, qf1, z1, z2, z3, z4]; rw [World.cell?_setCell_same' _ _ _ (by simp [isSome_set, qo2])])
    · have := lz.out; simp [Frees, go_sem, qa1, qa2, qb1, qb2, qz1, qz2, qo1, qo2, qf0, qf1, z1, z2, z3, z4]; omega
  clear hb h3 HK hsz lz qa1 qa2 qb1 qb2 qz1 qz2 qo1 qo2 qf0 qf1 z1 z2 z3 z4
  have HK := Lib.hid hK
  have lz := Lib.hid (World.block_lt_of_cell? w8 _ hK.2.2.1.2.2.2.2.2.2.1)
  obtain ⟨-, hsz, ⟨qa1, qa2, qb1, qb2, qz1, qz2, qo1, qo2, qf0, qf1, -⟩, ⟨-, z1⟩, ⟨-, z2⟩, ⟨-, z3⟩, ⟨-, z4⟩, -⟩ := hK
  by_cases hx7 : x7 = 0
  case' neg =>
    have hx7b : (x7 != 0) = true := bne_iff_ne.2 hx7
    clear HS
    go_wp2_with (first | ((with_reducible refine wp_loop_rounds 3 ?_); rw [rounds_succ]) | rw [rounds_succ])
    refine bodyPost_ret (v := .tuple #[.agg #[.int .i64 0, .int .i64 0], .int .i64 x7]) (by simp [results, Try.results95, go_sem, qa1, qa2, qb1, qb2, qz1, qz2, qo1, qo2, qf0, qf1, z1, z2, z3, z4]) rfl ⟨by simp [hullOf, hullGo, hx7], ?_⟩
    have h2 : w.heap.size ≤ w.heap.size + 1 + 1 := by omega
    exact (HK.out.1.setCell h2 _).setCell h2 _
  subst hx7
  go_wp2_with (first | ((with_reducible refine wp_loop_rounds 3 ?_); rw [rounds_succ]) | rw [rounds_succ])
  have h3 : w.heap.size ≤ w.heap.size + 1 + 1 + 1 := by omega
  have h2 : w.heap.size ≤ w.heap.size + 1 + 1 := by omega
  refine bodyPost_ret (v := .tuple #[.agg #[.int .i64 (min (min (min (min (min (min (min n0 n1) n2) n3) n4) n5) n6) n7), .int .i64 (max (max (max (max (max (max (max n0 n1) n2) n3) n4) n5) n6) n7)], .int .i64 0]) (by simp [results, Try.results95, go_sem, qa1, qa2, qb1, qb2, qz1, qz2, qo1, qo2, qf0, qf1, z1, z2, z3, z4]) rfl ⟨by simp [hullOf, hullGo], ?_⟩
  exact ((((HK.out.1).setCell h3 _).setCell h3 _).setCell h2 _).setCell h2 _
end Go.Proofs.Ytkdfkpalgejkkaa
/-
  root.Root.
-/
set_option linter.unusedSimpArgs false
namespace Go.Proofs.Ytkdfkpalgejkkaa
open Go.RowKit Go.Shelf

set_option maxHeartbeats 4000000 in
set_option maxRecDepth 100000 in
theorem root1_c (g : Nat) (a x : Int) (hx : Word x) (w : World) (c0 : w.cell? ⟨g, 0, none⟩ = some (.int .u64 (hiW a))) (c1 : w.cell? ⟨g, 1, none⟩ = some (.int .u64 (loW a))) :
    Calls Try.prog 99 #[.int .u64 x, .pointer (some ⟨g, 0, none⟩)] w fun e w' => e = .returned (.bool (decide (x * x ≤ a))) ∧ Below w.heap.size w w' := by
  have hm := word_mul hx hx
  have hd : (!decide (a < x * x)) = decide (x * x ≤ a) := by
    by_cases h : a < x * x
    · rw [decide_eq_true h, decide_eq_false (by omega)]; rfl
    · rw [decide_eq_false h, decide_eq_true (by omega)]; rfl
  rw [← hd]
  clear hd
  go_enter Try.func99, Try.ntmps99
  go_wp2_with fail
  go_region_held3 (fun w' => w'.cell? ⟨g, 0, none⟩ = some (.int .u64 (hiW a)) ∧ w'.cell? ⟨g, 1, none⟩ = some (.int .u64 (loW a)) ∧ Below w.heap.size w w')
      ((first | (go_split_ands; refine ⟨?_, ?_, ?_⟩ <;> assumption) | (go_split_ands; refine ⟨?_, ?_, ?_⟩ <;> first | exact keep_cell hbw (by assumption) | exact below_then_ (by assumption) (Below.size (by assumption)) hbw) | (refine ⟨?_, ?_, ?_⟩ <;> first | exact Below.drew (Below.refl _ _) | (simp [go_sem, *]; done))))
      (first | (go_at_call 49; ((with_reducible refine (wide_Mul_c _ _ hx hx _).mono ?_); rintro e w' ⟨rfl, hbw⟩)) | (go_at_call 50; ((with_reducible refine (wide_Less_c a (x * x) _).mono ?_); rintro e w' ⟨rfl, hbw⟩)))
  go_split_ands
  go_wp2
  go_ret
  exact ⟨rfl, by assumption⟩

theorem blen_zero (x : Nat) (h : x < 18446744073709551616) : Lib.bitLen x = 0 ↔ x = 0 := by
  constructor
  · intro z
    have := (blen_spec x h).1
    rw [z] at this
    omega
  · rintro rfl; decide
theorem or_low {x : Int} (hx : Word x) : Go.bits .or .u64 4294967295 (x / 4294967296) = 4294967295 := by
  obtain ⟨X, rfl⟩ := Int.eq_ofNat_of_zero_le hx.1
  have hX := hx.2
  have h := u64_or_nat 4294967295 (X / 4294967296) (by omega) (by omega)
  have e : 4294967295 ||| X / 4294967296 = 4294967295 := by
    have h1 : X / 4294967296 < 2 ^ 32 := by omega
    apply Nat.eq_of_testBit_eq
    intro i
    rw [Nat.testBit_or]
    by_cases hi : i < 32
    · rw [show (4294967295 : Nat) = 2 ^ 32 - 1 by rfl, Nat.testBit_two_pow_sub_one]; simp [hi]
    · rw [Nat.testBit_lt_two_pow (Nat.lt_of_lt_of_le h1 (Nat.pow_le_pow_right (by omega) (by omega)))]; simp
  rw [e] at h
  exact h

set_option maxHeartbeats 4000000 in
set_option maxRecDepth 100000 in
theorem root_Root_c (a : Int) (ha : Wide a) (w : World) :
    Calls Try.prog 61 #[wv a] w fun e w' => e = .returned (.int .u64 (isqrt a)) ∧ Below w.heap.size w w' := by
  have hmf : ∀ (fn : Fn) (first cap : Array Value) (w : World), (Instr.makeFunc fn first cap).run Try.prog w = .ok (.func fn first cap) w := fun _ _ _ _ => rfl
  have eg := enters_of Try.func99 (by kernel_rfl) rfl
  have hh := word_hiW ha
  have hl := word_loW a
  have hr := isqrt_word ha
  obtain ⟨n, hn⟩ : ∃ n : Int, (Lib.bitLen (hiW a).toNat : Int) = n := ⟨_, rfl⟩
  have hz : n = 0 ↔ hiW a = 0 := by
    have := blen_zero (hiW a).toNat (by unfold Word at hh; omega)
    unfold Word at hh; omega
  have HL : Hid (∀ W, Calls Try.prog 100 #[.int .u64 (hiW a)] W fun e w' => e = .returned (.int .i64 n) ∧ w' = W) := Lib.hid (fun W => by
    rw [← hn]; exact Try.bits_Len64 (hiW a) W hh.1 (by unfold Word at hh; omega))
  obtain ⟨G, hG⟩ : ∃ G : World → Prop, G = fun W => W.cell? ⟨w.heap.size, 0, none⟩ = some (.int .u64 (hiW a)) ∧ W.cell? ⟨w.heap.size, 1, none⟩ = some (.int .u64 (loW a)) := ⟨_, rfl⟩
  have HC : Hid (∀ (x : Int) (W : World), Word x → G W →
      Calls Try.prog 99 #[.int .u64 x, .pointer (some ⟨w.heap.size, 0, none⟩)] W fun e w' => e = .returned (.bool (decide (x * x ≤ a))) ∧ Below W.heap.size W w') :=
    Lib.hid (fun x W hx c => by rw [hG] at c; exact root1_c _ a x hx W c.1 c.2)
  have HK : Hid (∀ W W' : World, G W → Below W.heap.size W W' → G W') := Lib.hid (fun W W' c hb => by rw [hG] at c ⊢; exact ⟨keep_cell hb c.1, keep_cell hb c.2⟩)
  have HG0 : Hid (G (w.alloc (.cells #[.int .u64 (hiW a), .int .u64 (loW a)] 35))) := Lib.hid (by rw [hG]; constructor <;> simp [go_sem])
  clear hG
  have HB0 : Hid (Below w.heap.size w (w.alloc (.cells #[.int .u64 (hiW a), .int .u64 (loW a)] 35))) := Lib.hid ((Below.refl _ _).alloc (Nat.le_refl _) _)
  have HS0 : Hid (w.heap.size < (w.alloc (.cells #[.int .u64 (hiW a), .int .u64 (loW a)] 35)).heap.size) := Lib.hid (by simp)
  have R0 := isqrt_nonneg a
  have hle : Hid (∀ x : Int, 0 ≤ x → (x * x ≤ a ↔ x ≤ isqrt a)) := Lib.hid (fun x hx => (le_isqrt ha.1 hx).symm)
  have hsm : hiW a = 0 → isqrt a ≤ 4294967295 := fun h => by
    have hw := (hiW_eq_zero ha).1 h
    have := isqrt_sq ha.1
    have : isqrt a < 4294967296 := lt_of_sq_lt (by omega) (by have := hw.2; omega)
    omega
  have hol := or_low hl
  show Calls Try.prog 61 #[.agg #[.int .u64 (hiW a), .int .u64 (loW a)]] w _
  generalize hiW a = z at *
  generalize loW a = l at *
  have hr1 : isqrt a ≤ 18446744073709551615 := by unfold Word at hr; omega
  generalize isqrt a = R at *
  clear ha hn hh hl hr
  have h64 : (18446744073709551616 : Int) = 2 ^ 64 := by decide
  by_cases h0 : z = 0
  case' pos =>
    have hn0 : n = 0 := hz.2 h0
    subst hn0
    subst h0
    have HH : Hid ((0 : Int) ≤ 0 ∧ 0 ≤ R ∧ R ≤ 4294967295 ∧ (4294967295 : Int) < 18446744073709551616 ∧ (4294967295 : Int) - 0 < 2 ^ 64) := Lib.hid ⟨by omega, R0, hsm rfl, by omega, by decide⟩
    clear hz R0 hsm hr1 h64
    go_enter Try.func61, Try.ntmps61
    go_wp2_with fail
    go_step3
    go_wp2_with (go_at_call 100; (with_reducible refine (HL.out _).mono ?_); rintro e w' ⟨rfl, rfl⟩)
    go_step3
    go_wp2_with fail
    clear HL hol
    generalize (4294967295 : Int) = hi0 at *
  case' neg =>
    have hn0 : ¬ n = 0 := fun h => h0 (hz.1 h)
    have HH : Hid ((0 : Int) ≤ 0 ∧ 0 ≤ R ∧ R ≤ 18446744073709551615 ∧ (18446744073709551615 : Int) < 18446744073709551616 ∧ (18446744073709551615 : Int) - 0 < 2 ^ 64) := Lib.hid ⟨by omega, R0, hr1, by omega, by decide⟩
    clear hz R0 hsm hr1 h64 hol h0
    go_enter Try.func61, Try.ntmps61
    go_wp2_with fail
    go_step3
    go_wp2_with (go_at_call 100; (with_reducible refine (HL.out _).mono ?_); rintro e w' ⟨rfl, rfl⟩)
    go_step3
    go_wp2_with fail
    have hq : (n == 0) = false := by simpa using hn0
    simp only [hq]
    clear HL
    generalize (18446744073709551615 : Int) = hi0 at *
  all_goals
    go_loopg [4, 5] 64 (fun k v4 v5 wx => ∃ lo hi : Int, v4 = .int .u64 lo ∧ v5 = .int .u64 hi ∧ Hid (0 ≤ lo ∧ lo ≤ R ∧ R ≤ hi ∧ hi < 18446744073709551616 ∧ hi - lo < 2 ^ k) ∧ Hid (G wx) ∧ Hid (Below w.heap.size w wx) ∧ Hid (w.heap.size < wx.heap.size))
    case atStart => exact ⟨0, hi0, rfl, rfl, HH, HG0, HB0, HS0⟩
    case round =>
      clear HG0 HB0 HS0 HH
      obtain ⟨lo, hi, rfl, rfl, H1, HG, HB, HS⟩ := hrel
      obtain ⟨q1, q2, q3, q4, q5⟩ := H1.out
      by_cases e : lo = hi
      · subst e
        obtain rfl : lo = R := by omega
        clear H1 q1 q2 q3 q4 q5
        go_wp2
        simp only [Exit.noGoto_ret]
        go_ret
        exact ⟨rfl, HB.out⟩
      · obtain ⟨k, rfl⟩ : ∃ k, gk = k + 1 := ⟨gk - 1, by
          by_cases z : gk = 0
          · subst z; simp at q5; omega
          · omega⟩
        have hmid : lo < hi - (hi - lo) / 2 ∧ hi - (hi - lo) / 2 ≤ hi ∧ hi - (hi - (hi - lo) / 2) < 2 ^ k ∧ hi - (hi - lo) / 2 - 1 - lo < 2 ^ k := by
          have : (2 : Int) ^ (k + 1) = 2 ^ k * 2 := Int.pow_succ 2 k
          refine ⟨?_, ?_, ?_, ?_⟩ <;> omega
        have HM := Lib.hid hmid
        clear hmid
        go_wp2_with fail
        obtain ⟨m1, m2, m3, m4⟩ := HM.out
        clear HM
        generalize hi - (hi - lo) / 2 = mid at *
        refine (HC.out mid wr ⟨by omega, by omega⟩ HG.out).mono ?_
        rintro ee w' ⟨rfl, hbw⟩
        have HG' := Lib.hid (HK.out _ _ HG.out hbw)
        have HB' := Lib.hid (below_then_ HB.out (Nat.le_of_lt HS.out) hbw)
        have HS' := Lib.hid (Nat.lt_of_lt_of_le HS.out hbw.size)
        have ht := hle.out mid (by omega)
        by_cases t : mid * mid ≤ a
        · have H2 : Hid (0 ≤ mid ∧ mid ≤ R ∧ R ≤ hi ∧ hi < 18446744073709551616 ∧ hi - mid < 2 ^ k) := Lib.hid ⟨by omega, ht.1 t, q3, q4, m3⟩
          clear ht m1 m2 m3 m4 q1 q2 q3 q4 q5 H1 hbw e
          go_wp2
          go_roundg k
          case measure => omega
          case rel => exact ⟨mid, hi, rfl, rfl, H2, HG', HB', HS'⟩
        · have H2 : Hid (0 ≤ lo ∧ lo ≤ R ∧ R ≤ mid - 1 ∧ mid - 1 < 18446744073709551616 ∧ mid - 1 - lo < 2 ^ k) := Lib.hid ⟨q1, q2, by
            by_cases z : mid ≤ R
            · exact absurd (ht.2 z) t
            · omega, by omega, m4⟩
          clear ht m3 m4 q2 q3 q5 H1 hbw e
          go_wp2
          go_roundg k
          case measure => omega
          case rel => exact ⟨lo, mid - 1, rfl, rfl, H2, HG', HB', HS'⟩

/-! ### In the printed form -/
def root_Root.f (h l : Int) : Option Int := if Word h ∧ Word l then some (isqrt (ofW h l)) else none
theorem root_Root.f_eq {a : Int} (ha : Wide a) : root_Root.f (hiW a) (loW a) = some (isqrt a) := by unfold root_Root.f; rw [if_pos ⟨word_hiW ha, word_loW a⟩, ofW_hiW_loW]
theorem root_Root.calls (h l r : Int) (w : World) (hf : root_Root.f h l = some r) :
    Calls Try.prog 61 #[.agg #[.int .u64 h, .int .u64 l]] w fun e w' => e = .returned (.int .u64 r) ∧ Below w.heap.size w w' := by
  unfold root_Root.f at hf
  split at hf
  · rename_i hw
    cases hf
    rw [← wv_ofW hw.2]
    exact root_Root_c _ (wide_ofW hw.1 hw.2) w
  · cases hf
def divide_Div.f (ah al bh bl : Int) : Option (Int × Int × Int × Int × Int) := if (Word ah ∧ Word al) ∧ Word bh ∧ Word bl then (if ofW bh bl = 0 then some (0, 0, 0, 0, 4) else some (hiW (ofW ah al / ofW bh bl), loW (ofW ah al / ofW bh bl), hiW (ofW ah al % ofW bh bl), loW (ofW ah al % ofW bh bl), 0)) else none
theorem divide_Div.calls (ah al bh bl r1 r2 r3 r4 r5 : Int) (w : World) (h : divide_Div.f ah al bh bl = some (r1, r2, r3, r4, r5)) :
    Calls Try.prog 110 #[.agg #[.int .u64 ah, .int .u64 al], .agg #[.int .u64 bh, .int .u64 bl]] w fun e w' => e = .returned (.tuple #[.agg #[.int .u64 r1, .int .u64 r2], .agg #[.int .u64 r3, .int .u64 r4], .int .i64 r5]) ∧ Below w.heap.size w w' := by
  unfold divide_Div.f at h
  split at h
  · rename_i hw
    rw [← wv_ofW hw.1.2, ← wv_ofW hw.2.2]
    split at h
    · rename_i hz
      cases h
      rw [hz]
      exact divide_Div_zero _ w
    · rename_i hz
      cases h
      have := wide_ofW hw.2.1 hw.2.2
      exact divide_Div_c _ _ (wide_ofW hw.1.1 hw.1.2) this (by unfold Wide at this; omega) w
  · cases h
end Go.Proofs.Ytkdfkpalgejkkaa
/-
  root.Square and root.Up.
-/
set_option linter.unusedSimpArgs false
namespace Go.Proofs.Ytkdfkpalgejkkaa
open Go.RowKit Go.Shelf

theorem pair_eq (a b : Int) : (hiW a == hiW b && loW a == loW b) = decide (a = b) := by
  by_cases h : a = b
  · subst h; simp
  · rw [decide_eq_false h]
    have : ¬ (hiW a = hiW b ∧ loW a = loW b) := fun ⟨h1, h2⟩ => h (wide_ext h1 h2)
    simpa using this
set_option maxRecDepth 100000 in
theorem root_Square_c (a : Int) (ha : Wide a) (w : World) :
    Calls Try.prog 97 #[wv a] w fun e w' => e = .returned (.bool (decide (isqrt a * isqrt a = a))) ∧ Below w.heap.size w w' := by
  have hr := isqrt_word ha
  have HR := Lib.hid (fun W => root_Root_c a ha W)
  have HM := Lib.hid (fun W => wide_Mul_c (isqrt a) (isqrt a) hr hr W)
  generalize isqrt a = r at *
  clear ha hr
  by_cases e1 : hiW (r * r) = hiW a
  · by_cases e2 : loW (r * r) = loW a
    · rw [show decide (r * r = a) = true from decide_eq_true (wide_ext e1 e2)]
      go_enter Try.func97, Try.ntmps97
      go_wp2_with fail
      refine (HR.out _).mono ?_
      rintro e w1 ⟨rfl, hb1⟩
      have hK : Knows w.heap.size w [(⟨w.heap.size, 0, none⟩, .int .u64 (hiW a)), (⟨w.heap.size, 1, none⟩, .int .u64 (loW a))] [] w1 :=
        Knows.call (W := w.alloc (.cells #[.int .u64 (hiW a), .int .u64 (loW a)] 35)) ⟨(Below.refl _ _).alloc (Nat.le_refl _) _, by simp, ⟨by simp [go_sem], by simp [go_sem], trivial⟩, trivial⟩ hb1
      have HK := Lib.hid hK
      clear hK hb1
      go_wp2_with fail
      refine wp_region_plan (fun _ _ W => Knows w.heap.size w [(⟨w.heap.size, 0, none⟩, .int .u64 (hiW a)), (⟨w.heap.size, 1, none⟩, .int .u64 (loW a))] [] W) 6 (by kernel_rfl) (by kernel_rfl) rfl ?_ ?_
      · exact HK.out.drew
      simp only [List.zipIdx_cons, List.zipIdx_nil, List.map_cons, List.map_nil, Nat.zero_add, Nat.reduceAdd]
      apply inOrder_op rfl rfl
      · intro L g' W _ _ _ hW
        obtain ⟨-, -, ⟨q1, q2, -⟩, -⟩ := id hW
        apply comes_value (hv := rfl) (hD := hW)
        go_simp
        rfl
      simp only [Act.put, List.setIfInBounds_toArray, List.set_cons_zero, List.set_cons_succ]
      apply inOrder_op rfl rfl
      · intro L g' W _ _ _ hW
        obtain ⟨-, -, ⟨q1, q2, -⟩, -⟩ := id hW
        apply comes_value (hv := rfl) (hD := hW)
        go_simp
        rfl
      simp only [Act.put, List.setIfInBounds_toArray, List.set_cons_zero, List.set_cons_succ]
      apply inOrder_op rfl rfl
      · intro L g' W _ _ _ hW
        obtain ⟨-, -, ⟨q1, q2, -⟩, -⟩ := id hW
        apply comes_call
        · go_simp
          first | rfl | exact ⟨rfl, rfl⟩ | exact ⟨⟨rfl, rfl⟩, rfl⟩
        · refine (HM.out W).mono ?_
          rintro e w' ⟨rfl, hb⟩
          exact ⟨rfl, Knows.call hW hb⟩
      simp only [Act.put, List.setIfInBounds_toArray, List.set_cons_zero, List.set_cons_succ]
      apply inOrder_op rfl rfl
      · intro L g' W _ _ _ hW
        obtain ⟨-, -, ⟨q1, q2, -⟩, -⟩ := id hW
        apply comes_value (hv := rfl) (hD := hW)
        go_simp
        rfl
      simp only [Act.put, List.setIfInBounds_toArray, List.set_cons_zero, List.set_cons_succ]
      apply inOrder_op rfl rfl
      · intro L g' W _ _ _ hW
        obtain ⟨-, -, ⟨q1, q2, -⟩, -⟩ := id hW
        apply comes_value (hv := rfl) (hD := hW)
        go_simp
        rfl
      simp only [Act.put, List.setIfInBounds_toArray, List.set_cons_zero, List.set_cons_succ]
      apply inOrder_op rfl rfl
      · intro L g' W _ _ _ hW
        obtain ⟨-, -, ⟨q1, q2, -⟩, -⟩ := id hW
        apply comes_value (hv := rfl) (hD := hW)
        go_simp
        rfl
      simp only [Act.put, List.setIfInBounds_toArray, List.set_cons_zero, List.set_cons_succ]
      refine inOrder_nil ?_
      intro W hW
      have HB := Lib.hid hW.1
      clear hW
      go_wp2
      go_ret
      exact ⟨rfl, HB.out⟩
    · rw [show decide (r * r = a) = false from decide_eq_false (fun h => e2 (by rw [h]))]
      go_enter Try.func97, Try.ntmps97
      go_wp2_with fail
      refine (HR.out _).mono ?_
      rintro e w1 ⟨rfl, hb1⟩
      have hK : Knows w.heap.size w [(⟨w.heap.size, 0, none⟩, .int .u64 (hiW a)), (⟨w.heap.size, 1, none⟩, .int .u64 (loW a))] [] w1 :=
        Knows.call (W := w.alloc (.cells #[.int .u64 (hiW a), .int .u64 (loW a)] 35)) ⟨(Below.refl _ _).alloc (Nat.le_refl _) _, by simp, ⟨by simp [go_sem], by simp [go_sem], trivial⟩, trivial⟩ hb1
      have HK := Lib.hid hK
      clear hK hb1
      go_wp2_with fail
      refine wp_region_plan (fun _ _ W => Knows w.heap.size w [(⟨w.heap.size, 0, none⟩, .int .u64 (hiW a)), (⟨w.heap.size, 1, none⟩, .int .u64 (loW a))] [] W) 6 (by kernel_rfl) (by kernel_rfl) rfl ?_ ?_
      · exact HK.out.drew
      simp only [List.zipIdx_cons, List.zipIdx_nil, List.map_cons, List.map_nil, Nat.zero_add, Nat.reduceAdd]
      apply inOrder_op rfl rfl
      · intro L g' W _ _ _ hW
        obtain ⟨-, -, ⟨q1, q2, -⟩, -⟩ := id hW
        apply comes_value (hv := rfl) (hD := hW)
        go_simp
        rfl
      simp only [Act.put, List.setIfInBounds_toArray, List.set_cons_zero, List.set_cons_succ]
      apply inOrder_op rfl rfl
      · intro L g' W _ _ _ hW
        obtain ⟨-, -, ⟨q1, q2, -⟩, -⟩ := id hW
        apply comes_value (hv := rfl) (hD := hW)
        go_simp
        rfl
      simp only [Act.put, List.setIfInBounds_toArray, List.set_cons_zero, List.set_cons_succ]
      apply inOrder_op rfl rfl
      · intro L g' W _ _ _ hW
        obtain ⟨-, -, ⟨q1, q2, -⟩, -⟩ := id hW
        apply comes_call
        · go_simp
          first | rfl | exact ⟨rfl, rfl⟩ | exact ⟨⟨rfl, rfl⟩, rfl⟩
        · refine (HM.out W).mono ?_
          rintro e w' ⟨rfl, hb⟩
          exact ⟨rfl, Knows.call hW hb⟩
      simp only [Act.put, List.setIfInBounds_toArray, List.set_cons_zero, List.set_cons_succ]
      apply inOrder_op rfl rfl
      · intro L g' W _ _ _ hW
        obtain ⟨-, -, ⟨q1, q2, -⟩, -⟩ := id hW
        apply comes_value (hv := rfl) (hD := hW)
        go_simp
        rfl
      simp only [Act.put, List.setIfInBounds_toArray, List.set_cons_zero, List.set_cons_succ]
      apply inOrder_op rfl rfl
      · intro L g' W _ _ _ hW
        obtain ⟨-, -, ⟨q1, q2, -⟩, -⟩ := id hW
        apply comes_value (hv := rfl) (hD := hW)
        go_simp
        rfl
      simp only [Act.put, List.setIfInBounds_toArray, List.set_cons_zero, List.set_cons_succ]
      apply inOrder_op rfl rfl
      · intro L g' W _ _ _ hW
        obtain ⟨-, -, ⟨q1, q2, -⟩, -⟩ := id hW
        apply comes_value (hv := rfl) (hD := hW)
        go_simp
        rfl
      simp only [Act.put, List.setIfInBounds_toArray, List.set_cons_zero, List.set_cons_succ]
      refine inOrder_nil ?_
      intro W hW
      have HB := Lib.hid hW.1
      clear hW
      go_wp2
      go_ret
      exact ⟨rfl, HB.out⟩
  · rw [show decide (r * r = a) = false from decide_eq_false (fun h => e1 (by rw [h]))]
    go_enter Try.func97, Try.ntmps97
    go_wp2_with fail
    refine (HR.out _).mono ?_
    rintro e w1 ⟨rfl, hb1⟩
    have hK : Knows w.heap.size w [(⟨w.heap.size, 0, none⟩, .int .u64 (hiW a)), (⟨w.heap.size, 1, none⟩, .int .u64 (loW a))] [] w1 :=
      Knows.call (W := w.alloc (.cells #[.int .u64 (hiW a), .int .u64 (loW a)] 35)) ⟨(Below.refl _ _).alloc (Nat.le_refl _) _, by simp, ⟨by simp [go_sem], by simp [go_sem], trivial⟩, trivial⟩ hb1
    have HK := Lib.hid hK
    clear hK hb1
    go_wp2_with fail
    refine wp_region_plan (fun _ _ W => Knows w.heap.size w [(⟨w.heap.size, 0, none⟩, .int .u64 (hiW a)), (⟨w.heap.size, 1, none⟩, .int .u64 (loW a))] [] W) 6 (by kernel_rfl) (by kernel_rfl) rfl ?_ ?_
    · exact HK.out.drew
    simp only [List.zipIdx_cons, List.zipIdx_nil, List.map_cons, List.map_nil, Nat.zero_add, Nat.reduceAdd]
    apply inOrder_op rfl rfl
    · intro L g' W _ _ _ hW
      obtain ⟨-, -, ⟨q1, q2, -⟩, -⟩ := id hW
      apply comes_value (hv := rfl) (hD := hW)
      go_simp
      rfl
    simp only [Act.put, List.setIfInBounds_toArray, List.set_cons_zero, List.set_cons_succ]
    apply inOrder_op rfl rfl
    · intro L g' W _ _ _ hW
      obtain ⟨-, -, ⟨q1, q2, -⟩, -⟩ := id hW
      apply comes_value (hv := rfl) (hD := hW)
      go_simp
      rfl
    simp only [Act.put, List.setIfInBounds_toArray, List.set_cons_zero, List.set_cons_succ]
    apply inOrder_op rfl rfl
    · intro L g' W _ _ _ hW
      obtain ⟨-, -, ⟨q1, q2, -⟩, -⟩ := id hW
      apply comes_call
      · go_simp
        first | rfl | exact ⟨rfl, rfl⟩ | exact ⟨⟨rfl, rfl⟩, rfl⟩
      · refine (HM.out W).mono ?_
        rintro e w' ⟨rfl, hb⟩
        exact ⟨rfl, Knows.call hW hb⟩
    simp only [Act.put, List.setIfInBounds_toArray, List.set_cons_zero, List.set_cons_succ]
    apply inOrder_op rfl rfl
    · intro L g' W _ _ _ hW
      obtain ⟨-, -, ⟨q1, q2, -⟩, -⟩ := id hW
      apply comes_value (hv := rfl) (hD := hW)
      go_simp
      rfl
    simp only [Act.put, List.setIfInBounds_toArray, List.set_cons_zero, List.set_cons_succ]
    apply inOrder_op rfl rfl
    · intro L g' W _ _ _ hW
      obtain ⟨-, -, ⟨q1, q2, -⟩, -⟩ := id hW
      apply comes_value (hv := rfl) (hD := hW)
      go_simp
      rfl
    simp only [Act.put, List.setIfInBounds_toArray, List.set_cons_zero, List.set_cons_succ]
    apply inOrder_op rfl rfl
    · intro L g' W _ _ _ hW
      obtain ⟨-, -, ⟨q1, q2, -⟩, -⟩ := id hW
      apply comes_value (hv := rfl) (hD := hW)
      go_simp
      rfl
    simp only [Act.put, List.setIfInBounds_toArray, List.set_cons_zero, List.set_cons_succ]
    refine inOrder_nil ?_
    intro W hW
    have HB := Lib.hid hW.1
    clear hW
    go_wp2
    go_ret
    exact ⟨rfl, HB.out⟩
theorem usqrt_wide {a : Int} (ha : Wide a) : Wide (usqrt a) := by
  have h := isqrt_word ha
  have h1 := usqrt_le_isqrt a
  have h2 := usqrt_nonneg a
  unfold Word at h; unfold Wide; omega
set_option maxRecDepth 100000 in
theorem root_Up_c (a : Int) (ha : Wide a) (w : World) :
    Calls Try.prog 60 #[wv a] w fun e w' => e = .returned (wv (usqrt a)) ∧ Below w.heap.size w w' := by
  have hr := isqrt_word ha
  have HR := Lib.hid (fun W => root_Root_c a ha W)
  have HS := Lib.hid (fun W => root_Square_c a ha W)
  have HA := Lib.hid (fun W => wide_Add_c (isqrt a) 1 hr.wide (by decide) W)
  have hwv : (Value.agg #[.int .u64 0, .int .u64 (isqrt a)]) = wv (isqrt a) := by unfold wv; rw [hiW_small hr, loW_small hr]
  have h1 : (isqrt a + 1) % 340282366920938463463374607431768211456 = isqrt a + 1 := mod_wide (by unfold Word at hr; unfold Wide; omega)
  rw [h1] at HA
  have hU : usqrt a = if decide (isqrt a * isqrt a = a) = true then isqrt a else isqrt a + 1 := by unfold usqrt; simp
  generalize usqrt a = u at *
  generalize decide (isqrt a * isqrt a = a) = sq at *
  have e0 : hiW (isqrt a) = 0 := hiW_small hr
  have e1 : loW (isqrt a) = isqrt a := loW_small hr
  have l1 : hiW 1 = 0 := by decide
  have l2 : loW 1 = 1 := by decide
  generalize isqrt a = r at *
  rw [show wv r = .agg #[.int .u64 0, .int .u64 r] by unfold wv; rw [e0, e1], show wv 1 = .agg #[.int .u64 0, .int .u64 1] by unfold wv; rw [l1, l2]] at HA
  have HU := Lib.hid hU
  have HE0 := Lib.hid e0
  have HE1 := Lib.hid e1
  clear ha hr h1 hwv hU l1 l2 e0 e1
  go_enter Try.func60, Try.ntmps60
  go_wp2_with fail
  refine (HR.out _).mono ?_
  rintro e w1 ⟨rfl, hb1⟩
  have hK : Knows w.heap.size w [(⟨w.heap.size, 0, none⟩, .int .u64 (hiW a)), (⟨w.heap.size, 1, none⟩, .int .u64 (loW a)), (⟨w.heap.size + 1, 0, none⟩, .int .u64 0), (⟨w.heap.size + 1, 1, none⟩, .int .u64 0)] [⟨w.heap.size + 1, 0, none⟩, ⟨w.heap.size + 1, 1, none⟩] w1 :=
    Knows.call (W := (w.alloc (.cells #[.int .u64 (hiW a), .int .u64 (loW a)] 35)).alloc (.cells #[.int .u64 0, .int .u64 0] 35)) ⟨((Below.refl _ _).alloc (Nat.le_refl _) _).alloc (by simp) _, by simp; omega, ⟨by simp [go_sem], by simp [go_sem], by simp [go_sem], by simp [go_sem], trivial⟩, ⟨by simp, by simp [go_sem]⟩, ⟨by simp, by simp [go_sem]⟩, trivial⟩ hb1
  obtain ⟨hB, hs, ⟨c0, c1, c2, c3, -⟩, ⟨hl, z2⟩, ⟨-, z3⟩, -⟩ := hK
  have hl' : w.heap.size < w1.heap.size := World.block_lt_of_cell? w1 _ c0
  have hB' := Lib.hid hB
  clear hb1 hB
  simp only [] at hl
  go_wp2_with fail
  refine (HS.out _).mono ?_
  rintro e w2 ⟨rfl, hb2⟩
  have hK2 : Knows w.heap.size w [(⟨w.heap.size + 1, 0, none⟩, .int .u64 0), (⟨w.heap.size + 1, 1, none⟩, .int .u64 0), (⟨w1.heap.size, 0, none⟩, .int .u64 0), (⟨w1.heap.size, 1, none⟩, .int .u64 r)] [⟨w.heap.size + 1, 0, none⟩, ⟨w.heap.size + 1, 1, none⟩, ⟨w1.heap.size, 0, none⟩, ⟨w1.heap.size, 1, none⟩] w2 :=
    Knows.call (W := w1.alloc (.cells #[.int .u64 0, .int .u64 r] 35)) ⟨hB'.out.alloc (by omega) _, by simp; omega, ⟨alloc_cell c2 _, alloc_cell c3 _, by simp [go_sem], by simp [go_sem], trivial⟩, ⟨by simp; omega, by simp [go_sem, hl, z2]⟩, ⟨by simp; omega, by simp [go_sem, hl, z3]⟩, ⟨by simp, by simp [go_sem]⟩, ⟨by simp, by simp [go_sem]⟩, trivial⟩ hb2
  clear hB' hb2 hs c0 c1 c2 c3 z2 z3
  have HK2 := Lib.hid hK2
  obtain ⟨hB, hs, ⟨c2, c3, c4, c5, -⟩, ⟨-, z2⟩, ⟨-, z3⟩, ⟨-, z4⟩, ⟨-, z5⟩, -⟩ := hK2
  have HB := Lib.hid hB
  clear hB
  cases sq
  · go_wp2_with fail
    refine (HA.out _).mono ?_
    rintro e w3 ⟨rfl, hb3⟩
    have hK3 := HK2.out.call hb3
    clear HK2 HB hb3 c2 c3 c4 c5 z2 z3 z4 z5
    obtain ⟨hB, hs', ⟨c2, c3, c4, c5, -⟩, ⟨-, z2⟩, ⟨-, z3⟩, ⟨-, z4⟩, ⟨-, z5⟩, -⟩ := hK3
    have HB := Lib.hid hB
    clear hB
    have hne : ¬ w1.heap.size = w.heap.size + 1 := by omega
    have hne' : ¬ w.heap.size + 1 = w1.heap.size := by omega
    have hu : u = r + 1 := by have := HU.out; simpa using this
    subst hu
    clear HU
    go_wp2
    refine bodyPost_ret (v := wv (r + 1)) (by simp [results, Try.results60, go_sem, c2, c3, c4, c5, z2, z3, z4, z5, hne, hne']) rfl ⟨rfl, ?_⟩
    exact (((HB.out.setCell (by simp; omega) _).setCell (by simp; omega) _).setCell (by simp) _).setCell (by simp) _
  · have hu : u = r := by have := HU.out; simpa using this
    subst hu
    clear HU
    go_wp2
    refine bodyPost_ret (v := wv u) (by simp [results, Try.results60, go_sem, c2, c3, c4, c5, z2, z3, z4, z5, wv, HE0.out, HE1.out]) rfl ⟨rfl, ?_⟩
    exact (HB.out.setCell (by simp) _).setCell (by simp) _
end Go.Proofs.Ytkdfkpalgejkkaa
/-
  span: Add, Sub, Mul, Div and Root.
-/
set_option linter.unusedSimpArgs false
namespace Go.Proofs.Ytkdfkpalgejkkaa
open Go.RowKit Go.Shelf

theorem may_bad (a1 a2 b1 b2 : Int) (sl : Value) (h : ¬ (a1 ≤ a2 ∧ b1 ≤ b2)) (w : World) :
    Calls Try.prog 54 #[.agg #[.int .i64 a1, .int .i64 a2], .agg #[.int .i64 b1, .int .i64 b2], sl] w fun e w' => e = .returned (.tuple #[.agg #[.int .i64 0, .int .i64 0], .int .i64 1]) ∧ Below w.heap.size w w' := by
  have HA := Lib.hid (fun W => spanRight_c a1 a2 W)
  have HB := Lib.hid (fun W => spanRight_c b1 b2 W)
  obtain ⟨x, hx⟩ : ∃ x, decide (a1 ≤ a2) = x := ⟨_, rfl⟩
  obtain ⟨y, hy⟩ : ∃ y, decide (b1 ≤ b2) = y := ⟨_, rfl⟩
  rw [hx] at HA
  rw [hy] at HB
  have hxy : x = false ∨ y = false := by
    rcases Decidable.not_and_iff_not_or_not.1 h with h | h
    · exact .inl (by rw [← hx]; exact decide_eq_false h)
    · exact .inr (by rw [← hy]; exact decide_eq_false h)
  clear h hx hy
  go_enter Try.func54, Try.ntmps54
  go_wp2_with fail
  refine (HA.out _).mono ?_
  rintro e w1 ⟨rfl, hb⟩
  have hK : Knows w.heap.size w [(⟨w.heap.size + 1, 0, none⟩, .int .i64 b1), (⟨w.heap.size + 1, 1, none⟩, .int .i64 b2), (⟨w.heap.size + 1 + 1, 0, none⟩, .int .i64 0), (⟨w.heap.size + 1 + 1, 1, none⟩, .int .i64 0)] [⟨w.heap.size + 1 + 1, 0, none⟩, ⟨w.heap.size + 1 + 1, 1, none⟩] w1 :=
    Knows.call (W := ((w.alloc (.cells #[.int .i64 a1, .int .i64 a2] 23)).alloc (.cells #[.int .i64 b1, .int .i64 b2] 23)).alloc (.cells #[.int .i64 0, .int .i64 0] 23)) ⟨((((Below.refl _ _).alloc (Nat.le_refl _) _).alloc (by simp) _).alloc (by simp; omega) _), by simp; omega, by simp [Cells, go_sem], by simp [Frees, go_sem]⟩ hb
  clear hb
  have h2 : w.heap.size ≤ w.heap.size + 1 + 1 := by omega
  have H2 := Lib.hid h2
  clear h2
  have HK := Lib.hid hK
  obtain ⟨-, -, ⟨q1, q2, q3, q4, -⟩, ⟨-, z1⟩, ⟨-, z2⟩, -⟩ := hK
  cases x with
  | false =>
    go_wp2_with fail
    refine bodyPost_ret (v := .tuple #[.agg #[.int .i64 0, .int .i64 0], .int .i64 1]) (by simp [results, Try.results54, go_sem, q1, q2, q3, q4, z1, z2]) rfl ⟨rfl, ?_⟩
    exact (HK.out.1.setCell H2.out _).setCell H2.out _
  | true =>
    obtain rfl : y = false := by simpa using hxy
    clear hxy
    go_wp2_with fail
    refine (HB.out _).mono ?_
    rintro e w2 ⟨rfl, hb⟩
    have hK2 := HK.out.call hb
    clear HK hb q1 q2 q3 q4 z1 z2
    have HK := Lib.hid hK2
    obtain ⟨-, -, ⟨q1, q2, q3, q4, -⟩, ⟨-, z1⟩, ⟨-, z2⟩, -⟩ := hK2
    go_wp2_with fail
    refine bodyPost_ret (v := .tuple #[.agg #[.int .i64 0, .int .i64 0], .int .i64 1]) (by simp [results, Try.results54, go_sem, q1, q2, q3, q4, z1, z2]) rfl ⟨rfl, ?_⟩
    exact (HK.out.1.setCell H2.out _).setCell H2.out _

theorem may_ok (a1 a2 b1 b2 r1 r2 r3 : Int) (sl : Value) (ha : a1 ≤ a2) (hb : b1 ≤ b2) (w : World)
    (hh : ∀ W, Below w.heap.size w W → Calls Try.prog 95 #[.agg #[.int .i64 a1, .int .i64 a2], .agg #[.int .i64 b1, .int .i64 b2], sl] W fun e w' => e = .returned (.tuple #[.agg #[.int .i64 r1, .int .i64 r2], .int .i64 r3]) ∧ Below W.heap.size W w') :
    Calls Try.prog 54 #[.agg #[.int .i64 a1, .int .i64 a2], .agg #[.int .i64 b1, .int .i64 b2], sl] w fun e w' => e = .returned (.tuple #[.agg #[.int .i64 r1, .int .i64 r2], .int .i64 r3]) ∧ Below w.heap.size w w' := by
  have HA : Hid (∀ W, Calls Try.prog 56 #[.agg #[.int .i64 a1, .int .i64 a2]] W fun e w' => e = .returned (.bool true) ∧ Below W.heap.size W w') := Lib.hid (fun W => decide_eq_true ha ▸ spanRight_c a1 a2 W)
  have HB : Hid (∀ W, Calls Try.prog 56 #[.agg #[.int .i64 b1, .int .i64 b2]] W fun e w' => e = .returned (.bool true) ∧ Below W.heap.size W w') := Lib.hid (fun W => decide_eq_true hb ▸ spanRight_c b1 b2 W)
  have HH := Lib.hid hh
  clear hh ha hb
  go_enter Try.func54, Try.ntmps54
  go_wp2_with fail
  refine (HA.out _).mono ?_
  rintro e w1 ⟨rfl, hb⟩
  have hK : Knows w.heap.size w [(⟨w.heap.size, 0, none⟩, .int .i64 a1), (⟨w.heap.size, 1, none⟩, .int .i64 a2), (⟨w.heap.size + 1, 0, none⟩, .int .i64 b1), (⟨w.heap.size + 1, 1, none⟩, .int .i64 b2), (⟨w.heap.size + 1 + 1, 0, none⟩, .int .i64 0), (⟨w.heap.size + 1 + 1, 1, none⟩, .int .i64 0)] [⟨w.heap.size + 1 + 1, 0, none⟩, ⟨w.heap.size + 1 + 1, 1, none⟩] w1 :=
    Knows.call (W := ((w.alloc (.cells #[.int .i64 a1, .int .i64 a2] 23)).alloc (.cells #[.int .i64 b1, .int .i64 b2] 23)).alloc (.cells #[.int .i64 0, .int .i64 0] 23)) ⟨((((Below.refl _ _).alloc (Nat.le_refl _) _).alloc (by simp) _).alloc (by simp; omega) _), by simp; omega, by simp [Cells, go_sem], by simp [Frees, go_sem]⟩ hb
  clear hb HA
  have h2 : w.heap.size ≤ w.heap.size + 1 + 1 := by omega
  have H2 := Lib.hid h2
  clear h2
  have HK := Lib.hid hK
  obtain ⟨-, -, ⟨q5, q6, q1, q2, q3, q4, -⟩, -⟩ := hK
  go_wp2_with fail
  refine (HB.out _).mono ?_
  rintro e w2 ⟨rfl, hb⟩
  have hK2 := HK.out.call hb
  clear HK hb HB q1 q2 q3 q4 q5 q6
  have HK := Lib.hid hK2
  obtain ⟨-, -, ⟨q5, q6, q1, q2, q3, q4, -⟩, -⟩ := hK2
  go_wp2_with fail
  refine (HH.out _ HK.out.1).mono ?_
  rintro e w3 ⟨rfl, hb⟩
  have hK2 := HK.out.call hb
  clear HK hb HH q1 q2 q3 q4 q5 q6
  have HK := Lib.hid hK2
  obtain ⟨-, -, ⟨q5, q6, q1, q2, q3, q4, -⟩, ⟨-, z1⟩, ⟨-, z2⟩, -⟩ := hK2
  go_wp2_with fail
  refine bodyPost_ret (v := .tuple #[.agg #[.int .i64 r1, .int .i64 r2], .int .i64 r3]) (by simp [results, Try.results54, go_sem, q1, q2, q3, q4, q5, q6, z1, z2]) rfl ⟨rfl, ?_⟩
  exact (HK.out.1.setCell H2.out _).setCell H2.out _


/-- Add, whatever the spans are. -/
def zAdd (a1 a2 b1 b2 : Int) : Int × Int × Int := if a1 ≤ a2 ∧ b1 ≤ b2 then hullOf [(fun x y => fit (x + y)) a1 b1, (fun x y => fit (x + y)) a1 b2, (fun x y => fit (x + y)) a2 b1, (fun x y => fit (x + y)) a2 b2] else (0, 0, 1)
theorem spanAdd_c (a1 a2 b1 b2 : Int) (ha1 : IsInt a1) (ha2 : IsInt a2) (hb1 : IsInt b1) (hb2 : IsInt b2) (w : World) :
    Calls Try.prog 34 #[.agg #[.int .i64 a1, .int .i64 a2], .agg #[.int .i64 b1, .int .i64 b2]] w fun e w' => e = .returned (.tuple #[.agg #[.int .i64 (zAdd a1 a2 b1 b2).1, .int .i64 (zAdd a1 a2 b1 b2).2.1], .int .i64 (zAdd a1 a2 b1 b2).2.2]) ∧ Below w.heap.size w w' := by
  have HM : Hid (∀ (gb : Nat) (W : World), W.cell? ⟨gb, 0, none⟩ = some (.func (.func 75) #[] #[]) → Calls Try.prog 54 #[.agg #[.int .i64 a1, .int .i64 a2], .agg #[.int .i64 b1, .int .i64 b2], .slice (some ⟨gb, 0, none⟩) 1 1] W fun e w' => e = .returned (.tuple #[.agg #[.int .i64 (zAdd a1 a2 b1 b2).1, .int .i64 (zAdd a1 a2 b1 b2).2.1], .int .i64 (zAdd a1 a2 b1 b2).2.2]) ∧ Below W.heap.size W w') := by
    refine Lib.hid fun gb W hc => ?_
    unfold zAdd
    by_cases h : a1 ≤ a2 ∧ b1 ≤ b2
    · rw [if_pos h]
      exact may_ok a1 a2 b1 b2 _ _ _ _ h.1 h.2 W (fun W' hW => hull1_c 75 (fun x y => fit (x + y)) a1 a2 b1 b2 (enters_of Try.func75 (by kernel_rfl) rfl) (fun W => ends_plus_c a1 b1 ha1 hb1 W) (fun W => ends_plus_c a1 b2 ha1 hb2 W) (fun W => ends_plus_c a2 b1 ha2 hb1 W) (fun W => ends_plus_c a2 b2 ha2 hb2 W) gb W' (keep_cell hW hc))
    · rw [if_neg h]
      exact may_bad a1 a2 b1 b2 _ h W
  generalize (zAdd a1 a2 b1 b2).1 = r1 at *
  generalize (zAdd a1 a2 b1 b2).2.1 = r2 at *
  generalize (zAdd a1 a2 b1 b2).2.2 = r3 at *
  clear ha1 ha2 hb1 hb2
  go_enter Try.func34, Try.ntmps34
  go_wp2_with fail
  refine (HM.out _ _ (by simp [go_sem])).mono ?_
  rintro e w1 ⟨rfl, hb⟩
  have hK : Knows w.heap.size w [(⟨w.heap.size + 1 + 1, 0, none⟩, .int .i64 0), (⟨w.heap.size + 1 + 1, 1, none⟩, .int .i64 0)] [⟨w.heap.size + 1 + 1, 0, none⟩, ⟨w.heap.size + 1 + 1, 1, none⟩] w1 := by
    refine Knows.call ?_ hb
    exact ⟨(((((Below.refl _ _).alloc (Nat.le_refl _) _).alloc (by simp) _).alloc (by simp; omega) _).alloc (by simp; omega) _), by simp; omega, by simp [Cells, go_sem], by simp [Frees, go_sem]⟩
  clear hb HM
  have HK := Lib.hid hK
  obtain ⟨-, -, ⟨q1, q2, -⟩, ⟨-, z1⟩, ⟨-, z2⟩, -⟩ := hK
  go_wp2_with fail
  refine bodyPost_ret (v := .tuple #[.agg #[.int .i64 r1, .int .i64 r2], .int .i64 r3]) (by simp [results, Try.results34, go_sem, q1, q2, z1, z2]) rfl ⟨rfl, ?_⟩
  have h2 : w.heap.size ≤ w.heap.size + 1 + 1 := by omega
  exact (HK.out.1.setCell h2 _).setCell h2 _

/-- Sub, whatever the spans are. -/
def zSub (a1 a2 b1 b2 : Int) : Int × Int × Int := if a1 ≤ a2 ∧ b1 ≤ b2 then hullOf [(fun x y => fit (x - y)) a1 b1, (fun x y => fit (x - y)) a1 b2, (fun x y => fit (x - y)) a2 b1, (fun x y => fit (x - y)) a2 b2] else (0, 0, 1)
theorem spanSub_c (a1 a2 b1 b2 : Int) (ha1 : IsInt a1) (ha2 : IsInt a2) (hb1 : IsInt b1) (hb2 : IsInt b2) (w : World) :
    Calls Try.prog 35 #[.agg #[.int .i64 a1, .int .i64 a2], .agg #[.int .i64 b1, .int .i64 b2]] w fun e w' => e = .returned (.tuple #[.agg #[.int .i64 (zSub a1 a2 b1 b2).1, .int .i64 (zSub a1 a2 b1 b2).2.1], .int .i64 (zSub a1 a2 b1 b2).2.2]) ∧ Below w.heap.size w w' := by
  have HM : Hid (∀ (gb : Nat) (W : World), W.cell? ⟨gb, 0, none⟩ = some (.func (.func 76) #[] #[]) → Calls Try.prog 54 #[.agg #[.int .i64 a1, .int .i64 a2], .agg #[.int .i64 b1, .int .i64 b2], .slice (some ⟨gb, 0, none⟩) 1 1] W fun e w' => e = .returned (.tuple #[.agg #[.int .i64 (zSub a1 a2 b1 b2).1, .int .i64 (zSub a1 a2 b1 b2).2.1], .int .i64 (zSub a1 a2 b1 b2).2.2]) ∧ Below W.heap.size W w') := by
    refine Lib.hid fun gb W hc => ?_
    unfold zSub
    by_cases h : a1 ≤ a2 ∧ b1 ≤ b2
    · rw [if_pos h]
      exact may_ok a1 a2 b1 b2 _ _ _ _ h.1 h.2 W (fun W' hW => hull1_c 76 (fun x y => fit (x - y)) a1 a2 b1 b2 (enters_of Try.func76 (by kernel_rfl) rfl) (fun W => ends_less_c a1 b1 ha1 hb1 W) (fun W => ends_less_c a1 b2 ha1 hb2 W) (fun W => ends_less_c a2 b1 ha2 hb1 W) (fun W => ends_less_c a2 b2 ha2 hb2 W) gb W' (keep_cell hW hc))
    · rw [if_neg h]
      exact may_bad a1 a2 b1 b2 _ h W
  generalize (zSub a1 a2 b1 b2).1 = r1 at *
  generalize (zSub a1 a2 b1 b2).2.1 = r2 at *
  generalize (zSub a1 a2 b1 b2).2.2 = r3 at *
  clear ha1 ha2 hb1 hb2
  go_enter Try.func35, Try.ntmps35
  go_wp2_with fail
  refine (HM.out _ _ (by simp [go_sem])).mono ?_
  rintro e w1 ⟨rfl, hb⟩
  have hK : Knows w.heap.size w [(⟨w.heap.size + 1 + 1, 0, none⟩, .int .i64 0), (⟨w.heap.size + 1 + 1, 1, none⟩, .int .i64 0)] [⟨w.heap.size + 1 + 1, 0, none⟩, ⟨w.heap.size + 1 + 1, 1, none⟩] w1 := by
    refine Knows.call ?_ hb
    exact ⟨(((((Below.refl _ _).alloc (Nat.le_refl _) _).alloc (by simp) _).alloc (by simp; omega) _).alloc (by simp; omega) _), by simp; omega, by simp [Cells, go_sem], by simp [Frees, go_sem]⟩
  clear hb HM
  have HK := Lib.hid hK
  obtain ⟨-, -, ⟨q1, q2, -⟩, ⟨-, z1⟩, ⟨-, z2⟩, -⟩ := hK
  go_wp2_with fail
  refine bodyPost_ret (v := .tuple #[.agg #[.int .i64 r1, .int .i64 r2], .int .i64 r3]) (by simp [results, Try.results35, go_sem, q1, q2, z1, z2]) rfl ⟨rfl, ?_⟩
  have h2 : w.heap.size ≤ w.heap.size + 1 + 1 := by omega
  exact (HK.out.1.setCell h2 _).setCell h2 _

/-- Mul, whatever the spans are. -/
def zMul (a1 a2 b1 b2 : Int) : Int × Int × Int := if a1 ≤ a2 ∧ b1 ≤ b2 then hullOf [(fun x y => fit (x * y)) a1 b1, (fun x y => fit (x * y)) a1 b2, (fun x y => fit (x * y)) a2 b1, (fun x y => fit (x * y)) a2 b2] else (0, 0, 1)
theorem spanMul_c (a1 a2 b1 b2 : Int) (ha1 : IsInt a1) (ha2 : IsInt a2) (hb1 : IsInt b1) (hb2 : IsInt b2) (w : World) :
    Calls Try.prog 14 #[.agg #[.int .i64 a1, .int .i64 a2], .agg #[.int .i64 b1, .int .i64 b2]] w fun e w' => e = .returned (.tuple #[.agg #[.int .i64 (zMul a1 a2 b1 b2).1, .int .i64 (zMul a1 a2 b1 b2).2.1], .int .i64 (zMul a1 a2 b1 b2).2.2]) ∧ Below w.heap.size w w' := by
  have HM : Hid (∀ (gb : Nat) (W : World), W.cell? ⟨gb, 0, none⟩ = some (.func (.func 55) #[] #[]) → Calls Try.prog 54 #[.agg #[.int .i64 a1, .int .i64 a2], .agg #[.int .i64 b1, .int .i64 b2], .slice (some ⟨gb, 0, none⟩) 1 1] W fun e w' => e = .returned (.tuple #[.agg #[.int .i64 (zMul a1 a2 b1 b2).1, .int .i64 (zMul a1 a2 b1 b2).2.1], .int .i64 (zMul a1 a2 b1 b2).2.2]) ∧ Below W.heap.size W w') := by
    refine Lib.hid fun gb W hc => ?_
    unfold zMul
    by_cases h : a1 ≤ a2 ∧ b1 ≤ b2
    · rw [if_pos h]
      exact may_ok a1 a2 b1 b2 _ _ _ _ h.1 h.2 W (fun W' hW => hull1_c 55 (fun x y => fit (x * y)) a1 a2 b1 b2 (enters_of Try.func55 (by kernel_rfl) rfl) (fun W => ends_times_c a1 b1 ha1 hb1 W) (fun W => ends_times_c a1 b2 ha1 hb2 W) (fun W => ends_times_c a2 b1 ha2 hb1 W) (fun W => ends_times_c a2 b2 ha2 hb2 W) gb W' (keep_cell hW hc))
    · rw [if_neg h]
      exact may_bad a1 a2 b1 b2 _ h W
  generalize (zMul a1 a2 b1 b2).1 = r1 at *
  generalize (zMul a1 a2 b1 b2).2.1 = r2 at *
  generalize (zMul a1 a2 b1 b2).2.2 = r3 at *
  clear ha1 ha2 hb1 hb2
  go_enter Try.func14, Try.ntmps14
  go_wp2_with fail
  refine (HM.out _ _ (by simp [go_sem])).mono ?_
  rintro e w1 ⟨rfl, hb⟩
  have hK : Knows w.heap.size w [(⟨w.heap.size + 1 + 1, 0, none⟩, .int .i64 0), (⟨w.heap.size + 1 + 1, 1, none⟩, .int .i64 0)] [⟨w.heap.size + 1 + 1, 0, none⟩, ⟨w.heap.size + 1 + 1, 1, none⟩] w1 := by
    refine Knows.call ?_ hb
    exact ⟨(((((Below.refl _ _).alloc (Nat.le_refl _) _).alloc (by simp) _).alloc (by simp; omega) _).alloc (by simp; omega) _), by simp; omega, by simp [Cells, go_sem], by simp [Frees, go_sem]⟩
  clear hb HM
  have HK := Lib.hid hK
  obtain ⟨-, -, ⟨q1, q2, -⟩, ⟨-, z1⟩, ⟨-, z2⟩, -⟩ := hK
  go_wp2_with fail
  refine bodyPost_ret (v := .tuple #[.agg #[.int .i64 r1, .int .i64 r2], .int .i64 r3]) (by simp [results, Try.results14, go_sem, q1, q2, z1, z2]) rfl ⟨rfl, ?_⟩
  have h2 : w.heap.size ≤ w.heap.size + 1 + 1 := by omega
  exact (HK.out.1.setCell h2 _).setCell h2 _

theorem Knows.fewer {B : Nat} {w W : World} {p1 p2 p3 p4 : Addr × Value} {l : List (Addr × Value)} {f : List Addr} (h : Knows B w (p1 :: p2 :: p3 :: p4 :: l) f W) : Knows B w l f W := ⟨h.1, h.2.1, h.2.2.1.2.2.2.2, h.2.2.2⟩
def zDiv (a1 a2 b1 b2 : Int) : Int × Int × Int :=
  if a1 ≤ a2 ∧ b1 ≤ b2 then
    (if b1 ≤ 0 ∧ 0 ≤ b2 then (0, 0, 4) else hullOf [(fun x y => fit (md x y 0)) a1 b1, (fun x y => fit (md x y 1)) a1 b1, (fun x y => fit (md x y 0)) a1 b2, (fun x y => fit (md x y 1)) a1 b2, (fun x y => fit (md x y 0)) a2 b1, (fun x y => fit (md x y 1)) a2 b1, (fun x y => fit (md x y 0)) a2 b2, (fun x y => fit (md x y 1)) a2 b2])
  else (0, 0, 1)

theorem spanDiv_noA (a1 a2 b1 b2 r1 r2 r3 : Int) (h1 : ¬ a1 ≤ a2) (w : World)
    (hm : ∀ (gb : Nat) (W : World), W.cell? ⟨gb, 0, none⟩ = some (.func (.func 58) #[] #[]) → W.cell? ⟨gb, 1, none⟩ = some (.func (.func 59) #[] #[]) → Calls Try.prog 54 #[.agg #[.int .i64 a1, .int .i64 a2], .agg #[.int .i64 b1, .int .i64 b2], .slice (some ⟨gb, 0, none⟩) 2 2] W fun e w' => e = .returned (.tuple #[.agg #[.int .i64 r1, .int .i64 r2], .int .i64 r3]) ∧ Below W.heap.size W w') :
    Calls Try.prog 15 #[.agg #[.int .i64 a1, .int .i64 a2], .agg #[.int .i64 b1, .int .i64 b2]] w fun e w' => e = .returned (.tuple #[.agg #[.int .i64 r1, .int .i64 r2], .int .i64 r3]) ∧ Below w.heap.size w w' := by
  have HM := Lib.hid hm
  clear hm
  have HA : Hid (∀ W, Calls Try.prog 56 #[.agg #[.int .i64 a1, .int .i64 a2]] W fun e w' => e = .returned (.bool false) ∧ Below W.heap.size W w') := Lib.hid (fun W => decide_eq_false h1 ▸ spanRight_c a1 a2 W)
  clear h1
  go_enter Try.func15, Try.ntmps15
  go_wp2_with fail
  refine (HA.out _).mono ?_
  rintro e w1 ⟨rfl, hb⟩
  have hK : Knows w.heap.size w [(⟨w.heap.size, 0, none⟩, .int .i64 a1), (⟨w.heap.size, 1, none⟩, .int .i64 a2), (⟨w.heap.size + 1, 0, none⟩, .int .i64 b1), (⟨w.heap.size + 1, 1, none⟩, .int .i64 b2), (⟨w.heap.size + 1 + 1, 0, none⟩, .int .i64 0), (⟨w.heap.size + 1 + 1, 1, none⟩, .int .i64 0)] [⟨w.heap.size + 1 + 1, 0, none⟩, ⟨w.heap.size + 1 + 1, 1, none⟩] w1 :=
    Knows.call (W := ((w.alloc (.cells #[.int .i64 a1, .int .i64 a2] 23)).alloc (.cells #[.int .i64 b1, .int .i64 b2] 23)).alloc (.cells #[.int .i64 0, .int .i64 0] 23)) ⟨((((Below.refl _ _).alloc (Nat.le_refl _) _).alloc (by simp) _).alloc (by simp; omega) _), by simp; omega, by simp [Cells, go_sem], by simp [Frees, go_sem]⟩ hb
  clear hb HA
  have h2 : w.heap.size ≤ w.heap.size + 1 + 1 := by omega
  have H2 := Lib.hid h2
  clear h2
  have HK := Lib.hid hK
  obtain ⟨-, -, ⟨q5, q6, q1, q2, q3, q4, -⟩, ⟨-, z1⟩, ⟨-, z2⟩, -⟩ := hK
  go_wp2_with fail
  clear q1 q2 q3 q4 q5 q6 z1 z2
  refine (HM.out _ _ (by simp [go_sem]) (by simp [go_sem])).mono ?_
  rintro e w4 ⟨rfl, hb⟩
  have hK4 : Knows w.heap.size w [(⟨w.heap.size + 1 + 1, 0, none⟩, .int .i64 0), (⟨w.heap.size + 1 + 1, 1, none⟩, .int .i64 0)] [⟨w.heap.size + 1 + 1, 0, none⟩, ⟨w.heap.size + 1 + 1, 1, none⟩] w4 := by
    refine Knows.call ?_ hb
    exact (HK.out.fewer).alloc _
  clear hb HM HK
  have HK := Lib.hid hK4
  obtain ⟨-, -, ⟨q1, q2, -⟩, ⟨-, z1⟩, ⟨-, z2⟩, -⟩ := hK4
  go_wp2_with fail
  refine bodyPost_ret (v := .tuple #[.agg #[.int .i64 r1, .int .i64 r2], .int .i64 r3]) (by simp [results, Try.results15, go_sem, q1, q2, z1, z2]) rfl ⟨rfl, ?_⟩
  exact (HK.out.1.setCell H2.out _).setCell H2.out _

theorem spanDiv_noB (a1 a2 b1 b2 r1 r2 r3 : Int) (h1 : a1 ≤ a2) (h2 : ¬ b1 ≤ b2) (w : World)
    (hm : ∀ (gb : Nat) (W : World), W.cell? ⟨gb, 0, none⟩ = some (.func (.func 58) #[] #[]) → W.cell? ⟨gb, 1, none⟩ = some (.func (.func 59) #[] #[]) → Calls Try.prog 54 #[.agg #[.int .i64 a1, .int .i64 a2], .agg #[.int .i64 b1, .int .i64 b2], .slice (some ⟨gb, 0, none⟩) 2 2] W fun e w' => e = .returned (.tuple #[.agg #[.int .i64 r1, .int .i64 r2], .int .i64 r3]) ∧ Below W.heap.size W w') :
    Calls Try.prog 15 #[.agg #[.int .i64 a1, .int .i64 a2], .agg #[.int .i64 b1, .int .i64 b2]] w fun e w' => e = .returned (.tuple #[.agg #[.int .i64 r1, .int .i64 r2], .int .i64 r3]) ∧ Below w.heap.size w w' := by
  have HM := Lib.hid hm
  clear hm
  have HA : Hid (∀ W, Calls Try.prog 56 #[.agg #[.int .i64 a1, .int .i64 a2]] W fun e w' => e = .returned (.bool true) ∧ Below W.heap.size W w') := Lib.hid (fun W => decide_eq_true h1 ▸ spanRight_c a1 a2 W)
  have HB : Hid (∀ W, Calls Try.prog 56 #[.agg #[.int .i64 b1, .int .i64 b2]] W fun e w' => e = .returned (.bool false) ∧ Below W.heap.size W w') := Lib.hid (fun W => decide_eq_false h2 ▸ spanRight_c b1 b2 W)
  clear h1 h2
  go_enter Try.func15, Try.ntmps15
  go_wp2_with fail
  refine (HA.out _).mono ?_
  rintro e w1 ⟨rfl, hb⟩
  have hK : Knows w.heap.size w [(⟨w.heap.size, 0, none⟩, .int .i64 a1), (⟨w.heap.size, 1, none⟩, .int .i64 a2), (⟨w.heap.size + 1, 0, none⟩, .int .i64 b1), (⟨w.heap.size + 1, 1, none⟩, .int .i64 b2), (⟨w.heap.size + 1 + 1, 0, none⟩, .int .i64 0), (⟨w.heap.size + 1 + 1, 1, none⟩, .int .i64 0)] [⟨w.heap.size + 1 + 1, 0, none⟩, ⟨w.heap.size + 1 + 1, 1, none⟩] w1 :=
    Knows.call (W := ((w.alloc (.cells #[.int .i64 a1, .int .i64 a2] 23)).alloc (.cells #[.int .i64 b1, .int .i64 b2] 23)).alloc (.cells #[.int .i64 0, .int .i64 0] 23)) ⟨((((Below.refl _ _).alloc (Nat.le_refl _) _).alloc (by simp) _).alloc (by simp; omega) _), by simp; omega, by simp [Cells, go_sem], by simp [Frees, go_sem]⟩ hb
  clear hb HA
  have h2 : w.heap.size ≤ w.heap.size + 1 + 1 := by omega
  have H2 := Lib.hid h2
  clear h2
  have HK := Lib.hid hK
  obtain ⟨-, -, ⟨q5, q6, q1, q2, q3, q4, -⟩, ⟨-, z1⟩, ⟨-, z2⟩, -⟩ := hK
  go_wp2_with fail
  refine (HB.out _).mono ?_
  rintro e w2 ⟨rfl, hb⟩
  have hK2 := HK.out.call hb
  clear HK hb q1 q2 q3 q4 q5 q6 z1 z2
  have HK := Lib.hid hK2
  obtain ⟨-, -, ⟨q5, q6, q1, q2, q3, q4, -⟩, ⟨-, z1⟩, ⟨-, z2⟩, -⟩ := hK2
  go_wp2_with fail
  clear q1 q2 q3 q4 q5 q6 z1 z2
  refine (HM.out _ _ (by simp [go_sem]) (by simp [go_sem])).mono ?_
  rintro e w4 ⟨rfl, hb⟩
  have hK4 : Knows w.heap.size w [(⟨w.heap.size + 1 + 1, 0, none⟩, .int .i64 0), (⟨w.heap.size + 1 + 1, 1, none⟩, .int .i64 0)] [⟨w.heap.size + 1 + 1, 0, none⟩, ⟨w.heap.size + 1 + 1, 1, none⟩] w4 := by
    refine Knows.call ?_ hb
    exact (HK.out.fewer).alloc _
  clear hb HM HK
  have HK := Lib.hid hK4
  obtain ⟨-, -, ⟨q1, q2, -⟩, ⟨-, z1⟩, ⟨-, z2⟩, -⟩ := hK4
  go_wp2_with fail
  refine bodyPost_ret (v := .tuple #[.agg #[.int .i64 r1, .int .i64 r2], .int .i64 r3]) (by simp [results, Try.results15, go_sem, q1, q2, z1, z2]) rfl ⟨rfl, ?_⟩
  exact (HK.out.1.setCell H2.out _).setCell H2.out _

theorem spanDiv_yes (a1 a2 b1 b2 r1 r2 r3 : Int) (h1 : a1 ≤ a2) (h2 : b1 ≤ b2) (h3 : b1 ≤ 0 → b2 < 0) (w : World)
    (hm : ∀ (gb : Nat) (W : World), W.cell? ⟨gb, 0, none⟩ = some (.func (.func 58) #[] #[]) → W.cell? ⟨gb, 1, none⟩ = some (.func (.func 59) #[] #[]) → Calls Try.prog 54 #[.agg #[.int .i64 a1, .int .i64 a2], .agg #[.int .i64 b1, .int .i64 b2], .slice (some ⟨gb, 0, none⟩) 2 2] W fun e w' => e = .returned (.tuple #[.agg #[.int .i64 r1, .int .i64 r2], .int .i64 r3]) ∧ Below W.heap.size W w') :
    Calls Try.prog 15 #[.agg #[.int .i64 a1, .int .i64 a2], .agg #[.int .i64 b1, .int .i64 b2]] w fun e w' => e = .returned (.tuple #[.agg #[.int .i64 r1, .int .i64 r2], .int .i64 r3]) ∧ Below w.heap.size w w' := by
  have HM := Lib.hid hm
  clear hm
  have HA : Hid (∀ W, Calls Try.prog 56 #[.agg #[.int .i64 a1, .int .i64 a2]] W fun e w' => e = .returned (.bool true) ∧ Below W.heap.size W w') := Lib.hid (fun W => decide_eq_true h1 ▸ spanRight_c a1 a2 W)
  have HB : Hid (∀ W, Calls Try.prog 56 #[.agg #[.int .i64 b1, .int .i64 b2]] W fun e w' => e = .returned (.bool true) ∧ Below W.heap.size W w') := Lib.hid (fun W => decide_eq_true h2 ▸ spanRight_c b1 b2 W)
  have HZ : Hid (∀ W, Calls Try.prog 57 #[.agg #[.int .i64 b1, .int .i64 b2], .int .i64 0] W fun e w' => e = .returned (.bool false) ∧ Below W.heap.size W w') := Lib.hid (fun W => by
    have h := spanHas_c b1 b2 0 W
    rwa [show (decide (b1 ≤ 0) && decide (0 ≤ b2)) = false by simpa using h3] at h)
  clear h1 h2 h3
  go_enter Try.func15, Try.ntmps15
  go_wp2_with fail
  refine (HA.out _).mono ?_
  rintro e w1 ⟨rfl, hb⟩
  have hK : Knows w.heap.size w [(⟨w.heap.size, 0, none⟩, .int .i64 a1), (⟨w.heap.size, 1, none⟩, .int .i64 a2), (⟨w.heap.size + 1, 0, none⟩, .int .i64 b1), (⟨w.heap.size + 1, 1, none⟩, .int .i64 b2), (⟨w.heap.size + 1 + 1, 0, none⟩, .int .i64 0), (⟨w.heap.size + 1 + 1, 1, none⟩, .int .i64 0)] [⟨w.heap.size + 1 + 1, 0, none⟩, ⟨w.heap.size + 1 + 1, 1, none⟩] w1 :=
    Knows.call (W := ((w.alloc (.cells #[.int .i64 a1, .int .i64 a2] 23)).alloc (.cells #[.int .i64 b1, .int .i64 b2] 23)).alloc (.cells #[.int .i64 0, .int .i64 0] 23)) ⟨((((Below.refl _ _).alloc (Nat.le_refl _) _).alloc (by simp) _).alloc (by simp; omega) _), by simp; omega, by simp [Cells, go_sem], by simp [Frees, go_sem]⟩ hb
  clear hb HA
  have h2 : w.heap.size ≤ w.heap.size + 1 + 1 := by omega
  have H2 := Lib.hid h2
  clear h2
  have HK := Lib.hid hK
  obtain ⟨-, -, ⟨q5, q6, q1, q2, q3, q4, -⟩, ⟨-, z1⟩, ⟨-, z2⟩, -⟩ := hK
  go_wp2_with fail
  refine (HB.out _).mono ?_
  rintro e w2 ⟨rfl, hb⟩
  have hK2 := HK.out.call hb
  clear HK hb q1 q2 q3 q4 q5 q6 z1 z2
  have HK := Lib.hid hK2
  obtain ⟨-, -, ⟨q5, q6, q1, q2, q3, q4, -⟩, ⟨-, z1⟩, ⟨-, z2⟩, -⟩ := hK2
  go_wp2_with fail
  refine (HZ.out _).mono ?_
  rintro e w3 ⟨rfl, hb⟩
  have hK2 := HK.out.call hb
  clear HK hb q1 q2 q3 q4 q5 q6 z1 z2
  have HK := Lib.hid hK2
  obtain ⟨-, -, ⟨q5, q6, q1, q2, q3, q4, -⟩, ⟨-, z1⟩, ⟨-, z2⟩, -⟩ := hK2
  go_wp2_with fail
  clear q1 q2 q3 q4 q5 q6 z1 z2
  refine (HM.out _ _ (by simp [go_sem]) (by simp [go_sem])).mono ?_
  rintro e w4 ⟨rfl, hb⟩
  have hK4 : Knows w.heap.size w [(⟨w.heap.size + 1 + 1, 0, none⟩, .int .i64 0), (⟨w.heap.size + 1 + 1, 1, none⟩, .int .i64 0)] [⟨w.heap.size + 1 + 1, 0, none⟩, ⟨w.heap.size + 1 + 1, 1, none⟩] w4 := by
    refine Knows.call ?_ hb
    exact (HK.out.fewer).alloc _
  clear hb HM HK
  have HK := Lib.hid hK4
  obtain ⟨-, -, ⟨q1, q2, -⟩, ⟨-, z1⟩, ⟨-, z2⟩, -⟩ := hK4
  go_wp2_with fail
  refine bodyPost_ret (v := .tuple #[.agg #[.int .i64 r1, .int .i64 r2], .int .i64 r3]) (by simp [results, Try.results15, go_sem, q1, q2, z1, z2]) rfl ⟨rfl, ?_⟩
  exact (HK.out.1.setCell H2.out _).setCell H2.out _

theorem spanDiv_zero (a1 a2 b1 b2 : Int) (h1 : a1 ≤ a2) (h2 : b1 ≤ b2) (h3 : b1 ≤ 0 ∧ 0 ≤ b2) (w : World) :
    Calls Try.prog 15 #[.agg #[.int .i64 a1, .int .i64 a2], .agg #[.int .i64 b1, .int .i64 b2]] w fun e w' => e = .returned (.tuple #[.agg #[.int .i64 0, .int .i64 0], .int .i64 4]) ∧ Below w.heap.size w w' := by
  have HA : Hid (∀ W, Calls Try.prog 56 #[.agg #[.int .i64 a1, .int .i64 a2]] W fun e w' => e = .returned (.bool true) ∧ Below W.heap.size W w') := Lib.hid (fun W => decide_eq_true h1 ▸ spanRight_c a1 a2 W)
  have HB : Hid (∀ W, Calls Try.prog 56 #[.agg #[.int .i64 b1, .int .i64 b2]] W fun e w' => e = .returned (.bool true) ∧ Below W.heap.size W w') := Lib.hid (fun W => decide_eq_true h2 ▸ spanRight_c b1 b2 W)
  have HZ : Hid (∀ W, Calls Try.prog 57 #[.agg #[.int .i64 b1, .int .i64 b2], .int .i64 0] W fun e w' => e = .returned (.bool true) ∧ Below W.heap.size W w') := Lib.hid (fun W => by
    have h := spanHas_c b1 b2 0 W
    rwa [show (decide (b1 ≤ 0) && decide (0 ≤ b2)) = true by simpa using h3] at h)
  clear h1 h2 h3
  go_enter Try.func15, Try.ntmps15
  go_wp2_with fail
  refine (HA.out _).mono ?_
  rintro e w1 ⟨rfl, hb⟩
  have hK : Knows w.heap.size w [(⟨w.heap.size, 0, none⟩, .int .i64 a1), (⟨w.heap.size, 1, none⟩, .int .i64 a2), (⟨w.heap.size + 1, 0, none⟩, .int .i64 b1), (⟨w.heap.size + 1, 1, none⟩, .int .i64 b2), (⟨w.heap.size + 1 + 1, 0, none⟩, .int .i64 0), (⟨w.heap.size + 1 + 1, 1, none⟩, .int .i64 0)] [⟨w.heap.size + 1 + 1, 0, none⟩, ⟨w.heap.size + 1 + 1, 1, none⟩] w1 :=
    Knows.call (W := ((w.alloc (.cells #[.int .i64 a1, .int .i64 a2] 23)).alloc (.cells #[.int .i64 b1, .int .i64 b2] 23)).alloc (.cells #[.int .i64 0, .int .i64 0] 23)) ⟨((((Below.refl _ _).alloc (Nat.le_refl _) _).alloc (by simp) _).alloc (by simp; omega) _), by simp; omega, by simp [Cells, go_sem], by simp [Frees, go_sem]⟩ hb
  clear hb HA
  have h2 : w.heap.size ≤ w.heap.size + 1 + 1 := by omega
  have H2 := Lib.hid h2
  clear h2
  have HK := Lib.hid hK
  obtain ⟨-, -, ⟨q5, q6, q1, q2, q3, q4, -⟩, ⟨-, z1⟩, ⟨-, z2⟩, -⟩ := hK
  go_wp2_with fail
  refine (HB.out _).mono ?_
  rintro e w2 ⟨rfl, hb⟩
  have hK2 := HK.out.call hb
  clear HK hb q1 q2 q3 q4 q5 q6 z1 z2
  have HK := Lib.hid hK2
  obtain ⟨-, -, ⟨q5, q6, q1, q2, q3, q4, -⟩, ⟨-, z1⟩, ⟨-, z2⟩, -⟩ := hK2
  go_wp2_with fail
  refine (HZ.out _).mono ?_
  rintro e w3 ⟨rfl, hb⟩
  have hK2 := HK.out.call hb
  clear HK hb q1 q2 q3 q4 q5 q6 z1 z2
  have HK := Lib.hid hK2
  obtain ⟨-, -, ⟨q5, q6, q1, q2, q3, q4, -⟩, ⟨-, z1⟩, ⟨-, z2⟩, -⟩ := hK2
  go_wp2_with fail
  refine bodyPost_ret (v := .tuple #[.agg #[.int .i64 0, .int .i64 0], .int .i64 4]) (by simp [results, Try.results15, go_sem, q1, q2, q3, q4, z1, z2]) rfl ⟨rfl, ?_⟩
  exact (HK.out.1.setCell H2.out _).setCell H2.out _

theorem spanDiv_c (a1 a2 b1 b2 : Int) (ha1 : IsInt a1) (ha2 : IsInt a2) (hb1 : IsInt b1) (hb2 : IsInt b2) (w : World) :
    Calls Try.prog 15 #[.agg #[.int .i64 a1, .int .i64 a2], .agg #[.int .i64 b1, .int .i64 b2]] w fun e w' => e = .returned (.tuple #[.agg #[.int .i64 (zDiv a1 a2 b1 b2).1, .int .i64 (zDiv a1 a2 b1 b2).2.1], .int .i64 (zDiv a1 a2 b1 b2).2.2]) ∧ Below w.heap.size w w' := by
  unfold zDiv
  by_cases h : a1 ≤ a2 ∧ b1 ≤ b2
  · rw [if_pos h]
    by_cases h0 : b1 ≤ 0 ∧ 0 ≤ b2
    · rw [if_pos h0]
      exact spanDiv_zero a1 a2 b1 b2 h.1 h.2 h0 w
    · rw [if_neg h0]
      have n1 : b1 ≠ 0 := by omega
      have n2 : b2 ≠ 0 := by omega
      exact spanDiv_yes a1 a2 b1 b2 _ _ _ h.1 h.2 (by omega) w (fun gb W c0 c1 => may_ok a1 a2 b1 b2 _ _ _ _ h.1 h.2 W (fun W' hW => hull2_c 58 59 (fun x y => fit (md x y 0)) (fun x y => fit (md x y 1)) a1 a2 b1 b2 (enters_of Try.func58 (by kernel_rfl) rfl) (enters_of Try.func59 (by kernel_rfl) rfl)
        (fun W => ends_down_c a1 b1 ha1 hb1 n1 W) (fun W => ends_up_c a1 b1 ha1 hb1 n1 W) (fun W => ends_down_c a1 b2 ha1 hb2 n2 W) (fun W => ends_up_c a1 b2 ha1 hb2 n2 W) (fun W => ends_down_c a2 b1 ha2 hb1 n1 W) (fun W => ends_up_c a2 b1 ha2 hb1 n1 W) (fun W => ends_down_c a2 b2 ha2 hb2 n2 W) (fun W => ends_up_c a2 b2 ha2 hb2 n2 W) gb W' (keep_cell hW c0) (keep_cell hW c1)))
  · rw [if_neg h]
    by_cases h1 : a1 ≤ a2
    · exact spanDiv_noB a1 a2 b1 b2 _ _ _ h1 (fun h2 => h ⟨h1, h2⟩) w (fun gb W _ _ => may_bad a1 a2 b1 b2 _ h W)
    · exact spanDiv_noA a1 a2 b1 b2 _ _ _ h1 w (fun gb W _ _ => may_bad a1 a2 b1 b2 _ h W)

/-! ### Root -/
def zRoot (a1 a2 : Int) : Int × Int × Int := if a1 ≤ a2 then (if a1 < 0 then (0, 0, 3) else (isqrt a1, usqrt a2, 0)) else (0, 0, 1)
theorem root_small {x : Int} (h : x ≤ 9223372036854775807) (h0 : 0 ≤ x) : usqrt x ≤ 3037000500 := (usqrt_le h0 (by omega)).2 (by omega)

theorem spanRoot_arg (a1 a2 : Int) (h1 : ¬ a1 ≤ a2) (w : World) : Calls Try.prog 16 #[.agg #[.int .i64 a1, .int .i64 a2]] w fun e w' => e = .returned (.tuple #[.agg #[.int .i64 0, .int .i64 0], .int .i64 1]) ∧ Below w.heap.size w w' := by
  have HA : Hid (∀ W, Calls Try.prog 56 #[.agg #[.int .i64 a1, .int .i64 a2]] W fun e w' => e = .returned (.bool false) ∧ Below W.heap.size W w') := Lib.hid (fun W => decide_eq_false h1 ▸ spanRight_c a1 a2 W)
  clear h1
  go_enter Try.func16, Try.ntmps16
  go_wp2_with fail
  refine (HA.out _).mono ?_
  rintro e w1 ⟨rfl, hb⟩
  have hK : Knows w.heap.size w [(⟨w.heap.size, 0, none⟩, .int .i64 a1), (⟨w.heap.size, 1, none⟩, .int .i64 a2), (⟨w.heap.size + 1, 0, none⟩, .int .i64 0), (⟨w.heap.size + 1, 1, none⟩, .int .i64 0)] [⟨w.heap.size + 1, 0, none⟩, ⟨w.heap.size + 1, 1, none⟩] w1 :=
    Knows.call (W := (w.alloc (.cells #[.int .i64 a1, .int .i64 a2] 23)).alloc (.cells #[.int .i64 0, .int .i64 0] 23)) ⟨((Below.refl _ _).alloc (Nat.le_refl _) _).alloc (by simp) _, by simp; omega, by simp [Cells, go_sem], by simp [Frees, go_sem]⟩ hb
  clear hb HA
  have h2 : w.heap.size ≤ w.heap.size + 1 := by omega
  have H2 := Lib.hid h2
  clear h2
  have HK := Lib.hid hK
  obtain ⟨-, -, ⟨q1, q2, q3, q4, -⟩, ⟨-, z1⟩, ⟨-, z2⟩, -⟩ := hK
  go_wp2_with fail
  refine bodyPost_ret (v := .tuple #[.agg #[.int .i64 0, .int .i64 0], .int .i64 1]) (by simp [results, Try.results16, go_sem, q1, q2, q3, q4, z1, z2]) rfl ⟨rfl, ?_⟩
  exact (HK.out.1.setCell H2.out _).setCell H2.out _

theorem spanRoot_range (a1 a2 : Int) (h1 : a1 ≤ a2) (h2 : a1 < 0) (w : World) : Calls Try.prog 16 #[.agg #[.int .i64 a1, .int .i64 a2]] w fun e w' => e = .returned (.tuple #[.agg #[.int .i64 0, .int .i64 0], .int .i64 3]) ∧ Below w.heap.size w w' := by
  have HA : Hid (∀ W, Calls Try.prog 56 #[.agg #[.int .i64 a1, .int .i64 a2]] W fun e w' => e = .returned (.bool true) ∧ Below W.heap.size W w') := Lib.hid (fun W => decide_eq_true h1 ▸ spanRight_c a1 a2 W)
  clear h1
  go_enter Try.func16, Try.ntmps16
  go_wp2_with fail
  refine (HA.out _).mono ?_
  rintro e w1 ⟨rfl, hb⟩
  have hK : Knows w.heap.size w [(⟨w.heap.size, 0, none⟩, .int .i64 a1), (⟨w.heap.size, 1, none⟩, .int .i64 a2), (⟨w.heap.size + 1, 0, none⟩, .int .i64 0), (⟨w.heap.size + 1, 1, none⟩, .int .i64 0)] [⟨w.heap.size + 1, 0, none⟩, ⟨w.heap.size + 1, 1, none⟩] w1 :=
    Knows.call (W := (w.alloc (.cells #[.int .i64 a1, .int .i64 a2] 23)).alloc (.cells #[.int .i64 0, .int .i64 0] 23)) ⟨((Below.refl _ _).alloc (Nat.le_refl _) _).alloc (by simp) _, by simp; omega, by simp [Cells, go_sem], by simp [Frees, go_sem]⟩ hb
  clear hb HA
  have h2 : w.heap.size ≤ w.heap.size + 1 := by omega
  have H2 := Lib.hid h2
  clear h2
  have HK := Lib.hid hK
  obtain ⟨-, -, ⟨q1, q2, q3, q4, -⟩, ⟨-, z1⟩, ⟨-, z2⟩, -⟩ := hK
  go_wp2_with fail
  refine bodyPost_ret (v := .tuple #[.agg #[.int .i64 0, .int .i64 0], .int .i64 3]) (by simp [results, Try.results16, go_sem, q1, q2, q3, q4, z1, z2]) rfl ⟨rfl, ?_⟩
  exact (HK.out.1.setCell H2.out _).setCell H2.out _

set_option maxRecDepth 100000 in
theorem spanRoot_ok (a1 a2 : Int) (ha2 : IsInt a2) (h1 : a1 ≤ a2) (h2 : 0 ≤ a1) (w : World) : Calls Try.prog 16 #[.agg #[.int .i64 a1, .int .i64 a2]] w fun e w' => e = .returned (.tuple #[.agg #[.int .i64 (isqrt a1), .int .i64 (usqrt a2)], .int .i64 0]) ∧ Below w.heap.size w w' := by
  have HA : Hid (∀ W, Calls Try.prog 56 #[.agg #[.int .i64 a1, .int .i64 a2]] W fun e w' => e = .returned (.bool true) ∧ Below W.heap.size W w') := Lib.hid (fun W => decide_eq_true h1 ▸ spanRight_c a1 a2 W)
  have u2 : a2 ≤ 9223372036854775807 := ha2.2
  have w1' : Word a1 := by unfold Word; omega
  have w2' : Word a2 := by unfold Word; omega
  have HRo : Hid (∀ W, Calls Try.prog 61 #[.agg #[.int .u64 0, .int .u64 a1]] W fun e w' => e = .returned (.int .u64 (isqrt a1)) ∧ Below W.heap.size W w') := Lib.hid (fun W => by
    have h := root_Root_c a1 w1'.wide W
    rwa [show wv a1 = .agg #[.int .u64 0, .int .u64 a1] by unfold wv; rw [hiW_small w1', loW_small w1']] at h)
  have r1 := isqrt_nonneg a1
  have r2 := isqrt_le_usqrt a1
  have r3 := root_small (x := a1) (by omega) h2
  have r4 := root_small (x := a2) (by omega) (by omega)
  have r5 := usqrt_nonneg a2
  have HUp : Hid (∀ W, Calls Try.prog 60 #[.agg #[.int .u64 0, .int .u64 a2]] W fun e w' => e = .returned (.agg #[.int .u64 0, .int .u64 (usqrt a2)]) ∧ Below W.heap.size W w') := Lib.hid (fun W => by
    have h := root_Up_c a2 w2'.wide W
    have wu : Word (usqrt a2) := by unfold Word; omega
    rwa [show wv a2 = .agg #[.int .u64 0, .int .u64 a2] by unfold wv; rw [hiW_small w2', loW_small w2'], show wv (usqrt a2) = .agg #[.int .u64 0, .int .u64 (usqrt a2)] by unfold wv; rw [hiW_small wu, loW_small wu]] at h)
  have k1 : ¬ a1 < 0 := by omega
  have k2 : 0 ≤ a2 := by omega
  generalize isqrt a1 = r at *
  generalize usqrt a2 = u at *
  clear w1' w2' ha2
  have c1 : IntKind.u64.wrap a1 = a1 := IntWalk.u64_in _ (by omega)
  have c2 : IntKind.i64.wrap r = r := IntWalk.i64_in _ (by omega)
  have c3 : IntKind.i64.wrap u = u := IntWalk.i64_in _ (by omega)
  have c1' : wrap64 r = r := by unfold wrap64; omega
  have c2' : wrap64 u = u := by unfold wrap64; omega
  have C1 := Lib.hid c1
  have C2 := Lib.hid c2
  have C3 := Lib.hid c3
  have C4 := Lib.hid c1'
  have C5 := Lib.hid c2'
  clear c1 c2 c3 c1' c2' h1 r2
  go_enter Try.func16, Try.ntmps16
  go_wp2_with fail
  refine (HA.out _).mono ?_
  rintro e w1 ⟨rfl, hb⟩
  have hK : Knows w.heap.size w [(⟨w.heap.size, 0, none⟩, .int .i64 a1), (⟨w.heap.size, 1, none⟩, .int .i64 a2), (⟨w.heap.size + 1, 0, none⟩, .int .i64 0), (⟨w.heap.size + 1, 1, none⟩, .int .i64 0)] [⟨w.heap.size + 1, 0, none⟩, ⟨w.heap.size + 1, 1, none⟩] w1 :=
    Knows.call (W := (w.alloc (.cells #[.int .i64 a1, .int .i64 a2] 23)).alloc (.cells #[.int .i64 0, .int .i64 0] 23)) ⟨((Below.refl _ _).alloc (Nat.le_refl _) _).alloc (by simp) _, by simp; omega, by simp [Cells, go_sem], by simp [Frees, go_sem]⟩ hb
  clear hb HA
  have h2 : w.heap.size ≤ w.heap.size + 1 := by omega
  have H2 := Lib.hid h2
  clear h2
  have HK := Lib.hid hK
  obtain ⟨-, -, ⟨q1, q2, q3, q4, -⟩, ⟨-, z1⟩, ⟨-, z2⟩, -⟩ := hK
  go_wp2_with fail
  refine (HUp.out _).mono ?_
  rintro e w2 ⟨rfl, hb⟩
  have hK2 := HK.out.call hb
  have hl : w.heap.size + 1 < w2.heap.size := World.block_lt_of_cell? w2 _ hK2.2.2.1.2.2.1
  have hl0 : w.heap.size < w2.heap.size := by omega
  clear HK hb q1 q2 q3 q4 z1 z2 HUp
  obtain ⟨hB, hs, ⟨q1, q2, q3, q4, -⟩, ⟨f1, z1⟩, ⟨f2, z2⟩, -⟩ := hK2
  have HK3 : Hid (Knows w.heap.size w [(⟨w.heap.size, 0, none⟩, .int .i64 a1), (⟨w.heap.size, 1, none⟩, .int .i64 a2), (⟨w2.heap.size, 0, none⟩, .int .u64 0), (⟨w2.heap.size, 1, none⟩, .int .u64 u), (⟨w.heap.size + 1, 0, none⟩, .int .i64 0), (⟨w.heap.size + 1, 1, none⟩, .int .i64 0)] [⟨w.heap.size + 1, 0, none⟩, ⟨w.heap.size + 1, 1, none⟩] (w2.alloc (.cells #[.int .u64 0, .int .u64 u] 35))) :=
    Lib.hid ⟨hB.alloc hs _, Nat.le_trans hs (by simp), ⟨alloc_cell q1 _, alloc_cell q2 _, by simp [go_sem], by simp [go_sem], alloc_cell q3 _, alloc_cell q4 _, trivial⟩, ⟨Nat.lt_of_lt_of_le f1 (by simp), by simp [go_sem, hl, z1]⟩, ⟨Nat.lt_of_lt_of_le f2 (by simp), by simp [go_sem, hl, z2]⟩, trivial⟩
  clear hB
  go_wp2_with fail
  have c1 := C1.out
  have c2 := C2.out
  have c3 := C3.out
  have c4 := C4.out
  have c5 := C5.out
  generalize hm : w2.heap.size = m at *
  refine wp_region_plan (fun L _ W => Knows w.heap.size w [(⟨w.heap.size, 0, none⟩, .int .i64 a1), (⟨w.heap.size, 1, none⟩, .int .i64 a2), (⟨m, 0, none⟩, .int .u64 0), (⟨m, 1, none⟩, .int .u64 u), (⟨w.heap.size + 1, 0, none⟩, .int .i64 (if L 10 = true then r else 0)), (⟨w.heap.size + 1, 1, none⟩, .int .i64 (if L 10 = true then u else 0))] [⟨w.heap.size + 1, 0, none⟩, ⟨w.heap.size + 1, 1, none⟩] W) 12 (by kernel_rfl) (by kernel_rfl) rfl ?_ ?_
  · exact HK3.out.drew
  simp only [List.zipIdx_cons, List.zipIdx_nil, List.map_cons, List.map_nil, Nat.zero_add, Nat.reduceAdd]
  apply inOrder_op rfl rfl
  · intro L g' W _ _ _ hW
    obtain ⟨-, -, ⟨q1, q2, q3, q4, -⟩, -⟩ := id hW
    apply comes_value (hv := rfl) (hD := (by rw [mark_ne (by decide)]; exact hW))
    go_simp
    rfl
  simp only [Act.put, List.setIfInBounds_toArray, List.set_cons_zero, List.set_cons_succ]
  apply inOrder_op rfl rfl
  · intro L g' W _ _ _ hW
    obtain ⟨-, -, ⟨q1, q2, q3, q4, -⟩, -⟩ := id hW
    apply comes_value (hv := rfl) (hD := (by rw [mark_ne (by decide)]; exact hW))
    go_simp
    rfl
  simp only [Act.put, List.setIfInBounds_toArray, List.set_cons_zero, List.set_cons_succ]
  apply inOrder_op rfl rfl
  · intro L g' W _ _ _ hW
    obtain ⟨-, -, ⟨q1, q2, q3, q4, -⟩, -⟩ := id hW
    apply comes_value (hv := rfl) (hD := (by rw [mark_ne (by decide)]; exact hW))
    go_simp
    rfl
  simp only [Act.put, List.setIfInBounds_toArray, List.set_cons_zero, List.set_cons_succ]
  apply inOrder_op rfl rfl
  · intro L g' W _ _ _ hW
    obtain ⟨-, -, ⟨q1, q2, q3, q4, -⟩, -⟩ := id hW
    apply comes_value (hv := rfl) (hD := (by rw [mark_ne (by decide)]; exact hW))
    go_simp
    rfl
  simp only [Act.put, List.setIfInBounds_toArray, List.set_cons_zero, List.set_cons_succ]
  apply inOrder_op rfl rfl
  · intro L g' W _ _ _ hW
    obtain ⟨-, -, ⟨q1, q2, q3, q4, -⟩, -⟩ := id hW
    apply comes_call
    · go_simp
      first | rfl | exact ⟨rfl, rfl⟩ | exact ⟨⟨rfl, rfl⟩, rfl⟩
    · refine (HRo.out W).mono ?_
      rintro e w' ⟨rfl, hb⟩
      exact ⟨rfl, (by rw [mark_ne (by decide)]; exact Knows.call hW hb)⟩
  simp only [Act.put, List.setIfInBounds_toArray, List.set_cons_zero, List.set_cons_succ]
  apply inOrder_op rfl rfl
  · intro L g' W _ _ _ hW
    obtain ⟨-, -, ⟨q1, q2, q3, q4, -⟩, -⟩ := id hW
    apply comes_value (hv := rfl) (hD := (by rw [mark_ne (by decide)]; exact hW))
    go_simp
    rfl
  simp only [Act.put, List.setIfInBounds_toArray, List.set_cons_zero, List.set_cons_succ]
  apply inOrder_op rfl rfl
  · intro L g' W _ _ _ hW
    obtain ⟨-, -, ⟨q1, q2, q3, q4, -⟩, -⟩ := id hW
    apply comes_value (hv := rfl) (hD := (by rw [mark_ne (by decide)]; exact hW))
    go_simp
    rfl
  simp only [Act.put, List.setIfInBounds_toArray, List.set_cons_zero, List.set_cons_succ]
  apply inOrder_op rfl rfl
  · intro L g' W _ _ _ hW
    obtain ⟨-, -, ⟨q1, q2, q3, q4, -⟩, -⟩ := id hW
    apply comes_value (hv := rfl) (hD := (by rw [mark_ne (by decide)]; exact hW))
    go_simp
    rfl
  simp only [Act.put, List.setIfInBounds_toArray, List.set_cons_zero, List.set_cons_succ]
  apply inOrder_op rfl rfl
  · intro L g' W _ _ _ hW
    obtain ⟨-, -, ⟨q1, q2, q3, q4, -⟩, -⟩ := id hW
    apply comes_value (hv := rfl) (hD := (by rw [mark_ne (by decide)]; exact hW))
    go_simp
    rfl
  simp only [Act.put, List.setIfInBounds_toArray, List.set_cons_zero, List.set_cons_succ]
  apply inOrder_op rfl rfl
  · intro L g' W _ _ _ hW
    obtain ⟨-, -, ⟨q1, q2, q3, q4, -⟩, -⟩ := id hW
    apply comes_value (hv := rfl) (hD := (by rw [mark_ne (by decide)]; exact hW))
    go_simp
    rfl
  simp only [Act.put, List.setIfInBounds_toArray, List.set_cons_zero, List.set_cons_succ]
  refine inOrder_op (v := undef) rfl rfl (fun L g' W hT hL hd hW => ?_) ?_
  · obtain ⟨hB, hs', ⟨x1, x2, x3, x4, x5, x6, -⟩, ⟨f1, y1⟩, ⟨f2, y2⟩, -⟩ := hW
    rw [hL] at x5 x6
    simp only [Bool.false_eq_true, if_false] at x5 x6
    have n1 : ¬ w.heap.size + 1 = m := by omega
    have n2 : ¬ w.heap.size + 1 = w.heap.size := by omega
    refine comes_skip (w' := (W.setCell ⟨w.heap.size + 1, 0, none⟩ (.int .i64 r)).setCell ⟨w.heap.size + 1, 1, none⟩ (.int .i64 u)) (by go_simp) ?_
    rw [mark_self, if_pos rfl, if_pos rfl]
    refine ⟨(hB.setCell H2.out _).setCell H2.out _, by simpa using hs', ?_, ?_⟩
    · refine ⟨?_, ?_, ?_, ?_, ?_, ?_, trivial⟩
      · simp only []
        rw [World.cell?_setCell_other _ _ _ _ (by simp), World.cell?_setCell_other _ _ _ _ (by simp)]; exact x1
      · simp only []
        rw [World.cell?_setCell_other _ _ _ _ (by simp), World.cell?_setCell_other _ _ _ _ (by simp)]; exact x2
      · simp only []
        rw [World.cell?_setCell_other _ _ _ _ (by simp [n1]), World.cell?_setCell_other _ _ _ _ (by simp [n1])]; exact x3
      · simp only []
        rw [World.cell?_setCell_other _ _ _ _ (by simp [n1]), World.cell?_setCell_other _ _ _ _ (by simp [n1])]; exact x4
      · simp only []
        rw [World.cell?_setCell_other _ _ _ _ (by simp), World.cell?_setCell_same' _ _ _ (by rw [x5]; rfl)]
      · simp only []
        rw [World.cell?_setCell_same' _ _ _ (by rw [isSome_set, x6]; rfl)]
    · exact ⟨⟨by simpa using f1, by simpa [go_sem] using y1⟩, ⟨by simpa using f2, by simpa [go_sem] using y2⟩, trivial⟩
  simp only [Act.put, List.setIfInBounds_toArray, List.set_cons_zero, List.set_cons_succ]
  apply inOrder_op rfl rfl
  · intro L g' W _ _ _ hW
    obtain ⟨-, -, ⟨q1, q2, q3, q4, -⟩, -⟩ := id hW
    apply comes_value (hv := rfl) (hD := (by rw [mark_ne (by decide)]; exact hW))
    go_simp
    rfl
  simp only [Act.put, List.setIfInBounds_toArray, List.set_cons_zero, List.set_cons_succ]
  refine inOrder_nil ?_
  clear HK3
  intro W hW
  have HK := Lib.hid hW
  obtain ⟨-, -, ⟨-, -, -, -, x5, x6, -⟩, -⟩ := hW
  go_wp2_with fail
  refine bodyPost_ret (v := .tuple #[.agg #[.int .i64 r, .int .i64 u], .int .i64 0]) (by simp at x5 x6; simp [results, Try.results16, go_sem, x5, x6]) rfl ⟨rfl, HK.out.1⟩
theorem spanRoot_c (a1 a2 : Int) (ha2 : IsInt a2) (w : World) : Calls Try.prog 16 #[.agg #[.int .i64 a1, .int .i64 a2]] w fun e w' => e = .returned (.tuple #[.agg #[.int .i64 (zRoot a1 a2).1, .int .i64 (zRoot a1 a2).2.1], .int .i64 (zRoot a1 a2).2.2]) ∧ Below w.heap.size w w' := by
  unfold zRoot
  split
  · rename_i h1
    split
    · rename_i h2
      exact spanRoot_range a1 a2 h1 h2 w
    · rename_i h2
      exact spanRoot_ok a1 a2 ha2 h1 (by omega) w
  · rename_i h1
    exact spanRoot_arg a1 a2 h1 w

end Go.Proofs.Ytkdfkpalgejkkaa
/-
  span: spans within others lead within what those lead to (plain numbers).
-/
set_option linter.unusedSimpArgs false
namespace Go.Proofs.Ytkdfkpalgejkkaa

/-- m and M bound what f tells of a box's corners; so they bound what it tells inside. -/
def Between (f : Int → Int → Int) (a1 a2 b1 b2 x y : Int) : Prop :=
  min (min (f a1 b1) (f a1 b2)) (min (f a2 b1) (f a2 b2)) ≤ f x y ∧ f x y ≤ max (max (f a1 b1) (f a1 b2)) (max (f a2 b1) (f a2 b2))
/-- It is enough that f lies between its values at the ends, in each of both. -/
theorem between_of {f : Int → Int → Int} {a1 a2 b1 b2 x y : Int} (h1 : min (f a1 y) (f a2 y) ≤ f x y ∧ f x y ≤ max (f a1 y) (f a2 y))
    (h2 : min (f a1 b1) (f a1 b2) ≤ f a1 y ∧ f a1 y ≤ max (f a1 b1) (f a1 b2)) (h3 : min (f a2 b1) (f a2 b2) ≤ f a2 y ∧ f a2 y ≤ max (f a2 b1) (f a2 b2)) : Between f a1 a2 b1 b2 x y := by
  unfold Between
  omega
theorem mul_between {a b x : Int} (y : Int) (h1 : a ≤ x) (h2 : x ≤ b) : min (a * y) (b * y) ≤ x * y ∧ x * y ≤ max (a * y) (b * y) := by
  by_cases h : 0 ≤ y
  · have e1 := Int.mul_le_mul_of_nonneg_right h1 h
    have e2 := Int.mul_le_mul_of_nonneg_right h2 h
    omega
  · have e1 := Int.mul_le_mul_of_nonpos_right h1 (show y ≤ 0 by omega)
    have e2 := Int.mul_le_mul_of_nonpos_right h2 (show y ≤ 0 by omega)
    omega
theorem times_between {a1 a2 b1 b2 x y : Int} (h1 : a1 ≤ x) (h2 : x ≤ a2) (h3 : b1 ≤ y) (h4 : y ≤ b2) : Between (fun x y => x * y) a1 a2 b1 b2 x y := by
  refine between_of (mul_between y h1 h2) ?_ ?_
  · have := mul_between a1 h3 h4
    simpa [Int.mul_comm] using this
  · have := mul_between a2 h3 h4
    simpa [Int.mul_comm] using this
theorem plus_between {a1 a2 b1 b2 x y : Int} (h1 : a1 ≤ x) (h2 : x ≤ a2) (h3 : b1 ≤ y) (h4 : y ≤ b2) : Between (fun x y => x + y) a1 a2 b1 b2 x y := by
  unfold Between; simp only []; omega
theorem less_between {a1 a2 b1 b2 x y : Int} (h1 : a1 ≤ x) (h2 : x ≤ a2) (h3 : b1 ≤ y) (h4 : y ≤ b2) : Between (fun x y => x - y) a1 a2 b1 b2 x y := by
  unfold Between; simp only []; omega

/-! ### Quotients -/
theorem fl_num {a b x y : Int} (hy : y ≠ 0) (h1 : a ≤ x) (h2 : x ≤ b) : min (fl a y) (fl b y) ≤ fl x y ∧ fl x y ≤ max (fl a y) (fl b y) := by
  by_cases h : 0 < y
  · have e1 := fl_mono h h1
    have e2 := fl_mono h h2
    omega
  · have h' : 0 < -y := by omega
    have e1 := fl_mono h' (show -b ≤ -x by omega)
    have e2 := fl_mono h' (show -x ≤ -a by omega)
    rw [fl_neg_neg _ hy, fl_neg_neg _ hy] at e1 e2
    omega
/-- Of divisors above 0: more of them, less of what is not below 0. -/
theorem fl_den_pos {x y z : Int} (hy : 0 < y) (hyz : y ≤ z) : (0 ≤ x → fl x z ≤ fl x y) ∧ (x ≤ 0 → fl x y ≤ fl x z) := by
  have hz : 0 < z := by omega
  constructor
  · intro hx
    refine (le_fl hy).2 ?_
    have h0 : 0 ≤ fl x z := (le_fl hz).2 (by omega)
    have h1 := fl_mul_le (p := x) hz
    have h2 := Int.mul_le_mul_of_nonneg_left hyz h0
    omega
  · intro hx
    refine (le_fl hz).2 ?_
    have h0 : fl x y ≤ 0 := by
      have := (fl_mono hy hx)
      have e : fl 0 y = 0 := by rw [fl_pos hy]; simp
      omega
    have h1 := fl_mul_le (p := x) hy
    have h2 := Int.mul_le_mul_of_nonpos_left h0 hyz
    omega
theorem fl_den {a b x y : Int} (h1 : a ≤ y) (h2 : y ≤ b) (h0 : 0 < a ∨ b < 0) : min (fl x a) (fl x b) ≤ fl x y ∧ fl x y ≤ max (fl x a) (fl x b) := by
  rcases h0 with h0 | h0
  · have e1 := fl_den_pos (x := x) h0 h1
    have e2 := fl_den_pos (x := x) (show 0 < y by omega) h2
    by_cases hx : 0 ≤ x
    · have := e1.1 hx; have := e2.1 hx; omega
    · have := e1.2 (by omega); have := e2.2 (by omega); omega
  · have e1 := fl_den_pos (x := -x) (show 0 < -b by omega) (show -b ≤ -y by omega)
    have e2 := fl_den_pos (x := -x) (show 0 < -y by omega) (show -y ≤ -a by omega)
    rw [fl_neg_neg x (by omega), fl_neg_neg x (by omega)] at e1 e2
    by_cases hx : 0 ≤ -x
    · have := e1.1 hx; have := e2.1 hx; omega
    · have := e1.2 (by omega); have := e2.2 (by omega); omega
theorem fl_between {a1 a2 b1 b2 x y : Int} (h1 : a1 ≤ x) (h2 : x ≤ a2) (h3 : b1 ≤ y) (h4 : y ≤ b2) (h0 : 0 < b1 ∨ b2 < 0) : Between fl a1 a2 b1 b2 x y :=
  between_of (fl_num (by omega) h1 h2) (fl_den h3 h4 h0) (fl_den h3 h4 h0)
theorem cl_between {a1 a2 b1 b2 x y : Int} (h1 : a1 ≤ x) (h2 : x ≤ a2) (h3 : b1 ≤ y) (h4 : y ≤ b2) (h0 : 0 < b1 ∨ b2 < 0) : Between cl a1 a2 b1 b2 x y := by
  have h := fl_between (a1 := -a2) (a2 := -a1) (x := -x) (by omega) (by omega) h3 h4 h0
  unfold Between at *
  unfold cl
  omega

/-! ### What hull tells -/
theorem hullGo_err : ∀ (l : List (Int × Int)) (lo hi : Int), (hullGo lo hi l).2.2 = 0 → (∀ p ∈ l, p.2 = 0) ∧ (hullGo lo hi l).1 ≤ lo ∧ hi ≤ (hullGo lo hi l).2.1 ∧ ∀ p ∈ l, (hullGo lo hi l).1 ≤ p.1 ∧ p.1 ≤ (hullGo lo hi l).2.1
  | [], lo, hi, _ => ⟨by simp, by simp [hullGo], by simp [hullGo], by simp⟩
  | (n, e) :: l, lo, hi, h => by
    unfold hullGo at h ⊢
    by_cases he : e = 0
    · rw [if_pos he] at h ⊢
      obtain ⟨h1, h2, h3, h4⟩ := hullGo_err l _ _ h
      refine ⟨?_, by omega, by omega, ?_⟩
      · intro p hp
        rcases List.mem_cons.1 hp with rfl | hp
        · exact he
        · exact h1 p hp
      · intro p hp
        rcases List.mem_cons.1 hp with rfl | hp
        · simp only []; omega
        · exact h4 p hp
    · rw [if_neg he] at h
      exact absurd h he
theorem hullGo_in : ∀ (l : List (Int × Int)) (lo hi m M : Int), (∀ p ∈ l, p.2 = 0 ∧ m ≤ p.1 ∧ p.1 ≤ M) → m ≤ lo → hi ≤ M → (hullGo lo hi l).2.2 = 0 ∧ m ≤ (hullGo lo hi l).1 ∧ (hullGo lo hi l).2.1 ≤ M
  | [], lo, hi, m, M, _, h1, h2 => ⟨rfl, h1, h2⟩
  | (n, e) :: l, lo, hi, m, M, h, h1, h2 => by
    obtain ⟨he, hm, hM⟩ := h (n, e) (by simp)
    unfold hullGo
    simp only [] at he hm hM
    rw [if_pos he]
    exact hullGo_in l _ _ m M (fun p hp => h p (by simp [hp])) (by omega) (by omega)
/-- One hull within another one. -/
theorem hull_within {l l' : List (Int × Int)} (hl : l ≠ []) (h0 : (hullOf l).2.2 = 0) (h : ∀ m M, (∀ p ∈ l, p.2 = 0 ∧ m ≤ p.1 ∧ p.1 ≤ M) → ∀ p ∈ l', p.2 = 0 ∧ m ≤ p.1 ∧ p.1 ≤ M) (hl' : l' ≠ []) :
    (hullOf l').2.2 = 0 ∧ (hullOf l).1 ≤ (hullOf l').1 ∧ (hullOf l').2.1 ≤ (hullOf l).2.1 := by
  cases l with
  | nil => exact absurd rfl hl
  | cons p l =>
    obtain ⟨n, e⟩ := p
    unfold hullOf at h0
    by_cases he : e = 0
    · simp only [he, if_true] at h0
      obtain ⟨h1, h2, h3, h4⟩ := hullGo_err l n n h0
      have e0 : hullOf ((n, e) :: l) = hullGo n n l := by simp [hullOf, he]
      rw [e0]
      have key := h (hullGo n n l).1 (hullGo n n l).2.1 (fun p hp => by
        rcases List.mem_cons.1 hp with rfl | hp
        · exact ⟨he, h2, h3⟩
        · exact ⟨h1 p hp, h4 p hp⟩)
      cases l' with
      | nil => exact absurd rfl hl'
      | cons p' l' =>
        obtain ⟨n', e'⟩ := p'
        obtain ⟨k1, k2, k3⟩ := key (n', e') (by simp)
        simp only [] at k1 k2 k3
        have e1 : hullOf ((n', e') :: l') = hullGo n' n' l' := by simp [hullOf, k1]
        rw [e1]
        exact hullGo_in l' n' n' _ _ (fun p hp => key p (by simp [hp])) k2 k3
    · simp only [if_neg he] at h0
      exact absurd h0 he
theorem fit_zero {v : Int} (h : (fit v).2 = 0) : IsInt v ∧ (fit v).1 = v := by
  by_cases hv : IsInt v
  · rw [fit_ok hv]; exact ⟨hv, rfl⟩
  · rw [fit_bad hv] at h; cases h
theorem fit_in {v m M : Int} (hm : IsInt m) (hM : IsInt M) (h1 : m ≤ v) (h2 : v ≤ M) : (fit v).2 = 0 ∧ m ≤ (fit v).1 ∧ (fit v).1 ≤ M := by
  have hv : IsInt v := by unfold IsInt at *; omega
  rw [fit_ok hv]
  exact ⟨rfl, h1, h2⟩
/-- Of the four corners' fits: what lies between the corners lies in the hull. -/
theorem corner_fit {f : Int → Int → Int} {a1 a2 b1 b2 x y m M : Int} (h : Between f a1 a2 b1 b2 x y)
    (h11 : (fit (f a1 b1)).2 = 0 ∧ m ≤ (fit (f a1 b1)).1 ∧ (fit (f a1 b1)).1 ≤ M) (h12 : (fit (f a1 b2)).2 = 0 ∧ m ≤ (fit (f a1 b2)).1 ∧ (fit (f a1 b2)).1 ≤ M)
    (h21 : (fit (f a2 b1)).2 = 0 ∧ m ≤ (fit (f a2 b1)).1 ∧ (fit (f a2 b1)).1 ≤ M) (h22 : (fit (f a2 b2)).2 = 0 ∧ m ≤ (fit (f a2 b2)).1 ∧ (fit (f a2 b2)).1 ≤ M) :
    (fit (f x y)).2 = 0 ∧ m ≤ (fit (f x y)).1 ∧ (fit (f x y)).1 ≤ M := by
  obtain ⟨i11, e11⟩ := fit_zero h11.1
  obtain ⟨i12, e12⟩ := fit_zero h12.1
  obtain ⟨i21, e21⟩ := fit_zero h21.1
  obtain ⟨i22, e22⟩ := fit_zero h22.1
  rw [e11] at h11
  rw [e12] at h12
  rw [e21] at h21
  rw [e22] at h22
  have hv : IsInt (f x y) := by unfold Between at h; unfold IsInt at *; omega
  rw [fit_ok hv]
  unfold Between at h
  simp only []
  refine ⟨trivial, ?_, ?_⟩ <;> omega

/-- Within: refused, or told and within. -/
def Within (s t : Int × Int × Int) : Prop := t.2.2 ≠ 0 ∨ (s.2.2 = 0 ∧ t.1 ≤ s.1 ∧ s.2.1 ≤ t.2.1)
section
variable {a1 a2 b1 b2 x1 x2 y1 y2 : Int} (h1 : a1 ≤ x1) (hx : x1 ≤ x2) (h2 : x2 ≤ a2) (h3 : b1 ≤ y1) (hy : y1 ≤ y2) (h4 : y2 ≤ b2)
include h1 hx h2 h3 hy h4
theorem four_within (f : Int → Int → Int) (hf : ∀ x y, a1 ≤ x → x ≤ a2 → b1 ≤ y → y ≤ b2 → Between f a1 a2 b1 b2 x y) :
    Within (hullOf [fit (f x1 y1), fit (f x1 y2), fit (f x2 y1), fit (f x2 y2)]) (hullOf [fit (f a1 b1), fit (f a1 b2), fit (f a2 b1), fit (f a2 b2)]) := by
  by_cases h0 : (hullOf [fit (f a1 b1), fit (f a1 b2), fit (f a2 b1), fit (f a2 b2)]).2.2 = 0
  · refine .inr (hull_within (by simp) h0 (fun m M hm p hp => ?_) (by simp))
    have k11 := hm (fit (f a1 b1)) (by simp)
    have k12 := hm (fit (f a1 b2)) (by simp)
    have k21 := hm (fit (f a2 b1)) (by simp)
    have k22 := hm (fit (f a2 b2)) (by simp)
    simp only [List.mem_cons, List.not_mem_nil, or_false] at hp
    rcases hp with rfl | rfl | rfl | rfl
    · exact corner_fit (hf _ _ (by omega) (by omega) (by omega) (by omega)) k11 k12 k21 k22
    · exact corner_fit (hf _ _ (by omega) (by omega) (by omega) (by omega)) k11 k12 k21 k22
    · exact corner_fit (hf _ _ (by omega) (by omega) (by omega) (by omega)) k11 k12 k21 k22
    · exact corner_fit (hf _ _ (by omega) (by omega) (by omega) (by omega)) k11 k12 k21 k22
  · exact .inl h0
theorem zAdd_within : Within (zAdd x1 x2 y1 y2) (zAdd a1 a2 b1 b2) := by
  unfold zAdd
  rw [if_pos ⟨hx, hy⟩, if_pos (show a1 ≤ a2 ∧ b1 ≤ b2 by omega)]
  exact four_within h1 hx h2 h3 hy h4 (fun x y => x + y) (fun x y k1 k2 k3 k4 => plus_between k1 k2 k3 k4)
theorem zSub_within : Within (zSub x1 x2 y1 y2) (zSub a1 a2 b1 b2) := by
  unfold zSub
  rw [if_pos ⟨hx, hy⟩, if_pos (show a1 ≤ a2 ∧ b1 ≤ b2 by omega)]
  exact four_within h1 hx h2 h3 hy h4 (fun x y => x - y) (fun x y k1 k2 k3 k4 => less_between k1 k2 k3 k4)
theorem zMul_within : Within (zMul x1 x2 y1 y2) (zMul a1 a2 b1 b2) := by
  unfold zMul
  rw [if_pos ⟨hx, hy⟩, if_pos (show a1 ≤ a2 ∧ b1 ≤ b2 by omega)]
  exact four_within h1 hx h2 h3 hy h4 (fun x y => x * y) (fun x y k1 k2 k3 k4 => times_between k1 k2 k3 k4)
theorem zDiv_within : Within (zDiv x1 x2 y1 y2) (zDiv a1 a2 b1 b2) := by
  unfold zDiv
  rw [if_pos ⟨hx, hy⟩, if_pos (show a1 ≤ a2 ∧ b1 ≤ b2 by omega)]
  by_cases h0 : b1 ≤ 0 ∧ 0 ≤ b2
  · rw [if_pos h0]
    exact .inl (by decide)
  · rw [if_neg h0, if_neg (show ¬ (y1 ≤ 0 ∧ 0 ≤ y2) by omega)]
    have hb : 0 < b1 ∨ b2 < 0 := by omega
    have e0 : ∀ x y, md x y 0 = fl x y := fun x y => rfl
    have e1 : ∀ x y, md x y 1 = cl x y := fun x y => rfl
    simp only [e0, e1]
    by_cases hz : (hullOf [fit (fl a1 b1), fit (cl a1 b1), fit (fl a1 b2), fit (cl a1 b2), fit (fl a2 b1), fit (cl a2 b1), fit (fl a2 b2), fit (cl a2 b2)]).2.2 = 0
    · refine .inr (hull_within (by simp) hz (fun m M hm p hp => ?_) (by simp))
      have k11 := hm (fit (fl a1 b1)) (by simp)
      have k12 := hm (fit (fl a1 b2)) (by simp)
      have k21 := hm (fit (fl a2 b1)) (by simp)
      have k22 := hm (fit (fl a2 b2)) (by simp)
      have c11 := hm (fit (cl a1 b1)) (by simp)
      have c12 := hm (fit (cl a1 b2)) (by simp)
      have c21 := hm (fit (cl a2 b1)) (by simp)
      have c22 := hm (fit (cl a2 b2)) (by simp)
      simp only [List.mem_cons, List.not_mem_nil, or_false] at hp
      rcases hp with rfl | rfl | rfl | rfl | rfl | rfl | rfl | rfl
      · exact corner_fit (fl_between (by omega) (by omega) (by omega) (by omega) hb) k11 k12 k21 k22
      · exact corner_fit (cl_between (by omega) (by omega) (by omega) (by omega) hb) c11 c12 c21 c22
      · exact corner_fit (fl_between (by omega) (by omega) (by omega) (by omega) hb) k11 k12 k21 k22
      · exact corner_fit (cl_between (by omega) (by omega) (by omega) (by omega) hb) c11 c12 c21 c22
      · exact corner_fit (fl_between (by omega) (by omega) (by omega) (by omega) hb) k11 k12 k21 k22
      · exact corner_fit (cl_between (by omega) (by omega) (by omega) (by omega) hb) c11 c12 c21 c22
      · exact corner_fit (fl_between (by omega) (by omega) (by omega) (by omega) hb) k11 k12 k21 k22
      · exact corner_fit (cl_between (by omega) (by omega) (by omega) (by omega) hb) c11 c12 c21 c22
    · exact .inl hz
end
theorem zRoot_within {a1 a2 x1 : Int} (h1 : a1 ≤ x1) (h2 : x1 ≤ a2) : Within (zRoot x1 a2) (zRoot a1 a2) := by
  unfold zRoot
  rw [if_pos h2, if_pos (show a1 ≤ a2 by omega)]
  by_cases h0 : a1 < 0
  · rw [if_pos h0]
    exact .inl (by decide)
  · rw [if_neg h0, if_neg (by omega)]
    refine .inr ⟨rfl, ?_, Int.le_refl _⟩
    exact isqrt_mono (by omega) h1
end Go.Proofs.Ytkdfkpalgejkkaa
/-
  datumlaw05.SpanInside, walked.
-/
set_option linter.unusedSimpArgs false
namespace Go.Proofs.Ytkdfkpalgejkkaa
open Go.RowKit Go.Shelf

theorem within_c (s1 s2 g t1 t2 h : Int) (hw : Within (s1, s2, g) (t1, t2, h)) (w : World) :
    Calls Try.prog 33 #[.agg #[.int .i64 s1, .int .i64 s2], .int .i64 g, .agg #[.int .i64 t1, .int .i64 t2], .int .i64 h] w fun e w' => e = .returned (.bool true) ∧ Below w.heap.size w w' := by
  by_cases h0 : h = 0
  · subst h0
    obtain ⟨rfl, k1, k2⟩ : g = 0 ∧ t1 ≤ s1 ∧ s2 ≤ t2 := by
      rcases hw with hw | hw
      · exact absurd rfl hw
      · exact hw
    clear hw
    go_enter Try.func33, Try.ntmps33
    go_wp2
    go_ret
    exact ⟨rfl, ((Below.refl _ _).alloc (Nat.le_refl _) _).alloc (by simp) _⟩
  · have h1 : (h != 0) = true := bne_iff_ne.2 h0
    clear hw
    go_enter Try.func33, Try.ntmps33
    go_wp2
    go_ret
    exact ⟨rfl, ((Below.refl _ _).alloc (Nat.le_refl _) _).alloc (by simp) _⟩

def lo3 (a b c : Int) : Int := min a (min b c)
def hi3 (a b c : Int) : Int := max a (max b c)
def mid3 (a b c : Int) : Int := max (min a b) (min (max a b) c)
theorem some05_ret {x y z a b c : Int} (h1 : x = lo3 a b c) (h2 : y = hi3 a b c) (h3 : z = mid3 a b c) : Ending.returned (.tuple #[.agg #[.int .i64 x, .int .i64 y], .int .i64 z]) = Ending.returned (.tuple #[.agg #[.int .i64 (lo3 a b c), .int .i64 (hi3 a b c)], .int .i64 (mid3 a b c)]) := by rw [h1, h2, h3]
theorem some05_c (a b c : Int) (w : World) :
    Calls Try.prog 32 #[.int .i64 a, .int .i64 b, .int .i64 c] w fun e w' => e = .returned (.tuple #[.agg #[.int .i64 (lo3 a b c), .int .i64 (hi3 a b c)], .int .i64 (mid3 a b c)]) ∧ Below w.heap.size w w' := by
  by_cases h0 : b < a
  · skip
    by_cases h1 : c < a
    · skip
      by_cases h2 : c < b
      · skip
        go_enter Try.func32, Try.ntmps32
        go_wp2
        refine bodyPost_ret (v := .tuple #[.agg #[.int .i64 c, .int .i64 a], .int .i64 b]) (by simp [results, Try.results32, go_sem]) rfl ⟨some05_ret (by unfold lo3; omega) (by unfold hi3; omega) (by unfold mid3; omega), ?_⟩
        exact (Below.refl _ _).alloc (Nat.le_refl _) _
      · skip
        go_enter Try.func32, Try.ntmps32
        go_wp2
        refine bodyPost_ret (v := .tuple #[.agg #[.int .i64 b, .int .i64 a], .int .i64 c]) (by simp [results, Try.results32, go_sem]) rfl ⟨some05_ret (by unfold lo3; omega) (by unfold hi3; omega) (by unfold mid3; omega), ?_⟩
        exact (Below.refl _ _).alloc (Nat.le_refl _) _
    · skip
      by_cases h2 : a < b
      · skip
        exfalso; omega
      · skip
        go_enter Try.func32, Try.ntmps32
        go_wp2
        refine bodyPost_ret (v := .tuple #[.agg #[.int .i64 b, .int .i64 c], .int .i64 a]) (by simp [results, Try.results32, go_sem]) rfl ⟨some05_ret (by unfold lo3; omega) (by unfold hi3; omega) (by unfold mid3; omega), ?_⟩
        exact (Below.refl _ _).alloc (Nat.le_refl _) _
  · skip
    by_cases h1 : c < b
    · skip
      by_cases h2 : c < a
      · skip
        go_enter Try.func32, Try.ntmps32
        go_wp2
        refine bodyPost_ret (v := .tuple #[.agg #[.int .i64 c, .int .i64 b], .int .i64 a]) (by simp [results, Try.results32, go_sem]) rfl ⟨some05_ret (by unfold lo3; omega) (by unfold hi3; omega) (by unfold mid3; omega), ?_⟩
        exact (Below.refl _ _).alloc (Nat.le_refl _) _
      · skip
        go_enter Try.func32, Try.ntmps32
        go_wp2
        refine bodyPost_ret (v := .tuple #[.agg #[.int .i64 a, .int .i64 b], .int .i64 c]) (by simp [results, Try.results32, go_sem]) rfl ⟨some05_ret (by unfold lo3; omega) (by unfold hi3; omega) (by unfold mid3; omega), ?_⟩
        exact (Below.refl _ _).alloc (Nat.le_refl _) _
    · skip
      by_cases h2 : b < a
      · skip
        exfalso; omega
      · skip
        go_enter Try.func32, Try.ntmps32
        go_wp2
        refine bodyPost_ret (v := .tuple #[.agg #[.int .i64 a, .int .i64 c], .int .i64 b]) (by simp [results, Try.results32, go_sem]) rfl ⟨some05_ret (by unfold lo3; omega) (by unfold hi3; omega) (by unfold mid3; omega), ?_⟩
        exact (Below.refl _ _).alloc (Nat.le_refl _) _

theorem alive05_c (w : World) : Calls Try.prog 17 #[] w fun e w' => e = .returned (.bool true) ∧ Below w.heap.size w w' := by
  have hz : zMul (-2) 3 (-1) 4 = (-8, 12, 0) := by decide
  have HM := Lib.hid (fun W => spanMul_c (-2) 3 (-1) 4 (by decide) (by decide) (by decide) (by decide) W)
  rw [hz] at HM
  clear hz
  go_enter Try.func17, Try.ntmps17
  go_wp2_with fail
  refine (HM.out _).mono ?_
  rintro e w1 ⟨rfl, hb⟩
  go_wp2
  go_ret
  exact ⟨rfl, hb.alloc hb.size _⟩

set_option maxHeartbeats 4000000 in
set_option maxRecDepth 100000 in
theorem spanInside_walk (a b c d e f : Int) (ha : IsInt a) (hb : IsInt b) (hc : IsInt c) (hd : IsInt d) (he : IsInt e) (hf : IsInt f) (w : World) :
    Calls Try.prog 7 #[.int .i64 a, .int .i64 b, .int .i64 c, .int .i64 d, .int .i64 e, .int .i64 f] w fun e w' => e = .returned (.bool true) ∧ Below w.heap.size w w' := by
  have HS1 := Lib.hid (fun W => some05_c a b c W)
  have HS2 := Lib.hid (fun W => some05_c d e f W)
  have HAl := Lib.hid (fun W => alive05_c W)
  have eg := enters_of Try.func33 (by kernel_rfl) rfl
  have o1 : lo3 a b c ≤ mid3 a b c ∧ mid3 a b c ≤ hi3 a b c ∧ IsInt (lo3 a b c) ∧ IsInt (mid3 a b c) ∧ IsInt (hi3 a b c) := by unfold IsInt lo3 mid3 hi3 at *; omega
  have o2 : lo3 d e f ≤ mid3 d e f ∧ mid3 d e f ≤ hi3 d e f ∧ IsInt (lo3 d e f) ∧ IsInt (mid3 d e f) ∧ IsInt (hi3 d e f) := by unfold IsInt lo3 mid3 hi3 at *; omega
  clear ha hb hc hd he hf
  generalize lo3 a b c = p1 at *
  generalize mid3 a b c = x at *
  generalize hi3 a b c = p2 at *
  generalize lo3 d e f = q1 at *
  generalize mid3 d e f = y at *
  generalize hi3 d e f = q2 at *
  obtain ⟨g1, g2, g3, g4, g5⟩ := o1
  obtain ⟨g6, g7, g8, g9, g10⟩ := o2
  have WAdd := zAdd_within (a1 := p1) (a2 := p2) (b1 := q1) (b2 := q2) (x1 := x) (x2 := p2) (y1 := q1) (y2 := y) g1 g2 (Int.le_refl _) (Int.le_refl _) g6 g7
  have IAdd := Lib.hid (fun W => spanAdd_c x p2 q1 y g4 g5 g8 g9 W)
  have OAdd := Lib.hid (fun W => spanAdd_c p1 p2 q1 q2 g3 g5 g8 g10 W)
  have WSub := zSub_within (a1 := p1) (a2 := p2) (b1 := q1) (b2 := q2) (x1 := x) (x2 := p2) (y1 := q1) (y2 := y) g1 g2 (Int.le_refl _) (Int.le_refl _) g6 g7
  have ISub := Lib.hid (fun W => spanSub_c x p2 q1 y g4 g5 g8 g9 W)
  have OSub := Lib.hid (fun W => spanSub_c p1 p2 q1 q2 g3 g5 g8 g10 W)
  have WMul := zMul_within (a1 := p1) (a2 := p2) (b1 := q1) (b2 := q2) (x1 := x) (x2 := p2) (y1 := q1) (y2 := y) g1 g2 (Int.le_refl _) (Int.le_refl _) g6 g7
  have IMul := Lib.hid (fun W => spanMul_c x p2 q1 y g4 g5 g8 g9 W)
  have OMul := Lib.hid (fun W => spanMul_c p1 p2 q1 q2 g3 g5 g8 g10 W)
  have WDiv := zDiv_within (a1 := p1) (a2 := p2) (b1 := q1) (b2 := q2) (x1 := x) (x2 := p2) (y1 := q1) (y2 := y) g1 g2 (Int.le_refl _) (Int.le_refl _) g6 g7
  have IDiv := Lib.hid (fun W => spanDiv_c x p2 q1 y g4 g5 g8 g9 W)
  have ODiv := Lib.hid (fun W => spanDiv_c p1 p2 q1 q2 g3 g5 g8 g10 W)
  have WRoot := zRoot_within g1 g2
  have IRoot := Lib.hid (fun W => spanRoot_c x p2 g5 W)
  have ORoot := Lib.hid (fun W => spanRoot_c p1 p2 g5 W)
  obtain ⟨⟨sIAdd1, sIAdd2, sIAdd3⟩, hzIAdd⟩ : ∃ t, zAdd x p2 q1 y = t := ⟨_, rfl⟩
  rw [hzIAdd] at IAdd WAdd
  clear hzIAdd
  obtain ⟨⟨sOAdd1, sOAdd2, sOAdd3⟩, hzOAdd⟩ : ∃ t, zAdd p1 p2 q1 q2 = t := ⟨_, rfl⟩
  rw [hzOAdd] at OAdd WAdd
  clear hzOAdd
  have VAdd := Lib.hid (fun W => within_c sIAdd1 sIAdd2 sIAdd3 sOAdd1 sOAdd2 sOAdd3 WAdd W)
  clear WAdd
  obtain ⟨⟨sISub1, sISub2, sISub3⟩, hzISub⟩ : ∃ t, zSub x p2 q1 y = t := ⟨_, rfl⟩
  rw [hzISub] at ISub WSub
  clear hzISub
  obtain ⟨⟨sOSub1, sOSub2, sOSub3⟩, hzOSub⟩ : ∃ t, zSub p1 p2 q1 q2 = t := ⟨_, rfl⟩
  rw [hzOSub] at OSub WSub
  clear hzOSub
  have VSub := Lib.hid (fun W => within_c sISub1 sISub2 sISub3 sOSub1 sOSub2 sOSub3 WSub W)
  clear WSub
  obtain ⟨⟨sIMul1, sIMul2, sIMul3⟩, hzIMul⟩ : ∃ t, zMul x p2 q1 y = t := ⟨_, rfl⟩
  rw [hzIMul] at IMul WMul
  clear hzIMul
  obtain ⟨⟨sOMul1, sOMul2, sOMul3⟩, hzOMul⟩ : ∃ t, zMul p1 p2 q1 q2 = t := ⟨_, rfl⟩
  rw [hzOMul] at OMul WMul
  clear hzOMul
  have VMul := Lib.hid (fun W => within_c sIMul1 sIMul2 sIMul3 sOMul1 sOMul2 sOMul3 WMul W)
  clear WMul
  obtain ⟨⟨sIDiv1, sIDiv2, sIDiv3⟩, hzIDiv⟩ : ∃ t, zDiv x p2 q1 y = t := ⟨_, rfl⟩
  rw [hzIDiv] at IDiv WDiv
  clear hzIDiv
  obtain ⟨⟨sODiv1, sODiv2, sODiv3⟩, hzODiv⟩ : ∃ t, zDiv p1 p2 q1 q2 = t := ⟨_, rfl⟩
  rw [hzODiv] at ODiv WDiv
  clear hzODiv
  have VDiv := Lib.hid (fun W => within_c sIDiv1 sIDiv2 sIDiv3 sODiv1 sODiv2 sODiv3 WDiv W)
  clear WDiv
  obtain ⟨⟨sIRoot1, sIRoot2, sIRoot3⟩, hzIRoot⟩ : ∃ t, zRoot x p2 = t := ⟨_, rfl⟩
  rw [hzIRoot] at IRoot WRoot
  clear hzIRoot
  obtain ⟨⟨sORoot1, sORoot2, sORoot3⟩, hzORoot⟩ : ∃ t, zRoot p1 p2 = t := ⟨_, rfl⟩
  rw [hzORoot] at ORoot WRoot
  clear hzORoot
  have VRoot := Lib.hid (fun W => within_c sIRoot1 sIRoot2 sIRoot3 sORoot1 sORoot2 sORoot3 WRoot W)
  clear WRoot
  clear g1 g2 g3 g4 g5 g6 g7 g8 g9 g10
  go_enter Try.func7, Try.ntmps7
  go_wp2_with fail
  refine (HS1.out _).mono ?_
  rintro e w1 ⟨rfl, hb⟩
  obtain ⟨b1, hb1⟩ : ∃ k, w1.heap.size = k := ⟨_, rfl⟩
  have HK : Hid (Knows w.heap.size w [(⟨b1, 0, none⟩, .int .i64 p1), (⟨b1, 1, none⟩, .int .i64 p2)] [] (w1.alloc (.cells #[.int .i64 p1, .int .i64 p2] 23))) := Lib.hid ⟨hb.alloc hb.size _, Nat.le_trans hb.size (by simp), ⟨by rw [← hb1]; simp [go_sem], by rw [← hb1]; simp [go_sem], trivial⟩, trivial⟩
  clear hb
  go_wp2_with fail
  refine (HS2.out _).mono ?_
  rintro e w2 ⟨rfl, hb⟩
  have hK := HK.out.call hb
  clear HK hb
  obtain ⟨b2, hb2⟩ : ∃ k, w2.heap.size = k := ⟨_, rfl⟩
  have l1 : b1 < b2 := by rw [← hb2]; exact World.block_lt_of_cell? w2 _ hK.2.2.1.1
  have HK : Hid (Knows w.heap.size w [(⟨b1, 0, none⟩, .int .i64 p1), (⟨b1, 1, none⟩, .int .i64 p2), (⟨b2, 0, none⟩, .int .i64 q1), (⟨b2, 1, none⟩, .int .i64 q2)] [] (w2.alloc (.cells #[.int .i64 q1, .int .i64 q2] 23))) := Lib.hid ⟨hK.1.alloc hK.2.1 _, Nat.le_trans hK.2.1 (by simp), ⟨alloc_cell hK.2.2.1.1 _, alloc_cell hK.2.2.1.2.1 _, by rw [← hb2]; simp [go_sem], by rw [← hb2]; simp [go_sem], trivial⟩, trivial⟩
  obtain ⟨-, -, ⟨c0, c1, c2, c3, -⟩, -⟩ := HK.out
  have hs2 : b2 + 1 ≤ (w2.alloc (.cells #[.int .i64 q1, .int .i64 q2] 23)).heap.size := by rw [← hb2]; simp
  have HLE : Hid (w.heap.size ≤ b2) := Lib.hid (by rw [← hb2]; exact hK.2.1)
  clear hK
  go_wp2_with fail
  refine wp_region_plan (fun L g W => Knows w.heap.size w [(⟨b1, 0, none⟩, .int .i64 p1), (⟨b1, 1, none⟩, .int .i64 p2), (⟨b2, 0, none⟩, .int .i64 q1), (⟨b2, 1, none⟩, .int .i64 q2)] [] W ∧ b2 + 1 ≤ W.heap.size ∧ Var L g 8 10 (b2 + 1) #[.int .i64 0, .int .i64 0] #[.int .i64 x, .int .i64 p2] 23 W ∧ Var L g 9 11 (b2 + 1) #[.int .i64 0, .int .i64 0] #[.int .i64 q1, .int .i64 y] 23 W ∧ (L 8 = true → L 9 = true → g 8 ≠ g 9)) 12 (by kernel_rfl) (by kernel_rfl) rfl ?_ ?_
  · exact ⟨HK.out.drew, hs2, ⟨by simp, by simp⟩, ⟨by simp, by simp⟩, by simp⟩
  simp only [List.zipIdx_cons, List.zipIdx_nil, List.map_cons, List.map_nil, Nat.zero_add, Nat.reduceAdd]
  apply inOrder_op rfl rfl
  · intro L g' W _ _ _ hW
    obtain ⟨-, -, ⟨q1, q2, q3, q4, -⟩, -⟩ := id hW.1
    apply comes_value (hv := rfl) (hD := ⟨hW.1, hW.2.1, hW.2.2.1.mark (by decide) (by decide), hW.2.2.2.1.mark (by decide) (by decide), by rw [mark_ne (by decide), mark_ne (by decide)]; exact hW.2.2.2.2⟩)
    go_simp
    rfl
  simp only [Act.put, List.setIfInBounds_toArray, List.set_cons_zero, List.set_cons_succ]
  apply inOrder_op rfl rfl
  · intro L g' W _ _ _ hW
    obtain ⟨-, -, ⟨q1, q2, q3, q4, -⟩, -⟩ := id hW.1
    apply comes_value (hv := rfl) (hD := ⟨hW.1, hW.2.1, hW.2.2.1.mark (by decide) (by decide), hW.2.2.2.1.mark (by decide) (by decide), by rw [mark_ne (by decide), mark_ne (by decide)]; exact hW.2.2.2.2⟩)
    go_simp
    rfl
  simp only [Act.put, List.setIfInBounds_toArray, List.set_cons_zero, List.set_cons_succ]
  apply inOrder_op rfl rfl
  · intro L g' W _ _ _ hW
    obtain ⟨-, -, ⟨q1, q2, q3, q4, -⟩, -⟩ := id hW.1
    apply comes_value (hv := rfl) (hD := ⟨hW.1, hW.2.1, hW.2.2.1.mark (by decide) (by decide), hW.2.2.2.1.mark (by decide) (by decide), by rw [mark_ne (by decide), mark_ne (by decide)]; exact hW.2.2.2.2⟩)
    go_simp
    rfl
  simp only [Act.put, List.setIfInBounds_toArray, List.set_cons_zero, List.set_cons_succ]
  apply inOrder_op rfl rfl
  · intro L g' W _ _ _ hW
    obtain ⟨-, -, ⟨q1, q2, q3, q4, -⟩, -⟩ := id hW.1
    apply comes_value (hv := rfl) (hD := ⟨hW.1, hW.2.1, hW.2.2.1.mark (by decide) (by decide), hW.2.2.2.1.mark (by decide) (by decide), by rw [mark_ne (by decide), mark_ne (by decide)]; exact hW.2.2.2.2⟩)
    go_simp
    rfl
  simp only [Act.put, List.setIfInBounds_toArray, List.set_cons_zero, List.set_cons_succ]
  apply inOrder_op rfl rfl
  · intro L g' W _ _ _ hW
    obtain ⟨-, -, ⟨q1, q2, q3, q4, -⟩, -⟩ := id hW.1
    apply comes_value (hv := rfl) (hD := ⟨hW.1, hW.2.1, hW.2.2.1.mark (by decide) (by decide), hW.2.2.2.1.mark (by decide) (by decide), by rw [mark_ne (by decide), mark_ne (by decide)]; exact hW.2.2.2.2⟩)
    go_simp
    rfl
  simp only [Act.put, List.setIfInBounds_toArray, List.set_cons_zero, List.set_cons_succ]
  apply inOrder_op rfl rfl
  · intro L g' W _ _ _ hW
    obtain ⟨-, -, ⟨q1, q2, q3, q4, -⟩, -⟩ := id hW.1
    apply comes_value (hv := rfl) (hD := ⟨hW.1, hW.2.1, hW.2.2.1.mark (by decide) (by decide), hW.2.2.2.1.mark (by decide) (by decide), by rw [mark_ne (by decide), mark_ne (by decide)]; exact hW.2.2.2.2⟩)
    go_simp
    rfl
  simp only [Act.put, List.setIfInBounds_toArray, List.set_cons_zero, List.set_cons_succ]
  apply inOrder_op rfl rfl
  · intro L g' W _ _ _ hW
    obtain ⟨-, -, ⟨q1, q2, q3, q4, -⟩, -⟩ := id hW.1
    apply comes_value (hv := rfl) (hD := ⟨hW.1, hW.2.1, hW.2.2.1.mark (by decide) (by decide), hW.2.2.2.1.mark (by decide) (by decide), by rw [mark_ne (by decide), mark_ne (by decide)]; exact hW.2.2.2.2⟩)
    go_simp
    rfl
  simp only [Act.put, List.setIfInBounds_toArray, List.set_cons_zero, List.set_cons_succ]
  apply inOrder_op rfl rfl
  · intro L g' W _ _ _ hW
    obtain ⟨-, -, ⟨q1, q2, q3, q4, -⟩, -⟩ := id hW.1
    apply comes_value (hv := rfl) (hD := ⟨hW.1, hW.2.1, hW.2.2.1.mark (by decide) (by decide), hW.2.2.2.1.mark (by decide) (by decide), by rw [mark_ne (by decide), mark_ne (by decide)]; exact hW.2.2.2.2⟩)
    go_simp
    rfl
  simp only [Act.put, List.setIfInBounds_toArray, List.set_cons_zero, List.set_cons_succ]
  refine inOrder_make rfl (fun L g' W hi hW => ?_) (fun p4 => ?_)
  · refine ⟨.pointer (some ⟨W.heap.size, 0, none⟩), W.alloc (.cells #[.int .i64 0, .int .i64 0] 23), by go_simp, hW.1.alloc _, Nat.le_trans hW.2.1 (by simp), hW.2.2.1.make hi (by decide) hW.2.1, ((hW.2.2.2.1.alloc _).held (by decide)).mark (by decide) (by decide), fun _ h5 => ?_⟩
    rw [mark_ne (by decide)] at h5
    obtain ⟨b, hb1, -, hb3, -⟩ := hW.2.2.2.1.2 h5
    rw [held_self, held_ne (by decide), hb1]
    first | (simp; done) | (simp; omega)
  simp only [Act.put, List.setIfInBounds_toArray, List.set_cons_zero, List.set_cons_succ]
  refine inOrder_make rfl (fun L g' W hi hW => ?_) (fun p5 => ?_)
  · refine ⟨.pointer (some ⟨W.heap.size, 0, none⟩), W.alloc (.cells #[.int .i64 0, .int .i64 0] 23), by go_simp, hW.1.alloc _, Nat.le_trans hW.2.1 (by simp), ((hW.2.2.1.alloc _).held (by decide)).mark (by decide) (by decide), hW.2.2.2.1.make hi (by decide) hW.2.1, fun h4 _ => ?_⟩
    rw [mark_ne (by decide)] at h4
    obtain ⟨b, hb1, -, hb3, -⟩ := hW.2.2.1.2 h4
    rw [held_self, held_ne (by decide), hb1]
    first | (simp; done) | (simp; omega)
  simp only [Act.put, List.setIfInBounds_toArray, List.set_cons_zero, List.set_cons_succ]
  refine inOrder_op (v := undef) rfl rfl (fun L g' W hT hL hd hW => ?_) ?_
  · have h4 : L 8 = true := hd ⟨8, .data⟩ (by simp) rfl
    have h5 : L 9 = true := hd ⟨9, .phase⟩ (by simp) rfl
    obtain ⟨b, hb1, hb2, hb3, hb4⟩ := hW.2.2.1.here h4 hL
    have hp : p4 = .pointer (some ⟨b, 0, none⟩) := by rw [← hb1, hT 8 (by simp)]; rfl
    subst hp
    have k0 := block_cell (o := 0) hb4 rfl
    have k1 := block_cell (o := 1) hb4 rfl
    have f0 := block_free hb4 0
    have f1 := block_free hb4 1
    refine comes_skip (w' := (W.setCell ⟨b, 0, none⟩ (.int .i64 x)).setCell ⟨b, 1, none⟩ (.int .i64 p2)) (by go_simp) ⟨hW.1.far (b := b) (by have := HLE.out; omega) (by simp; omega) (by simp) set2_size rfl rfl rfl set2_other, by rw [set2_size]; exact hW.2.1,
      Var.store h4 hb1 hb2 hb3 (by decide) set2_size (set2_block hb4), (hW.2.2.2.1.other (b := b) (by rw [← hb1]; exact (hW.2.2.2.2 h4 h5).symm) set2_size set2_other).mark (by decide) (by decide), by rw [mark_ne (by decide), mark_ne (by decide)]; exact hW.2.2.2.2⟩
  simp only [Act.put, List.setIfInBounds_toArray, List.set_cons_zero, List.set_cons_succ]
  refine inOrder_op (v := undef) rfl rfl (fun L g' W hT hL hd hW => ?_) ?_
  · have h4 : L 8 = true := hd ⟨8, .phase⟩ (by simp) rfl
    have h5 : L 9 = true := hd ⟨9, .data⟩ (by simp) rfl
    obtain ⟨b, hb1, hb2, hb3, hb4⟩ := hW.2.2.2.1.here h5 hL
    have hp : p5 = .pointer (some ⟨b, 0, none⟩) := by rw [← hb1, hT 9 (by simp)]; rfl
    subst hp
    have k0 := block_cell (o := 0) hb4 rfl
    have k1 := block_cell (o := 1) hb4 rfl
    have f0 := block_free hb4 0
    have f1 := block_free hb4 1
    refine comes_skip (w' := (W.setCell ⟨b, 0, none⟩ (.int .i64 q1)).setCell ⟨b, 1, none⟩ (.int .i64 y)) (by go_simp) ⟨hW.1.far (b := b) (by have := HLE.out; omega) (by simp; omega) (by simp) set2_size rfl rfl rfl set2_other, by rw [set2_size]; exact hW.2.1,
      (hW.2.2.1.other (b := b) (by rw [← hb1]; exact hW.2.2.2.2 h4 h5) set2_size set2_other).mark (by decide) (by decide), Var.store h5 hb1 hb2 hb3 (by decide) set2_size (set2_block hb4), by rw [mark_ne (by decide), mark_ne (by decide)]; exact hW.2.2.2.2⟩
  simp only [Act.put, List.setIfInBounds_toArray, List.set_cons_zero, List.set_cons_succ]
  refine inOrder_nil ?_
  clear HK c0 c1 c2 c3
  intro W hW
  obtain ⟨hK, hs, hv4, hv5, hne⟩ := hW
  obtain ⟨b6, e6, l6, s6, k6⟩ := hv4.done rfl rfl
  obtain ⟨b7, e7, l7, s7, k7⟩ := hv5.done rfl rfl
  obtain rfl : p4 = .pointer (some ⟨b6, 0, none⟩) := e6
  obtain rfl : p5 = .pointer (some ⟨b7, 0, none⟩) := e7
  clear hv4 hv5 hne
  have HK : Hid (Knows w.heap.size w [(⟨b1, 0, none⟩, .int .i64 p1), (⟨b1, 1, none⟩, .int .i64 p2), (⟨b2, 0, none⟩, .int .i64 q1), (⟨b2, 1, none⟩, .int .i64 q2), (⟨b6, 0, none⟩, .int .i64 x), (⟨b6, 1, none⟩, .int .i64 p2), (⟨b7, 0, none⟩, .int .i64 q1), (⟨b7, 1, none⟩, .int .i64 y)] [] W) := Lib.hid ⟨hK.1, hK.2.1, ⟨hK.2.2.1.1, hK.2.2.1.2.1, hK.2.2.1.2.2.1, hK.2.2.1.2.2.2.1, block_cell (o := 0) k6 rfl, block_cell (o := 1) k6 rfl, block_cell (o := 0) k7 rfl, block_cell (o := 1) k7 rfl, trivial⟩, trivial⟩
  clear hK hs k6 k7 s6 s7 l6 l7 hs2 l1
  obtain ⟨-, -, ⟨c0, c1, c2, c3, c4, c5, c6, c7, -⟩, -⟩ := HK.out
  go_wp2_with fail
  refine (IAdd.out _).mono ?_
  rintro e w10 ⟨rfl, hb⟩
  have hK := HK.out.call hb
  clear HK hb c0 c1 c2 c3 c4 c5 c6 c7 IAdd
  obtain ⟨m10, hm10⟩ : ∃ k, w10.heap.size = k := ⟨_, rfl⟩
  have HK : Hid (Knows w.heap.size w [(⟨b1, 0, none⟩, .int .i64 p1), (⟨b1, 1, none⟩, .int .i64 p2), (⟨b2, 0, none⟩, .int .i64 q1), (⟨b2, 1, none⟩, .int .i64 q2), (⟨b6, 0, none⟩, .int .i64 x), (⟨b6, 1, none⟩, .int .i64 p2), (⟨b7, 0, none⟩, .int .i64 q1), (⟨b7, 1, none⟩, .int .i64 y), (⟨m10, 0, none⟩, .int .i64 sIAdd1), (⟨m10, 1, none⟩, .int .i64 sIAdd2)] [] (w10.alloc (.cells #[.int .i64 sIAdd1, .int .i64 sIAdd2] 23))) := Lib.hid ⟨hK.1.alloc hK.2.1 _, Nat.le_trans hK.2.1 (by simp), ⟨alloc_cell (hK.2.2.1.1) _, alloc_cell (hK.2.2.1.2.1) _, alloc_cell (hK.2.2.1.2.2.1) _, alloc_cell (hK.2.2.1.2.2.2.1) _, alloc_cell (hK.2.2.1.2.2.2.2.1) _, alloc_cell (hK.2.2.1.2.2.2.2.2.1) _, alloc_cell (hK.2.2.1.2.2.2.2.2.2.1) _, alloc_cell (hK.2.2.1.2.2.2.2.2.2.2.1) _, by rw [← hm10]; simp [go_sem], by rw [← hm10]; simp [go_sem], trivial⟩, trivial⟩
  clear hK
  obtain ⟨-, -, ⟨c0, c1, c2, c3, c4, c5, c6, c7, c8, c9, -⟩, -⟩ := HK.out
  go_wp2_with fail
  refine (OAdd.out _).mono ?_
  rintro e w11 ⟨rfl, hb⟩
  have hK := HK.out.call hb
  clear HK hb c0 c1 c2 c3 c4 c5 c6 c7 c8 c9 OAdd
  obtain ⟨m11, hm11⟩ : ∃ k, w11.heap.size = k := ⟨_, rfl⟩
  have HK : Hid (Knows w.heap.size w [(⟨b1, 0, none⟩, .int .i64 p1), (⟨b1, 1, none⟩, .int .i64 p2), (⟨b2, 0, none⟩, .int .i64 q1), (⟨b2, 1, none⟩, .int .i64 q2), (⟨b6, 0, none⟩, .int .i64 x), (⟨b6, 1, none⟩, .int .i64 p2), (⟨b7, 0, none⟩, .int .i64 q1), (⟨b7, 1, none⟩, .int .i64 y), (⟨m10, 0, none⟩, .int .i64 sIAdd1), (⟨m10, 1, none⟩, .int .i64 sIAdd2), (⟨m11, 0, none⟩, .int .i64 sOAdd1), (⟨m11, 1, none⟩, .int .i64 sOAdd2)] [] (w11.alloc (.cells #[.int .i64 sOAdd1, .int .i64 sOAdd2] 23))) := Lib.hid ⟨hK.1.alloc hK.2.1 _, Nat.le_trans hK.2.1 (by simp), ⟨alloc_cell (hK.2.2.1.1) _, alloc_cell (hK.2.2.1.2.1) _, alloc_cell (hK.2.2.1.2.2.1) _, alloc_cell (hK.2.2.1.2.2.2.1) _, alloc_cell (hK.2.2.1.2.2.2.2.1) _, alloc_cell (hK.2.2.1.2.2.2.2.2.1) _, alloc_cell (hK.2.2.1.2.2.2.2.2.2.1) _, alloc_cell (hK.2.2.1.2.2.2.2.2.2.2.1) _, alloc_cell (hK.2.2.1.2.2.2.2.2.2.2.2.1) _, alloc_cell (hK.2.2.1.2.2.2.2.2.2.2.2.2.1) _, by rw [← hm11]; simp [go_sem], by rw [← hm11]; simp [go_sem], trivial⟩, trivial⟩
  clear hK
  obtain ⟨-, -, ⟨c0, c1, c2, c3, c4, c5, c6, c7, c8, c9, c10, c11, -⟩, -⟩ := HK.out
  go_wp2_with fail
  refine (ISub.out _).mono ?_
  rintro e w12 ⟨rfl, hb⟩
  have hK := HK.out.call hb
  clear HK hb c0 c1 c2 c3 c4 c5 c6 c7 c8 c9 c10 c11 ISub
  obtain ⟨m12, hm12⟩ : ∃ k, w12.heap.size = k := ⟨_, rfl⟩
  have HK : Hid (Knows w.heap.size w [(⟨b1, 0, none⟩, .int .i64 p1), (⟨b1, 1, none⟩, .int .i64 p2), (⟨b2, 0, none⟩, .int .i64 q1), (⟨b2, 1, none⟩, .int .i64 q2), (⟨b6, 0, none⟩, .int .i64 x), (⟨b6, 1, none⟩, .int .i64 p2), (⟨b7, 0, none⟩, .int .i64 q1), (⟨b7, 1, none⟩, .int .i64 y), (⟨m10, 0, none⟩, .int .i64 sIAdd1), (⟨m10, 1, none⟩, .int .i64 sIAdd2), (⟨m11, 0, none⟩, .int .i64 sOAdd1), (⟨m11, 1, none⟩, .int .i64 sOAdd2), (⟨m12, 0, none⟩, .int .i64 sISub1), (⟨m12, 1, none⟩, .int .i64 sISub2)] [] (w12.alloc (.cells #[.int .i64 sISub1, .int .i64 sISub2] 23))) := Lib.hid ⟨hK.1.alloc hK.2.1 _, Nat.le_trans hK.2.1 (by simp), ⟨alloc_cell (hK.2.2.1.1) _, alloc_cell (hK.2.2.1.2.1) _, alloc_cell (hK.2.2.1.2.2.1) _, alloc_cell (hK.2.2.1.2.2.2.1) _, alloc_cell (hK.2.2.1.2.2.2.2.1) _, alloc_cell (hK.2.2.1.2.2.2.2.2.1) _, alloc_cell (hK.2.2.1.2.2.2.2.2.2.1) _, alloc_cell (hK.2.2.1.2.2.2.2.2.2.2.1) _, alloc_cell (hK.2.2.1.2.2.2.2.2.2.2.2.1) _, alloc_cell (hK.2.2.1.2.2.2.2.2.2.2.2.2.1) _, alloc_cell (hK.2.2.1.2.2.2.2.2.2.2.2.2.2.1) _, alloc_cell (hK.2.2.1.2.2.2.2.2.2.2.2.2.2.2.1) _, by rw [← hm12]; simp [go_sem], by rw [← hm12]; simp [go_sem], trivial⟩, trivial⟩
  clear hK
  obtain ⟨-, -, ⟨c0, c1, c2, c3, c4, c5, c6, c7, c8, c9, c10, c11, c12, c13, -⟩, -⟩ := HK.out
  go_wp2_with fail
  refine (OSub.out _).mono ?_
  rintro e w13 ⟨rfl, hb⟩
  have hK := HK.out.call hb
  clear HK hb c0 c1 c2 c3 c4 c5 c6 c7 c8 c9 c10 c11 c12 c13 OSub
  obtain ⟨m13, hm13⟩ : ∃ k, w13.heap.size = k := ⟨_, rfl⟩
  have HK : Hid (Knows w.heap.size w [(⟨b1, 0, none⟩, .int .i64 p1), (⟨b1, 1, none⟩, .int .i64 p2), (⟨b2, 0, none⟩, .int .i64 q1), (⟨b2, 1, none⟩, .int .i64 q2), (⟨b6, 0, none⟩, .int .i64 x), (⟨b6, 1, none⟩, .int .i64 p2), (⟨b7, 0, none⟩, .int .i64 q1), (⟨b7, 1, none⟩, .int .i64 y), (⟨m10, 0, none⟩, .int .i64 sIAdd1), (⟨m10, 1, none⟩, .int .i64 sIAdd2), (⟨m11, 0, none⟩, .int .i64 sOAdd1), (⟨m11, 1, none⟩, .int .i64 sOAdd2), (⟨m12, 0, none⟩, .int .i64 sISub1), (⟨m12, 1, none⟩, .int .i64 sISub2), (⟨m13, 0, none⟩, .int .i64 sOSub1), (⟨m13, 1, none⟩, .int .i64 sOSub2)] [] (w13.alloc (.cells #[.int .i64 sOSub1, .int .i64 sOSub2] 23))) := Lib.hid ⟨hK.1.alloc hK.2.1 _, Nat.le_trans hK.2.1 (by simp), ⟨alloc_cell (hK.2.2.1.1) _, alloc_cell (hK.2.2.1.2.1) _, alloc_cell (hK.2.2.1.2.2.1) _, alloc_cell (hK.2.2.1.2.2.2.1) _, alloc_cell (hK.2.2.1.2.2.2.2.1) _, alloc_cell (hK.2.2.1.2.2.2.2.2.1) _, alloc_cell (hK.2.2.1.2.2.2.2.2.2.1) _, alloc_cell (hK.2.2.1.2.2.2.2.2.2.2.1) _, alloc_cell (hK.2.2.1.2.2.2.2.2.2.2.2.1) _, alloc_cell (hK.2.2.1.2.2.2.2.2.2.2.2.2.1) _, alloc_cell (hK.2.2.1.2.2.2.2.2.2.2.2.2.2.1) _, alloc_cell (hK.2.2.1.2.2.2.2.2.2.2.2.2.2.2.1) _, alloc_cell (hK.2.2.1.2.2.2.2.2.2.2.2.2.2.2.2.1) _, alloc_cell (hK.2.2.1.2.2.2.2.2.2.2.2.2.2.2.2.2.1) _, by rw [← hm13]; simp [go_sem], by rw [← hm13]; simp [go_sem], trivial⟩, trivial⟩
  clear hK
  obtain ⟨-, -, ⟨c0, c1, c2, c3, c4, c5, c6, c7, c8, c9, c10, c11, c12, c13, c14, c15, -⟩, -⟩ := HK.out
  go_wp2_with fail
  refine (IMul.out _).mono ?_
  rintro e w14 ⟨rfl, hb⟩
  have hK := HK.out.call hb
  clear HK hb c0 c1 c2 c3 c4 c5 c6 c7 c8 c9 c10 c11 c12 c13 c14 c15 IMul
  obtain ⟨m14, hm14⟩ : ∃ k, w14.heap.size = k := ⟨_, rfl⟩
  have HK : Hid (Knows w.heap.size w [(⟨b1, 0, none⟩, .int .i64 p1), (⟨b1, 1, none⟩, .int .i64 p2), (⟨b2, 0, none⟩, .int .i64 q1), (⟨b2, 1, none⟩, .int .i64 q2), (⟨b6, 0, none⟩, .int .i64 x), (⟨b6, 1, none⟩, .int .i64 p2), (⟨b7, 0, none⟩, .int .i64 q1), (⟨b7, 1, none⟩, .int .i64 y), (⟨m10, 0, none⟩, .int .i64 sIAdd1), (⟨m10, 1, none⟩, .int .i64 sIAdd2), (⟨m11, 0, none⟩, .int .i64 sOAdd1), (⟨m11, 1, none⟩, .int .i64 sOAdd2), (⟨m12, 0, none⟩, .int .i64 sISub1), (⟨m12, 1, none⟩, .int .i64 sISub2), (⟨m13, 0, none⟩, .int .i64 sOSub1), (⟨m13, 1, none⟩, .int .i64 sOSub2), (⟨m14, 0, none⟩, .int .i64 sIMul1), (⟨m14, 1, none⟩, .int .i64 sIMul2)] [] (w14.alloc (.cells #[.int .i64 sIMul1, .int .i64 sIMul2] 23))) := Lib.hid ⟨hK.1.alloc hK.2.1 _, Nat.le_trans hK.2.1 (by simp), ⟨alloc_cell (hK.2.2.1.1) _, alloc_cell (hK.2.2.1.2.1) _, alloc_cell (hK.2.2.1.2.2.1) _, alloc_cell (hK.2.2.1.2.2.2.1) _, alloc_cell (hK.2.2.1.2.2.2.2.1) _, alloc_cell (hK.2.2.1.2.2.2.2.2.1) _, alloc_cell (hK.2.2.1.2.2.2.2.2.2.1) _, alloc_cell (hK.2.2.1.2.2.2.2.2.2.2.1) _, alloc_cell (hK.2.2.1.2.2.2.2.2.2.2.2.1) _, alloc_cell (hK.2.2.1.2.2.2.2.2.2.2.2.2.1) _, alloc_cell (hK.2.2.1.2.2.2.2.2.2.2.2.2.2.1) _, alloc_cell (hK.2.2.1.2.2.2.2.2.2.2.2.2.2.2.1) _, alloc_cell (hK.2.2.1.2.2.2.2.2.2.2.2.2.2.2.2.1) _, alloc_cell (hK.2.2.1.2.2.2.2.2.2.2.2.2.2.2.2.2.1) _, alloc_cell (hK.2.2.1.2.2.2.2.2.2.2.2.2.2.2.2.2.2.1) _, alloc_cell (hK.2.2.1.2.2.2.2.2.2.2.2.2.2.2.2.2.2.2.1) _, by rw [← hm14]; simp [go_sem], by rw [← hm14]; simp [go_sem], trivial⟩, trivial⟩
  clear hK
  obtain ⟨-, -, ⟨c0, c1, c2, c3, c4, c5, c6, c7, c8, c9, c10, c11, c12, c13, c14, c15, c16, c17, -⟩, -⟩ := HK.out
  go_wp2_with fail
  refine (OMul.out _).mono ?_
  rintro e w15 ⟨rfl, hb⟩
  have hK := HK.out.call hb
  clear HK hb c0 c1 c2 c3 c4 c5 c6 c7 c8 c9 c10 c11 c12 c13 c14 c15 c16 c17 OMul
  obtain ⟨m15, hm15⟩ : ∃ k, w15.heap.size = k := ⟨_, rfl⟩
  have HK : Hid (Knows w.heap.size w [(⟨b1, 0, none⟩, .int .i64 p1), (⟨b1, 1, none⟩, .int .i64 p2), (⟨b2, 0, none⟩, .int .i64 q1), (⟨b2, 1, none⟩, .int .i64 q2), (⟨b6, 0, none⟩, .int .i64 x), (⟨b6, 1, none⟩, .int .i64 p2), (⟨b7, 0, none⟩, .int .i64 q1), (⟨b7, 1, none⟩, .int .i64 y), (⟨m10, 0, none⟩, .int .i64 sIAdd1), (⟨m10, 1, none⟩, .int .i64 sIAdd2), (⟨m11, 0, none⟩, .int .i64 sOAdd1), (⟨m11, 1, none⟩, .int .i64 sOAdd2), (⟨m12, 0, none⟩, .int .i64 sISub1), (⟨m12, 1, none⟩, .int .i64 sISub2), (⟨m13, 0, none⟩, .int .i64 sOSub1), (⟨m13, 1, none⟩, .int .i64 sOSub2), (⟨m14, 0, none⟩, .int .i64 sIMul1), (⟨m14, 1, none⟩, .int .i64 sIMul2), (⟨m15, 0, none⟩, .int .i64 sOMul1), (⟨m15, 1, none⟩, .int .i64 sOMul2)] [] (w15.alloc (.cells #[.int .i64 sOMul1, .int .i64 sOMul2] 23))) := Lib.hid ⟨hK.1.alloc hK.2.1 _, Nat.le_trans hK.2.1 (by simp), ⟨alloc_cell (hK.2.2.1.1) _, alloc_cell (hK.2.2.1.2.1) _, alloc_cell (hK.2.2.1.2.2.1) _, alloc_cell (hK.2.2.1.2.2.2.1) _, alloc_cell (hK.2.2.1.2.2.2.2.1) _, alloc_cell (hK.2.2.1.2.2.2.2.2.1) _, alloc_cell (hK.2.2.1.2.2.2.2.2.2.1) _, alloc_cell (hK.2.2.1.2.2.2.2.2.2.2.1) _, alloc_cell (hK.2.2.1.2.2.2.2.2.2.2.2.1) _, alloc_cell (hK.2.2.1.2.2.2.2.2.2.2.2.2.1) _, alloc_cell (hK.2.2.1.2.2.2.2.2.2.2.2.2.2.1) _, alloc_cell (hK.2.2.1.2.2.2.2.2.2.2.2.2.2.2.1) _, alloc_cell (hK.2.2.1.2.2.2.2.2.2.2.2.2.2.2.2.1) _, alloc_cell (hK.2.2.1.2.2.2.2.2.2.2.2.2.2.2.2.2.1) _, alloc_cell (hK.2.2.1.2.2.2.2.2.2.2.2.2.2.2.2.2.2.1) _, alloc_cell (hK.2.2.1.2.2.2.2.2.2.2.2.2.2.2.2.2.2.2.1) _, alloc_cell (hK.2.2.1.2.2.2.2.2.2.2.2.2.2.2.2.2.2.2.2.1) _, alloc_cell (hK.2.2.1.2.2.2.2.2.2.2.2.2.2.2.2.2.2.2.2.2.1) _, by rw [← hm15]; simp [go_sem], by rw [← hm15]; simp [go_sem], trivial⟩, trivial⟩
  clear hK
  obtain ⟨-, -, ⟨c0, c1, c2, c3, c4, c5, c6, c7, c8, c9, c10, c11, c12, c13, c14, c15, c16, c17, c18, c19, -⟩, -⟩ := HK.out
  go_wp2_with fail
  refine (IDiv.out _).mono ?_
  rintro e w16 ⟨rfl, hb⟩
  have hK := HK.out.call hb
  clear HK hb c0 c1 c2 c3 c4 c5 c6 c7 c8 c9 c10 c11 c12 c13 c14 c15 c16 c17 c18 c19 IDiv
  obtain ⟨m16, hm16⟩ : ∃ k, w16.heap.size = k := ⟨_, rfl⟩
  have HK : Hid (Knows w.heap.size w [(⟨b1, 0, none⟩, .int .i64 p1), (⟨b1, 1, none⟩, .int .i64 p2), (⟨b2, 0, none⟩, .int .i64 q1), (⟨b2, 1, none⟩, .int .i64 q2), (⟨b6, 0, none⟩, .int .i64 x), (⟨b6, 1, none⟩, .int .i64 p2), (⟨b7, 0, none⟩, .int .i64 q1), (⟨b7, 1, none⟩, .int .i64 y), (⟨m10, 0, none⟩, .int .i64 sIAdd1), (⟨m10, 1, none⟩, .int .i64 sIAdd2), (⟨m11, 0, none⟩, .int .i64 sOAdd1), (⟨m11, 1, none⟩, .int .i64 sOAdd2), (⟨m12, 0, none⟩, .int .i64 sISub1), (⟨m12, 1, none⟩, .int .i64 sISub2), (⟨m13, 0, none⟩, .int .i64 sOSub1), (⟨m13, 1, none⟩, .int .i64 sOSub2), (⟨m14, 0, none⟩, .int .i64 sIMul1), (⟨m14, 1, none⟩, .int .i64 sIMul2), (⟨m15, 0, none⟩, .int .i64 sOMul1), (⟨m15, 1, none⟩, .int .i64 sOMul2), (⟨m16, 0, none⟩, .int .i64 sIDiv1), (⟨m16, 1, none⟩, .int .i64 sIDiv2)] [] (w16.alloc (.cells #[.int .i64 sIDiv1, .int .i64 sIDiv2] 23))) := Lib.hid ⟨hK.1.alloc hK.2.1 _, Nat.le_trans hK.2.1 (by simp), ⟨alloc_cell (hK.2.2.1.1) _, alloc_cell (hK.2.2.1.2.1) _, alloc_cell (hK.2.2.1.2.2.1) _, alloc_cell (hK.2.2.1.2.2.2.1) _, alloc_cell (hK.2.2.1.2.2.2.2.1) _, alloc_cell (hK.2.2.1.2.2.2.2.2.1) _, alloc_cell (hK.2.2.1.2.2.2.2.2.2.1) _, alloc_cell (hK.2.2.1.2.2.2.2.2.2.2.1) _, alloc_cell (hK.2.2.1.2.2.2.2.2.2.2.2.1) _, alloc_cell (hK.2.2.1.2.2.2.2.2.2.2.2.2.1) _, alloc_cell (hK.2.2.1.2.2.2.2.2.2.2.2.2.2.1) _, alloc_cell (hK.2.2.1.2.2.2.2.2.2.2.2.2.2.2.1) _, alloc_cell (hK.2.2.1.2.2.2.2.2.2.2.2.2.2.2.2.1) _, alloc_cell (hK.2.2.1.2.2.2.2.2.2.2.2.2.2.2.2.2.1) _, alloc_cell (hK.2.2.1.2.2.2.2.2.2.2.2.2.2.2.2.2.2.1) _, alloc_cell (hK.2.2.1.2.2.2.2.2.2.2.2.2.2.2.2.2.2.2.1) _, alloc_cell (hK.2.2.1.2.2.2.2.2.2.2.2.2.2.2.2.2.2.2.2.1) _, alloc_cell (hK.2.2.1.2.2.2.2.2.2.2.2.2.2.2.2.2.2.2.2.2.1) _, alloc_cell (hK.2.2.1.2.2.2.2.2.2.2.2.2.2.2.2.2.2.2.2.2.2.1) _, alloc_cell (hK.2.2.1.2.2.2.2.2.2.2.2.2.2.2.2.2.2.2.2.2.2.2.1) _, by rw [← hm16]; simp [go_sem], by rw [← hm16]; simp [go_sem], trivial⟩, trivial⟩
  clear hK
  obtain ⟨-, -, ⟨c0, c1, c2, c3, c4, c5, c6, c7, c8, c9, c10, c11, c12, c13, c14, c15, c16, c17, c18, c19, c20, c21, -⟩, -⟩ := HK.out
  go_wp2_with fail
  refine (ODiv.out _).mono ?_
  rintro e w17 ⟨rfl, hb⟩
  have hK := HK.out.call hb
  clear HK hb c0 c1 c2 c3 c4 c5 c6 c7 c8 c9 c10 c11 c12 c13 c14 c15 c16 c17 c18 c19 c20 c21 ODiv
  obtain ⟨m17, hm17⟩ : ∃ k, w17.heap.size = k := ⟨_, rfl⟩
  have HK : Hid (Knows w.heap.size w [(⟨b1, 0, none⟩, .int .i64 p1), (⟨b1, 1, none⟩, .int .i64 p2), (⟨b2, 0, none⟩, .int .i64 q1), (⟨b2, 1, none⟩, .int .i64 q2), (⟨b6, 0, none⟩, .int .i64 x), (⟨b6, 1, none⟩, .int .i64 p2), (⟨b7, 0, none⟩, .int .i64 q1), (⟨b7, 1, none⟩, .int .i64 y), (⟨m10, 0, none⟩, .int .i64 sIAdd1), (⟨m10, 1, none⟩, .int .i64 sIAdd2), (⟨m11, 0, none⟩, .int .i64 sOAdd1), (⟨m11, 1, none⟩, .int .i64 sOAdd2), (⟨m12, 0, none⟩, .int .i64 sISub1), (⟨m12, 1, none⟩, .int .i64 sISub2), (⟨m13, 0, none⟩, .int .i64 sOSub1), (⟨m13, 1, none⟩, .int .i64 sOSub2), (⟨m14, 0, none⟩, .int .i64 sIMul1), (⟨m14, 1, none⟩, .int .i64 sIMul2), (⟨m15, 0, none⟩, .int .i64 sOMul1), (⟨m15, 1, none⟩, .int .i64 sOMul2), (⟨m16, 0, none⟩, .int .i64 sIDiv1), (⟨m16, 1, none⟩, .int .i64 sIDiv2), (⟨m17, 0, none⟩, .int .i64 sODiv1), (⟨m17, 1, none⟩, .int .i64 sODiv2)] [] (w17.alloc (.cells #[.int .i64 sODiv1, .int .i64 sODiv2] 23))) := Lib.hid ⟨hK.1.alloc hK.2.1 _, Nat.le_trans hK.2.1 (by simp), ⟨alloc_cell (hK.2.2.1.1) _, alloc_cell (hK.2.2.1.2.1) _, alloc_cell (hK.2.2.1.2.2.1) _, alloc_cell (hK.2.2.1.2.2.2.1) _, alloc_cell (hK.2.2.1.2.2.2.2.1) _, alloc_cell (hK.2.2.1.2.2.2.2.2.1) _, alloc_cell (hK.2.2.1.2.2.2.2.2.2.1) _, alloc_cell (hK.2.2.1.2.2.2.2.2.2.2.1) _, alloc_cell (hK.2.2.1.2.2.2.2.2.2.2.2.1) _, alloc_cell (hK.2.2.1.2.2.2.2.2.2.2.2.2.1) _, alloc_cell (hK.2.2.1.2.2.2.2.2.2.2.2.2.2.1) _, alloc_cell (hK.2.2.1.2.2.2.2.2.2.2.2.2.2.2.1) _, alloc_cell (hK.2.2.1.2.2.2.2.2.2.2.2.2.2.2.2.1) _, alloc_cell (hK.2.2.1.2.2.2.2.2.2.2.2.2.2.2.2.2.1) _, alloc_cell (hK.2.2.1.2.2.2.2.2.2.2.2.2.2.2.2.2.2.1) _, alloc_cell (hK.2.2.1.2.2.2.2.2.2.2.2.2.2.2.2.2.2.2.1) _, alloc_cell (hK.2.2.1.2.2.2.2.2.2.2.2.2.2.2.2.2.2.2.2.1) _, alloc_cell (hK.2.2.1.2.2.2.2.2.2.2.2.2.2.2.2.2.2.2.2.2.1) _, alloc_cell (hK.2.2.1.2.2.2.2.2.2.2.2.2.2.2.2.2.2.2.2.2.2.1) _, alloc_cell (hK.2.2.1.2.2.2.2.2.2.2.2.2.2.2.2.2.2.2.2.2.2.2.1) _, alloc_cell (hK.2.2.1.2.2.2.2.2.2.2.2.2.2.2.2.2.2.2.2.2.2.2.2.1) _, alloc_cell (hK.2.2.1.2.2.2.2.2.2.2.2.2.2.2.2.2.2.2.2.2.2.2.2.2.1) _, by rw [← hm17]; simp [go_sem], by rw [← hm17]; simp [go_sem], trivial⟩, trivial⟩
  clear hK
  obtain ⟨-, -, ⟨c0, c1, c2, c3, c4, c5, c6, c7, c8, c9, c10, c11, c12, c13, c14, c15, c16, c17, c18, c19, c20, c21, c22, c23, -⟩, -⟩ := HK.out
  go_wp2_with fail
  refine (IRoot.out _).mono ?_
  rintro e w18 ⟨rfl, hb⟩
  have hK := HK.out.call hb
  clear HK hb c0 c1 c2 c3 c4 c5 c6 c7 c8 c9 c10 c11 c12 c13 c14 c15 c16 c17 c18 c19 c20 c21 c22 c23 IRoot
  obtain ⟨m18, hm18⟩ : ∃ k, w18.heap.size = k := ⟨_, rfl⟩
  have HK : Hid (Knows w.heap.size w [(⟨b1, 0, none⟩, .int .i64 p1), (⟨b1, 1, none⟩, .int .i64 p2), (⟨b2, 0, none⟩, .int .i64 q1), (⟨b2, 1, none⟩, .int .i64 q2), (⟨b6, 0, none⟩, .int .i64 x), (⟨b6, 1, none⟩, .int .i64 p2), (⟨b7, 0, none⟩, .int .i64 q1), (⟨b7, 1, none⟩, .int .i64 y), (⟨m10, 0, none⟩, .int .i64 sIAdd1), (⟨m10, 1, none⟩, .int .i64 sIAdd2), (⟨m11, 0, none⟩, .int .i64 sOAdd1), (⟨m11, 1, none⟩, .int .i64 sOAdd2), (⟨m12, 0, none⟩, .int .i64 sISub1), (⟨m12, 1, none⟩, .int .i64 sISub2), (⟨m13, 0, none⟩, .int .i64 sOSub1), (⟨m13, 1, none⟩, .int .i64 sOSub2), (⟨m14, 0, none⟩, .int .i64 sIMul1), (⟨m14, 1, none⟩, .int .i64 sIMul2), (⟨m15, 0, none⟩, .int .i64 sOMul1), (⟨m15, 1, none⟩, .int .i64 sOMul2), (⟨m16, 0, none⟩, .int .i64 sIDiv1), (⟨m16, 1, none⟩, .int .i64 sIDiv2), (⟨m17, 0, none⟩, .int .i64 sODiv1), (⟨m17, 1, none⟩, .int .i64 sODiv2), (⟨m18, 0, none⟩, .int .i64 sIRoot1), (⟨m18, 1, none⟩, .int .i64 sIRoot2)] [] (w18.alloc (.cells #[.int .i64 sIRoot1, .int .i64 sIRoot2] 23))) := Lib.hid ⟨hK.1.alloc hK.2.1 _, Nat.le_trans hK.2.1 (by simp), ⟨alloc_cell (hK.2.2.1.1) _, alloc_cell (hK.2.2.1.2.1) _, alloc_cell (hK.2.2.1.2.2.1) _, alloc_cell (hK.2.2.1.2.2.2.1) _, alloc_cell (hK.2.2.1.2.2.2.2.1) _, alloc_cell (hK.2.2.1.2.2.2.2.2.1) _, alloc_cell (hK.2.2.1.2.2.2.2.2.2.1) _, alloc_cell (hK.2.2.1.2.2.2.2.2.2.2.1) _, alloc_cell (hK.2.2.1.2.2.2.2.2.2.2.2.1) _, alloc_cell (hK.2.2.1.2.2.2.2.2.2.2.2.2.1) _, alloc_cell (hK.2.2.1.2.2.2.2.2.2.2.2.2.2.1) _, alloc_cell (hK.2.2.1.2.2.2.2.2.2.2.2.2.2.2.1) _, alloc_cell (hK.2.2.1.2.2.2.2.2.2.2.2.2.2.2.2.1) _, alloc_cell (hK.2.2.1.2.2.2.2.2.2.2.2.2.2.2.2.2.1) _, alloc_cell (hK.2.2.1.2.2.2.2.2.2.2.2.2.2.2.2.2.2.1) _, alloc_cell (hK.2.2.1.2.2.2.2.2.2.2.2.2.2.2.2.2.2.2.1) _, alloc_cell (hK.2.2.1.2.2.2.2.2.2.2.2.2.2.2.2.2.2.2.2.1) _, alloc_cell (hK.2.2.1.2.2.2.2.2.2.2.2.2.2.2.2.2.2.2.2.2.1) _, alloc_cell (hK.2.2.1.2.2.2.2.2.2.2.2.2.2.2.2.2.2.2.2.2.2.1) _, alloc_cell (hK.2.2.1.2.2.2.2.2.2.2.2.2.2.2.2.2.2.2.2.2.2.2.1) _, alloc_cell (hK.2.2.1.2.2.2.2.2.2.2.2.2.2.2.2.2.2.2.2.2.2.2.2.1) _, alloc_cell (hK.2.2.1.2.2.2.2.2.2.2.2.2.2.2.2.2.2.2.2.2.2.2.2.2.1) _, alloc_cell (hK.2.2.1.2.2.2.2.2.2.2.2.2.2.2.2.2.2.2.2.2.2.2.2.2.2.1) _, alloc_cell (hK.2.2.1.2.2.2.2.2.2.2.2.2.2.2.2.2.2.2.2.2.2.2.2.2.2.2.1) _, by rw [← hm18]; simp [go_sem], by rw [← hm18]; simp [go_sem], trivial⟩, trivial⟩
  clear hK
  obtain ⟨-, -, ⟨c0, c1, c2, c3, c4, c5, c6, c7, c8, c9, c10, c11, c12, c13, c14, c15, c16, c17, c18, c19, c20, c21, c22, c23, c24, c25, -⟩, -⟩ := HK.out
  go_wp2_with fail
  refine (ORoot.out _).mono ?_
  rintro e w19 ⟨rfl, hb⟩
  have hK := HK.out.call hb
  clear HK hb c0 c1 c2 c3 c4 c5 c6 c7 c8 c9 c10 c11 c12 c13 c14 c15 c16 c17 c18 c19 c20 c21 c22 c23 c24 c25 ORoot
  obtain ⟨m19, hm19⟩ : ∃ k, w19.heap.size = k := ⟨_, rfl⟩
  have HK : Hid (Knows w.heap.size w [(⟨b1, 0, none⟩, .int .i64 p1), (⟨b1, 1, none⟩, .int .i64 p2), (⟨b2, 0, none⟩, .int .i64 q1), (⟨b2, 1, none⟩, .int .i64 q2), (⟨b6, 0, none⟩, .int .i64 x), (⟨b6, 1, none⟩, .int .i64 p2), (⟨b7, 0, none⟩, .int .i64 q1), (⟨b7, 1, none⟩, .int .i64 y), (⟨m10, 0, none⟩, .int .i64 sIAdd1), (⟨m10, 1, none⟩, .int .i64 sIAdd2), (⟨m11, 0, none⟩, .int .i64 sOAdd1), (⟨m11, 1, none⟩, .int .i64 sOAdd2), (⟨m12, 0, none⟩, .int .i64 sISub1), (⟨m12, 1, none⟩, .int .i64 sISub2), (⟨m13, 0, none⟩, .int .i64 sOSub1), (⟨m13, 1, none⟩, .int .i64 sOSub2), (⟨m14, 0, none⟩, .int .i64 sIMul1), (⟨m14, 1, none⟩, .int .i64 sIMul2), (⟨m15, 0, none⟩, .int .i64 sOMul1), (⟨m15, 1, none⟩, .int .i64 sOMul2), (⟨m16, 0, none⟩, .int .i64 sIDiv1), (⟨m16, 1, none⟩, .int .i64 sIDiv2), (⟨m17, 0, none⟩, .int .i64 sODiv1), (⟨m17, 1, none⟩, .int .i64 sODiv2), (⟨m18, 0, none⟩, .int .i64 sIRoot1), (⟨m18, 1, none⟩, .int .i64 sIRoot2), (⟨m19, 0, none⟩, .int .i64 sORoot1), (⟨m19, 1, none⟩, .int .i64 sORoot2)] [] (w19.alloc (.cells #[.int .i64 sORoot1, .int .i64 sORoot2] 23))) := Lib.hid ⟨hK.1.alloc hK.2.1 _, Nat.le_trans hK.2.1 (by simp), ⟨alloc_cell (hK.2.2.1.1) _, alloc_cell (hK.2.2.1.2.1) _, alloc_cell (hK.2.2.1.2.2.1) _, alloc_cell (hK.2.2.1.2.2.2.1) _, alloc_cell (hK.2.2.1.2.2.2.2.1) _, alloc_cell (hK.2.2.1.2.2.2.2.2.1) _, alloc_cell (hK.2.2.1.2.2.2.2.2.2.1) _, alloc_cell (hK.2.2.1.2.2.2.2.2.2.2.1) _, alloc_cell (hK.2.2.1.2.2.2.2.2.2.2.2.1) _, alloc_cell (hK.2.2.1.2.2.2.2.2.2.2.2.2.1) _, alloc_cell (hK.2.2.1.2.2.2.2.2.2.2.2.2.2.1) _, alloc_cell (hK.2.2.1.2.2.2.2.2.2.2.2.2.2.2.1) _, alloc_cell (hK.2.2.1.2.2.2.2.2.2.2.2.2.2.2.2.1) _, alloc_cell (hK.2.2.1.2.2.2.2.2.2.2.2.2.2.2.2.2.1) _, alloc_cell (hK.2.2.1.2.2.2.2.2.2.2.2.2.2.2.2.2.2.1) _, alloc_cell (hK.2.2.1.2.2.2.2.2.2.2.2.2.2.2.2.2.2.2.1) _, alloc_cell (hK.2.2.1.2.2.2.2.2.2.2.2.2.2.2.2.2.2.2.2.1) _, alloc_cell (hK.2.2.1.2.2.2.2.2.2.2.2.2.2.2.2.2.2.2.2.2.1) _, alloc_cell (hK.2.2.1.2.2.2.2.2.2.2.2.2.2.2.2.2.2.2.2.2.2.1) _, alloc_cell (hK.2.2.1.2.2.2.2.2.2.2.2.2.2.2.2.2.2.2.2.2.2.2.1) _, alloc_cell (hK.2.2.1.2.2.2.2.2.2.2.2.2.2.2.2.2.2.2.2.2.2.2.2.1) _, alloc_cell (hK.2.2.1.2.2.2.2.2.2.2.2.2.2.2.2.2.2.2.2.2.2.2.2.2.1) _, alloc_cell (hK.2.2.1.2.2.2.2.2.2.2.2.2.2.2.2.2.2.2.2.2.2.2.2.2.2.1) _, alloc_cell (hK.2.2.1.2.2.2.2.2.2.2.2.2.2.2.2.2.2.2.2.2.2.2.2.2.2.2.1) _, alloc_cell (hK.2.2.1.2.2.2.2.2.2.2.2.2.2.2.2.2.2.2.2.2.2.2.2.2.2.2.2.1) _, alloc_cell (hK.2.2.1.2.2.2.2.2.2.2.2.2.2.2.2.2.2.2.2.2.2.2.2.2.2.2.2.2.1) _, by rw [← hm19]; simp [go_sem], by rw [← hm19]; simp [go_sem], trivial⟩, trivial⟩
  clear hK
  obtain ⟨-, -, ⟨c0, c1, c2, c3, c4, c5, c6, c7, c8, c9, c10, c11, c12, c13, c14, c15, c16, c17, c18, c19, c20, c21, c22, c23, c24, c25, c26, c27, -⟩, -⟩ := HK.out
  go_wp2_with fail
  refine (HAl.out _).mono ?_
  rintro e w20 ⟨rfl, hb⟩
  have hK := HK.out.call hb
  clear HK hb c0 c1 c2 c3 c4 c5 c6 c7 c8 c9 c10 c11 c12 c13 c14 c15 c16 c17 c18 c19 c20 c21 c22 c23 c24 c25 c26 c27
  have HK := Lib.hid hK
  obtain ⟨-, -, ⟨c0, c1, c2, c3, c4, c5, c6, c7, c8, c9, c10, c11, c12, c13, c14, c15, c16, c17, c18, c19, c20, c21, c22, c23, c24, c25, c26, c27, -⟩, -⟩ := hK
  go_wp2_with fail
  refine (VAdd.out _).mono ?_
  rintro e w21 ⟨rfl, hb⟩
  have hK := HK.out.call hb
  clear HK hb c0 c1 c2 c3 c4 c5 c6 c7 c8 c9 c10 c11 c12 c13 c14 c15 c16 c17 c18 c19 c20 c21 c22 c23 c24 c25 c26 c27
  have HK := Lib.hid hK
  obtain ⟨-, -, ⟨c0, c1, c2, c3, c4, c5, c6, c7, c8, c9, c10, c11, c12, c13, c14, c15, c16, c17, c18, c19, c20, c21, c22, c23, c24, c25, c26, c27, -⟩, -⟩ := hK
  go_wp2_with fail
  refine (VSub.out _).mono ?_
  rintro e w22 ⟨rfl, hb⟩
  have hK := HK.out.call hb
  clear HK hb c0 c1 c2 c3 c4 c5 c6 c7 c8 c9 c10 c11 c12 c13 c14 c15 c16 c17 c18 c19 c20 c21 c22 c23 c24 c25 c26 c27
  have HK := Lib.hid hK
  obtain ⟨-, -, ⟨c0, c1, c2, c3, c4, c5, c6, c7, c8, c9, c10, c11, c12, c13, c14, c15, c16, c17, c18, c19, c20, c21, c22, c23, c24, c25, c26, c27, -⟩, -⟩ := hK
  go_wp2_with fail
  refine (VMul.out _).mono ?_
  rintro e w23 ⟨rfl, hb⟩
  have hK := HK.out.call hb
  clear HK hb c0 c1 c2 c3 c4 c5 c6 c7 c8 c9 c10 c11 c12 c13 c14 c15 c16 c17 c18 c19 c20 c21 c22 c23 c24 c25 c26 c27
  have HK := Lib.hid hK
  obtain ⟨-, -, ⟨c0, c1, c2, c3, c4, c5, c6, c7, c8, c9, c10, c11, c12, c13, c14, c15, c16, c17, c18, c19, c20, c21, c22, c23, c24, c25, c26, c27, -⟩, -⟩ := hK
  go_wp2_with fail
  refine (VDiv.out _).mono ?_
  rintro e w24 ⟨rfl, hb⟩
  have hK := HK.out.call hb
  clear HK hb c0 c1 c2 c3 c4 c5 c6 c7 c8 c9 c10 c11 c12 c13 c14 c15 c16 c17 c18 c19 c20 c21 c22 c23 c24 c25 c26 c27
  have HK := Lib.hid hK
  obtain ⟨-, -, ⟨c0, c1, c2, c3, c4, c5, c6, c7, c8, c9, c10, c11, c12, c13, c14, c15, c16, c17, c18, c19, c20, c21, c22, c23, c24, c25, c26, c27, -⟩, -⟩ := hK
  go_wp2_with fail
  refine (VRoot.out _).mono ?_
  rintro e w25 ⟨rfl, hb⟩
  have hK := HK.out.call hb
  clear HK hb c0 c1 c2 c3 c4 c5 c6 c7 c8 c9 c10 c11 c12 c13 c14 c15 c16 c17 c18 c19 c20 c21 c22 c23 c24 c25 c26 c27
  have HK := Lib.hid hK
  obtain ⟨-, -, ⟨c0, c1, c2, c3, c4, c5, c6, c7, c8, c9, c10, c11, c12, c13, c14, c15, c16, c17, c18, c19, c20, c21, c22, c23, c24, c25, c26, c27, -⟩, -⟩ := hK
  go_wp2_with fail
  go_ret
  exact ⟨rfl, HK.out.1⟩
end Go.Proofs.Ytkdfkpalgejkkaa
/-
  A parameter that is a struct of whole numbers (structs in structs too): what it is, where it reads as data.
-/
namespace Go.Proofs.Ytkdfkpalgejkkaa
open Go Go.ChangeShapes Go.WideShapes

/-- The kinds of a type's cells, if all are whole numbers; m: how deep structs may lie in structs. -/
def flatFs (P : Program) (K : TypeId → Option (List IntKind)) : List Field → Nat → Option (List IntKind)
  | [], _ => some []
  | f :: fs, off => if f.offset = off then (K f.type).bind fun ks => if P.cellsOf f.type = ks.length then (flatFs P K fs (off + ks.length)).map (ks ++ ·) else none else none
def flatK (P : Program) : Nat → TypeId → Option (List IntKind)
  | 0, _ => none
  | m + 1, t => match P.underlying t with
    | some (.int k) => some [k]
    | some (.struct fs) => (flatFs P (flatK P m) fs.toList 0).bind fun ks => if P.cellsOf t = ks.length then some ks else none
    | _ => none

def FlatOf (ks : List IntKind) (cs : List Value) : Prop := ∃ ns : List Int, ns.length = ks.length ∧ cs = List.zipWith Value.int ks ns ∧ ∀ p ∈ ks.zip ns, (Lit.int p.1 p.2).wf = true

theorem FlatOf.append {ks ks' : List IntKind} {cs cs' : List Value} (h : FlatOf ks cs) (h' : FlatOf ks' cs') : FlatOf (ks ++ ks') (cs ++ cs') := by
  obtain ⟨ns, h1, h2, h3⟩ := h
  obtain ⟨ns', h1', h2', h3'⟩ := h'
  refine ⟨ns ++ ns', by simp [h1, h1'], ?_, ?_⟩
  · rw [h2, h2', List.zipWith_append h1.symm]
  · intro p hp
    rw [List.zip_append h1.symm] at hp
    rcases List.mem_append.1 hp with hp | hp
    · exact h3 p hp
    · exact h3' p hp

variable {H : Type} {enc : TypeId × Value → H} {P : Program} {w : World} {base : Nat} {spare : Nat → Bool} {held : Bool}
theorem trod_flatFs {K : TypeId → Option (List IntKind)} {n : Nat} (hK : ∀ (t : TypeId) (ks : List IntKind) (cs : List Value) (x : DataW H × List MemPlace), K t = some ks → DataW.trod enc P w base spare held n t cs = some x → FlatOf ks cs) {cs : List Value} :
    ∀ (l : List Field) (off : Nat) (ks : List IntKind), (∀ f ∈ l, ∃ y, DataW.trod enc P w base spare held n f.type ((cs.drop f.offset).take (P.cellsOf f.type)) = some y) → flatFs P K l off = some ks → FlatOf ks ((cs.drop off).take ks.length)
  | [], off, ks, _, h => by
    simp only [flatFs, Option.some.injEq] at h
    subst h
    exact ⟨[], rfl, by simp, by simp⟩
  | f :: l, off, ks, hf, h => by
    unfold flatFs at h
    split at h
    · rename_i ho
      cases hk : K f.type with
      | none => simp [hk] at h
      | some k1 =>
        simp only [hk, Option.bind_some] at h
        split at h
        · rename_i hc
          cases hr : flatFs P K l (off + k1.length) with
          | none => simp [hr] at h
          | some k2 =>
            simp only [hr, Option.map_some, Option.some.injEq] at h
            subst h
            obtain ⟨y, hy⟩ := hf f (by simp)
            have h1 := hK f.type k1 _ y hk hy
            rw [hc, ho] at h1
            have h2 := trod_flatFs hK l (off + k1.length) k2 (fun g hg => hf g (by simp [hg])) hr
            have h3 := h1.append h2
            have e : (cs.drop off).take (k1 ++ k2).length = (cs.drop off).take k1.length ++ (cs.drop (off + k1.length)).take k2.length := by
              rw [List.length_append, List.take_add, List.drop_drop]
            rw [e]; exact h3
        · cases h
    · cases h

theorem trod_flat : ∀ (m : Nat) (t : TypeId) (ks : List IntKind) (fuel : Nat) (cs : List Value) (x : DataW H × List MemPlace), flatK P m t = some ks → DataW.trod enc P w base spare held fuel t cs = some x → FlatOf ks cs
  | 0, _, _, _, _, _, h, _ => by simp [flatK] at h
  | m + 1, t, ks, fuel, cs, x, h, hx => by
    unfold flatK at h
    split at h
    · rename_i k hu
      simp only [Option.some.injEq] at h
      subst h
      obtain ⟨n, hcs, -, hw⟩ := DataW.trod_int hu hx
      exact ⟨[n], rfl, by simp [hcs], by simpa using hw⟩
    · rename_i fs hu
      cases hr : flatFs P (flatK P m) fs.toList 0 with
      | none => simp [hr] at h
      | some k1 =>
        simp only [hr, Option.bind_some] at h
        split at h
        · rename_i hc
          simp only [Option.some.injEq] at h
          subst h
          obtain ⟨xs, n, _, _, hl, hlen, hf⟩ := DataW.trod_struct hu hx
          have := trod_flatFs (K := flatK P m) (n := n) (fun t' ks' cs' x' h1 h2 => trod_flat m t' ks' n cs' x' h1 h2) (cs := cs) fs.toList 0 k1 (fun f hfm => by
            obtain ⟨i, hi⟩ := List.getElem?_of_mem hfm
            have h1 := hf i f (by simpa using hi)
            have hil : i < fs.size := by
              have := (List.getElem?_eq_some_iff.1 hi).1
              simpa using this
            exact ⟨xs[i]'(by omega), h1.trans (List.getElem?_eq_getElem (by omega))⟩) hr
          rw [List.drop_zero, ← hc, ← hl, List.take_length] at this
          exact this
        · cases h
    · cases h

/-- The parameter itself. -/
theorem open_flat {r : Reach} {b0 m : Nat} {t : TypeId} {fs : Array Field} {ks : List IntKind} {v : Value} {d : DataW H} {p : List MemPlace} (hu : P.underlying t = some (.struct fs)) (hk : flatK P m t = some ks) (hv : Value.okWide P w r b0 t v) (h : DataW.Trod enc P w base spare held t v d p) :
    ∃ ns : List Int, ns.length = ks.length ∧ v = .agg (List.zipWith Value.int ks ns).toArray ∧ ∀ q ∈ ks.zip ns, (Lit.int q.1 q.2).wf = true := by
  obtain ⟨cs, rfl, -⟩ := okWide_struct hu hv
  obtain ⟨fuel, hf⟩ := h
  obtain ⟨ns, h1, h2, h3⟩ := trod_flat m t ks fuel _ _ hk hf
  refine ⟨ns, h1, ?_, h3⟩
  have e : (Value.agg cs).cells = cs := rfl
  rw [e] at h2
  rw [← h2]

theorem row_int {a : Int} (h : (Lit.int .i64 a).wf = true) : IsInt a := by
  have e1 : IntKind.i64.min = -9223372036854775808 := by decide
  have e2 : IntKind.i64.max = 9223372036854775807 := by decide
  unfold IsInt
  simp [Lit.wf, e1, e2] at h
  omega
theorem row_word {a : Int} (h : (Lit.int .u64 a).wf = true) : Word a := by
  have e1 : IntKind.u64.min = 0 := by decide
  have e2 : IntKind.u64.max = 18446744073709551615 := by decide
  unfold Word
  simp [Lit.wf, e1, e2] at h
  omega
end Go.Proofs.Ytkdfkpalgejkkaa
/-
  The row of the law SpanInside, out of its walk.
-/
namespace Go.Proofs.Ytkdfkpalgejkkaa.spanInside
open Go.ChangeShapes Go.WideShapes Go.ChangeAt Go.RowKit
theorem own : ownKnob Try.prog.godebug = none := by kernel_rfl
set_option maxRecDepth 100000 in
theorem lifted (os : Os) (started : os.Started) (H : Type) (enc : TypeId × Value → H) :
    ReturnsInHanded {} Try.checked os 7 .any (Rows.spanInsideSpec.pre6 enc Try.prog Try.f7 Rows.spanInsideRow.domain false) (Rows.spanInsideSpec.post enc Try.prog Try.f7 false true false false) := by
  refine returnsInHanded_of_change_sized (C := Try.checked) own started (by kernel_rfl) Try.func7
    (ChangeSpec.witness6 (enc := enc) (C := Try.checked) false ⟨#[], #[.int .i64 0, .int .i64 0, .int .i64 0, .int .i64 0, .int .i64 0, .int .i64 0], []⟩ 8 (by kernel_rfl) (by kernel_rfl) (by kernel_rfl) (by kernel_rfl)) ?_
  intro W base args ds gs before hval0 hW hcnd hsz0 _
  have hval : ∀ (j : Nat) t v, Try.f7.params[j]? = some t → args[j]? = some v → Value.okWide Try.prog W .any base t v := hval0
  have hW' := hW
  obtain ⟨p, q, hA0, hV, rfl, hfz, hnd⟩ := hW
  have hA : DataW.TrodAll enc Try.prog W 0 (fun _ => true) true Try.f7.params.toList args.toList ds p := hA0
  rw [Try.params7] at hA hval
  obtain ⟨v0, vs0, d0, ds0, p0, q0, hargs, rfl, rfl, h0, r0⟩ := trodAll_cons hA
  obtain ⟨v1, vs1, d1, ds1, p1, q1, rfl, rfl, rfl, h1, r1⟩ := trodAll_cons r0
  obtain ⟨v2, vs2, d2, ds2, p2, q2, rfl, rfl, rfl, h2, r2⟩ := trodAll_cons r1
  obtain ⟨v3, vs3, d3, ds3, p3, q3, rfl, rfl, rfl, h3, r3⟩ := trodAll_cons r2
  obtain ⟨v4, vs4, d4, ds4, p4, q4, rfl, rfl, rfl, h4, r4⟩ := trodAll_cons r3
  obtain ⟨v5, vs5, d5, ds5, p5, q5, rfl, rfl, rfl, h5, r5⟩ := trodAll_cons r4
  obtain ⟨rfl, rfl, rfl⟩ := trodAll_nil r5
  obtain rfl : args = #[v0, v1, v2, v3, v4, v5] := by cases args; simp_all
  obtain ⟨rfl, rfl⟩ := trodVars_none hV
  obtain ⟨a0, rfl, rfl, rfl, w0⟩ := open_int Try.underlying3 (hval 0 3 v0 rfl rfl) h0
  obtain ⟨a1, rfl, rfl, rfl, w1⟩ := open_int Try.underlying3 (hval 1 3 v1 rfl rfl) h1
  obtain ⟨a2, rfl, rfl, rfl, w2⟩ := open_int Try.underlying3 (hval 2 3 v2 rfl rfl) h2
  obtain ⟨a3, rfl, rfl, rfl, w3⟩ := open_int Try.underlying3 (hval 3 3 v3 rfl rfl) h3
  obtain ⟨a4, rfl, rfl, rfl, w4⟩ := open_int Try.underlying3 (hval 4 3 v4 rfl rfl) h4
  obtain ⟨a5, rfl, rfl, rfl, w5⟩ := open_int Try.underlying3 (hval 5 3 v5 rfl rfl) h5
  clear hA0 hval0 hsz0
  refine (spanInside_walk a0 a1 a2 a3 a4 a5 (row_int w0) (row_int w1) (row_int w2) (row_int w3) (row_int w4) (row_int w5) W).mono fun e W' ⟨he, bel⟩ => ?_
  subst he
  exact ⟨_, rfl, _, _, _, [], _, [], hW', trodAll_mk1 (shut_bool Try.underlying4 _), (trodAll_cons_mk (shut_int Try.underlying3 w0) (trodAll_cons_mk (shut_int Try.underlying3 w1) (trodAll_cons_mk (shut_int Try.underlying3 w2) (trodAll_cons_mk (shut_int Try.underlying3 w3) (trodAll_cons_mk (shut_int Try.underlying3 w4) (trodAll_cons_mk (shut_int Try.underlying3 w5) trodAll_mk0)))))), rfl, bel.frame _, fun h => by cases h⟩
theorem over : Rows.spanInsideRow.holds Try.pinned (OpenSpec.ofChange Rows.spanInsideSpec) :=
  OpenClaim.holds_of_wide 7 Try.f7 rfl rfl rfl rfl rfl rfl rfl ⟨rfl, rfl, rfl, rfl, rfl⟩ rfl rfl rfl rfl rfl (by kernel_rfl) Try.func7 (by kernel_rfl)
    (of_decide_eq_true (by kernel_rfl)) (by unfold Func.isWrapper; first | (rw [if_pos (by decide +kernel)]; kernel_rfl) | (rw [if_neg (by decide +kernel)]; exact ⟨rfl, rfl⟩))
    (fun os started H enc _ => lifted os started H enc)
theorem proved : Rows.SpanInsideSaid := over
#print axioms proved
end Go.Proofs.Ytkdfkpalgejkkaa.spanInside
namespace Go.Proofs.Ytkdfkpalgejkkaa
/-- The row, under a short name, for the claim. -/
theorem spanInside_holds : Rows.SpanInsideSaid := spanInside.proved
end Go.Proofs.Ytkdfkpalgejkkaa
