/- Part 1 of 3. The statement LimitMasks holds: the mask of a point has its class, and that of each deviation less than one part of the scale away; for every input, under no condition. -/
import Derived.Shelf.Small.Bits
import Derived.Shelf.Strconv.Itoa0
import Derived.Shelf.Bits.Mul64
import Derived.Test.YtkdfkpalgejkkaaProg
import Derived.Shelf.Spec.BitsCarry
import Derived.WalkKit
import Derived.WalkSpells
import Derived.WalkLawsBesides
import Derived.StillTactics
import Derived.StillTailTactics
import Derived.Laws.Pointers
import Derived.Deep.RegionHeld3
import Derived.Deep.RegionLaw
import Derived.Deep.QuietTactic
import Derived.Deep.DeepFit
import Derived.Deep.DeepMust
import Derived.BigQuiet
import Derived.BigRegion
import Derived.RowKit3
import Derived.Below
import Derived.Lib.Hide
import Derived.LoopN
import Derived.Recover
import Derived.Outline
import Derived.Deep.Draws
import Derived.Deep.AppendLies
import Derived.Maps.AppendAt
import Derived.OwnWalk
import Derived.Laws.BytesArg
import Derived.Laws.MakeOwn
import Derived.Laws.OwnMore
import Derived.Deep.OwnRows
import Derived.Tactics
import Derived.Lib.ConvBytes
import Derived.Laws.Slices
import Derived.KernelRfl
import Derived.Deep.LoopGhost
import Derived.WideLaws
import Derived.Deep.DeepCutAuto
import Derived.Deep.CutBlock
import Derived.Laws.Rows
import Derived.Lib.AppendStr
import Derived.ArgAppend
import Derived.Laws.IdiomCopy
import Derived.OrdersHeld
import Derived.Laws.BitsLemmas
import Derived.RowKit
import Derived.Test.YtkdfkpalgejkkaaWWords
import Derived.Test.YtkdfkpalgejkkaaWLast
import Derived.Test.YtkdfkpalgejkkaaWTab
import Derived.Test.YtkdfkpalgejkkaaWFour
import Derived.Test.YtkdfkpalgejkkaaWQPut
import Derived.Test.YtkdfkpalgejkkaaWApart
import Derived.Test.YtkdfkpalgejkkaaWArr
import Derived.Test.YtkdfkpalgejkkaaWZeros
import Derived.Test.YtkdfkpalgejkkaaWFoot
import Derived.Test.YtkdfkpalgejkkaaWKept
import Derived.Test.YtkdfkpalgejkkaaWShare
import Derived.Test.YtkdfkpalgejkkaaWN
import Derived.Test.YtkdfkpalgejkkaaWFootNe
import Derived.Test.YtkdfkpalgejkkaaWAt
import Derived.Test.YtkdfkpalgejkkaaWEqStruct
import Derived.Test.YtkdfkpalgejkkaaWRepsOne
import Derived.Test.YtkdfkpalgejkkaaWInv
import Derived.Test.YtkdfkpalgejkkaaWInvWords
import Derived.Test.YtkdfkpalgejkkaaWGuard
import Derived.Test.YtkdfkpalgejkkaaWNEv
import Derived.Test.YtkdfkpalgejkkaaWMore
import Derived.Orders
/-
  DERIVED: THE SHELF's CONTRACTS AT THIS DUMP, IN PLAIN WORDS (tools/lay-plain.mjs out of 'TryShelf.lean', which tools/lay-shelf.mjs wrote): THE SAME DECLARATIONS UNDER THE SAME NAMES: 'import', 'namespace', 'open', 'def', 'theorem' AND NOTHING ELSE: no command of the shelf's: FOR A HAND-IN. Each laying: the table of numbers ('.._ren') and one theorem, a field a fact of the dump's own or the kernel's comparison; each contract: ONE APPLICATION.
-/
namespace Go.Proofs
open Go.Shelf
def Try.lays134_ren : Go.Shelf.Ren := ⟨fun | 134 => 133 | 129 => 100 | n => n, fun | 53 => 33 | 3 => 3 | 4 => 4 | 46 => 97 | 5 => 5 | 9 => 9 | n => n, fun | n => n⟩
theorem Try.lays134 : Go.Proofs.Lays.n134 Try.prog Try.lays134_ren := {
  mixed := by kernel_rfl
  f129 := Try.func100.trans (congrArg some (by kernel_rfl))
  f134 := Try.func133.trans (congrArg some (by kernel_rfl))
  t3 := Try.underlying3
  a3 := Try.isAgg3
  z3 := Try.sizeOf3
  v3 := Try.zeroValue3
  t4 := Try.underlying4
  a4 := Try.isAgg4
  z4 := Try.sizeOf4
  v4 := Try.zeroValue4
  t5 := Try.underlying5
  a5 := Try.isAgg5
  z5 := Try.sizeOf5
  v5 := Try.zeroValue5
  t9 := Try.underlying9
  a9 := Try.isAgg9
  z9 := Try.sizeOf9
  v9 := Try.zeroValue9
  t46 := Try.underlying97
  a46 := Try.isAgg97
  z46 := Try.sizeOf97
  v46 := Try.zeroValue97
  t53 := Try.underlying33
  a53 := Try.isAgg33
  z53 := Try.sizeOf33
  v53 := Try.zeroValue33 }
/-- bits.LeadingZeros64: "LeadingZeros64 returns the number of leading zero bits in x; the result is 64 for x == 0.": IT RETURNS '64 - Lib.bitLen x'; the world is as it was. ITS CALLEE bits.Len64 IS MET BY ITS OWN CONTRACT OFF THE SHELF (lay that first): entered in place it sends the kernel out of memory. (LAID: no walk: one application.) -/
theorem Try.bits_LeadingZeros64 (x : Int) (w : World) (h0 : 0 ≤ x) (h1 : x ≤ 18446744073709551615) :
    Calls Try.prog 133 #[.int .u64 x] w fun e w' => e = .returned (.int .i64 (64 - (Lib.bitLen x.toNat : Int))) ∧ w' = w := Any.bits_LeadingZeros64 Try.lays134 x w h0 h1
def Try.lays129_ren : Go.Shelf.Ren := ⟨fun | 129 => 100 | n => n, fun | 53 => 33 | 3 => 3 | 4 => 4 | 46 => 97 | 5 => 5 | 9 => 9 | n => n, fun | n => n⟩
theorem Try.lays129 : Go.Proofs.Lays.n129 Try.prog Try.lays129_ren := {
  mixed := by kernel_rfl
  f129 := Try.func100.trans (congrArg some (by kernel_rfl))
  t3 := Try.underlying3
  a3 := Try.isAgg3
  z3 := Try.sizeOf3
  v3 := Try.zeroValue3
  t4 := Try.underlying4
  a4 := Try.isAgg4
  z4 := Try.sizeOf4
  v4 := Try.zeroValue4
  t5 := Try.underlying5
  a5 := Try.isAgg5
  z5 := Try.sizeOf5
  v5 := Try.zeroValue5
  t9 := Try.underlying9
  a9 := Try.isAgg9
  z9 := Try.sizeOf9
  v9 := Try.zeroValue9
  t46 := Try.underlying97
  a46 := Try.isAgg97
  z46 := Try.sizeOf97
  v46 := Try.zeroValue97
  t53 := Try.underlying33
  a53 := Try.isAgg33
  z53 := Try.sizeOf33
  v53 := Try.zeroValue33 }
/-- bits.Len64: "Len64 returns the minimum number of bits required to represent x; the result is 0 for x == 0.": IT RETURNS 'Lib.bitLen x'; the world is as it was. ('h0', 'h1': x is a uint64.) (LAID: no walk: one application.) -/
theorem Try.bits_Len64 (x : Int) (w : World) (h0 : 0 ≤ x) (h1 : x ≤ 18446744073709551615) :
    Calls Try.prog 100 #[.int .u64 x] w fun e w' => e = .returned (.int .i64 (Lib.bitLen x.toNat)) ∧ w' = w := Any.bits_Len64 Try.lays129 x w h0 h1
def Try.lays264_ren : Go.Shelf.Ren := ⟨fun | 264 => 91 | n => n, fun | 53 => 33 | 46 => 97 | n => n, fun | n => n⟩
theorem Try.lays264 : Go.Proofs.Lays.n264 Try.prog Try.lays264_ren := {
  mixed := by kernel_rfl
  f264 := Try.func91.trans (congrArg some (by kernel_rfl))
  t46 := Try.underlying97
  a46 := Try.isAgg97
  z46 := Try.sizeOf97
  v46 := Try.zeroValue97
  t53 := Try.underlying33
  a53 := Try.isAgg33
  z53 := Try.sizeOf33
  v53 := Try.zeroValue33 }
open Go.RowKit Go.Lib in
theorem Try.bits_Mul64 (x y : Nat) (hx : x < 18446744073709551616) (hy : y < 18446744073709551616) (w : World) :
    Calls Try.prog 91 #[.int .u64 x, .int .u64 y] w fun e w' => e = .returned (.tuple #[.int .u64 ((x * y / 18446744073709551616 : Nat) : Int), .int .u64 ((x * y % 18446744073709551616 : Nat) : Int)]) ∧ w' = w := Any.bits_Mul64 Try.lays264 x y hx hy w
end Go.Proofs
/-
  PLAIN NUMBERS: words and pairs of words, square roots, quotients rounded down and up. No Go and no memory.
-/
set_option linter.unusedSimpArgs false
namespace Go.Proofs.Ytkdfkpalgejkkaa

/-! ### Pairs of words: the number n from 0 to 2^128 - 1 has the words hiW n and loW n -/
def hiW (n : Int) : Int := n / 18446744073709551616
def loW (n : Int) : Int := n % 18446744073709551616
def ofW (h l : Int) : Int := h * 18446744073709551616 + l
/-- A number of 128 bits, of 64 bits, an int. -/
def Wide (n : Int) : Prop := 0 ≤ n ∧ n < 340282366920938463463374607431768211456
def Word (n : Int) : Prop := 0 ≤ n ∧ n < 18446744073709551616
def IsInt (n : Int) : Prop := -9223372036854775808 ≤ n ∧ n ≤ 9223372036854775807
instance (n : Int) : Decidable (Wide n) := by unfold Wide; infer_instance
instance (n : Int) : Decidable (Word n) := by unfold Word; infer_instance
instance (n : Int) : Decidable (IsInt n) := by unfold IsInt; infer_instance

theorem hiW_ofW {h l : Int} (hl : Word l) : hiW (ofW h l) = h := by unfold Word at hl; unfold hiW ofW; omega
theorem loW_ofW {h l : Int} (hl : Word l) : loW (ofW h l) = l := by unfold Word at hl; unfold loW ofW; omega
theorem ofW_hiW_loW (n : Int) : ofW (hiW n) (loW n) = n := by unfold ofW hiW loW; omega
theorem word_hiW {n : Int} (h : Wide n) : Word (hiW n) := by unfold Wide at h; unfold Word hiW; omega
theorem word_loW (n : Int) : Word (loW n) := by unfold Word loW; omega
theorem wide_ofW {h l : Int} (hh : Word h) (hl : Word l) : Wide (ofW h l) := by unfold Word at hh hl; unfold Wide ofW; omega
theorem hiW_small {n : Int} (h : Word n) : hiW n = 0 := by unfold Word at h; unfold hiW; omega
theorem loW_small {n : Int} (h : Word n) : loW n = n := by unfold Word at h; unfold loW; omega
theorem Word.wide {n : Int} (h : Word n) : Wide n := by unfold Word at h; unfold Wide; omega
theorem wide_mod (n : Int) : Wide (n % 340282366920938463463374607431768211456) := by unfold Wide; omega
theorem word_mod (n : Int) : Word (n % 18446744073709551616) := by unfold Word; omega
theorem mod_wide {n : Int} (h : Wide n) : n % 340282366920938463463374607431768211456 = n := by unfold Wide at h; omega
theorem mod_word {n : Int} (h : Word n) : n % 18446744073709551616 = n := by unfold Word at h; omega
theorem wide_ext {a b : Int} (h1 : hiW a = hiW b) (h2 : loW a = loW b) : a = b := by rw [← ofW_hiW_loW a, ← ofW_hiW_loW b, h1, h2]
theorem hiW_eq_zero {n : Int} (h : Wide n) : hiW n = 0 ↔ Word n := by unfold Wide at h; unfold hiW Word; omega
theorem word_mul {x y : Int} (hx : Word x) (hy : Word y) : Wide (x * y) := by
  unfold Word at hx hy; unfold Wide
  have h1 : 0 ≤ x * y := Int.mul_nonneg hx.1 hy.1
  have h2 : x * y ≤ 18446744073709551615 * 18446744073709551615 := Int.mul_le_mul (by omega) (by omega) hy.1 (by omega)
  omega

/-- The borrow. -/
def bor (x y : Int) : Int := if x < y then 1 else 0
theorem bor_nonneg (x y : Int) : 0 ≤ bor x y := by unfold bor; split <;> omega
theorem bor_le (x y : Int) : bor x y ≤ 1 := by unfold bor; split <;> omega

/-! ### The size of an int -/
def absZ (n : Int) : Int := if n < 0 then -n else n
theorem absZ_nonneg (n : Int) : 0 ≤ absZ n := by unfold absZ; split <;> omega
theorem absZ_word {n : Int} (h : IsInt n) : Word (absZ n) := by unfold IsInt at h; unfold absZ Word; split <;> omega
theorem absZ_neg (n : Int) : absZ (-n) = absZ n := by unfold absZ; split <;> split <;> omega
theorem absZ_mul (a b : Int) : absZ (a * b) = absZ a * absZ b := by
  unfold absZ
  by_cases ha : a < 0 <;> by_cases hb : b < 0 <;> simp only [ha, hb, if_true, if_false]
  · have := Int.mul_pos_of_neg_of_neg ha hb
    rw [if_neg (by omega)]; grind
  · by_cases h0 : b = 0
    · subst h0; simp
    · have := Int.mul_neg_of_neg_of_pos ha (show 0 < b by omega)
      rw [if_pos this]; grind
  · by_cases h0 : a = 0
    · subst h0; simp
    · have := Int.mul_neg_of_pos_of_neg (show 0 < a by omega) hb
      rw [if_pos this]; grind
  · have := Int.mul_nonneg (show 0 ≤ a by omega) (show 0 ≤ b by omega)
    rw [if_neg (by omega)]

/-! ### Squares and their roots -/
theorem sq_lt_sq {x y : Int} (hx : 0 ≤ x) (h : x < y) : x * x < y * y := by
  have : 0 < (y - x) * (y + x) := Int.mul_pos (by omega) (by omega)
  grind
theorem sq_le_sq {x y : Int} (hx : 0 ≤ x) (h : x ≤ y) : x * x ≤ y * y := by
  have : 0 ≤ (y - x) * (y + x) := Int.mul_nonneg (by omega) (by omega)
  grind
theorem lt_of_sq_lt {x y : Int} (hy : 0 ≤ y) (h : x * x < y * y) : x < y := by
  by_cases k : x < y
  · exact k
  · have := sq_le_sq hy (show y ≤ x by omega)
    omega
theorem le_of_sq_le {x y : Int} (hy : 0 ≤ y) (h : x * x ≤ y * y) : x ≤ y := by
  by_cases k : x ≤ y
  · exact k
  · have := sq_lt_sq hy (show y < x by omega)
    omega

def rootGo (n : Nat) : Nat → Nat
  | 0 => 0
  | k + 1 => if (k + 1) * (k + 1) ≤ n then k + 1 else rootGo n k
def isqrt (n : Int) : Int := rootGo n.toNat n.toNat
theorem rootGo_sq (n : Nat) : ∀ k, rootGo n k * rootGo n k ≤ n
  | 0 => by simp [rootGo]
  | k + 1 => by
    unfold rootGo
    split
    · assumption
    · exact rootGo_sq n k
theorem rootGo_top (n : Nat) : ∀ k, n < (k + 1) * (k + 1) → n < (rootGo n k + 1) * (rootGo n k + 1)
  | 0, h => by simpa [rootGo] using h
  | k + 1, h => by
    unfold rootGo
    split
    · exact h
    · exact rootGo_top n k (by omega)
theorem isqrt_nonneg (n : Int) : 0 ≤ isqrt n := by unfold isqrt; omega
theorem isqrt_sq {n : Int} (h : 0 ≤ n) : isqrt n * isqrt n ≤ n := by
  have := rootGo_sq n.toNat n.toNat
  unfold isqrt
  have e : ((rootGo n.toNat n.toNat * rootGo n.toNat n.toNat : Nat) : Int) ≤ (n.toNat : Int) := by omega
  rw [Int.natCast_mul] at e
  omega
theorem isqrt_top {n : Int} (h : 0 ≤ n) : n < (isqrt n + 1) * (isqrt n + 1) := by
  have k : n.toNat < (n.toNat + 1) * (n.toNat + 1) := by
    have := Nat.le_mul_of_pos_left (n.toNat + 1) (show 0 < n.toNat + 1 by omega)
    omega
  have := rootGo_top n.toNat n.toNat k
  unfold isqrt
  have e : (n.toNat : Int) < (((rootGo n.toNat n.toNat + 1) * (rootGo n.toNat n.toNat + 1) : Nat) : Int) := by omega
  rw [Int.natCast_mul] at e
  simp only [Int.natCast_add] at e
  have f : ((1 : Nat) : Int) = 1 := rfl
  rw [f] at e
  omega
theorem isqrt_eq {n r : Int} (hr : 0 ≤ r) (h1 : r * r ≤ n) (h2 : n < (r + 1) * (r + 1)) : isqrt n = r := by
  have hn : 0 ≤ n := by have := Int.mul_nonneg hr hr; omega
  have a := isqrt_sq hn
  have b := isqrt_top hn
  have c := isqrt_nonneg n
  have d : isqrt n < r + 1 := lt_of_sq_lt (by omega) (by omega)
  have e : r < isqrt n + 1 := lt_of_sq_lt (by omega) (by omega)
  omega
theorem le_isqrt {n x : Int} (hn : 0 ≤ n) (hx : 0 ≤ x) : x ≤ isqrt n ↔ x * x ≤ n := by
  have a := isqrt_sq hn
  have b := isqrt_top hn
  have c := isqrt_nonneg n
  constructor
  · intro h
    have := sq_le_sq hx h
    omega
  · intro h
    have : x < isqrt n + 1 := lt_of_sq_lt (by omega) (by omega)
    omega
theorem isqrt_mono {a b : Int} (ha : 0 ≤ a) (h : a ≤ b) : isqrt a ≤ isqrt b := by
  have := isqrt_sq ha
  exact (le_isqrt (by omega) (isqrt_nonneg a)).2 (by omega)
theorem isqrt_word {n : Int} (h : Wide n) : Word (isqrt n) := by
  unfold Wide at h
  have a := isqrt_sq h.1
  have c := isqrt_nonneg n
  unfold Word
  refine ⟨c, ?_⟩
  exact lt_of_sq_lt (by omega) (by omega)

/-- The root, rounded up. -/
def usqrt (n : Int) : Int := if isqrt n * isqrt n = n then isqrt n else isqrt n + 1
theorem usqrt_nonneg (n : Int) : 0 ≤ usqrt n := by have := isqrt_nonneg n; unfold usqrt; split <;> omega
theorem usqrt_sq {n : Int} (h : 0 ≤ n) : n ≤ usqrt n * usqrt n := by
  have a := isqrt_top h
  unfold usqrt
  split <;> omega
theorem usqrt_le {n x : Int} (hn : 0 ≤ n) (hx : 0 ≤ x) : usqrt n ≤ x ↔ n ≤ x * x := by
  have a := isqrt_sq hn
  have b := isqrt_top hn
  have c := isqrt_nonneg n
  have d := usqrt_sq hn
  constructor
  · intro h
    have := sq_le_sq (usqrt_nonneg n) h
    omega
  · intro h
    unfold usqrt
    split
    · exact le_of_sq_le hx (by omega)
    · have : isqrt n < x := lt_of_sq_lt hx (by omega)
      omega
theorem usqrt_mono {a b : Int} (ha : 0 ≤ a) (h : a ≤ b) : usqrt a ≤ usqrt b := by
  have := usqrt_sq (show 0 ≤ b by omega)
  exact (usqrt_le ha (usqrt_nonneg b)).2 (by omega)
theorem isqrt_le_usqrt (n : Int) : isqrt n ≤ usqrt n := by unfold usqrt; split <;> omega
theorem usqrt_le_isqrt (n : Int) : usqrt n ≤ isqrt n + 1 := by unfold usqrt; split <;> omega

/-! ### Quotients, rounded down and up -/
def fl (p c : Int) : Int := if 0 < c then p / c else (-p) / (-c)
def cl (p c : Int) : Int := -(fl (-p) c)
theorem fl_pos {p c : Int} (h : 0 < c) : fl p c = p / c := by unfold fl; rw [if_pos h]
theorem fl_neg {p c : Int} (h : c < 0) : fl p c = (-p) / (-c) := by unfold fl; rw [if_neg (by omega)]
theorem fl_mul_le {p c : Int} (h : 0 < c) : fl p c * c ≤ p := by rw [fl_pos h]; exact Int.ediv_mul_le p (by omega)
theorem lt_fl_mul {p c : Int} (h : 0 < c) : p < (fl p c + 1) * c := by rw [fl_pos h]; exact Int.lt_ediv_add_one_mul_self p h
theorem le_fl {p c x : Int} (h : 0 < c) : x ≤ fl p c ↔ x * c ≤ p := by rw [fl_pos h]; exact Int.le_ediv_iff_mul_le h
theorem fl_eq {p c q : Int} (h : 0 < c) (h1 : q * c ≤ p) (h2 : p < (q + 1) * c) : fl p c = q := by
  have a := (le_fl h).2 h1
  have b := fl_mul_le (p := p) h
  by_cases k : fl p c = q
  · exact k
  · have : (q + 1) * c ≤ fl p c * c := Int.mul_le_mul_of_nonneg_right (by omega) (by omega)
    omega
theorem cl_le {p c x : Int} (h : 0 < c) : cl p c ≤ x ↔ p ≤ x * c := by
  unfold cl
  have := le_fl (p := -p) (x := -x) h
  rw [Int.neg_mul] at this
  omega
theorem le_cl_mul {p c : Int} (h : 0 < c) : p ≤ cl p c * c := (cl_le h).1 (Int.le_refl _)
theorem cl_mul_lt {p c : Int} (h : 0 < c) : (cl p c - 1) * c < p := by
  by_cases k : (cl p c - 1) * c < p
  · exact k
  · have := (cl_le h).2 (show p ≤ (cl p c - 1) * c by omega)
    omega
theorem fl_le_cl {p c : Int} (h : c ≠ 0) : fl p c ≤ cl p c := by
  by_cases hc : 0 < c
  · have a := fl_mul_le (p := p) hc
    have b := le_cl_mul (p := p) hc
    exact Int.le_of_mul_le_mul_right (Int.le_trans a b) hc
  · have hc' : 0 < -c := by omega
    have e1 : fl p c = fl (-p) (-c) := by rw [fl_neg (by omega), fl_pos hc']
    have e2 : cl p c = cl (-p) (-c) := by unfold cl; rw [fl_neg (by omega), fl_pos hc']
    rw [e1, e2]
    have a := fl_mul_le (p := -p) hc'
    have b := le_cl_mul (p := -p) hc'
    exact Int.le_of_mul_le_mul_right (Int.le_trans a b) hc'
theorem cl_le_fl {p c : Int} (h : 0 < c) : cl p c ≤ fl p c + 1 := by
  have := lt_fl_mul (p := p) h
  exact (cl_le h).2 (by omega)
theorem fl_neg_neg (p : Int) {c : Int} (h : c ≠ 0) : fl (-p) (-c) = fl p c := by
  by_cases hc : 0 < c
  · rw [fl_pos hc, fl_neg (by omega)]; simp
  · rw [fl_neg (show c < 0 by omega), fl_pos (show 0 < -c by omega)]
theorem cl_neg_neg (p : Int) {c : Int} (h : c ≠ 0) : cl (-p) (-c) = cl p c := by unfold cl; rw [fl_neg_neg (-p) h]
theorem fl_mono {p q c : Int} (h : 0 < c) (hpq : p ≤ q) : fl p c ≤ fl q c := by
  have := fl_mul_le (p := p) h
  exact (le_fl h).2 (by omega)
theorem cl_mono {p q c : Int} (h : 0 < c) (hpq : p ≤ q) : cl p c ≤ cl q c := by
  have := le_cl_mul (p := q) h
  exact (cl_le h).2 (by omega)
theorem cl_neg_left (p c : Int) : cl (-p) c = -(fl p c) := by unfold cl; rw [Int.neg_neg]
theorem fl_neg_left (p c : Int) : fl (-p) c = -(cl p c) := by unfold cl; rw [Int.neg_neg]

/-- By sign and size: the size is divided, and one more taken where the mode (0: down, 1: up) says so. -/
def bySize (p c mode : Int) : Int :=
  let below := decide (p < 0) != decide (c < 0)
  let q := absZ p / absZ c
  let more := absZ p % absZ c != 0 && (if mode = 0 then below else !below)
  let m := if more then q + 1 else q
  if below then -m else m
def md (p c mode : Int) : Int := if mode = 0 then fl p c else cl p c
theorem ediv_neg_split {x d : Int} (hd : 0 < d) : (-x) / d = if x % d = 0 then -(x / d) else -(x / d) - 1 := by
  have h1 := Int.mul_ediv_add_emod x d
  have h2 := Int.emod_nonneg x (show d ≠ 0 by omega)
  have h3 := Int.emod_lt_of_pos x hd
  split
  · rename_i h
    have e : -x = -(x / d) * d := by grind
    rw [e, Int.mul_ediv_cancel _ (by omega)]
  · have := fl_eq (p := -x) (q := -(x / d) - 1) hd (by grind) (by grind)
    rwa [fl_pos hd] at this
theorem bySize_md {p c mode : Int} (hc : c ≠ 0) (hp : p ≠ 0) : bySize p c mode = md p c mode := by
  unfold bySize md cl fl absZ
  by_cases h1 : p < 0 <;> by_cases h2 : c < 0 <;> by_cases h3 : mode = 0 <;> simp only [h1, h2, h3, if_true, if_false, decide_true, decide_false, bne_self_eq_false, Bool.and_false, Bool.not_false, Bool.and_true]
  all_goals try rw [if_neg (show ¬ 0 < c by omega)]
  all_goals try rw [if_pos (show 0 < c by omega)]
  all_goals try simp only [Int.neg_neg]
  all_goals try simp only [show (true != false) = true from rfl, show (false != true) = true from rfl, if_true, if_false, Bool.false_eq_true, Bool.not_true, Bool.not_false, Bool.and_true, Bool.and_false]
  · have e := ediv_neg_split (x := -p) (d := -c) (by omega)
    rw [Int.neg_neg] at e
    by_cases h : (-p) % (-c) = 0
    · simp [h] at e ⊢; omega
    · simp [h] at e ⊢; omega
  · have e := ediv_neg_split (x := -p) (d := c) (by omega)
    rw [Int.neg_neg] at e
    by_cases h : (-p) % c = 0
    · simp [h] at e ⊢; omega
    · simp [h] at e ⊢; omega
  · have e := ediv_neg_split (x := p) (d := -c) (by omega)
    by_cases h : p % (-c) = 0
    · simp [h] at e ⊢; omega
    · simp [h] at e ⊢; omega
  · have e := ediv_neg_split (x := p) (d := c) (by omega)
    by_cases h : p % c = 0
    · simp [h] at e ⊢; omega
    · simp [h] at e ⊢; omega
/-- What a product, divided and rounded, is as an int: the number and the error (5: it is none). -/
def fit (v : Int) : Int × Int := if IsInt v then (v, 0) else (0, 5)
theorem fit_ok {v : Int} (h : IsInt v) : fit v = (v, 0) := by unfold fit; rw [if_pos h]
theorem fit_bad {v : Int} (h : ¬ IsInt v) : fit v = (0, 5) := by unfold fit; rw [if_neg h]
theorem fit_fst_int (v : Int) : IsInt (fit v).1 := by unfold fit; split; · assumption
                                                      · unfold IsInt; omega


/-! ### A product by size and sign, and whether it is an int -/
def below2 (a b : Int) : Bool := decide (a < 0) != decide (b < 0)
theorem mul_signed (a b : Int) : (if below2 a b then -(absZ a * absZ b) else absZ a * absZ b) = a * b := by
  unfold below2 absZ
  by_cases ha : a < 0 <;> by_cases hb : b < 0 <;> simp only [ha, hb, if_true, if_false, decide_true, decide_false, bne_self_eq_false, Bool.false_eq_true, show (true != false) = true from rfl, show (false != true) = true from rfl] <;> grind
theorem below_of {v m : Int} {b : Bool} (hm : 0 ≤ m) (hv : (if b then -m else m) = v) :
    (IsInt v → hiW m = 0 ∧ (loW m ≤ 9223372036854775807 ∨ (loW m ≤ 9223372036854775808 ∧ b = true)) ∧ (if b then -(loW m) else loW m) = v) ∧
    (¬ IsInt v → 0 < hiW m ∨ 9223372036854775808 < loW m ∨ (9223372036854775807 < loW m ∧ b = false)) := by
  unfold IsInt hiW loW
  cases b
  · simp only [Bool.false_eq_true, if_false, and_false, or_false, and_true] at hv ⊢
    subst hv
    constructor
    · intro h; refine ⟨?_, ?_, ?_⟩ <;> omega
    · intro h; omega
  · simp only [if_true, and_true] at hv ⊢
    subst hv
    constructor
    · intro h; refine ⟨?_, ?_, ?_⟩ <;> omega
    · intro h
      first | omega | (simp; omega)
end Go.Proofs.Ytkdfkpalgejkkaa
/-
  math/bits at this translation: contracts over Int. Words and pairs of words as values.
-/
namespace Go.Proofs.Ytkdfkpalgejkkaa
open Go.RowKit Go.Shelf

/-- A pair of words as a value. -/
abbrev wv (n : Int) : Value := .agg #[.int .u64 (hiW n), .int .u64 (loW n)]

theorem add64 (x y c : Int) (hx : 0 ≤ x) (hy : 0 ≤ y) (hc0 : 0 ≤ c) (hc : c ≤ 1) (w : World) : (callFunc 92 #[.int .u64 x, .int .u64 y, .int .u64 c]).run Try.prog w =
    .ok (.value (.tuple #[.int .u64 (loW (x + y + c)), .int .u64 (hiW (x + y + c))])) w := by
  obtain ⟨x, rfl⟩ := Int.eq_ofNat_of_zero_le hx
  obtain ⟨y, rfl⟩ := Int.eq_ofNat_of_zero_le hy
  obtain ⟨c, rfl⟩ := Int.eq_ofNat_of_zero_le hc0
  rw [run_callFunc_extern Try.func92 (by kernel_rfl) (by kernel_rfl) (by kernel_rfl) (e := add64Entry) (by kernel_rfl), run_add64 x y c (by omega) (by omega) (by omega) (by omega)]
  simp only [Result.andThen]
  unfold loW hiW
  congr 5 <;> omega
theorem sub64 (x y b : Int) (hx : 0 ≤ x) (hy : 0 ≤ y) (hy' : y < 18446744073709551616) (hb0 : 0 ≤ b) (hb : b ≤ 1) (w : World) : (callFunc 140 #[.int .u64 x, .int .u64 y, .int .u64 b]).run Try.prog w =
    .ok (.value (.tuple #[.int .u64 (loW (x - y - b)), .int .u64 (bor x (y + b))])) w := by
  obtain ⟨x, rfl⟩ := Int.eq_ofNat_of_zero_le hx
  obtain ⟨y, rfl⟩ := Int.eq_ofNat_of_zero_le hy
  obtain ⟨b, rfl⟩ := Int.eq_ofNat_of_zero_le hb0
  rw [run_callFunc_extern Try.func140 (by kernel_rfl) (by kernel_rfl) (by kernel_rfl) (e := sub64Entry) (by kernel_rfl), run_sub64 x y b (by omega)]
  simp only [Result.andThen]
  have e1 : (((x + 18446744073709551616 - y - b) % 18446744073709551616 : Nat) : Int) = loW ((x : Int) - y - b) := by unfold loW; omega
  have e2 : ((if x < y + b then 1 else 0 : Nat) : Int) = bor (x : Int) ((y : Int) + b) := by unfold bor; split <;> split <;> omega
  rw [e1, e2]
/-! Whatever the arguments: for the printed walks -/
def a64lo (x y c : Int) : Int := ((x.toNat + y.toNat + c.toNat) % 18446744073709551616 : Nat)
def a64hi (x y c : Int) : Int := ((x.toNat + y.toNat + c.toNat) / 18446744073709551616 : Nat)
def s64lo (x y b : Int) : Int := ((x.toNat + 18446744073709551616 - y.toNat - b.toNat) % 18446744073709551616 : Nat)
def s64hi (x y b : Int) : Int := ((if x.toNat < y.toNat + b.toNat then 1 else 0 : Nat) : Int)
theorem add64Entry_run (x y c : Int) (hc : c ≤ 1) (w : World) : (add64Entry #[.int .u64 x, .int .u64 y, .int .u64 c]).run Try.prog w = .ok (.tuple #[.int .u64 (a64lo x y c), .int .u64 (a64hi x y c)]) w := by
  match c, hc with
  | .ofNat 0, _ => rfl
  | .ofNat 1, _ => rfl
  | .ofNat (n + 2), h => exact absurd h (by simp; omega)
  | .negSucc n, _ => rfl
theorem sub64Entry_run (x y c : Int) (hc : c ≤ 1) (w : World) : (sub64Entry #[.int .u64 x, .int .u64 y, .int .u64 c]).run Try.prog w = .ok (.tuple #[.int .u64 (s64lo x y c), .int .u64 (s64hi x y c)]) w := by
  match c, hc with
  | .ofNat 0, _ => rfl
  | .ofNat 1, _ => rfl
  | .ofNat (n + 2), h => exact absurd h (by simp; omega)
  | .negSucc n, _ => rfl
theorem add64' (x y c : Int) (hc : c ≤ 1) (w : World) : (callFunc 92 #[.int .u64 x, .int .u64 y, .int .u64 c]).run Try.prog w = .ok (.value (.tuple #[.int .u64 (a64lo x y c), .int .u64 (a64hi x y c)])) w := by
  rw [run_callFunc_extern Try.func92 (by kernel_rfl) (by kernel_rfl) (by kernel_rfl) (e := add64Entry) (by kernel_rfl), add64Entry_run x y c hc]
  rfl
theorem sub64' (x y c : Int) (hc : c ≤ 1) (w : World) : (callFunc 140 #[.int .u64 x, .int .u64 y, .int .u64 c]).run Try.prog w = .ok (.value (.tuple #[.int .u64 (s64lo x y c), .int .u64 (s64hi x y c)])) w := by
  rw [run_callFunc_extern Try.func140 (by kernel_rfl) (by kernel_rfl) (by kernel_rfl) (e := sub64Entry) (by kernel_rfl), sub64Entry_run x y c hc]
  rfl
theorem a64lo_eq {x y c : Int} (hx : 0 ≤ x) (hy : 0 ≤ y) (hc : 0 ≤ c) : a64lo x y c = loW (x + y + c) := by unfold a64lo loW; omega
theorem a64hi_eq {x y c : Int} (hx : 0 ≤ x) (hy : 0 ≤ y) (hc : 0 ≤ c) : a64hi x y c = hiW (x + y + c) := by unfold a64hi hiW; omega
theorem s64lo_eq {x y c : Int} (hx : 0 ≤ x) (hy : Word y) (hc : 0 ≤ c) (hc1 : c ≤ 1) : s64lo x y c = loW (x - y - c) := by unfold Word at hy; unfold s64lo loW; omega
theorem s64hi_eq {x y c : Int} (hx : 0 ≤ x) (hy : 0 ≤ y) (hc : 0 ≤ c) : s64hi x y c = bor x (y + c) := by unfold s64hi bor; split <;> split <;> omega
theorem mul64 (x y : Int) (hx : Word x) (hy : Word y) (w : World) :
    Calls Try.prog 91 #[.int .u64 x, .int .u64 y] w fun e w' => e = .returned (.tuple #[.int .u64 (hiW (x * y)), .int .u64 (loW (x * y))]) ∧ w = w' := by
  unfold Word at hx hy
  obtain ⟨x, rfl⟩ := Int.eq_ofNat_of_zero_le hx.1
  obtain ⟨y, rfl⟩ := Int.eq_ofNat_of_zero_le hy.1
  refine (Try.bits_Mul64 x y (by omega) (by omega) w).mono ?_
  rintro e w' ⟨rfl, rfl⟩
  refine ⟨?_, rfl⟩
  unfold hiW loW
  congr 5 <;> simp [Int.natCast_ediv, Int.natCast_emod, Int.natCast_mul]

/-- The rules by which the walk reads what a call has kept. -/
theorem bcell {W w1 : World} (hb : Below W.heap.size W w1) : (∀ b o, b < W.heap.size → w1.cell? ⟨b, o, none⟩ = W.cell? ⟨b, o, none⟩) ∧ (∀ b o, b < W.heap.size → w1.frozen? ⟨b, o, none⟩ = W.frozen? ⟨b, o, none⟩) :=
  ⟨fun b o h => hb.cell (p := ⟨b, o, none⟩) h, fun b o h => hb.frozen (p := ⟨b, o, none⟩) h⟩
/-- A cell that was there is there behind a call that keeps what was there. -/
theorem keep_cell {W w' : World} (hb : Below W.heap.size W w') {p : Addr} {v : Value} (h : W.cell? p = some v) : w'.cell? p = some v := (hb.cell (World.block_lt_of_cell? W p h)).trans h
theorem keep_frozen {W w' : World} (hb : Below W.heap.size W w') {p : Addr} (hl : p.block < W.heap.size) {b : Bool} (h : W.frozen? p = b) : w'.frozen? p = b := (hb.frozen hl).trans h
theorem alloc_cell {W : World} {p : Addr} {v : Value} (h : W.cell? p = some v) (o : Obj) : (W.alloc o).cell? p = some v :=
  keep_cell ((Below.refl _ _).alloc (Nat.le_refl _) o) h
theorem setCell_cell {W : World} {p a : Addr} {v u : Value} (h : W.cell? p = some v) (hne : p.block ≠ a.block) : (W.setCell a u).cell? p = some v :=
  (World.cell?_of_block (w := W) (Below.heap_setCell W a u p.block hne)).trans h
/-- What a block holds that came behind all this makes no difference. -/
theorem below_swap1 {B : Nat} {W0 W' : World} {o o' : Obj} (h : Below B W0 (W'.alloc o)) (hB : B ≤ W'.heap.size) : Below B W0 (W'.alloc o') :=
  ⟨h.os, h.tape, h.output, by have := h.size; simp at this ⊢; omega, fun k hk => by
    have := h.block k hk
    rw [Below.heap_alloc _ _ _ (by omega)] at this ⊢
    exact this⟩
theorem below_swap2 {B : Nat} {W0 W' : World} {o1 o2 o1' o2' : Obj} (h : Below B W0 ((W'.alloc o1).alloc o2)) (hB : B ≤ W'.heap.size) : Below B W0 ((W'.alloc o1').alloc o2') :=
  ⟨h.os, h.tape, h.output, by have := h.size; simp at this ⊢; omega, fun k hk => by
    have := h.block k hk
    rw [Below.heap_alloc _ _ _ (by simp; omega), Below.heap_alloc _ _ _ (by omega)] at this ⊢
    exact this⟩
/-- Below, step behind step. -/
theorem below_then_ {B : Nat} {w w1 w2 : World} (h : Below B w w1) (hB : B ≤ w1.heap.size) (k : Below w1.heap.size w1 w2) : Below B w w2 := h.trans (k.mono hB)
end Go.Proofs.Ytkdfkpalgejkkaa
/-
  wide: contracts of numbers of 128 bits.
-/
namespace Go.Proofs.Ytkdfkpalgejkkaa
open Go.RowKit Go.Shelf

theorem wide_Mul_c (x y : Int) (hx : Word x) (hy : Word y) (w : World) :
    Calls Try.prog 49 #[.int .u64 x, .int .u64 y] w fun e w' => e = .returned (wv (x * y)) ∧ Below w.heap.size w w' := by
  go_enter Try.func49, Try.ntmps49
  go_wp2_with (go_at_call 91; refine (mul64 x y hx hy _).mono ?_; rintro e w' ⟨rfl, rfl⟩)
  refine bodyPost_ret (v := wv (x * y)) (by simp [results, Try.results49, go_sem]) rfl ⟨rfl, ?_⟩
  exact (Below.refl _ _).alloc (Nat.le_refl _) _

theorem halves_c (n : Int) (w : World) :
    Calls Try.prog 124 #[wv n] w fun e w' => e = .returned (.agg #[.int .u64 (loW n), .int .u64 (hiW n)]) ∧ Below w.heap.size w w' := by
  go_enter Try.func124, Try.ntmps124
  go_wp2
  refine bodyPost_ret (v := .agg #[.int .u64 (loW n), .int .u64 (hiW n)]) (by simp [results, Try.results124, go_sem]) rfl ⟨rfl, ?_⟩
  exact ((Below.refl _ _).alloc (Nat.le_refl _) _).alloc (by simp) _

end Go.Proofs.Ytkdfkpalgejkkaa
/-
  GIVEN, A: contracts in the printed texts' form (name.f: what is handed back; name.calls: that the Go code does so).
-/
namespace Go.Proofs.Ytkdfkpalgejkkaa
open Go.RowKit Go.Shelf

def wide_Mul.f (a0 a1 : Int) : Option (Int × Int) := if Word a0 ∧ Word a1 then some (hiW (a0 * a1), loW (a0 * a1)) else none
theorem wide_Mul.f_eq {a0 a1 : Int} (h0 : Word a0) (h1 : Word a1) : wide_Mul.f a0 a1 = some (hiW (a0 * a1), loW (a0 * a1)) := by unfold wide_Mul.f; rw [if_pos ⟨h0, h1⟩]
theorem wide_Mul.calls (a0 a1 r1 r2 : Int) (w : World) (h : wide_Mul.f a0 a1 = some (r1, r2)) :
    Calls Try.prog 49 #[.int .u64 a0, .int .u64 a1] w fun e w' => e = .returned (.agg #[.int .u64 r1, .int .u64 r2]) ∧ Below w.heap.size w w' := by
  unfold wide_Mul.f at h
  split at h
  · rename_i hw
    simp only [Option.some.injEq, Prod.mk.injEq] at h
    obtain ⟨rfl, rfl⟩ := h
    exact wide_Mul_c a0 a1 hw.1 hw.2 w
  · cases h

def bits_LeadingZeros64.f (a0 : Int) : Option Int := if Word a0 then some (64 - (Lib.bitLen a0.toNat : Int)) else none
theorem bits_LeadingZeros64.f_eq {a0 : Int} (h0 : Word a0) : bits_LeadingZeros64.f a0 = some (64 - (Lib.bitLen a0.toNat : Int)) := by unfold bits_LeadingZeros64.f; rw [if_pos h0]
theorem bits_LeadingZeros64.calls (a0 r : Int) (w : World) (h : bits_LeadingZeros64.f a0 = some r) :
    Calls Try.prog 133 #[.int .u64 a0] w fun e w' => e = .returned (.int .i64 r) ∧ Below w.heap.size w w' := by
  unfold bits_LeadingZeros64.f at h
  split at h
  · rename_i hw
    unfold Word at hw
    simp only [Option.some.injEq] at h
    subst h
    exact (Try.bits_LeadingZeros64 a0 w hw.1 (by omega)).mono fun e w' hh => ⟨hh.1, by rw [hh.2]; exact Below.refl _ _⟩
  · cases h
end Go.Proofs.Ytkdfkpalgejkkaa
-- Written by a program (gprint.py) for this claim.
namespace Go.Proofs.Ytkdfkpalgejkkaa.Pa
open Go.RowKit Go.Proofs.Ytkdfkpalgejkkaa Go.Proofs.YtkdfkpalgejkkaaW.PrintWords Go.Proofs.YtkdfkpalgejkkaaW.PrintLast Go.Proofs.YtkdfkpalgejkkaaW.PrintMore
attribute [local go_sem] add64' sub64' max2_int min2_int max_two min_two max_three min_three max_four min_four   -- for this text's walks alone
set_option linter.unusedVariables false
set_option linter.unusedSimpArgs false



def errW : Option Int → Value
  | none => .nilIface
  | some c => .iface 0 (.int .i64 c)
theorem errW_none : errW none = .nilIface := rfl
theorem errW_some (c : Int) : errW (some c) = .iface 0 (.int .i64 c) := rfl

-- the values' own types

end Go.Proofs.Ytkdfkpalgejkkaa.Pa
-- Written by a program (gprint.py) for this claim.
namespace Go.Proofs.Ytkdfkpalgejkkaa.Pa
open Go.RowKit Go.Proofs.Ytkdfkpalgejkkaa Go.Proofs.YtkdfkpalgejkkaaW.PrintWords Go.Proofs.YtkdfkpalgejkkaaW.PrintLast Go.Proofs.YtkdfkpalgejkkaaW.PrintMore
attribute [local go_sem] add64' sub64' max2_int min2_int max_two min_two max_three min_three max_four min_four   -- for this text's walks alone
set_option linter.unusedVariables false
set_option linter.unusedSimpArgs false

-- NOT PRINTED: function 92 (bits_Add64)

end Go.Proofs.Ytkdfkpalgejkkaa.Pa
-- Written by a program (gprint.py) for this claim.
namespace Go.Proofs.Ytkdfkpalgejkkaa.Pa
open Go.RowKit Go.Proofs.Ytkdfkpalgejkkaa Go.Proofs.YtkdfkpalgejkkaaW.PrintWords Go.Proofs.YtkdfkpalgejkkaaW.PrintLast Go.Proofs.YtkdfkpalgejkkaaW.PrintMore
attribute [local go_sem] add64' sub64' max2_int min2_int max_two min_two max_three min_three max_four min_four   -- for this text's walks alone
set_option linter.unusedVariables false
set_option linter.unusedSimpArgs false

/-! ### wide_Times: function 51 -/
mutual
def wide_Times.j0 : Nat → Bool → Int → Int → Int → Int → Int → Int → Option (Int × Int × Bool)
  | 0, _, _, _, _, _, _, _ => none
  | k + 1, x7, x102000, x102001, x103000, x103001, x107000, x107001 => (wide_Mul.f x102000 x103001).bind fun bt107 => ((wide_Mul.f x102001 x103000).bind fun bt109 => (wide_Times.l0 k x7 0 bt107.1 bt107.2 bt109.1 bt109.2 x107000 x107001))
def wide_Times.l0 : Nat → Bool → Int → Int → Int → Int → Int → Int → Int → Option (Int × Int × Bool)
  | 0, _, _, _, _, _, _, _, _ => none
  | k + 1, x7, x36, x705, x706, x707, x708, x107000, x107001 => if x36 < 2 then (if x36 = 0 then (if x7 = true then (wide_Times.l0 k true 1 x705 x706 x707 x708 (a64lo x107000 x706 0) x107001) else (if (a64hi x107000 x706 0) > 0 then (wide_Times.l0 k true 1 x705 x706 x707 x708 (a64lo x107000 x706 0) x107001) else (wide_Times.l0 k (decide (x705 > 0)) 1 x705 x706 x707 x708 (a64lo x107000 x706 0) x107001))) else (if x36 = 1 then (if x7 = true then (wide_Times.l0 k true 2 x705 x706 x707 x708 (a64lo x107000 x708 0) x107001) else (if (a64hi x107000 x708 0) > 0 then (wide_Times.l0 k true 2 x705 x706 x707 x708 (a64lo x107000 x708 0) x107001) else (wide_Times.l0 k (decide (x707 > 0)) 2 x705 x706 x707 x708 (a64lo x107000 x708 0) x107001))) else (none))) else (some (x107000, x107001, x7))
end
def wide_Times.f (k : Nat) (a0_0 : Int) (a0_1 : Int) (a1_0 : Int) (a1_1 : Int) : Option (Int × Int × Bool) := (wide_Mul.f a0_1 a1_1).bind fun bt104 => (if a0_0 > 0 then (wide_Times.j0 k (decide (a1_0 > 0)) a0_0 a0_1 a1_0 a1_1 bt104.1 bt104.2) else (wide_Times.j0 k false a0_0 a0_1 a1_0 a1_1 bt104.1 bt104.2))
theorem wide_Times.mono_l : ∀ k, (∀ y0 y1 y2 y3 y4 y5 y6, LeO (wide_Times.j0 k y0 y1 y2 y3 y4 y5 y6) (wide_Times.j0 (k + 1) y0 y1 y2 y3 y4 y5 y6)) ∧ (∀ y0 y1 y2 y3 y4 y5 y6 y7, LeO (wide_Times.l0 k y0 y1 y2 y3 y4 y5 y6 y7) (wide_Times.l0 (k + 1) y0 y1 y2 y3 y4 y5 y6 y7))
  | 0 => ⟨fun _ _ _ _ _ _ _ r h => by simp [wide_Times.j0] at h, fun _ _ _ _ _ _ _ _ r h => by simp [wide_Times.l0] at h⟩
  | k + 1 => by
    obtain ⟨ih0, ih1⟩ := wide_Times.mono_l k
    refine ⟨?_, ?_⟩
    · intro y0 y1 y2 y3 y4 y5 y6
      unfold wide_Times.j0
      repeat' first
      | (with_reducible exact ih0 _ _ _ _ _ _ _)
      | (with_reducible exact ih1 _ _ _ _ _ _ _ _)
      | (with_reducible exact LeO.refl _)
      | (with_reducible exact LeO.none _)
      | (with_reducible refine LeO.ite ?_ ?_)
      | (with_reducible refine LeO.bind ?_ (fun _ => ?_))
      | exact ih0 _ _ _ _ _ _ _
      | exact ih1 _ _ _ _ _ _ _ _
      | exact LeO.none _
      | refine LeO.ite ?_ ?_
      | refine LeO.bind ?_ (fun _ => ?_)
    · intro y0 y1 y2 y3 y4 y5 y6 y7
      unfold wide_Times.l0
      repeat' first
      | (with_reducible exact ih0 _ _ _ _ _ _ _)
      | (with_reducible exact ih1 _ _ _ _ _ _ _ _)
      | (with_reducible exact LeO.refl _)
      | (with_reducible exact LeO.none _)
      | (with_reducible refine LeO.ite ?_ ?_)
      | (with_reducible refine LeO.bind ?_ (fun _ => ?_))
      | exact ih0 _ _ _ _ _ _ _
      | exact ih1 _ _ _ _ _ _ _ _
      | exact LeO.none _
      | refine LeO.ite ?_ ?_
      | refine LeO.bind ?_ (fun _ => ?_)
theorem wide_Times.mono : ∀ a0 a1 a2 a3 k, LeO (wide_Times.f k a0 a1 a2 a3) (wide_Times.f (k + 1) a0 a1 a2 a3) := by
  intro a0 a1 a2 a3 k
  obtain ⟨ih0, ih1⟩ := wide_Times.mono_l k
  unfold wide_Times.f
  repeat' first
      | (with_reducible exact ih0 _ _ _ _ _ _ _)
      | (with_reducible exact ih1 _ _ _ _ _ _ _ _)
      | (with_reducible exact LeO.refl _)
      | (with_reducible exact LeO.none _)
      | (with_reducible refine LeO.ite ?_ ?_)
      | (with_reducible refine LeO.bind ?_ (fun _ => ?_))
      | exact ih0 _ _ _ _ _ _ _
      | exact ih1 _ _ _ _ _ _ _ _
      | exact LeO.none _
      | refine LeO.ite ?_ ?_
      | refine LeO.bind ?_ (fun _ => ?_)
def wide_Times.T3 : Bool × List (List Nat × List Nat) := (true, [([], []), ([0], [0]), ([], []), ([2], [2]), ([1, 3], [1, 3]), ([], []), ([5], [5]), ([], []), ([7], [7]), ([6, 8, 4], [6, 8]), ([4, 9], [4, 9]), ([], [])])
def wide_Times.B3 : List Nat := [0, 1, 0, 4, 15, 0, 32, 0, 128, 511, 1023, 0]
theorem wide_Times.tab3 : rtab .any (opsOf Try.f51 3) = wide_Times.T3 := by kernel_rfl
theorem wide_Times.bits3 : waitsOk wide_Times.T3.2 wide_Times.B3 = true := by kernel_rfl
def wide_Times.T7 : Bool × List (List Nat × List Nat) := (true, [([], []), ([], []), ([1], [1]), ([2], [2]), ([3, 2], [2, 3]), ([2, 4], [2, 4]), ([5, 2], [5]), ([6], [6]), ([7, 6], [6, 7]), ([8, 6], [6, 8]), ([6, 9], [6, 9]), ([0], []), ([11, 0, 6, 0], [0, 11]), ([10, 12, 0, 1, 2, 3, 4, 5, 6, 7, 8, 9, 10, 11, 12], [1, 10])])
def wide_Times.B7 : List Nat := [0, 0, 2, 6, 14, 30, 62, 126, 254, 510, 1022, 1, 2175, 8191]
theorem wide_Times.tab7 : rtab .any (opsOf Try.f51 7) = wide_Times.T7 := by kernel_rfl
theorem wide_Times.bits7 : waitsOk wide_Times.T7.2 wide_Times.B7 = true := by kernel_rfl
set_option maxHeartbeats 8000000 in
set_option maxRecDepth 100000 in
theorem wide_Times.calls (k : Nat) (a0_0 : Int) (a0_1 : Int) (a1_0 : Int) (a1_1 : Int) (r1 : Int) (r2 : Int) (r3 : Bool) (w : World) (h : wide_Times.f k a0_0 a0_1 a1_0 a1_1 = some (r1, r2, r3)) :
    Calls Try.prog 51 #[.agg #[.int .u64 a0_0, .int .u64 a0_1], .agg #[.int .u64 a1_0, .int .u64 a1_1]] w fun e w' => e = .returned (.tuple #[.agg #[.int .u64 r1, .int .u64 r2], .bool r3]) ∧ Below w.heap.size w w' := by
  have hu35 := Try.underlying35
  have hu110 := Try.underlying110
  have hix110_0 : ∀ (z0 : Int) (z1 : Int) (z2 : Int) (z3 : Int) (W_ : World), (Instr.index 110 (.agg #[.int .u64 z0, .int .u64 z1, .int .u64 z2, .int .u64 z3]) (.int .i64 0)).run Try.prog W_ = .ok (.agg #[.int .u64 z0, .int .u64 z1]) W_ := fun _ _ _ _ _ => by kernel_rfl
  have hix110_1 : ∀ (z0 : Int) (z1 : Int) (z2 : Int) (z3 : Int) (W_ : World), (Instr.index 110 (.agg #[.int .u64 z0, .int .u64 z1, .int .u64 z2, .int .u64 z3]) (.int .i64 1)).run Try.prog W_ = .ok (.agg #[.int .u64 z2, .int .u64 z3]) W_ := fun _ _ _ _ _ => by kernel_rfl
  have HB := Aside0.mk (Below.refl w.heap.size w)
  have H : ((wide_Mul.f a0_1 a1_1).bind fun bt104 => (if a0_0 > 0 then (wide_Times.j0 k (decide (a1_0 > 0)) a0_0 a0_1 a1_0 a1_1 bt104.1 bt104.2) else (wide_Times.j0 k false a0_0 a0_1 a1_0 a1_1 bt104.1 bt104.2))) = some (r1, r2, r3) := h
  clear h
  replace H := Option.bind_eq_some_iff.mp H
  obtain ⟨⟨t104, t105⟩, A30, H⟩ := H
  replace H : (if a0_0 > 0 then (wide_Times.j0 k (decide (a1_0 > 0)) a0_0 a0_1 a1_0 a1_1 t104 t105) else (wide_Times.j0 k false a0_0 a0_1 a1_0 a1_1 t104 t105)) = some (r1, r2, r3) := H
  have A3 := Aside0.mk A30
  clear A30
  have HC4 := Aside0.mk H
  clear H
  go_enter Try.func51, Try.ntmps51
  go_upto_region 2 with (first | ((with_reducible refine gate_dst (N := 2) rfl ?_); refine box_event ?hg (N := 2) ?hd (cs := #[.int .u64 a0_0, .int .u64 a0_1]) (t := 35) ?hr ?_; (case hd => rfl); (case hg => rfl); (case hr => first | (go_simp; done) | (go_simp; rfl)); intro gb101 hg w5 hbox hb; have n0_ := Aside0.mk (below_step (by repeat (first | (with_reducible first | exact HB.out | apply below_alloc | apply pw_below_drewN | apply below_drew1) | exact HB.out)) hb); have n1_ := Aside0.mk (hbox); have n2_ := Aside0.mk ((by rw [hg]; exact (below_size (by repeat (first | (with_reducible first | exact HB.out | apply below_alloc | apply pw_below_drewN | apply below_drew1) | exact HB.out))) : w.heap.size ≤ gb101)); have n3_ := Aside0.mk ((by rw [hg]; exact (below_size (by repeat (first | (with_reducible first | exact HB.out | apply below_alloc | apply pw_below_drewN | apply below_drew1) | exact HB.out))) : w.heap.size ≤ gb101)); clear HB; have HB := n0_; have BK101 := n1_; have GW101 := n2_; have GE101 := n3_; clear n0_ n1_ n2_ n3_; clear hb hbox hg) | ((with_reducible refine gate_dst (N := 3) rfl ?_); refine box_event ?hg (N := 3) ?hd (cs := #[.int .u64 a1_0, .int .u64 a1_1]) (t := 35) ?hr ?_; (case hd => rfl); (case hg => rfl); (case hr => first | (go_simp; done) | (go_simp; rfl)); intro gb102 hg w6 hbox hb; have n0_ := Aside0.mk (blk_below (g := gb101) (o := .cells #[.int .u64 a0_0, .int .u64 a0_1] 35 (0, 0)) (by (with_reducible repeat (first | refine blk_drewN ?_ _ | refine blk_drew ?_ | refine blk_alloc ?_ _)); exact BK101.out) hb); have n1_ := Aside0.mk (below_step (by repeat (first | (with_reducible first | exact HB.out | apply below_alloc | apply pw_below_drewN | apply below_drew1 | refine below_set ?_ GE101.out) | exact HB.out)) hb); have n2_ := Aside0.mk (hbox); have n3_ := Aside0.mk ((by rw [hg]; exact (below_size (by repeat (first | (with_reducible first | exact HB.out | apply below_alloc | apply pw_below_drewN | apply below_drew1 | refine below_set ?_ GE101.out) | exact HB.out))) : w.heap.size ≤ gb102)); have n4_ := Aside0.mk ((by rw [hg]; exact (below_size (by repeat (first | (with_reducible first | exact HB.out | apply below_alloc | apply pw_below_drewN | apply below_drew1 | refine below_set ?_ GE101.out) | exact HB.out))) : w.heap.size ≤ gb102)); have n5_ := Aside0.mk ((by rw [hg]; exact Nat.ne_of_lt (blk_lt (g := gb101) (o := .cells #[.int .u64 a0_0, .int .u64 a0_1] 35 (0, 0)) (by (with_reducible repeat (first | refine blk_drewN ?_ _ | refine blk_drew ?_ | refine blk_alloc ?_ _)); exact BK101.out)) : gb101 ≠ gb102)); have n6_ := Aside0.mk ((by rw [hg]; exact Nat.ne_of_gt (blk_lt (g := gb101) (o := .cells #[.int .u64 a0_0, .int .u64 a0_1] 35 (0, 0)) (by (with_reducible repeat (first | refine blk_drewN ?_ _ | refine blk_drew ?_ | refine blk_alloc ?_ _)); exact BK101.out)) : gb102 ≠ gb101)); clear BK101; clear HB; have BK101 := n0_; have HB := n1_; have BK102 := n2_; have GW102 := n3_; have GE102 := n4_; have NB101_102 := n5_; have NB102_101 := n6_; clear n0_ n1_ n2_ n3_ n4_ n5_ n6_; clear hb hbox hg) | ((with_reducible refine gate_dst (N := 4) rfl ?_); refine box_event ?hg (N := 4) ?hd (cs := #[.int .u64 0, .int .u64 0]) (t := 35) ?hr ?_; (case hd => rfl); (case hg => rfl); (case hr => first | (go_simp; done) | (go_simp; rfl)); intro gb103 hg w7 hbox hb; have n0_ := Aside0.mk (blk_below (g := gb101) (o := .cells #[.int .u64 a0_0, .int .u64 a0_1] 35 (0, 0)) (by (with_reducible repeat (first | refine blk_drewN ?_ _ | refine blk_drew ?_ | refine blk_alloc ?_ _)); exact BK101.out) hb); have n1_ := Aside0.mk (blk_below (g := gb102) (o := .cells #[.int .u64 a1_0, .int .u64 a1_1] 35 (0, 0)) (by (with_reducible repeat (first | refine blk_drewN ?_ _ | refine blk_drew ?_ | refine blk_alloc ?_ _)); exact BK102.out) hb); have n2_ := Aside0.mk (below_step (by repeat (first | (with_reducible first | exact HB.out | apply below_alloc | apply pw_below_drewN | apply below_drew1 | refine below_set ?_ GE101.out | refine below_set ?_ GE102.out) | exact HB.out)) hb); have n3_ := Aside0.mk (hbox); have n4_ := Aside0.mk ((by rw [hg]; exact (below_size (by repeat (first | (with_reducible first | exact HB.out | apply below_alloc | apply pw_below_drewN | apply below_drew1 | refine below_set ?_ GE101.out | refine below_set ?_ GE102.out) | exact HB.out))) : w.heap.size ≤ gb103)); have n5_ := Aside0.mk ((by rw [hg]; exact (below_size (by repeat (first | (with_reducible first | exact HB.out | apply below_alloc | apply pw_below_drewN | apply below_drew1 | refine below_set ?_ GE101.out | refine below_set ?_ GE102.out) | exact HB.out))) : w.heap.size ≤ gb103)); have n6_ := Aside0.mk ((by rw [hg]; exact Nat.ne_of_lt (blk_lt (g := gb101) (o := .cells #[.int .u64 a0_0, .int .u64 a0_1] 35 (0, 0)) (by (with_reducible repeat (first | refine blk_drewN ?_ _ | refine blk_drew ?_ | refine blk_alloc ?_ _)); exact BK101.out)) : gb101 ≠ gb103)); have n7_ := Aside0.mk ((by rw [hg]; exact Nat.ne_of_gt (blk_lt (g := gb101) (o := .cells #[.int .u64 a0_0, .int .u64 a0_1] 35 (0, 0)) (by (with_reducible repeat (first | refine blk_drewN ?_ _ | refine blk_drew ?_ | refine blk_alloc ?_ _)); exact BK101.out)) : gb103 ≠ gb101)); have n8_ := Aside0.mk ((by rw [hg]; exact Nat.ne_of_lt (blk_lt (g := gb102) (o := .cells #[.int .u64 a1_0, .int .u64 a1_1] 35 (0, 0)) (by (with_reducible repeat (first | refine blk_drewN ?_ _ | refine blk_drew ?_ | refine blk_alloc ?_ _)); exact BK102.out)) : gb102 ≠ gb103)); have n9_ := Aside0.mk ((by rw [hg]; exact Nat.ne_of_gt (blk_lt (g := gb102) (o := .cells #[.int .u64 a1_0, .int .u64 a1_1] 35 (0, 0)) (by (with_reducible repeat (first | refine blk_drewN ?_ _ | refine blk_drew ?_ | refine blk_alloc ?_ _)); exact BK102.out)) : gb103 ≠ gb102)); clear BK101; clear BK102; clear HB; have BK101 := n0_; have BK102 := n1_; have HB := n2_; have BK103 := n3_; have GW103 := n4_; have GE103 := n5_; have NB101_103 := n6_; have NB103_101 := n7_; have NB102_103 := n8_; have NB103_102 := n9_; clear n0_ n1_ n2_ n3_ n4_ n5_ n6_ n7_ n8_ n9_; clear hb hbox hg; have hnb8 := NB101_102.out; have hnc8 := NB102_101.out; have hnb9 := NB101_103.out; have hnc9 := NB103_101.out; have hcz10_0 : w7.cell? ⟨gb101, 0, none⟩ = some (.int .u64 a0_0) := (blk_cell BK101.out 0).trans rfl; have hcz10_1 : w7.cell? ⟨gb101, 1, none⟩ = some (.int .u64 a0_1) := (blk_cell BK101.out 1).trans rfl; have hfz10_0 := blk_frozen BK101.out 0; have hfz10_1 := blk_frozen BK101.out 1; have hnb11 := NB102_103.out; have hnc11 := NB103_102.out; have hcz12_0 : w7.cell? ⟨gb102, 0, none⟩ = some (.int .u64 a1_0) := (blk_cell BK102.out 0).trans rfl; have hcz12_1 : w7.cell? ⟨gb102, 1, none⟩ = some (.int .u64 a1_1) := (blk_cell BK102.out 1).trans rfl; have hfz12_0 := blk_frozen BK102.out 0; have hfz12_1 := blk_frozen BK102.out 1) | ((with_reducible refine gate_callee (f := 49) rfl ?_); refine goesL_ (some 16) rfl rfl Try.func49 (by kernel_rfl) rfl #[.int .u64 a0_1, .int .u64 a1_1] rfl (by (try simp only [List.map_toArray, List.map_cons, List.map_nil]); first | done | rfl | (simp only [List.length_drop, List.length_take]; rfl)) ?_; (with_reducible refine (wide_Mul.calls a0_1 a1_1 t104 t105 _ A3.out).mono ?_); rintro e w13 ⟨rfl, hb⟩; refine ⟨_, rfl, ?_⟩; have n0_ := Aside0.mk (blk_below (g := gb101) (o := .cells #[.int .u64 a0_0, .int .u64 a0_1] 35 (0, 0)) (by (with_reducible repeat (first | refine blk_drewN ?_ _ | refine blk_drew ?_ | refine blk_alloc ?_ _)); exact BK101.out) hb); have n1_ := Aside0.mk (blk_below (g := gb102) (o := .cells #[.int .u64 a1_0, .int .u64 a1_1] 35 (0, 0)) (by (with_reducible repeat (first | refine blk_drewN ?_ _ | refine blk_drew ?_ | refine blk_alloc ?_ _)); exact BK102.out) hb); have n2_ := Aside0.mk (blk_below (g := gb103) (o := .cells #[.int .u64 0, .int .u64 0] 35 (0, 0)) (by (with_reducible repeat (first | refine blk_drewN ?_ _ | refine blk_drew ?_ | refine blk_alloc ?_ _)); exact BK103.out) hb); have n3_ := Aside0.mk (below_step (by repeat (first | (with_reducible first | exact HB.out | apply below_alloc | apply pw_below_drewN | apply below_drew1 | refine below_set ?_ GE101.out | refine below_set ?_ GE102.out | refine below_set ?_ GE103.out) | exact HB.out)) hb); clear BK101; clear BK102; clear BK103; clear HB; have BK101 := n0_; have BK102 := n1_; have BK103 := n2_; have HB := n3_; clear n0_ n1_ n2_ n3_; (try clear hb); (try clear hb2); (try clear hk); (try clear hi)) | ((with_reducible refine gate_dst (N := 6) rfl ?_); refine box_event ?hg (N := 6) ?hd (cs := #[.int .u64 0, .int .u64 0]) (t := 35) ?hr ?_; (case hd => rfl); (case hg => rfl); (case hr => first | (go_simp; done) | (go_simp; rfl)); intro gb106 hg w14 hbox hb; have n0_ := Aside0.mk (blk_below (g := gb101) (o := .cells #[.int .u64 a0_0, .int .u64 a0_1] 35 (0, 0)) (by (with_reducible repeat (first | refine blk_drewN ?_ _ | refine blk_drew ?_ | refine blk_alloc ?_ _)); exact BK101.out) hb); have n1_ := Aside0.mk (blk_below (g := gb102) (o := .cells #[.int .u64 a1_0, .int .u64 a1_1] 35 (0, 0)) (by (with_reducible repeat (first | refine blk_drewN ?_ _ | refine blk_drew ?_ | refine blk_alloc ?_ _)); exact BK102.out) hb); have n2_ := Aside0.mk (blk_below (g := gb103) (o := .cells #[.int .u64 0, .int .u64 0] 35 (0, 0)) (by (with_reducible repeat (first | refine blk_drewN ?_ _ | refine blk_drew ?_ | refine blk_alloc ?_ _)); exact BK103.out) hb); have n3_ := Aside0.mk (below_step (by repeat (first | (with_reducible first | exact HB.out | apply below_alloc | apply pw_below_drewN | apply below_drew1 | refine below_set ?_ GE101.out | refine below_set ?_ GE102.out | refine below_set ?_ GE103.out) | exact HB.out)) hb); have n4_ := Aside0.mk (hbox); have n5_ := Aside0.mk ((by rw [hg]; exact (below_size (by repeat (first | (with_reducible first | exact HB.out | apply below_alloc | apply pw_below_drewN | apply below_drew1 | refine below_set ?_ GE101.out | refine below_set ?_ GE102.out | refine below_set ?_ GE103.out) | exact HB.out))) : w.heap.size ≤ gb106)); have n6_ := Aside0.mk ((by rw [hg]; exact (below_size (by repeat (first | (with_reducible first | exact HB.out | apply below_alloc | apply pw_below_drewN | apply below_drew1 | refine below_set ?_ GE101.out | refine below_set ?_ GE102.out | refine below_set ?_ GE103.out) | exact HB.out))) : w.heap.size ≤ gb106)); have n7_ := Aside0.mk ((by rw [hg]; exact Nat.ne_of_lt (blk_lt (g := gb101) (o := .cells #[.int .u64 a0_0, .int .u64 a0_1] 35 (0, 0)) (by (with_reducible repeat (first | refine blk_drewN ?_ _ | refine blk_drew ?_ | refine blk_alloc ?_ _)); exact BK101.out)) : gb101 ≠ gb106)); have n8_ := Aside0.mk ((by rw [hg]; exact Nat.ne_of_gt (blk_lt (g := gb101) (o := .cells #[.int .u64 a0_0, .int .u64 a0_1] 35 (0, 0)) (by (with_reducible repeat (first | refine blk_drewN ?_ _ | refine blk_drew ?_ | refine blk_alloc ?_ _)); exact BK101.out)) : gb106 ≠ gb101)); have n9_ := Aside0.mk ((by rw [hg]; exact Nat.ne_of_lt (blk_lt (g := gb102) (o := .cells #[.int .u64 a1_0, .int .u64 a1_1] 35 (0, 0)) (by (with_reducible repeat (first | refine blk_drewN ?_ _ | refine blk_drew ?_ | refine blk_alloc ?_ _)); exact BK102.out)) : gb102 ≠ gb106)); have n10_ := Aside0.mk ((by rw [hg]; exact Nat.ne_of_gt (blk_lt (g := gb102) (o := .cells #[.int .u64 a1_0, .int .u64 a1_1] 35 (0, 0)) (by (with_reducible repeat (first | refine blk_drewN ?_ _ | refine blk_drew ?_ | refine blk_alloc ?_ _)); exact BK102.out)) : gb106 ≠ gb102)); have n11_ := Aside0.mk ((by rw [hg]; exact Nat.ne_of_lt (blk_lt (g := gb103) (o := .cells #[.int .u64 0, .int .u64 0] 35 (0, 0)) (by (with_reducible repeat (first | refine blk_drewN ?_ _ | refine blk_drew ?_ | refine blk_alloc ?_ _)); exact BK103.out)) : gb103 ≠ gb106)); have n12_ := Aside0.mk ((by rw [hg]; exact Nat.ne_of_gt (blk_lt (g := gb103) (o := .cells #[.int .u64 0, .int .u64 0] 35 (0, 0)) (by (with_reducible repeat (first | refine blk_drewN ?_ _ | refine blk_drew ?_ | refine blk_alloc ?_ _)); exact BK103.out)) : gb106 ≠ gb103)); clear BK101; clear BK102; clear BK103; clear HB; have BK101 := n0_; have BK102 := n1_; have BK103 := n2_; have HB := n3_; have BK106 := n4_; have GW106 := n5_; have GE106 := n6_; have NB101_106 := n7_; have NB106_101 := n8_; have NB102_106 := n9_; have NB106_102 := n10_; have NB103_106 := n11_; have NB106_103 := n12_; clear n0_ n1_ n2_ n3_ n4_ n5_ n6_ n7_ n8_ n9_ n10_ n11_ n12_; clear hb hbox hg; have hnb15 := NB106_101.out; have hnc15 := NB101_106.out; have hnb16 := NB106_102.out; have hnc16 := NB102_106.out; have hnb17 := NB106_103.out; have hnc17 := NB103_106.out; have hcz18_0 : w14.cell? ⟨gb106, 0, none⟩ = some (.int .u64 0) := (blk_cell BK106.out 0).trans rfl; have hcz18_1 : w14.cell? ⟨gb106, 1, none⟩ = some (.int .u64 0) := (blk_cell BK106.out 1).trans rfl; have hfz18_0 := blk_frozen BK106.out 0; have hfz18_1 := blk_frozen BK106.out 1))
  (try simp only [Act.put, List.setIfInBounds_toArray, List.set_cons_zero, List.set_cons_succ])
  go_cut [7] (fun v7 wc => ∃ (kq : Nat) (x7_3 : Bool), v7 = .bool x7_3 ∧ Aside0 (wide_Times.j0 kq x7_3 a0_0 a0_1 a1_0 a1_1 t104 t105 = some (r1, r2, r3)) ∧ Aside0 (kq ≤ k) ∧ Aside0 (wc.heap[gb101]? = some (.cells #[.int .u64 a0_0, .int .u64 a0_1] 35 (0, 0))) ∧ Aside0 (wc.heap[gb102]? = some (.cells #[.int .u64 a1_0, .int .u64 a1_1] 35 (0, 0))) ∧ Aside0 (wc.heap[gb103]? = some (.cells #[.int .u64 0, .int .u64 0] 35 (0, 0))) ∧ Aside0 (wc.heap[gb106]? = some (.cells #[.int .u64 t104, .int .u64 t105] 35 (0, 0))) ∧ Aside0 (Below w.heap.size w wc))
  case first =>
    have H := HC4.out
    clear HC4
    by_cases c19 : a0_0 > 0
    · rw [if_pos c19] at H
      have c19b0 : decide (0 < a0_0) = true := decide_eq_true c19
      clear c19
      (first | rw [c19b0] | (simp only [i64_w, i32_w]; rw [c19b0]) | skip)
      have H' := Aside0.mk H
      clear H
      have hnb20 := NB101_102.out
      have hnc20 := NB102_101.out
      have hnb21 := NB101_103.out
      have hnc21 := NB103_101.out
      have hnb22 := NB101_106.out
      have hnc22 := NB106_101.out
      have hcz23_0 : w14.cell? ⟨gb101, 0, none⟩ = some (.int .u64 a0_0) := (blk_cell BK101.out 0).trans rfl
      have hcz23_1 : w14.cell? ⟨gb101, 1, none⟩ = some (.int .u64 a0_1) := (blk_cell BK101.out 1).trans rfl
      have hfz23_0 := blk_frozen BK101.out 0
      have hfz23_1 := blk_frozen BK101.out 1
      have hnb24 := NB102_103.out
      have hnc24 := NB103_102.out
      have hnb25 := NB102_106.out
      have hnc25 := NB106_102.out
      have hcz26_0 : w14.cell? ⟨gb102, 0, none⟩ = some (.int .u64 a1_0) := (blk_cell BK102.out 0).trans rfl
      have hcz26_1 : w14.cell? ⟨gb102, 1, none⟩ = some (.int .u64 a1_1) := (blk_cell BK102.out 1).trans rfl
      have hfz26_0 := blk_frozen BK102.out 0
      have hfz26_1 := blk_frozen BK102.out 1
      go_wp2
      go_meet
      case rel => exact ⟨_, (decide (a1_0 > 0)), (by first | rfl | (simp; done) | (simp [*]; done)), H', ⟨by first | omega | exact Nat.le_refl _⟩, ⟨by (with_reducible repeat (first | refine blk_drewN ?_ _ | refine blk_drew ?_ | refine blk_alloc ?_ _)); refine blk_far ?_ NB101_106.out _; (with_reducible repeat (first | refine blk_drewN ?_ _ | refine blk_drew ?_ | refine blk_alloc ?_ _)); refine blk_far ?_ NB101_106.out _; (with_reducible repeat (first | refine blk_drewN ?_ _ | refine blk_drew ?_ | refine blk_alloc ?_ _)); exact BK101.out⟩, ⟨by (with_reducible repeat (first | refine blk_drewN ?_ _ | refine blk_drew ?_ | refine blk_alloc ?_ _)); refine blk_far ?_ NB102_106.out _; (with_reducible repeat (first | refine blk_drewN ?_ _ | refine blk_drew ?_ | refine blk_alloc ?_ _)); refine blk_far ?_ NB102_106.out _; (with_reducible repeat (first | refine blk_drewN ?_ _ | refine blk_drew ?_ | refine blk_alloc ?_ _)); exact BK102.out⟩, ⟨by (with_reducible repeat (first | refine blk_drewN ?_ _ | refine blk_drew ?_ | refine blk_alloc ?_ _)); refine blk_far ?_ NB103_106.out _; (with_reducible repeat (first | refine blk_drewN ?_ _ | refine blk_drew ?_ | refine blk_alloc ?_ _)); refine blk_far ?_ NB103_106.out _; (with_reducible repeat (first | refine blk_drewN ?_ _ | refine blk_drew ?_ | refine blk_alloc ?_ _)); exact BK103.out⟩, ⟨by (with_reducible repeat (first | refine blk_drewN ?_ _ | refine blk_drew ?_ | refine blk_alloc ?_ _)); refine blk_put (cs := #[.int .u64 t104, .int .u64 0]) ?_ 1 _ rfl; (with_reducible repeat (first | refine blk_drewN ?_ _ | refine blk_drew ?_ | refine blk_alloc ?_ _)); refine blk_put (cs := #[.int .u64 0, .int .u64 0]) ?_ 0 _ rfl; (with_reducible repeat (first | refine blk_drewN ?_ _ | refine blk_drew ?_ | refine blk_alloc ?_ _)); exact BK106.out⟩, ⟨by repeat (first | (with_reducible first | exact HB.out | apply below_alloc | apply pw_below_drewN | apply below_drew1 | refine below_set ?_ GE101.out | refine below_set ?_ GE102.out | refine below_set ?_ GE103.out | refine below_set ?_ GE106.out) | exact HB.out)⟩⟩
    · rw [if_neg c19] at H
      have c19b0 : decide (0 < a0_0) = false := decide_eq_false c19
      clear c19
      (first | rw [c19b0] | (simp only [i64_w, i32_w]; rw [c19b0]) | skip)
      have H' := Aside0.mk H
      clear H
      have hnb27 := NB101_102.out
      have hnc27 := NB102_101.out
      have hnb28 := NB101_103.out
      have hnc28 := NB103_101.out
      have hnb29 := NB101_106.out
      have hnc29 := NB106_101.out
      have hcz30_0 : w14.cell? ⟨gb101, 0, none⟩ = some (.int .u64 a0_0) := (blk_cell BK101.out 0).trans rfl
      have hcz30_1 : w14.cell? ⟨gb101, 1, none⟩ = some (.int .u64 a0_1) := (blk_cell BK101.out 1).trans rfl
      have hfz30_0 := blk_frozen BK101.out 0
      have hfz30_1 := blk_frozen BK101.out 1
      go_wp2
      go_meet
      case rel => exact ⟨_, (false), (by first | rfl | (simp; done) | (simp [*]; done)), H', ⟨by first | omega | exact Nat.le_refl _⟩, ⟨by (with_reducible repeat (first | refine blk_drewN ?_ _ | refine blk_drew ?_ | refine blk_alloc ?_ _)); refine blk_far ?_ NB101_106.out _; (with_reducible repeat (first | refine blk_drewN ?_ _ | refine blk_drew ?_ | refine blk_alloc ?_ _)); refine blk_far ?_ NB101_106.out _; (with_reducible repeat (first | refine blk_drewN ?_ _ | refine blk_drew ?_ | refine blk_alloc ?_ _)); exact BK101.out⟩, ⟨by (with_reducible repeat (first | refine blk_drewN ?_ _ | refine blk_drew ?_ | refine blk_alloc ?_ _)); refine blk_far ?_ NB102_106.out _; (with_reducible repeat (first | refine blk_drewN ?_ _ | refine blk_drew ?_ | refine blk_alloc ?_ _)); refine blk_far ?_ NB102_106.out _; (with_reducible repeat (first | refine blk_drewN ?_ _ | refine blk_drew ?_ | refine blk_alloc ?_ _)); exact BK102.out⟩, ⟨by (with_reducible repeat (first | refine blk_drewN ?_ _ | refine blk_drew ?_ | refine blk_alloc ?_ _)); refine blk_far ?_ NB103_106.out _; (with_reducible repeat (first | refine blk_drewN ?_ _ | refine blk_drew ?_ | refine blk_alloc ?_ _)); refine blk_far ?_ NB103_106.out _; (with_reducible repeat (first | refine blk_drewN ?_ _ | refine blk_drew ?_ | refine blk_alloc ?_ _)); exact BK103.out⟩, ⟨by (with_reducible repeat (first | refine blk_drewN ?_ _ | refine blk_drew ?_ | refine blk_alloc ?_ _)); refine blk_put (cs := #[.int .u64 t104, .int .u64 0]) ?_ 1 _ rfl; (with_reducible repeat (first | refine blk_drewN ?_ _ | refine blk_drew ?_ | refine blk_alloc ?_ _)); refine blk_put (cs := #[.int .u64 0, .int .u64 0]) ?_ 0 _ rfl; (with_reducible repeat (first | refine blk_drewN ?_ _ | refine blk_drew ?_ | refine blk_alloc ?_ _)); exact BK106.out⟩, ⟨by repeat (first | (with_reducible first | exact HB.out | apply below_alloc | apply pw_below_drewN | apply below_drew1 | refine below_set ?_ GE101.out | refine below_set ?_ GE102.out | refine below_set ?_ GE103.out | refine below_set ?_ GE106.out) | exact HB.out)⟩⟩
  case rest =>
    clear HC4
    try clear c1
    try clear c2
    try clear p2
    try clear c4
    try clear c5
    try clear c8
    try clear c9
    try clear c11
    try clear c15
    try clear c16
    try clear c17
    try clear c19
    try clear c19b0
    try clear c20
    try clear c21
    try clear c22
    try clear c24
    try clear c25
    try clear c27
    try clear c28
    try clear c29
    try clear hcz10_0
    try clear hcz10_1
    try clear hcz12_0
    try clear hcz12_1
    try clear hcz18_0
    try clear hcz18_1
    try clear hcz23_0
    try clear hcz23_1
    try clear hcz26_0
    try clear hcz26_1
    try clear hcz30_0
    try clear hcz30_1
    try clear hfz10_0
    try clear hfz10_1
    try clear hfz12_0
    try clear hfz12_1
    try clear hfz18_0
    try clear hfz18_1
    try clear hfz23_0
    try clear hfz23_1
    try clear hfz26_0
    try clear hfz26_1
    try clear hfz30_0
    try clear hfz30_1
    obtain ⟨kq, x7_3, rfl, HA, HJ3, BK101, BK102, BK103, BK106, HB⟩ := hcut
    cases kq with
    | zero => exact absurd HA.out (by simp [wide_Times.j0])
    | succ kj3 =>
      have H := HA.out
      clear HA
      simp only [wide_Times.j0] at H
      replace H := Option.bind_eq_some_iff.mp H
      obtain ⟨⟨t107, t108⟩, A310, H⟩ := H
      replace H : ((wide_Mul.f a0_1 a1_0).bind fun bt109 => (wide_Times.l0 kj3 x7_3 0 t107 t108 bt109.1 bt109.2 t104 t105)) = some (r1, r2, r3) := H
      have A31 := Aside0.mk A310
      clear A310
      replace H := Option.bind_eq_some_iff.mp H
      obtain ⟨⟨t109, t110⟩, A320, H⟩ := H
      replace H : (wide_Times.l0 kj3 x7_3 0 t107 t108 t109 t110 t104 t105) = some (r1, r2, r3) := H
      have A32 := Aside0.mk A320
      clear A320
      have H' := Aside0.mk H
      clear H
      try go_wp2
      have n0_ := Aside0.mk (blk_drew BK101.out)
      have n1_ := Aside0.mk (blk_drew BK102.out)
      have n2_ := Aside0.mk (blk_drew BK103.out)
      have n3_ := Aside0.mk (blk_drew BK106.out)
      have n4_ := Aside0.mk (below_drew1 HB.out)
      clear BK101
      clear BK102
      clear BK103
      clear BK106
      clear HB
      have BK101 := n0_
      have BK102 := n1_
      have BK103 := n2_
      have BK106 := n3_
      have HB := n4_
      clear n0_ n1_ n2_ n3_ n4_
      refine start_ (n := 12) (S := fun w' => w'.cell? ⟨gb101, 0, none⟩ = some (.int .u64 a0_0) ∧ w'.cell? ⟨gb101, 1, none⟩ = some (.int .u64 a0_1) ∧ w'.cell? ⟨gb102, 0, none⟩ = some (.int .u64 a1_0) ∧ w'.cell? ⟨gb102, 1, none⟩ = some (.int .u64 a1_1)) (ds := []) #[false, false, false, false, false, false, false, false, false, false, false, false] (by kernel_rfl) rfl rfl ⟨(blk_cell BK101.out 0).trans rfl, (blk_cell BK101.out 1).trans rfl, (blk_cell BK102.out 0).trans rfl, (blk_cell BK102.out 1).trans rfl⟩ (fun hHeld => ?_); refine with_tabW wide_Times.tab3 wide_Times.bits3 (fun HT_ HW_ => ?_)
      generalize wc.drew = w33 at BK101 BK102 BK103 BK106 HB hHeld ⊢
      refine pure_ (i := 0) (N := some 25) (v := ?_) (a' := ?_) #[true, false, false, false, false, false, false, false, false, false, false, false] rfl rfl (any_of HT_.out (by kernel_rfl)) (fun _ _ _ h => h) (Or.inl ⟨by rfl, ?_⟩) ?_ ?_
      rotate_left
      · intro w'
        go_simp
        with_reducible rfl
      rotate_left
      · simp only [Act.put, List.setIfInBounds_toArray, List.set_cons_zero, List.set_cons_succ, i64_w, i32_w]
        rfl
      refine pure_ (i := 2) (N := some 27) (v := ?_) (a' := ?_) #[true, false, true, false, false, false, false, false, false, false, false, false] rfl rfl (any_of HT_.out (by kernel_rfl)) (fun _ _ _ h => h) (Or.inl ⟨by rfl, ?_⟩) ?_ ?_
      rotate_left
      · intro w'
        go_simp
        with_reducible rfl
      rotate_left
      · simp only [Act.put, List.setIfInBounds_toArray, List.set_cons_zero, List.set_cons_succ, i64_w, i32_w]
        rfl
      refine pure_ (i := 5) (N := some 30) (v := ?_) (a' := ?_) #[true, false, true, false, false, true, false, false, false, false, false, false] rfl rfl (any_of HT_.out (by kernel_rfl)) (fun _ _ _ h => h) (Or.inl ⟨by rfl, ?_⟩) ?_ ?_
      rotate_left
      · intro w'
        go_simp
        with_reducible rfl
      rotate_left
      · simp only [Act.put, List.setIfInBounds_toArray, List.set_cons_zero, List.set_cons_succ, i64_w, i32_w]
        rfl
      refine pure_ (i := 7) (N := some 32) (v := ?_) (a' := ?_) #[true, false, true, false, false, true, false, true, false, false, false, false] rfl rfl (any_of HT_.out (by kernel_rfl)) (fun _ _ _ h => h) (Or.inl ⟨by rfl, ?_⟩) ?_ ?_
      rotate_left
      · intro w'
        go_simp
        with_reducible rfl
      rotate_left
      · simp only [Act.put, List.setIfInBounds_toArray, List.set_cons_zero, List.set_cons_succ, i64_w, i32_w]
        rfl
      refine pure_ (i := 11) (N := some 36) (v := ?_) (a' := ?_) #[true, false, true, false, false, true, false, true, false, false, false, true] rfl rfl (any_of HT_.out (by kernel_rfl)) (fun _ _ _ h => h) (Or.inl ⟨by rfl, ?_⟩) ?_ ?_
      rotate_left
      · intro w'
        go_simp
        with_reducible rfl
      rotate_left
      · simp only [Act.put, List.setIfInBounds_toArray, List.set_cons_zero, List.set_cons_succ, i64_w, i32_w]
        rfl
      refine take_ (i := 1) (N := some 26) (v := ?_) (a' := ?_) #[true, true, true, false, false, true, false, true, false, false, false, true] rfl rfl (take_ofW HT_.out HW_.out (by kernel_rfl)) (fun _ _ _ h => h) (Or.inl ⟨by rfl, ?_⟩) hHeld ?_ ?_
      rotate_left
      · rintro w' ⟨s0, s1, s2, s3⟩
        go_simp
        with_reducible rfl
      rotate_left
      · simp only [Act.put, List.setIfInBounds_toArray, List.set_cons_zero, List.set_cons_succ, i64_w, i32_w]
        rfl
      refine take_ (i := 3) (N := some 28) (v := ?_) (a' := ?_) #[true, true, true, true, false, true, false, true, false, false, false, true] rfl rfl (take_ofW HT_.out HW_.out (by kernel_rfl)) (fun _ _ _ h => h) (Or.inl ⟨by rfl, ?_⟩) hHeld ?_ ?_
      rotate_left
      · rintro w' ⟨s0, s1, s2, s3⟩
        go_simp
        with_reducible rfl
      rotate_left
      · simp only [Act.put, List.setIfInBounds_toArray, List.set_cons_zero, List.set_cons_succ, i64_w, i32_w]
        rfl
      refine take_ (i := 6) (N := some 31) (v := ?_) (a' := ?_) #[true, true, true, true, false, true, true, true, false, false, false, true] rfl rfl (take_ofW HT_.out HW_.out (by kernel_rfl)) (fun _ _ _ h => h) (Or.inl ⟨by rfl, ?_⟩) hHeld ?_ ?_
      rotate_left
      · rintro w' ⟨s0, s1, s2, s3⟩
        go_simp
        with_reducible rfl
      rotate_left
      · simp only [Act.put, List.setIfInBounds_toArray, List.set_cons_zero, List.set_cons_succ, i64_w, i32_w]
        rfl
      refine take_ (i := 8) (N := some 33) (v := ?_) (a' := ?_) #[true, true, true, true, false, true, true, true, true, false, false, true] rfl rfl (take_ofW HT_.out HW_.out (by kernel_rfl)) (fun _ _ _ h => h) (Or.inl ⟨by rfl, ?_⟩) hHeld ?_ ?_
      rotate_left
      · rintro w' ⟨s0, s1, s2, s3⟩
        go_simp
        with_reducible rfl
      rotate_left
      · simp only [Act.put, List.setIfInBounds_toArray, List.set_cons_zero, List.set_cons_succ, i64_w, i32_w]
        rfl
      refine one_ (i := 4) (N := some 29) #[true, true, true, true, true, true, true, true, true, false, false, true] rfl rfl (one_of HT_.out (by kernel_rfl)) (by decide) (fun K hK => ?_)
      refine goes_ Try.func49 (by kernel_rfl) rfl #[.int .u64 a0_0, .int .u64 a1_1] (by rfl) rfl rfl (by (try simp only [List.map_toArray, List.map_cons, List.map_nil]); first | done | rfl | (simp only [List.length_drop, List.length_take]; rfl)) ?_
      with_reducible refine (wide_Mul.calls a0_0 a1_1 t107 t108 _ A31.out).mono ?_
      rintro e w34 ⟨rfl, hb⟩
      refine ⟨_, rfl, ?_⟩
      have n0_ := Aside0.mk (blk_below (g := gb101) (o := .cells #[.int .u64 a0_0, .int .u64 a0_1] 35 (0, 0)) (by (with_reducible repeat (first | refine blk_drewN ?_ _ | refine blk_drew ?_ | refine blk_alloc ?_ _)); exact BK101.out) hb)
      have n1_ := Aside0.mk (blk_below (g := gb102) (o := .cells #[.int .u64 a1_0, .int .u64 a1_1] 35 (0, 0)) (by (with_reducible repeat (first | refine blk_drewN ?_ _ | refine blk_drew ?_ | refine blk_alloc ?_ _)); exact BK102.out) hb)
      have n2_ := Aside0.mk (blk_below (g := gb103) (o := .cells #[.int .u64 0, .int .u64 0] 35 (0, 0)) (by (with_reducible repeat (first | refine blk_drewN ?_ _ | refine blk_drew ?_ | refine blk_alloc ?_ _)); exact BK103.out) hb)
      have n3_ := Aside0.mk (blk_below (g := gb106) (o := .cells #[.int .u64 t104, .int .u64 t105] 35 (0, 0)) (by (with_reducible repeat (first | refine blk_drewN ?_ _ | refine blk_drew ?_ | refine blk_alloc ?_ _)); exact BK106.out) hb)
      have n4_ := Aside0.mk (below_step (by repeat (first | (with_reducible first | exact HB.out | apply below_alloc | apply pw_below_drewN | apply below_drew1 | refine below_set ?_ GE101.out | refine below_set ?_ GE102.out | refine below_set ?_ GE103.out | refine below_set ?_ GE106.out) | exact HB.out)) hb)
      clear BK101
      clear BK102
      clear BK103
      clear BK106
      clear HB
      have BK101 := n0_
      have BK102 := n1_
      have BK103 := n2_
      have BK106 := n3_
      have HB := n4_
      clear n0_ n1_ n2_ n3_ n4_
      (try clear hb)
      (try clear hb2)
      (try clear hk)
      (try clear hi)
      refine hK.out _ _ ⟨(blk_cell BK101.out 0).trans rfl, (blk_cell BK101.out 1).trans rfl, (blk_cell BK102.out 0).trans rfl, (blk_cell BK102.out 1).trans rfl⟩ (fun hHeld => ?_)
      clear hK K
      refine norm_ (a' := ?_) ?_ ?_
      rotate_left
      · show Act.put _ (some 29) _ = _
        simp only [Act.put, List.setIfInBounds_toArray, List.set_cons_zero, List.set_cons_succ, i64_w, i32_w]
        rfl
      refine one_ (i := 9) (N := some 34) #[true, true, true, true, true, true, true, true, true, true, false, true] rfl rfl (one_of HT_.out (by kernel_rfl)) (by decide) (fun K hK => ?_)
      refine goes_ Try.func49 (by kernel_rfl) rfl #[.int .u64 a0_1, .int .u64 a1_0] (by rfl) rfl rfl (by (try simp only [List.map_toArray, List.map_cons, List.map_nil]); first | done | rfl | (simp only [List.length_drop, List.length_take]; rfl)) ?_
      with_reducible refine (wide_Mul.calls a0_1 a1_0 t109 t110 _ A32.out).mono ?_
      rintro e w35 ⟨rfl, hb⟩
      refine ⟨_, rfl, ?_⟩
      have n0_ := Aside0.mk (blk_below (g := gb101) (o := .cells #[.int .u64 a0_0, .int .u64 a0_1] 35 (0, 0)) (by (with_reducible repeat (first | refine blk_drewN ?_ _ | refine blk_drew ?_ | refine blk_alloc ?_ _)); exact BK101.out) hb)
      have n1_ := Aside0.mk (blk_below (g := gb102) (o := .cells #[.int .u64 a1_0, .int .u64 a1_1] 35 (0, 0)) (by (with_reducible repeat (first | refine blk_drewN ?_ _ | refine blk_drew ?_ | refine blk_alloc ?_ _)); exact BK102.out) hb)
      have n2_ := Aside0.mk (blk_below (g := gb103) (o := .cells #[.int .u64 0, .int .u64 0] 35 (0, 0)) (by (with_reducible repeat (first | refine blk_drewN ?_ _ | refine blk_drew ?_ | refine blk_alloc ?_ _)); exact BK103.out) hb)
      have n3_ := Aside0.mk (blk_below (g := gb106) (o := .cells #[.int .u64 t104, .int .u64 t105] 35 (0, 0)) (by (with_reducible repeat (first | refine blk_drewN ?_ _ | refine blk_drew ?_ | refine blk_alloc ?_ _)); exact BK106.out) hb)
      have n4_ := Aside0.mk (below_step (by repeat (first | (with_reducible first | exact HB.out | apply below_alloc | apply pw_below_drewN | apply below_drew1 | refine below_set ?_ GE101.out | refine below_set ?_ GE102.out | refine below_set ?_ GE103.out | refine below_set ?_ GE106.out) | exact HB.out)) hb)
      clear BK101
      clear BK102
      clear BK103
      clear BK106
      clear HB
      have BK101 := n0_
      have BK102 := n1_
      have BK103 := n2_
      have BK106 := n3_
      have HB := n4_
      clear n0_ n1_ n2_ n3_ n4_
      (try clear hb)
      (try clear hb2)
      (try clear hk)
      (try clear hi)
      refine hK.out _ _ ⟨(blk_cell BK101.out 0).trans rfl, (blk_cell BK101.out 1).trans rfl, (blk_cell BK102.out 0).trans rfl, (blk_cell BK102.out 1).trans rfl⟩ (fun hHeld => ?_)
      clear hK K
      refine norm_ (a' := ?_) ?_ ?_
      rotate_left
      · show Act.put _ (some 34) _ = _
        simp only [Act.put, List.setIfInBounds_toArray, List.set_cons_zero, List.set_cons_succ, i64_w, i32_w]
        rfl
      refine pure_ (i := 10) (N := some 35) (v := ?_) (a' := ?_) #[true, true, true, true, true, true, true, true, true, true, true, true] rfl rfl (any_of HT_.out (by kernel_rfl)) (fun _ _ _ h => h) (Or.inl ⟨by rfl, ?_⟩) ?_ ?_
      rotate_left
      · intro w'
        go_simp
        with_reducible rfl
      rotate_left
      · simp only [Act.put, List.setIfInBounds_toArray, List.set_cons_zero, List.set_cons_succ, i64_w, i32_w]
        rfl
      refine done_ (done_of HT_.out (by kernel_rfl)) ?_
      try go_wp2
      go_loopg [7, 36] kj3 (fun kq v7 v36 w' => ∃ (x7_2 : Bool) (x36_2 : Int) (x107000_2 : Int), v7 = .bool x7_2 ∧ v36 = .int .i64 x36_2 ∧ Aside0 (wide_Times.l0 kq x7_2 x36_2 t107 t108 t109 t110 x107000_2 t105 = some (r1, r2, r3)) ∧ Aside0 (kq ≤ kj3) ∧ Aside0 (w'.heap[gb101]? = some (.cells #[.int .u64 a0_0, .int .u64 a0_1] 35 (0, 0))) ∧ Aside0 (w'.heap[gb102]? = some (.cells #[.int .u64 a1_0, .int .u64 a1_1] 35 (0, 0))) ∧ Aside0 (w'.heap[gb103]? = some (.cells #[.int .u64 0, .int .u64 0] 35 (0, 0))) ∧ Aside0 (w'.heap[gb106]? = some (.cells #[.int .u64 x107000_2, .int .u64 t105] 35 (0, 0))) ∧ Aside0 (Below w.heap.size w w'))
      case atStart => exact ⟨(x7_3), (0), (t104), (by first | rfl | (simp; done) | (simp [*]; done)), (by first | rfl | (simp; done) | (simp [*]; done)), H', ⟨Nat.le_refl _⟩, ⟨by (with_reducible repeat (first | refine blk_drewN ?_ _ | refine blk_drew ?_ | refine blk_alloc ?_ _)); exact BK101.out⟩, ⟨by (with_reducible repeat (first | refine blk_drewN ?_ _ | refine blk_drew ?_ | refine blk_alloc ?_ _)); exact BK102.out⟩, ⟨by (with_reducible repeat (first | refine blk_drewN ?_ _ | refine blk_drew ?_ | refine blk_alloc ?_ _)); exact BK103.out⟩, ⟨by (with_reducible repeat (first | refine blk_drewN ?_ _ | refine blk_drew ?_ | refine blk_alloc ?_ _)); exact BK106.out⟩, ⟨by repeat (first | (with_reducible first | exact HB.out | apply below_alloc | apply pw_below_drewN | apply below_drew1 | refine below_set ?_ GE101.out | refine below_set ?_ GE102.out | refine below_set ?_ GE103.out | refine below_set ?_ GE106.out) | exact HB.out)⟩⟩
      case round =>
        clear H'
        try clear c1
        try clear c2
        try clear p2
        try clear c4
        try clear c5
        try clear c8
        try clear c9
        try clear c11
        try clear c15
        try clear c16
        try clear c17
        try clear c19
        try clear c19b0
        try clear c20
        try clear c21
        try clear c22
        try clear c24
        try clear c25
        try clear c27
        try clear c28
        try clear c29
        try clear hcz10_0
        try clear hcz10_1
        try clear hcz12_0
        try clear hcz12_1
        try clear hcz18_0
        try clear hcz18_1
        try clear hcz23_0
        try clear hcz23_1
        try clear hcz26_0
        try clear hcz26_1
        try clear hcz30_0
        try clear hcz30_1
        try clear hfz10_0
        try clear hfz10_1
        try clear hfz12_0
        try clear hfz12_1
        try clear hfz18_0
        try clear hfz18_1
        try clear hfz23_0
        try clear hfz23_1
        try clear hfz26_0
        try clear hfz26_1
        try clear hfz30_0
        try clear hfz30_1
        try clear p2
        obtain ⟨x7_2, x36_2, x107000_2, rfl, rfl, HA, HK2, BK101, BK102, BK103, BK106, HB⟩ := hrel
        cases gk with
        | zero => exact absurd HA.out (by simp [wide_Times.l0])
        | succ k2 =>
          have H := HA.out
          clear HA
          simp only [wide_Times.l0] at H
          by_cases c36 : x36_2 < 2
          · rw [if_pos c36] at H
            have c36b0 : decide (x36_2 < 2) = true := decide_eq_true c36
            clear c36
            by_cases c37 : x36_2 = 0
            · subst c37
              have H1 : (if x7_2 = true then (wide_Times.l0 k2 true 1 t107 t108 t109 t110 (a64lo x107000_2 t108 0) t105) else (if (a64hi x107000_2 t108 0) > 0 then (wide_Times.l0 k2 true 1 t107 t108 t109 t110 (a64lo x107000_2 t108 0) t105) else (wide_Times.l0 k2 (decide (t107 > 0)) 1 t107 t108 t109 t110 (a64lo x107000_2 t108 0) t105))) = some (r1, r2, r3) := by rw [if_pos rfl] at H; exact H
              clear H
              have H := H1
              clear H1
              by_cases c38 : x7_2 = true
              · subst c38
                have H1 : (wide_Times.l0 k2 true 1 t107 t108 t109 t110 (a64lo x107000_2 t108 0) t105) = some (r1, r2, r3) := by rw [if_pos rfl] at H; exact H
                clear H
                have H := H1
                clear H1
                have H' := Aside0.mk H
                clear H
                try go_wp2_with (first | ((with_reducible refine gate_dst (N := 9) rfl ?_); refine box_event ?hg (N := 9) ?hd (cs := #[.int .u64 0, .int .u64 0]) (t := 35) ?hr ?_; (case hd => rfl); (case hg => rfl); (case hr => first | (go_simp; done) | (go_simp; rfl)); intro gb111 hg w39 hbox hb; have n0_ := Aside0.mk (blk_below (g := gb101) (o := .cells #[.int .u64 a0_0, .int .u64 a0_1] 35 (0, 0)) (by (with_reducible repeat (first | refine blk_drewN ?_ _ | refine blk_drew ?_ | refine blk_alloc ?_ _)); exact BK101.out) hb); have n1_ := Aside0.mk (blk_below (g := gb102) (o := .cells #[.int .u64 a1_0, .int .u64 a1_1] 35 (0, 0)) (by (with_reducible repeat (first | refine blk_drewN ?_ _ | refine blk_drew ?_ | refine blk_alloc ?_ _)); exact BK102.out) hb); have n2_ := Aside0.mk (blk_below (g := gb103) (o := .cells #[.int .u64 0, .int .u64 0] 35 (0, 0)) (by (with_reducible repeat (first | refine blk_drewN ?_ _ | refine blk_drew ?_ | refine blk_alloc ?_ _)); exact BK103.out) hb); have n3_ := Aside0.mk (blk_below (g := gb106) (o := .cells #[.int .u64 x107000_2, .int .u64 t105] 35 (0, 0)) (by (with_reducible repeat (first | refine blk_drewN ?_ _ | refine blk_drew ?_ | refine blk_alloc ?_ _)); exact BK106.out) hb); have n4_ := Aside0.mk (below_step (by repeat (first | (with_reducible first | exact HB.out | apply below_alloc | apply pw_below_drewN | apply below_drew1 | refine below_set ?_ GE101.out | refine below_set ?_ GE102.out | refine below_set ?_ GE103.out | refine below_set ?_ GE106.out) | exact HB.out)) hb); have n5_ := Aside0.mk (hbox); have n6_ := Aside0.mk ((by rw [hg]; exact (below_size (by repeat (first | (with_reducible first | exact HB.out | apply below_alloc | apply pw_below_drewN | apply below_drew1 | refine below_set ?_ GE101.out | refine below_set ?_ GE102.out | refine below_set ?_ GE103.out | refine below_set ?_ GE106.out) | exact HB.out))) : w.heap.size ≤ gb111)); have n7_ := Aside0.mk ((by rw [hg]; exact (below_size (by repeat (first | (with_reducible first | exact HB.out | apply below_alloc | apply pw_below_drewN | apply below_drew1 | refine below_set ?_ GE101.out | refine below_set ?_ GE102.out | refine below_set ?_ GE103.out | refine below_set ?_ GE106.out) | exact HB.out))) : w.heap.size ≤ gb111)); have n8_ := Aside0.mk ((by rw [hg]; exact Nat.ne_of_lt (blk_lt (g := gb101) (o := .cells #[.int .u64 a0_0, .int .u64 a0_1] 35 (0, 0)) (by (with_reducible repeat (first | refine blk_drewN ?_ _ | refine blk_drew ?_ | refine blk_alloc ?_ _)); exact BK101.out)) : gb101 ≠ gb111)); have n9_ := Aside0.mk ((by rw [hg]; exact Nat.ne_of_gt (blk_lt (g := gb101) (o := .cells #[.int .u64 a0_0, .int .u64 a0_1] 35 (0, 0)) (by (with_reducible repeat (first | refine blk_drewN ?_ _ | refine blk_drew ?_ | refine blk_alloc ?_ _)); exact BK101.out)) : gb111 ≠ gb101)); have n10_ := Aside0.mk ((by rw [hg]; exact Nat.ne_of_lt (blk_lt (g := gb102) (o := .cells #[.int .u64 a1_0, .int .u64 a1_1] 35 (0, 0)) (by (with_reducible repeat (first | refine blk_drewN ?_ _ | refine blk_drew ?_ | refine blk_alloc ?_ _)); exact BK102.out)) : gb102 ≠ gb111)); have n11_ := Aside0.mk ((by rw [hg]; exact Nat.ne_of_gt (blk_lt (g := gb102) (o := .cells #[.int .u64 a1_0, .int .u64 a1_1] 35 (0, 0)) (by (with_reducible repeat (first | refine blk_drewN ?_ _ | refine blk_drew ?_ | refine blk_alloc ?_ _)); exact BK102.out)) : gb111 ≠ gb102)); have n12_ := Aside0.mk ((by rw [hg]; exact Nat.ne_of_lt (blk_lt (g := gb103) (o := .cells #[.int .u64 0, .int .u64 0] 35 (0, 0)) (by (with_reducible repeat (first | refine blk_drewN ?_ _ | refine blk_drew ?_ | refine blk_alloc ?_ _)); exact BK103.out)) : gb103 ≠ gb111)); have n13_ := Aside0.mk ((by rw [hg]; exact Nat.ne_of_gt (blk_lt (g := gb103) (o := .cells #[.int .u64 0, .int .u64 0] 35 (0, 0)) (by (with_reducible repeat (first | refine blk_drewN ?_ _ | refine blk_drew ?_ | refine blk_alloc ?_ _)); exact BK103.out)) : gb111 ≠ gb103)); have n14_ := Aside0.mk ((by rw [hg]; exact Nat.ne_of_lt (blk_lt (g := gb106) (o := .cells #[.int .u64 x107000_2, .int .u64 t105] 35 (0, 0)) (by (with_reducible repeat (first | refine blk_drewN ?_ _ | refine blk_drew ?_ | refine blk_alloc ?_ _)); exact BK106.out)) : gb106 ≠ gb111)); have n15_ := Aside0.mk ((by rw [hg]; exact Nat.ne_of_gt (blk_lt (g := gb106) (o := .cells #[.int .u64 x107000_2, .int .u64 t105] 35 (0, 0)) (by (with_reducible repeat (first | refine blk_drewN ?_ _ | refine blk_drew ?_ | refine blk_alloc ?_ _)); exact BK106.out)) : gb111 ≠ gb106)); clear BK101; clear BK102; clear BK103; clear BK106; clear HB; have BK101 := n0_; have BK102 := n1_; have BK103 := n2_; have BK106 := n3_; have HB := n4_; have BK111 := n5_; have GW111 := n6_; have GE111 := n7_; have NB101_111 := n8_; have NB111_101 := n9_; have NB102_111 := n10_; have NB111_102 := n11_; have NB103_111 := n12_; have NB111_103 := n13_; have NB106_111 := n14_; have NB111_106 := n15_; clear n0_ n1_ n2_ n3_ n4_ n5_ n6_ n7_ n8_ n9_ n10_ n11_ n12_ n13_ n14_ n15_; clear hb hbox hg; have hnb40 := NB111_101.out; have hnc40 := NB101_111.out; have hnb41 := NB111_102.out; have hnc41 := NB102_111.out; have hnb42 := NB111_103.out; have hnc42 := NB103_111.out; have hnb43 := NB111_106.out; have hnc43 := NB106_111.out; have hcz44_0 : w39.cell? ⟨gb111, 0, none⟩ = some (.int .u64 0) := (blk_cell BK111.out 0).trans rfl; have hcz44_1 : w39.cell? ⟨gb111, 1, none⟩ = some (.int .u64 0) := (blk_cell BK111.out 1).trans rfl; have hfz44_0 := blk_frozen BK111.out 0; have hfz44_1 := blk_frozen BK111.out 1; have hnb45 := NB106_101.out; have hnc45 := NB101_106.out; have hnb46 := NB106_102.out; have hnc46 := NB102_106.out; have hnb47 := NB106_103.out; have hnc47 := NB103_106.out; have hcz48_0 : w39.cell? ⟨gb106, 0, none⟩ = some (.int .u64 x107000_2) := (blk_cell BK106.out 0).trans rfl; have hcz48_1 : w39.cell? ⟨gb106, 1, none⟩ = some (.int .u64 t105) := (blk_cell BK106.out 1).trans rfl; have hfz48_0 := blk_frozen BK106.out 0; have hfz48_1 := blk_frozen BK106.out 1))
                have n0_ : Aside0 (((w39.setCell ⟨gb111, 0, none⟩ (.int .u64 t107)).setCell ⟨gb111, 1, none⟩ (.int .u64 t108)).heap[gb101]? = some (.cells #[.int .u64 a0_0, .int .u64 a0_1] 35 (0, 0))) := ⟨by (with_reducible repeat (first | refine blk_drewN ?_ _ | refine blk_drew ?_ | refine blk_alloc ?_ _)); refine blk_far ?_ NB101_111.out _; (with_reducible repeat (first | refine blk_drewN ?_ _ | refine blk_drew ?_ | refine blk_alloc ?_ _)); refine blk_far ?_ NB101_111.out _; (with_reducible repeat (first | refine blk_drewN ?_ _ | refine blk_drew ?_ | refine blk_alloc ?_ _)); exact BK101.out⟩
                have n1_ : Aside0 (((w39.setCell ⟨gb111, 0, none⟩ (.int .u64 t107)).setCell ⟨gb111, 1, none⟩ (.int .u64 t108)).heap[gb102]? = some (.cells #[.int .u64 a1_0, .int .u64 a1_1] 35 (0, 0))) := ⟨by (with_reducible repeat (first | refine blk_drewN ?_ _ | refine blk_drew ?_ | refine blk_alloc ?_ _)); refine blk_far ?_ NB102_111.out _; (with_reducible repeat (first | refine blk_drewN ?_ _ | refine blk_drew ?_ | refine blk_alloc ?_ _)); refine blk_far ?_ NB102_111.out _; (with_reducible repeat (first | refine blk_drewN ?_ _ | refine blk_drew ?_ | refine blk_alloc ?_ _)); exact BK102.out⟩
                have n2_ : Aside0 (((w39.setCell ⟨gb111, 0, none⟩ (.int .u64 t107)).setCell ⟨gb111, 1, none⟩ (.int .u64 t108)).heap[gb103]? = some (.cells #[.int .u64 0, .int .u64 0] 35 (0, 0))) := ⟨by (with_reducible repeat (first | refine blk_drewN ?_ _ | refine blk_drew ?_ | refine blk_alloc ?_ _)); refine blk_far ?_ NB103_111.out _; (with_reducible repeat (first | refine blk_drewN ?_ _ | refine blk_drew ?_ | refine blk_alloc ?_ _)); refine blk_far ?_ NB103_111.out _; (with_reducible repeat (first | refine blk_drewN ?_ _ | refine blk_drew ?_ | refine blk_alloc ?_ _)); exact BK103.out⟩
                have n3_ : Aside0 (((w39.setCell ⟨gb111, 0, none⟩ (.int .u64 t107)).setCell ⟨gb111, 1, none⟩ (.int .u64 t108)).heap[gb106]? = some (.cells #[.int .u64 x107000_2, .int .u64 t105] 35 (0, 0))) := ⟨by (with_reducible repeat (first | refine blk_drewN ?_ _ | refine blk_drew ?_ | refine blk_alloc ?_ _)); refine blk_far ?_ NB106_111.out _; (with_reducible repeat (first | refine blk_drewN ?_ _ | refine blk_drew ?_ | refine blk_alloc ?_ _)); refine blk_far ?_ NB106_111.out _; (with_reducible repeat (first | refine blk_drewN ?_ _ | refine blk_drew ?_ | refine blk_alloc ?_ _)); exact BK106.out⟩
                have n4_ : Aside0 (((w39.setCell ⟨gb111, 0, none⟩ (.int .u64 t107)).setCell ⟨gb111, 1, none⟩ (.int .u64 t108)).heap[gb111]? = some (.cells #[.int .u64 t107, .int .u64 t108] 35 (0, 0))) := ⟨by (with_reducible repeat (first | refine blk_drewN ?_ _ | refine blk_drew ?_ | refine blk_alloc ?_ _)); refine blk_put (cs := #[.int .u64 t107, .int .u64 0]) ?_ 1 _ rfl; (with_reducible repeat (first | refine blk_drewN ?_ _ | refine blk_drew ?_ | refine blk_alloc ?_ _)); refine blk_put (cs := #[.int .u64 0, .int .u64 0]) ?_ 0 _ rfl; (with_reducible repeat (first | refine blk_drewN ?_ _ | refine blk_drew ?_ | refine blk_alloc ?_ _)); exact BK111.out⟩
                have n5_ : Aside0 (Below w.heap.size w ((w39.setCell ⟨gb111, 0, none⟩ (.int .u64 t107)).setCell ⟨gb111, 1, none⟩ (.int .u64 t108))) := ⟨by repeat (first | (with_reducible first | exact HB.out | apply below_alloc | apply pw_below_drewN | apply below_drew1 | refine below_set ?_ GE101.out | refine below_set ?_ GE102.out | refine below_set ?_ GE103.out | refine below_set ?_ GE106.out | refine below_set ?_ GE111.out) | exact HB.out)⟩
                (try clear BK101)
                (try clear BK102)
                (try clear BK103)
                (try clear BK106)
                (try clear BK111)
                (try clear HB)
                generalize ((w39.setCell ⟨gb111, 0, none⟩ (.int .u64 t107)).setCell ⟨gb111, 1, none⟩ (.int .u64 t108)) = w49 at n0_ n1_ n2_ n3_ n4_ n5_ ⊢
                have BK101 := n0_
                have BK102 := n1_
                have BK103 := n2_
                have BK106 := n3_
                have BK111 := n4_
                have HB := n5_
                clear n0_ n1_ n2_ n3_ n4_ n5_
                have n0_ := Aside0.mk (blk_drew BK101.out)
                have n1_ := Aside0.mk (blk_drew BK102.out)
                have n2_ := Aside0.mk (blk_drew BK103.out)
                have n3_ := Aside0.mk (blk_drew BK106.out)
                have n4_ := Aside0.mk (blk_drew BK111.out)
                have n5_ := Aside0.mk (below_drew1 HB.out)
                clear BK101
                clear BK102
                clear BK103
                clear BK106
                clear BK111
                clear HB
                have BK101 := n0_
                have BK102 := n1_
                have BK103 := n2_
                have BK106 := n3_
                have BK111 := n4_
                have HB := n5_
                clear n0_ n1_ n2_ n3_ n4_ n5_
                refine start_ (n := 14) (S := fun w' => True) (ds := []) #[false, false, false, false, false, false, false, false, false, false, false, false, false, false] (by kernel_rfl) rfl rfl trivial (fun hHeld => ?_); refine with_tabW wide_Times.tab7 wide_Times.bits7 (fun HT_ HW_ => ?_)
                generalize w49.drew = w50 at BK101 BK102 BK103 BK106 BK111 HB hHeld ⊢
                refine pure_ (i := 0) (N := some 47) (v := ?_) (a' := ?_) #[true, false, false, false, false, false, false, false, false, false, false, false, false, false] rfl rfl (any_of HT_.out (by kernel_rfl)) (fun _ _ _ h => h) (Or.inl ⟨by rfl, ?_⟩) ?_ ?_
                rotate_left
                · intro w'
                  go_simp
                  with_reducible rfl
                rotate_left
                · simp only [Act.put, List.setIfInBounds_toArray, List.set_cons_zero, List.set_cons_succ, i64_w, i32_w]
                  rfl
                refine pure_ (i := 1) (N := some 48) (v := ?_) (a' := ?_) #[true, true, false, false, false, false, false, false, false, false, false, false, false, false] rfl rfl (any_of HT_.out (by kernel_rfl)) (fun _ _ _ h => h) (Or.inl ⟨by rfl, ?_⟩) ?_ ?_
                rotate_left
                · intro w'
                  go_simp
                  with_reducible rfl
                rotate_left
                · simp only [Act.put, List.setIfInBounds_toArray, List.set_cons_zero, List.set_cons_succ, i64_w, i32_w]
                  rfl
                refine pure_ (i := 2) (N := some 49) (v := ?_) (a' := ?_) #[true, true, true, false, false, false, false, false, false, false, false, false, false, false] rfl rfl (any_of HT_.out (by kernel_rfl)) (fun _ _ _ h => h) (Or.inl ⟨by rfl, ?_⟩) ?_ ?_
                rotate_left
                · intro w'
                  go_simp
                  with_reducible rfl
                rotate_left
                · simp only [Act.put, List.setIfInBounds_toArray, List.set_cons_zero, List.set_cons_succ, i64_w, i32_w]
                  rfl
                refine pure_ (i := 3) (N := some 50) (v := undef) (a' := ?_) #[true, true, true, true, false, false, false, false, false, false, false, false, false, false] rfl rfl (any_of HT_.out (by kernel_rfl)) (fun _ _ _ h => h) (Or.inr ⟨by rfl, rfl⟩) ?_ ?_
                rotate_left
                · simp only [Act.put, List.setIfInBounds_toArray, List.set_cons_zero, List.set_cons_succ, i64_w, i32_w]
                  rfl
                refine pure_ (i := 4) (N := some 51) (v := undef) (a' := ?_) #[true, true, true, true, true, false, false, false, false, false, false, false, false, false] rfl rfl (any_of HT_.out (by kernel_rfl)) (fun _ _ _ h => h) (Or.inr ⟨by rfl, rfl⟩) ?_ ?_
                rotate_left
                · simp only [Act.put, List.setIfInBounds_toArray, List.set_cons_zero, List.set_cons_succ, i64_w, i32_w]
                  rfl
                refine pure_ (i := 5) (N := some 52) (v := ?_) (a' := ?_) #[true, true, true, true, true, true, false, false, false, false, false, false, false, false] rfl rfl (any_of HT_.out (by kernel_rfl)) (fun _ _ _ h => h) (Or.inl ⟨by rfl, ?_⟩) ?_ ?_
                rotate_left
                · intro w'
                  go_simp
                  with_reducible rfl
                rotate_left
                · simp only [Act.put, List.setIfInBounds_toArray, List.set_cons_zero, List.set_cons_succ, i64_w, i32_w]
                  rfl
                refine pure_ (i := 6) (N := some 53) (v := ?_) (a' := ?_) #[true, true, true, true, true, true, true, false, false, false, false, false, false, false] rfl rfl (any_of HT_.out (by kernel_rfl)) (fun _ _ _ h => h) (Or.inl ⟨by rfl, ?_⟩) ?_ ?_
                rotate_left
                · intro w'
                  go_simp
                  with_reducible rfl
                rotate_left
                · simp only [Act.put, List.setIfInBounds_toArray, List.set_cons_zero, List.set_cons_succ, i64_w, i32_w]
                  rfl
                refine pure_ (i := 7) (N := some 54) (v := undef) (a' := ?_) #[true, true, true, true, true, true, true, true, false, false, false, false, false, false] rfl rfl (any_of HT_.out (by kernel_rfl)) (fun _ _ _ h => h) (Or.inr ⟨by rfl, rfl⟩) ?_ ?_
                rotate_left
                · simp only [Act.put, List.setIfInBounds_toArray, List.set_cons_zero, List.set_cons_succ, i64_w, i32_w]
                  rfl
                refine pure_ (i := 8) (N := some 55) (v := undef) (a' := ?_) #[true, true, true, true, true, true, true, true, true, false, false, false, false, false] rfl rfl (any_of HT_.out (by kernel_rfl)) (fun _ _ _ h => h) (Or.inr ⟨by rfl, rfl⟩) ?_ ?_
                rotate_left
                · simp only [Act.put, List.setIfInBounds_toArray, List.set_cons_zero, List.set_cons_succ, i64_w, i32_w]
                  rfl
                refine pure_ (i := 9) (N := some 56) (v := undef) (a' := ?_) #[true, true, true, true, true, true, true, true, true, true, false, false, false, false] rfl rfl (any_of HT_.out (by kernel_rfl)) (fun _ _ _ h => h) (Or.inr ⟨by rfl, rfl⟩) ?_ ?_
                rotate_left
                · simp only [Act.put, List.setIfInBounds_toArray, List.set_cons_zero, List.set_cons_succ, i64_w, i32_w]
                  rfl
                refine pure_ (i := 10) (N := some 57) (v := ?_) (a' := ?_) #[true, true, true, true, true, true, true, true, true, true, true, false, false, false] rfl rfl (any_of HT_.out (by kernel_rfl)) (fun _ _ _ h => h) (Or.inl ⟨by rfl, ?_⟩) ?_ ?_
                rotate_left
                · intro w'
                  go_simp
                  with_reducible rfl
                rotate_left
                · simp only [Act.put, List.setIfInBounds_toArray, List.set_cons_zero, List.set_cons_succ, i64_w, i32_w]
                  rfl
                refine pure_ (i := 11) (N := some 58) (v := ?_) (a' := ?_) #[true, true, true, true, true, true, true, true, true, true, true, true, false, false] rfl rfl (any_of HT_.out (by kernel_rfl)) (fun _ _ _ h => h) (Or.inl ⟨by rfl, ?_⟩) ?_ ?_
                rotate_left
                · intro w'
                  go_simp
                  with_reducible rfl
                rotate_left
                · simp only [Act.put, List.setIfInBounds_toArray, List.set_cons_zero, List.set_cons_succ, i64_w, i32_w]
                  rfl
                refine one_ (i := 12) (N := none) #[true, true, true, true, true, true, true, true, true, true, true, true, true, false] rfl rfl (one_of HT_.out (by kernel_rfl)) (by decide) (fun K hK => ?_)
                have hs51 : w50.cell? ⟨gb106, 0, none⟩ = some (.int .u64 x107000_2) := (blk_cell BK106.out 0).trans rfl
                have hfs51 := blk_frozen BK106.out 0
                have hns51_0 := NB101_106.out
                have hns51_1 := NB102_106.out
                have hns51_2 := NB103_106.out
                have hns51_4 := NB111_106.out
                have hms51_0 := NB106_101.out
                have hms51_1 := NB106_102.out
                have hms51_2 := NB106_103.out
                have hms51_4 := NB106_111.out
                refine skip_ (w1 := ?_) (by rfl) rfl ?_ ?_
                rotate_left
                · go_simp
                  rfl
                refine hK.out _ _ trivial (fun hHeld => ?_)
                clear hK K
                refine pure_ (i := 13) (N := some 7) (v := ?_) (a' := ?_) #[true, true, true, true, true, true, true, true, true, true, true, true, true, true] rfl rfl (any_of HT_.out (by kernel_rfl)) (fun _ _ _ h => h) (Or.inl ⟨by rfl, ?_⟩) ?_ ?_
                rotate_left
                · intro w'
                  go_simp
                  with_reducible rfl
                rotate_left
                · simp only [Act.put, List.setIfInBounds_toArray, List.set_cons_zero, List.set_cons_succ, i64_w, i32_w]
                  rfl
                refine done_ (done_of HT_.out (by kernel_rfl)) ?_
                try go_wp2
                go_roundg k2
                case measure => have := HJ3.out; have := HK2.out; omega
                case rel => exact ⟨(true), (1), (a64lo x107000_2 t108 0), (by first | rfl | (simp; done) | (simp [*]; done)), (by first | rfl | (simp; done) | (simp [*]; done)), H', ⟨by have := HJ3.out; have := HK2.out; omega⟩, ⟨by (with_reducible repeat (first | refine blk_drewN ?_ _ | refine blk_drew ?_ | refine blk_alloc ?_ _)); refine blk_far ?_ NB101_106.out _; (with_reducible repeat (first | refine blk_drewN ?_ _ | refine blk_drew ?_ | refine blk_alloc ?_ _)); exact BK101.out⟩, ⟨by (with_reducible repeat (first | refine blk_drewN ?_ _ | refine blk_drew ?_ | refine blk_alloc ?_ _)); refine blk_far ?_ NB102_106.out _; (with_reducible repeat (first | refine blk_drewN ?_ _ | refine blk_drew ?_ | refine blk_alloc ?_ _)); exact BK102.out⟩, ⟨by (with_reducible repeat (first | refine blk_drewN ?_ _ | refine blk_drew ?_ | refine blk_alloc ?_ _)); refine blk_far ?_ NB103_106.out _; (with_reducible repeat (first | refine blk_drewN ?_ _ | refine blk_drew ?_ | refine blk_alloc ?_ _)); exact BK103.out⟩, ⟨by (with_reducible repeat (first | refine blk_drewN ?_ _ | refine blk_drew ?_ | refine blk_alloc ?_ _)); refine blk_put (cs := #[.int .u64 x107000_2, .int .u64 t105]) ?_ 0 _ rfl; (with_reducible repeat (first | refine blk_drewN ?_ _ | refine blk_drew ?_ | refine blk_alloc ?_ _)); exact BK106.out⟩, ⟨by repeat (first | (with_reducible first | exact HB.out | apply below_alloc | apply pw_below_drewN | apply below_drew1 | refine below_set ?_ GE101.out | refine below_set ?_ GE102.out | refine below_set ?_ GE103.out | refine below_set ?_ GE106.out | refine below_set ?_ GE111.out) | exact HB.out)⟩⟩
              · replace c38 := Bool.eq_false_iff.mpr c38
                subst c38
                have H1 : (if (a64hi x107000_2 t108 0) > 0 then (wide_Times.l0 k2 true 1 t107 t108 t109 t110 (a64lo x107000_2 t108 0) t105) else (wide_Times.l0 k2 (decide (t107 > 0)) 1 t107 t108 t109 t110 (a64lo x107000_2 t108 0) t105)) = some (r1, r2, r3) := by rw [if_neg (show ¬ (false = true) by decide)] at H; exact H
                clear H
                have H := H1
                clear H1
                by_cases c52 : (a64hi x107000_2 t108 0) > 0
                · rw [if_pos c52] at H
                  have c52b0 : decide (0 < (a64hi x107000_2 t108 0)) = true := decide_eq_true c52
                  clear c52
                  have H' := Aside0.mk H
                  clear H
                  try go_wp2_with (first | ((with_reducible refine gate_dst (N := 9) rfl ?_); refine box_event ?hg (N := 9) ?hd (cs := #[.int .u64 0, .int .u64 0]) (t := 35) ?hr ?_; (case hd => rfl); (case hg => rfl); (case hr => first | (go_simp; done) | (go_simp; rfl)); intro gb111 hg w53 hbox hb; have n0_ := Aside0.mk (blk_below (g := gb101) (o := .cells #[.int .u64 a0_0, .int .u64 a0_1] 35 (0, 0)) (by (with_reducible repeat (first | refine blk_drewN ?_ _ | refine blk_drew ?_ | refine blk_alloc ?_ _)); exact BK101.out) hb); have n1_ := Aside0.mk (blk_below (g := gb102) (o := .cells #[.int .u64 a1_0, .int .u64 a1_1] 35 (0, 0)) (by (with_reducible repeat (first | refine blk_drewN ?_ _ | refine blk_drew ?_ | refine blk_alloc ?_ _)); exact BK102.out) hb); have n2_ := Aside0.mk (blk_below (g := gb103) (o := .cells #[.int .u64 0, .int .u64 0] 35 (0, 0)) (by (with_reducible repeat (first | refine blk_drewN ?_ _ | refine blk_drew ?_ | refine blk_alloc ?_ _)); exact BK103.out) hb); have n3_ := Aside0.mk (blk_below (g := gb106) (o := .cells #[.int .u64 x107000_2, .int .u64 t105] 35 (0, 0)) (by (with_reducible repeat (first | refine blk_drewN ?_ _ | refine blk_drew ?_ | refine blk_alloc ?_ _)); exact BK106.out) hb); have n4_ := Aside0.mk (below_step (by repeat (first | (with_reducible first | exact HB.out | apply below_alloc | apply pw_below_drewN | apply below_drew1 | refine below_set ?_ GE101.out | refine below_set ?_ GE102.out | refine below_set ?_ GE103.out | refine below_set ?_ GE106.out) | exact HB.out)) hb); have n5_ := Aside0.mk (hbox); have n6_ := Aside0.mk ((by rw [hg]; exact (below_size (by repeat (first | (with_reducible first | exact HB.out | apply below_alloc | apply pw_below_drewN | apply below_drew1 | refine below_set ?_ GE101.out | refine below_set ?_ GE102.out | refine below_set ?_ GE103.out | refine below_set ?_ GE106.out) | exact HB.out))) : w.heap.size ≤ gb111)); have n7_ := Aside0.mk ((by rw [hg]; exact (below_size (by repeat (first | (with_reducible first | exact HB.out | apply below_alloc | apply pw_below_drewN | apply below_drew1 | refine below_set ?_ GE101.out | refine below_set ?_ GE102.out | refine below_set ?_ GE103.out | refine below_set ?_ GE106.out) | exact HB.out))) : w.heap.size ≤ gb111)); have n8_ := Aside0.mk ((by rw [hg]; exact Nat.ne_of_lt (blk_lt (g := gb101) (o := .cells #[.int .u64 a0_0, .int .u64 a0_1] 35 (0, 0)) (by (with_reducible repeat (first | refine blk_drewN ?_ _ | refine blk_drew ?_ | refine blk_alloc ?_ _)); exact BK101.out)) : gb101 ≠ gb111)); have n9_ := Aside0.mk ((by rw [hg]; exact Nat.ne_of_gt (blk_lt (g := gb101) (o := .cells #[.int .u64 a0_0, .int .u64 a0_1] 35 (0, 0)) (by (with_reducible repeat (first | refine blk_drewN ?_ _ | refine blk_drew ?_ | refine blk_alloc ?_ _)); exact BK101.out)) : gb111 ≠ gb101)); have n10_ := Aside0.mk ((by rw [hg]; exact Nat.ne_of_lt (blk_lt (g := gb102) (o := .cells #[.int .u64 a1_0, .int .u64 a1_1] 35 (0, 0)) (by (with_reducible repeat (first | refine blk_drewN ?_ _ | refine blk_drew ?_ | refine blk_alloc ?_ _)); exact BK102.out)) : gb102 ≠ gb111)); have n11_ := Aside0.mk ((by rw [hg]; exact Nat.ne_of_gt (blk_lt (g := gb102) (o := .cells #[.int .u64 a1_0, .int .u64 a1_1] 35 (0, 0)) (by (with_reducible repeat (first | refine blk_drewN ?_ _ | refine blk_drew ?_ | refine blk_alloc ?_ _)); exact BK102.out)) : gb111 ≠ gb102)); have n12_ := Aside0.mk ((by rw [hg]; exact Nat.ne_of_lt (blk_lt (g := gb103) (o := .cells #[.int .u64 0, .int .u64 0] 35 (0, 0)) (by (with_reducible repeat (first | refine blk_drewN ?_ _ | refine blk_drew ?_ | refine blk_alloc ?_ _)); exact BK103.out)) : gb103 ≠ gb111)); have n13_ := Aside0.mk ((by rw [hg]; exact Nat.ne_of_gt (blk_lt (g := gb103) (o := .cells #[.int .u64 0, .int .u64 0] 35 (0, 0)) (by (with_reducible repeat (first | refine blk_drewN ?_ _ | refine blk_drew ?_ | refine blk_alloc ?_ _)); exact BK103.out)) : gb111 ≠ gb103)); have n14_ := Aside0.mk ((by rw [hg]; exact Nat.ne_of_lt (blk_lt (g := gb106) (o := .cells #[.int .u64 x107000_2, .int .u64 t105] 35 (0, 0)) (by (with_reducible repeat (first | refine blk_drewN ?_ _ | refine blk_drew ?_ | refine blk_alloc ?_ _)); exact BK106.out)) : gb106 ≠ gb111)); have n15_ := Aside0.mk ((by rw [hg]; exact Nat.ne_of_gt (blk_lt (g := gb106) (o := .cells #[.int .u64 x107000_2, .int .u64 t105] 35 (0, 0)) (by (with_reducible repeat (first | refine blk_drewN ?_ _ | refine blk_drew ?_ | refine blk_alloc ?_ _)); exact BK106.out)) : gb111 ≠ gb106)); clear BK101; clear BK102; clear BK103; clear BK106; clear HB; have BK101 := n0_; have BK102 := n1_; have BK103 := n2_; have BK106 := n3_; have HB := n4_; have BK111 := n5_; have GW111 := n6_; have GE111 := n7_; have NB101_111 := n8_; have NB111_101 := n9_; have NB102_111 := n10_; have NB111_102 := n11_; have NB103_111 := n12_; have NB111_103 := n13_; have NB106_111 := n14_; have NB111_106 := n15_; clear n0_ n1_ n2_ n3_ n4_ n5_ n6_ n7_ n8_ n9_ n10_ n11_ n12_ n13_ n14_ n15_; clear hb hbox hg; have hnb54 := NB111_101.out; have hnc54 := NB101_111.out; have hnb55 := NB111_102.out; have hnc55 := NB102_111.out; have hnb56 := NB111_103.out; have hnc56 := NB103_111.out; have hnb57 := NB111_106.out; have hnc57 := NB106_111.out; have hcz58_0 : w53.cell? ⟨gb111, 0, none⟩ = some (.int .u64 0) := (blk_cell BK111.out 0).trans rfl; have hcz58_1 : w53.cell? ⟨gb111, 1, none⟩ = some (.int .u64 0) := (blk_cell BK111.out 1).trans rfl; have hfz58_0 := blk_frozen BK111.out 0; have hfz58_1 := blk_frozen BK111.out 1; have hnb59 := NB106_101.out; have hnc59 := NB101_106.out; have hnb60 := NB106_102.out; have hnc60 := NB102_106.out; have hnb61 := NB106_103.out; have hnc61 := NB103_106.out; have hcz62_0 : w53.cell? ⟨gb106, 0, none⟩ = some (.int .u64 x107000_2) := (blk_cell BK106.out 0).trans rfl; have hcz62_1 : w53.cell? ⟨gb106, 1, none⟩ = some (.int .u64 t105) := (blk_cell BK106.out 1).trans rfl; have hfz62_0 := blk_frozen BK106.out 0; have hfz62_1 := blk_frozen BK106.out 1))
                  have n0_ : Aside0 (((w53.setCell ⟨gb111, 0, none⟩ (.int .u64 t107)).setCell ⟨gb111, 1, none⟩ (.int .u64 t108)).heap[gb101]? = some (.cells #[.int .u64 a0_0, .int .u64 a0_1] 35 (0, 0))) := ⟨by (with_reducible repeat (first | refine blk_drewN ?_ _ | refine blk_drew ?_ | refine blk_alloc ?_ _)); refine blk_far ?_ NB101_111.out _; (with_reducible repeat (first | refine blk_drewN ?_ _ | refine blk_drew ?_ | refine blk_alloc ?_ _)); refine blk_far ?_ NB101_111.out _; (with_reducible repeat (first | refine blk_drewN ?_ _ | refine blk_drew ?_ | refine blk_alloc ?_ _)); exact BK101.out⟩
                  have n1_ : Aside0 (((w53.setCell ⟨gb111, 0, none⟩ (.int .u64 t107)).setCell ⟨gb111, 1, none⟩ (.int .u64 t108)).heap[gb102]? = some (.cells #[.int .u64 a1_0, .int .u64 a1_1] 35 (0, 0))) := ⟨by (with_reducible repeat (first | refine blk_drewN ?_ _ | refine blk_drew ?_ | refine blk_alloc ?_ _)); refine blk_far ?_ NB102_111.out _; (with_reducible repeat (first | refine blk_drewN ?_ _ | refine blk_drew ?_ | refine blk_alloc ?_ _)); refine blk_far ?_ NB102_111.out _; (with_reducible repeat (first | refine blk_drewN ?_ _ | refine blk_drew ?_ | refine blk_alloc ?_ _)); exact BK102.out⟩
                  have n2_ : Aside0 (((w53.setCell ⟨gb111, 0, none⟩ (.int .u64 t107)).setCell ⟨gb111, 1, none⟩ (.int .u64 t108)).heap[gb103]? = some (.cells #[.int .u64 0, .int .u64 0] 35 (0, 0))) := ⟨by (with_reducible repeat (first | refine blk_drewN ?_ _ | refine blk_drew ?_ | refine blk_alloc ?_ _)); refine blk_far ?_ NB103_111.out _; (with_reducible repeat (first | refine blk_drewN ?_ _ | refine blk_drew ?_ | refine blk_alloc ?_ _)); refine blk_far ?_ NB103_111.out _; (with_reducible repeat (first | refine blk_drewN ?_ _ | refine blk_drew ?_ | refine blk_alloc ?_ _)); exact BK103.out⟩
                  have n3_ : Aside0 (((w53.setCell ⟨gb111, 0, none⟩ (.int .u64 t107)).setCell ⟨gb111, 1, none⟩ (.int .u64 t108)).heap[gb106]? = some (.cells #[.int .u64 x107000_2, .int .u64 t105] 35 (0, 0))) := ⟨by (with_reducible repeat (first | refine blk_drewN ?_ _ | refine blk_drew ?_ | refine blk_alloc ?_ _)); refine blk_far ?_ NB106_111.out _; (with_reducible repeat (first | refine blk_drewN ?_ _ | refine blk_drew ?_ | refine blk_alloc ?_ _)); refine blk_far ?_ NB106_111.out _; (with_reducible repeat (first | refine blk_drewN ?_ _ | refine blk_drew ?_ | refine blk_alloc ?_ _)); exact BK106.out⟩
                  have n4_ : Aside0 (((w53.setCell ⟨gb111, 0, none⟩ (.int .u64 t107)).setCell ⟨gb111, 1, none⟩ (.int .u64 t108)).heap[gb111]? = some (.cells #[.int .u64 t107, .int .u64 t108] 35 (0, 0))) := ⟨by (with_reducible repeat (first | refine blk_drewN ?_ _ | refine blk_drew ?_ | refine blk_alloc ?_ _)); refine blk_put (cs := #[.int .u64 t107, .int .u64 0]) ?_ 1 _ rfl; (with_reducible repeat (first | refine blk_drewN ?_ _ | refine blk_drew ?_ | refine blk_alloc ?_ _)); refine blk_put (cs := #[.int .u64 0, .int .u64 0]) ?_ 0 _ rfl; (with_reducible repeat (first | refine blk_drewN ?_ _ | refine blk_drew ?_ | refine blk_alloc ?_ _)); exact BK111.out⟩
                  have n5_ : Aside0 (Below w.heap.size w ((w53.setCell ⟨gb111, 0, none⟩ (.int .u64 t107)).setCell ⟨gb111, 1, none⟩ (.int .u64 t108))) := ⟨by repeat (first | (with_reducible first | exact HB.out | apply below_alloc | apply pw_below_drewN | apply below_drew1 | refine below_set ?_ GE101.out | refine below_set ?_ GE102.out | refine below_set ?_ GE103.out | refine below_set ?_ GE106.out | refine below_set ?_ GE111.out) | exact HB.out)⟩
                  (try clear BK101)
                  (try clear BK102)
                  (try clear BK103)
                  (try clear BK106)
                  (try clear BK111)
                  (try clear HB)
                  generalize ((w53.setCell ⟨gb111, 0, none⟩ (.int .u64 t107)).setCell ⟨gb111, 1, none⟩ (.int .u64 t108)) = w63 at n0_ n1_ n2_ n3_ n4_ n5_ ⊢
                  have BK101 := n0_
                  have BK102 := n1_
                  have BK103 := n2_
                  have BK106 := n3_
                  have BK111 := n4_
                  have HB := n5_
                  clear n0_ n1_ n2_ n3_ n4_ n5_
                  have n0_ := Aside0.mk (blk_drew BK101.out)
                  have n1_ := Aside0.mk (blk_drew BK102.out)
                  have n2_ := Aside0.mk (blk_drew BK103.out)
                  have n3_ := Aside0.mk (blk_drew BK106.out)
                  have n4_ := Aside0.mk (blk_drew BK111.out)
                  have n5_ := Aside0.mk (below_drew1 HB.out)
                  clear BK101
                  clear BK102
                  clear BK103
                  clear BK106
                  clear BK111
                  clear HB
                  have BK101 := n0_
                  have BK102 := n1_
                  have BK103 := n2_
                  have BK106 := n3_
                  have BK111 := n4_
                  have HB := n5_
                  clear n0_ n1_ n2_ n3_ n4_ n5_
                  refine start_ (n := 14) (S := fun w' => True) (ds := []) #[false, false, false, false, false, false, false, false, false, false, false, false, false, false] (by kernel_rfl) rfl rfl trivial (fun hHeld => ?_); refine with_tabW wide_Times.tab7 wide_Times.bits7 (fun HT_ HW_ => ?_)
                  generalize w63.drew = w64 at BK101 BK102 BK103 BK106 BK111 HB hHeld ⊢
                  refine pure_ (i := 0) (N := some 47) (v := ?_) (a' := ?_) #[true, false, false, false, false, false, false, false, false, false, false, false, false, false] rfl rfl (any_of HT_.out (by kernel_rfl)) (fun _ _ _ h => h) (Or.inl ⟨by rfl, ?_⟩) ?_ ?_
                  rotate_left
                  · intro w'
                    go_simp
                    with_reducible rfl
                  rotate_left
                  · simp only [Act.put, List.setIfInBounds_toArray, List.set_cons_zero, List.set_cons_succ, i64_w, i32_w]
                    rfl
                  refine pure_ (i := 1) (N := some 48) (v := ?_) (a' := ?_) #[true, true, false, false, false, false, false, false, false, false, false, false, false, false] rfl rfl (any_of HT_.out (by kernel_rfl)) (fun _ _ _ h => h) (Or.inl ⟨by rfl, ?_⟩) ?_ ?_
                  rotate_left
                  · intro w'
                    go_simp
                    with_reducible rfl
                  rotate_left
                  · simp only [Act.put, List.setIfInBounds_toArray, List.set_cons_zero, List.set_cons_succ, i64_w, i32_w]
                    rfl
                  refine pure_ (i := 2) (N := some 49) (v := ?_) (a' := ?_) #[true, true, true, false, false, false, false, false, false, false, false, false, false, false] rfl rfl (any_of HT_.out (by kernel_rfl)) (fun _ _ _ h => h) (Or.inl ⟨by rfl, ?_⟩) ?_ ?_
                  rotate_left
                  · intro w'
                    go_simp
                    with_reducible rfl
                  rotate_left
                  · simp only [Act.put, List.setIfInBounds_toArray, List.set_cons_zero, List.set_cons_succ, i64_w, i32_w]
                    rfl
                  refine pure_ (i := 3) (N := some 50) (v := ?_) (a' := ?_) #[true, true, true, true, false, false, false, false, false, false, false, false, false, false] rfl rfl (any_of HT_.out (by kernel_rfl)) (fun _ _ _ h => h) (Or.inl ⟨by rfl, ?_⟩) ?_ ?_
                  rotate_left
                  · intro w'
                    go_simp
                    with_reducible rfl
                  rotate_left
                  · simp only [Act.put, List.setIfInBounds_toArray, List.set_cons_zero, List.set_cons_succ, i64_w, i32_w]
                    rfl
                  refine pure_ (i := 4) (N := some 51) (v := ?_) (a' := ?_) #[true, true, true, true, true, false, false, false, false, false, false, false, false, false] rfl rfl (any_of HT_.out (by kernel_rfl)) (fun _ _ _ h => h) (Or.inl ⟨by rfl, ?_⟩) ?_ ?_
                  rotate_left
                  · intro w'
                    go_simp
                    with_reducible rfl
                  rotate_left
                  · simp only [Act.put, List.setIfInBounds_toArray, List.set_cons_zero, List.set_cons_succ, i64_w, i32_w]
                    rfl
                  refine pure_ (i := 5) (N := some 52) (v := ?_) (a' := ?_) #[true, true, true, true, true, true, false, false, false, false, false, false, false, false] rfl rfl (any_of HT_.out (by kernel_rfl)) (fun _ _ _ h => h) (Or.inl ⟨by rfl, ?_⟩) ?_ ?_
                  rotate_left
                  · intro w'
                    go_simp
                    with_reducible rfl
                  rotate_left
                  · simp only [Act.put, List.setIfInBounds_toArray, List.set_cons_zero, List.set_cons_succ, i64_w, i32_w]
                    rfl
                  refine pure_ (i := 6) (N := some 53) (v := ?_) (a' := ?_) #[true, true, true, true, true, true, true, false, false, false, false, false, false, false] rfl rfl (any_of HT_.out (by kernel_rfl)) (fun _ _ _ h => h) (Or.inl ⟨by rfl, ?_⟩) ?_ ?_
                  rotate_left
                  · intro w'
                    go_simp
                    with_reducible rfl
                  rotate_left
                  · simp only [Act.put, List.setIfInBounds_toArray, List.set_cons_zero, List.set_cons_succ, i64_w, i32_w]
                    rfl
                  refine pure_ (i := 7) (N := some 54) (v := undef) (a' := ?_) #[true, true, true, true, true, true, true, true, false, false, false, false, false, false] rfl rfl (any_of HT_.out (by kernel_rfl)) (fun _ _ _ h => h) (Or.inr ⟨by rfl, rfl⟩) ?_ ?_
                  rotate_left
                  · simp only [Act.put, List.setIfInBounds_toArray, List.set_cons_zero, List.set_cons_succ, i64_w, i32_w]
                    rfl
                  refine pure_ (i := 8) (N := some 55) (v := undef) (a' := ?_) #[true, true, true, true, true, true, true, true, true, false, false, false, false, false] rfl rfl (any_of HT_.out (by kernel_rfl)) (fun _ _ _ h => h) (Or.inr ⟨by rfl, rfl⟩) ?_ ?_
                  rotate_left
                  · simp only [Act.put, List.setIfInBounds_toArray, List.set_cons_zero, List.set_cons_succ, i64_w, i32_w]
                    rfl
                  refine pure_ (i := 9) (N := some 56) (v := undef) (a' := ?_) #[true, true, true, true, true, true, true, true, true, true, false, false, false, false] rfl rfl (any_of HT_.out (by kernel_rfl)) (fun _ _ _ h => h) (Or.inr ⟨by rfl, rfl⟩) ?_ ?_
                  rotate_left
                  · simp only [Act.put, List.setIfInBounds_toArray, List.set_cons_zero, List.set_cons_succ, i64_w, i32_w]
                    rfl
                  refine pure_ (i := 10) (N := some 57) (v := ?_) (a' := ?_) #[true, true, true, true, true, true, true, true, true, true, true, false, false, false] rfl rfl (any_of HT_.out (by kernel_rfl)) (fun _ _ _ h => h) (Or.inl ⟨by rfl, ?_⟩) ?_ ?_
                  rotate_left
                  · intro w'
                    go_simp
                    with_reducible rfl
                  rotate_left
                  · simp only [Act.put, List.setIfInBounds_toArray, List.set_cons_zero, List.set_cons_succ, i64_w, i32_w]
                    rfl
                  refine pure_ (i := 11) (N := some 58) (v := ?_) (a' := ?_) #[true, true, true, true, true, true, true, true, true, true, true, true, false, false] rfl rfl (any_of HT_.out (by kernel_rfl)) (fun _ _ _ h => h) (Or.inl ⟨by rfl, ?_⟩) ?_ ?_
                  rotate_left
                  · intro w'
                    go_simp
                    with_reducible rfl
                  rotate_left
                  · simp only [Act.put, List.setIfInBounds_toArray, List.set_cons_zero, List.set_cons_succ, i64_w, i32_w]
                    rfl
                  refine one_ (i := 12) (N := none) #[true, true, true, true, true, true, true, true, true, true, true, true, true, false] rfl rfl (one_of HT_.out (by kernel_rfl)) (by decide) (fun K hK => ?_)
                  have hs65 : w64.cell? ⟨gb106, 0, none⟩ = some (.int .u64 x107000_2) := (blk_cell BK106.out 0).trans rfl
                  have hfs65 := blk_frozen BK106.out 0
                  have hns65_0 := NB101_106.out
                  have hns65_1 := NB102_106.out
                  have hns65_2 := NB103_106.out
                  have hns65_4 := NB111_106.out
                  have hms65_0 := NB106_101.out
                  have hms65_1 := NB106_102.out
                  have hms65_2 := NB106_103.out
                  have hms65_4 := NB106_111.out
                  refine skip_ (w1 := ?_) (by rfl) rfl ?_ ?_
                  rotate_left
                  · go_simp
                    rfl
                  refine hK.out _ _ trivial (fun hHeld => ?_)
                  clear hK K
                  refine pure_ (i := 13) (N := some 7) (v := ?_) (a' := ?_) #[true, true, true, true, true, true, true, true, true, true, true, true, true, true] rfl rfl (any_of HT_.out (by kernel_rfl)) (fun _ _ _ h => h) (Or.inl ⟨by rfl, ?_⟩) ?_ ?_
                  rotate_left
                  · intro w'
                    go_simp
                    with_reducible rfl
                  rotate_left
                  · simp only [Act.put, List.setIfInBounds_toArray, List.set_cons_zero, List.set_cons_succ, i64_w, i32_w]
                    rfl
                  refine done_ (done_of HT_.out (by kernel_rfl)) ?_
                  try go_wp2
                  go_roundg k2
                  case measure => have := HJ3.out; have := HK2.out; omega
                  case rel => exact ⟨(true), (1), (a64lo x107000_2 t108 0), (by first | rfl | (simp; done) | (simp [*]; done)), (by first | rfl | (simp; done) | (simp [*]; done)), H', ⟨by have := HJ3.out; have := HK2.out; omega⟩, ⟨by (with_reducible repeat (first | refine blk_drewN ?_ _ | refine blk_drew ?_ | refine blk_alloc ?_ _)); refine blk_far ?_ NB101_106.out _; (with_reducible repeat (first | refine blk_drewN ?_ _ | refine blk_drew ?_ | refine blk_alloc ?_ _)); exact BK101.out⟩, ⟨by (with_reducible repeat (first | refine blk_drewN ?_ _ | refine blk_drew ?_ | refine blk_alloc ?_ _)); refine blk_far ?_ NB102_106.out _; (with_reducible repeat (first | refine blk_drewN ?_ _ | refine blk_drew ?_ | refine blk_alloc ?_ _)); exact BK102.out⟩, ⟨by (with_reducible repeat (first | refine blk_drewN ?_ _ | refine blk_drew ?_ | refine blk_alloc ?_ _)); refine blk_far ?_ NB103_106.out _; (with_reducible repeat (first | refine blk_drewN ?_ _ | refine blk_drew ?_ | refine blk_alloc ?_ _)); exact BK103.out⟩, ⟨by (with_reducible repeat (first | refine blk_drewN ?_ _ | refine blk_drew ?_ | refine blk_alloc ?_ _)); refine blk_put (cs := #[.int .u64 x107000_2, .int .u64 t105]) ?_ 0 _ rfl; (with_reducible repeat (first | refine blk_drewN ?_ _ | refine blk_drew ?_ | refine blk_alloc ?_ _)); exact BK106.out⟩, ⟨by repeat (first | (with_reducible first | exact HB.out | apply below_alloc | apply pw_below_drewN | apply below_drew1 | refine below_set ?_ GE101.out | refine below_set ?_ GE102.out | refine below_set ?_ GE103.out | refine below_set ?_ GE106.out | refine below_set ?_ GE111.out) | exact HB.out)⟩⟩
                · rw [if_neg c52] at H
                  have c52b0 : decide (0 < (a64hi x107000_2 t108 0)) = false := decide_eq_false c52
                  clear c52
                  have H' := Aside0.mk H
                  clear H
                  try go_wp2_with (first | ((with_reducible refine gate_dst (N := 9) rfl ?_); refine box_event ?hg (N := 9) ?hd (cs := #[.int .u64 0, .int .u64 0]) (t := 35) ?hr ?_; (case hd => rfl); (case hg => rfl); (case hr => first | (go_simp; done) | (go_simp; rfl)); intro gb111 hg w66 hbox hb; have n0_ := Aside0.mk (blk_below (g := gb101) (o := .cells #[.int .u64 a0_0, .int .u64 a0_1] 35 (0, 0)) (by (with_reducible repeat (first | refine blk_drewN ?_ _ | refine blk_drew ?_ | refine blk_alloc ?_ _)); exact BK101.out) hb); have n1_ := Aside0.mk (blk_below (g := gb102) (o := .cells #[.int .u64 a1_0, .int .u64 a1_1] 35 (0, 0)) (by (with_reducible repeat (first | refine blk_drewN ?_ _ | refine blk_drew ?_ | refine blk_alloc ?_ _)); exact BK102.out) hb); have n2_ := Aside0.mk (blk_below (g := gb103) (o := .cells #[.int .u64 0, .int .u64 0] 35 (0, 0)) (by (with_reducible repeat (first | refine blk_drewN ?_ _ | refine blk_drew ?_ | refine blk_alloc ?_ _)); exact BK103.out) hb); have n3_ := Aside0.mk (blk_below (g := gb106) (o := .cells #[.int .u64 x107000_2, .int .u64 t105] 35 (0, 0)) (by (with_reducible repeat (first | refine blk_drewN ?_ _ | refine blk_drew ?_ | refine blk_alloc ?_ _)); exact BK106.out) hb); have n4_ := Aside0.mk (below_step (by repeat (first | (with_reducible first | exact HB.out | apply below_alloc | apply pw_below_drewN | apply below_drew1 | refine below_set ?_ GE101.out | refine below_set ?_ GE102.out | refine below_set ?_ GE103.out | refine below_set ?_ GE106.out) | exact HB.out)) hb); have n5_ := Aside0.mk (hbox); have n6_ := Aside0.mk ((by rw [hg]; exact (below_size (by repeat (first | (with_reducible first | exact HB.out | apply below_alloc | apply pw_below_drewN | apply below_drew1 | refine below_set ?_ GE101.out | refine below_set ?_ GE102.out | refine below_set ?_ GE103.out | refine below_set ?_ GE106.out) | exact HB.out))) : w.heap.size ≤ gb111)); have n7_ := Aside0.mk ((by rw [hg]; exact (below_size (by repeat (first | (with_reducible first | exact HB.out | apply below_alloc | apply pw_below_drewN | apply below_drew1 | refine below_set ?_ GE101.out | refine below_set ?_ GE102.out | refine below_set ?_ GE103.out | refine below_set ?_ GE106.out) | exact HB.out))) : w.heap.size ≤ gb111)); have n8_ := Aside0.mk ((by rw [hg]; exact Nat.ne_of_lt (blk_lt (g := gb101) (o := .cells #[.int .u64 a0_0, .int .u64 a0_1] 35 (0, 0)) (by (with_reducible repeat (first | refine blk_drewN ?_ _ | refine blk_drew ?_ | refine blk_alloc ?_ _)); exact BK101.out)) : gb101 ≠ gb111)); have n9_ := Aside0.mk ((by rw [hg]; exact Nat.ne_of_gt (blk_lt (g := gb101) (o := .cells #[.int .u64 a0_0, .int .u64 a0_1] 35 (0, 0)) (by (with_reducible repeat (first | refine blk_drewN ?_ _ | refine blk_drew ?_ | refine blk_alloc ?_ _)); exact BK101.out)) : gb111 ≠ gb101)); have n10_ := Aside0.mk ((by rw [hg]; exact Nat.ne_of_lt (blk_lt (g := gb102) (o := .cells #[.int .u64 a1_0, .int .u64 a1_1] 35 (0, 0)) (by (with_reducible repeat (first | refine blk_drewN ?_ _ | refine blk_drew ?_ | refine blk_alloc ?_ _)); exact BK102.out)) : gb102 ≠ gb111)); have n11_ := Aside0.mk ((by rw [hg]; exact Nat.ne_of_gt (blk_lt (g := gb102) (o := .cells #[.int .u64 a1_0, .int .u64 a1_1] 35 (0, 0)) (by (with_reducible repeat (first | refine blk_drewN ?_ _ | refine blk_drew ?_ | refine blk_alloc ?_ _)); exact BK102.out)) : gb111 ≠ gb102)); have n12_ := Aside0.mk ((by rw [hg]; exact Nat.ne_of_lt (blk_lt (g := gb103) (o := .cells #[.int .u64 0, .int .u64 0] 35 (0, 0)) (by (with_reducible repeat (first | refine blk_drewN ?_ _ | refine blk_drew ?_ | refine blk_alloc ?_ _)); exact BK103.out)) : gb103 ≠ gb111)); have n13_ := Aside0.mk ((by rw [hg]; exact Nat.ne_of_gt (blk_lt (g := gb103) (o := .cells #[.int .u64 0, .int .u64 0] 35 (0, 0)) (by (with_reducible repeat (first | refine blk_drewN ?_ _ | refine blk_drew ?_ | refine blk_alloc ?_ _)); exact BK103.out)) : gb111 ≠ gb103)); have n14_ := Aside0.mk ((by rw [hg]; exact Nat.ne_of_lt (blk_lt (g := gb106) (o := .cells #[.int .u64 x107000_2, .int .u64 t105] 35 (0, 0)) (by (with_reducible repeat (first | refine blk_drewN ?_ _ | refine blk_drew ?_ | refine blk_alloc ?_ _)); exact BK106.out)) : gb106 ≠ gb111)); have n15_ := Aside0.mk ((by rw [hg]; exact Nat.ne_of_gt (blk_lt (g := gb106) (o := .cells #[.int .u64 x107000_2, .int .u64 t105] 35 (0, 0)) (by (with_reducible repeat (first | refine blk_drewN ?_ _ | refine blk_drew ?_ | refine blk_alloc ?_ _)); exact BK106.out)) : gb111 ≠ gb106)); clear BK101; clear BK102; clear BK103; clear BK106; clear HB; have BK101 := n0_; have BK102 := n1_; have BK103 := n2_; have BK106 := n3_; have HB := n4_; have BK111 := n5_; have GW111 := n6_; have GE111 := n7_; have NB101_111 := n8_; have NB111_101 := n9_; have NB102_111 := n10_; have NB111_102 := n11_; have NB103_111 := n12_; have NB111_103 := n13_; have NB106_111 := n14_; have NB111_106 := n15_; clear n0_ n1_ n2_ n3_ n4_ n5_ n6_ n7_ n8_ n9_ n10_ n11_ n12_ n13_ n14_ n15_; clear hb hbox hg; have hnb67 := NB111_101.out; have hnc67 := NB101_111.out; have hnb68 := NB111_102.out; have hnc68 := NB102_111.out; have hnb69 := NB111_103.out; have hnc69 := NB103_111.out; have hnb70 := NB111_106.out; have hnc70 := NB106_111.out; have hcz71_0 : w66.cell? ⟨gb111, 0, none⟩ = some (.int .u64 0) := (blk_cell BK111.out 0).trans rfl; have hcz71_1 : w66.cell? ⟨gb111, 1, none⟩ = some (.int .u64 0) := (blk_cell BK111.out 1).trans rfl; have hfz71_0 := blk_frozen BK111.out 0; have hfz71_1 := blk_frozen BK111.out 1; have hnb72 := NB106_101.out; have hnc72 := NB101_106.out; have hnb73 := NB106_102.out; have hnc73 := NB102_106.out; have hnb74 := NB106_103.out; have hnc74 := NB103_106.out; have hcz75_0 : w66.cell? ⟨gb106, 0, none⟩ = some (.int .u64 x107000_2) := (blk_cell BK106.out 0).trans rfl; have hcz75_1 : w66.cell? ⟨gb106, 1, none⟩ = some (.int .u64 t105) := (blk_cell BK106.out 1).trans rfl; have hfz75_0 := blk_frozen BK106.out 0; have hfz75_1 := blk_frozen BK106.out 1))
                  have n0_ : Aside0 (((w66.setCell ⟨gb111, 0, none⟩ (.int .u64 t107)).setCell ⟨gb111, 1, none⟩ (.int .u64 t108)).heap[gb101]? = some (.cells #[.int .u64 a0_0, .int .u64 a0_1] 35 (0, 0))) := ⟨by (with_reducible repeat (first | refine blk_drewN ?_ _ | refine blk_drew ?_ | refine blk_alloc ?_ _)); refine blk_far ?_ NB101_111.out _; (with_reducible repeat (first | refine blk_drewN ?_ _ | refine blk_drew ?_ | refine blk_alloc ?_ _)); refine blk_far ?_ NB101_111.out _; (with_reducible repeat (first | refine blk_drewN ?_ _ | refine blk_drew ?_ | refine blk_alloc ?_ _)); exact BK101.out⟩
                  have n1_ : Aside0 (((w66.setCell ⟨gb111, 0, none⟩ (.int .u64 t107)).setCell ⟨gb111, 1, none⟩ (.int .u64 t108)).heap[gb102]? = some (.cells #[.int .u64 a1_0, .int .u64 a1_1] 35 (0, 0))) := ⟨by (with_reducible repeat (first | refine blk_drewN ?_ _ | refine blk_drew ?_ | refine blk_alloc ?_ _)); refine blk_far ?_ NB102_111.out _; (with_reducible repeat (first | refine blk_drewN ?_ _ | refine blk_drew ?_ | refine blk_alloc ?_ _)); refine blk_far ?_ NB102_111.out _; (with_reducible repeat (first | refine blk_drewN ?_ _ | refine blk_drew ?_ | refine blk_alloc ?_ _)); exact BK102.out⟩
                  have n2_ : Aside0 (((w66.setCell ⟨gb111, 0, none⟩ (.int .u64 t107)).setCell ⟨gb111, 1, none⟩ (.int .u64 t108)).heap[gb103]? = some (.cells #[.int .u64 0, .int .u64 0] 35 (0, 0))) := ⟨by (with_reducible repeat (first | refine blk_drewN ?_ _ | refine blk_drew ?_ | refine blk_alloc ?_ _)); refine blk_far ?_ NB103_111.out _; (with_reducible repeat (first | refine blk_drewN ?_ _ | refine blk_drew ?_ | refine blk_alloc ?_ _)); refine blk_far ?_ NB103_111.out _; (with_reducible repeat (first | refine blk_drewN ?_ _ | refine blk_drew ?_ | refine blk_alloc ?_ _)); exact BK103.out⟩
                  have n3_ : Aside0 (((w66.setCell ⟨gb111, 0, none⟩ (.int .u64 t107)).setCell ⟨gb111, 1, none⟩ (.int .u64 t108)).heap[gb106]? = some (.cells #[.int .u64 x107000_2, .int .u64 t105] 35 (0, 0))) := ⟨by (with_reducible repeat (first | refine blk_drewN ?_ _ | refine blk_drew ?_ | refine blk_alloc ?_ _)); refine blk_far ?_ NB106_111.out _; (with_reducible repeat (first | refine blk_drewN ?_ _ | refine blk_drew ?_ | refine blk_alloc ?_ _)); refine blk_far ?_ NB106_111.out _; (with_reducible repeat (first | refine blk_drewN ?_ _ | refine blk_drew ?_ | refine blk_alloc ?_ _)); exact BK106.out⟩
                  have n4_ : Aside0 (((w66.setCell ⟨gb111, 0, none⟩ (.int .u64 t107)).setCell ⟨gb111, 1, none⟩ (.int .u64 t108)).heap[gb111]? = some (.cells #[.int .u64 t107, .int .u64 t108] 35 (0, 0))) := ⟨by (with_reducible repeat (first | refine blk_drewN ?_ _ | refine blk_drew ?_ | refine blk_alloc ?_ _)); refine blk_put (cs := #[.int .u64 t107, .int .u64 0]) ?_ 1 _ rfl; (with_reducible repeat (first | refine blk_drewN ?_ _ | refine blk_drew ?_ | refine blk_alloc ?_ _)); refine blk_put (cs := #[.int .u64 0, .int .u64 0]) ?_ 0 _ rfl; (with_reducible repeat (first | refine blk_drewN ?_ _ | refine blk_drew ?_ | refine blk_alloc ?_ _)); exact BK111.out⟩
                  have n5_ : Aside0 (Below w.heap.size w ((w66.setCell ⟨gb111, 0, none⟩ (.int .u64 t107)).setCell ⟨gb111, 1, none⟩ (.int .u64 t108))) := ⟨by repeat (first | (with_reducible first | exact HB.out | apply below_alloc | apply pw_below_drewN | apply below_drew1 | refine below_set ?_ GE101.out | refine below_set ?_ GE102.out | refine below_set ?_ GE103.out | refine below_set ?_ GE106.out | refine below_set ?_ GE111.out) | exact HB.out)⟩
                  (try clear BK101)
                  (try clear BK102)
                  (try clear BK103)
                  (try clear BK106)
                  (try clear BK111)
                  (try clear HB)
                  generalize ((w66.setCell ⟨gb111, 0, none⟩ (.int .u64 t107)).setCell ⟨gb111, 1, none⟩ (.int .u64 t108)) = w76 at n0_ n1_ n2_ n3_ n4_ n5_ ⊢
                  have BK101 := n0_
                  have BK102 := n1_
                  have BK103 := n2_
                  have BK106 := n3_
                  have BK111 := n4_
                  have HB := n5_
                  clear n0_ n1_ n2_ n3_ n4_ n5_
                  have n0_ := Aside0.mk (blk_drew BK101.out)
                  have n1_ := Aside0.mk (blk_drew BK102.out)
                  have n2_ := Aside0.mk (blk_drew BK103.out)
                  have n3_ := Aside0.mk (blk_drew BK106.out)
                  have n4_ := Aside0.mk (blk_drew BK111.out)
                  have n5_ := Aside0.mk (below_drew1 HB.out)
                  clear BK101
                  clear BK102
                  clear BK103
                  clear BK106
                  clear BK111
                  clear HB
                  have BK101 := n0_
                  have BK102 := n1_
                  have BK103 := n2_
                  have BK106 := n3_
                  have BK111 := n4_
                  have HB := n5_
                  clear n0_ n1_ n2_ n3_ n4_ n5_
                  refine start_ (n := 14) (S := fun w' => w'.cell? ⟨gb111, 0, none⟩ = some (.int .u64 t107) ∧ w'.cell? ⟨gb111, 1, none⟩ = some (.int .u64 t108)) (ds := []) #[false, false, false, false, false, false, false, false, false, false, false, false, false, false] (by kernel_rfl) rfl rfl ⟨(blk_cell BK111.out 0).trans rfl, (blk_cell BK111.out 1).trans rfl⟩ (fun hHeld => ?_); refine with_tabW wide_Times.tab7 wide_Times.bits7 (fun HT_ HW_ => ?_)
                  generalize w76.drew = w77 at BK101 BK102 BK103 BK106 BK111 HB hHeld ⊢
                  refine pure_ (i := 0) (N := some 47) (v := ?_) (a' := ?_) #[true, false, false, false, false, false, false, false, false, false, false, false, false, false] rfl rfl (any_of HT_.out (by kernel_rfl)) (fun _ _ _ h => h) (Or.inl ⟨by rfl, ?_⟩) ?_ ?_
                  rotate_left
                  · intro w'
                    go_simp
                    with_reducible rfl
                  rotate_left
                  · simp only [Act.put, List.setIfInBounds_toArray, List.set_cons_zero, List.set_cons_succ, i64_w, i32_w]
                    rfl
                  refine pure_ (i := 1) (N := some 48) (v := ?_) (a' := ?_) #[true, true, false, false, false, false, false, false, false, false, false, false, false, false] rfl rfl (any_of HT_.out (by kernel_rfl)) (fun _ _ _ h => h) (Or.inl ⟨by rfl, ?_⟩) ?_ ?_
                  rotate_left
                  · intro w'
                    go_simp
                    with_reducible rfl
                  rotate_left
                  · simp only [Act.put, List.setIfInBounds_toArray, List.set_cons_zero, List.set_cons_succ, i64_w, i32_w]
                    rfl
                  refine pure_ (i := 2) (N := some 49) (v := ?_) (a' := ?_) #[true, true, true, false, false, false, false, false, false, false, false, false, false, false] rfl rfl (any_of HT_.out (by kernel_rfl)) (fun _ _ _ h => h) (Or.inl ⟨by rfl, ?_⟩) ?_ ?_
                  rotate_left
                  · intro w'
                    go_simp
                    with_reducible rfl
                  rotate_left
                  · simp only [Act.put, List.setIfInBounds_toArray, List.set_cons_zero, List.set_cons_succ, i64_w, i32_w]
                    rfl
                  refine pure_ (i := 3) (N := some 50) (v := ?_) (a' := ?_) #[true, true, true, true, false, false, false, false, false, false, false, false, false, false] rfl rfl (any_of HT_.out (by kernel_rfl)) (fun _ _ _ h => h) (Or.inl ⟨by rfl, ?_⟩) ?_ ?_
                  rotate_left
                  · intro w'
                    go_simp
                    with_reducible rfl
                  rotate_left
                  · simp only [Act.put, List.setIfInBounds_toArray, List.set_cons_zero, List.set_cons_succ, i64_w, i32_w]
                    rfl
                  refine pure_ (i := 4) (N := some 51) (v := ?_) (a' := ?_) #[true, true, true, true, true, false, false, false, false, false, false, false, false, false] rfl rfl (any_of HT_.out (by kernel_rfl)) (fun _ _ _ h => h) (Or.inl ⟨by rfl, ?_⟩) ?_ ?_
                  rotate_left
                  · intro w'
                    go_simp
                    with_reducible rfl
                  rotate_left
                  · simp only [Act.put, List.setIfInBounds_toArray, List.set_cons_zero, List.set_cons_succ, i64_w, i32_w]
                    rfl
                  refine pure_ (i := 5) (N := some 52) (v := ?_) (a' := ?_) #[true, true, true, true, true, true, false, false, false, false, false, false, false, false] rfl rfl (any_of HT_.out (by kernel_rfl)) (fun _ _ _ h => h) (Or.inl ⟨by rfl, ?_⟩) ?_ ?_
                  rotate_left
                  · intro w'
                    go_simp
                    with_reducible rfl
                  rotate_left
                  · simp only [Act.put, List.setIfInBounds_toArray, List.set_cons_zero, List.set_cons_succ, i64_w, i32_w]
                    rfl
                  refine pure_ (i := 6) (N := some 53) (v := ?_) (a' := ?_) #[true, true, true, true, true, true, true, false, false, false, false, false, false, false] rfl rfl (any_of HT_.out (by kernel_rfl)) (fun _ _ _ h => h) (Or.inl ⟨by rfl, ?_⟩) ?_ ?_
                  rotate_left
                  · intro w'
                    go_simp
                    with_reducible rfl
                  rotate_left
                  · simp only [Act.put, List.setIfInBounds_toArray, List.set_cons_zero, List.set_cons_succ, i64_w, i32_w]
                    rfl
                  refine pure_ (i := 7) (N := some 54) (v := ?_) (a' := ?_) #[true, true, true, true, true, true, true, true, false, false, false, false, false, false] rfl rfl (any_of HT_.out (by kernel_rfl)) (fun _ _ _ h => h) (Or.inl ⟨by rfl, ?_⟩) ?_ ?_
                  rotate_left
                  · intro w'
                    go_simp
                    with_reducible rfl
                  rotate_left
                  · simp only [Act.put, List.setIfInBounds_toArray, List.set_cons_zero, List.set_cons_succ, i64_w, i32_w]
                    rfl
                  refine pure_ (i := 11) (N := some 58) (v := ?_) (a' := ?_) #[true, true, true, true, true, true, true, true, false, false, false, true, false, false] rfl rfl (any_of HT_.out (by kernel_rfl)) (fun _ _ _ h => h) (Or.inl ⟨by rfl, ?_⟩) ?_ ?_
                  rotate_left
                  · intro w'
                    go_simp
                    with_reducible rfl
                  rotate_left
                  · simp only [Act.put, List.setIfInBounds_toArray, List.set_cons_zero, List.set_cons_succ, i64_w, i32_w]
                    rfl
                  refine take_ (i := 8) (N := some 55) (v := ?_) (a' := ?_) #[true, true, true, true, true, true, true, true, true, false, false, true, false, false] rfl rfl (take_ofW HT_.out HW_.out (by kernel_rfl)) (fun _ _ _ h => h) (Or.inl ⟨by rfl, ?_⟩) hHeld ?_ ?_
                  rotate_left
                  · rintro w' ⟨s0, s1⟩
                    go_simp
                    with_reducible rfl
                  rotate_left
                  · simp only [Act.put, List.setIfInBounds_toArray, List.set_cons_zero, List.set_cons_succ, i64_w, i32_w]
                    rfl
                  refine pure_ (i := 9) (N := some 56) (v := ?_) (a' := ?_) #[true, true, true, true, true, true, true, true, true, true, false, true, false, false] rfl rfl (any_of HT_.out (by kernel_rfl)) (fun _ _ _ h => h) (Or.inl ⟨by rfl, ?_⟩) ?_ ?_
                  rotate_left
                  · intro w'
                    go_simp
                    with_reducible rfl
                  rotate_left
                  · simp only [Act.put, List.setIfInBounds_toArray, List.set_cons_zero, List.set_cons_succ, i64_w, i32_w]
                    rfl
                  refine pure_ (i := 10) (N := some 57) (v := ?_) (a' := ?_) #[true, true, true, true, true, true, true, true, true, true, true, true, false, false] rfl rfl (any_of HT_.out (by kernel_rfl)) (fun _ _ _ h => h) (Or.inl ⟨by rfl, ?_⟩) ?_ ?_
                  rotate_left
                  · intro w'
                    go_simp
                    with_reducible rfl
                  rotate_left
                  · simp only [Act.put, List.setIfInBounds_toArray, List.set_cons_zero, List.set_cons_succ, i64_w, i32_w]
                    rfl
                  refine one_ (i := 12) (N := none) #[true, true, true, true, true, true, true, true, true, true, true, true, true, false] rfl rfl (one_of HT_.out (by kernel_rfl)) (by decide) (fun K hK => ?_)
                  have hs78 : w77.cell? ⟨gb106, 0, none⟩ = some (.int .u64 x107000_2) := (blk_cell BK106.out 0).trans rfl
                  have hfs78 := blk_frozen BK106.out 0
                  have hns78_0 := NB101_106.out
                  have hns78_1 := NB102_106.out
                  have hns78_2 := NB103_106.out
                  have hns78_4 := NB111_106.out
                  have hms78_0 := NB106_101.out
                  have hms78_1 := NB106_102.out
                  have hms78_2 := NB106_103.out
                  have hms78_4 := NB106_111.out
                  refine skip_ (w1 := ?_) (by rfl) rfl ?_ ?_
                  rotate_left
                  · go_simp
                    rfl
                  refine hK.out _ _ ⟨((cell_far (p := ⟨gb106, _, none⟩) NB111_106.out _).trans (hHeld.1)), ((cell_far (p := ⟨gb106, _, none⟩) NB111_106.out _).trans (hHeld.2))⟩ (fun hHeld => ?_)
                  clear hK K
                  refine pure_ (i := 13) (N := some 7) (v := ?_) (a' := ?_) #[true, true, true, true, true, true, true, true, true, true, true, true, true, true] rfl rfl (any_of HT_.out (by kernel_rfl)) (fun _ _ _ h => h) (Or.inl ⟨by rfl, ?_⟩) ?_ ?_
                  rotate_left
                  · intro w'
                    go_simp
                    with_reducible rfl
                  rotate_left
                  · simp only [Act.put, List.setIfInBounds_toArray, List.set_cons_zero, List.set_cons_succ, i64_w, i32_w]
                    rfl
                  refine done_ (done_of HT_.out (by kernel_rfl)) ?_
                  try go_wp2
                  go_roundg k2
                  case measure => have := HJ3.out; have := HK2.out; omega
                  case rel => exact ⟨(decide (t107 > 0)), (1), (a64lo x107000_2 t108 0), (by first | rfl | (simp; done) | (simp [*]; done)), (by first | rfl | (simp; done) | (simp [*]; done)), H', ⟨by have := HJ3.out; have := HK2.out; omega⟩, ⟨by (with_reducible repeat (first | refine blk_drewN ?_ _ | refine blk_drew ?_ | refine blk_alloc ?_ _)); refine blk_far ?_ NB101_106.out _; (with_reducible repeat (first | refine blk_drewN ?_ _ | refine blk_drew ?_ | refine blk_alloc ?_ _)); exact BK101.out⟩, ⟨by (with_reducible repeat (first | refine blk_drewN ?_ _ | refine blk_drew ?_ | refine blk_alloc ?_ _)); refine blk_far ?_ NB102_106.out _; (with_reducible repeat (first | refine blk_drewN ?_ _ | refine blk_drew ?_ | refine blk_alloc ?_ _)); exact BK102.out⟩, ⟨by (with_reducible repeat (first | refine blk_drewN ?_ _ | refine blk_drew ?_ | refine blk_alloc ?_ _)); refine blk_far ?_ NB103_106.out _; (with_reducible repeat (first | refine blk_drewN ?_ _ | refine blk_drew ?_ | refine blk_alloc ?_ _)); exact BK103.out⟩, ⟨by (with_reducible repeat (first | refine blk_drewN ?_ _ | refine blk_drew ?_ | refine blk_alloc ?_ _)); refine blk_put (cs := #[.int .u64 x107000_2, .int .u64 t105]) ?_ 0 _ rfl; (with_reducible repeat (first | refine blk_drewN ?_ _ | refine blk_drew ?_ | refine blk_alloc ?_ _)); exact BK106.out⟩, ⟨by repeat (first | (with_reducible first | exact HB.out | apply below_alloc | apply pw_below_drewN | apply below_drew1 | refine below_set ?_ GE101.out | refine below_set ?_ GE102.out | refine below_set ?_ GE103.out | refine below_set ?_ GE106.out | refine below_set ?_ GE111.out) | exact HB.out)⟩⟩
            · rw [if_neg c37] at H
              by_cases c79 : x36_2 = 1
              · subst c79
                have H1 : (if x7_2 = true then (wide_Times.l0 k2 true 2 t107 t108 t109 t110 (a64lo x107000_2 t110 0) t105) else (if (a64hi x107000_2 t110 0) > 0 then (wide_Times.l0 k2 true 2 t107 t108 t109 t110 (a64lo x107000_2 t110 0) t105) else (wide_Times.l0 k2 (decide (t109 > 0)) 2 t107 t108 t109 t110 (a64lo x107000_2 t110 0) t105))) = some (r1, r2, r3) := by rw [if_pos rfl] at H; exact H
                clear H
                have H := H1
                clear H1
                by_cases c80 : x7_2 = true
                · subst c80
                  have H1 : (wide_Times.l0 k2 true 2 t107 t108 t109 t110 (a64lo x107000_2 t110 0) t105) = some (r1, r2, r3) := by rw [if_pos rfl] at H; exact H
                  clear H
                  have H := H1
                  clear H1
                  have H' := Aside0.mk H
                  clear H
                  try go_wp2_with (first | ((with_reducible refine gate_dst (N := 9) rfl ?_); refine box_event ?hg (N := 9) ?hd (cs := #[.int .u64 0, .int .u64 0]) (t := 35) ?hr ?_; (case hd => rfl); (case hg => rfl); (case hr => first | (go_simp; done) | (go_simp; rfl)); intro gb112 hg w81 hbox hb; have n0_ := Aside0.mk (blk_below (g := gb101) (o := .cells #[.int .u64 a0_0, .int .u64 a0_1] 35 (0, 0)) (by (with_reducible repeat (first | refine blk_drewN ?_ _ | refine blk_drew ?_ | refine blk_alloc ?_ _)); exact BK101.out) hb); have n1_ := Aside0.mk (blk_below (g := gb102) (o := .cells #[.int .u64 a1_0, .int .u64 a1_1] 35 (0, 0)) (by (with_reducible repeat (first | refine blk_drewN ?_ _ | refine blk_drew ?_ | refine blk_alloc ?_ _)); exact BK102.out) hb); have n2_ := Aside0.mk (blk_below (g := gb103) (o := .cells #[.int .u64 0, .int .u64 0] 35 (0, 0)) (by (with_reducible repeat (first | refine blk_drewN ?_ _ | refine blk_drew ?_ | refine blk_alloc ?_ _)); exact BK103.out) hb); have n3_ := Aside0.mk (blk_below (g := gb106) (o := .cells #[.int .u64 x107000_2, .int .u64 t105] 35 (0, 0)) (by (with_reducible repeat (first | refine blk_drewN ?_ _ | refine blk_drew ?_ | refine blk_alloc ?_ _)); exact BK106.out) hb); have n4_ := Aside0.mk (below_step (by repeat (first | (with_reducible first | exact HB.out | apply below_alloc | apply pw_below_drewN | apply below_drew1 | refine below_set ?_ GE101.out | refine below_set ?_ GE102.out | refine below_set ?_ GE103.out | refine below_set ?_ GE106.out) | exact HB.out)) hb); have n5_ := Aside0.mk (hbox); have n6_ := Aside0.mk ((by rw [hg]; exact (below_size (by repeat (first | (with_reducible first | exact HB.out | apply below_alloc | apply pw_below_drewN | apply below_drew1 | refine below_set ?_ GE101.out | refine below_set ?_ GE102.out | refine below_set ?_ GE103.out | refine below_set ?_ GE106.out) | exact HB.out))) : w.heap.size ≤ gb112)); have n7_ := Aside0.mk ((by rw [hg]; exact (below_size (by repeat (first | (with_reducible first | exact HB.out | apply below_alloc | apply pw_below_drewN | apply below_drew1 | refine below_set ?_ GE101.out | refine below_set ?_ GE102.out | refine below_set ?_ GE103.out | refine below_set ?_ GE106.out) | exact HB.out))) : w.heap.size ≤ gb112)); have n8_ := Aside0.mk ((by rw [hg]; exact Nat.ne_of_lt (blk_lt (g := gb101) (o := .cells #[.int .u64 a0_0, .int .u64 a0_1] 35 (0, 0)) (by (with_reducible repeat (first | refine blk_drewN ?_ _ | refine blk_drew ?_ | refine blk_alloc ?_ _)); exact BK101.out)) : gb101 ≠ gb112)); have n9_ := Aside0.mk ((by rw [hg]; exact Nat.ne_of_gt (blk_lt (g := gb101) (o := .cells #[.int .u64 a0_0, .int .u64 a0_1] 35 (0, 0)) (by (with_reducible repeat (first | refine blk_drewN ?_ _ | refine blk_drew ?_ | refine blk_alloc ?_ _)); exact BK101.out)) : gb112 ≠ gb101)); have n10_ := Aside0.mk ((by rw [hg]; exact Nat.ne_of_lt (blk_lt (g := gb102) (o := .cells #[.int .u64 a1_0, .int .u64 a1_1] 35 (0, 0)) (by (with_reducible repeat (first | refine blk_drewN ?_ _ | refine blk_drew ?_ | refine blk_alloc ?_ _)); exact BK102.out)) : gb102 ≠ gb112)); have n11_ := Aside0.mk ((by rw [hg]; exact Nat.ne_of_gt (blk_lt (g := gb102) (o := .cells #[.int .u64 a1_0, .int .u64 a1_1] 35 (0, 0)) (by (with_reducible repeat (first | refine blk_drewN ?_ _ | refine blk_drew ?_ | refine blk_alloc ?_ _)); exact BK102.out)) : gb112 ≠ gb102)); have n12_ := Aside0.mk ((by rw [hg]; exact Nat.ne_of_lt (blk_lt (g := gb103) (o := .cells #[.int .u64 0, .int .u64 0] 35 (0, 0)) (by (with_reducible repeat (first | refine blk_drewN ?_ _ | refine blk_drew ?_ | refine blk_alloc ?_ _)); exact BK103.out)) : gb103 ≠ gb112)); have n13_ := Aside0.mk ((by rw [hg]; exact Nat.ne_of_gt (blk_lt (g := gb103) (o := .cells #[.int .u64 0, .int .u64 0] 35 (0, 0)) (by (with_reducible repeat (first | refine blk_drewN ?_ _ | refine blk_drew ?_ | refine blk_alloc ?_ _)); exact BK103.out)) : gb112 ≠ gb103)); have n14_ := Aside0.mk ((by rw [hg]; exact Nat.ne_of_lt (blk_lt (g := gb106) (o := .cells #[.int .u64 x107000_2, .int .u64 t105] 35 (0, 0)) (by (with_reducible repeat (first | refine blk_drewN ?_ _ | refine blk_drew ?_ | refine blk_alloc ?_ _)); exact BK106.out)) : gb106 ≠ gb112)); have n15_ := Aside0.mk ((by rw [hg]; exact Nat.ne_of_gt (blk_lt (g := gb106) (o := .cells #[.int .u64 x107000_2, .int .u64 t105] 35 (0, 0)) (by (with_reducible repeat (first | refine blk_drewN ?_ _ | refine blk_drew ?_ | refine blk_alloc ?_ _)); exact BK106.out)) : gb112 ≠ gb106)); clear BK101; clear BK102; clear BK103; clear BK106; clear HB; have BK101 := n0_; have BK102 := n1_; have BK103 := n2_; have BK106 := n3_; have HB := n4_; have BK112 := n5_; have GW112 := n6_; have GE112 := n7_; have NB101_112 := n8_; have NB112_101 := n9_; have NB102_112 := n10_; have NB112_102 := n11_; have NB103_112 := n12_; have NB112_103 := n13_; have NB106_112 := n14_; have NB112_106 := n15_; clear n0_ n1_ n2_ n3_ n4_ n5_ n6_ n7_ n8_ n9_ n10_ n11_ n12_ n13_ n14_ n15_; clear hb hbox hg; have hnb82 := NB112_101.out; have hnc82 := NB101_112.out; have hnb83 := NB112_102.out; have hnc83 := NB102_112.out; have hnb84 := NB112_103.out; have hnc84 := NB103_112.out; have hnb85 := NB112_106.out; have hnc85 := NB106_112.out; have hcz86_0 : w81.cell? ⟨gb112, 0, none⟩ = some (.int .u64 0) := (blk_cell BK112.out 0).trans rfl; have hcz86_1 : w81.cell? ⟨gb112, 1, none⟩ = some (.int .u64 0) := (blk_cell BK112.out 1).trans rfl; have hfz86_0 := blk_frozen BK112.out 0; have hfz86_1 := blk_frozen BK112.out 1; have hnb87 := NB106_101.out; have hnc87 := NB101_106.out; have hnb88 := NB106_102.out; have hnc88 := NB102_106.out; have hnb89 := NB106_103.out; have hnc89 := NB103_106.out; have hcz90_0 : w81.cell? ⟨gb106, 0, none⟩ = some (.int .u64 x107000_2) := (blk_cell BK106.out 0).trans rfl; have hcz90_1 : w81.cell? ⟨gb106, 1, none⟩ = some (.int .u64 t105) := (blk_cell BK106.out 1).trans rfl; have hfz90_0 := blk_frozen BK106.out 0; have hfz90_1 := blk_frozen BK106.out 1))
                  have n0_ : Aside0 (((w81.setCell ⟨gb112, 0, none⟩ (.int .u64 t109)).setCell ⟨gb112, 1, none⟩ (.int .u64 t110)).heap[gb101]? = some (.cells #[.int .u64 a0_0, .int .u64 a0_1] 35 (0, 0))) := ⟨by (with_reducible repeat (first | refine blk_drewN ?_ _ | refine blk_drew ?_ | refine blk_alloc ?_ _)); refine blk_far ?_ NB101_112.out _; (with_reducible repeat (first | refine blk_drewN ?_ _ | refine blk_drew ?_ | refine blk_alloc ?_ _)); refine blk_far ?_ NB101_112.out _; (with_reducible repeat (first | refine blk_drewN ?_ _ | refine blk_drew ?_ | refine blk_alloc ?_ _)); exact BK101.out⟩
                  have n1_ : Aside0 (((w81.setCell ⟨gb112, 0, none⟩ (.int .u64 t109)).setCell ⟨gb112, 1, none⟩ (.int .u64 t110)).heap[gb102]? = some (.cells #[.int .u64 a1_0, .int .u64 a1_1] 35 (0, 0))) := ⟨by (with_reducible repeat (first | refine blk_drewN ?_ _ | refine blk_drew ?_ | refine blk_alloc ?_ _)); refine blk_far ?_ NB102_112.out _; (with_reducible repeat (first | refine blk_drewN ?_ _ | refine blk_drew ?_ | refine blk_alloc ?_ _)); refine blk_far ?_ NB102_112.out _; (with_reducible repeat (first | refine blk_drewN ?_ _ | refine blk_drew ?_ | refine blk_alloc ?_ _)); exact BK102.out⟩
                  have n2_ : Aside0 (((w81.setCell ⟨gb112, 0, none⟩ (.int .u64 t109)).setCell ⟨gb112, 1, none⟩ (.int .u64 t110)).heap[gb103]? = some (.cells #[.int .u64 0, .int .u64 0] 35 (0, 0))) := ⟨by (with_reducible repeat (first | refine blk_drewN ?_ _ | refine blk_drew ?_ | refine blk_alloc ?_ _)); refine blk_far ?_ NB103_112.out _; (with_reducible repeat (first | refine blk_drewN ?_ _ | refine blk_drew ?_ | refine blk_alloc ?_ _)); refine blk_far ?_ NB103_112.out _; (with_reducible repeat (first | refine blk_drewN ?_ _ | refine blk_drew ?_ | refine blk_alloc ?_ _)); exact BK103.out⟩
                  have n3_ : Aside0 (((w81.setCell ⟨gb112, 0, none⟩ (.int .u64 t109)).setCell ⟨gb112, 1, none⟩ (.int .u64 t110)).heap[gb106]? = some (.cells #[.int .u64 x107000_2, .int .u64 t105] 35 (0, 0))) := ⟨by (with_reducible repeat (first | refine blk_drewN ?_ _ | refine blk_drew ?_ | refine blk_alloc ?_ _)); refine blk_far ?_ NB106_112.out _; (with_reducible repeat (first | refine blk_drewN ?_ _ | refine blk_drew ?_ | refine blk_alloc ?_ _)); refine blk_far ?_ NB106_112.out _; (with_reducible repeat (first | refine blk_drewN ?_ _ | refine blk_drew ?_ | refine blk_alloc ?_ _)); exact BK106.out⟩
                  have n4_ : Aside0 (((w81.setCell ⟨gb112, 0, none⟩ (.int .u64 t109)).setCell ⟨gb112, 1, none⟩ (.int .u64 t110)).heap[gb112]? = some (.cells #[.int .u64 t109, .int .u64 t110] 35 (0, 0))) := ⟨by (with_reducible repeat (first | refine blk_drewN ?_ _ | refine blk_drew ?_ | refine blk_alloc ?_ _)); refine blk_put (cs := #[.int .u64 t109, .int .u64 0]) ?_ 1 _ rfl; (with_reducible repeat (first | refine blk_drewN ?_ _ | refine blk_drew ?_ | refine blk_alloc ?_ _)); refine blk_put (cs := #[.int .u64 0, .int .u64 0]) ?_ 0 _ rfl; (with_reducible repeat (first | refine blk_drewN ?_ _ | refine blk_drew ?_ | refine blk_alloc ?_ _)); exact BK112.out⟩
                  have n5_ : Aside0 (Below w.heap.size w ((w81.setCell ⟨gb112, 0, none⟩ (.int .u64 t109)).setCell ⟨gb112, 1, none⟩ (.int .u64 t110))) := ⟨by repeat (first | (with_reducible first | exact HB.out | apply below_alloc | apply pw_below_drewN | apply below_drew1 | refine below_set ?_ GE101.out | refine below_set ?_ GE102.out | refine below_set ?_ GE103.out | refine below_set ?_ GE106.out | refine below_set ?_ GE112.out) | exact HB.out)⟩
                  (try clear BK101)
                  (try clear BK102)
                  (try clear BK103)
                  (try clear BK106)
                  (try clear BK112)
                  (try clear HB)
                  generalize ((w81.setCell ⟨gb112, 0, none⟩ (.int .u64 t109)).setCell ⟨gb112, 1, none⟩ (.int .u64 t110)) = w91 at n0_ n1_ n2_ n3_ n4_ n5_ ⊢
                  have BK101 := n0_
                  have BK102 := n1_
                  have BK103 := n2_
                  have BK106 := n3_
                  have BK112 := n4_
                  have HB := n5_
                  clear n0_ n1_ n2_ n3_ n4_ n5_
                  have n0_ := Aside0.mk (blk_drew BK101.out)
                  have n1_ := Aside0.mk (blk_drew BK102.out)
                  have n2_ := Aside0.mk (blk_drew BK103.out)
                  have n3_ := Aside0.mk (blk_drew BK106.out)
                  have n4_ := Aside0.mk (blk_drew BK112.out)
                  have n5_ := Aside0.mk (below_drew1 HB.out)
                  clear BK101
                  clear BK102
                  clear BK103
                  clear BK106
                  clear BK112
                  clear HB
                  have BK101 := n0_
                  have BK102 := n1_
                  have BK103 := n2_
                  have BK106 := n3_
                  have BK112 := n4_
                  have HB := n5_
                  clear n0_ n1_ n2_ n3_ n4_ n5_
                  refine start_ (n := 14) (S := fun w' => True) (ds := []) #[false, false, false, false, false, false, false, false, false, false, false, false, false, false] (by kernel_rfl) rfl rfl trivial (fun hHeld => ?_); refine with_tabW wide_Times.tab7 wide_Times.bits7 (fun HT_ HW_ => ?_)
                  generalize w91.drew = w92 at BK101 BK102 BK103 BK106 BK112 HB hHeld ⊢
                  refine pure_ (i := 0) (N := some 47) (v := ?_) (a' := ?_) #[true, false, false, false, false, false, false, false, false, false, false, false, false, false] rfl rfl (any_of HT_.out (by kernel_rfl)) (fun _ _ _ h => h) (Or.inl ⟨by rfl, ?_⟩) ?_ ?_
                  rotate_left
                  · intro w'
                    go_simp
                    with_reducible rfl
                  rotate_left
                  · simp only [Act.put, List.setIfInBounds_toArray, List.set_cons_zero, List.set_cons_succ, i64_w, i32_w]
                    rfl
                  refine pure_ (i := 1) (N := some 48) (v := ?_) (a' := ?_) #[true, true, false, false, false, false, false, false, false, false, false, false, false, false] rfl rfl (any_of HT_.out (by kernel_rfl)) (fun _ _ _ h => h) (Or.inl ⟨by rfl, ?_⟩) ?_ ?_
                  rotate_left
                  · intro w'
                    go_simp
                    with_reducible rfl
                  rotate_left
                  · simp only [Act.put, List.setIfInBounds_toArray, List.set_cons_zero, List.set_cons_succ, i64_w, i32_w]
                    rfl
                  refine pure_ (i := 2) (N := some 49) (v := ?_) (a' := ?_) #[true, true, true, false, false, false, false, false, false, false, false, false, false, false] rfl rfl (any_of HT_.out (by kernel_rfl)) (fun _ _ _ h => h) (Or.inl ⟨by rfl, ?_⟩) ?_ ?_
                  rotate_left
                  · intro w'
                    go_simp
                    with_reducible rfl
                  rotate_left
                  · simp only [Act.put, List.setIfInBounds_toArray, List.set_cons_zero, List.set_cons_succ, i64_w, i32_w]
                    rfl
                  refine pure_ (i := 3) (N := some 50) (v := undef) (a' := ?_) #[true, true, true, true, false, false, false, false, false, false, false, false, false, false] rfl rfl (any_of HT_.out (by kernel_rfl)) (fun _ _ _ h => h) (Or.inr ⟨by rfl, rfl⟩) ?_ ?_
                  rotate_left
                  · simp only [Act.put, List.setIfInBounds_toArray, List.set_cons_zero, List.set_cons_succ, i64_w, i32_w]
                    rfl
                  refine pure_ (i := 4) (N := some 51) (v := undef) (a' := ?_) #[true, true, true, true, true, false, false, false, false, false, false, false, false, false] rfl rfl (any_of HT_.out (by kernel_rfl)) (fun _ _ _ h => h) (Or.inr ⟨by rfl, rfl⟩) ?_ ?_
                  rotate_left
                  · simp only [Act.put, List.setIfInBounds_toArray, List.set_cons_zero, List.set_cons_succ, i64_w, i32_w]
                    rfl
                  refine pure_ (i := 5) (N := some 52) (v := ?_) (a' := ?_) #[true, true, true, true, true, true, false, false, false, false, false, false, false, false] rfl rfl (any_of HT_.out (by kernel_rfl)) (fun _ _ _ h => h) (Or.inl ⟨by rfl, ?_⟩) ?_ ?_
                  rotate_left
                  · intro w'
                    go_simp
                    with_reducible rfl
                  rotate_left
                  · simp only [Act.put, List.setIfInBounds_toArray, List.set_cons_zero, List.set_cons_succ, i64_w, i32_w]
                    rfl
                  refine pure_ (i := 6) (N := some 53) (v := ?_) (a' := ?_) #[true, true, true, true, true, true, true, false, false, false, false, false, false, false] rfl rfl (any_of HT_.out (by kernel_rfl)) (fun _ _ _ h => h) (Or.inl ⟨by rfl, ?_⟩) ?_ ?_
                  rotate_left
                  · intro w'
                    go_simp
                    with_reducible rfl
                  rotate_left
                  · simp only [Act.put, List.setIfInBounds_toArray, List.set_cons_zero, List.set_cons_succ, i64_w, i32_w]
                    rfl
                  refine pure_ (i := 7) (N := some 54) (v := undef) (a' := ?_) #[true, true, true, true, true, true, true, true, false, false, false, false, false, false] rfl rfl (any_of HT_.out (by kernel_rfl)) (fun _ _ _ h => h) (Or.inr ⟨by rfl, rfl⟩) ?_ ?_
                  rotate_left
                  · simp only [Act.put, List.setIfInBounds_toArray, List.set_cons_zero, List.set_cons_succ, i64_w, i32_w]
                    rfl
                  refine pure_ (i := 8) (N := some 55) (v := undef) (a' := ?_) #[true, true, true, true, true, true, true, true, true, false, false, false, false, false] rfl rfl (any_of HT_.out (by kernel_rfl)) (fun _ _ _ h => h) (Or.inr ⟨by rfl, rfl⟩) ?_ ?_
                  rotate_left
                  · simp only [Act.put, List.setIfInBounds_toArray, List.set_cons_zero, List.set_cons_succ, i64_w, i32_w]
                    rfl
                  refine pure_ (i := 9) (N := some 56) (v := undef) (a' := ?_) #[true, true, true, true, true, true, true, true, true, true, false, false, false, false] rfl rfl (any_of HT_.out (by kernel_rfl)) (fun _ _ _ h => h) (Or.inr ⟨by rfl, rfl⟩) ?_ ?_
                  rotate_left
                  · simp only [Act.put, List.setIfInBounds_toArray, List.set_cons_zero, List.set_cons_succ, i64_w, i32_w]
                    rfl
                  refine pure_ (i := 10) (N := some 57) (v := ?_) (a' := ?_) #[true, true, true, true, true, true, true, true, true, true, true, false, false, false] rfl rfl (any_of HT_.out (by kernel_rfl)) (fun _ _ _ h => h) (Or.inl ⟨by rfl, ?_⟩) ?_ ?_
                  rotate_left
                  · intro w'
                    go_simp
                    with_reducible rfl
                  rotate_left
                  · simp only [Act.put, List.setIfInBounds_toArray, List.set_cons_zero, List.set_cons_succ, i64_w, i32_w]
                    rfl
                  refine pure_ (i := 11) (N := some 58) (v := ?_) (a' := ?_) #[true, true, true, true, true, true, true, true, true, true, true, true, false, false] rfl rfl (any_of HT_.out (by kernel_rfl)) (fun _ _ _ h => h) (Or.inl ⟨by rfl, ?_⟩) ?_ ?_
                  rotate_left
                  · intro w'
                    go_simp
                    with_reducible rfl
                  rotate_left
                  · simp only [Act.put, List.setIfInBounds_toArray, List.set_cons_zero, List.set_cons_succ, i64_w, i32_w]
                    rfl
                  refine one_ (i := 12) (N := none) #[true, true, true, true, true, true, true, true, true, true, true, true, true, false] rfl rfl (one_of HT_.out (by kernel_rfl)) (by decide) (fun K hK => ?_)
                  have hs93 : w92.cell? ⟨gb106, 0, none⟩ = some (.int .u64 x107000_2) := (blk_cell BK106.out 0).trans rfl
                  have hfs93 := blk_frozen BK106.out 0
                  have hns93_0 := NB101_106.out
                  have hns93_1 := NB102_106.out
                  have hns93_2 := NB103_106.out
                  have hns93_4 := NB112_106.out
                  have hms93_0 := NB106_101.out
                  have hms93_1 := NB106_102.out
                  have hms93_2 := NB106_103.out
                  have hms93_4 := NB106_112.out
                  refine skip_ (w1 := ?_) (by rfl) rfl ?_ ?_
                  rotate_left
                  · go_simp
                    rfl
                  refine hK.out _ _ trivial (fun hHeld => ?_)
                  clear hK K
                  refine pure_ (i := 13) (N := some 7) (v := ?_) (a' := ?_) #[true, true, true, true, true, true, true, true, true, true, true, true, true, true] rfl rfl (any_of HT_.out (by kernel_rfl)) (fun _ _ _ h => h) (Or.inl ⟨by rfl, ?_⟩) ?_ ?_
                  rotate_left
                  · intro w'
                    go_simp
                    with_reducible rfl
                  rotate_left
                  · simp only [Act.put, List.setIfInBounds_toArray, List.set_cons_zero, List.set_cons_succ, i64_w, i32_w]
                    rfl
                  refine done_ (done_of HT_.out (by kernel_rfl)) ?_
                  try go_wp2
                  go_roundg k2
                  case measure => have := HJ3.out; have := HK2.out; omega
                  case rel => exact ⟨(true), (2), (a64lo x107000_2 t110 0), (by first | rfl | (simp; done) | (simp [*]; done)), (by first | rfl | (simp; done) | (simp [*]; done)), H', ⟨by have := HJ3.out; have := HK2.out; omega⟩, ⟨by (with_reducible repeat (first | refine blk_drewN ?_ _ | refine blk_drew ?_ | refine blk_alloc ?_ _)); refine blk_far ?_ NB101_106.out _; (with_reducible repeat (first | refine blk_drewN ?_ _ | refine blk_drew ?_ | refine blk_alloc ?_ _)); exact BK101.out⟩, ⟨by (with_reducible repeat (first | refine blk_drewN ?_ _ | refine blk_drew ?_ | refine blk_alloc ?_ _)); refine blk_far ?_ NB102_106.out _; (with_reducible repeat (first | refine blk_drewN ?_ _ | refine blk_drew ?_ | refine blk_alloc ?_ _)); exact BK102.out⟩, ⟨by (with_reducible repeat (first | refine blk_drewN ?_ _ | refine blk_drew ?_ | refine blk_alloc ?_ _)); refine blk_far ?_ NB103_106.out _; (with_reducible repeat (first | refine blk_drewN ?_ _ | refine blk_drew ?_ | refine blk_alloc ?_ _)); exact BK103.out⟩, ⟨by (with_reducible repeat (first | refine blk_drewN ?_ _ | refine blk_drew ?_ | refine blk_alloc ?_ _)); refine blk_put (cs := #[.int .u64 x107000_2, .int .u64 t105]) ?_ 0 _ rfl; (with_reducible repeat (first | refine blk_drewN ?_ _ | refine blk_drew ?_ | refine blk_alloc ?_ _)); exact BK106.out⟩, ⟨by repeat (first | (with_reducible first | exact HB.out | apply below_alloc | apply pw_below_drewN | apply below_drew1 | refine below_set ?_ GE101.out | refine below_set ?_ GE102.out | refine below_set ?_ GE103.out | refine below_set ?_ GE106.out | refine below_set ?_ GE112.out) | exact HB.out)⟩⟩
                · replace c80 := Bool.eq_false_iff.mpr c80
                  subst c80
                  have H1 : (if (a64hi x107000_2 t110 0) > 0 then (wide_Times.l0 k2 true 2 t107 t108 t109 t110 (a64lo x107000_2 t110 0) t105) else (wide_Times.l0 k2 (decide (t109 > 0)) 2 t107 t108 t109 t110 (a64lo x107000_2 t110 0) t105)) = some (r1, r2, r3) := by rw [if_neg (show ¬ (false = true) by decide)] at H; exact H
                  clear H
                  have H := H1
                  clear H1
                  by_cases c94 : (a64hi x107000_2 t110 0) > 0
                  · rw [if_pos c94] at H
                    have c94b0 : decide (0 < (a64hi x107000_2 t110 0)) = true := decide_eq_true c94
                    clear c94
                    have H' := Aside0.mk H
                    clear H
                    try go_wp2_with (first | ((with_reducible refine gate_dst (N := 9) rfl ?_); refine box_event ?hg (N := 9) ?hd (cs := #[.int .u64 0, .int .u64 0]) (t := 35) ?hr ?_; (case hd => rfl); (case hg => rfl); (case hr => first | (go_simp; done) | (go_simp; rfl)); intro gb112 hg w95 hbox hb; have n0_ := Aside0.mk (blk_below (g := gb101) (o := .cells #[.int .u64 a0_0, .int .u64 a0_1] 35 (0, 0)) (by (with_reducible repeat (first | refine blk_drewN ?_ _ | refine blk_drew ?_ | refine blk_alloc ?_ _)); exact BK101.out) hb); have n1_ := Aside0.mk (blk_below (g := gb102) (o := .cells #[.int .u64 a1_0, .int .u64 a1_1] 35 (0, 0)) (by (with_reducible repeat (first | refine blk_drewN ?_ _ | refine blk_drew ?_ | refine blk_alloc ?_ _)); exact BK102.out) hb); have n2_ := Aside0.mk (blk_below (g := gb103) (o := .cells #[.int .u64 0, .int .u64 0] 35 (0, 0)) (by (with_reducible repeat (first | refine blk_drewN ?_ _ | refine blk_drew ?_ | refine blk_alloc ?_ _)); exact BK103.out) hb); have n3_ := Aside0.mk (blk_below (g := gb106) (o := .cells #[.int .u64 x107000_2, .int .u64 t105] 35 (0, 0)) (by (with_reducible repeat (first | refine blk_drewN ?_ _ | refine blk_drew ?_ | refine blk_alloc ?_ _)); exact BK106.out) hb); have n4_ := Aside0.mk (below_step (by repeat (first | (with_reducible first | exact HB.out | apply below_alloc | apply pw_below_drewN | apply below_drew1 | refine below_set ?_ GE101.out | refine below_set ?_ GE102.out | refine below_set ?_ GE103.out | refine below_set ?_ GE106.out) | exact HB.out)) hb); have n5_ := Aside0.mk (hbox); have n6_ := Aside0.mk ((by rw [hg]; exact (below_size (by repeat (first | (with_reducible first | exact HB.out | apply below_alloc | apply pw_below_drewN | apply below_drew1 | refine below_set ?_ GE101.out | refine below_set ?_ GE102.out | refine below_set ?_ GE103.out | refine below_set ?_ GE106.out) | exact HB.out))) : w.heap.size ≤ gb112)); have n7_ := Aside0.mk ((by rw [hg]; exact (below_size (by repeat (first | (with_reducible first | exact HB.out | apply below_alloc | apply pw_below_drewN | apply below_drew1 | refine below_set ?_ GE101.out | refine below_set ?_ GE102.out | refine below_set ?_ GE103.out | refine below_set ?_ GE106.out) | exact HB.out))) : w.heap.size ≤ gb112)); have n8_ := Aside0.mk ((by rw [hg]; exact Nat.ne_of_lt (blk_lt (g := gb101) (o := .cells #[.int .u64 a0_0, .int .u64 a0_1] 35 (0, 0)) (by (with_reducible repeat (first | refine blk_drewN ?_ _ | refine blk_drew ?_ | refine blk_alloc ?_ _)); exact BK101.out)) : gb101 ≠ gb112)); have n9_ := Aside0.mk ((by rw [hg]; exact Nat.ne_of_gt (blk_lt (g := gb101) (o := .cells #[.int .u64 a0_0, .int .u64 a0_1] 35 (0, 0)) (by (with_reducible repeat (first | refine blk_drewN ?_ _ | refine blk_drew ?_ | refine blk_alloc ?_ _)); exact BK101.out)) : gb112 ≠ gb101)); have n10_ := Aside0.mk ((by rw [hg]; exact Nat.ne_of_lt (blk_lt (g := gb102) (o := .cells #[.int .u64 a1_0, .int .u64 a1_1] 35 (0, 0)) (by (with_reducible repeat (first | refine blk_drewN ?_ _ | refine blk_drew ?_ | refine blk_alloc ?_ _)); exact BK102.out)) : gb102 ≠ gb112)); have n11_ := Aside0.mk ((by rw [hg]; exact Nat.ne_of_gt (blk_lt (g := gb102) (o := .cells #[.int .u64 a1_0, .int .u64 a1_1] 35 (0, 0)) (by (with_reducible repeat (first | refine blk_drewN ?_ _ | refine blk_drew ?_ | refine blk_alloc ?_ _)); exact BK102.out)) : gb112 ≠ gb102)); have n12_ := Aside0.mk ((by rw [hg]; exact Nat.ne_of_lt (blk_lt (g := gb103) (o := .cells #[.int .u64 0, .int .u64 0] 35 (0, 0)) (by (with_reducible repeat (first | refine blk_drewN ?_ _ | refine blk_drew ?_ | refine blk_alloc ?_ _)); exact BK103.out)) : gb103 ≠ gb112)); have n13_ := Aside0.mk ((by rw [hg]; exact Nat.ne_of_gt (blk_lt (g := gb103) (o := .cells #[.int .u64 0, .int .u64 0] 35 (0, 0)) (by (with_reducible repeat (first | refine blk_drewN ?_ _ | refine blk_drew ?_ | refine blk_alloc ?_ _)); exact BK103.out)) : gb112 ≠ gb103)); have n14_ := Aside0.mk ((by rw [hg]; exact Nat.ne_of_lt (blk_lt (g := gb106) (o := .cells #[.int .u64 x107000_2, .int .u64 t105] 35 (0, 0)) (by (with_reducible repeat (first | refine blk_drewN ?_ _ | refine blk_drew ?_ | refine blk_alloc ?_ _)); exact BK106.out)) : gb106 ≠ gb112)); have n15_ := Aside0.mk ((by rw [hg]; exact Nat.ne_of_gt (blk_lt (g := gb106) (o := .cells #[.int .u64 x107000_2, .int .u64 t105] 35 (0, 0)) (by (with_reducible repeat (first | refine blk_drewN ?_ _ | refine blk_drew ?_ | refine blk_alloc ?_ _)); exact BK106.out)) : gb112 ≠ gb106)); clear BK101; clear BK102; clear BK103; clear BK106; clear HB; have BK101 := n0_; have BK102 := n1_; have BK103 := n2_; have BK106 := n3_; have HB := n4_; have BK112 := n5_; have GW112 := n6_; have GE112 := n7_; have NB101_112 := n8_; have NB112_101 := n9_; have NB102_112 := n10_; have NB112_102 := n11_; have NB103_112 := n12_; have NB112_103 := n13_; have NB106_112 := n14_; have NB112_106 := n15_; clear n0_ n1_ n2_ n3_ n4_ n5_ n6_ n7_ n8_ n9_ n10_ n11_ n12_ n13_ n14_ n15_; clear hb hbox hg; have hnb96 := NB112_101.out; have hnc96 := NB101_112.out; have hnb97 := NB112_102.out; have hnc97 := NB102_112.out; have hnb98 := NB112_103.out; have hnc98 := NB103_112.out; have hnb99 := NB112_106.out; have hnc99 := NB106_112.out; have hcz100_0 : w95.cell? ⟨gb112, 0, none⟩ = some (.int .u64 0) := (blk_cell BK112.out 0).trans rfl; have hcz100_1 : w95.cell? ⟨gb112, 1, none⟩ = some (.int .u64 0) := (blk_cell BK112.out 1).trans rfl; have hfz100_0 := blk_frozen BK112.out 0; have hfz100_1 := blk_frozen BK112.out 1; have hnb101 := NB106_101.out; have hnc101 := NB101_106.out; have hnb102 := NB106_102.out; have hnc102 := NB102_106.out; have hnb103 := NB106_103.out; have hnc103 := NB103_106.out; have hcz104_0 : w95.cell? ⟨gb106, 0, none⟩ = some (.int .u64 x107000_2) := (blk_cell BK106.out 0).trans rfl; have hcz104_1 : w95.cell? ⟨gb106, 1, none⟩ = some (.int .u64 t105) := (blk_cell BK106.out 1).trans rfl; have hfz104_0 := blk_frozen BK106.out 0; have hfz104_1 := blk_frozen BK106.out 1))
                    have n0_ : Aside0 (((w95.setCell ⟨gb112, 0, none⟩ (.int .u64 t109)).setCell ⟨gb112, 1, none⟩ (.int .u64 t110)).heap[gb101]? = some (.cells #[.int .u64 a0_0, .int .u64 a0_1] 35 (0, 0))) := ⟨by (with_reducible repeat (first | refine blk_drewN ?_ _ | refine blk_drew ?_ | refine blk_alloc ?_ _)); refine blk_far ?_ NB101_112.out _; (with_reducible repeat (first | refine blk_drewN ?_ _ | refine blk_drew ?_ | refine blk_alloc ?_ _)); refine blk_far ?_ NB101_112.out _; (with_reducible repeat (first | refine blk_drewN ?_ _ | refine blk_drew ?_ | refine blk_alloc ?_ _)); exact BK101.out⟩
                    have n1_ : Aside0 (((w95.setCell ⟨gb112, 0, none⟩ (.int .u64 t109)).setCell ⟨gb112, 1, none⟩ (.int .u64 t110)).heap[gb102]? = some (.cells #[.int .u64 a1_0, .int .u64 a1_1] 35 (0, 0))) := ⟨by (with_reducible repeat (first | refine blk_drewN ?_ _ | refine blk_drew ?_ | refine blk_alloc ?_ _)); refine blk_far ?_ NB102_112.out _; (with_reducible repeat (first | refine blk_drewN ?_ _ | refine blk_drew ?_ | refine blk_alloc ?_ _)); refine blk_far ?_ NB102_112.out _; (with_reducible repeat (first | refine blk_drewN ?_ _ | refine blk_drew ?_ | refine blk_alloc ?_ _)); exact BK102.out⟩
                    have n2_ : Aside0 (((w95.setCell ⟨gb112, 0, none⟩ (.int .u64 t109)).setCell ⟨gb112, 1, none⟩ (.int .u64 t110)).heap[gb103]? = some (.cells #[.int .u64 0, .int .u64 0] 35 (0, 0))) := ⟨by (with_reducible repeat (first | refine blk_drewN ?_ _ | refine blk_drew ?_ | refine blk_alloc ?_ _)); refine blk_far ?_ NB103_112.out _; (with_reducible repeat (first | refine blk_drewN ?_ _ | refine blk_drew ?_ | refine blk_alloc ?_ _)); refine blk_far ?_ NB103_112.out _; (with_reducible repeat (first | refine blk_drewN ?_ _ | refine blk_drew ?_ | refine blk_alloc ?_ _)); exact BK103.out⟩
                    have n3_ : Aside0 (((w95.setCell ⟨gb112, 0, none⟩ (.int .u64 t109)).setCell ⟨gb112, 1, none⟩ (.int .u64 t110)).heap[gb106]? = some (.cells #[.int .u64 x107000_2, .int .u64 t105] 35 (0, 0))) := ⟨by (with_reducible repeat (first | refine blk_drewN ?_ _ | refine blk_drew ?_ | refine blk_alloc ?_ _)); refine blk_far ?_ NB106_112.out _; (with_reducible repeat (first | refine blk_drewN ?_ _ | refine blk_drew ?_ | refine blk_alloc ?_ _)); refine blk_far ?_ NB106_112.out _; (with_reducible repeat (first | refine blk_drewN ?_ _ | refine blk_drew ?_ | refine blk_alloc ?_ _)); exact BK106.out⟩
                    have n4_ : Aside0 (((w95.setCell ⟨gb112, 0, none⟩ (.int .u64 t109)).setCell ⟨gb112, 1, none⟩ (.int .u64 t110)).heap[gb112]? = some (.cells #[.int .u64 t109, .int .u64 t110] 35 (0, 0))) := ⟨by (with_reducible repeat (first | refine blk_drewN ?_ _ | refine blk_drew ?_ | refine blk_alloc ?_ _)); refine blk_put (cs := #[.int .u64 t109, .int .u64 0]) ?_ 1 _ rfl; (with_reducible repeat (first | refine blk_drewN ?_ _ | refine blk_drew ?_ | refine blk_alloc ?_ _)); refine blk_put (cs := #[.int .u64 0, .int .u64 0]) ?_ 0 _ rfl; (with_reducible repeat (first | refine blk_drewN ?_ _ | refine blk_drew ?_ | refine blk_alloc ?_ _)); exact BK112.out⟩
                    have n5_ : Aside0 (Below w.heap.size w ((w95.setCell ⟨gb112, 0, none⟩ (.int .u64 t109)).setCell ⟨gb112, 1, none⟩ (.int .u64 t110))) := ⟨by repeat (first | (with_reducible first | exact HB.out | apply below_alloc | apply pw_below_drewN | apply below_drew1 | refine below_set ?_ GE101.out | refine below_set ?_ GE102.out | refine below_set ?_ GE103.out | refine below_set ?_ GE106.out | refine below_set ?_ GE112.out) | exact HB.out)⟩
                    (try clear BK101)
                    (try clear BK102)
                    (try clear BK103)
                    (try clear BK106)
                    (try clear BK112)
                    (try clear HB)
                    generalize ((w95.setCell ⟨gb112, 0, none⟩ (.int .u64 t109)).setCell ⟨gb112, 1, none⟩ (.int .u64 t110)) = w105 at n0_ n1_ n2_ n3_ n4_ n5_ ⊢
                    have BK101 := n0_
                    have BK102 := n1_
                    have BK103 := n2_
                    have BK106 := n3_
                    have BK112 := n4_
                    have HB := n5_
                    clear n0_ n1_ n2_ n3_ n4_ n5_
                    have n0_ := Aside0.mk (blk_drew BK101.out)
                    have n1_ := Aside0.mk (blk_drew BK102.out)
                    have n2_ := Aside0.mk (blk_drew BK103.out)
                    have n3_ := Aside0.mk (blk_drew BK106.out)
                    have n4_ := Aside0.mk (blk_drew BK112.out)
                    have n5_ := Aside0.mk (below_drew1 HB.out)
                    clear BK101
                    clear BK102
                    clear BK103
                    clear BK106
                    clear BK112
                    clear HB
                    have BK101 := n0_
                    have BK102 := n1_
                    have BK103 := n2_
                    have BK106 := n3_
                    have BK112 := n4_
                    have HB := n5_
                    clear n0_ n1_ n2_ n3_ n4_ n5_
                    refine start_ (n := 14) (S := fun w' => True) (ds := []) #[false, false, false, false, false, false, false, false, false, false, false, false, false, false] (by kernel_rfl) rfl rfl trivial (fun hHeld => ?_); refine with_tabW wide_Times.tab7 wide_Times.bits7 (fun HT_ HW_ => ?_)
                    generalize w105.drew = w106 at BK101 BK102 BK103 BK106 BK112 HB hHeld ⊢
                    refine pure_ (i := 0) (N := some 47) (v := ?_) (a' := ?_) #[true, false, false, false, false, false, false, false, false, false, false, false, false, false] rfl rfl (any_of HT_.out (by kernel_rfl)) (fun _ _ _ h => h) (Or.inl ⟨by rfl, ?_⟩) ?_ ?_
                    rotate_left
                    · intro w'
                      go_simp
                      with_reducible rfl
                    rotate_left
                    · simp only [Act.put, List.setIfInBounds_toArray, List.set_cons_zero, List.set_cons_succ, i64_w, i32_w]
                      rfl
                    refine pure_ (i := 1) (N := some 48) (v := ?_) (a' := ?_) #[true, true, false, false, false, false, false, false, false, false, false, false, false, false] rfl rfl (any_of HT_.out (by kernel_rfl)) (fun _ _ _ h => h) (Or.inl ⟨by rfl, ?_⟩) ?_ ?_
                    rotate_left
                    · intro w'
                      go_simp
                      with_reducible rfl
                    rotate_left
                    · simp only [Act.put, List.setIfInBounds_toArray, List.set_cons_zero, List.set_cons_succ, i64_w, i32_w]
                      rfl
                    refine pure_ (i := 2) (N := some 49) (v := ?_) (a' := ?_) #[true, true, true, false, false, false, false, false, false, false, false, false, false, false] rfl rfl (any_of HT_.out (by kernel_rfl)) (fun _ _ _ h => h) (Or.inl ⟨by rfl, ?_⟩) ?_ ?_
                    rotate_left
                    · intro w'
                      go_simp
                      with_reducible rfl
                    rotate_left
                    · simp only [Act.put, List.setIfInBounds_toArray, List.set_cons_zero, List.set_cons_succ, i64_w, i32_w]
                      rfl
                    refine pure_ (i := 3) (N := some 50) (v := ?_) (a' := ?_) #[true, true, true, true, false, false, false, false, false, false, false, false, false, false] rfl rfl (any_of HT_.out (by kernel_rfl)) (fun _ _ _ h => h) (Or.inl ⟨by rfl, ?_⟩) ?_ ?_
                    rotate_left
                    · intro w'
                      go_simp
                      with_reducible rfl
                    rotate_left
                    · simp only [Act.put, List.setIfInBounds_toArray, List.set_cons_zero, List.set_cons_succ, i64_w, i32_w]
                      rfl
                    refine pure_ (i := 4) (N := some 51) (v := ?_) (a' := ?_) #[true, true, true, true, true, false, false, false, false, false, false, false, false, false] rfl rfl (any_of HT_.out (by kernel_rfl)) (fun _ _ _ h => h) (Or.inl ⟨by rfl, ?_⟩) ?_ ?_
                    rotate_left
                    · intro w'
                      go_simp
                      with_reducible rfl
                    rotate_left
                    · simp only [Act.put, List.setIfInBounds_toArray, List.set_cons_zero, List.set_cons_succ, i64_w, i32_w]
                      rfl
                    refine pure_ (i := 5) (N := some 52) (v := ?_) (a' := ?_) #[true, true, true, true, true, true, false, false, false, false, false, false, false, false] rfl rfl (any_of HT_.out (by kernel_rfl)) (fun _ _ _ h => h) (Or.inl ⟨by rfl, ?_⟩) ?_ ?_
                    rotate_left
                    · intro w'
                      go_simp
                      with_reducible rfl
                    rotate_left
                    · simp only [Act.put, List.setIfInBounds_toArray, List.set_cons_zero, List.set_cons_succ, i64_w, i32_w]
                      rfl
                    refine pure_ (i := 6) (N := some 53) (v := ?_) (a' := ?_) #[true, true, true, true, true, true, true, false, false, false, false, false, false, false] rfl rfl (any_of HT_.out (by kernel_rfl)) (fun _ _ _ h => h) (Or.inl ⟨by rfl, ?_⟩) ?_ ?_
                    rotate_left
                    · intro w'
                      go_simp
                      with_reducible rfl
                    rotate_left
                    · simp only [Act.put, List.setIfInBounds_toArray, List.set_cons_zero, List.set_cons_succ, i64_w, i32_w]
                      rfl
                    refine pure_ (i := 7) (N := some 54) (v := undef) (a' := ?_) #[true, true, true, true, true, true, true, true, false, false, false, false, false, false] rfl rfl (any_of HT_.out (by kernel_rfl)) (fun _ _ _ h => h) (Or.inr ⟨by rfl, rfl⟩) ?_ ?_
                    rotate_left
                    · simp only [Act.put, List.setIfInBounds_toArray, List.set_cons_zero, List.set_cons_succ, i64_w, i32_w]
                      rfl
                    refine pure_ (i := 8) (N := some 55) (v := undef) (a' := ?_) #[true, true, true, true, true, true, true, true, true, false, false, false, false, false] rfl rfl (any_of HT_.out (by kernel_rfl)) (fun _ _ _ h => h) (Or.inr ⟨by rfl, rfl⟩) ?_ ?_
                    rotate_left
                    · simp only [Act.put, List.setIfInBounds_toArray, List.set_cons_zero, List.set_cons_succ, i64_w, i32_w]
                      rfl
                    refine pure_ (i := 9) (N := some 56) (v := undef) (a' := ?_) #[true, true, true, true, true, true, true, true, true, true, false, false, false, false] rfl rfl (any_of HT_.out (by kernel_rfl)) (fun _ _ _ h => h) (Or.inr ⟨by rfl, rfl⟩) ?_ ?_
                    rotate_left
                    · simp only [Act.put, List.setIfInBounds_toArray, List.set_cons_zero, List.set_cons_succ, i64_w, i32_w]
                      rfl
                    refine pure_ (i := 10) (N := some 57) (v := ?_) (a' := ?_) #[true, true, true, true, true, true, true, true, true, true, true, false, false, false] rfl rfl (any_of HT_.out (by kernel_rfl)) (fun _ _ _ h => h) (Or.inl ⟨by rfl, ?_⟩) ?_ ?_
                    rotate_left
                    · intro w'
                      go_simp
                      with_reducible rfl
                    rotate_left
                    · simp only [Act.put, List.setIfInBounds_toArray, List.set_cons_zero, List.set_cons_succ, i64_w, i32_w]
                      rfl
                    refine pure_ (i := 11) (N := some 58) (v := ?_) (a' := ?_) #[true, true, true, true, true, true, true, true, true, true, true, true, false, false] rfl rfl (any_of HT_.out (by kernel_rfl)) (fun _ _ _ h => h) (Or.inl ⟨by rfl, ?_⟩) ?_ ?_
                    rotate_left
                    · intro w'
                      go_simp
                      with_reducible rfl
                    rotate_left
                    · simp only [Act.put, List.setIfInBounds_toArray, List.set_cons_zero, List.set_cons_succ, i64_w, i32_w]
                      rfl
                    refine one_ (i := 12) (N := none) #[true, true, true, true, true, true, true, true, true, true, true, true, true, false] rfl rfl (one_of HT_.out (by kernel_rfl)) (by decide) (fun K hK => ?_)
                    have hs107 : w106.cell? ⟨gb106, 0, none⟩ = some (.int .u64 x107000_2) := (blk_cell BK106.out 0).trans rfl
                    have hfs107 := blk_frozen BK106.out 0
                    have hns107_0 := NB101_106.out
                    have hns107_1 := NB102_106.out
                    have hns107_2 := NB103_106.out
                    have hns107_4 := NB112_106.out
                    have hms107_0 := NB106_101.out
                    have hms107_1 := NB106_102.out
                    have hms107_2 := NB106_103.out
                    have hms107_4 := NB106_112.out
                    refine skip_ (w1 := ?_) (by rfl) rfl ?_ ?_
                    rotate_left
                    · go_simp
                      rfl
                    refine hK.out _ _ trivial (fun hHeld => ?_)
                    clear hK K
                    refine pure_ (i := 13) (N := some 7) (v := ?_) (a' := ?_) #[true, true, true, true, true, true, true, true, true, true, true, true, true, true] rfl rfl (any_of HT_.out (by kernel_rfl)) (fun _ _ _ h => h) (Or.inl ⟨by rfl, ?_⟩) ?_ ?_
                    rotate_left
                    · intro w'
                      go_simp
                      with_reducible rfl
                    rotate_left
                    · simp only [Act.put, List.setIfInBounds_toArray, List.set_cons_zero, List.set_cons_succ, i64_w, i32_w]
                      rfl
                    refine done_ (done_of HT_.out (by kernel_rfl)) ?_
                    try go_wp2
                    go_roundg k2
                    case measure => have := HJ3.out; have := HK2.out; omega
                    case rel => exact ⟨(true), (2), (a64lo x107000_2 t110 0), (by first | rfl | (simp; done) | (simp [*]; done)), (by first | rfl | (simp; done) | (simp [*]; done)), H', ⟨by have := HJ3.out; have := HK2.out; omega⟩, ⟨by (with_reducible repeat (first | refine blk_drewN ?_ _ | refine blk_drew ?_ | refine blk_alloc ?_ _)); refine blk_far ?_ NB101_106.out _; (with_reducible repeat (first | refine blk_drewN ?_ _ | refine blk_drew ?_ | refine blk_alloc ?_ _)); exact BK101.out⟩, ⟨by (with_reducible repeat (first | refine blk_drewN ?_ _ | refine blk_drew ?_ | refine blk_alloc ?_ _)); refine blk_far ?_ NB102_106.out _; (with_reducible repeat (first | refine blk_drewN ?_ _ | refine blk_drew ?_ | refine blk_alloc ?_ _)); exact BK102.out⟩, ⟨by (with_reducible repeat (first | refine blk_drewN ?_ _ | refine blk_drew ?_ | refine blk_alloc ?_ _)); refine blk_far ?_ NB103_106.out _; (with_reducible repeat (first | refine blk_drewN ?_ _ | refine blk_drew ?_ | refine blk_alloc ?_ _)); exact BK103.out⟩, ⟨by (with_reducible repeat (first | refine blk_drewN ?_ _ | refine blk_drew ?_ | refine blk_alloc ?_ _)); refine blk_put (cs := #[.int .u64 x107000_2, .int .u64 t105]) ?_ 0 _ rfl; (with_reducible repeat (first | refine blk_drewN ?_ _ | refine blk_drew ?_ | refine blk_alloc ?_ _)); exact BK106.out⟩, ⟨by repeat (first | (with_reducible first | exact HB.out | apply below_alloc | apply pw_below_drewN | apply below_drew1 | refine below_set ?_ GE101.out | refine below_set ?_ GE102.out | refine below_set ?_ GE103.out | refine below_set ?_ GE106.out | refine below_set ?_ GE112.out) | exact HB.out)⟩⟩
                  · rw [if_neg c94] at H
                    have c94b0 : decide (0 < (a64hi x107000_2 t110 0)) = false := decide_eq_false c94
                    clear c94
                    have H' := Aside0.mk H
                    clear H
                    try go_wp2_with (first | ((with_reducible refine gate_dst (N := 9) rfl ?_); refine box_event ?hg (N := 9) ?hd (cs := #[.int .u64 0, .int .u64 0]) (t := 35) ?hr ?_; (case hd => rfl); (case hg => rfl); (case hr => first | (go_simp; done) | (go_simp; rfl)); intro gb112 hg w108 hbox hb; have n0_ := Aside0.mk (blk_below (g := gb101) (o := .cells #[.int .u64 a0_0, .int .u64 a0_1] 35 (0, 0)) (by (with_reducible repeat (first | refine blk_drewN ?_ _ | refine blk_drew ?_ | refine blk_alloc ?_ _)); exact BK101.out) hb); have n1_ := Aside0.mk (blk_below (g := gb102) (o := .cells #[.int .u64 a1_0, .int .u64 a1_1] 35 (0, 0)) (by (with_reducible repeat (first | refine blk_drewN ?_ _ | refine blk_drew ?_ | refine blk_alloc ?_ _)); exact BK102.out) hb); have n2_ := Aside0.mk (blk_below (g := gb103) (o := .cells #[.int .u64 0, .int .u64 0] 35 (0, 0)) (by (with_reducible repeat (first | refine blk_drewN ?_ _ | refine blk_drew ?_ | refine blk_alloc ?_ _)); exact BK103.out) hb); have n3_ := Aside0.mk (blk_below (g := gb106) (o := .cells #[.int .u64 x107000_2, .int .u64 t105] 35 (0, 0)) (by (with_reducible repeat (first | refine blk_drewN ?_ _ | refine blk_drew ?_ | refine blk_alloc ?_ _)); exact BK106.out) hb); have n4_ := Aside0.mk (below_step (by repeat (first | (with_reducible first | exact HB.out | apply below_alloc | apply pw_below_drewN | apply below_drew1 | refine below_set ?_ GE101.out | refine below_set ?_ GE102.out | refine below_set ?_ GE103.out | refine below_set ?_ GE106.out) | exact HB.out)) hb); have n5_ := Aside0.mk (hbox); have n6_ := Aside0.mk ((by rw [hg]; exact (below_size (by repeat (first | (with_reducible first | exact HB.out | apply below_alloc | apply pw_below_drewN | apply below_drew1 | refine below_set ?_ GE101.out | refine below_set ?_ GE102.out | refine below_set ?_ GE103.out | refine below_set ?_ GE106.out) | exact HB.out))) : w.heap.size ≤ gb112)); have n7_ := Aside0.mk ((by rw [hg]; exact (below_size (by repeat (first | (with_reducible first | exact HB.out | apply below_alloc | apply pw_below_drewN | apply below_drew1 | refine below_set ?_ GE101.out | refine below_set ?_ GE102.out | refine below_set ?_ GE103.out | refine below_set ?_ GE106.out) | exact HB.out))) : w.heap.size ≤ gb112)); have n8_ := Aside0.mk ((by rw [hg]; exact Nat.ne_of_lt (blk_lt (g := gb101) (o := .cells #[.int .u64 a0_0, .int .u64 a0_1] 35 (0, 0)) (by (with_reducible repeat (first | refine blk_drewN ?_ _ | refine blk_drew ?_ | refine blk_alloc ?_ _)); exact BK101.out)) : gb101 ≠ gb112)); have n9_ := Aside0.mk ((by rw [hg]; exact Nat.ne_of_gt (blk_lt (g := gb101) (o := .cells #[.int .u64 a0_0, .int .u64 a0_1] 35 (0, 0)) (by (with_reducible repeat (first | refine blk_drewN ?_ _ | refine blk_drew ?_ | refine blk_alloc ?_ _)); exact BK101.out)) : gb112 ≠ gb101)); have n10_ := Aside0.mk ((by rw [hg]; exact Nat.ne_of_lt (blk_lt (g := gb102) (o := .cells #[.int .u64 a1_0, .int .u64 a1_1] 35 (0, 0)) (by (with_reducible repeat (first | refine blk_drewN ?_ _ | refine blk_drew ?_ | refine blk_alloc ?_ _)); exact BK102.out)) : gb102 ≠ gb112)); have n11_ := Aside0.mk ((by rw [hg]; exact Nat.ne_of_gt (blk_lt (g := gb102) (o := .cells #[.int .u64 a1_0, .int .u64 a1_1] 35 (0, 0)) (by (with_reducible repeat (first | refine blk_drewN ?_ _ | refine blk_drew ?_ | refine blk_alloc ?_ _)); exact BK102.out)) : gb112 ≠ gb102)); have n12_ := Aside0.mk ((by rw [hg]; exact Nat.ne_of_lt (blk_lt (g := gb103) (o := .cells #[.int .u64 0, .int .u64 0] 35 (0, 0)) (by (with_reducible repeat (first | refine blk_drewN ?_ _ | refine blk_drew ?_ | refine blk_alloc ?_ _)); exact BK103.out)) : gb103 ≠ gb112)); have n13_ := Aside0.mk ((by rw [hg]; exact Nat.ne_of_gt (blk_lt (g := gb103) (o := .cells #[.int .u64 0, .int .u64 0] 35 (0, 0)) (by (with_reducible repeat (first | refine blk_drewN ?_ _ | refine blk_drew ?_ | refine blk_alloc ?_ _)); exact BK103.out)) : gb112 ≠ gb103)); have n14_ := Aside0.mk ((by rw [hg]; exact Nat.ne_of_lt (blk_lt (g := gb106) (o := .cells #[.int .u64 x107000_2, .int .u64 t105] 35 (0, 0)) (by (with_reducible repeat (first | refine blk_drewN ?_ _ | refine blk_drew ?_ | refine blk_alloc ?_ _)); exact BK106.out)) : gb106 ≠ gb112)); have n15_ := Aside0.mk ((by rw [hg]; exact Nat.ne_of_gt (blk_lt (g := gb106) (o := .cells #[.int .u64 x107000_2, .int .u64 t105] 35 (0, 0)) (by (with_reducible repeat (first | refine blk_drewN ?_ _ | refine blk_drew ?_ | refine blk_alloc ?_ _)); exact BK106.out)) : gb112 ≠ gb106)); clear BK101; clear BK102; clear BK103; clear BK106; clear HB; have BK101 := n0_; have BK102 := n1_; have BK103 := n2_; have BK106 := n3_; have HB := n4_; have BK112 := n5_; have GW112 := n6_; have GE112 := n7_; have NB101_112 := n8_; have NB112_101 := n9_; have NB102_112 := n10_; have NB112_102 := n11_; have NB103_112 := n12_; have NB112_103 := n13_; have NB106_112 := n14_; have NB112_106 := n15_; clear n0_ n1_ n2_ n3_ n4_ n5_ n6_ n7_ n8_ n9_ n10_ n11_ n12_ n13_ n14_ n15_; clear hb hbox hg; have hnb109 := NB112_101.out; have hnc109 := NB101_112.out; have hnb110 := NB112_102.out; have hnc110 := NB102_112.out; have hnb111 := NB112_103.out; have hnc111 := NB103_112.out; have hnb112 := NB112_106.out; have hnc112 := NB106_112.out; have hcz113_0 : w108.cell? ⟨gb112, 0, none⟩ = some (.int .u64 0) := (blk_cell BK112.out 0).trans rfl; have hcz113_1 : w108.cell? ⟨gb112, 1, none⟩ = some (.int .u64 0) := (blk_cell BK112.out 1).trans rfl; have hfz113_0 := blk_frozen BK112.out 0; have hfz113_1 := blk_frozen BK112.out 1; have hnb114 := NB106_101.out; have hnc114 := NB101_106.out; have hnb115 := NB106_102.out; have hnc115 := NB102_106.out; have hnb116 := NB106_103.out; have hnc116 := NB103_106.out; have hcz117_0 : w108.cell? ⟨gb106, 0, none⟩ = some (.int .u64 x107000_2) := (blk_cell BK106.out 0).trans rfl; have hcz117_1 : w108.cell? ⟨gb106, 1, none⟩ = some (.int .u64 t105) := (blk_cell BK106.out 1).trans rfl; have hfz117_0 := blk_frozen BK106.out 0; have hfz117_1 := blk_frozen BK106.out 1))
                    have n0_ : Aside0 (((w108.setCell ⟨gb112, 0, none⟩ (.int .u64 t109)).setCell ⟨gb112, 1, none⟩ (.int .u64 t110)).heap[gb101]? = some (.cells #[.int .u64 a0_0, .int .u64 a0_1] 35 (0, 0))) := ⟨by (with_reducible repeat (first | refine blk_drewN ?_ _ | refine blk_drew ?_ | refine blk_alloc ?_ _)); refine blk_far ?_ NB101_112.out _; (with_reducible repeat (first | refine blk_drewN ?_ _ | refine blk_drew ?_ | refine blk_alloc ?_ _)); refine blk_far ?_ NB101_112.out _; (with_reducible repeat (first | refine blk_drewN ?_ _ | refine blk_drew ?_ | refine blk_alloc ?_ _)); exact BK101.out⟩
                    have n1_ : Aside0 (((w108.setCell ⟨gb112, 0, none⟩ (.int .u64 t109)).setCell ⟨gb112, 1, none⟩ (.int .u64 t110)).heap[gb102]? = some (.cells #[.int .u64 a1_0, .int .u64 a1_1] 35 (0, 0))) := ⟨by (with_reducible repeat (first | refine blk_drewN ?_ _ | refine blk_drew ?_ | refine blk_alloc ?_ _)); refine blk_far ?_ NB102_112.out _; (with_reducible repeat (first | refine blk_drewN ?_ _ | refine blk_drew ?_ | refine blk_alloc ?_ _)); refine blk_far ?_ NB102_112.out _; (with_reducible repeat (first | refine blk_drewN ?_ _ | refine blk_drew ?_ | refine blk_alloc ?_ _)); exact BK102.out⟩
                    have n2_ : Aside0 (((w108.setCell ⟨gb112, 0, none⟩ (.int .u64 t109)).setCell ⟨gb112, 1, none⟩ (.int .u64 t110)).heap[gb103]? = some (.cells #[.int .u64 0, .int .u64 0] 35 (0, 0))) := ⟨by (with_reducible repeat (first | refine blk_drewN ?_ _ | refine blk_drew ?_ | refine blk_alloc ?_ _)); refine blk_far ?_ NB103_112.out _; (with_reducible repeat (first | refine blk_drewN ?_ _ | refine blk_drew ?_ | refine blk_alloc ?_ _)); refine blk_far ?_ NB103_112.out _; (with_reducible repeat (first | refine blk_drewN ?_ _ | refine blk_drew ?_ | refine blk_alloc ?_ _)); exact BK103.out⟩
                    have n3_ : Aside0 (((w108.setCell ⟨gb112, 0, none⟩ (.int .u64 t109)).setCell ⟨gb112, 1, none⟩ (.int .u64 t110)).heap[gb106]? = some (.cells #[.int .u64 x107000_2, .int .u64 t105] 35 (0, 0))) := ⟨by (with_reducible repeat (first | refine blk_drewN ?_ _ | refine blk_drew ?_ | refine blk_alloc ?_ _)); refine blk_far ?_ NB106_112.out _; (with_reducible repeat (first | refine blk_drewN ?_ _ | refine blk_drew ?_ | refine blk_alloc ?_ _)); refine blk_far ?_ NB106_112.out _; (with_reducible repeat (first | refine blk_drewN ?_ _ | refine blk_drew ?_ | refine blk_alloc ?_ _)); exact BK106.out⟩
                    have n4_ : Aside0 (((w108.setCell ⟨gb112, 0, none⟩ (.int .u64 t109)).setCell ⟨gb112, 1, none⟩ (.int .u64 t110)).heap[gb112]? = some (.cells #[.int .u64 t109, .int .u64 t110] 35 (0, 0))) := ⟨by (with_reducible repeat (first | refine blk_drewN ?_ _ | refine blk_drew ?_ | refine blk_alloc ?_ _)); refine blk_put (cs := #[.int .u64 t109, .int .u64 0]) ?_ 1 _ rfl; (with_reducible repeat (first | refine blk_drewN ?_ _ | refine blk_drew ?_ | refine blk_alloc ?_ _)); refine blk_put (cs := #[.int .u64 0, .int .u64 0]) ?_ 0 _ rfl; (with_reducible repeat (first | refine blk_drewN ?_ _ | refine blk_drew ?_ | refine blk_alloc ?_ _)); exact BK112.out⟩
                    have n5_ : Aside0 (Below w.heap.size w ((w108.setCell ⟨gb112, 0, none⟩ (.int .u64 t109)).setCell ⟨gb112, 1, none⟩ (.int .u64 t110))) := ⟨by repeat (first | (with_reducible first | exact HB.out | apply below_alloc | apply pw_below_drewN | apply below_drew1 | refine below_set ?_ GE101.out | refine below_set ?_ GE102.out | refine below_set ?_ GE103.out | refine below_set ?_ GE106.out | refine below_set ?_ GE112.out) | exact HB.out)⟩
                    (try clear BK101)
                    (try clear BK102)
                    (try clear BK103)
                    (try clear BK106)
                    (try clear BK112)
                    (try clear HB)
                    generalize ((w108.setCell ⟨gb112, 0, none⟩ (.int .u64 t109)).setCell ⟨gb112, 1, none⟩ (.int .u64 t110)) = w118 at n0_ n1_ n2_ n3_ n4_ n5_ ⊢
                    have BK101 := n0_
                    have BK102 := n1_
                    have BK103 := n2_
                    have BK106 := n3_
                    have BK112 := n4_
                    have HB := n5_
                    clear n0_ n1_ n2_ n3_ n4_ n5_
                    have n0_ := Aside0.mk (blk_drew BK101.out)
                    have n1_ := Aside0.mk (blk_drew BK102.out)
                    have n2_ := Aside0.mk (blk_drew BK103.out)
                    have n3_ := Aside0.mk (blk_drew BK106.out)
                    have n4_ := Aside0.mk (blk_drew BK112.out)
                    have n5_ := Aside0.mk (below_drew1 HB.out)
                    clear BK101
                    clear BK102
                    clear BK103
                    clear BK106
                    clear BK112
                    clear HB
                    have BK101 := n0_
                    have BK102 := n1_
                    have BK103 := n2_
                    have BK106 := n3_
                    have BK112 := n4_
                    have HB := n5_
                    clear n0_ n1_ n2_ n3_ n4_ n5_
                    refine start_ (n := 14) (S := fun w' => w'.cell? ⟨gb112, 0, none⟩ = some (.int .u64 t109) ∧ w'.cell? ⟨gb112, 1, none⟩ = some (.int .u64 t110)) (ds := []) #[false, false, false, false, false, false, false, false, false, false, false, false, false, false] (by kernel_rfl) rfl rfl ⟨(blk_cell BK112.out 0).trans rfl, (blk_cell BK112.out 1).trans rfl⟩ (fun hHeld => ?_); refine with_tabW wide_Times.tab7 wide_Times.bits7 (fun HT_ HW_ => ?_)
                    generalize w118.drew = w119 at BK101 BK102 BK103 BK106 BK112 HB hHeld ⊢
                    refine pure_ (i := 0) (N := some 47) (v := ?_) (a' := ?_) #[true, false, false, false, false, false, false, false, false, false, false, false, false, false] rfl rfl (any_of HT_.out (by kernel_rfl)) (fun _ _ _ h => h) (Or.inl ⟨by rfl, ?_⟩) ?_ ?_
                    rotate_left
                    · intro w'
                      go_simp
                      with_reducible rfl
                    rotate_left
                    · simp only [Act.put, List.setIfInBounds_toArray, List.set_cons_zero, List.set_cons_succ, i64_w, i32_w]
                      rfl
                    refine pure_ (i := 1) (N := some 48) (v := ?_) (a' := ?_) #[true, true, false, false, false, false, false, false, false, false, false, false, false, false] rfl rfl (any_of HT_.out (by kernel_rfl)) (fun _ _ _ h => h) (Or.inl ⟨by rfl, ?_⟩) ?_ ?_
                    rotate_left
                    · intro w'
                      go_simp
                      with_reducible rfl
                    rotate_left
                    · simp only [Act.put, List.setIfInBounds_toArray, List.set_cons_zero, List.set_cons_succ, i64_w, i32_w]
                      rfl
                    refine pure_ (i := 2) (N := some 49) (v := ?_) (a' := ?_) #[true, true, true, false, false, false, false, false, false, false, false, false, false, false] rfl rfl (any_of HT_.out (by kernel_rfl)) (fun _ _ _ h => h) (Or.inl ⟨by rfl, ?_⟩) ?_ ?_
                    rotate_left
                    · intro w'
                      go_simp
                      with_reducible rfl
                    rotate_left
                    · simp only [Act.put, List.setIfInBounds_toArray, List.set_cons_zero, List.set_cons_succ, i64_w, i32_w]
                      rfl
                    refine pure_ (i := 3) (N := some 50) (v := ?_) (a' := ?_) #[true, true, true, true, false, false, false, false, false, false, false, false, false, false] rfl rfl (any_of HT_.out (by kernel_rfl)) (fun _ _ _ h => h) (Or.inl ⟨by rfl, ?_⟩) ?_ ?_
                    rotate_left
                    · intro w'
                      go_simp
                      with_reducible rfl
                    rotate_left
                    · simp only [Act.put, List.setIfInBounds_toArray, List.set_cons_zero, List.set_cons_succ, i64_w, i32_w]
                      rfl
                    refine pure_ (i := 4) (N := some 51) (v := ?_) (a' := ?_) #[true, true, true, true, true, false, false, false, false, false, false, false, false, false] rfl rfl (any_of HT_.out (by kernel_rfl)) (fun _ _ _ h => h) (Or.inl ⟨by rfl, ?_⟩) ?_ ?_
                    rotate_left
                    · intro w'
                      go_simp
                      with_reducible rfl
                    rotate_left
                    · simp only [Act.put, List.setIfInBounds_toArray, List.set_cons_zero, List.set_cons_succ, i64_w, i32_w]
                      rfl
                    refine pure_ (i := 5) (N := some 52) (v := ?_) (a' := ?_) #[true, true, true, true, true, true, false, false, false, false, false, false, false, false] rfl rfl (any_of HT_.out (by kernel_rfl)) (fun _ _ _ h => h) (Or.inl ⟨by rfl, ?_⟩) ?_ ?_
                    rotate_left
                    · intro w'
                      go_simp
                      with_reducible rfl
                    rotate_left
                    · simp only [Act.put, List.setIfInBounds_toArray, List.set_cons_zero, List.set_cons_succ, i64_w, i32_w]
                      rfl
                    refine pure_ (i := 6) (N := some 53) (v := ?_) (a' := ?_) #[true, true, true, true, true, true, true, false, false, false, false, false, false, false] rfl rfl (any_of HT_.out (by kernel_rfl)) (fun _ _ _ h => h) (Or.inl ⟨by rfl, ?_⟩) ?_ ?_
                    rotate_left
                    · intro w'
                      go_simp
                      with_reducible rfl
                    rotate_left
                    · simp only [Act.put, List.setIfInBounds_toArray, List.set_cons_zero, List.set_cons_succ, i64_w, i32_w]
                      rfl
                    refine pure_ (i := 7) (N := some 54) (v := ?_) (a' := ?_) #[true, true, true, true, true, true, true, true, false, false, false, false, false, false] rfl rfl (any_of HT_.out (by kernel_rfl)) (fun _ _ _ h => h) (Or.inl ⟨by rfl, ?_⟩) ?_ ?_
                    rotate_left
                    · intro w'
                      go_simp
                      with_reducible rfl
                    rotate_left
                    · simp only [Act.put, List.setIfInBounds_toArray, List.set_cons_zero, List.set_cons_succ, i64_w, i32_w]
                      rfl
                    refine pure_ (i := 11) (N := some 58) (v := ?_) (a' := ?_) #[true, true, true, true, true, true, true, true, false, false, false, true, false, false] rfl rfl (any_of HT_.out (by kernel_rfl)) (fun _ _ _ h => h) (Or.inl ⟨by rfl, ?_⟩) ?_ ?_
                    rotate_left
                    · intro w'
                      go_simp
                      with_reducible rfl
                    rotate_left
                    · simp only [Act.put, List.setIfInBounds_toArray, List.set_cons_zero, List.set_cons_succ, i64_w, i32_w]
                      rfl
                    refine take_ (i := 8) (N := some 55) (v := ?_) (a' := ?_) #[true, true, true, true, true, true, true, true, true, false, false, true, false, false] rfl rfl (take_ofW HT_.out HW_.out (by kernel_rfl)) (fun _ _ _ h => h) (Or.inl ⟨by rfl, ?_⟩) hHeld ?_ ?_
                    rotate_left
                    · rintro w' ⟨s0, s1⟩
                      go_simp
                      with_reducible rfl
                    rotate_left
                    · simp only [Act.put, List.setIfInBounds_toArray, List.set_cons_zero, List.set_cons_succ, i64_w, i32_w]
                      rfl
                    refine pure_ (i := 9) (N := some 56) (v := ?_) (a' := ?_) #[true, true, true, true, true, true, true, true, true, true, false, true, false, false] rfl rfl (any_of HT_.out (by kernel_rfl)) (fun _ _ _ h => h) (Or.inl ⟨by rfl, ?_⟩) ?_ ?_
                    rotate_left
                    · intro w'
                      go_simp
                      with_reducible rfl
                    rotate_left
                    · simp only [Act.put, List.setIfInBounds_toArray, List.set_cons_zero, List.set_cons_succ, i64_w, i32_w]
                      rfl
                    refine pure_ (i := 10) (N := some 57) (v := ?_) (a' := ?_) #[true, true, true, true, true, true, true, true, true, true, true, true, false, false] rfl rfl (any_of HT_.out (by kernel_rfl)) (fun _ _ _ h => h) (Or.inl ⟨by rfl, ?_⟩) ?_ ?_
                    rotate_left
                    · intro w'
                      go_simp
                      with_reducible rfl
                    rotate_left
                    · simp only [Act.put, List.setIfInBounds_toArray, List.set_cons_zero, List.set_cons_succ, i64_w, i32_w]
                      rfl
                    refine one_ (i := 12) (N := none) #[true, true, true, true, true, true, true, true, true, true, true, true, true, false] rfl rfl (one_of HT_.out (by kernel_rfl)) (by decide) (fun K hK => ?_)
                    have hs120 : w119.cell? ⟨gb106, 0, none⟩ = some (.int .u64 x107000_2) := (blk_cell BK106.out 0).trans rfl
                    have hfs120 := blk_frozen BK106.out 0
                    have hns120_0 := NB101_106.out
                    have hns120_1 := NB102_106.out
                    have hns120_2 := NB103_106.out
                    have hns120_4 := NB112_106.out
                    have hms120_0 := NB106_101.out
                    have hms120_1 := NB106_102.out
                    have hms120_2 := NB106_103.out
                    have hms120_4 := NB106_112.out
                    refine skip_ (w1 := ?_) (by rfl) rfl ?_ ?_
                    rotate_left
                    · go_simp
                      rfl
                    refine hK.out _ _ ⟨((cell_far (p := ⟨gb106, _, none⟩) NB112_106.out _).trans (hHeld.1)), ((cell_far (p := ⟨gb106, _, none⟩) NB112_106.out _).trans (hHeld.2))⟩ (fun hHeld => ?_)
                    clear hK K
                    refine pure_ (i := 13) (N := some 7) (v := ?_) (a' := ?_) #[true, true, true, true, true, true, true, true, true, true, true, true, true, true] rfl rfl (any_of HT_.out (by kernel_rfl)) (fun _ _ _ h => h) (Or.inl ⟨by rfl, ?_⟩) ?_ ?_
                    rotate_left
                    · intro w'
                      go_simp
                      with_reducible rfl
                    rotate_left
                    · simp only [Act.put, List.setIfInBounds_toArray, List.set_cons_zero, List.set_cons_succ, i64_w, i32_w]
                      rfl
                    refine done_ (done_of HT_.out (by kernel_rfl)) ?_
                    try go_wp2
                    go_roundg k2
                    case measure => have := HJ3.out; have := HK2.out; omega
                    case rel => exact ⟨(decide (t109 > 0)), (2), (a64lo x107000_2 t110 0), (by first | rfl | (simp; done) | (simp [*]; done)), (by first | rfl | (simp; done) | (simp [*]; done)), H', ⟨by have := HJ3.out; have := HK2.out; omega⟩, ⟨by (with_reducible repeat (first | refine blk_drewN ?_ _ | refine blk_drew ?_ | refine blk_alloc ?_ _)); refine blk_far ?_ NB101_106.out _; (with_reducible repeat (first | refine blk_drewN ?_ _ | refine blk_drew ?_ | refine blk_alloc ?_ _)); exact BK101.out⟩, ⟨by (with_reducible repeat (first | refine blk_drewN ?_ _ | refine blk_drew ?_ | refine blk_alloc ?_ _)); refine blk_far ?_ NB102_106.out _; (with_reducible repeat (first | refine blk_drewN ?_ _ | refine blk_drew ?_ | refine blk_alloc ?_ _)); exact BK102.out⟩, ⟨by (with_reducible repeat (first | refine blk_drewN ?_ _ | refine blk_drew ?_ | refine blk_alloc ?_ _)); refine blk_far ?_ NB103_106.out _; (with_reducible repeat (first | refine blk_drewN ?_ _ | refine blk_drew ?_ | refine blk_alloc ?_ _)); exact BK103.out⟩, ⟨by (with_reducible repeat (first | refine blk_drewN ?_ _ | refine blk_drew ?_ | refine blk_alloc ?_ _)); refine blk_put (cs := #[.int .u64 x107000_2, .int .u64 t105]) ?_ 0 _ rfl; (with_reducible repeat (first | refine blk_drewN ?_ _ | refine blk_drew ?_ | refine blk_alloc ?_ _)); exact BK106.out⟩, ⟨by repeat (first | (with_reducible first | exact HB.out | apply below_alloc | apply pw_below_drewN | apply below_drew1 | refine below_set ?_ GE101.out | refine below_set ?_ GE102.out | refine below_set ?_ GE103.out | refine below_set ?_ GE106.out | refine below_set ?_ GE112.out) | exact HB.out)⟩⟩
              · rw [if_neg c79] at H
                exact absurd H (by simp)
          · rw [if_neg c36] at H
            have c36b0 : decide (x36_2 < 2) = false := decide_eq_false c36
            clear c36
            simp only [Option.some.injEq, Prod.mk.injEq] at H
            obtain ⟨rfl, rfl, rfl⟩ := H
            have hnb121 := NB106_101.out
            have hnc121 := NB101_106.out
            have hnb122 := NB106_102.out
            have hnc122 := NB102_106.out
            have hnb123 := NB106_103.out
            have hnc123 := NB103_106.out
            have hcz124_0 : wr.cell? ⟨gb106, 0, none⟩ = some (.int .u64 x107000_2) := (blk_cell BK106.out 0).trans rfl
            have hcz124_1 : wr.cell? ⟨gb106, 1, none⟩ = some (.int .u64 t105) := (blk_cell BK106.out 1).trans rfl
            have hfz124_0 := blk_frozen BK106.out 0
            have hfz124_1 := blk_frozen BK106.out 1
            have hnb125 := NB103_101.out
            have hnc125 := NB101_103.out
            have hnb126 := NB103_102.out
            have hnc126 := NB102_103.out
            have hcz127_0 : wr.cell? ⟨gb103, 0, none⟩ = some (.int .u64 0) := (blk_cell BK103.out 0).trans rfl
            have hcz127_1 : wr.cell? ⟨gb103, 1, none⟩ = some (.int .u64 0) := (blk_cell BK103.out 1).trans rfl
            have hfz127_0 := blk_frozen BK103.out 0
            have hfz127_1 := blk_frozen BK103.out 1
            go_wp2
            refine bodyPost_ret (results_ct rfl _ _ gb103 35 #[.int .u64 x107000_2, .int .u64 t105] (0, 0) _ rfl (by (with_reducible repeat (first | refine blk_drewN ?_ _ | refine blk_drew ?_ | refine blk_alloc ?_ _)); refine blk_put (cs := #[.int .u64 x107000_2, .int .u64 0]) ?_ 1 _ rfl; (with_reducible repeat (first | refine blk_drewN ?_ _ | refine blk_drew ?_ | refine blk_alloc ?_ _)); refine blk_put (cs := #[.int .u64 0, .int .u64 0]) ?_ 0 _ rfl; (with_reducible repeat (first | refine blk_drewN ?_ _ | refine blk_drew ?_ | refine blk_alloc ?_ _)); exact BK103.out) Try.underlying35 rfl (by kernel_rfl)) rfl ?_
            exact ⟨by first | rfl | (simp [errW_none, errW_some] <;> rfl) | (simp [*, errW_none, errW_some] <;> rfl), by repeat (first | (with_reducible first | exact HB.out | apply below_alloc | apply pw_below_drewN | apply below_drew1 | refine below_set ?_ GE101.out | refine below_set ?_ GE102.out | refine below_set ?_ GE103.out | refine below_set ?_ GE106.out) | exact HB.out)⟩

end Go.Proofs.Ytkdfkpalgejkkaa.Pa
-- Written by a program (gprint.py) for this claim.
namespace Go.Proofs.Ytkdfkpalgejkkaa.Pa
open Go.RowKit Go.Proofs.Ytkdfkpalgejkkaa Go.Proofs.YtkdfkpalgejkkaaW.PrintWords Go.Proofs.YtkdfkpalgejkkaaW.PrintLast Go.Proofs.YtkdfkpalgejkkaaW.PrintMore
attribute [local go_sem] add64' sub64' max2_int min2_int max_two min_two max_three min_three max_four min_four   -- for this text's walks alone
set_option linter.unusedVariables false
set_option linter.unusedSimpArgs false

/-! ### wide_Less: function 50 -/
def wide_Less.f (a0_0 : Int) (a0_1 : Int) (a1_0 : Int) (a1_1 : Int) : Option (Bool) := if a0_0 < a1_0 then (some true) else (if a0_0 = a1_0 then (some (decide (a0_1 < a1_1))) else (some false))
set_option maxHeartbeats 8000000 in
set_option maxRecDepth 100000 in
theorem wide_Less.calls (a0_0 : Int) (a0_1 : Int) (a1_0 : Int) (a1_1 : Int) (r : Bool) (w : World) (h : wide_Less.f a0_0 a0_1 a1_0 a1_1 = some r) :
    Calls Try.prog 50 #[.agg #[.int .u64 a0_0, .int .u64 a0_1], .agg #[.int .u64 a1_0, .int .u64 a1_1]] w fun e w' => e = .returned (.bool r) ∧ Below w.heap.size w w' := by
  have hu35 := Try.underlying35
  have HB := Aside0.mk (Below.refl w.heap.size w)
  have H : (if a0_0 < a1_0 then (some true) else (if a0_0 = a1_0 then (some (decide (a0_1 < a1_1))) else (some false))) = some r := h
  clear h
  by_cases c3 : a0_0 < a1_0
  · rw [if_pos c3] at H
    have c3b0 : decide (a0_0 < a1_0) = true := decide_eq_true c3
    clear c3
    obtain rfl := Option.some.inj H
    go_enter Try.func50, Try.ntmps50
    go_wp2_with (first | ((with_reducible refine gate_dst (N := 2) rfl ?_); refine box_event ?hg (N := 2) ?hd (cs := #[.int .u64 a0_0, .int .u64 a0_1]) (t := 35) ?hr ?_; (case hd => rfl); (case hg => rfl); (case hr => first | (go_simp; done) | (go_simp; rfl)); intro gb113 hg w4 hbox hb; have n0_ := Aside0.mk (below_step (by repeat (first | (with_reducible first | exact HB.out | apply below_alloc | apply pw_below_drewN | apply below_drew1) | exact HB.out)) hb); have n1_ := Aside0.mk (hbox); have n2_ := Aside0.mk ((by rw [hg]; exact (below_size (by repeat (first | (with_reducible first | exact HB.out | apply below_alloc | apply pw_below_drewN | apply below_drew1) | exact HB.out))) : w.heap.size ≤ gb113)); have n3_ := Aside0.mk ((by rw [hg]; exact (below_size (by repeat (first | (with_reducible first | exact HB.out | apply below_alloc | apply pw_below_drewN | apply below_drew1) | exact HB.out))) : w.heap.size ≤ gb113)); clear HB; have HB := n0_; have BK113 := n1_; have GW113 := n2_; have GE113 := n3_; clear n0_ n1_ n2_ n3_; clear hb hbox hg) | ((with_reducible refine gate_dst (N := 3) rfl ?_); refine box_event ?hg (N := 3) ?hd (cs := #[.int .u64 a1_0, .int .u64 a1_1]) (t := 35) ?hr ?_; (case hd => rfl); (case hg => rfl); (case hr => first | (go_simp; done) | (go_simp; rfl)); intro gb114 hg w5 hbox hb; have n0_ := Aside0.mk (blk_below (g := gb113) (o := .cells #[.int .u64 a0_0, .int .u64 a0_1] 35 (0, 0)) (by (with_reducible repeat (first | refine blk_drewN ?_ _ | refine blk_drew ?_ | refine blk_alloc ?_ _)); exact BK113.out) hb); have n1_ := Aside0.mk (below_step (by repeat (first | (with_reducible first | exact HB.out | apply below_alloc | apply pw_below_drewN | apply below_drew1 | refine below_set ?_ GE113.out) | exact HB.out)) hb); have n2_ := Aside0.mk (hbox); have n3_ := Aside0.mk ((by rw [hg]; exact (below_size (by repeat (first | (with_reducible first | exact HB.out | apply below_alloc | apply pw_below_drewN | apply below_drew1 | refine below_set ?_ GE113.out) | exact HB.out))) : w.heap.size ≤ gb114)); have n4_ := Aside0.mk ((by rw [hg]; exact (below_size (by repeat (first | (with_reducible first | exact HB.out | apply below_alloc | apply pw_below_drewN | apply below_drew1 | refine below_set ?_ GE113.out) | exact HB.out))) : w.heap.size ≤ gb114)); have n5_ := Aside0.mk ((by rw [hg]; exact Nat.ne_of_lt (blk_lt (g := gb113) (o := .cells #[.int .u64 a0_0, .int .u64 a0_1] 35 (0, 0)) (by (with_reducible repeat (first | refine blk_drewN ?_ _ | refine blk_drew ?_ | refine blk_alloc ?_ _)); exact BK113.out)) : gb113 ≠ gb114)); have n6_ := Aside0.mk ((by rw [hg]; exact Nat.ne_of_gt (blk_lt (g := gb113) (o := .cells #[.int .u64 a0_0, .int .u64 a0_1] 35 (0, 0)) (by (with_reducible repeat (first | refine blk_drewN ?_ _ | refine blk_drew ?_ | refine blk_alloc ?_ _)); exact BK113.out)) : gb114 ≠ gb113)); clear BK113; clear HB; have BK113 := n0_; have HB := n1_; have BK114 := n2_; have GW114 := n3_; have GE114 := n4_; have NB113_114 := n5_; have NB114_113 := n6_; clear n0_ n1_ n2_ n3_ n4_ n5_ n6_; clear hb hbox hg; have hnb6 := NB113_114.out; have hnc6 := NB114_113.out; have hcz7_0 : w5.cell? ⟨gb113, 0, none⟩ = some (.int .u64 a0_0) := (blk_cell BK113.out 0).trans rfl; have hcz7_1 : w5.cell? ⟨gb113, 1, none⟩ = some (.int .u64 a0_1) := (blk_cell BK113.out 1).trans rfl; have hfz7_0 := blk_frozen BK113.out 0; have hfz7_1 := blk_frozen BK113.out 1; have hcz8_0 : w5.cell? ⟨gb114, 0, none⟩ = some (.int .u64 a1_0) := (blk_cell BK114.out 0).trans rfl; have hcz8_1 : w5.cell? ⟨gb114, 1, none⟩ = some (.int .u64 a1_1) := (blk_cell BK114.out 1).trans rfl; have hfz8_0 := blk_frozen BK114.out 0; have hfz8_1 := blk_frozen BK114.out 1))
    go_ret
    exact ⟨by first | rfl | (simp [errW_none, errW_some] <;> rfl) | (simp [*, errW_none, errW_some] <;> rfl), by repeat (first | (with_reducible first | exact HB.out | apply below_alloc | apply pw_below_drewN | apply below_drew1 | refine below_set ?_ GE113.out | refine below_set ?_ GE114.out) | exact HB.out)⟩
  · rw [if_neg c3] at H
    have c3b0 : decide (a0_0 < a1_0) = false := decide_eq_false c3
    clear c3
    by_cases c9 : a0_0 = a1_0
    · rw [if_pos c9] at H
      have c9b0 : (a0_0 == a1_0) = true := beq_iff_eq.mpr c9
      have c9b1 : (a0_0 != a1_0) = false := bne_eq_false_iff_eq.mpr c9
      clear c9
      obtain rfl := Option.some.inj H
      go_enter Try.func50, Try.ntmps50
      go_wp2_with (first | ((with_reducible refine gate_dst (N := 2) rfl ?_); refine box_event ?hg (N := 2) ?hd (cs := #[.int .u64 a0_0, .int .u64 a0_1]) (t := 35) ?hr ?_; (case hd => rfl); (case hg => rfl); (case hr => first | (go_simp; done) | (go_simp; rfl)); intro gb113 hg w10 hbox hb; have n0_ := Aside0.mk (below_step (by repeat (first | (with_reducible first | exact HB.out | apply below_alloc | apply pw_below_drewN | apply below_drew1) | exact HB.out)) hb); have n1_ := Aside0.mk (hbox); have n2_ := Aside0.mk ((by rw [hg]; exact (below_size (by repeat (first | (with_reducible first | exact HB.out | apply below_alloc | apply pw_below_drewN | apply below_drew1) | exact HB.out))) : w.heap.size ≤ gb113)); have n3_ := Aside0.mk ((by rw [hg]; exact (below_size (by repeat (first | (with_reducible first | exact HB.out | apply below_alloc | apply pw_below_drewN | apply below_drew1) | exact HB.out))) : w.heap.size ≤ gb113)); clear HB; have HB := n0_; have BK113 := n1_; have GW113 := n2_; have GE113 := n3_; clear n0_ n1_ n2_ n3_; clear hb hbox hg) | ((with_reducible refine gate_dst (N := 3) rfl ?_); refine box_event ?hg (N := 3) ?hd (cs := #[.int .u64 a1_0, .int .u64 a1_1]) (t := 35) ?hr ?_; (case hd => rfl); (case hg => rfl); (case hr => first | (go_simp; done) | (go_simp; rfl)); intro gb114 hg w11 hbox hb; have n0_ := Aside0.mk (blk_below (g := gb113) (o := .cells #[.int .u64 a0_0, .int .u64 a0_1] 35 (0, 0)) (by (with_reducible repeat (first | refine blk_drewN ?_ _ | refine blk_drew ?_ | refine blk_alloc ?_ _)); exact BK113.out) hb); have n1_ := Aside0.mk (below_step (by repeat (first | (with_reducible first | exact HB.out | apply below_alloc | apply pw_below_drewN | apply below_drew1 | refine below_set ?_ GE113.out) | exact HB.out)) hb); have n2_ := Aside0.mk (hbox); have n3_ := Aside0.mk ((by rw [hg]; exact (below_size (by repeat (first | (with_reducible first | exact HB.out | apply below_alloc | apply pw_below_drewN | apply below_drew1 | refine below_set ?_ GE113.out) | exact HB.out))) : w.heap.size ≤ gb114)); have n4_ := Aside0.mk ((by rw [hg]; exact (below_size (by repeat (first | (with_reducible first | exact HB.out | apply below_alloc | apply pw_below_drewN | apply below_drew1 | refine below_set ?_ GE113.out) | exact HB.out))) : w.heap.size ≤ gb114)); have n5_ := Aside0.mk ((by rw [hg]; exact Nat.ne_of_lt (blk_lt (g := gb113) (o := .cells #[.int .u64 a0_0, .int .u64 a0_1] 35 (0, 0)) (by (with_reducible repeat (first | refine blk_drewN ?_ _ | refine blk_drew ?_ | refine blk_alloc ?_ _)); exact BK113.out)) : gb113 ≠ gb114)); have n6_ := Aside0.mk ((by rw [hg]; exact Nat.ne_of_gt (blk_lt (g := gb113) (o := .cells #[.int .u64 a0_0, .int .u64 a0_1] 35 (0, 0)) (by (with_reducible repeat (first | refine blk_drewN ?_ _ | refine blk_drew ?_ | refine blk_alloc ?_ _)); exact BK113.out)) : gb114 ≠ gb113)); clear BK113; clear HB; have BK113 := n0_; have HB := n1_; have BK114 := n2_; have GW114 := n3_; have GE114 := n4_; have NB113_114 := n5_; have NB114_113 := n6_; clear n0_ n1_ n2_ n3_ n4_ n5_ n6_; clear hb hbox hg; have hnb12 := NB113_114.out; have hnc12 := NB114_113.out; have hcz13_0 : w11.cell? ⟨gb113, 0, none⟩ = some (.int .u64 a0_0) := (blk_cell BK113.out 0).trans rfl; have hcz13_1 : w11.cell? ⟨gb113, 1, none⟩ = some (.int .u64 a0_1) := (blk_cell BK113.out 1).trans rfl; have hfz13_0 := blk_frozen BK113.out 0; have hfz13_1 := blk_frozen BK113.out 1; have hcz14_0 : w11.cell? ⟨gb114, 0, none⟩ = some (.int .u64 a1_0) := (blk_cell BK114.out 0).trans rfl; have hcz14_1 : w11.cell? ⟨gb114, 1, none⟩ = some (.int .u64 a1_1) := (blk_cell BK114.out 1).trans rfl; have hfz14_0 := blk_frozen BK114.out 0; have hfz14_1 := blk_frozen BK114.out 1))
      go_ret
      exact ⟨by first | rfl | (simp [errW_none, errW_some] <;> rfl) | (simp [*, errW_none, errW_some] <;> rfl), by repeat (first | (with_reducible first | exact HB.out | apply below_alloc | apply pw_below_drewN | apply below_drew1 | refine below_set ?_ GE113.out | refine below_set ?_ GE114.out) | exact HB.out)⟩
    · rw [if_neg c9] at H
      have c9b0 : (a0_0 == a1_0) = false := beq_eq_false_iff_ne.mpr c9
      have c9b1 : (a0_0 != a1_0) = true := bne_iff_ne.mpr c9
      obtain rfl := Option.some.inj H
      go_enter Try.func50, Try.ntmps50
      go_wp2_with (first | ((with_reducible refine gate_dst (N := 2) rfl ?_); refine box_event ?hg (N := 2) ?hd (cs := #[.int .u64 a0_0, .int .u64 a0_1]) (t := 35) ?hr ?_; (case hd => rfl); (case hg => rfl); (case hr => first | (go_simp; done) | (go_simp; rfl)); intro gb113 hg w15 hbox hb; have n0_ := Aside0.mk (below_step (by repeat (first | (with_reducible first | exact HB.out | apply below_alloc | apply pw_below_drewN | apply below_drew1) | exact HB.out)) hb); have n1_ := Aside0.mk (hbox); have n2_ := Aside0.mk ((by rw [hg]; exact (below_size (by repeat (first | (with_reducible first | exact HB.out | apply below_alloc | apply pw_below_drewN | apply below_drew1) | exact HB.out))) : w.heap.size ≤ gb113)); have n3_ := Aside0.mk ((by rw [hg]; exact (below_size (by repeat (first | (with_reducible first | exact HB.out | apply below_alloc | apply pw_below_drewN | apply below_drew1) | exact HB.out))) : w.heap.size ≤ gb113)); clear HB; have HB := n0_; have BK113 := n1_; have GW113 := n2_; have GE113 := n3_; clear n0_ n1_ n2_ n3_; clear hb hbox hg) | ((with_reducible refine gate_dst (N := 3) rfl ?_); refine box_event ?hg (N := 3) ?hd (cs := #[.int .u64 a1_0, .int .u64 a1_1]) (t := 35) ?hr ?_; (case hd => rfl); (case hg => rfl); (case hr => first | (go_simp; done) | (go_simp; rfl)); intro gb114 hg w16 hbox hb; have n0_ := Aside0.mk (blk_below (g := gb113) (o := .cells #[.int .u64 a0_0, .int .u64 a0_1] 35 (0, 0)) (by (with_reducible repeat (first | refine blk_drewN ?_ _ | refine blk_drew ?_ | refine blk_alloc ?_ _)); exact BK113.out) hb); have n1_ := Aside0.mk (below_step (by repeat (first | (with_reducible first | exact HB.out | apply below_alloc | apply pw_below_drewN | apply below_drew1 | refine below_set ?_ GE113.out) | exact HB.out)) hb); have n2_ := Aside0.mk (hbox); have n3_ := Aside0.mk ((by rw [hg]; exact (below_size (by repeat (first | (with_reducible first | exact HB.out | apply below_alloc | apply pw_below_drewN | apply below_drew1 | refine below_set ?_ GE113.out) | exact HB.out))) : w.heap.size ≤ gb114)); have n4_ := Aside0.mk ((by rw [hg]; exact (below_size (by repeat (first | (with_reducible first | exact HB.out | apply below_alloc | apply pw_below_drewN | apply below_drew1 | refine below_set ?_ GE113.out) | exact HB.out))) : w.heap.size ≤ gb114)); have n5_ := Aside0.mk ((by rw [hg]; exact Nat.ne_of_lt (blk_lt (g := gb113) (o := .cells #[.int .u64 a0_0, .int .u64 a0_1] 35 (0, 0)) (by (with_reducible repeat (first | refine blk_drewN ?_ _ | refine blk_drew ?_ | refine blk_alloc ?_ _)); exact BK113.out)) : gb113 ≠ gb114)); have n6_ := Aside0.mk ((by rw [hg]; exact Nat.ne_of_gt (blk_lt (g := gb113) (o := .cells #[.int .u64 a0_0, .int .u64 a0_1] 35 (0, 0)) (by (with_reducible repeat (first | refine blk_drewN ?_ _ | refine blk_drew ?_ | refine blk_alloc ?_ _)); exact BK113.out)) : gb114 ≠ gb113)); clear BK113; clear HB; have BK113 := n0_; have HB := n1_; have BK114 := n2_; have GW114 := n3_; have GE114 := n4_; have NB113_114 := n5_; have NB114_113 := n6_; clear n0_ n1_ n2_ n3_ n4_ n5_ n6_; clear hb hbox hg; have hnb17 := NB113_114.out; have hnc17 := NB114_113.out; have hcz18_0 : w16.cell? ⟨gb113, 0, none⟩ = some (.int .u64 a0_0) := (blk_cell BK113.out 0).trans rfl; have hcz18_1 : w16.cell? ⟨gb113, 1, none⟩ = some (.int .u64 a0_1) := (blk_cell BK113.out 1).trans rfl; have hfz18_0 := blk_frozen BK113.out 0; have hfz18_1 := blk_frozen BK113.out 1; have hcz19_0 : w16.cell? ⟨gb114, 0, none⟩ = some (.int .u64 a1_0) := (blk_cell BK114.out 0).trans rfl; have hcz19_1 : w16.cell? ⟨gb114, 1, none⟩ = some (.int .u64 a1_1) := (blk_cell BK114.out 1).trans rfl; have hfz19_0 := blk_frozen BK114.out 0; have hfz19_1 := blk_frozen BK114.out 1))
      go_ret
      exact ⟨by first | rfl | (simp [errW_none, errW_some] <;> rfl) | (simp [*, errW_none, errW_some] <;> rfl), by repeat (first | (with_reducible first | exact HB.out | apply below_alloc | apply pw_below_drewN | apply below_drew1 | refine below_set ?_ GE113.out | refine below_set ?_ GE114.out) | exact HB.out)⟩

/-- THE ONE PURE STATEMENT of wide_Less: yours. -/
def wide_Less.Pure : Prop := ∀ (a0_0 : Int) (a0_1 : Int) (a1_0 : Int) (a1_1 : Int), (Lit.int .u64 a0_0).wf = true → (Lit.int .u64 a0_1).wf = true → (Lit.int .u64 a1_0).wf = true → (Lit.int .u64 a1_1).wf = true → wide_Less.f a0_0 a0_1 a1_0 a1_1 = some true
theorem wide_Less.walk (P : wide_Less.Pure) (a0_0 : Int) (a0_1 : Int) (a1_0 : Int) (a1_1 : Int) (w : World) (w0_0 : (Lit.int .u64 a0_0).wf = true) (w0_1 : (Lit.int .u64 a0_1).wf = true) (w1_0 : (Lit.int .u64 a1_0).wf = true) (w1_1 : (Lit.int .u64 a1_1).wf = true) :
    Calls Try.prog 50 #[.agg #[.int .u64 a0_0, .int .u64 a0_1], .agg #[.int .u64 a1_0, .int .u64 a1_1]] w fun e w' => e = .returned (.bool true) ∧ Below w.heap.size w w' := by
  have h := P a0_0 a0_1 a1_0 a1_1 w0_0 w0_1 w1_0 w1_1
  refine (wide_Less.calls a0_0 a0_1 a1_0 a1_1 true w h).mono ?_
  rintro e w' ⟨rfl, hd⟩
  exact ⟨rfl, hd⟩

end Go.Proofs.Ytkdfkpalgejkkaa.Pa
-- Written by a program (gprint.py) for this claim.
namespace Go.Proofs.Ytkdfkpalgejkkaa.Pa
open Go.RowKit Go.Proofs.Ytkdfkpalgejkkaa Go.Proofs.YtkdfkpalgejkkaaW.PrintWords Go.Proofs.YtkdfkpalgejkkaaW.PrintLast Go.Proofs.YtkdfkpalgejkkaaW.PrintMore
attribute [local go_sem] add64' sub64' max2_int min2_int max_two min_two max_three min_three max_four min_four   -- for this text's walks alone
set_option linter.unusedVariables false
set_option linter.unusedSimpArgs false

end Go.Proofs.Ytkdfkpalgejkkaa.Pa
/-
  Regions that draw their order: one walk in the text's order, under a condition on the world that may hang on which operations have come up.
-/
namespace Go.Proofs.Ytkdfkpalgejkkaa
open Go Go.RowKit

/-- Operation i has come up, too. -/
def mark (L : Nat → Bool) (i : Nat) : Nat → Bool := fun j => if j = i then true else L j

/-- What is held of operation i is v. -/
def held (g : Nat → Value) (i : Nat) (v : Value) : Nat → Value := fun j => if j = i then v else g j
/-- Does the operation make a variable? Where it lies hangs on the order. -/
def Oper.makes (o : Oper) : Bool := match o.op with | .alloc _ => o.guard.isNone | _ => false

/-- What an operation comes to: the value v, and a world that meets D. -/
def comesTo (P : Program) (D : World → Prop) (v : Value) : Result Next → Prop
  | .ok (.value u) w' => u = v ∧ D w'
  | .ok .skip w' => undef = v ∧ D w'
  | .ok (.enter f args) w' => Calls P f args w' (fun e w'' => e = .returned v ∧ D w'')
  | _ => False

/-- Operation i, in state a: v, whatever has come up before it (but what it waits for has), in every world that meets C. T: the variables that have been made on the way; g: where they lie. -/
def Ok (P : Program) (ops : Array Oper) (C : (Nat → Bool) → (Nat → Value) → World → Prop) (T : List Nat) (g : Nat → Value) (i : Nat) (o : Oper) (a : Act) (v : Value) : Prop :=
  if Region.wanted o (yielded ops a.tmps) = true then ∀ L g' w, (∀ k ∈ T, g' k = g k) → L i = false → (∀ e ∈ o.after, Region.binds .any e = true → L e.on = true) → C L g' w → comesTo P (C (mark L i) g') v ((execOp a.eval o).run P w)
  else undef = v ∧ ∀ L g' w, (∀ k ∈ T, g' k = g k) → L i = false → C L g' w → C (mark L i) g' w
/-- A variable is made. -/
def Makes (P : Program) (C : (Nat → Bool) → (Nat → Value) → World → Prop) (i : Nat) (o : Oper) (a : Act) : Prop :=
  ∀ L g w, L i = false → C L g w → ∃ p w', (execOp a.eval o).run P w = .ok (.value p) w' ∧ C (mark L i) (held g i p) w'

/-- The walk in the text's order. -/
def inOrder (P : Program) (ops : Array Oper) (C : (Nat → Bool) → (Nat → Value) → World → Prop) (Q : (Nat → Value) → Act → Prop) : List (Nat × Oper) → List Nat → (Nat → Value) → Act → Prop
  | [], _, g, a => Q g a
  | (i, o) :: rest, T, g, a =>
    if Oper.makes o = true then Makes P C i o a ∧ ∀ p, inOrder P ops C Q rest (i :: T) (held g i p) (a.put o.dst p)
    else ∃ v, Ok P ops C T g i o a v ∧ inOrder P ops C Q rest T g (a.put o.dst v)

section
variable {P : Program} {ops : Array Oper} {C : (Nat → Bool) → (Nat → Value) → World → Prop} {Q : (Nat → Value) → Act → Prop}

theorem Ok.put {T : List Nat} {g : Nat → Value} {j : Nat} {oi oj : Oper} {a : Act} {u v : Value} (hap : oi.apart ops oj = true) (hsj : ∀ cs b, oj.op ≠ .select cs b)
    (h : Ok P ops C T g j oj (a.put oi.dst u) v) : Ok P ops C T g j oj a v := by
  obtain ⟨h1, -, -⟩ := Oper.apart_spec hap
  unfold Ok at *
  rwa [wanted_put oj a oi.dst u h1, execOp_put oj hsj a oi.dst u h1] at h
theorem Ok.put' {T : List Nat} {g : Nat → Value} {i : Nat} {oi oj : Oper} {a : Act} {u v : Value} (hap : oi.apart ops oj = true) (hsi : ∀ cs b, oi.op ≠ .select cs b)
    (h : Ok P ops C T g i oi a u) : Ok P ops C T g i oi (a.put oj.dst v) u := by
  obtain ⟨-, -, h3⟩ := Oper.apart_spec hap
  unfold Ok at *
  rwa [wanted_put oi a oj.dst v h3, execOp_put oi hsi a oj.dst v h3]
theorem Ok.more {T T' : List Nat} {g g' : Nat → Value} {i : Nat} {o : Oper} {a : Act} {v : Value} (hT : ∀ k ∈ T, k ∈ T' ∧ g' k = g k) (h : Ok P ops C T g i o a v) : Ok P ops C T' g' i o a v := by
  unfold Ok at *
  split
  · rename_i hw
    rw [if_pos hw] at h
    exact fun L g2 w h1 => h L g2 w fun k hk => by rw [h1 k (hT k hk).1, (hT k hk).2]
  · rename_i hw
    rw [if_neg hw] at h
    exact ⟨h.1, fun L g2 w h1 => h.2 L g2 w fun k hk => by rw [h1 k (hT k hk).1, (hT k hk).2]⟩
theorem makes_op {o : Oper} (h : Oper.makes o = true) : ∃ t, o.op = .alloc t ∧ o.guard = none := by
  unfold Oper.makes at h
  split at h
  · rename_i t ht
    exact ⟨t, ht, by simpa using h⟩
  · cases h
theorem Makes.any {i : Nat} {o : Oper} {a a' : Act} (hm : Oper.makes o = true) (h : Makes P C i o a) : Makes P C i o a' := by
  obtain ⟨t, ht, -⟩ := makes_op hm
  have : execOp a'.eval o = execOp a.eval o := execOp_congr o (by simp [ht]) (by simp [ht, Op.operands])
  unfold Makes at *
  rwa [this]
theorem wanted_makes {o : Oper} (hm : Oper.makes o = true) (y : Nat → Option Bool) : Region.wanted o y = true := by
  obtain ⟨t, ht, hg⟩ := makes_op hm
  simp [Region.wanted, hg]

theorem held_comm (g : Nat → Value) {i j : Nat} (u v : Value) (h : i ≠ j) : held (held g i u) j v = held (held g j v) i u := by
  funext k
  unfold held
  by_cases h1 : k = j
  · by_cases h2 : k = i
    · omega
    · simp [h1, show ¬ j = i by omega]
  · by_cases h2 : k = i
    · subst h2; simp [h]
    · simp [h1, h2]

/-- Sets of names: the same. -/
theorem inOrder_names : ∀ (R : List (Nat × Oper)) {T T' : List Nat} {g : Nat → Value} {a : Act}, (∀ k, k ∈ T → k ∈ T') → inOrder P ops C Q R T g a → inOrder P ops C Q R T' g a
  | [], _, _, _, _, _, h => h
  | (i, o) :: R, T, T', g, a, hT, h => by
    unfold inOrder at *
    split
    · rename_i hm
      rw [if_pos hm] at h
      exact ⟨h.1, fun p => inOrder_names R (fun k hk => by
        rcases List.mem_cons.1 hk with rfl | hk
        · exact List.mem_cons_self
        · exact List.mem_cons_of_mem _ (hT k hk)) (h.2 p)⟩
    · rename_i hm
      rw [if_neg hm] at h
      obtain ⟨v, hv, h⟩ := h
      exact ⟨v, hv.more fun k hk => ⟨hT k hk, rfl⟩, inOrder_names R hT h⟩

/-- An operation that makes nothing, apart from all ahead of it, none of which makes anything, may come up now. -/
theorem takeOut {j : Nat} {oj : Oper} (hs : ∀ (k : Nat) (o : Oper) cs b, ops[k]? = some o → o.op ≠ .select cs b) (hj : ops[j]? = some oj) (hjm : Oper.makes oj = false) : ∀ (R₁ R₂ : List (Nat × Oper)) (T : List Nat) (g : Nat → Value) (a : Act),
    (∀ p ∈ R₁, ops[p.1]? = some p.2 ∧ p.2.apart ops oj = true ∧ Oper.makes p.2 = false) → inOrder P ops C Q (R₁ ++ (j, oj) :: R₂) T g a →
    ∃ v, Ok P ops C T g j oj a v ∧ inOrder P ops C Q (R₁ ++ R₂) T g (a.put oj.dst v)
  | [], R₂, T, g, a, _, h => by
    rw [List.nil_append, inOrder, if_neg (by simp [hjm])] at h
    exact h
  | (i, oi) :: R₁, R₂, T, g, a, hR, h => by
    obtain ⟨hi, hap, him⟩ := hR (i, oi) (by simp)
    simp only at hi hap him
    rw [List.cons_append, inOrder, if_neg (by simp [him])] at h
    obtain ⟨u, hu, hrest⟩ := h
    obtain ⟨v, hv, hin⟩ := takeOut hs hj hjm R₁ R₂ T g (a.put oi.dst u) (fun p hp => hR p (by simp [hp])) hrest
    refine ⟨v, Ok.put hap (fun cs b => hs j oj cs b hj) hv, ?_⟩
    rw [List.cons_append, inOrder, if_neg (by simp [him])]
    refine ⟨u, Ok.put' hap (fun cs b => hs i oi cs b hi) hu, ?_⟩
    rw [← Act.put_comm a u v (Oper.apart_spec hap).2.1]
    exact hin
/-- An operation that makes a variable, apart from all ahead of it, may come up now. -/
theorem takeMake {j : Nat} {oj : Oper} (hs : ∀ (k : Nat) (o : Oper) cs b, ops[k]? = some o → o.op ≠ .select cs b) (hjm : Oper.makes oj = true) : ∀ (R₁ R₂ : List (Nat × Oper)) (T : List Nat) (g : Nat → Value) (a : Act), j ∉ T →
    (∀ p ∈ R₁, p.1 ≠ j ∧ ops[p.1]? = some p.2 ∧ p.2.apart ops oj = true) → inOrder P ops C Q (R₁ ++ (j, oj) :: R₂) T g a →
    Makes P C j oj a ∧ ∀ p, inOrder P ops C Q (R₁ ++ R₂) (j :: T) (held g j p) (a.put oj.dst p)
  | [], R₂, T, g, a, _, _, h => by
    rw [List.nil_append, inOrder, if_pos hjm] at h
    exact h
  | (i, oi) :: R₁, R₂, T, g, a, hjT, hR, h => by
    obtain ⟨hne, hi, hap⟩ := hR (i, oi) (by simp)
    simp only at hne hi hap
    rw [List.cons_append, inOrder] at h
    split at h
    · rename_i him
      obtain ⟨hm, hall⟩ := h
      have IH := fun u => takeMake hs hjm R₁ R₂ (i :: T) (held g i u) (a.put oi.dst u) (by simp [hjT, Ne.symm hne]) (fun p hp => hR p (by simp [hp])) (hall u)
      refine ⟨(IH undef).1.any hjm, fun p => ?_⟩
      rw [List.cons_append, inOrder, if_pos him]
      refine ⟨hm.any him, fun u => ?_⟩
      have h2 := (IH u).2 p
      rw [held_comm g u p hne, Act.put_comm a u p (Oper.apart_spec hap).2.1] at h2
      exact inOrder_names _ (fun k hk => by
        simp only [List.mem_cons] at hk ⊢
        rcases hk with h | h | h
        · exact .inr (.inl h)
        · exact .inl h
        · exact .inr (.inr h)) h2
    · rename_i him
      obtain ⟨u, hu, hrest⟩ := h
      obtain ⟨hm, hall⟩ := takeMake hs hjm R₁ R₂ T g (a.put oi.dst u) hjT (fun p hp => hR p (by simp [hp])) hrest
      refine ⟨hm.any hjm, fun p => ?_⟩
      rw [List.cons_append, inOrder, if_neg him]
      refine ⟨u, (Ok.put' hap (fun cs b => hs i oi cs b hi) hu).more fun k hk => ⟨List.mem_cons_of_mem _ hk, by
        unfold held
        rw [if_neg (by rintro rfl; exact hjT hk)]⟩, ?_⟩
      have h2 := hall p
      rw [Act.put_comm a u p (Oper.apart_spec hap).2.1] at h2
      exact h2

/-- The side condition, to be reckoned: nobody waits for what stands behind it; of two of which the later one doesn't wait for the earlier one, neither looks at what the other one writes, and the earlier one makes nothing (or the later one does). -/
def planB (ops : Array Oper) : Bool :=
  Region.noSelect ops && (List.range ops.size).all fun j => match ops[j]? with
    | none => true
    | some oj => (oj.after.all fun e => !Region.binds .any e || decide (e.on < j)) &&
        (List.range j).all fun i => match ops[i]? with
          | none => true
          | some oi => (oj.after.any fun e => Region.binds .any e && e.on == i) || (oi.apart ops oj && (!Oper.makes oi || Oper.makes oj))

theorem planB_before (h : planB ops = true) {j : Nat} {oj : Oper} (hj : ops[j]? = some oj) : ∀ e ∈ oj.after, Region.binds .any e = true → e.on < j := by
  unfold planB at h
  rw [Bool.and_eq_true] at h
  have h2 := List.all_eq_true.1 h.2 j (List.mem_range.2 (Array.getElem?_eq_some_iff.1 hj).1)
  simp only [hj, Bool.and_eq_true] at h2
  intro e he hb
  have := Array.all_eq_true_iff_forall_mem.1 h2.1 e he
  simpa [hb] using this
theorem planB_apart (h : planB ops = true) {i j : Nat} {oi oj : Oper} (hi : ops[i]? = some oi) (hj : ops[j]? = some oj) (hij : i < j) : (∃ e ∈ oj.after, Region.binds .any e = true ∧ e.on = i) ∨ (oi.apart ops oj = true ∧ (Oper.makes oi = false ∨ Oper.makes oj = true)) := by
  unfold planB at h
  rw [Bool.and_eq_true] at h
  have h2 := List.all_eq_true.1 h.2 j (List.mem_range.2 (Array.getElem?_eq_some_iff.1 hj).1)
  simp only [hj, Bool.and_eq_true] at h2
  have h3 := List.all_eq_true.1 h2.2 i (List.mem_range.2 hij)
  simp only [hi, Bool.or_eq_true] at h3
  rcases h3 with h3 | h3
  · obtain ⟨e, he, hb⟩ := Array.any_eq_true'.1 h3
    simp only [Bool.and_eq_true, beq_iff_eq] at hb
    exact .inl ⟨e, he, hb⟩
  · exact .inr (by simpa using h3)

/-- Those that have not come up yet, in the text's order. -/
def rest (ops : Array Oper) (listed : Array Bool) : List (Nat × Oper) :=
  (List.range ops.size).filterMap fun i => if listed.getD i true = false then (ops[i]?).map fun o => (i, o) else none

theorem mem_rest {listed : Array Bool} {p : Nat × Oper} : p ∈ rest ops listed ↔ listed.getD p.1 true = false ∧ ops[p.1]? = some p.2 := by
  unfold rest
  rw [List.mem_filterMap]
  constructor
  · rintro ⟨i, -, h⟩
    split at h
    · rename_i hu
      cases ho : ops[i]? with
      | none => simp [ho] at h
      | some o => simp only [ho, Option.map_some, Option.some.injEq] at h; subst h; exact ⟨hu, ho⟩
    · cases h
  · rintro ⟨hu, ho⟩
    refine ⟨p.1, List.mem_range.2 (Array.getElem?_eq_some_iff.1 ho).1, ?_⟩
    rw [if_pos hu, ho]
    rfl

theorem filterMap_same {α β : Type} {f g : α → Option β} : ∀ {l : List α}, (∀ z ∈ l, f z = g z) → l.filterMap f = l.filterMap g
  | [], _ => rfl
  | x :: l, h => by
    rw [List.filterMap_cons, List.filterMap_cons, h x (by simp), filterMap_same fun z hz => h z (by simp [hz])]
theorem filterMap_part {α β : Type} {f g : α → Option β} {l : List α} {x : α} {y : β} (hx : x ∈ l) (hn : l.Nodup) (hf : f x = some y) (hg : g x = none) (hfg : ∀ z, z ≠ x → g z = f z) :
    ∃ r₁ r₂, l.filterMap f = r₁ ++ y :: r₂ ∧ l.filterMap g = r₁ ++ r₂ ∧ ∃ l₁ l₂, l = l₁ ++ x :: l₂ ∧ r₁ = l₁.filterMap f := by
  obtain ⟨l₁, l₂, rfl⟩ := List.append_of_mem hx
  have hn' := List.nodup_append.1 hn
  have h1 : ∀ z ∈ l₁, z ≠ x := fun z hz => hn'.2.2 z hz x (by simp)
  have h2 : ∀ z ∈ l₂, z ≠ x := fun z hz e => by
    have := (List.nodup_cons.1 hn'.2.1).1
    subst e; exact this hz
  refine ⟨l₁.filterMap f, l₂.filterMap f, ?_, ?_, l₁, l₂, rfl, rfl⟩
  · rw [List.filterMap_append, List.filterMap_cons_some hf]
  · rw [List.filterMap_append, List.filterMap_cons_none hg]
    congr 1
    · exact filterMap_same fun z hz => hfg z (h1 z hz)
    · exact filterMap_same fun z hz => hfg z (h2 z hz)

theorem getD_set_self (listed : Array Bool) (i : Nat) : (listed.setIfInBounds i true).getD i true = true := by
  rcases Nat.lt_or_ge i listed.size with h | h <;> simp [h]

theorem rest_part {listed : Array Bool} {j : Nat} {oj : Oper} (hj : ops[j]? = some oj) (hu : listed.getD j true = false) :
    ∃ R₁ R₂, rest ops listed = R₁ ++ (j, oj) :: R₂ ∧ rest ops (listed.setIfInBounds j true) = R₁ ++ R₂ ∧ ∀ p ∈ R₁, p.1 < j ∧ listed.getD p.1 true = false ∧ ops[p.1]? = some p.2 := by
  obtain ⟨r₁, r₂, h1, h2, l₁, l₂, hl, hr⟩ := filterMap_part (f := fun i => if listed.getD i true = false then (ops[i]?).map fun o => (i, o) else none)
    (g := fun i => if (listed.setIfInBounds j true).getD i true = false then (ops[i]?).map fun o => (i, o) else none) (l := List.range ops.size) (x := j) (y := (j, oj))
    (List.mem_range.2 (Array.getElem?_eq_some_iff.1 hj).1) List.nodup_range (by simp only [hu, if_true, hj, Option.map_some]) (by simp only [getD_set_self]; rfl)
    (fun z hz => by simp only [getD_set_ne true (Ne.symm hz)])
  refine ⟨r₁, r₂, h1, h2, fun p hp => ?_⟩
  have hm : p ∈ rest ops listed := by unfold rest; rw [h1]; exact List.mem_append_left _ hp
  refine ⟨?_, mem_rest.1 hm⟩
  rw [hr, List.mem_filterMap] at hp
  obtain ⟨i, hi, h⟩ := hp
  have hpi : p.1 = i := by
    split at h
    · cases ho : ops[i]? with
      | none => simp [ho] at h
      | some o => simp only [ho, Option.map_some, Option.some.injEq] at h; rw [← h]
    · cases h
  rw [hpi]
  have hs : (List.range ops.size).Pairwise (· < ·) := List.pairwise_lt_range
  rw [hl] at hs
  exact (List.pairwise_append.1 hs).2.2 i hi j (by simp)

theorem comes_up {T : List Nat} {g : Nat → Value} {i : Nat} {o : Oper} {a : Act} {v : Value} {L : Nat → Bool} {w : World} {K : Act → World → Prop} {Q' : Exit → Act → World → Prop} (ho : ops[i]? = some o) (hi : L i = false) (hd : ∀ e ∈ o.after, Region.binds .any e = true → L e.on = true) (hC : C L g w)
    (h : Ok P ops C T g i o a v) (hK : ∀ w', C (mark L i) g w' → K (a.put o.dst v) w') : wpOp P ops Q' i K a w := by
  unfold wpOp
  simp only [ho]
  unfold Ok at h
  split
  · rename_i hw
    rw [if_pos hw] at h
    have h3 := h L g w (fun _ _ => rfl) hi hd hC
    refine .inl ?_
    unfold Oper.wp
    generalize (execOp a.eval o).run P w = r at *
    cases r with
    | ok n w' =>
      cases n <;> simp only [comesTo] at h3 <;> simp only [Oper.upon]
      case value u => obtain ⟨e, h4⟩ := h3; subst e; exact hK _ h4
      case skip => obtain ⟨e, h4⟩ := h3; rw [e]; exact hK _ h4
      case enter f args => exact h3.mono fun e w'' ⟨he, hw''⟩ => by subst he; exact hK _ hw''
    | halt x w' => simp only [comesTo] at h3
  · rename_i hw
    rw [if_neg hw] at h
    obtain ⟨e, h4⟩ := h
    rw [e]
    exact hK _ (h4 L g w (fun _ _ => rfl) hi hC)
theorem made_up {g : Nat → Value} {i : Nat} {o : Oper} {a : Act} {L : Nat → Bool} {w : World} {K : Act → World → Prop} {Q' : Exit → Act → World → Prop} (ho : ops[i]? = some o) (hm : Oper.makes o = true) (hi : L i = false) (hC : C L g w)
    (h : Makes P C i o a) (hK : ∀ p w', C (mark L i) (held g i p) w' → K (a.put o.dst p) w') : wpOp P ops Q' i K a w := by
  unfold wpOp
  simp only [ho, wanted_makes hm, if_true]
  obtain ⟨p, w', hr, hc⟩ := h L g w hi hC
  refine .inl ?_
  unfold Oper.wp
  rw [hr]
  exact hK p w' hc

theorem getD_two {listed : Array Bool} {i : Nat} (h : i < listed.size) : listed.getD i true = listed.getD i false := by simp [h]

theorem any_of_inOrder (hp : planB ops = true) {Q' : Exit → Act → World → Prop} (hQ : ∀ g a w, Q g a → C (fun i => decide (i < ops.size)) g w → Q' .normal a w) : ∀ (fuel : Nat) (listed : Array Bool) (T : List Nat) (g : Nat → Value) (a : Act) (w : World), listed.size = ops.size → (rest ops listed).length ≤ fuel →
    (∀ k ∈ T, listed.getD k false = true) → C (fun i => listed.getD i false) g w → inOrder P ops C Q (rest ops listed) T g a → wpAny P .any ops Q' fuel listed a w := by
  have hnone : ∀ (listed : Array Bool), listed.size = ops.size → Region.ready .any ops listed = [] → rest ops listed = [] := by
    intro listed hsz hr
    cases hc : rest ops listed with
    | nil => rfl
    | cons p R =>
      exfalso
      have hm : p ∈ rest ops listed := by rw [hc]; simp
      obtain ⟨hu, ho⟩ := mem_rest.1 hm
      obtain ⟨R₁, R₂, e1, -, hR⟩ := rest_part ho hu
      have hR1 : R₁ = [] := by
        cases R₁ with
        | nil => rfl
        | cons q R₁ =>
          rw [hc] at e1
          have : p = q := by simpa using (List.cons.inj e1).1
          have h := hR q (by simp)
          rw [← this] at h
          omega
      have hin : p.1 ∈ Region.ready .any ops listed := by
        rw [mem_ready]
        refine ⟨hu, p.2, ho, fun e he hb => ?_⟩
        have hlt := planB_before hp ho e he hb
        have hlt2 : p.1 < ops.size := (Array.getElem?_eq_some_iff.1 ho).1
        cases hl : listed.getD e.on false with
        | true => rfl
        | false =>
          exfalso
          obtain ⟨oe, hoe⟩ : ∃ oe, ops[e.on]? = some oe := ⟨_, Array.getElem?_eq_getElem (by omega)⟩
          have hm2 : (e.on, oe) ∈ rest ops listed := mem_rest.2 ⟨by rw [getD_two (by omega)]; exact hl, hoe⟩
          have hs : (rest ops listed).Pairwise (fun x y => x.1 < y.1) := by
            unfold rest
            rw [List.pairwise_filterMap]
            refine List.pairwise_lt_range.imp fun {a b} hab x hx y hy => ?_
            have : x.1 = a := by
              revert hx; split
              · cases ho : ops[a]? <;> simp; rintro rfl; rfl
              · simp
            have : y.1 = b := by
              revert hy; split
              · cases ho : ops[b]? <;> simp; rintro rfl; rfl
              · simp
            omega
          rw [hc] at hs hm2
          rcases List.mem_cons.1 hm2 with h | h
          · rw [← h] at hlt; simp at hlt
          · have := (List.pairwise_cons.1 hs).1 _ h
            simp at this; omega
      rw [hr] at hin
      cases hin
  have hlast : ∀ (listed : Array Bool) (T : List Nat) (g : Nat → Value) (a : Act) (w : World), listed.size = ops.size → Region.ready .any ops listed = [] → C (fun i => listed.getD i false) g w → inOrder P ops C Q (rest ops listed) T g a → Q' .normal a w := by
    intro listed T g a w hsz hr hC h
    have hn := hnone listed hsz hr
    rw [hn] at h
    refine hQ g a w h ?_
    have : (fun i => listed.getD i false) = fun i => decide (i < ops.size) := by
      funext i
      by_cases hi : i < ops.size
      · rw [decide_eq_true hi]
        cases hl : listed.getD i false with
        | true => rfl
        | false =>
          have : (i, ops[i]) ∈ rest ops listed := mem_rest.2 ⟨by rw [getD_two (by omega)]; exact hl, Array.getElem?_eq_getElem hi⟩
          rw [hn] at this
          cases this
      · simp [hi, hsz]
    rw [← this]; exact hC
  intro fuel
  induction fuel with
  | zero =>
    intro listed T g a w hsz hf hT hC h
    have hr : Region.ready .any ops listed = [] := by
      cases hr : Region.ready .any ops listed with
      | nil => rfl
      | cons j js =>
        obtain ⟨hu, o, ho, -⟩ := mem_ready.1 (show j ∈ Region.ready .any ops listed by rw [hr]; simp)
        have : (j, o) ∈ rest ops listed := mem_rest.2 ⟨hu, ho⟩
        rw [List.length_eq_zero_iff.1 (Nat.le_zero.1 hf)] at this
        cases this
    exact ⟨hr, hlast listed T g a w hsz hr hC h⟩
  | succ fuel ih =>
    intro listed T g a w hsz hf hT hC h
    refine ⟨fun hr => hlast listed T g a w hsz hr hC h, fun j hj => ?_⟩
    obtain ⟨hu, oj, ho, hd⟩ := mem_ready.1 hj
    obtain ⟨R₁, R₂, e1, e2, hR⟩ := rest_part ho hu
    have hlt2 : j < ops.size := (Array.getElem?_eq_some_iff.1 ho).1
    have hsel := Region.noSelect_spec (ops := ops) (by unfold planB at hp; rw [Bool.and_eq_true] at hp; exact hp.1)
    rw [e1] at h
    have hap : ∀ p ∈ R₁, ops[p.1]? = some p.2 ∧ p.2.apart ops oj = true ∧ (Oper.makes p.2 = false ∨ Oper.makes oj = true) := fun p hp' => by
      obtain ⟨hlt, hun, hop⟩ := hR p hp'
      refine ⟨hop, ?_⟩
      rcases planB_apart hp hop ho hlt with ⟨e, he, hb, hon⟩ | h
      · exfalso
        have := hd e he hb
        rw [hon] at this
        rw [getD_two (by omega), this] at hun
        cases hun
      · exact h
    have hu' : listed.getD j false = false := by rw [← getD_two (by omega)]; exact hu
    have hlen : (rest ops (listed.setIfInBounds j true)).length ≤ fuel := by
      rw [e2]
      rw [e1] at hf
      simp only [List.length_append, List.length_cons] at hf ⊢
      omega
    have hmark : mark (fun i => listed.getD i false) j = fun i => (listed.setIfInBounds j true).getD i false := by
      funext i
      unfold mark
      by_cases hij : i = j
      · subst hij; simp [show i < listed.size by omega]
      · rw [if_neg hij, getD_set_ne false (Ne.symm hij)]
    cases hjm : Oper.makes oj with
    | true =>
      obtain ⟨hm, hall⟩ := takeMake hsel hjm R₁ R₂ T g a (fun hk => by rw [hT j hk] at hu'; cases hu') (fun p hp' => ⟨Nat.ne_of_lt (hR p hp').1, (hap p hp').1, (hap p hp').2.1⟩) h
      refine made_up ho hjm (L := fun i => listed.getD i false) hu' hC hm (fun p w' hw' => ?_)
      refine ih (listed.setIfInBounds j true) (j :: T) (held g j p) _ w' (by simpa using hsz) hlen (fun k hk => ?_) (by rw [← hmark]; exact hw') (by rw [e2]; exact hall p)
      rcases List.mem_cons.1 hk with rfl | hk
      · simp [show k < listed.size by omega]
      · exact getD_set_true (hT k hk)
    | false =>
      obtain ⟨v, hv, hin⟩ := takeOut hsel ho hjm R₁ R₂ T g a (fun p hp' => ⟨(hap p hp').1, (hap p hp').2.1, by
        rcases (hap p hp').2.2 with h | h
        · exact h
        · rw [hjm] at h; cases h⟩) h
      refine comes_up ho (L := fun i => listed.getD i false) hu' hd hC hv (fun w' hw' => ?_)
      exact ih (listed.setIfInBounds j true) T g _ w' (by simpa using hsz) hlen (fun k hk => getD_set_true (hT k hk)) (by rw [← hmark]; exact hw') (by rw [e2]; exact hin)

/-- A region that draws its order, walked once, in the text's order. -/
theorem wp_region_plan {id : Nat} {Q' : Exit → Act → World → Prop} {a : Act} {w : World} {l : List Oper} (C : (Nat → Bool) → (Nat → Value) → World → Prop) (n : Nat) (hm : P.follows .mixedOrders = true) (hp : planB l.toArray = true) (hn : n = l.length) (hC : C (fun _ => false) (fun _ => undef) { w with drawn := w.drawn + 1 })
    (h : inOrder P l.toArray C (fun g a' => ∀ w', C (fun i => decide (i < n)) g w' → Q' .normal a' w') (l.zipIdx.map fun p => (p.2, p.1)) [] (fun _ => undef) a) : (Code.region id l.toArray true).wp P Q' a w := by
  subst hn
  refine wp_region_any hm (any_of_inOrder hp (Q := fun g a' => ∀ w', C (fun i => decide (i < l.toArray.size)) g w' → Q' .normal a' w') (fun g a w h hc => h w hc) _ _ [] (fun _ => undef) _ _ (by simp) ?_ (by simp) ?_ ?_)
  · unfold rest
    exact Nat.le_trans (List.length_filterMap_le _ _) (by simp)
  · have : (fun i => (Array.replicate l.toArray.size false).getD i false) = fun _ => false := by
      funext i
      by_cases hi : i < l.length <;> simp [hi]
    rw [this]; exact hC
  · have : rest l.toArray (Array.replicate l.toArray.size false) = l.zipIdx.map fun p => (p.2, p.1) := by
      unfold rest
      apply List.ext_getElem?
      intro i
      have hfm : (List.range l.toArray.size).filterMap (fun i => if (Array.replicate l.toArray.size false).getD i true = false then (l.toArray[i]?).map fun o => (i, o) else none) = (List.range l.length).filterMap (fun i => (l[i]?).map fun o => (i, o)) := by
        simp only [List.size_toArray, List.getElem?_toArray]
        refine filterMap_same fun z hz => ?_
        rw [if_pos (by simp [List.mem_range.1 hz])]
      rw [hfm]
      have hmap : (List.range l.length).filterMap (fun i => (l[i]?).map fun o => (i, o)) = l.zipIdx.map fun p => (p.2, p.1) := by
        apply List.ext_getElem?
        intro k
        have : ∀ (m : Nat) (hm : m ≤ l.length), (List.range m).filterMap (fun i => (l[i]?).map fun o => (i, o)) = ((l.take m).zipIdx.map fun p => (p.2, p.1)) := by
          intro m
          induction m with
          | zero => intro _; simp
          | succ m ih =>
            intro hm
            rw [List.range_succ, List.filterMap_append, ih (by omega), List.take_succ_eq_append_getElem (by omega : m < l.length), List.zipIdx_append, List.map_append]
            simp [show m < l.length by omega, Nat.min_eq_left (show m ≤ l.length by omega)]
        rw [this l.length (Nat.le_refl _), List.take_length]
      rw [hmap]
    rw [this]
    exact h

theorem inOrder_nil {T : List Nat} {g : Nat → Value} {a : Act} (h : Q g a) : inOrder P ops C Q [] T g a := h
/-- One operation at a time, what follows behind a letter. -/
theorem inOrder_step {T : List Nat} {g : Nat → Value} {a : Act} {i : Nat} {o : Oper} {rest : List (Nat × Oper)} (hm : Oper.makes o = false) (hw : Region.wanted o (yielded ops a.tmps) = true)
    (h : ∀ K : Act → Prop, (∀ a, inOrder P ops C Q rest T g a → K a) → ∃ v, (∀ L g' w, (∀ k ∈ T, g' k = g k) → L i = false → (∀ e ∈ o.after, Region.binds .any e = true → L e.on = true) → C L g' w → comesTo P (C (mark L i) g') v ((execOp a.eval o).run P w)) ∧ K (a.put o.dst v)) : inOrder P ops C Q ((i, o) :: rest) T g a := by
  rw [inOrder, if_neg (by simp [hm])]
  obtain ⟨v, h1, h2⟩ := h _ (fun _ h => h)
  refine ⟨v, ?_, h2⟩
  unfold Ok
  rw [if_pos hw]
  exact h1
theorem inOrder_skip {T : List Nat} {g : Nat → Value} {a : Act} {i : Nat} {o : Oper} {rest : List (Nat × Oper)} (hm : Oper.makes o = false) (hw : Region.wanted o (yielded ops a.tmps) = false)
    (hC : ∀ L g' w, (∀ k ∈ T, g' k = g k) → L i = false → C L g' w → C (mark L i) g' w) (h : inOrder P ops C Q rest T g (a.put o.dst undef)) : inOrder P ops C Q ((i, o) :: rest) T g a := by
  rw [inOrder, if_neg (by simp [hm])]
  refine ⟨undef, ?_, h⟩
  unfold Ok
  rw [if_neg (by simp [hw])]
  exact ⟨rfl, hC⟩
theorem inOrder_make {T : List Nat} {g : Nat → Value} {a : Act} {i : Nat} {o : Oper} {rest : List (Nat × Oper)} (hm : Oper.makes o = true)
    (h1 : Makes P C i o a) (h2 : ∀ p, inOrder P ops C Q rest (i :: T) (held g i p) (a.put o.dst p)) : inOrder P ops C Q ((i, o) :: rest) T g a := by
  rw [inOrder, if_pos hm]
  exact ⟨h1, h2⟩
/-- An operation without a guard. -/
theorem inOrder_op {T : List Nat} {g : Nat → Value} {a : Act} {i : Nat} {o : Oper} {rest : List (Nat × Oper)} {v : Value} (hm : Oper.makes o = false) (hg : o.guard = none)
    (h : ∀ L g' w, (∀ k ∈ T, g' k = g k) → L i = false → (∀ e ∈ o.after, Region.binds .any e = true → L e.on = true) → C L g' w → comesTo P (C (mark L i) g') v ((execOp a.eval o).run P w))
    (hr : inOrder P ops C Q rest T g (a.put o.dst v)) : inOrder P ops C Q ((i, o) :: rest) T g a :=
  inOrder_step hm (by simp [Region.wanted, hg]) fun _ hK => ⟨v, h, hK _ hr⟩
theorem inOrder_want {T : List Nat} {g : Nat → Value} {a : Act} {i : Nat} {o : Oper} {rest : List (Nat × Oper)} {v : Value} (hm : Oper.makes o = false) (hw : Region.wanted o (yielded ops a.tmps) = true)
    (h : ∀ L g' w, (∀ k ∈ T, g' k = g k) → L i = false → (∀ e ∈ o.after, Region.binds .any e = true → L e.on = true) → C L g' w → comesTo P (C (mark L i) g') v ((execOp a.eval o).run P w))
    (hr : inOrder P ops C Q rest T g (a.put o.dst v)) : inOrder P ops C Q ((i, o) :: rest) T g a :=
  inOrder_step hm hw fun _ hK => ⟨v, h, hK _ hr⟩
theorem comes_value {D : World → Prop} {v u : Value} {r : Result Next} {w' : World} (hr : r = .ok (.value u) w') (hv : u = v) (hD : D w') : comesTo P D v r := by subst hr; exact ⟨hv, hD⟩
theorem comes_skip {D : World → Prop} {r : Result Next} {w' : World} (hr : r = .ok .skip w') (hD : D w') : comesTo P D undef r := by subst hr; exact ⟨rfl, hD⟩
theorem comes_call {D : World → Prop} {v : Value} {r : Result Next} {w' : World} {f : FuncId} {args : Array Value} (hr : r = .ok (.enter f args) w') (hc : Calls P f args w' (fun e w'' => e = .returned v ∧ D w'')) : comesTo P D v r := by subst hr; exact hc
end

/-! ### What is known of a world: some cells, and that what lay below B in w is as it was -/
def Cells : List (Addr × Value) → World → Prop
  | [], _ => True
  | p :: l, W => W.cell? p.1 = some p.2 ∧ Cells l W
def Frees : List Addr → World → Prop
  | [], _ => True
  | p :: l, W => (p.block < W.heap.size ∧ W.frozen? p = false) ∧ Frees l W
def Knows (B : Nat) (w : World) (l : List (Addr × Value)) (f : List Addr) (W : World) : Prop := Below B w W ∧ B ≤ W.heap.size ∧ Cells l W ∧ Frees f W
theorem Cells.imp {W W' : World} (h : ∀ (p : Addr) (v : Value), W.cell? p = some v → W'.cell? p = some v) : ∀ {l : List (Addr × Value)}, Cells l W → Cells l W'
  | [], _ => trivial
  | _ :: _, hc => ⟨h _ _ hc.1, Cells.imp h hc.2⟩
theorem Frees.imp {W W' : World} (hs : W.heap.size ≤ W'.heap.size) (h : ∀ (p : Addr), p.block < W.heap.size → W.frozen? p = false → W'.frozen? p = false) : ∀ {l : List Addr}, Frees l W → Frees l W'
  | [], _ => trivial
  | _ :: _, hc => ⟨⟨Nat.lt_of_lt_of_le hc.1.1 hs, h _ hc.1.1 hc.1.2⟩, Frees.imp hs h hc.2⟩
section
variable {B : Nat} {w W W' : World} {l : List (Addr × Value)} {f : List Addr}
theorem Knows.call (h : Knows B w l f W) (hb : Below W.heap.size W W') : Knows B w l f W' :=
  ⟨h.1.trans (hb.mono h.2.1), Nat.le_trans h.2.1 hb.size, h.2.2.1.imp fun p _ hv => (hb.cell (World.block_lt_of_cell? W p hv)).trans hv, h.2.2.2.imp hb.size fun _ hl hv => (hb.frozen hl).trans hv⟩
theorem Knows.drew (h : Knows B w l f W) : Knows B w l f { W with drawn := W.drawn + 1 } :=
  ⟨h.1.drew, h.2.1, Cells.imp (W := W) (W' := { W with drawn := W.drawn + 1 }) (fun _ _ hv => hv) h.2.2.1, Frees.imp (W := W) (W' := { W with drawn := W.drawn + 1 }) (Nat.le_refl _) (fun _ _ hv => hv) h.2.2.2⟩
theorem Knows.alloc (h : Knows B w l f W) (o : Obj) : Knows B w l f (W.alloc o) :=
  ⟨h.1.alloc h.2.1 o, Nat.le_trans h.2.1 (by simp), h.2.2.1.imp fun p v hv => by
    rw [World.cell?_alloc_lt _ _ _ (World.block_lt_of_cell? W p hv)]; exact hv, h.2.2.2.imp (by simp) fun p hl hv => by
    exact (((Below.refl W.heap.size W).alloc (Nat.le_refl _) o).frozen hl).trans hv⟩
theorem Knows.more (h : Knows B w l f W) {p : Addr} {v : Value} (hp : W.cell? p = some v) : Knows B w ((p, v) :: l) f W := ⟨h.1, h.2.1, ⟨hp, h.2.2.1⟩, h.2.2.2⟩
theorem Knows.moreFree (h : Knows B w l f W) {p : Addr} (hl : p.block < W.heap.size) (hp : W.frozen? p = false) : Knows B w l (p :: f) W := ⟨h.1, h.2.1, h.2.2.1, ⟨hl, hp⟩, h.2.2.2⟩
end

/-- Operation i makes a variable of the cells z; operation s (behind it) lays the cells v there. -/
def Var (L : Nat → Bool) (g : Nat → Value) (i s B : Nat) (z v : Array Value) (t : TypeId) (W : World) : Prop :=
  (L s = true → L i = true) ∧ (L i = true → ∃ b, g i = .pointer (some ⟨b, 0, none⟩) ∧ B ≤ b ∧ b < W.heap.size ∧ W.heap[b]? = some (.cells (if L s = true then v else z) t))
section
variable {L : Nat → Bool} {g : Nat → Value} {i s k B : Nat} {z v : Array Value} {t : TypeId} {W W' : World}
theorem mark_ne (h : i ≠ k) : mark L k i = L i := by unfold mark; rw [if_neg h]
theorem mark_self : mark L k k = true := by unfold mark; rw [if_pos rfl]
theorem held_ne {p : Value} (h : i ≠ k) : held g k p i = g i := by unfold held; rw [if_neg h]
theorem held_self {p : Value} : held g k p k = p := by unfold held; rw [if_pos rfl]
theorem Var.mark (h : Var L g i s B z v t W) (hi : i ≠ k) (hs : s ≠ k) : Var (mark L k) g i s B z v t W := by
  unfold Var at *
  rwa [mark_ne hi, mark_ne hs]
theorem Var.call (h : Var L g i s B z v t W) (hb : Below W.heap.size W W') : Var L g i s B z v t W' :=
  ⟨h.1, fun hi => let ⟨b, h1, h2, h3, h4⟩ := h.2 hi; ⟨b, h1, h2, Nat.lt_of_lt_of_le h3 hb.size, (hb.block b h3).trans h4⟩⟩
theorem Var.alloc (h : Var L g i s B z v t W) (o : Obj) : Var L g i s B z v t (W.alloc o) := h.call ((Below.refl _ _).alloc (Nat.le_refl _) o)
theorem Var.held {p : Value} (h : Var L g i s B z v t W) (hi : i ≠ k) : Var L (held g k p) i s B z v t W := by
  unfold Var at *
  rwa [held_ne hi]
theorem Var.make (h : Var L g i s B z v t W) (hi : L i = false) (his : s ≠ i) (hB : B ≤ W.heap.size) : Var (Go.Proofs.Ytkdfkpalgejkkaa.mark L i) (Go.Proofs.Ytkdfkpalgejkkaa.held g i (.pointer (some ⟨W.heap.size, 0, none⟩))) i s B z v t (W.alloc (.cells z t)) := by
  have hs : L s = false := by
    cases hs : L s with
    | false => rfl
    | true => rw [h.1 hs] at hi; cases hi
  refine ⟨fun _ => mark_self, fun _ => ⟨W.heap.size, held_self, hB, by simp, ?_⟩⟩
  rw [mark_ne his, hs]
  show (W.heap.push _)[W.heap.size]? = _
  simp
theorem Var.here (h : Var L g i s B z v t W) (hi : L i = true) (hs : L s = false) : ∃ b, g i = .pointer (some ⟨b, 0, none⟩) ∧ B ≤ b ∧ b < W.heap.size ∧ W.heap[b]? = some (.cells z t) := by
  obtain ⟨b, h1, h2, h3, h4⟩ := h.2 hi
  rw [hs] at h4
  exact ⟨b, h1, h2, h3, by simpa using h4⟩
theorem Var.done (h : Var L g i s B z v t W) (hi : L i = true) (hs : L s = true) : ∃ b, g i = .pointer (some ⟨b, 0, none⟩) ∧ B ≤ b ∧ b < W.heap.size ∧ W.heap[b]? = some (.cells v t) := by
  obtain ⟨b, h1, h2, h3, h4⟩ := h.2 hi
  rw [hs] at h4
  exact ⟨b, h1, h2, h3, by simpa using h4⟩
/-- The store; W' differs from W in that block alone. -/
theorem Var.store {b : Nat} (hi : L i = true) (h1 : g i = .pointer (some ⟨b, 0, none⟩)) (h2 : B ≤ b) (h3 : b < W.heap.size) (his : i ≠ s) (hs : W'.heap.size = W.heap.size) (h4 : W'.heap[b]? = some (.cells v t)) : Var (Go.Proofs.Ytkdfkpalgejkkaa.mark L s) g i s B z v t W' :=
  ⟨fun _ => by rw [mark_ne his]; exact hi, fun _ => ⟨b, h1, h2, by omega, by rw [mark_self]; simpa using h4⟩⟩
theorem Var.other {b : Nat} (h : Var L g i s B z v t W) (hne : g i ≠ .pointer (some ⟨b, 0, none⟩)) (hs : W'.heap.size = W.heap.size) (hw : ∀ k, k ≠ b → W'.heap[k]? = W.heap[k]?) : Var L g i s B z v t W' :=
  ⟨h.1, fun hi => let ⟨c, h1, h2, h3, h4⟩ := h.2 hi; ⟨c, h1, h2, by omega, (hw c (by rintro rfl; exact hne h1)).trans h4⟩⟩
end
/-- A block of the cells z, or v, where that has been laid. -/
def Own (on : Bool) (b : Nat) (z v : Array Value) (t : TypeId) (W : World) : Prop := b < W.heap.size ∧ W.heap[b]? = some (.cells (if on = true then v else z) t)
theorem Own.call {on : Bool} {b : Nat} {z v : Array Value} {t : TypeId} {W W' : World} (h : Own on b z v t W) (hb : Below W.heap.size W W') : Own on b z v t W' := ⟨Nat.lt_of_lt_of_le h.1 hb.size, (hb.block b h.1).trans h.2⟩
theorem Own.no {on : Bool} {b : Nat} {z v : Array Value} {t : TypeId} {W : World} (h : Own on b z v t W) (ho : on = false) : W.heap[b]? = some (.cells z t) := by have := h.2; rw [ho] at this; simpa using this
theorem Own.yes {on : Bool} {b : Nat} {z v : Array Value} {t : TypeId} {W : World} (h : Own on b z v t W) (ho : on = true) : W.heap[b]? = some (.cells v t) := by have := h.2; rw [ho] at this; simpa using this
/-- A store of one cell. -/
theorem set1_block {W : World} {b o : Nat} {cs : Array Value} {v : Value} {t : TypeId} (h : W.heap[b]? = some (.cells cs t)) : (W.setCell ⟨b, o, none⟩ v).heap[b]? = some (.cells (cs.setIfInBounds o v) t) := by
  simp [World.setCell, Array.getElem?_modify, h]
theorem set1_other {W : World} {b o : Nat} {v : Value} (k : Nat) (hk : k ≠ b) : (W.setCell ⟨b, o, none⟩ v).heap[k]? = W.heap[k]? := by
  simp [World.setCell, Array.getElem?_modify, Ne.symm hk]
theorem set1_size {W : World} {b o : Nat} {v : Value} : (W.setCell ⟨b, o, none⟩ v).heap.size = W.heap.size := by simp [World.setCell]
/-- A store of two cells. -/
theorem set2_block {W : World} {b : Nat} {x0 x1 v0 v1 : Value} {t : TypeId} (h : W.heap[b]? = some (.cells #[x0, x1] t)) : ((W.setCell ⟨b, 0, none⟩ v0).setCell ⟨b, 1, none⟩ v1).heap[b]? = some (.cells #[v0, v1] t) := by
  simp [World.setCell, Array.getElem?_modify, h]
theorem set2_other {W : World} {b : Nat} {v0 v1 : Value} (k : Nat) (hk : k ≠ b) : ((W.setCell ⟨b, 0, none⟩ v0).setCell ⟨b, 1, none⟩ v1).heap[k]? = W.heap[k]? := by
  simp [World.setCell, Array.getElem?_modify, Ne.symm hk]
theorem set2_size {W : World} {b : Nat} {v0 v1 : Value} : ((W.setCell ⟨b, 0, none⟩ v0).setCell ⟨b, 1, none⟩ v1).heap.size = W.heap.size := by simp [World.setCell]
/-- Blocks that are known whole. -/
theorem block_cell {W : World} {b o : Nat} {cs : Array Value} {t : TypeId} {v : Value} (h : W.heap[b]? = some (.cells cs t)) (hv : cs[o]? = some v) : W.cell? ⟨b, o, none⟩ = some v := by simp [World.cell?, h, hv]
theorem block_free {W : World} {b : Nat} {cs : Array Value} {t : TypeId} (h : W.heap[b]? = some (.cells cs t)) (o : Nat) : W.frozen? ⟨b, o, none⟩ = false := by simp [World.frozen?, h]
theorem Knows.far {B : Nat} {w W W' : World} {l : List (Addr × Value)} {f : List Addr} {b : Nat} (h : Knows B w l f W) (hB : B ≤ b) (hl : ∀ p ∈ l, p.1.block ≠ b) (hf : ∀ p ∈ f, p.block ≠ b) (hs : W'.heap.size = W.heap.size) (ho : W'.os = W.os) (ht : W'.tape = W.tape) (hu : W'.output = W.output) (hw : ∀ k, k ≠ b → W'.heap[k]? = W.heap[k]?) : Knows B w l f W' := by
  obtain ⟨h1, h2, h3, h4⟩ := h
  refine ⟨⟨by rw [ho]; exact h1.os, by rw [ht]; exact h1.tape, by rw [hu]; exact h1.output, by rw [hs]; exact h1.size, fun k hk => (hw k (by omega)).trans (h1.block k hk)⟩, by omega, ?_, ?_⟩
  · clear h1 h2 h4
    induction l with
    | nil => trivial
    | cons p l ih =>
      refine ⟨?_, ih (fun q hq => hl q (by simp [hq])) h3.2⟩
      have := h3.1
      unfold World.cell? at this ⊢
      rwa [hw _ (hl p (by simp))]
  · clear h1 h2 h3
    induction f with
    | nil => trivial
    | cons p f ih =>
      refine ⟨⟨by have := h4.1.1; omega, ?_⟩, ih (fun q hq => hf q (by simp [hq])) h4.2⟩
      have := h4.1.2
      unfold World.frozen? at this ⊢
      rwa [hw _ (hf p (by simp))]
end Go.Proofs.Ytkdfkpalgejkkaa
