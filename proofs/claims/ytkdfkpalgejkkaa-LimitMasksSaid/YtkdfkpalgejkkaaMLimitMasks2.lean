/- Part 2 of 3. The statement LimitMasks holds: the mask of a point has its class, and that of each deviation less than one part of the scale away; for every input, under no condition. -/
import Derived.Test.YtkdfkpalgejkkaaMLimitMasks1
import Derived.Deep.DeepCutAuto
import Derived.Lib.Hide
import Derived.Test.YtkdfkpalgejkkaaProg
import Derived.Below
import Derived.Deep.Draws
import Derived.Deep.AppendLies
import Derived.Maps.AppendAt
import Derived.OwnWalk
import Derived.Laws.BytesArg
import Derived.Laws.MakeOwn
import Derived.Laws.OwnMore
import Derived.Deep.OwnRows
import Derived.Tactics
import Derived.Lib.ConvBytes
import Derived.Laws.Slices
import Derived.WalkKit
import Derived.KernelRfl
import Derived.RowKit3
import Derived.Deep.LoopGhost
import Derived.Deep.QuietTactic
import Derived.BigQuiet
import Derived.WideLaws
import Derived.Deep.CutBlock
import Derived.Deep.RegionHeld3
import Derived.Laws.Rows
import Derived.Lib.AppendStr
import Derived.ArgAppend
import Derived.Laws.IdiomCopy
import Derived.OrdersHeld
import Derived.Laws.BitsLemmas
import Derived.RowKit
import Derived.Test.YtkdfkpalgejkkaaWWords
import Derived.Test.YtkdfkpalgejkkaaWLast
import Derived.Test.YtkdfkpalgejkkaaWTab
import Derived.Test.YtkdfkpalgejkkaaWFour
import Derived.Test.YtkdfkpalgejkkaaWQPut
import Derived.Test.YtkdfkpalgejkkaaWApart
import Derived.Test.YtkdfkpalgejkkaaWArr
import Derived.Test.YtkdfkpalgejkkaaWZeros
import Derived.Test.YtkdfkpalgejkkaaWFoot
import Derived.Test.YtkdfkpalgejkkaaWKept
import Derived.Test.YtkdfkpalgejkkaaWShare
import Derived.Test.YtkdfkpalgejkkaaWN
import Derived.Test.YtkdfkpalgejkkaaWFootNe
import Derived.Test.YtkdfkpalgejkkaaWAt
import Derived.Test.YtkdfkpalgejkkaaWEqStruct
import Derived.Test.YtkdfkpalgejkkaaWRepsOne
import Derived.Test.YtkdfkpalgejkkaaWInv
import Derived.Test.YtkdfkpalgejkkaaWInvWords
import Derived.Test.YtkdfkpalgejkkaaWGuard
import Derived.Test.YtkdfkpalgejkkaaWNEv
import Derived.Test.YtkdfkpalgejkkaaWMore
/-
  wide.Add, walked by hand.
-/
set_option linter.unusedSimpArgs false
namespace Go.Proofs.Ytkdfkpalgejkkaa
open Go.RowKit Go.Shelf

theorem a64hi_le {x y c : Int} (hx : Word x) (hy : Word y) (h0 : 0 ≤ c) (h1 : c ≤ 1) : a64hi x y c ≤ 1 := by rw [a64hi_eq hx.1 hy.1 h0]; unfold Word at hx hy; unfold hiW; omega
attribute [local go_sem] add64' sub64'
set_option maxHeartbeats 1000000 in
set_option maxRecDepth 100000 in
theorem wide_Add_c (x y : Int) (hx : Wide x) (hy : Wide y) (w : World) :
    Calls Try.prog 98 #[wv x, wv y] w fun e w' => e = .returned (.tuple #[wv ((x + y) % 340282366920938463463374607431768211456), .bool (decide (340282366920938463463374607431768211456 ≤ x + y))]) ∧ Below w.heap.size w w' := by
  have h1 := word_hiW hx
  have h2 := word_hiW hy
  have h3 := word_loW x
  have h4 := word_loW y
  have HH := Lib.hid (fun n W => halves_c n W)
  go_enter Try.func98, Try.ntmps98
  go_upto_region 1 with fail
  generalize hn : w.heap.size = n
  have HN := Lib.hid hn
  clear hn
  refine wp_region_plan (fun L g W => Knows n w [(⟨n, 0, none⟩, .int .u64 (hiW x)), (⟨n, 1, none⟩, .int .u64 (loW x)), (⟨n + 1, 0, none⟩, .int .u64 (hiW y)), (⟨n + 1, 1, none⟩, .int .u64 (loW y)), (⟨n + 1 + 1, 0, none⟩, .int .u64 0), (⟨n + 1 + 1, 1, none⟩, .int .u64 0)] [⟨n + 1 + 1, 0, none⟩, ⟨n + 1 + 1, 1, none⟩] W ∧ n + 3 ≤ W.heap.size ∧ Var L g 4 6 (n + 3) #[.int .u64 0, .int .u64 0] #[.int .u64 (loW x), .int .u64 (hiW x)] 141 W ∧ Var L g 5 7 (n + 3) #[.int .u64 0, .int .u64 0] #[.int .u64 (loW y), .int .u64 (hiW y)] 141 W ∧ (L 4 = true → L 5 = true → g 4 ≠ g 5)) 8 (by kernel_rfl) (by kernel_rfl) rfl ?_ ?_
  · exact ⟨HN.out ▸ Knows.drew ⟨((((Below.refl _ _).alloc (Nat.le_refl _) _).alloc (by simp) _).alloc (by simp; omega) _), by simp; omega, by simp [Cells, go_sem], by simp [Frees, go_sem]⟩, by rw [← HN.out]; simp, ⟨by simp, by simp⟩, ⟨by simp, by simp⟩, by simp⟩
  simp only [List.zipIdx_cons, List.zipIdx_nil, List.map_cons, List.map_nil, Nat.zero_add, Nat.reduceAdd]
  apply inOrder_op rfl rfl
  · intro L g' W _ _ _ hW
    obtain ⟨-, -, ⟨q1, q2, q3, q4, -⟩, -⟩ := id hW.1
    apply comes_value (hv := rfl) (hD := ⟨hW.1, hW.2.1, hW.2.2.1.mark (by decide) (by decide), hW.2.2.2.1.mark (by decide) (by decide), by rw [mark_ne (by decide), mark_ne (by decide)]; exact hW.2.2.2.2⟩)
    go_simp
    rfl
  simp only [Act.put, List.setIfInBounds_toArray, List.set_cons_zero, List.set_cons_succ]
  apply inOrder_op rfl rfl
  · intro L g' W _ _ _ hW
    obtain ⟨-, -, ⟨q1, q2, q3, q4, -⟩, -⟩ := id hW.1
    apply comes_call
    · go_simp
      first | rfl | exact ⟨rfl, rfl⟩ | exact ⟨⟨rfl, rfl⟩, rfl⟩
    · refine (HH.out x W).mono ?_
      rintro e w' ⟨rfl, hb⟩
      exact ⟨rfl, ⟨hW.1.call hb, Nat.le_trans hW.2.1 hb.size, (hW.2.2.1.call hb).mark (by decide) (by decide), (hW.2.2.2.1.call hb).mark (by decide) (by decide), by rw [mark_ne (by decide), mark_ne (by decide)]; exact hW.2.2.2.2⟩⟩
  simp only [Act.put, List.setIfInBounds_toArray, List.set_cons_zero, List.set_cons_succ]
  apply inOrder_op rfl rfl
  · intro L g' W _ _ _ hW
    obtain ⟨-, -, ⟨q1, q2, q3, q4, -⟩, -⟩ := id hW.1
    apply comes_value (hv := rfl) (hD := ⟨hW.1, hW.2.1, hW.2.2.1.mark (by decide) (by decide), hW.2.2.2.1.mark (by decide) (by decide), by rw [mark_ne (by decide), mark_ne (by decide)]; exact hW.2.2.2.2⟩)
    go_simp
    rfl
  simp only [Act.put, List.setIfInBounds_toArray, List.set_cons_zero, List.set_cons_succ]
  apply inOrder_op rfl rfl
  · intro L g' W _ _ _ hW
    obtain ⟨-, -, ⟨q1, q2, q3, q4, -⟩, -⟩ := id hW.1
    apply comes_call
    · go_simp
      first | rfl | exact ⟨rfl, rfl⟩ | exact ⟨⟨rfl, rfl⟩, rfl⟩
    · refine (HH.out y W).mono ?_
      rintro e w' ⟨rfl, hb⟩
      exact ⟨rfl, ⟨hW.1.call hb, Nat.le_trans hW.2.1 hb.size, (hW.2.2.1.call hb).mark (by decide) (by decide), (hW.2.2.2.1.call hb).mark (by decide) (by decide), by rw [mark_ne (by decide), mark_ne (by decide)]; exact hW.2.2.2.2⟩⟩
  simp only [Act.put, List.setIfInBounds_toArray, List.set_cons_zero, List.set_cons_succ]
  refine inOrder_make rfl (fun L g' W hi hW => ?_) (fun p4 => ?_)
  · refine ⟨.pointer (some ⟨W.heap.size, 0, none⟩), W.alloc (.cells #[.int .u64 0, .int .u64 0] 141), by go_simp, hW.1.alloc _, Nat.le_trans hW.2.1 (by simp), hW.2.2.1.make hi (by decide) hW.2.1, ((hW.2.2.2.1.alloc _).held (by decide)).mark (by decide) (by decide), fun _ h5 => ?_⟩
    rw [mark_ne (by decide)] at h5
    obtain ⟨b, hb1, -, hb3, -⟩ := hW.2.2.2.1.2 h5
    rw [held_self, held_ne (by decide), hb1]
    first | (simp; done) | (simp; omega)
  simp only [Act.put, List.setIfInBounds_toArray, List.set_cons_zero, List.set_cons_succ]
  refine inOrder_make rfl (fun L g' W hi hW => ?_) (fun p5 => ?_)
  · refine ⟨.pointer (some ⟨W.heap.size, 0, none⟩), W.alloc (.cells #[.int .u64 0, .int .u64 0] 141), by go_simp, hW.1.alloc _, Nat.le_trans hW.2.1 (by simp), ((hW.2.2.1.alloc _).held (by decide)).mark (by decide) (by decide), hW.2.2.2.1.make hi (by decide) hW.2.1, fun h4 _ => ?_⟩
    rw [mark_ne (by decide)] at h4
    obtain ⟨b, hb1, -, hb3, -⟩ := hW.2.2.1.2 h4
    rw [held_self, held_ne (by decide), hb1]
    first | (simp; done) | (simp; omega)
  simp only [Act.put, List.setIfInBounds_toArray, List.set_cons_zero, List.set_cons_succ]
  refine inOrder_op (v := undef) rfl rfl (fun L g' W hT hL hd hW => ?_) ?_
  · have h4 : L 4 = true := hd ⟨4, .data⟩ (by simp) rfl
    have h5 : L 5 = true := hd ⟨5, .phase⟩ (by simp) rfl
    obtain ⟨b, hb1, hb2, hb3, hb4⟩ := hW.2.2.1.here h4 hL
    have hp : p4 = .pointer (some ⟨b, 0, none⟩) := by rw [← hb1, hT 4 (by simp)]; rfl
    subst hp
    have c0 := block_cell (o := 0) hb4 rfl
    have c1 := block_cell (o := 1) hb4 rfl
    have f0 := block_free hb4 0
    have f1 := block_free hb4 1
    refine comes_skip (w' := (W.setCell ⟨b, 0, none⟩ (.int .u64 (loW x))).setCell ⟨b, 1, none⟩ (.int .u64 (hiW x))) (by go_simp) ⟨hW.1.far (b := b) (by omega) (by simp; omega) (by simp; omega) set2_size rfl rfl rfl set2_other, by rw [set2_size]; exact hW.2.1,
      Var.store h4 hb1 hb2 hb3 (by decide) set2_size (set2_block hb4), (hW.2.2.2.1.other (b := b) (by rw [← hb1]; exact (hW.2.2.2.2 h4 h5).symm) set2_size set2_other).mark (by decide) (by decide), by rw [mark_ne (by decide), mark_ne (by decide)]; exact hW.2.2.2.2⟩
  simp only [Act.put, List.setIfInBounds_toArray, List.set_cons_zero, List.set_cons_succ]
  refine inOrder_op (v := undef) rfl rfl (fun L g' W hT hL hd hW => ?_) ?_
  · have h4 : L 4 = true := hd ⟨4, .phase⟩ (by simp) rfl
    have h5 : L 5 = true := hd ⟨5, .data⟩ (by simp) rfl
    obtain ⟨b, hb1, hb2, hb3, hb4⟩ := hW.2.2.2.1.here h5 hL
    have hp : p5 = .pointer (some ⟨b, 0, none⟩) := by rw [← hb1, hT 5 (by simp)]; rfl
    subst hp
    have c0 := block_cell (o := 0) hb4 rfl
    have c1 := block_cell (o := 1) hb4 rfl
    have f0 := block_free hb4 0
    have f1 := block_free hb4 1
    refine comes_skip (w' := (W.setCell ⟨b, 0, none⟩ (.int .u64 (loW y))).setCell ⟨b, 1, none⟩ (.int .u64 (hiW y))) (by go_simp) ⟨hW.1.far (b := b) (by omega) (by simp; omega) (by simp; omega) set2_size rfl rfl rfl set2_other, by rw [set2_size]; exact hW.2.1,
      (hW.2.2.1.other (b := b) (by rw [← hb1]; exact hW.2.2.2.2 h4 h5) set2_size set2_other).mark (by decide) (by decide), Var.store h5 hb1 hb2 hb3 (by decide) set2_size (set2_block hb4), by rw [mark_ne (by decide), mark_ne (by decide)]; exact hW.2.2.2.2⟩
  simp only [Act.put, List.setIfInBounds_toArray, List.set_cons_zero, List.set_cons_succ]
  refine inOrder_nil ?_
  intro W hW
  obtain ⟨⟨hB, hs, ⟨-, -, -, -, q5, q6, -⟩, ⟨-, z5⟩, ⟨-, z6⟩, -⟩, -, hv4, hv5, hne⟩ := hW
  obtain ⟨b6, e6, l6, s6, k6⟩ := hv4.done rfl rfl
  obtain ⟨b7, e7, l7, s7, k7⟩ := hv5.done rfl rfl
  obtain rfl : p4 = .pointer (some ⟨b6, 0, none⟩) := e6
  obtain rfl : p5 = .pointer (some ⟨b7, 0, none⟩) := e7
  clear hv4 hv5 hne
  have c60 := block_cell (o := 0) k6 rfl
  have c61 := block_cell (o := 1) k6 rfl
  have c70 := block_cell (o := 0) k7 rfl
  have c71 := block_cell (o := 1) k7 rfl
  clear k6 k7
  obtain ⟨b8, hb8⟩ : ∃ b, W.heap.size = b := ⟨_, rfl⟩
  have l8 : n + 3 ≤ b8 := by omega
  have n6 : b6 ≠ b8 := by omega
  have n7 : b7 ≠ b8 := by omega
  have ll6 : b6 < b8 := by omega
  have ll7 : b7 < b8 := by omega
  have HK : Hid (Knows n w [(⟨b6, 0, none⟩, .int .u64 (loW x)), (⟨b6, 1, none⟩, .int .u64 (hiW x)), (⟨b7, 0, none⟩, .int .u64 (loW y)), (⟨b7, 1, none⟩, .int .u64 (hiW y)), (⟨n + 1 + 1, 0, none⟩, .int .u64 0), (⟨n + 1 + 1, 1, none⟩, .int .u64 0)] [⟨n + 1 + 1, 0, none⟩, ⟨n + 1 + 1, 1, none⟩] (W.alloc (.cells #[.int .u64 0, .int .u64 0] 141))) := by
    refine Lib.hid (Knows.alloc ?_ _)
    exact ⟨hB, by omega, ⟨c60, c61, c70, c71, q5, q6, trivial⟩, ⟨by show n + 1 + 1 < _; omega, z5⟩, ⟨by show n + 1 + 1 < _; omega, z6⟩, trivial⟩
  have HO : Hid (Own false b8 #[.int .u64 0, .int .u64 0] #[.int .u64 (a64lo (loW x) (loW y) 0), .int .u64 0] 141 (W.alloc (.cells #[.int .u64 0, .int .u64 0] 141))) :=
    Lib.hid ⟨by rw [← hb8]; simp, by rw [← hb8]; show (W.heap.push _)[W.heap.size]? = _; simp⟩
  clear hB q5 q6 z5 z6 c60 c61 c70 c71 s6 s7
  have hc1 : a64hi (loW x) (loW y) 0 ≤ 1 := a64hi_le h3 h4 (Int.le_refl 0) (by omega)
  have hb8' := Lib.hid hb8
  clear hs
  go_wp2_with (first | (with_reducible refine wp_loop_rounds 3 ?_); rw [rounds_succ])
  refine wp_region_plan (fun L _ W' => Knows n w [(⟨b6, 0, none⟩, .int .u64 (loW x)), (⟨b6, 1, none⟩, .int .u64 (hiW x)), (⟨b7, 0, none⟩, .int .u64 (loW y)), (⟨b7, 1, none⟩, .int .u64 (hiW y)), (⟨n + 1 + 1, 0, none⟩, .int .u64 0), (⟨n + 1 + 1, 1, none⟩, .int .u64 0)] [⟨n + 1 + 1, 0, none⟩, ⟨n + 1 + 1, 1, none⟩] W' ∧ Own (L 13) b8 #[.int .u64 0, .int .u64 0] #[.int .u64 (a64lo (loW x) (loW y) 0), .int .u64 0] 141 W') 15 (by kernel_rfl) (by kernel_rfl) rfl ?_ ?_
  · exact ⟨HK.out.drew, HO.out⟩
  simp only [List.zipIdx_cons, List.zipIdx_nil, List.map_cons, List.map_nil, Nat.zero_add, Nat.reduceAdd]
  apply inOrder_op rfl rfl
  · intro L g' W _ _ _ hW
    obtain ⟨-, -, ⟨q1, q2, q3, q4, q5, q6, -⟩, -⟩ := id hW.1
    apply comes_value (hv := rfl) (hD := ⟨hW.1, by rw [mark_ne (by decide)]; exact hW.2⟩)
    go_simp
    rfl
  simp only [Act.put, List.setIfInBounds_toArray, List.set_cons_zero, List.set_cons_succ]
  apply inOrder_op rfl rfl
  · intro L g' W _ _ _ hW
    obtain ⟨-, -, ⟨q1, q2, q3, q4, q5, q6, -⟩, -⟩ := id hW.1
    apply comes_value (hv := rfl) (hD := ⟨hW.1, by rw [mark_ne (by decide)]; exact hW.2⟩)
    go_simp
    rfl
  simp only [Act.put, List.setIfInBounds_toArray, List.set_cons_zero, List.set_cons_succ]
  apply inOrder_op rfl rfl
  · intro L g' W _ _ _ hW
    obtain ⟨-, -, ⟨q1, q2, q3, q4, q5, q6, -⟩, -⟩ := id hW.1
    apply comes_value (hv := rfl) (hD := ⟨hW.1, by rw [mark_ne (by decide)]; exact hW.2⟩)
    go_simp
    rfl
  simp only [Act.put, List.setIfInBounds_toArray, List.set_cons_zero, List.set_cons_succ]
  apply inOrder_op rfl rfl
  · intro L g' W _ _ _ hW
    obtain ⟨-, -, ⟨q1, q2, q3, q4, q5, q6, -⟩, -⟩ := id hW.1
    apply comes_value (hv := rfl) (hD := ⟨hW.1, by rw [mark_ne (by decide)]; exact hW.2⟩)
    go_simp
    rfl
  simp only [Act.put, List.setIfInBounds_toArray, List.set_cons_zero, List.set_cons_succ]
  apply inOrder_op rfl rfl
  · intro L g' W _ _ _ hW
    obtain ⟨-, -, ⟨q1, q2, q3, q4, q5, q6, -⟩, -⟩ := id hW.1
    apply comes_value (hv := rfl) (hD := ⟨hW.1, by rw [mark_ne (by decide)]; exact hW.2⟩)
    go_simp
    rfl
  simp only [Act.put, List.setIfInBounds_toArray, List.set_cons_zero, List.set_cons_succ]
  apply inOrder_op rfl rfl
  · intro L g' W _ _ _ hW
    obtain ⟨-, -, ⟨q1, q2, q3, q4, q5, q6, -⟩, -⟩ := id hW.1
    apply comes_value (hv := rfl) (hD := ⟨hW.1, by rw [mark_ne (by decide)]; exact hW.2⟩)
    go_simp
    rfl
  simp only [Act.put, List.setIfInBounds_toArray, List.set_cons_zero, List.set_cons_succ]
  apply inOrder_op rfl rfl
  · intro L g' W _ _ _ hW
    obtain ⟨-, -, ⟨q1, q2, q3, q4, q5, q6, -⟩, -⟩ := id hW.1
    apply comes_value (hv := rfl) (hD := ⟨hW.1, by rw [mark_ne (by decide)]; exact hW.2⟩)
    go_simp
    rfl
  simp only [Act.put, List.setIfInBounds_toArray, List.set_cons_zero, List.set_cons_succ]
  apply inOrder_op rfl rfl
  · intro L g' W _ _ _ hW
    obtain ⟨-, -, ⟨q1, q2, q3, q4, q5, q6, -⟩, -⟩ := id hW.1
    apply comes_value (hv := rfl) (hD := ⟨hW.1, by rw [mark_ne (by decide)]; exact hW.2⟩)
    go_simp
    rfl
  simp only [Act.put, List.setIfInBounds_toArray, List.set_cons_zero, List.set_cons_succ]
  apply inOrder_op rfl rfl
  · intro L g' W _ _ _ hW
    obtain ⟨-, -, ⟨q1, q2, q3, q4, q5, q6, -⟩, -⟩ := id hW.1
    apply comes_value (hv := rfl) (hD := ⟨hW.1, by rw [mark_ne (by decide)]; exact hW.2⟩)
    go_simp
    rfl
  simp only [Act.put, List.setIfInBounds_toArray, List.set_cons_zero, List.set_cons_succ]
  apply inOrder_op rfl rfl
  · intro L g' W _ _ _ hW
    obtain ⟨-, -, ⟨q1, q2, q3, q4, q5, q6, -⟩, -⟩ := id hW.1
    apply comes_value (hv := rfl) (hD := ⟨hW.1, by rw [mark_ne (by decide)]; exact hW.2⟩)
    go_simp
    rfl
  simp only [Act.put, List.setIfInBounds_toArray, List.set_cons_zero, List.set_cons_succ]
  apply inOrder_op rfl rfl
  · intro L g' W _ _ _ hW
    obtain ⟨-, -, ⟨q1, q2, q3, q4, q5, q6, -⟩, -⟩ := id hW.1
    apply comes_value (hv := rfl) (hD := ⟨hW.1, by rw [mark_ne (by decide)]; exact hW.2⟩)
    go_simp
    rfl
  simp only [Act.put, List.setIfInBounds_toArray, List.set_cons_zero, List.set_cons_succ]
  apply inOrder_op rfl rfl
  · intro L g' W _ _ _ hW
    obtain ⟨-, -, ⟨q1, q2, q3, q4, q5, q6, -⟩, -⟩ := id hW.1
    apply comes_value (hv := rfl) (hD := ⟨hW.1, by rw [mark_ne (by decide)]; exact hW.2⟩)
    go_simp
    rfl
  simp only [Act.put, List.setIfInBounds_toArray, List.set_cons_zero, List.set_cons_succ]
  apply inOrder_op rfl rfl
  · intro L g' W _ _ _ hW
    obtain ⟨-, -, ⟨q1, q2, q3, q4, q5, q6, -⟩, -⟩ := id hW.1
    apply comes_value (hv := rfl) (hD := ⟨hW.1, by rw [mark_ne (by decide)]; exact hW.2⟩)
    go_simp
    rfl
  simp only [Act.put, List.setIfInBounds_toArray, List.set_cons_zero, List.set_cons_succ]
  refine inOrder_op (v := undef) rfl rfl (fun L g' W hT hL hd hW => ?_) ?_
  · have hb4 := hW.2.no hL
    have c0 := block_cell (o := 0) hb4 rfl
    have f0 := block_free hb4 0
    refine comes_skip (w' := W.setCell ⟨b8, 0, none⟩ (.int .u64 (a64lo (loW x) (loW y) 0))) (by go_simp) ⟨hW.1.far (b := b8) (by omega) (by simp; omega) (by simp; omega) set1_size rfl rfl rfl set1_other, by rw [set1_size]; exact hW.2.1, ?_⟩
    rw [mark_self, if_pos rfl]
    exact set1_block hb4
  simp only [Act.put, List.setIfInBounds_toArray, List.set_cons_zero, List.set_cons_succ]
  apply inOrder_op rfl rfl
  · intro L g' W _ _ _ hW
    obtain ⟨-, -, ⟨q1, q2, q3, q4, q5, q6, -⟩, -⟩ := id hW.1
    apply comes_value (hv := rfl) (hD := ⟨hW.1, by rw [mark_ne (by decide)]; exact hW.2⟩)
    go_simp
    rfl
  simp only [Act.put, List.setIfInBounds_toArray, List.set_cons_zero, List.set_cons_succ]
  refine inOrder_nil ?_
  clear HK HO
  intro W hW
  have HK := Lib.hid hW.1
  have hO2 := hW.2.yes rfl
  have HO : Hid (Own false b8 #[.int .u64 (a64lo (loW x) (loW y) 0), .int .u64 0] #[.int .u64 (a64lo (loW x) (loW y) 0), .int .u64 (a64lo (hiW x) (hiW y) (a64hi (loW x) (loW y) 0))] 141 W) := Lib.hid ⟨hW.2.1, by simpa using hO2⟩
  have c80 := block_cell (o := 0) hO2 rfl
  have c81 := block_cell (o := 1) hO2 rfl
  have q5 := HK.out.2.2.1.2.2.2.2.1
  have q6 := HK.out.2.2.1.2.2.2.2.2.1
  have z5 := HK.out.2.2.2.1.2
  have z6 := HK.out.2.2.2.2.1.2
  clear hW hO2
  go_wp2_with (first | rw [rounds_succ])
  refine wp_region_plan (fun L _ W' => Knows n w [(⟨b6, 0, none⟩, .int .u64 (loW x)), (⟨b6, 1, none⟩, .int .u64 (hiW x)), (⟨b7, 0, none⟩, .int .u64 (loW y)), (⟨b7, 1, none⟩, .int .u64 (hiW y)), (⟨n + 1 + 1, 0, none⟩, .int .u64 0), (⟨n + 1 + 1, 1, none⟩, .int .u64 0)] [⟨n + 1 + 1, 0, none⟩, ⟨n + 1 + 1, 1, none⟩] W' ∧ Own (L 13) b8 #[.int .u64 (a64lo (loW x) (loW y) 0), .int .u64 0] #[.int .u64 (a64lo (loW x) (loW y) 0), .int .u64 (a64lo (hiW x) (hiW y) (a64hi (loW x) (loW y) 0))] 141 W') 15 (by kernel_rfl) (by kernel_rfl) rfl ?_ ?_
  · exact ⟨HK.out.drew, HO.out⟩
  simp only [List.zipIdx_cons, List.zipIdx_nil, List.map_cons, List.map_nil, Nat.zero_add, Nat.reduceAdd]
  apply inOrder_op rfl rfl
  · intro L g' W _ _ _ hW
    obtain ⟨-, -, ⟨q1, q2, q3, q4, q5, q6, -⟩, -⟩ := id hW.1
    apply comes_value (hv := rfl) (hD := ⟨hW.1, by rw [mark_ne (by decide)]; exact hW.2⟩)
    go_simp
    rfl
  simp only [Act.put, List.setIfInBounds_toArray, List.set_cons_zero, List.set_cons_succ]
  apply inOrder_op rfl rfl
  · intro L g' W _ _ _ hW
    obtain ⟨-, -, ⟨q1, q2, q3, q4, q5, q6, -⟩, -⟩ := id hW.1
    apply comes_value (hv := rfl) (hD := ⟨hW.1, by rw [mark_ne (by decide)]; exact hW.2⟩)
    go_simp
    rfl
  simp only [Act.put, List.setIfInBounds_toArray, List.set_cons_zero, List.set_cons_succ]
  apply inOrder_op rfl rfl
  · intro L g' W _ _ _ hW
    obtain ⟨-, -, ⟨q1, q2, q3, q4, q5, q6, -⟩, -⟩ := id hW.1
    apply comes_value (hv := rfl) (hD := ⟨hW.1, by rw [mark_ne (by decide)]; exact hW.2⟩)
    go_simp
    rfl
  simp only [Act.put, List.setIfInBounds_toArray, List.set_cons_zero, List.set_cons_succ]
  apply inOrder_op rfl rfl
  · intro L g' W _ _ _ hW
    obtain ⟨-, -, ⟨q1, q2, q3, q4, q5, q6, -⟩, -⟩ := id hW.1
    apply comes_value (hv := rfl) (hD := ⟨hW.1, by rw [mark_ne (by decide)]; exact hW.2⟩)
    go_simp
    rfl
  simp only [Act.put, List.setIfInBounds_toArray, List.set_cons_zero, List.set_cons_succ]
  apply inOrder_op rfl rfl
  · intro L g' W _ _ _ hW
    obtain ⟨-, -, ⟨q1, q2, q3, q4, q5, q6, -⟩, -⟩ := id hW.1
    apply comes_value (hv := rfl) (hD := ⟨hW.1, by rw [mark_ne (by decide)]; exact hW.2⟩)
    go_simp
    rfl
  simp only [Act.put, List.setIfInBounds_toArray, List.set_cons_zero, List.set_cons_succ]
  apply inOrder_op rfl rfl
  · intro L g' W _ _ _ hW
    obtain ⟨-, -, ⟨q1, q2, q3, q4, q5, q6, -⟩, -⟩ := id hW.1
    apply comes_value (hv := rfl) (hD := ⟨hW.1, by rw [mark_ne (by decide)]; exact hW.2⟩)
    go_simp
    rfl
  simp only [Act.put, List.setIfInBounds_toArray, List.set_cons_zero, List.set_cons_succ]
  apply inOrder_op rfl rfl
  · intro L g' W _ _ _ hW
    obtain ⟨-, -, ⟨q1, q2, q3, q4, q5, q6, -⟩, -⟩ := id hW.1
    apply comes_value (hv := rfl) (hD := ⟨hW.1, by rw [mark_ne (by decide)]; exact hW.2⟩)
    go_simp
    rfl
  simp only [Act.put, List.setIfInBounds_toArray, List.set_cons_zero, List.set_cons_succ]
  apply inOrder_op rfl rfl
  · intro L g' W _ _ _ hW
    obtain ⟨-, -, ⟨q1, q2, q3, q4, q5, q6, -⟩, -⟩ := id hW.1
    apply comes_value (hv := rfl) (hD := ⟨hW.1, by rw [mark_ne (by decide)]; exact hW.2⟩)
    go_simp
    rfl
  simp only [Act.put, List.setIfInBounds_toArray, List.set_cons_zero, List.set_cons_succ]
  apply inOrder_op rfl rfl
  · intro L g' W _ _ _ hW
    obtain ⟨-, -, ⟨q1, q2, q3, q4, q5, q6, -⟩, -⟩ := id hW.1
    apply comes_value (hv := rfl) (hD := ⟨hW.1, by rw [mark_ne (by decide)]; exact hW.2⟩)
    go_simp
    rfl
  simp only [Act.put, List.setIfInBounds_toArray, List.set_cons_zero, List.set_cons_succ]
  apply inOrder_op rfl rfl
  · intro L g' W _ _ _ hW
    obtain ⟨-, -, ⟨q1, q2, q3, q4, q5, q6, -⟩, -⟩ := id hW.1
    apply comes_value (hv := rfl) (hD := ⟨hW.1, by rw [mark_ne (by decide)]; exact hW.2⟩)
    go_simp
    rfl
  simp only [Act.put, List.setIfInBounds_toArray, List.set_cons_zero, List.set_cons_succ]
  apply inOrder_op rfl rfl
  · intro L g' W _ _ _ hW
    obtain ⟨-, -, ⟨q1, q2, q3, q4, q5, q6, -⟩, -⟩ := id hW.1
    apply comes_value (hv := rfl) (hD := ⟨hW.1, by rw [mark_ne (by decide)]; exact hW.2⟩)
    go_simp
    rfl
  simp only [Act.put, List.setIfInBounds_toArray, List.set_cons_zero, List.set_cons_succ]
  apply inOrder_op rfl rfl
  · intro L g' W _ _ _ hW
    obtain ⟨-, -, ⟨q1, q2, q3, q4, q5, q6, -⟩, -⟩ := id hW.1
    apply comes_value (hv := rfl) (hD := ⟨hW.1, by rw [mark_ne (by decide)]; exact hW.2⟩)
    go_simp
    rfl
  simp only [Act.put, List.setIfInBounds_toArray, List.set_cons_zero, List.set_cons_succ]
  apply inOrder_op rfl rfl
  · intro L g' W _ _ _ hW
    obtain ⟨-, -, ⟨q1, q2, q3, q4, q5, q6, -⟩, -⟩ := id hW.1
    apply comes_value (hv := rfl) (hD := ⟨hW.1, by rw [mark_ne (by decide)]; exact hW.2⟩)
    go_simp
    rfl
  simp only [Act.put, List.setIfInBounds_toArray, List.set_cons_zero, List.set_cons_succ]
  refine inOrder_op (v := undef) rfl rfl (fun L g' W hT hL hd hW => ?_) ?_
  · have hb4 := hW.2.no hL
    have c0 := block_cell (o := 1) hb4 rfl
    have f0 := block_free hb4 1
    refine comes_skip (w' := W.setCell ⟨b8, 1, none⟩ (.int .u64 (a64lo (hiW x) (hiW y) (a64hi (loW x) (loW y) 0)))) (by go_simp) ⟨hW.1.far (b := b8) (by omega) (by simp; omega) (by simp; omega) set1_size rfl rfl rfl set1_other, by rw [set1_size]; exact hW.2.1, ?_⟩
    rw [mark_self, if_pos rfl]
    exact set1_block hb4
  simp only [Act.put, List.setIfInBounds_toArray, List.set_cons_zero, List.set_cons_succ]
  apply inOrder_op rfl rfl
  · intro L g' W _ _ _ hW
    obtain ⟨-, -, ⟨q1, q2, q3, q4, q5, q6, -⟩, -⟩ := id hW.1
    apply comes_value (hv := rfl) (hD := ⟨hW.1, by rw [mark_ne (by decide)]; exact hW.2⟩)
    go_simp
    rfl
  simp only [Act.put, List.setIfInBounds_toArray, List.set_cons_zero, List.set_cons_succ]
  refine inOrder_nil ?_
  clear HK HO
  intro W hW
  have HK := Lib.hid hW.1
  have hO2 := hW.2.yes rfl
  have HO : Hid (Own false b8 #[.int .u64 (a64lo (loW x) (loW y) 0), .int .u64 (a64lo (hiW x) (hiW y) (a64hi (loW x) (loW y) 0))] #[.int .u64 (a64lo (loW x) (loW y) 0), .int .u64 (a64lo (hiW x) (hiW y) (a64hi (loW x) (loW y) 0))] 141 W) := Lib.hid ⟨hW.2.1, by simpa using hO2⟩
  have c80 := block_cell (o := 0) hO2 rfl
  have c81 := block_cell (o := 1) hO2 rfl
  have q5 := HK.out.2.2.1.2.2.2.2.1
  have q6 := HK.out.2.2.1.2.2.2.2.2.1
  have z5 := HK.out.2.2.2.1.2
  have z6 := HK.out.2.2.2.2.1.2
  clear hW hO2
  go_wp2_with (first | rw [rounds_succ])
  have e0 : a64hi (loW x) (loW y) 0 = hiW (loW x + loW y) := by rw [a64hi_eq h3.1 h4.1 (Int.le_refl 0), Int.add_zero]
  have hc0 : 0 ≤ hiW (loW x + loW y) := by unfold Word at h3 h4; unfold hiW; omega
  have e1 : a64lo (hiW x) (hiW y) (a64hi (loW x) (loW y) 0) = hiW ((x + y) % 340282366920938463463374607431768211456) := by
    rw [e0, a64lo_eq h1.1 h2.1 hc0]; unfold hiW loW; omega
  have e2 : a64lo (loW x) (loW y) 0 = loW ((x + y) % 340282366920938463463374607431768211456) := by
    rw [a64lo_eq h3.1 h4.1 (Int.le_refl 0)]; unfold loW; omega
  have e3 : decide (0 < a64hi (hiW x) (hiW y) (a64hi (loW x) (loW y) 0)) = decide (340282366920938463463374607431768211456 ≤ x + y) := by
    rw [e0, a64hi_eq h1.1 h2.1 hc0]
    apply decide_eq_decide.2; unfold Wide at hx hy; unfold hiW loW; omega
  have HB := Lib.hid HK.out.1
  clear HK HO
  refine bodyPost_ret (v := .tuple #[wv ((x + y) % 340282366920938463463374607431768211456), .bool (decide (340282366920938463463374607431768211456 ≤ x + y))]) ?_ rfl ⟨rfl, ?_⟩
  · simp [results, Try.results98, go_sem, q5, q6, z5, z6, e1, e2, e3]
  · rw [HN.out]
    exact (HB.out.setCell (by show n ≤ n + 1 + 1; omega) _).setCell (by show n ≤ n + 1 + 1; omega) _
end Go.Proofs.Ytkdfkpalgejkkaa
/-
  wide.Sub, walked by hand.
-/
set_option linter.unusedSimpArgs false
namespace Go.Proofs.Ytkdfkpalgejkkaa
open Go.RowKit Go.Shelf

attribute [local go_sem] add64' sub64'
set_option maxHeartbeats 1000000 in
set_option maxRecDepth 100000 in
theorem wide_Sub_c (x y : Int) (hx : Wide x) (hy : Wide y) (w : World) :
    Calls Try.prog 130 #[wv x, wv y] w fun e w' => e = .returned (.tuple #[wv ((x - y) % 340282366920938463463374607431768211456), .bool (decide (x < y))]) ∧ Below w.heap.size w w' := by
  have h1 := word_hiW hx
  have h2 := word_hiW hy
  have h3 := word_loW x
  have h4 := word_loW y
  have HH := Lib.hid (fun n W => halves_c n W)
  go_enter Try.func130, Try.ntmps130
  go_upto_region 1 with fail
  generalize hn : w.heap.size = n
  have HN := Lib.hid hn
  clear hn
  refine wp_region_plan (fun L g W => Knows n w [(⟨n, 0, none⟩, .int .u64 (hiW x)), (⟨n, 1, none⟩, .int .u64 (loW x)), (⟨n + 1, 0, none⟩, .int .u64 (hiW y)), (⟨n + 1, 1, none⟩, .int .u64 (loW y)), (⟨n + 1 + 1, 0, none⟩, .int .u64 0), (⟨n + 1 + 1, 1, none⟩, .int .u64 0)] [⟨n + 1 + 1, 0, none⟩, ⟨n + 1 + 1, 1, none⟩] W ∧ n + 3 ≤ W.heap.size ∧ Var L g 4 6 (n + 3) #[.int .u64 0, .int .u64 0] #[.int .u64 (loW x), .int .u64 (hiW x)] 141 W ∧ Var L g 5 7 (n + 3) #[.int .u64 0, .int .u64 0] #[.int .u64 (loW y), .int .u64 (hiW y)] 141 W ∧ (L 4 = true → L 5 = true → g 4 ≠ g 5)) 8 (by kernel_rfl) (by kernel_rfl) rfl ?_ ?_
  · exact ⟨HN.out ▸ Knows.drew ⟨((((Below.refl _ _).alloc (Nat.le_refl _) _).alloc (by simp) _).alloc (by simp; omega) _), by simp; omega, by simp [Cells, go_sem], by simp [Frees, go_sem]⟩, by rw [← HN.out]; simp, ⟨by simp, by simp⟩, ⟨by simp, by simp⟩, by simp⟩
  simp only [List.zipIdx_cons, List.zipIdx_nil, List.map_cons, List.map_nil, Nat.zero_add, Nat.reduceAdd]
  apply inOrder_op rfl rfl
  · intro L g' W _ _ _ hW
    obtain ⟨-, -, ⟨q1, q2, q3, q4, -⟩, -⟩ := id hW.1
    apply comes_value (hv := rfl) (hD := ⟨hW.1, hW.2.1, hW.2.2.1.mark (by decide) (by decide), hW.2.2.2.1.mark (by decide) (by decide), by rw [mark_ne (by decide), mark_ne (by decide)]; exact hW.2.2.2.2⟩)
    go_simp
    rfl
  simp only [Act.put, List.setIfInBounds_toArray, List.set_cons_zero, List.set_cons_succ]
  apply inOrder_op rfl rfl
  · intro L g' W _ _ _ hW
    obtain ⟨-, -, ⟨q1, q2, q3, q4, -⟩, -⟩ := id hW.1
    apply comes_call
    · go_simp
      first | rfl | exact ⟨rfl, rfl⟩ | exact ⟨⟨rfl, rfl⟩, rfl⟩
    · refine (HH.out x W).mono ?_
      rintro e w' ⟨rfl, hb⟩
      exact ⟨rfl, ⟨hW.1.call hb, Nat.le_trans hW.2.1 hb.size, (hW.2.2.1.call hb).mark (by decide) (by decide), (hW.2.2.2.1.call hb).mark (by decide) (by decide), by rw [mark_ne (by decide), mark_ne (by decide)]; exact hW.2.2.2.2⟩⟩
  simp only [Act.put, List.setIfInBounds_toArray, List.set_cons_zero, List.set_cons_succ]
  apply inOrder_op rfl rfl
  · intro L g' W _ _ _ hW
    obtain ⟨-, -, ⟨q1, q2, q3, q4, -⟩, -⟩ := id hW.1
    apply comes_value (hv := rfl) (hD := ⟨hW.1, hW.2.1, hW.2.2.1.mark (by decide) (by decide), hW.2.2.2.1.mark (by decide) (by decide), by rw [mark_ne (by decide), mark_ne (by decide)]; exact hW.2.2.2.2⟩)
    go_simp
    rfl
  simp only [Act.put, List.setIfInBounds_toArray, List.set_cons_zero, List.set_cons_succ]
  apply inOrder_op rfl rfl
  · intro L g' W _ _ _ hW
    obtain ⟨-, -, ⟨q1, q2, q3, q4, -⟩, -⟩ := id hW.1
    apply comes_call
    · go_simp
      first | rfl | exact ⟨rfl, rfl⟩ | exact ⟨⟨rfl, rfl⟩, rfl⟩
    · refine (HH.out y W).mono ?_
      rintro e w' ⟨rfl, hb⟩
      exact ⟨rfl, ⟨hW.1.call hb, Nat.le_trans hW.2.1 hb.size, (hW.2.2.1.call hb).mark (by decide) (by decide), (hW.2.2.2.1.call hb).mark (by decide) (by decide), by rw [mark_ne (by decide), mark_ne (by decide)]; exact hW.2.2.2.2⟩⟩
  simp only [Act.put, List.setIfInBounds_toArray, List.set_cons_zero, List.set_cons_succ]
  refine inOrder_make rfl (fun L g' W hi hW => ?_) (fun p4 => ?_)
  · refine ⟨.pointer (some ⟨W.heap.size, 0, none⟩), W.alloc (.cells #[.int .u64 0, .int .u64 0] 141), by go_simp, hW.1.alloc _, Nat.le_trans hW.2.1 (by simp), hW.2.2.1.make hi (by decide) hW.2.1, ((hW.2.2.2.1.alloc _).held (by decide)).mark (by decide) (by decide), fun _ h5 => ?_⟩
    rw [mark_ne (by decide)] at h5
    obtain ⟨b, hb1, -, hb3, -⟩ := hW.2.2.2.1.2 h5
    rw [held_self, held_ne (by decide), hb1]
    first | (simp; done) | (simp; omega)
  simp only [Act.put, List.setIfInBounds_toArray, List.set_cons_zero, List.set_cons_succ]
  refine inOrder_make rfl (fun L g' W hi hW => ?_) (fun p5 => ?_)
  · refine ⟨.pointer (some ⟨W.heap.size, 0, none⟩), W.alloc (.cells #[.int .u64 0, .int .u64 0] 141), by go_simp, hW.1.alloc _, Nat.le_trans hW.2.1 (by simp), ((hW.2.2.1.alloc _).held (by decide)).mark (by decide) (by decide), hW.2.2.2.1.make hi (by decide) hW.2.1, fun h4 _ => ?_⟩
    rw [mark_ne (by decide)] at h4
    obtain ⟨b, hb1, -, hb3, -⟩ := hW.2.2.1.2 h4
    rw [held_self, held_ne (by decide), hb1]
    first | (simp; done) | (simp; omega)
  simp only [Act.put, List.setIfInBounds_toArray, List.set_cons_zero, List.set_cons_succ]
  refine inOrder_op (v := undef) rfl rfl (fun L g' W hT hL hd hW => ?_) ?_
  · have h4 : L 4 = true := hd ⟨4, .data⟩ (by simp) rfl
    have h5 : L 5 = true := hd ⟨5, .phase⟩ (by simp) rfl
    obtain ⟨b, hb1, hb2, hb3, hb4⟩ := hW.2.2.1.here h4 hL
    have hp : p4 = .pointer (some ⟨b, 0, none⟩) := by rw [← hb1, hT 4 (by simp)]; rfl
    subst hp
    have c0 := block_cell (o := 0) hb4 rfl
    have c1 := block_cell (o := 1) hb4 rfl
    have f0 := block_free hb4 0
    have f1 := block_free hb4 1
    refine comes_skip (w' := (W.setCell ⟨b, 0, none⟩ (.int .u64 (loW x))).setCell ⟨b, 1, none⟩ (.int .u64 (hiW x))) (by go_simp) ⟨hW.1.far (b := b) (by omega) (by simp; omega) (by simp; omega) set2_size rfl rfl rfl set2_other, by rw [set2_size]; exact hW.2.1,
      Var.store h4 hb1 hb2 hb3 (by decide) set2_size (set2_block hb4), (hW.2.2.2.1.other (b := b) (by rw [← hb1]; exact (hW.2.2.2.2 h4 h5).symm) set2_size set2_other).mark (by decide) (by decide), by rw [mark_ne (by decide), mark_ne (by decide)]; exact hW.2.2.2.2⟩
  simp only [Act.put, List.setIfInBounds_toArray, List.set_cons_zero, List.set_cons_succ]
  refine inOrder_op (v := undef) rfl rfl (fun L g' W hT hL hd hW => ?_) ?_
  · have h4 : L 4 = true := hd ⟨4, .phase⟩ (by simp) rfl
    have h5 : L 5 = true := hd ⟨5, .data⟩ (by simp) rfl
    obtain ⟨b, hb1, hb2, hb3, hb4⟩ := hW.2.2.2.1.here h5 hL
    have hp : p5 = .pointer (some ⟨b, 0, none⟩) := by rw [← hb1, hT 5 (by simp)]; rfl
    subst hp
    have c0 := block_cell (o := 0) hb4 rfl
    have c1 := block_cell (o := 1) hb4 rfl
    have f0 := block_free hb4 0
    have f1 := block_free hb4 1
    refine comes_skip (w' := (W.setCell ⟨b, 0, none⟩ (.int .u64 (loW y))).setCell ⟨b, 1, none⟩ (.int .u64 (hiW y))) (by go_simp) ⟨hW.1.far (b := b) (by omega) (by simp; omega) (by simp; omega) set2_size rfl rfl rfl set2_other, by rw [set2_size]; exact hW.2.1,
      (hW.2.2.1.other (b := b) (by rw [← hb1]; exact hW.2.2.2.2 h4 h5) set2_size set2_other).mark (by decide) (by decide), Var.store h5 hb1 hb2 hb3 (by decide) set2_size (set2_block hb4), by rw [mark_ne (by decide), mark_ne (by decide)]; exact hW.2.2.2.2⟩
  simp only [Act.put, List.setIfInBounds_toArray, List.set_cons_zero, List.set_cons_succ]
  refine inOrder_nil ?_
  intro W hW
  obtain ⟨⟨hB, hs, ⟨-, -, -, -, q5, q6, -⟩, ⟨-, z5⟩, ⟨-, z6⟩, -⟩, -, hv4, hv5, hne⟩ := hW
  obtain ⟨b6, e6, l6, s6, k6⟩ := hv4.done rfl rfl
  obtain ⟨b7, e7, l7, s7, k7⟩ := hv5.done rfl rfl
  obtain rfl : p4 = .pointer (some ⟨b6, 0, none⟩) := e6
  obtain rfl : p5 = .pointer (some ⟨b7, 0, none⟩) := e7
  clear hv4 hv5 hne
  have c60 := block_cell (o := 0) k6 rfl
  have c61 := block_cell (o := 1) k6 rfl
  have c70 := block_cell (o := 0) k7 rfl
  have c71 := block_cell (o := 1) k7 rfl
  clear k6 k7
  obtain ⟨b8, hb8⟩ : ∃ b, W.heap.size = b := ⟨_, rfl⟩
  have l8 : n + 3 ≤ b8 := by omega
  have n6 : b6 ≠ b8 := by omega
  have n7 : b7 ≠ b8 := by omega
  have ll6 : b6 < b8 := by omega
  have ll7 : b7 < b8 := by omega
  have HK : Hid (Knows n w [(⟨b6, 0, none⟩, .int .u64 (loW x)), (⟨b6, 1, none⟩, .int .u64 (hiW x)), (⟨b7, 0, none⟩, .int .u64 (loW y)), (⟨b7, 1, none⟩, .int .u64 (hiW y)), (⟨n + 1 + 1, 0, none⟩, .int .u64 0), (⟨n + 1 + 1, 1, none⟩, .int .u64 0)] [⟨n + 1 + 1, 0, none⟩, ⟨n + 1 + 1, 1, none⟩] (W.alloc (.cells #[.int .u64 0, .int .u64 0] 141))) := by
    refine Lib.hid (Knows.alloc ?_ _)
    exact ⟨hB, by omega, ⟨c60, c61, c70, c71, q5, q6, trivial⟩, ⟨by show n + 1 + 1 < _; omega, z5⟩, ⟨by show n + 1 + 1 < _; omega, z6⟩, trivial⟩
  have HO : Hid (Own false b8 #[.int .u64 0, .int .u64 0] #[.int .u64 (s64lo (loW x) (loW y) 0), .int .u64 0] 141 (W.alloc (.cells #[.int .u64 0, .int .u64 0] 141))) :=
    Lib.hid ⟨by rw [← hb8]; simp, by rw [← hb8]; show (W.heap.push _)[W.heap.size]? = _; simp⟩
  clear hB q5 q6 z5 z6 c60 c61 c70 c71 s6 s7
  have hc1 : s64hi (loW x) (loW y) 0 ≤ 1 := by rw [s64hi_eq h3.1 h4.1 (Int.le_refl 0)]; exact bor_le _ _
  have hb8' := Lib.hid hb8
  clear hs
  go_wp2_with (first | (with_reducible refine wp_loop_rounds 3 ?_); rw [rounds_succ])
  refine wp_region_plan (fun L _ W' => Knows n w [(⟨b6, 0, none⟩, .int .u64 (loW x)), (⟨b6, 1, none⟩, .int .u64 (hiW x)), (⟨b7, 0, none⟩, .int .u64 (loW y)), (⟨b7, 1, none⟩, .int .u64 (hiW y)), (⟨n + 1 + 1, 0, none⟩, .int .u64 0), (⟨n + 1 + 1, 1, none⟩, .int .u64 0)] [⟨n + 1 + 1, 0, none⟩, ⟨n + 1 + 1, 1, none⟩] W' ∧ Own (L 13) b8 #[.int .u64 0, .int .u64 0] #[.int .u64 (s64lo (loW x) (loW y) 0), .int .u64 0] 141 W') 15 (by kernel_rfl) (by kernel_rfl) rfl ?_ ?_
  · exact ⟨HK.out.drew, HO.out⟩
  simp only [List.zipIdx_cons, List.zipIdx_nil, List.map_cons, List.map_nil, Nat.zero_add, Nat.reduceAdd]
  apply inOrder_op rfl rfl
  · intro L g' W _ _ _ hW
    obtain ⟨-, -, ⟨q1, q2, q3, q4, q5, q6, -⟩, -⟩ := id hW.1
    apply comes_value (hv := rfl) (hD := ⟨hW.1, by rw [mark_ne (by decide)]; exact hW.2⟩)
    go_simp
    rfl
  simp only [Act.put, List.setIfInBounds_toArray, List.set_cons_zero, List.set_cons_succ]
  apply inOrder_op rfl rfl
  · intro L g' W _ _ _ hW
    obtain ⟨-, -, ⟨q1, q2, q3, q4, q5, q6, -⟩, -⟩ := id hW.1
    apply comes_value (hv := rfl) (hD := ⟨hW.1, by rw [mark_ne (by decide)]; exact hW.2⟩)
    go_simp
    rfl
  simp only [Act.put, List.setIfInBounds_toArray, List.set_cons_zero, List.set_cons_succ]
  apply inOrder_op rfl rfl
  · intro L g' W _ _ _ hW
    obtain ⟨-, -, ⟨q1, q2, q3, q4, q5, q6, -⟩, -⟩ := id hW.1
    apply comes_value (hv := rfl) (hD := ⟨hW.1, by rw [mark_ne (by decide)]; exact hW.2⟩)
    go_simp
    rfl
  simp only [Act.put, List.setIfInBounds_toArray, List.set_cons_zero, List.set_cons_succ]
  apply inOrder_op rfl rfl
  · intro L g' W _ _ _ hW
    obtain ⟨-, -, ⟨q1, q2, q3, q4, q5, q6, -⟩, -⟩ := id hW.1
    apply comes_value (hv := rfl) (hD := ⟨hW.1, by rw [mark_ne (by decide)]; exact hW.2⟩)
    go_simp
    rfl
  simp only [Act.put, List.setIfInBounds_toArray, List.set_cons_zero, List.set_cons_succ]
  apply inOrder_op rfl rfl
  · intro L g' W _ _ _ hW
    obtain ⟨-, -, ⟨q1, q2, q3, q4, q5, q6, -⟩, -⟩ := id hW.1
    apply comes_value (hv := rfl) (hD := ⟨hW.1, by rw [mark_ne (by decide)]; exact hW.2⟩)
    go_simp
    rfl
  simp only [Act.put, List.setIfInBounds_toArray, List.set_cons_zero, List.set_cons_succ]
  apply inOrder_op rfl rfl
  · intro L g' W _ _ _ hW
    obtain ⟨-, -, ⟨q1, q2, q3, q4, q5, q6, -⟩, -⟩ := id hW.1
    apply comes_value (hv := rfl) (hD := ⟨hW.1, by rw [mark_ne (by decide)]; exact hW.2⟩)
    go_simp
    rfl
  simp only [Act.put, List.setIfInBounds_toArray, List.set_cons_zero, List.set_cons_succ]
  apply inOrder_op rfl rfl
  · intro L g' W _ _ _ hW
    obtain ⟨-, -, ⟨q1, q2, q3, q4, q5, q6, -⟩, -⟩ := id hW.1
    apply comes_value (hv := rfl) (hD := ⟨hW.1, by rw [mark_ne (by decide)]; exact hW.2⟩)
    go_simp
    rfl
  simp only [Act.put, List.setIfInBounds_toArray, List.set_cons_zero, List.set_cons_succ]
  apply inOrder_op rfl rfl
  · intro L g' W _ _ _ hW
    obtain ⟨-, -, ⟨q1, q2, q3, q4, q5, q6, -⟩, -⟩ := id hW.1
    apply comes_value (hv := rfl) (hD := ⟨hW.1, by rw [mark_ne (by decide)]; exact hW.2⟩)
    go_simp
    rfl
  simp only [Act.put, List.setIfInBounds_toArray, List.set_cons_zero, List.set_cons_succ]
  apply inOrder_op rfl rfl
  · intro L g' W _ _ _ hW
    obtain ⟨-, -, ⟨q1, q2, q3, q4, q5, q6, -⟩, -⟩ := id hW.1
    apply comes_value (hv := rfl) (hD := ⟨hW.1, by rw [mark_ne (by decide)]; exact hW.2⟩)
    go_simp
    rfl
  simp only [Act.put, List.setIfInBounds_toArray, List.set_cons_zero, List.set_cons_succ]
  apply inOrder_op rfl rfl
  · intro L g' W _ _ _ hW
    obtain ⟨-, -, ⟨q1, q2, q3, q4, q5, q6, -⟩, -⟩ := id hW.1
    apply comes_value (hv := rfl) (hD := ⟨hW.1, by rw [mark_ne (by decide)]; exact hW.2⟩)
    go_simp
    rfl
  simp only [Act.put, List.setIfInBounds_toArray, List.set_cons_zero, List.set_cons_succ]
  apply inOrder_op rfl rfl
  · intro L g' W _ _ _ hW
    obtain ⟨-, -, ⟨q1, q2, q3, q4, q5, q6, -⟩, -⟩ := id hW.1
    apply comes_value (hv := rfl) (hD := ⟨hW.1, by rw [mark_ne (by decide)]; exact hW.2⟩)
    go_simp
    rfl
  simp only [Act.put, List.setIfInBounds_toArray, List.set_cons_zero, List.set_cons_succ]
  apply inOrder_op rfl rfl
  · intro L g' W _ _ _ hW
    obtain ⟨-, -, ⟨q1, q2, q3, q4, q5, q6, -⟩, -⟩ := id hW.1
    apply comes_value (hv := rfl) (hD := ⟨hW.1, by rw [mark_ne (by decide)]; exact hW.2⟩)
    go_simp
    rfl
  simp only [Act.put, List.setIfInBounds_toArray, List.set_cons_zero, List.set_cons_succ]
  apply inOrder_op rfl rfl
  · intro L g' W _ _ _ hW
    obtain ⟨-, -, ⟨q1, q2, q3, q4, q5, q6, -⟩, -⟩ := id hW.1
    apply comes_value (hv := rfl) (hD := ⟨hW.1, by rw [mark_ne (by decide)]; exact hW.2⟩)
    go_simp
    rfl
  simp only [Act.put, List.setIfInBounds_toArray, List.set_cons_zero, List.set_cons_succ]
  refine inOrder_op (v := undef) rfl rfl (fun L g' W hT hL hd hW => ?_) ?_
  · have hb4 := hW.2.no hL
    have c0 := block_cell (o := 0) hb4 rfl
    have f0 := block_free hb4 0
    refine comes_skip (w' := W.setCell ⟨b8, 0, none⟩ (.int .u64 (s64lo (loW x) (loW y) 0))) (by go_simp) ⟨hW.1.far (b := b8) (by omega) (by simp; omega) (by simp; omega) set1_size rfl rfl rfl set1_other, by rw [set1_size]; exact hW.2.1, ?_⟩
    rw [mark_self, if_pos rfl]
    exact set1_block hb4
  simp only [Act.put, List.setIfInBounds_toArray, List.set_cons_zero, List.set_cons_succ]
  apply inOrder_op rfl rfl
  · intro L g' W _ _ _ hW
    obtain ⟨-, -, ⟨q1, q2, q3, q4, q5, q6, -⟩, -⟩ := id hW.1
    apply comes_value (hv := rfl) (hD := ⟨hW.1, by rw [mark_ne (by decide)]; exact hW.2⟩)
    go_simp
    rfl
  simp only [Act.put, List.setIfInBounds_toArray, List.set_cons_zero, List.set_cons_succ]
  refine inOrder_nil ?_
  clear HK HO
  intro W hW
  have HK := Lib.hid hW.1
  have hO2 := hW.2.yes rfl
  have HO : Hid (Own false b8 #[.int .u64 (s64lo (loW x) (loW y) 0), .int .u64 0] #[.int .u64 (s64lo (loW x) (loW y) 0), .int .u64 (s64lo (hiW x) (hiW y) (s64hi (loW x) (loW y) 0))] 141 W) := Lib.hid ⟨hW.2.1, by simpa using hO2⟩
  have c80 := block_cell (o := 0) hO2 rfl
  have c81 := block_cell (o := 1) hO2 rfl
  have q5 := HK.out.2.2.1.2.2.2.2.1
  have q6 := HK.out.2.2.1.2.2.2.2.2.1
  have z5 := HK.out.2.2.2.1.2
  have z6 := HK.out.2.2.2.2.1.2
  clear hW hO2
  go_wp2_with (first | rw [rounds_succ])
  refine wp_region_plan (fun L _ W' => Knows n w [(⟨b6, 0, none⟩, .int .u64 (loW x)), (⟨b6, 1, none⟩, .int .u64 (hiW x)), (⟨b7, 0, none⟩, .int .u64 (loW y)), (⟨b7, 1, none⟩, .int .u64 (hiW y)), (⟨n + 1 + 1, 0, none⟩, .int .u64 0), (⟨n + 1 + 1, 1, none⟩, .int .u64 0)] [⟨n + 1 + 1, 0, none⟩, ⟨n + 1 + 1, 1, none⟩] W' ∧ Own (L 13) b8 #[.int .u64 (s64lo (loW x) (loW y) 0), .int .u64 0] #[.int .u64 (s64lo (loW x) (loW y) 0), .int .u64 (s64lo (hiW x) (hiW y) (s64hi (loW x) (loW y) 0))] 141 W') 15 (by kernel_rfl) (by kernel_rfl) rfl ?_ ?_
  · exact ⟨HK.out.drew, HO.out⟩
  simp only [List.zipIdx_cons, List.zipIdx_nil, List.map_cons, List.map_nil, Nat.zero_add, Nat.reduceAdd]
  apply inOrder_op rfl rfl
  · intro L g' W _ _ _ hW
    obtain ⟨-, -, ⟨q1, q2, q3, q4, q5, q6, -⟩, -⟩ := id hW.1
    apply comes_value (hv := rfl) (hD := ⟨hW.1, by rw [mark_ne (by decide)]; exact hW.2⟩)
    go_simp
    rfl
  simp only [Act.put, List.setIfInBounds_toArray, List.set_cons_zero, List.set_cons_succ]
  apply inOrder_op rfl rfl
  · intro L g' W _ _ _ hW
    obtain ⟨-, -, ⟨q1, q2, q3, q4, q5, q6, -⟩, -⟩ := id hW.1
    apply comes_value (hv := rfl) (hD := ⟨hW.1, by rw [mark_ne (by decide)]; exact hW.2⟩)
    go_simp
    rfl
  simp only [Act.put, List.setIfInBounds_toArray, List.set_cons_zero, List.set_cons_succ]
  apply inOrder_op rfl rfl
  · intro L g' W _ _ _ hW
    obtain ⟨-, -, ⟨q1, q2, q3, q4, q5, q6, -⟩, -⟩ := id hW.1
    apply comes_value (hv := rfl) (hD := ⟨hW.1, by rw [mark_ne (by decide)]; exact hW.2⟩)
    go_simp
    rfl
  simp only [Act.put, List.setIfInBounds_toArray, List.set_cons_zero, List.set_cons_succ]
  apply inOrder_op rfl rfl
  · intro L g' W _ _ _ hW
    obtain ⟨-, -, ⟨q1, q2, q3, q4, q5, q6, -⟩, -⟩ := id hW.1
    apply comes_value (hv := rfl) (hD := ⟨hW.1, by rw [mark_ne (by decide)]; exact hW.2⟩)
    go_simp
    rfl
  simp only [Act.put, List.setIfInBounds_toArray, List.set_cons_zero, List.set_cons_succ]
  apply inOrder_op rfl rfl
  · intro L g' W _ _ _ hW
    obtain ⟨-, -, ⟨q1, q2, q3, q4, q5, q6, -⟩, -⟩ := id hW.1
    apply comes_value (hv := rfl) (hD := ⟨hW.1, by rw [mark_ne (by decide)]; exact hW.2⟩)
    go_simp
    rfl
  simp only [Act.put, List.setIfInBounds_toArray, List.set_cons_zero, List.set_cons_succ]
  apply inOrder_op rfl rfl
  · intro L g' W _ _ _ hW
    obtain ⟨-, -, ⟨q1, q2, q3, q4, q5, q6, -⟩, -⟩ := id hW.1
    apply comes_value (hv := rfl) (hD := ⟨hW.1, by rw [mark_ne (by decide)]; exact hW.2⟩)
    go_simp
    rfl
  simp only [Act.put, List.setIfInBounds_toArray, List.set_cons_zero, List.set_cons_succ]
  apply inOrder_op rfl rfl
  · intro L g' W _ _ _ hW
    obtain ⟨-, -, ⟨q1, q2, q3, q4, q5, q6, -⟩, -⟩ := id hW.1
    apply comes_value (hv := rfl) (hD := ⟨hW.1, by rw [mark_ne (by decide)]; exact hW.2⟩)
    go_simp
    rfl
  simp only [Act.put, List.setIfInBounds_toArray, List.set_cons_zero, List.set_cons_succ]
  apply inOrder_op rfl rfl
  · intro L g' W _ _ _ hW
    obtain ⟨-, -, ⟨q1, q2, q3, q4, q5, q6, -⟩, -⟩ := id hW.1
    apply comes_value (hv := rfl) (hD := ⟨hW.1, by rw [mark_ne (by decide)]; exact hW.2⟩)
    go_simp
    rfl
  simp only [Act.put, List.setIfInBounds_toArray, List.set_cons_zero, List.set_cons_succ]
  apply inOrder_op rfl rfl
  · intro L g' W _ _ _ hW
    obtain ⟨-, -, ⟨q1, q2, q3, q4, q5, q6, -⟩, -⟩ := id hW.1
    apply comes_value (hv := rfl) (hD := ⟨hW.1, by rw [mark_ne (by decide)]; exact hW.2⟩)
    go_simp
    rfl
  simp only [Act.put, List.setIfInBounds_toArray, List.set_cons_zero, List.set_cons_succ]
  apply inOrder_op rfl rfl
  · intro L g' W _ _ _ hW
    obtain ⟨-, -, ⟨q1, q2, q3, q4, q5, q6, -⟩, -⟩ := id hW.1
    apply comes_value (hv := rfl) (hD := ⟨hW.1, by rw [mark_ne (by decide)]; exact hW.2⟩)
    go_simp
    rfl
  simp only [Act.put, List.setIfInBounds_toArray, List.set_cons_zero, List.set_cons_succ]
  apply inOrder_op rfl rfl
  · intro L g' W _ _ _ hW
    obtain ⟨-, -, ⟨q1, q2, q3, q4, q5, q6, -⟩, -⟩ := id hW.1
    apply comes_value (hv := rfl) (hD := ⟨hW.1, by rw [mark_ne (by decide)]; exact hW.2⟩)
    go_simp
    rfl
  simp only [Act.put, List.setIfInBounds_toArray, List.set_cons_zero, List.set_cons_succ]
  apply inOrder_op rfl rfl
  · intro L g' W _ _ _ hW
    obtain ⟨-, -, ⟨q1, q2, q3, q4, q5, q6, -⟩, -⟩ := id hW.1
    apply comes_value (hv := rfl) (hD := ⟨hW.1, by rw [mark_ne (by decide)]; exact hW.2⟩)
    go_simp
    rfl
  simp only [Act.put, List.setIfInBounds_toArray, List.set_cons_zero, List.set_cons_succ]
  apply inOrder_op rfl rfl
  · intro L g' W _ _ _ hW
    obtain ⟨-, -, ⟨q1, q2, q3, q4, q5, q6, -⟩, -⟩ := id hW.1
    apply comes_value (hv := rfl) (hD := ⟨hW.1, by rw [mark_ne (by decide)]; exact hW.2⟩)
    go_simp
    rfl
  simp only [Act.put, List.setIfInBounds_toArray, List.set_cons_zero, List.set_cons_succ]
  refine inOrder_op (v := undef) rfl rfl (fun L g' W hT hL hd hW => ?_) ?_
  · have hb4 := hW.2.no hL
    have c0 := block_cell (o := 1) hb4 rfl
    have f0 := block_free hb4 1
    refine comes_skip (w' := W.setCell ⟨b8, 1, none⟩ (.int .u64 (s64lo (hiW x) (hiW y) (s64hi (loW x) (loW y) 0)))) (by go_simp) ⟨hW.1.far (b := b8) (by omega) (by simp; omega) (by simp; omega) set1_size rfl rfl rfl set1_other, by rw [set1_size]; exact hW.2.1, ?_⟩
    rw [mark_self, if_pos rfl]
    exact set1_block hb4
  simp only [Act.put, List.setIfInBounds_toArray, List.set_cons_zero, List.set_cons_succ]
  apply inOrder_op rfl rfl
  · intro L g' W _ _ _ hW
    obtain ⟨-, -, ⟨q1, q2, q3, q4, q5, q6, -⟩, -⟩ := id hW.1
    apply comes_value (hv := rfl) (hD := ⟨hW.1, by rw [mark_ne (by decide)]; exact hW.2⟩)
    go_simp
    rfl
  simp only [Act.put, List.setIfInBounds_toArray, List.set_cons_zero, List.set_cons_succ]
  refine inOrder_nil ?_
  clear HK HO
  intro W hW
  have HK := Lib.hid hW.1
  have hO2 := hW.2.yes rfl
  have HO : Hid (Own false b8 #[.int .u64 (s64lo (loW x) (loW y) 0), .int .u64 (s64lo (hiW x) (hiW y) (s64hi (loW x) (loW y) 0))] #[.int .u64 (s64lo (loW x) (loW y) 0), .int .u64 (s64lo (hiW x) (hiW y) (s64hi (loW x) (loW y) 0))] 141 W) := Lib.hid ⟨hW.2.1, by simpa using hO2⟩
  have c80 := block_cell (o := 0) hO2 rfl
  have c81 := block_cell (o := 1) hO2 rfl
  have q5 := HK.out.2.2.1.2.2.2.2.1
  have q6 := HK.out.2.2.1.2.2.2.2.2.1
  have z5 := HK.out.2.2.2.1.2
  have z6 := HK.out.2.2.2.2.1.2
  clear hW hO2
  go_wp2_with (first | rw [rounds_succ])
  have e0 : s64hi (loW x) (loW y) 0 = bor (loW x) (loW y) := by rw [s64hi_eq h3.1 h4.1 (Int.le_refl 0), Int.add_zero]
  have hc0 := bor_nonneg (loW x) (loW y)
  have hc1' := bor_le (loW x) (loW y)
  have e1 : s64lo (hiW x) (hiW y) (s64hi (loW x) (loW y) 0) = hiW ((x - y) % 340282366920938463463374607431768211456) := by
    rw [e0, s64lo_eq h1.1 h2 hc0 hc1']; unfold Wide at hx hy; unfold bor hiW loW; split <;> omega
  have e2 : s64lo (loW x) (loW y) 0 = loW ((x - y) % 340282366920938463463374607431768211456) := by
    rw [s64lo_eq h3.1 h4 (Int.le_refl 0) (by omega)]; unfold loW; omega
  have e3 : decide (0 < s64hi (hiW x) (hiW y) (s64hi (loW x) (loW y) 0)) = decide (x < y) := by
    rw [e0, s64hi_eq h1.1 h2.1 hc0]
    apply decide_eq_decide.2; unfold Wide at hx hy; unfold bor hiW loW; split <;> split <;> omega
  have HB := Lib.hid HK.out.1
  clear HK HO
  refine bodyPost_ret (v := .tuple #[wv ((x - y) % 340282366920938463463374607431768211456), .bool (decide (x < y))]) ?_ rfl ⟨rfl, ?_⟩
  · simp [results, Try.results130, go_sem, q5, q6, z5, z6, e1, e2, e3]
  · rw [HN.out]
    exact (HB.out.setCell (by show n ≤ n + 1 + 1; omega) _).setCell (by show n ≤ n + 1 + 1; omega) _
end Go.Proofs.Ytkdfkpalgejkkaa
/-
  GIVEN, B: wide.Add, Sub, Times, Less by closed numbers.
-/
set_option linter.unusedSimpArgs false
namespace Go.Proofs.Ytkdfkpalgejkkaa
open Go.RowKit Go.Shelf

theorem wv_ofW {h l : Int} (hl : Word l) : wv (ofW h l) = .agg #[.int .u64 h, .int .u64 l] := by unfold wv; rw [hiW_ofW hl, loW_ofW hl]

theorem wide_Less_c (a b : Int) (w : World) :
    Calls Try.prog 50 #[wv a, wv b] w fun e w' => e = .returned (.bool (decide (a < b))) ∧ Below w.heap.size w w' := by
  refine (Pa.wide_Less.calls (hiW a) (loW a) (hiW b) (loW b) _ w ?_).mono fun e w' h => h
  unfold Pa.wide_Less.f
  by_cases h : hiW a < hiW b
  · rw [if_pos h]
    have : a < b := by unfold hiW at h; omega
    simp [this]
  · rw [if_neg h]
    by_cases k : hiW a = hiW b
    · rw [if_pos k]
      congr 1; apply decide_eq_decide.2; unfold hiW at h k; unfold loW; omega
    · rw [if_neg k]
      have : ¬ a < b := by unfold hiW at h k; omega
      simp [this]

theorem wide_Times_c (a b : Int) (ha : Wide a) (hb : Wide b) (w : World) :
    Calls Try.prog 51 #[wv a, wv b] w fun e w' => e = .returned (.tuple #[wv ((a * b) % 340282366920938463463374607431768211456), .bool (decide (340282366920938463463374607431768211456 ≤ a * b))]) ∧ Below w.heap.size w w' := by
  refine (Pa.wide_Times.calls 5 (hiW a) (loW a) (hiW b) (loW b) _ _ _ w ?_).mono fun e w' h => h
  have h1 := word_hiW ha
  have h2 := word_hiW hb
  have h3 := word_loW a
  have h4 := word_loW b
  have w0 := word_mul h3 h4
  have w1 := word_mul h1 h4
  have w2 := word_mul h3 h2
  have w3 := word_mul h1 h2
  have hprod : a * b = hiW a * hiW b * 340282366920938463463374607431768211456 + (hiW a * loW b + loW a * hiW b) * 18446744073709551616 + loW a * loW b := by
    have ea := ofW_hiW_loW a
    have eb := ofW_hiW_loW b
    unfold ofW at ea eb
    generalize hiW a = ah at *
    generalize loW a = al at *
    generalize hiW b = bh at *
    generalize loW b = bl at *
    subst ea; subst eb
    grind
  have hq : 0 < hiW a * hiW b ↔ 0 < hiW a ∧ 0 < hiW b := by
    constructor
    · intro h
      have n1 : hiW a ≠ 0 := by intro z; rw [z] at h; simp at h
      have n2 : hiW b ≠ 0 := by intro z; rw [z] at h; simp at h
      unfold Word at h1 h2; omega
    · intro h; exact Int.mul_pos h.1 h.2
  unfold Pa.wide_Times.f
  rw [wide_Mul.f_eq h3 h4]
  simp only [Option.bind_some]
  simp only [Pa.wide_Times.j0, wide_Mul.f_eq h1 h4, wide_Mul.f_eq h3 h2, Option.bind_some]
  rw [hprod]
  generalize loW a * loW b = P0 at *
  generalize hiW a * loW b = P1 at *
  generalize loW a * hiW b = P2 at *
  generalize hiW a * hiW b = Q at *
  unfold Word at h1 h2
  have k0 := word_hiW w0
  have s1 : a64lo (hiW P0) (loW P1) 0 = loW (hiW P0 + loW P1) := by rw [a64lo_eq k0.1 (word_loW P1).1 (Int.le_refl 0), Int.add_zero]
  have c1 : a64hi (hiW P0) (loW P1) 0 = hiW (hiW P0 + loW P1) := by rw [a64hi_eq k0.1 (word_loW P1).1 (Int.le_refl 0), Int.add_zero]
  have s2 : a64lo (loW (hiW P0 + loW P1)) (loW P2) 0 = loW (loW (hiW P0 + loW P1) + loW P2) := by rw [a64lo_eq (word_loW _).1 (word_loW P2).1 (Int.le_refl 0), Int.add_zero]
  have c2 : a64hi (loW (hiW P0 + loW P1)) (loW P2) 0 = hiW (loW (hiW P0 + loW P1) + loW P2) := by rw [a64hi_eq (word_loW _).1 (word_loW P2).1 (Int.le_refl 0), Int.add_zero]
  have r1 : loW (loW (hiW P0 + loW P1) + loW P2) = hiW ((Q * 340282366920938463463374607431768211456 + (P1 + P2) * 18446744073709551616 + P0) % 340282366920938463463374607431768211456) := by
    unfold Wide at w0 w1 w2 w3; unfold hiW loW; omega
  have r2 : loW P0 = loW ((Q * 340282366920938463463374607431768211456 + (P1 + P2) * 18446744073709551616 + P0) % 340282366920938463463374607431768211456) := by
    unfold Wide at w0 w1 w2 w3; unfold loW; omega
  have r3 : 340282366920938463463374607431768211456 ≤ Q * 340282366920938463463374607431768211456 + (P1 + P2) * 18446744073709551616 + P0 ↔
      (0 < Q ∨ 0 < hiW (hiW P0 + loW P1) ∨ 0 < hiW P1 ∨ 0 < hiW (loW (hiW P0 + loW P1) + loW P2) ∨ 0 < hiW P2) := by
    unfold Wide at w0 w1 w2 w3; unfold hiW loW; omega
  rw [← r1, ← r2, show decide (340282366920938463463374607431768211456 ≤ Q * 340282366920938463463374607431768211456 + (P1 + P2) * 18446744073709551616 + P0) = decide (0 < Q ∨ 0 < hiW (hiW P0 + loW P1) ∨ 0 < hiW P1 ∨ 0 < hiW (loW (hiW P0 + loW P1) + loW P2) ∨ 0 < hiW P2) from decide_eq_decide.2 r3]
  by_cases o1 : 0 < hiW a
  · rw [if_pos o1]
    by_cases o2 : 0 < hiW b
    · have oq : 0 < Q := hq.2 ⟨o1, o2⟩
      simp [Pa.wide_Times.l0, s1, c1, s2, c2, o2, oq]
    · have oq : ¬ 0 < Q := fun z => o2 (hq.1 z).2
      by_cases d1 : 0 < hiW (hiW P0 + loW P1) <;> by_cases d2 : 0 < hiW P1 <;> by_cases d3 : 0 < hiW (loW (hiW P0 + loW P1) + loW P2) <;> simp [Pa.wide_Times.l0, s1, c1, s2, c2, o2, oq, d1, d2, d3]
  · rw [if_neg o1]
    have oq : ¬ 0 < Q := fun z => o1 (hq.1 z).1
    by_cases d1 : 0 < hiW (hiW P0 + loW P1) <;> by_cases d2 : 0 < hiW P1 <;> by_cases d3 : 0 < hiW (loW (hiW P0 + loW P1) + loW P2) <;> simp [Pa.wide_Times.l0, s1, c1, s2, c2, oq, d1, d2, d3]

/-! ### In the printed form -/
def wide_Less.f (ah al bh bl : Int) : Option Bool := if Word al ∧ Word bl then some (decide (ofW ah al < ofW bh bl)) else none
theorem wide_Less.calls (ah al bh bl : Int) (r : Bool) (w : World) (h : wide_Less.f ah al bh bl = some r) :
    Calls Try.prog 50 #[.agg #[.int .u64 ah, .int .u64 al], .agg #[.int .u64 bh, .int .u64 bl]] w fun e w' => e = .returned (.bool r) ∧ Below w.heap.size w w' := by
  unfold wide_Less.f at h
  split at h
  · rename_i hw
    cases h
    rw [← wv_ofW hw.1, ← wv_ofW hw.2]
    exact wide_Less_c _ _ w
  · cases h
def wide_Add.f (ah al bh bl : Int) : Option (Int × Int × Bool) := if (Word ah ∧ Word al) ∧ Word bh ∧ Word bl then some (hiW ((ofW ah al + ofW bh bl) % 340282366920938463463374607431768211456), loW ((ofW ah al + ofW bh bl) % 340282366920938463463374607431768211456), decide (340282366920938463463374607431768211456 ≤ ofW ah al + ofW bh bl)) else none
theorem wide_Add.calls (ah al bh bl r1 r2 : Int) (r3 : Bool) (w : World) (h : wide_Add.f ah al bh bl = some (r1, r2, r3)) :
    Calls Try.prog 98 #[.agg #[.int .u64 ah, .int .u64 al], .agg #[.int .u64 bh, .int .u64 bl]] w fun e w' => e = .returned (.tuple #[.agg #[.int .u64 r1, .int .u64 r2], .bool r3]) ∧ Below w.heap.size w w' := by
  unfold wide_Add.f at h
  split at h
  · rename_i hw
    cases h
    rw [← wv_ofW hw.1.2, ← wv_ofW hw.2.2]
    exact wide_Add_c _ _ (wide_ofW hw.1.1 hw.1.2) (wide_ofW hw.2.1 hw.2.2) w
  · cases h
def wide_Sub.f (ah al bh bl : Int) : Option (Int × Int × Bool) := if (Word ah ∧ Word al) ∧ Word bh ∧ Word bl then some (hiW ((ofW ah al - ofW bh bl) % 340282366920938463463374607431768211456), loW ((ofW ah al - ofW bh bl) % 340282366920938463463374607431768211456), decide (ofW ah al < ofW bh bl)) else none
theorem wide_Sub.calls (ah al bh bl r1 r2 : Int) (r3 : Bool) (w : World) (h : wide_Sub.f ah al bh bl = some (r1, r2, r3)) :
    Calls Try.prog 130 #[.agg #[.int .u64 ah, .int .u64 al], .agg #[.int .u64 bh, .int .u64 bl]] w fun e w' => e = .returned (.tuple #[.agg #[.int .u64 r1, .int .u64 r2], .bool r3]) ∧ Below w.heap.size w w' := by
  unfold wide_Sub.f at h
  split at h
  · rename_i hw
    cases h
    rw [← wv_ofW hw.1.2, ← wv_ofW hw.2.2]
    exact wide_Sub_c _ _ (wide_ofW hw.1.1 hw.1.2) (wide_ofW hw.2.1 hw.2.2) w
  · cases h
def wide_Times.f (ah al bh bl : Int) : Option (Int × Int × Bool) := if (Word ah ∧ Word al) ∧ Word bh ∧ Word bl then some (hiW ((ofW ah al * ofW bh bl) % 340282366920938463463374607431768211456), loW ((ofW ah al * ofW bh bl) % 340282366920938463463374607431768211456), decide (340282366920938463463374607431768211456 ≤ ofW ah al * ofW bh bl)) else none
theorem wide_Times.calls (ah al bh bl r1 r2 : Int) (r3 : Bool) (w : World) (h : wide_Times.f ah al bh bl = some (r1, r2, r3)) :
    Calls Try.prog 51 #[.agg #[.int .u64 ah, .int .u64 al], .agg #[.int .u64 bh, .int .u64 bl]] w fun e w' => e = .returned (.tuple #[.agg #[.int .u64 r1, .int .u64 r2], .bool r3]) ∧ Below w.heap.size w w' := by
  unfold wide_Times.f at h
  split at h
  · rename_i hw
    cases h
    rw [← wv_ofW hw.1.2, ← wv_ofW hw.2.2]
    exact wide_Times_c _ _ (wide_ofW hw.1.1 hw.1.2) (wide_ofW hw.2.1 hw.2.2) w
  · cases h
end Go.Proofs.Ytkdfkpalgejkkaa
-- Written by a program (gprint.py) for this claim.
namespace Go.Proofs.Ytkdfkpalgejkkaa.Pb
open Go.RowKit Go.Proofs.Ytkdfkpalgejkkaa Go.Proofs.YtkdfkpalgejkkaaW.PrintWords Go.Proofs.YtkdfkpalgejkkaaW.PrintLast Go.Proofs.YtkdfkpalgejkkaaW.PrintMore
attribute [local go_sem] add64' sub64' max2_int min2_int max_two min_two max_three min_three max_four min_four   -- for this text's walks alone
set_option linter.unusedVariables false
set_option linter.unusedSimpArgs false



def errW : Option Int → Value
  | none => .nilIface
  | some c => .iface 0 (.int .i64 c)
theorem errW_none : errW none = .nilIface := rfl
theorem errW_some (c : Int) : errW (some c) = .iface 0 (.int .i64 c) := rfl

-- the values' own types

end Go.Proofs.Ytkdfkpalgejkkaa.Pb
-- Written by a program (gprint.py) for this claim.
namespace Go.Proofs.Ytkdfkpalgejkkaa.Pb
open Go.RowKit Go.Proofs.Ytkdfkpalgejkkaa Go.Proofs.YtkdfkpalgejkkaaW.PrintWords Go.Proofs.YtkdfkpalgejkkaaW.PrintLast Go.Proofs.YtkdfkpalgejkkaaW.PrintMore
attribute [local go_sem] add64' sub64' max2_int min2_int max_two min_two max_three min_three max_four min_four   -- for this text's walks alone
set_option linter.unusedVariables false
set_option linter.unusedSimpArgs false

/-! ### bits_Div64: function 132 -/
mutual
def bits_Div64.j2 : Nat → Int → Int → Int → Int → Int → Int → Int → Int → Option (Int × Int)
  | 0, _, _, _, _, _, _, _, _ => none
  | k + 1, x2, x8, x9, x10, x11, x13, x14, x15 => if x9 = 0 then (none) else (bits_Div64.l1 k x2 x8 x9 x10 x14 x15 (IntKind.u64.wrap ((IntKind.u64.wrap ((IntKind.u64.wrap ((IntKind.u64.wrap (x11 * 4294967296)) + x13)) - (IntKind.u64.wrap (x15 * x2)))) - (IntKind.u64.wrap ((IntKind.u64.wrap (Int.tdiv (IntKind.u64.wrap ((IntKind.u64.wrap ((IntKind.u64.wrap (x11 * 4294967296)) + x13)) - (IntKind.u64.wrap (x15 * x2)))) x9)) * x9)))) (IntKind.u64.wrap ((IntKind.u64.wrap ((IntKind.u64.wrap (x11 * 4294967296)) + x13)) - (IntKind.u64.wrap (x15 * x2)))) (IntKind.u64.wrap (Int.tdiv (IntKind.u64.wrap ((IntKind.u64.wrap ((IntKind.u64.wrap (x11 * 4294967296)) + x13)) - (IntKind.u64.wrap (x15 * x2)))) x9)))
def bits_Div64.l1 : Nat → Int → Int → Int → Int → Int → Int → Int → Int → Int → Option (Int × Int)
  | 0, _, _, _, _, _, _, _, _, _ => none
  | k + 1, x2, x8, x9, x10, x14, x15, x16, x17, x18 => if x18 ≥ 4294967296 then (bits_Div64.j4 k x2 x8 x9 x10 x14 x15 x16 x17 x18 true) else (bits_Div64.j4 k x2 x8 x9 x10 x14 x15 x16 x17 x18 (decide ((IntKind.u64.wrap (x18 * x10)) > (IntKind.u64.wrap ((IntKind.u64.wrap (4294967296 * x16)) + x14)))))
def bits_Div64.j4 : Nat → Int → Int → Int → Int → Int → Int → Int → Int → Int → Bool → Option (Int × Int)
  | 0, _, _, _, _, _, _, _, _, _, _ => none
  | k + 1, x2, x8, x9, x10, x14, x15, x16, x17, x18, x113 => if x113 = true then (if (IntKind.u64.wrap (x16 + x9)) ≥ 4294967296 then (if 0 ≤ x8 then (some (IntKind.u64.wrap ((IntKind.u64.wrap (x15 * 4294967296)) + (IntKind.u64.wrap (x18 - 1))), shr .u64 (IntKind.u64.wrap ((IntKind.u64.wrap ((IntKind.u64.wrap (x17 * 4294967296)) + x14)) - (IntKind.u64.wrap ((IntKind.u64.wrap (x18 - 1)) * x2)))) x8)) else (none)) else (bits_Div64.l1 k x2 x8 x9 x10 x14 x15 (IntKind.u64.wrap (x16 + x9)) x17 (IntKind.u64.wrap (x18 - 1)))) else (if 0 ≤ x8 then (some (IntKind.u64.wrap ((IntKind.u64.wrap (x15 * 4294967296)) + x18), shr .u64 (IntKind.u64.wrap ((IntKind.u64.wrap ((IntKind.u64.wrap (x17 * 4294967296)) + x14)) - (IntKind.u64.wrap (x18 * x2)))) x8)) else (none))
def bits_Div64.l0 : Nat → Int → Int → Int → Int → Int → Int → Int → Int → Int → Option (Int × Int)
  | 0, _, _, _, _, _, _, _, _, _ => none
  | k + 1, x2, x8, x9, x10, x11, x13, x14, x15, x16 => if x15 ≥ 4294967296 then (bits_Div64.j1 k x2 x8 x9 x10 x11 x13 x14 x15 x16 true) else (bits_Div64.j1 k x2 x8 x9 x10 x11 x13 x14 x15 x16 (decide ((IntKind.u64.wrap (x15 * x10)) > (IntKind.u64.wrap ((IntKind.u64.wrap (4294967296 * x16)) + x13)))))
def bits_Div64.j1 : Nat → Int → Int → Int → Int → Int → Int → Int → Int → Int → Bool → Option (Int × Int)
  | 0, _, _, _, _, _, _, _, _, _, _ => none
  | k + 1, x2, x8, x9, x10, x11, x13, x14, x15, x16, x78 => if x78 = true then (if (IntKind.u64.wrap (x16 + x9)) ≥ 4294967296 then (bits_Div64.j2 k x2 x8 x9 x10 x11 x13 x14 (IntKind.u64.wrap (x15 - 1))) else (bits_Div64.l0 k x2 x8 x9 x10 x11 x13 x14 (IntKind.u64.wrap (x15 - 1)) (IntKind.u64.wrap (x16 + x9)))) else (bits_Div64.j2 k x2 x8 x9 x10 x11 x13 x14 x15)
end
def bits_Div64.f (k : Nat) (a0 : Int) (a1 : Int) (a2 : Int) : Option (Int × Int) := if a2 = 0 then (none) else (if a2 ≤ a0 then (none) else (if a0 = 0 then (some (IntKind.u64.wrap (Int.tdiv a1 a2), Int.tmod a1 a2)) else ((bits_LeadingZeros64.f a2).bind fun t101 => (if 0 ≤ (IntKind.u64.wrap (t101)) then (if 0 ≤ (IntKind.u64.wrap (64 - (IntKind.u64.wrap (t101)))) then (if ((shl .u64 a2 (IntKind.u64.wrap (t101))) / 4294967296) = 0 then (none) else (bits_Div64.l0 k (shl .u64 a2 (IntKind.u64.wrap (t101))) (IntKind.u64.wrap (t101)) ((shl .u64 a2 (IntKind.u64.wrap (t101))) / 4294967296) (Go.bits .and .u64 (shl .u64 a2 (IntKind.u64.wrap (t101))) 4294967295) (Go.bits .or .u64 (shl .u64 a0 (IntKind.u64.wrap (t101))) (shr .u64 a1 (IntKind.u64.wrap (64 - (IntKind.u64.wrap (t101)))))) ((shl .u64 a1 (IntKind.u64.wrap (t101))) / 4294967296) (Go.bits .and .u64 (shl .u64 a1 (IntKind.u64.wrap (t101))) 4294967295) (IntKind.u64.wrap (Int.tdiv (Go.bits .or .u64 (shl .u64 a0 (IntKind.u64.wrap (t101))) (shr .u64 a1 (IntKind.u64.wrap (64 - (IntKind.u64.wrap (t101)))))) ((shl .u64 a2 (IntKind.u64.wrap (t101))) / 4294967296))) (IntKind.u64.wrap ((Go.bits .or .u64 (shl .u64 a0 (IntKind.u64.wrap (t101))) (shr .u64 a1 (IntKind.u64.wrap (64 - (IntKind.u64.wrap (t101)))))) - (IntKind.u64.wrap ((IntKind.u64.wrap (Int.tdiv (Go.bits .or .u64 (shl .u64 a0 (IntKind.u64.wrap (t101))) (shr .u64 a1 (IntKind.u64.wrap (64 - (IntKind.u64.wrap (t101)))))) ((shl .u64 a2 (IntKind.u64.wrap (t101))) / 4294967296))) * ((shl .u64 a2 (IntKind.u64.wrap (t101))) / 4294967296))))))) else (none)) else (none)))))
theorem bits_Div64.mono_l : ∀ k, (∀ y0 y1 y2 y3 y4 y5 y6 y7, LeO (bits_Div64.j2 k y0 y1 y2 y3 y4 y5 y6 y7) (bits_Div64.j2 (k + 1) y0 y1 y2 y3 y4 y5 y6 y7)) ∧ (∀ y0 y1 y2 y3 y4 y5 y6 y7 y8, LeO (bits_Div64.l1 k y0 y1 y2 y3 y4 y5 y6 y7 y8) (bits_Div64.l1 (k + 1) y0 y1 y2 y3 y4 y5 y6 y7 y8)) ∧ (∀ y0 y1 y2 y3 y4 y5 y6 y7 y8 y9, LeO (bits_Div64.j4 k y0 y1 y2 y3 y4 y5 y6 y7 y8 y9) (bits_Div64.j4 (k + 1) y0 y1 y2 y3 y4 y5 y6 y7 y8 y9)) ∧ (∀ y0 y1 y2 y3 y4 y5 y6 y7 y8, LeO (bits_Div64.l0 k y0 y1 y2 y3 y4 y5 y6 y7 y8) (bits_Div64.l0 (k + 1) y0 y1 y2 y3 y4 y5 y6 y7 y8)) ∧ (∀ y0 y1 y2 y3 y4 y5 y6 y7 y8 y9, LeO (bits_Div64.j1 k y0 y1 y2 y3 y4 y5 y6 y7 y8 y9) (bits_Div64.j1 (k + 1) y0 y1 y2 y3 y4 y5 y6 y7 y8 y9))
  | 0 => ⟨fun _ _ _ _ _ _ _ _ r h => by simp [bits_Div64.j2] at h, fun _ _ _ _ _ _ _ _ _ r h => by simp [bits_Div64.l1] at h, fun _ _ _ _ _ _ _ _ _ _ r h => by simp [bits_Div64.j4] at h, fun _ _ _ _ _ _ _ _ _ r h => by simp [bits_Div64.l0] at h, fun _ _ _ _ _ _ _ _ _ _ r h => by simp [bits_Div64.j1] at h⟩
  | k + 1 => by
    obtain ⟨ih0, ih1, ih2, ih3, ih4⟩ := bits_Div64.mono_l k
    refine ⟨?_, ?_, ?_, ?_, ?_⟩
    · intro y0 y1 y2 y3 y4 y5 y6 y7
      unfold bits_Div64.j2
      repeat' first
      | (with_reducible exact ih0 _ _ _ _ _ _ _ _)
      | (with_reducible exact ih1 _ _ _ _ _ _ _ _ _)
      | (with_reducible exact ih2 _ _ _ _ _ _ _ _ _ _)
      | (with_reducible exact ih3 _ _ _ _ _ _ _ _ _)
      | (with_reducible exact ih4 _ _ _ _ _ _ _ _ _ _)
      | (with_reducible exact LeO.refl _)
      | (with_reducible exact LeO.none _)
      | (with_reducible refine LeO.ite ?_ ?_)
      | (with_reducible refine LeO.bind ?_ (fun _ => ?_))
      | exact ih0 _ _ _ _ _ _ _ _
      | exact ih1 _ _ _ _ _ _ _ _ _
      | exact ih2 _ _ _ _ _ _ _ _ _ _
      | exact ih3 _ _ _ _ _ _ _ _ _
      | exact ih4 _ _ _ _ _ _ _ _ _ _
      | exact LeO.none _
      | refine LeO.ite ?_ ?_
      | refine LeO.bind ?_ (fun _ => ?_)
    · intro y0 y1 y2 y3 y4 y5 y6 y7 y8
      unfold bits_Div64.l1
      repeat' first
      | (with_reducible exact ih0 _ _ _ _ _ _ _ _)
      | (with_reducible exact ih1 _ _ _ _ _ _ _ _ _)
      | (with_reducible exact ih2 _ _ _ _ _ _ _ _ _ _)
      | (with_reducible exact ih3 _ _ _ _ _ _ _ _ _)
      | (with_reducible exact ih4 _ _ _ _ _ _ _ _ _ _)
      | (with_reducible exact LeO.refl _)
      | (with_reducible exact LeO.none _)
      | (with_reducible refine LeO.ite ?_ ?_)
      | (with_reducible refine LeO.bind ?_ (fun _ => ?_))
      | exact ih0 _ _ _ _ _ _ _ _
      | exact ih1 _ _ _ _ _ _ _ _ _
      | exact ih2 _ _ _ _ _ _ _ _ _ _
      | exact ih3 _ _ _ _ _ _ _ _ _
      | exact ih4 _ _ _ _ _ _ _ _ _ _
      | exact LeO.none _
      | refine LeO.ite ?_ ?_
      | refine LeO.bind ?_ (fun _ => ?_)
    · intro y0 y1 y2 y3 y4 y5 y6 y7 y8 y9
      unfold bits_Div64.j4
      repeat' first
      | (with_reducible exact ih0 _ _ _ _ _ _ _ _)
      | (with_reducible exact ih1 _ _ _ _ _ _ _ _ _)
      | (with_reducible exact ih2 _ _ _ _ _ _ _ _ _ _)
      | (with_reducible exact ih3 _ _ _ _ _ _ _ _ _)
      | (with_reducible exact ih4 _ _ _ _ _ _ _ _ _ _)
      | (with_reducible exact LeO.refl _)
      | (with_reducible exact LeO.none _)
      | (with_reducible refine LeO.ite ?_ ?_)
      | (with_reducible refine LeO.bind ?_ (fun _ => ?_))
      | exact ih0 _ _ _ _ _ _ _ _
      | exact ih1 _ _ _ _ _ _ _ _ _
      | exact ih2 _ _ _ _ _ _ _ _ _ _
      | exact ih3 _ _ _ _ _ _ _ _ _
      | exact ih4 _ _ _ _ _ _ _ _ _ _
      | exact LeO.none _
      | refine LeO.ite ?_ ?_
      | refine LeO.bind ?_ (fun _ => ?_)
    · intro y0 y1 y2 y3 y4 y5 y6 y7 y8
      unfold bits_Div64.l0
      repeat' first
      | (with_reducible exact ih0 _ _ _ _ _ _ _ _)
      | (with_reducible exact ih1 _ _ _ _ _ _ _ _ _)
      | (with_reducible exact ih2 _ _ _ _ _ _ _ _ _ _)
      | (with_reducible exact ih3 _ _ _ _ _ _ _ _ _)
      | (with_reducible exact ih4 _ _ _ _ _ _ _ _ _ _)
      | (with_reducible exact LeO.refl _)
      | (with_reducible exact LeO.none _)
      | (with_reducible refine LeO.ite ?_ ?_)
      | (with_reducible refine LeO.bind ?_ (fun _ => ?_))
      | exact ih0 _ _ _ _ _ _ _ _
      | exact ih1 _ _ _ _ _ _ _ _ _
      | exact ih2 _ _ _ _ _ _ _ _ _ _
      | exact ih3 _ _ _ _ _ _ _ _ _
      | exact ih4 _ _ _ _ _ _ _ _ _ _
      | exact LeO.none _
      | refine LeO.ite ?_ ?_
      | refine LeO.bind ?_ (fun _ => ?_)
    · intro y0 y1 y2 y3 y4 y5 y6 y7 y8 y9
      unfold bits_Div64.j1
      repeat' first
      | (with_reducible exact ih0 _ _ _ _ _ _ _ _)
      | (with_reducible exact ih1 _ _ _ _ _ _ _ _ _)
      | (with_reducible exact ih2 _ _ _ _ _ _ _ _ _ _)
      | (with_reducible exact ih3 _ _ _ _ _ _ _ _ _)
      | (with_reducible exact ih4 _ _ _ _ _ _ _ _ _ _)
      | (with_reducible exact LeO.refl _)
      | (with_reducible exact LeO.none _)
      | (with_reducible refine LeO.ite ?_ ?_)
      | (with_reducible refine LeO.bind ?_ (fun _ => ?_))
      | exact ih0 _ _ _ _ _ _ _ _
      | exact ih1 _ _ _ _ _ _ _ _ _
      | exact ih2 _ _ _ _ _ _ _ _ _ _
      | exact ih3 _ _ _ _ _ _ _ _ _
      | exact ih4 _ _ _ _ _ _ _ _ _ _
      | exact LeO.none _
      | refine LeO.ite ?_ ?_
      | refine LeO.bind ?_ (fun _ => ?_)
theorem bits_Div64.mono : ∀ a0 a1 a2 k, LeO (bits_Div64.f k a0 a1 a2) (bits_Div64.f (k + 1) a0 a1 a2) := by
  intro a0 a1 a2 k
  obtain ⟨ih0, ih1, ih2, ih3, ih4⟩ := bits_Div64.mono_l k
  unfold bits_Div64.f
  repeat' first
      | (with_reducible exact ih0 _ _ _ _ _ _ _ _)
      | (with_reducible exact ih1 _ _ _ _ _ _ _ _ _)
      | (with_reducible exact ih2 _ _ _ _ _ _ _ _ _ _)
      | (with_reducible exact ih3 _ _ _ _ _ _ _ _ _)
      | (with_reducible exact ih4 _ _ _ _ _ _ _ _ _ _)
      | (with_reducible exact LeO.refl _)
      | (with_reducible exact LeO.none _)
      | (with_reducible refine LeO.ite ?_ ?_)
      | (with_reducible refine LeO.bind ?_ (fun _ => ?_))
      | exact ih0 _ _ _ _ _ _ _ _
      | exact ih1 _ _ _ _ _ _ _ _ _
      | exact ih2 _ _ _ _ _ _ _ _ _ _
      | exact ih3 _ _ _ _ _ _ _ _ _
      | exact ih4 _ _ _ _ _ _ _ _ _ _
      | exact LeO.none _
      | refine LeO.ite ?_ ?_
      | refine LeO.bind ?_ (fun _ => ?_)
set_option maxHeartbeats 8000000 in
set_option maxRecDepth 100000 in
theorem bits_Div64.calls (k : Nat) (a0 : Int) (a1 : Int) (a2 : Int) (r1 : Int) (r2 : Int) (w : World) (h : bits_Div64.f k a0 a1 a2 = some (r1, r2)) :
    Calls Try.prog 132 #[.int .u64 a0, .int .u64 a1, .int .u64 a2] w fun e w' => e = .returned (.tuple #[.int .u64 r1, .int .u64 r2]) ∧ Below w.heap.size w w' := by
  have HB := Aside0.mk (Below.refl w.heap.size w)
  have H : (if a2 = 0 then (none) else (if a2 ≤ a0 then (none) else (if a0 = 0 then (some (IntKind.u64.wrap (Int.tdiv a1 a2), Int.tmod a1 a2)) else ((bits_LeadingZeros64.f a2).bind fun t101 => (if 0 ≤ (IntKind.u64.wrap (t101)) then (if 0 ≤ (IntKind.u64.wrap (64 - (IntKind.u64.wrap (t101)))) then (if ((shl .u64 a2 (IntKind.u64.wrap (t101))) / 4294967296) = 0 then (none) else (bits_Div64.l0 k (shl .u64 a2 (IntKind.u64.wrap (t101))) (IntKind.u64.wrap (t101)) ((shl .u64 a2 (IntKind.u64.wrap (t101))) / 4294967296) (Go.bits .and .u64 (shl .u64 a2 (IntKind.u64.wrap (t101))) 4294967295) (Go.bits .or .u64 (shl .u64 a0 (IntKind.u64.wrap (t101))) (shr .u64 a1 (IntKind.u64.wrap (64 - (IntKind.u64.wrap (t101)))))) ((shl .u64 a1 (IntKind.u64.wrap (t101))) / 4294967296) (Go.bits .and .u64 (shl .u64 a1 (IntKind.u64.wrap (t101))) 4294967295) (IntKind.u64.wrap (Int.tdiv (Go.bits .or .u64 (shl .u64 a0 (IntKind.u64.wrap (t101))) (shr .u64 a1 (IntKind.u64.wrap (64 - (IntKind.u64.wrap (t101)))))) ((shl .u64 a2 (IntKind.u64.wrap (t101))) / 4294967296))) (IntKind.u64.wrap ((Go.bits .or .u64 (shl .u64 a0 (IntKind.u64.wrap (t101))) (shr .u64 a1 (IntKind.u64.wrap (64 - (IntKind.u64.wrap (t101)))))) - (IntKind.u64.wrap ((IntKind.u64.wrap (Int.tdiv (Go.bits .or .u64 (shl .u64 a0 (IntKind.u64.wrap (t101))) (shr .u64 a1 (IntKind.u64.wrap (64 - (IntKind.u64.wrap (t101)))))) ((shl .u64 a2 (IntKind.u64.wrap (t101))) / 4294967296))) * ((shl .u64 a2 (IntKind.u64.wrap (t101))) / 4294967296))))))) else (none)) else (none)))))) = some (r1, r2) := h
  clear h
  by_cases c4 : a2 = 0
  · rw [if_pos c4] at H
    exact absurd H (by simp)
  · rw [if_neg c4] at H
    have c4b0 : (a2 == 0) = false := beq_eq_false_iff_ne.mpr c4
    have c4b1 : (a2 != 0) = true := bne_iff_ne.mpr c4
    by_cases c5 : a2 ≤ a0
    · rw [if_pos c5] at H
      exact absurd H (by simp)
    · rw [if_neg c5] at H
      have c5b0 : decide (a2 ≤ a0) = false := decide_eq_false c5
      clear c5
      by_cases c6 : a0 = 0
      · rw [if_pos c6] at H
        have c6b0 : (a0 == 0) = true := beq_iff_eq.mpr c6
        have c6b1 : (a0 != 0) = false := bne_eq_false_iff_eq.mpr c6
        clear c6
        simp only [Option.some.injEq, Prod.mk.injEq] at H
        obtain ⟨rfl, rfl⟩ := H
        go_enter Try.func132, Try.ntmps132
        go_wp2
        repeat (go_quiet (fail); try go_wp2)
        go_ret2
        exact ⟨by first | rfl | (simp [errW_none, errW_some] <;> rfl) | (simp [*, errW_none, errW_some] <;> rfl), by repeat (first | (with_reducible first | exact HB.out | apply below_alloc | apply pw_below_drewN | apply below_drew1) | exact HB.out)⟩
      · rw [if_neg c6] at H
        have c6b0 : (a0 == 0) = false := beq_eq_false_iff_ne.mpr c6
        have c6b1 : (a0 != 0) = true := bne_iff_ne.mpr c6
        replace H := Option.bind_eq_some_iff.mp H
        obtain ⟨t101, A70, H⟩ := H
        replace H : (if 0 ≤ (IntKind.u64.wrap (t101)) then (if 0 ≤ (IntKind.u64.wrap (64 - (IntKind.u64.wrap (t101)))) then (if ((shl .u64 a2 (IntKind.u64.wrap (t101))) / 4294967296) = 0 then (none) else (bits_Div64.l0 k (shl .u64 a2 (IntKind.u64.wrap (t101))) (IntKind.u64.wrap (t101)) ((shl .u64 a2 (IntKind.u64.wrap (t101))) / 4294967296) (Go.bits .and .u64 (shl .u64 a2 (IntKind.u64.wrap (t101))) 4294967295) (Go.bits .or .u64 (shl .u64 a0 (IntKind.u64.wrap (t101))) (shr .u64 a1 (IntKind.u64.wrap (64 - (IntKind.u64.wrap (t101)))))) ((shl .u64 a1 (IntKind.u64.wrap (t101))) / 4294967296) (Go.bits .and .u64 (shl .u64 a1 (IntKind.u64.wrap (t101))) 4294967295) (IntKind.u64.wrap (Int.tdiv (Go.bits .or .u64 (shl .u64 a0 (IntKind.u64.wrap (t101))) (shr .u64 a1 (IntKind.u64.wrap (64 - (IntKind.u64.wrap (t101)))))) ((shl .u64 a2 (IntKind.u64.wrap (t101))) / 4294967296))) (IntKind.u64.wrap ((Go.bits .or .u64 (shl .u64 a0 (IntKind.u64.wrap (t101))) (shr .u64 a1 (IntKind.u64.wrap (64 - (IntKind.u64.wrap (t101)))))) - (IntKind.u64.wrap ((IntKind.u64.wrap (Int.tdiv (Go.bits .or .u64 (shl .u64 a0 (IntKind.u64.wrap (t101))) (shr .u64 a1 (IntKind.u64.wrap (64 - (IntKind.u64.wrap (t101)))))) ((shl .u64 a2 (IntKind.u64.wrap (t101))) / 4294967296))) * ((shl .u64 a2 (IntKind.u64.wrap (t101))) / 4294967296))))))) else (none)) else (none)) = some (r1, r2) := H
        have A7 := Aside0.mk A70
        clear A70
        obtain ⟨ji8, hji8⟩ : ∃ j_ : Int, (IntKind.u64.wrap (t101)) = j_ := ⟨_, rfl⟩
        replace H : (if 0 ≤ (ji8) then (if 0 ≤ (IntKind.u64.wrap (64 - (ji8))) then (if ((shl .u64 a2 (ji8)) / 4294967296) = 0 then (none) else (bits_Div64.l0 k (shl .u64 a2 (ji8)) ji8 ((shl .u64 a2 (ji8)) / 4294967296) (Go.bits .and .u64 (shl .u64 a2 (ji8)) 4294967295) (Go.bits .or .u64 (shl .u64 a0 (ji8)) (shr .u64 a1 (IntKind.u64.wrap (64 - (ji8))))) ((shl .u64 a1 (ji8)) / 4294967296) (Go.bits .and .u64 (shl .u64 a1 (ji8)) 4294967295) (IntKind.u64.wrap (Int.tdiv (Go.bits .or .u64 (shl .u64 a0 (ji8)) (shr .u64 a1 (IntKind.u64.wrap (64 - (ji8))))) ((shl .u64 a2 (ji8)) / 4294967296))) (IntKind.u64.wrap ((Go.bits .or .u64 (shl .u64 a0 (ji8)) (shr .u64 a1 (IntKind.u64.wrap (64 - (ji8))))) - (IntKind.u64.wrap ((IntKind.u64.wrap (Int.tdiv (Go.bits .or .u64 (shl .u64 a0 (ji8)) (shr .u64 a1 (IntKind.u64.wrap (64 - (ji8))))) ((shl .u64 a2 (ji8)) / 4294967296))) * ((shl .u64 a2 (ji8)) / 4294967296))))))) else (none)) else (none)) = some (r1, r2) := by first | (rw [hji8] at H; exact H) | (simp only [hji8] at H ⊢; exact H)
        (try rw [hji8] at A7)
        by_cases c9 : 0 ≤ (ji8)
        · rw [if_pos c9] at H
          have c9b0 := eq_true c9
          have c9b1 : decide (0 ≤ (ji8)) = true := decide_eq_true c9
          clear c9
          obtain ⟨ji10, hji10⟩ : ∃ j_ : Int, (shl .u64 a2 (ji8)) = j_ := ⟨_, rfl⟩
          replace H : (if 0 ≤ (IntKind.u64.wrap (64 - (ji8))) then (if ((ji10) / 4294967296) = 0 then (none) else (bits_Div64.l0 k ji10 ji8 ((ji10) / 4294967296) (Go.bits .and .u64 (ji10) 4294967295) (Go.bits .or .u64 (shl .u64 a0 (ji8)) (shr .u64 a1 (IntKind.u64.wrap (64 - (ji8))))) ((shl .u64 a1 (ji8)) / 4294967296) (Go.bits .and .u64 (shl .u64 a1 (ji8)) 4294967295) (IntKind.u64.wrap (Int.tdiv (Go.bits .or .u64 (shl .u64 a0 (ji8)) (shr .u64 a1 (IntKind.u64.wrap (64 - (ji8))))) ((ji10) / 4294967296))) (IntKind.u64.wrap ((Go.bits .or .u64 (shl .u64 a0 (ji8)) (shr .u64 a1 (IntKind.u64.wrap (64 - (ji8))))) - (IntKind.u64.wrap ((IntKind.u64.wrap (Int.tdiv (Go.bits .or .u64 (shl .u64 a0 (ji8)) (shr .u64 a1 (IntKind.u64.wrap (64 - (ji8))))) ((ji10) / 4294967296))) * ((ji10) / 4294967296))))))) else (none)) = some (r1, r2) := by first | (rw [hji10] at H; exact H) | (simp only [hji10] at H ⊢; exact H)
          (try rw [hji10] at A7)
          have hji10_ : (IntKind.u64.wrap (a2 * 2 ^ min (ji8).toNat 64)) = ji10 := hji10
          have hji10z : (ji8) ≤ 64 → (IntKind.u64.wrap (a2 * 2 ^ (ji8).toNat)) = ji10 := shl_small hji10
          have c11b0 := eq_true (of_decide_eq_true (by first | (with_reducible assumption) | assumption) : 0 ≤ (ji8))
          obtain ⟨ji12, hji12⟩ : ∃ j_ : Int, (shl .u64 a0 (ji8)) = j_ := ⟨_, rfl⟩
          replace H : (if 0 ≤ (IntKind.u64.wrap (64 - (ji8))) then (if ((ji10) / 4294967296) = 0 then (none) else (bits_Div64.l0 k ji10 ji8 ((ji10) / 4294967296) (Go.bits .and .u64 (ji10) 4294967295) (Go.bits .or .u64 (ji12) (shr .u64 a1 (IntKind.u64.wrap (64 - (ji8))))) ((shl .u64 a1 (ji8)) / 4294967296) (Go.bits .and .u64 (shl .u64 a1 (ji8)) 4294967295) (IntKind.u64.wrap (Int.tdiv (Go.bits .or .u64 (ji12) (shr .u64 a1 (IntKind.u64.wrap (64 - (ji8))))) ((ji10) / 4294967296))) (IntKind.u64.wrap ((Go.bits .or .u64 (ji12) (shr .u64 a1 (IntKind.u64.wrap (64 - (ji8))))) - (IntKind.u64.wrap ((IntKind.u64.wrap (Int.tdiv (Go.bits .or .u64 (ji12) (shr .u64 a1 (IntKind.u64.wrap (64 - (ji8))))) ((ji10) / 4294967296))) * ((ji10) / 4294967296))))))) else (none)) = some (r1, r2) := by first | (rw [hji12] at H; exact H) | (simp only [hji12] at H ⊢; exact H)
          (try rw [hji12] at A7)
          have hji12_ : (IntKind.u64.wrap (a0 * 2 ^ min (ji8).toNat 64)) = ji12 := hji12
          have hji12z : (ji8) ≤ 64 → (IntKind.u64.wrap (a0 * 2 ^ (ji8).toNat)) = ji12 := shl_small hji12
          obtain ⟨ji13, hji13⟩ : ∃ j_ : Int, (IntKind.u64.wrap (64 - (ji8))) = j_ := ⟨_, rfl⟩
          replace H : (if 0 ≤ (ji13) then (if ((ji10) / 4294967296) = 0 then (none) else (bits_Div64.l0 k ji10 ji8 ((ji10) / 4294967296) (Go.bits .and .u64 (ji10) 4294967295) (Go.bits .or .u64 (ji12) (shr .u64 a1 (ji13))) ((shl .u64 a1 (ji8)) / 4294967296) (Go.bits .and .u64 (shl .u64 a1 (ji8)) 4294967295) (IntKind.u64.wrap (Int.tdiv (Go.bits .or .u64 (ji12) (shr .u64 a1 (ji13))) ((ji10) / 4294967296))) (IntKind.u64.wrap ((Go.bits .or .u64 (ji12) (shr .u64 a1 (ji13))) - (IntKind.u64.wrap ((IntKind.u64.wrap (Int.tdiv (Go.bits .or .u64 (ji12) (shr .u64 a1 (ji13))) ((ji10) / 4294967296))) * ((ji10) / 4294967296))))))) else (none)) = some (r1, r2) := by first | (rw [hji13] at H; exact H) | (simp only [hji13] at H ⊢; exact H)
          (try rw [hji13] at A7)
          by_cases c14 : 0 ≤ (ji13)
          · rw [if_pos c14] at H
            have c14b0 := eq_true c14
            have c14b1 : decide (0 ≤ (ji13)) = true := decide_eq_true c14
            clear c14
            obtain ⟨ji15, hji15⟩ : ∃ j_ : Int, (shr .u64 a1 (ji13)) = j_ := ⟨_, rfl⟩
            replace H : (if ((ji10) / 4294967296) = 0 then (none) else (bits_Div64.l0 k ji10 ji8 ((ji10) / 4294967296) (Go.bits .and .u64 (ji10) 4294967295) (Go.bits .or .u64 (ji12) (ji15)) ((shl .u64 a1 (ji8)) / 4294967296) (Go.bits .and .u64 (shl .u64 a1 (ji8)) 4294967295) (IntKind.u64.wrap (Int.tdiv (Go.bits .or .u64 (ji12) (ji15)) ((ji10) / 4294967296))) (IntKind.u64.wrap ((Go.bits .or .u64 (ji12) (ji15)) - (IntKind.u64.wrap ((IntKind.u64.wrap (Int.tdiv (Go.bits .or .u64 (ji12) (ji15)) ((ji10) / 4294967296))) * ((ji10) / 4294967296))))))) = some (r1, r2) := by first | (rw [hji15] at H; exact H) | (simp only [hji15] at H ⊢; exact H)
            (try rw [hji15] at A7)
            have hji15_ : (a1 / 2 ^ min (ji13).toNat 64) = ji15 := hji15
            have hji15z : (ji13) ≤ 64 → (a1 / 2 ^ (ji13).toNat) = ji15 := shr_small hji15
            have c16b0 := eq_true (of_decide_eq_true (by first | (with_reducible assumption) | assumption) : 0 ≤ (ji8))
            obtain ⟨ji17, hji17⟩ : ∃ j_ : Int, (shl .u64 a1 (ji8)) = j_ := ⟨_, rfl⟩
            replace H : (if ((ji10) / 4294967296) = 0 then (none) else (bits_Div64.l0 k ji10 ji8 ((ji10) / 4294967296) (Go.bits .and .u64 (ji10) 4294967295) (Go.bits .or .u64 (ji12) (ji15)) ((ji17) / 4294967296) (Go.bits .and .u64 (ji17) 4294967295) (IntKind.u64.wrap (Int.tdiv (Go.bits .or .u64 (ji12) (ji15)) ((ji10) / 4294967296))) (IntKind.u64.wrap ((Go.bits .or .u64 (ji12) (ji15)) - (IntKind.u64.wrap ((IntKind.u64.wrap (Int.tdiv (Go.bits .or .u64 (ji12) (ji15)) ((ji10) / 4294967296))) * ((ji10) / 4294967296))))))) = some (r1, r2) := by first | (rw [hji17] at H; exact H) | (simp only [hji17] at H ⊢; exact H)
            (try rw [hji17] at A7)
            have hji17_ : (IntKind.u64.wrap (a1 * 2 ^ min (ji8).toNat 64)) = ji17 := hji17
            have hji17z : (ji8) ≤ 64 → (IntKind.u64.wrap (a1 * 2 ^ (ji8).toNat)) = ji17 := shl_small hji17
            by_cases c18 : ((ji10) / 4294967296) = 0
            · rw [if_pos c18] at H
              exact absurd H (by simp)
            · rw [if_neg c18] at H
              have c18b0 : (((ji10) / 4294967296) == 0) = false := beq_eq_false_iff_ne.mpr c18
              have c18b1 : (((ji10) / 4294967296) != 0) = true := bne_iff_ne.mpr c18
              have HC19 := Aside0.mk H
              clear H
              go_enter Try.func132, Try.ntmps132
              go_upto_block 0 with (first | (go_at_call 133; (with_reducible refine (bits_LeadingZeros64.calls a2 t101 _ A7.out).mono ?_); rintro e w20 ⟨rfl, hb⟩; have n0_ := Aside0.mk (below_step (by repeat (first | (with_reducible first | exact HB.out | apply below_alloc | apply pw_below_drewN | apply below_drew1) | exact HB.out)) hb); clear HB; have HB := n0_; clear n0_; (try clear hb); (try clear hb2); (try clear hk); (try clear hi)))
              repeat (go_quiet (first | (go_at_call 133; (with_reducible refine (bits_LeadingZeros64.calls a2 t101 _ A7.out).mono ?_); rintro e w20 ⟨rfl, hb⟩; have n0_ := Aside0.mk (below_step (by repeat (first | (with_reducible first | exact HB.out | apply below_alloc | apply pw_below_drewN | apply below_drew1) | exact HB.out)) hb); clear HB; have HB := n0_; clear n0_; (try clear hb); (try clear hb2); (try clear hk); (try clear hi))); go_upto_block 0 with (first | (go_at_call 133; (with_reducible refine (bits_LeadingZeros64.calls a2 t101 _ A7.out).mono ?_); rintro e w20 ⟨rfl, hb⟩; have n0_ := Aside0.mk (below_step (by repeat (first | (with_reducible first | exact HB.out | apply below_alloc | apply pw_below_drewN | apply below_drew1) | exact HB.out)) hb); clear HB; have HB := n0_; clear n0_; (try clear hb); (try clear hb2); (try clear hk); (try clear hi))))
              (try simp only [Act.put, List.setIfInBounds_toArray, List.set_cons_zero, List.set_cons_succ])
              go_cut [15] (fun v15 wc => ∃ (kq : Nat) (x15_18 : Int), v15 = .int .u64 x15_18 ∧ Aside0 (bits_Div64.j2 kq ji10 ji8 ((ji10) / 4294967296) (Go.bits .and .u64 (ji10) 4294967295) (Go.bits .or .u64 (ji12) (ji15)) ((ji17) / 4294967296) (Go.bits .and .u64 (ji17) 4294967295) x15_18 = some (r1, r2)) ∧ Aside0 (kq ≤ k) ∧ Aside0 (Below w.heap.size w wc))
              case first =>
                have H := HC19.out
                clear HC19
                have H' := Aside0.mk H
                clear H
                go_wp2
                repeat (go_quiet (fail); try go_wp2)
                go_loopg [15, 16] k (fun kq v15 v16 w' => ∃ (x15_1 : Int) (x16_1 : Int), v15 = .int .u64 x15_1 ∧ v16 = .int .u64 x16_1 ∧ Aside0 (bits_Div64.l0 kq ji10 ji8 ((ji10) / 4294967296) (Go.bits .and .u64 (ji10) 4294967295) (Go.bits .or .u64 (ji12) (ji15)) ((ji17) / 4294967296) (Go.bits .and .u64 (ji17) 4294967295) x15_1 x16_1 = some (r1, r2)) ∧ Aside0 (kq ≤ k) ∧ Aside0 (Below w.heap.size w w'))
                case atStart => exact ⟨(IntKind.u64.wrap (Int.tdiv (Go.bits .or .u64 (ji12) (ji15)) ((ji10) / 4294967296))), (IntKind.u64.wrap ((Go.bits .or .u64 (ji12) (ji15)) - (IntKind.u64.wrap ((IntKind.u64.wrap (Int.tdiv (Go.bits .or .u64 (ji12) (ji15)) ((ji10) / 4294967296))) * ((ji10) / 4294967296))))), (by first | rfl | (simp; done) | (simp only [← hji10, ← hji12, ← hji15] <;> (first | rfl | simp)) | (simp [*]; done)), (by first | rfl | (simp; done) | (simp only [← hji10, ← hji12, ← hji15] <;> (first | rfl | simp)) | (simp [*]; done)), H', ⟨Nat.le_refl _⟩, ⟨by repeat (first | (with_reducible first | exact HB.out | apply below_alloc | apply pw_below_drewN | apply below_drew1) | exact HB.out)⟩⟩
                case round =>
                  clear H'
                  try clear c1
                  try clear p2
                  try clear c4
                  try clear c4b0
                  try clear c4b1
                  try clear c5
                  try clear c5b0
                  try clear c6
                  try clear c6b0
                  try clear c6b1
                  try clear c9
                  try clear c9b0
                  try clear c9b1
                  try clear c11
                  try clear c11b0
                  try clear c13
                  try clear c14
                  try clear c14b0
                  try clear c14b1
                  try clear c16
                  try clear c16b0
                  try clear c18
                  try clear c18b0
                  try clear c18b1
                  obtain ⟨x15_1, x16_1, rfl, rfl, HA, HK1, HB⟩ := hrel
                  cases gk with
                  | zero => exact absurd HA.out (by simp [bits_Div64.l0])
                  | succ k1 =>
                    have H := HA.out
                    clear HA
                    simp only [bits_Div64.l0] at H
                    have HC21 := Aside0.mk H
                    clear H
                    go_upto_region 17 with (fail)
                    repeat (go_quiet (fail); go_upto_region 17 with (fail))
                    go_cut [78] (fun v78 wc => ∃ (kq : Nat) (x78_20 : Bool), v78 = .bool x78_20 ∧ Aside0 (bits_Div64.j1 kq ji10 ji8 ((ji10) / 4294967296) (Go.bits .and .u64 (ji10) 4294967295) (Go.bits .or .u64 (ji12) (ji15)) ((ji17) / 4294967296) (Go.bits .and .u64 (ji17) 4294967295) x15_1 x16_1 x78_20 = some (r1, r2)) ∧ Aside0 (kq ≤ k1) ∧ Aside0 (Below w.heap.size w wc))
                    case first =>
                      have H := HC21.out
                      clear HC21
                      by_cases c22 : x15_1 ≥ 4294967296
                      · rw [if_pos c22] at H
                        have c22b0 : decide (4294967296 ≤ x15_1) = true := decide_eq_true c22
                        clear c22
                        (first | rw [c22b0] | (simp only [i64_w, i32_w]; rw [c22b0]) | skip)
                        have H' := Aside0.mk H
                        clear H
                        go_wp2
                        repeat (go_quiet (fail); try go_wp2)
                        go_meet
                        case rel => exact ⟨_, (true), (by first | rfl | (simp; done) | (simp [*]; done)), H', ⟨by have := HK1.out; first | omega | exact Nat.le_refl _⟩, ⟨by repeat (first | (with_reducible first | exact HB.out | apply below_alloc | apply pw_below_drewN | apply below_drew1) | exact HB.out)⟩⟩
                      · rw [if_neg c22] at H
                        have c22b0 : decide (4294967296 ≤ x15_1) = false := decide_eq_false c22
                        clear c22
                        (first | rw [c22b0] | (simp only [i64_w, i32_w]; rw [c22b0]) | skip)
                        have H' := Aside0.mk H
                        clear H
                        go_wp2
                        repeat (go_quiet (fail); try go_wp2)
                        go_meet
                        case rel => exact ⟨_, (decide ((IntKind.u64.wrap (x15_1 * (Go.bits .and .u64 (ji10) 4294967295))) > (IntKind.u64.wrap ((IntKind.u64.wrap (4294967296 * x16_1)) + ((ji17) / 4294967296))))), (by first | rfl | (simp; done) | (simp only [← hji10, ← hji17] <;> (first | rfl | simp)) | (simp [*]; done)), H', ⟨by have := HK1.out; first | omega | exact Nat.le_refl _⟩, ⟨by repeat (first | (with_reducible first | exact HB.out | apply below_alloc | apply pw_below_drewN | apply below_drew1) | exact HB.out)⟩⟩
                    case rest =>
                      clear HC21
                      try clear c1
                      try clear c2
                      try clear p2
                      try clear c4
                      try clear c4b0
                      try clear c4b1
                      try clear c5
                      try clear c5b0
                      try clear c6
                      try clear c6b0
                      try clear c6b1
                      try clear c9
                      try clear c9b0
                      try clear c9b1
                      try clear c11
                      try clear c11b0
                      try clear c13
                      try clear c14
                      try clear c14b0
                      try clear c14b1
                      try clear c16
                      try clear c16b0
                      try clear c18
                      try clear c18b0
                      try clear c18b1
                      try clear c22
                      try clear c22b0
                      try clear p2
                      obtain ⟨kq, x78_20, rfl, HA, HJ20, HB⟩ := hcut
                      cases kq with
                      | zero => exact absurd HA.out (by simp [bits_Div64.j1])
                      | succ kj20 =>
                        have H := HA.out
                        clear HA
                        simp only [bits_Div64.j1] at H
                        by_cases c23 : x78_20 = true
                        · subst c23
                          have H1 : (if (IntKind.u64.wrap (x16_1 + ((ji10) / 4294967296))) ≥ 4294967296 then (bits_Div64.j2 kj20 ji10 ji8 ((ji10) / 4294967296) (Go.bits .and .u64 (ji10) 4294967295) (Go.bits .or .u64 (ji12) (ji15)) ((ji17) / 4294967296) (Go.bits .and .u64 (ji17) 4294967295) (IntKind.u64.wrap (x15_1 - 1))) else (bits_Div64.l0 kj20 ji10 ji8 ((ji10) / 4294967296) (Go.bits .and .u64 (ji10) 4294967295) (Go.bits .or .u64 (ji12) (ji15)) ((ji17) / 4294967296) (Go.bits .and .u64 (ji17) 4294967295) (IntKind.u64.wrap (x15_1 - 1)) (IntKind.u64.wrap (x16_1 + ((ji10) / 4294967296))))) = some (r1, r2) := by rw [if_pos rfl] at H; exact H
                          clear H
                          have H := H1
                          clear H1
                          by_cases c24 : (IntKind.u64.wrap (x16_1 + ((ji10) / 4294967296))) ≥ 4294967296
                          · rw [if_pos c24] at H
                            have c24b0 : decide (4294967296 ≤ (IntKind.u64.wrap (x16_1 + ((ji10) / 4294967296)))) = true := decide_eq_true c24
                            clear c24
                            have H' := Aside0.mk H
                            clear H
                            go_wp2
                            repeat (go_quiet (fail); try go_wp2)
                            go_meet
                            case rel => exact ⟨_, (IntKind.u64.wrap (x15_1 - 1)), (by first | rfl | (simp; done) | (simp [*]; done)), H', ⟨by have := HK1.out; have := HJ20.out; first | omega | exact Nat.le_refl _⟩, ⟨by repeat (first | (with_reducible first | exact HB.out | apply below_alloc | apply pw_below_drewN | apply below_drew1) | exact HB.out)⟩⟩
                          · rw [if_neg c24] at H
                            have c24b0 : decide (4294967296 ≤ (IntKind.u64.wrap (x16_1 + ((ji10) / 4294967296)))) = false := decide_eq_false c24
                            clear c24
                            have H' := Aside0.mk H
                            clear H
                            go_wp2
                            repeat (go_quiet (fail); try go_wp2)
                            go_roundg kj20
                            case measure => have := HK1.out; have := HJ20.out; omega
                            case rel => exact ⟨(IntKind.u64.wrap (x15_1 - 1)), (IntKind.u64.wrap (x16_1 + ((ji10) / 4294967296))), (by first | rfl | (simp; done) | (simp [*]; done)), (by first | rfl | (simp; done) | (simp only [← hji10] <;> (first | rfl | simp)) | (simp [*]; done)), H', ⟨by have := HK1.out; have := HJ20.out; omega⟩, ⟨by repeat (first | (with_reducible first | exact HB.out | apply below_alloc | apply pw_below_drewN | apply below_drew1) | exact HB.out)⟩⟩
                        · replace c23 := Bool.eq_false_iff.mpr c23
                          subst c23
                          have H1 : (bits_Div64.j2 kj20 ji10 ji8 ((ji10) / 4294967296) (Go.bits .and .u64 (ji10) 4294967295) (Go.bits .or .u64 (ji12) (ji15)) ((ji17) / 4294967296) (Go.bits .and .u64 (ji17) 4294967295) x15_1) = some (r1, r2) := by rw [if_neg (show ¬ (false = true) by decide)] at H; exact H
                          clear H
                          have H := H1
                          clear H1
                          have H' := Aside0.mk H
                          clear H
                          go_wp2
                          repeat (go_quiet (fail); try go_wp2)
                          go_meet
                          case rel => exact ⟨_, (x15_1), (by first | rfl | (simp; done) | (simp [*]; done)), H', ⟨by have := HK1.out; have := HJ20.out; first | omega | exact Nat.le_refl _⟩, ⟨by repeat (first | (with_reducible first | exact HB.out | apply below_alloc | apply pw_below_drewN | apply below_drew1) | exact HB.out)⟩⟩
              case rest =>
                clear HC19
                try clear c1
                try clear c2
                try clear p2
                try clear c4
                try clear c4b0
                try clear c4b1
                try clear c5
                try clear c5b0
                try clear c6
                try clear c6b0
                try clear c6b1
                try clear c9
                try clear c9b0
                try clear c9b1
                try clear c11
                try clear c11b0
                try clear c13
                try clear c14
                try clear c14b0
                try clear c14b1
                try clear c16
                try clear c16b0
                try clear c18
                try clear c18b0
                try clear c18b1
                try clear c22
                try clear c22b0
                try clear c23
                try clear c24
                try clear c24b0
                try clear p2
                obtain ⟨kq, x15_18, rfl, HA, HJ18, HB⟩ := hcut
                cases kq with
                | zero => exact absurd HA.out (by simp [bits_Div64.j2])
                | succ kj18 =>
                  have H := HA.out
                  clear HA
                  simp only [bits_Div64.j2] at H
                  by_cases c25 : ((ji10) / 4294967296) = 0
                  · rw [if_pos c25] at H
                    exact absurd H (by simp)
                  · rw [if_neg c25] at H
                    have c25b0 : (((ji10) / 4294967296) == 0) = false := beq_eq_false_iff_ne.mpr c25
                    have c25b1 : (((ji10) / 4294967296) != 0) = true := bne_iff_ne.mpr c25
                    have H' := Aside0.mk H
                    clear H
                    go_wp2
                    repeat (go_quiet (fail); try go_wp2)
                    go_loopg [16, 18] kj18 (fun kq v16 v18 w' => ∃ (x16_2 : Int) (x18_2 : Int), v16 = .int .u64 x16_2 ∧ v18 = .int .u64 x18_2 ∧ Aside0 (bits_Div64.l1 kq ji10 ji8 ((ji10) / 4294967296) (Go.bits .and .u64 (ji10) 4294967295) (Go.bits .and .u64 (ji17) 4294967295) x15_18 x16_2 (IntKind.u64.wrap ((IntKind.u64.wrap ((IntKind.u64.wrap ((Go.bits .or .u64 (ji12) (ji15)) * 4294967296)) + ((ji17) / 4294967296))) - (IntKind.u64.wrap (x15_18 * ji10)))) x18_2 = some (r1, r2)) ∧ Aside0 (kq ≤ kj18) ∧ Aside0 (Below w.heap.size w w'))
                    case atStart => exact ⟨(IntKind.u64.wrap ((IntKind.u64.wrap ((IntKind.u64.wrap ((IntKind.u64.wrap ((Go.bits .or .u64 (ji12) (ji15)) * 4294967296)) + ((ji17) / 4294967296))) - (IntKind.u64.wrap (x15_18 * ji10)))) - (IntKind.u64.wrap ((IntKind.u64.wrap (Int.tdiv (IntKind.u64.wrap ((IntKind.u64.wrap ((IntKind.u64.wrap ((Go.bits .or .u64 (ji12) (ji15)) * 4294967296)) + ((ji17) / 4294967296))) - (IntKind.u64.wrap (x15_18 * ji10)))) ((ji10) / 4294967296))) * ((ji10) / 4294967296))))), (IntKind.u64.wrap (Int.tdiv (IntKind.u64.wrap ((IntKind.u64.wrap ((IntKind.u64.wrap ((Go.bits .or .u64 (ji12) (ji15)) * 4294967296)) + ((ji17) / 4294967296))) - (IntKind.u64.wrap (x15_18 * ji10)))) ((ji10) / 4294967296))), (by first | rfl | (simp; done) | (simp only [← hji10, ← hji12, ← hji15, ← hji17] <;> (first | rfl | simp)) | (simp [*]; done)), (by first | rfl | (simp; done) | (simp only [← hji10, ← hji12, ← hji15, ← hji17] <;> (first | rfl | simp)) | (simp [*]; done)), H', ⟨Nat.le_refl _⟩, ⟨by repeat (first | (with_reducible first | exact HB.out | apply below_alloc | apply pw_below_drewN | apply below_drew1) | exact HB.out)⟩⟩
                    case round =>
                      clear H'
                      try clear c1
                      try clear c2
                      try clear p2
                      try clear c4
                      try clear c4b0
                      try clear c4b1
                      try clear c5
                      try clear c5b0
                      try clear c6
                      try clear c6b0
                      try clear c6b1
                      try clear c9
                      try clear c9b0
                      try clear c9b1
                      try clear c11
                      try clear c11b0
                      try clear c13
                      try clear c14
                      try clear c14b0
                      try clear c14b1
                      try clear c16
                      try clear c16b0
                      try clear c18
                      try clear c18b0
                      try clear c18b1
                      try clear c22
                      try clear c22b0
                      try clear c23
                      try clear c24
                      try clear c24b0
                      try clear c25
                      try clear c25b0
                      try clear c25b1
                      try clear p2
                      obtain ⟨x16_2, x18_2, rfl, rfl, HA, HK2, HB⟩ := hrel
                      cases gk with
                      | zero => exact absurd HA.out (by simp [bits_Div64.l1])
                      | succ k2 =>
                        have H := HA.out
                        clear HA
                        simp only [bits_Div64.l1] at H
                        have HC26 := Aside0.mk H
                        clear H
                        go_upto_region 24 with (fail)
                        repeat (go_quiet (fail); go_upto_region 24 with (fail))
                        go_cut [113] (fun v113 wc => ∃ (kq : Nat) (x113_25 : Bool), v113 = .bool x113_25 ∧ Aside0 (bits_Div64.j4 kq ji10 ji8 ((ji10) / 4294967296) (Go.bits .and .u64 (ji10) 4294967295) (Go.bits .and .u64 (ji17) 4294967295) x15_18 x16_2 (IntKind.u64.wrap ((IntKind.u64.wrap ((IntKind.u64.wrap ((Go.bits .or .u64 (ji12) (ji15)) * 4294967296)) + ((ji17) / 4294967296))) - (IntKind.u64.wrap (x15_18 * ji10)))) x18_2 x113_25 = some (r1, r2)) ∧ Aside0 (kq ≤ k2) ∧ Aside0 (Below w.heap.size w wc))
                        case first =>
                          have H := HC26.out
                          clear HC26
                          by_cases c27 : x18_2 ≥ 4294967296
                          · rw [if_pos c27] at H
                            have c27b0 : decide (4294967296 ≤ x18_2) = true := decide_eq_true c27
                            clear c27
                            (first | rw [c27b0] | (simp only [i64_w, i32_w]; rw [c27b0]) | skip)
                            have H' := Aside0.mk H
                            clear H
                            go_wp2
                            repeat (go_quiet (fail); try go_wp2)
                            go_meet
                            case rel => exact ⟨_, (true), (by first | rfl | (simp; done) | (simp [*]; done)), H', ⟨by have := HJ18.out; have := HK2.out; first | omega | exact Nat.le_refl _⟩, ⟨by repeat (first | (with_reducible first | exact HB.out | apply below_alloc | apply pw_below_drewN | apply below_drew1) | exact HB.out)⟩⟩
                          · rw [if_neg c27] at H
                            have c27b0 : decide (4294967296 ≤ x18_2) = false := decide_eq_false c27
                            clear c27
                            (first | rw [c27b0] | (simp only [i64_w, i32_w]; rw [c27b0]) | skip)
                            have H' := Aside0.mk H
                            clear H
                            go_wp2
                            repeat (go_quiet (fail); try go_wp2)
                            go_meet
                            case rel => exact ⟨_, (decide ((IntKind.u64.wrap (x18_2 * (Go.bits .and .u64 (ji10) 4294967295))) > (IntKind.u64.wrap ((IntKind.u64.wrap (4294967296 * x16_2)) + (Go.bits .and .u64 (ji17) 4294967295))))), (by first | rfl | (simp; done) | (simp only [← hji10, ← hji17] <;> (first | rfl | simp)) | (simp [*]; done)), H', ⟨by have := HJ18.out; have := HK2.out; first | omega | exact Nat.le_refl _⟩, ⟨by repeat (first | (with_reducible first | exact HB.out | apply below_alloc | apply pw_below_drewN | apply below_drew1) | exact HB.out)⟩⟩
                        case rest =>
                          clear HC26
                          try clear c1
                          try clear c2
                          try clear p2
                          try clear c4
                          try clear c4b0
                          try clear c4b1
                          try clear c5
                          try clear c5b0
                          try clear c6
                          try clear c6b0
                          try clear c6b1
                          try clear c9
                          try clear c9b0
                          try clear c9b1
                          try clear c11
                          try clear c11b0
                          try clear c13
                          try clear c14
                          try clear c14b0
                          try clear c14b1
                          try clear c16
                          try clear c16b0
                          try clear c18
                          try clear c18b0
                          try clear c18b1
                          try clear c22
                          try clear c22b0
                          try clear c23
                          try clear c24
                          try clear c24b0
                          try clear c25
                          try clear c25b0
                          try clear c25b1
                          try clear c27
                          try clear c27b0
                          try clear p2
                          obtain ⟨kq, x113_25, rfl, HA, HJ25, HB⟩ := hcut
                          cases kq with
                          | zero => exact absurd HA.out (by simp [bits_Div64.j4])
                          | succ kj25 =>
                            have H := HA.out
                            clear HA
                            simp only [bits_Div64.j4] at H
                            by_cases c28 : x113_25 = true
                            · subst c28
                              have H1 : (if (IntKind.u64.wrap (x16_2 + ((ji10) / 4294967296))) ≥ 4294967296 then (if 0 ≤ ji8 then (some (IntKind.u64.wrap ((IntKind.u64.wrap (x15_18 * 4294967296)) + (IntKind.u64.wrap (x18_2 - 1))), shr .u64 (IntKind.u64.wrap ((IntKind.u64.wrap ((IntKind.u64.wrap ((IntKind.u64.wrap ((IntKind.u64.wrap ((IntKind.u64.wrap ((Go.bits .or .u64 (ji12) (ji15)) * 4294967296)) + ((ji17) / 4294967296))) - (IntKind.u64.wrap (x15_18 * ji10)))) * 4294967296)) + (Go.bits .and .u64 (ji17) 4294967295))) - (IntKind.u64.wrap ((IntKind.u64.wrap (x18_2 - 1)) * ji10)))) ji8)) else (none)) else (bits_Div64.l1 kj25 ji10 ji8 ((ji10) / 4294967296) (Go.bits .and .u64 (ji10) 4294967295) (Go.bits .and .u64 (ji17) 4294967295) x15_18 (IntKind.u64.wrap (x16_2 + ((ji10) / 4294967296))) (IntKind.u64.wrap ((IntKind.u64.wrap ((IntKind.u64.wrap ((Go.bits .or .u64 (ji12) (ji15)) * 4294967296)) + ((ji17) / 4294967296))) - (IntKind.u64.wrap (x15_18 * ji10)))) (IntKind.u64.wrap (x18_2 - 1)))) = some (r1, r2) := by rw [if_pos rfl] at H; exact H
                              clear H
                              have H := H1
                              clear H1
                              by_cases c29 : (IntKind.u64.wrap (x16_2 + ((ji10) / 4294967296))) ≥ 4294967296
                              · rw [if_pos c29] at H
                                have c29b0 : decide (4294967296 ≤ (IntKind.u64.wrap (x16_2 + ((ji10) / 4294967296)))) = true := decide_eq_true c29
                                clear c29
                                by_cases c30 : 0 ≤ ji8
                                · rw [if_pos c30] at H
                                  have c30b0 := eq_true c30
                                  have c30b1 : decide (0 ≤ ji8) = true := decide_eq_true c30
                                  clear c30
                                  obtain ⟨ji31, hji31⟩ : ∃ j_ : Int, (shr .u64 (IntKind.u64.wrap ((IntKind.u64.wrap ((IntKind.u64.wrap ((IntKind.u64.wrap ((IntKind.u64.wrap ((IntKind.u64.wrap ((Go.bits .or .u64 (ji12) (ji15)) * 4294967296)) + ((ji17) / 4294967296))) - (IntKind.u64.wrap (x15_18 * ji10)))) * 4294967296)) + (Go.bits .and .u64 (ji17) 4294967295))) - (IntKind.u64.wrap ((IntKind.u64.wrap (x18_2 - 1)) * ji10)))) ji8) = j_ := ⟨_, rfl⟩
                                  replace H : (some (IntKind.u64.wrap ((IntKind.u64.wrap (x15_18 * 4294967296)) + (IntKind.u64.wrap (x18_2 - 1))), ji31)) = some (r1, r2) := by first | (rw [hji31] at H; exact H) | (simp only [hji31] at H ⊢; exact H)
                                  have hji31_ : ((IntKind.u64.wrap ((IntKind.u64.wrap ((IntKind.u64.wrap ((IntKind.u64.wrap ((IntKind.u64.wrap ((IntKind.u64.wrap ((Go.bits .or .u64 (ji12) (ji15)) * 4294967296)) + ((ji17) / 4294967296))) - (IntKind.u64.wrap (x15_18 * ji10)))) * 4294967296)) + (Go.bits .and .u64 (ji17) 4294967295))) - (IntKind.u64.wrap ((IntKind.u64.wrap (x18_2 - 1)) * ji10)))) / 2 ^ min ji8.toNat 64) = ji31 := hji31
                                  have hji31z : ji8 ≤ 64 → ((IntKind.u64.wrap ((IntKind.u64.wrap ((IntKind.u64.wrap ((IntKind.u64.wrap ((IntKind.u64.wrap ((IntKind.u64.wrap ((Go.bits .or .u64 (ji12) (ji15)) * 4294967296)) + ((ji17) / 4294967296))) - (IntKind.u64.wrap (x15_18 * ji10)))) * 4294967296)) + (Go.bits .and .u64 (ji17) 4294967295))) - (IntKind.u64.wrap ((IntKind.u64.wrap (x18_2 - 1)) * ji10)))) / 2 ^ ji8.toNat) = ji31 := shr_small hji31
                                  simp only [Option.some.injEq, Prod.mk.injEq] at H
                                  obtain ⟨rfl, rfl⟩ := H
                                  go_wp2
                                  repeat (go_quiet (fail); try go_wp2)
                                  go_ret2
                                  exact ⟨by first | rfl | (simp [errW_none, errW_some] <;> rfl) | (simp only [← hji8, ← hji10, ← hji12, ← hji13, ← hji15, ← hji17, ← hji31]; first | rfl | (simp [errW_none, errW_some] <;> rfl)) | (simp [*, errW_none, errW_some] <;> rfl), by repeat (first | (with_reducible first | exact HB.out | apply below_alloc | apply pw_below_drewN | apply below_drew1) | exact HB.out)⟩
                                · rw [if_neg c30] at H
                                  exact absurd H (by simp)
                              · rw [if_neg c29] at H
                                have c29b0 : decide (4294967296 ≤ (IntKind.u64.wrap (x16_2 + ((ji10) / 4294967296)))) = false := decide_eq_false c29
                                clear c29
                                have H' := Aside0.mk H
                                clear H
                                go_wp2
                                repeat (go_quiet (fail); try go_wp2)
                                go_roundg kj25
                                case measure => have := HJ18.out; have := HK2.out; have := HJ25.out; omega
                                case rel => exact ⟨(IntKind.u64.wrap (x16_2 + ((ji10) / 4294967296))), (IntKind.u64.wrap (x18_2 - 1)), (by first | rfl | (simp; done) | (simp only [← hji10] <;> (first | rfl | simp)) | (simp [*]; done)), (by first | rfl | (simp; done) | (simp [*]; done)), H', ⟨by have := HJ18.out; have := HK2.out; have := HJ25.out; omega⟩, ⟨by repeat (first | (with_reducible first | exact HB.out | apply below_alloc | apply pw_below_drewN | apply below_drew1) | exact HB.out)⟩⟩
                            · replace c28 := Bool.eq_false_iff.mpr c28
                              subst c28
                              have H1 : (if 0 ≤ ji8 then (some (IntKind.u64.wrap ((IntKind.u64.wrap (x15_18 * 4294967296)) + x18_2), shr .u64 (IntKind.u64.wrap ((IntKind.u64.wrap ((IntKind.u64.wrap ((IntKind.u64.wrap ((IntKind.u64.wrap ((IntKind.u64.wrap ((Go.bits .or .u64 (ji12) (ji15)) * 4294967296)) + ((ji17) / 4294967296))) - (IntKind.u64.wrap (x15_18 * ji10)))) * 4294967296)) + (Go.bits .and .u64 (ji17) 4294967295))) - (IntKind.u64.wrap (x18_2 * ji10)))) ji8)) else (none)) = some (r1, r2) := by rw [if_neg (show ¬ (false = true) by decide)] at H; exact H
                              clear H
                              have H := H1
                              clear H1
                              by_cases c32 : 0 ≤ ji8
                              · rw [if_pos c32] at H
                                have c32b0 := eq_true c32
                                have c32b1 : decide (0 ≤ ji8) = true := decide_eq_true c32
                                clear c32
                                obtain ⟨ji33, hji33⟩ : ∃ j_ : Int, (shr .u64 (IntKind.u64.wrap ((IntKind.u64.wrap ((IntKind.u64.wrap ((IntKind.u64.wrap ((IntKind.u64.wrap ((IntKind.u64.wrap ((Go.bits .or .u64 (ji12) (ji15)) * 4294967296)) + ((ji17) / 4294967296))) - (IntKind.u64.wrap (x15_18 * ji10)))) * 4294967296)) + (Go.bits .and .u64 (ji17) 4294967295))) - (IntKind.u64.wrap (x18_2 * ji10)))) ji8) = j_ := ⟨_, rfl⟩
                                replace H : (some (IntKind.u64.wrap ((IntKind.u64.wrap (x15_18 * 4294967296)) + x18_2), ji33)) = some (r1, r2) := by first | (rw [hji33] at H; exact H) | (simp only [hji33] at H ⊢; exact H)
                                have hji33_ : ((IntKind.u64.wrap ((IntKind.u64.wrap ((IntKind.u64.wrap ((IntKind.u64.wrap ((IntKind.u64.wrap ((IntKind.u64.wrap ((Go.bits .or .u64 (ji12) (ji15)) * 4294967296)) + ((ji17) / 4294967296))) - (IntKind.u64.wrap (x15_18 * ji10)))) * 4294967296)) + (Go.bits .and .u64 (ji17) 4294967295))) - (IntKind.u64.wrap (x18_2 * ji10)))) / 2 ^ min ji8.toNat 64) = ji33 := hji33
                                have hji33z : ji8 ≤ 64 → ((IntKind.u64.wrap ((IntKind.u64.wrap ((IntKind.u64.wrap ((IntKind.u64.wrap ((IntKind.u64.wrap ((IntKind.u64.wrap ((Go.bits .or .u64 (ji12) (ji15)) * 4294967296)) + ((ji17) / 4294967296))) - (IntKind.u64.wrap (x15_18 * ji10)))) * 4294967296)) + (Go.bits .and .u64 (ji17) 4294967295))) - (IntKind.u64.wrap (x18_2 * ji10)))) / 2 ^ ji8.toNat) = ji33 := shr_small hji33
                                simp only [Option.some.injEq, Prod.mk.injEq] at H
                                obtain ⟨rfl, rfl⟩ := H
                                go_wp2
                                repeat (go_quiet (fail); try go_wp2)
                                go_ret2
                                exact ⟨by first | rfl | (simp [errW_none, errW_some] <;> rfl) | (simp only [← hji8, ← hji10, ← hji12, ← hji13, ← hji15, ← hji17, ← hji33]; first | rfl | (simp [errW_none, errW_some] <;> rfl)) | (simp [*, errW_none, errW_some] <;> rfl), by repeat (first | (with_reducible first | exact HB.out | apply below_alloc | apply pw_below_drewN | apply below_drew1) | exact HB.out)⟩
                              · rw [if_neg c32] at H
                                exact absurd H (by simp)
          · rw [if_neg c14] at H
            exact absurd H (by simp)
        · rw [if_neg c9] at H
          exact absurd H (by simp)

/-! ### divide_shifted: function 134 -/
def divide_shifted.f (a0_0 : Int) (a0_1 : Int) (a1 : Int) : Option (Int × Int) := if 0 ≤ a1 then (if 0 ≤ (wrap64 (64 - a1)) then (some (Go.bits .or .u64 (shl .u64 a0_0 a1) (shr .u64 a0_1 (wrap64 (64 - a1))), shl .u64 a0_1 a1)) else (none)) else (none)
def divide_shifted.T1 : Bool × List (List Nat × List Nat) := (true, [([], []), ([0], [0]), ([], []), ([1, 2], [1, 2]), ([], []), ([4], [4]), ([], []), ([6], [6]), ([5, 7], [5, 7]), ([3, 8], [3, 8]), ([], []), ([10], [10]), ([], []), ([11, 12], [11, 12]), ([9, 13], [9, 13]), ([14, 0, 1, 2, 3, 4, 5, 6, 7, 8, 9, 10, 11, 12, 13, 14], [14])])
def divide_shifted.B1 : List Nat := [0, 1, 0, 7, 0, 16, 0, 64, 240, 511, 0, 1024, 0, 7168, 16383, 32767]
theorem divide_shifted.tab1 : rtab .any (opsOf Try.f134 1) = divide_shifted.T1 := by kernel_rfl
theorem divide_shifted.bits1 : waitsOk divide_shifted.T1.2 divide_shifted.B1 = true := by kernel_rfl
set_option maxHeartbeats 8000000 in
set_option maxRecDepth 100000 in
theorem divide_shifted.calls (a0_0 : Int) (a0_1 : Int) (a1 : Int) (r1 : Int) (r2 : Int) (w : World) (h : divide_shifted.f a0_0 a0_1 a1 = some (r1, r2)) :
    Calls Try.prog 134 #[.agg #[.int .u64 a0_0, .int .u64 a0_1], .int .i64 a1] w fun e w' => e = .returned (.agg #[.int .u64 r1, .int .u64 r2]) ∧ Below w.heap.size w w' := by
  have hu35 := Try.underlying35
  have HB := Aside0.mk (Below.refl w.heap.size w)
  have H : (if 0 ≤ a1 then (if 0 ≤ (wrap64 (64 - a1)) then (some (Go.bits .or .u64 (shl .u64 a0_0 a1) (shr .u64 a0_1 (wrap64 (64 - a1))), shl .u64 a0_1 a1)) else (none)) else (none)) = some (r1, r2) := h
  clear h
  by_cases c3 : 0 ≤ a1
  · rw [if_pos c3] at H
    have c3b0 := eq_true c3
    have c3b1 : decide (0 ≤ a1) = true := decide_eq_true c3
    clear c3
    obtain ⟨ji4, hji4⟩ : ∃ j_ : Int, (shl .u64 a0_0 a1) = j_ := ⟨_, rfl⟩
    replace H : (if 0 ≤ (wrap64 (64 - a1)) then (some (Go.bits .or .u64 (ji4) (shr .u64 a0_1 (wrap64 (64 - a1))), shl .u64 a0_1 a1)) else (none)) = some (r1, r2) := by first | (rw [hji4] at H; exact H) | (simp only [hji4] at H ⊢; exact H)
    have hji4_ : (IntKind.u64.wrap (a0_0 * 2 ^ min a1.toNat 64)) = ji4 := hji4
    have hji4z : a1 ≤ 64 → (IntKind.u64.wrap (a0_0 * 2 ^ a1.toNat)) = ji4 := shl_small hji4
    obtain ⟨ji5, hji5⟩ : ∃ j_ : Int, (wrap64 (64 - a1)) = j_ := ⟨_, rfl⟩
    replace H : (if 0 ≤ (ji5) then (some (Go.bits .or .u64 (ji4) (shr .u64 a0_1 (ji5)), shl .u64 a0_1 a1)) else (none)) = some (r1, r2) := by first | (rw [hji5] at H; exact H) | (simp only [hji5] at H ⊢; exact H)
    have hji5w : (IntKind.i64.wrap (64 - a1)) = ji5 := (i64_w _).trans hji5
    by_cases c6 : 0 ≤ (ji5)
    · rw [if_pos c6] at H
      have c6b0 := eq_true c6
      have c6b1 : decide (0 ≤ (ji5)) = true := decide_eq_true c6
      clear c6
      obtain ⟨ji7, hji7⟩ : ∃ j_ : Int, (shr .u64 a0_1 (ji5)) = j_ := ⟨_, rfl⟩
      replace H : (some (Go.bits .or .u64 (ji4) (ji7), shl .u64 a0_1 a1)) = some (r1, r2) := by first | (rw [hji7] at H; exact H) | (simp only [hji7] at H ⊢; exact H)
      have hji7_ : (a0_1 / 2 ^ min (ji5).toNat 64) = ji7 := hji7
      have hji7z : (ji5) ≤ 64 → (a0_1 / 2 ^ (ji5).toNat) = ji7 := shr_small hji7
      have c8b0 := eq_true (of_decide_eq_true (by first | (with_reducible assumption) | assumption) : 0 ≤ a1)
      obtain ⟨ji9, hji9⟩ : ∃ j_ : Int, (shl .u64 a0_1 a1) = j_ := ⟨_, rfl⟩
      replace H : (some (Go.bits .or .u64 (ji4) (ji7), ji9)) = some (r1, r2) := by first | (rw [hji9] at H; exact H) | (simp only [hji9] at H ⊢; exact H)
      have hji9_ : (IntKind.u64.wrap (a0_1 * 2 ^ min a1.toNat 64)) = ji9 := hji9
      have hji9z : a1 ≤ 64 → (IntKind.u64.wrap (a0_1 * 2 ^ a1.toNat)) = ji9 := shl_small hji9
      simp only [Option.some.injEq, Prod.mk.injEq] at H
      obtain ⟨rfl, rfl⟩ := H
      go_enter Try.func134, Try.ntmps134
      try go_wp2_with (first | ((with_reducible refine gate_dst (N := 2) rfl ?_); refine box_event ?hg (N := 2) ?hd (cs := #[.int .u64 a0_0, .int .u64 a0_1]) (t := 35) ?hr ?_; (case hd => rfl); (case hg => rfl); (case hr => first | (go_simp; done) | (go_simp; rfl)); intro gb102 hg w10 hbox hb; have n0_ := Aside0.mk (below_step (by repeat (first | (with_reducible first | exact HB.out | apply below_alloc | apply pw_below_drewN | apply below_drew1) | exact HB.out)) hb); have n1_ := Aside0.mk (hbox); have n2_ := Aside0.mk ((by rw [hg]; exact (below_size (by repeat (first | (with_reducible first | exact HB.out | apply below_alloc | apply pw_below_drewN | apply below_drew1) | exact HB.out))) : w.heap.size ≤ gb102)); have n3_ := Aside0.mk ((by rw [hg]; exact (below_size (by repeat (first | (with_reducible first | exact HB.out | apply below_alloc | apply pw_below_drewN | apply below_drew1) | exact HB.out))) : w.heap.size ≤ gb102)); clear HB; have HB := n0_; have BK102 := n1_; have GW102 := n2_; have GE102 := n3_; clear n0_ n1_ n2_ n3_; clear hb hbox hg) | ((with_reducible refine gate_dst (N := 4) rfl ?_); refine box_event ?hg (N := 4) ?hd (cs := #[.int .u64 0, .int .u64 0]) (t := 35) ?hr ?_; (case hd => rfl); (case hg => rfl); (case hr => first | (go_simp; done) | (go_simp; rfl)); intro gb103 hg w11 hbox hb; have n0_ := Aside0.mk (blk_below (g := gb102) (o := .cells #[.int .u64 a0_0, .int .u64 a0_1] 35 (0, 0)) (by (with_reducible repeat (first | refine blk_drewN ?_ _ | refine blk_drew ?_ | refine blk_alloc ?_ _)); exact BK102.out) hb); have n1_ := Aside0.mk (below_step (by repeat (first | (with_reducible first | exact HB.out | apply below_alloc | apply pw_below_drewN | apply below_drew1 | refine below_set ?_ GE102.out) | exact HB.out)) hb); have n2_ := Aside0.mk (hbox); have n3_ := Aside0.mk ((by rw [hg]; exact (below_size (by repeat (first | (with_reducible first | exact HB.out | apply below_alloc | apply pw_below_drewN | apply below_drew1 | refine below_set ?_ GE102.out) | exact HB.out))) : w.heap.size ≤ gb103)); have n4_ := Aside0.mk ((by rw [hg]; exact (below_size (by repeat (first | (with_reducible first | exact HB.out | apply below_alloc | apply pw_below_drewN | apply below_drew1 | refine below_set ?_ GE102.out) | exact HB.out))) : w.heap.size ≤ gb103)); have n5_ := Aside0.mk ((by rw [hg]; exact Nat.ne_of_lt (blk_lt (g := gb102) (o := .cells #[.int .u64 a0_0, .int .u64 a0_1] 35 (0, 0)) (by (with_reducible repeat (first | refine blk_drewN ?_ _ | refine blk_drew ?_ | refine blk_alloc ?_ _)); exact BK102.out)) : gb102 ≠ gb103)); have n6_ := Aside0.mk ((by rw [hg]; exact Nat.ne_of_gt (blk_lt (g := gb102) (o := .cells #[.int .u64 a0_0, .int .u64 a0_1] 35 (0, 0)) (by (with_reducible repeat (first | refine blk_drewN ?_ _ | refine blk_drew ?_ | refine blk_alloc ?_ _)); exact BK102.out)) : gb103 ≠ gb102)); clear BK102; clear HB; have BK102 := n0_; have HB := n1_; have BK103 := n2_; have GW103 := n3_; have GE103 := n4_; have NB102_103 := n5_; have NB103_102 := n6_; clear n0_ n1_ n2_ n3_ n4_ n5_ n6_; clear hb hbox hg))
      have n0_ := Aside0.mk (blk_drew BK102.out)
      have n1_ := Aside0.mk (blk_drew BK103.out)
      have n2_ := Aside0.mk (below_drew1 HB.out)
      clear BK102
      clear BK103
      clear HB
      have BK102 := n0_
      have BK103 := n1_
      have HB := n2_
      clear n0_ n1_ n2_
      refine start_ (n := 16) (S := fun w' => w'.cell? ⟨gb102, 0, none⟩ = some (.int .u64 a0_0) ∧ w'.cell? ⟨gb102, 1, none⟩ = some (.int .u64 a0_1)) (ds := []) #[false, false, false, false, false, false, false, false, false, false, false, false, false, false, false, false] (by kernel_rfl) rfl rfl ⟨(blk_cell BK102.out 0).trans rfl, (blk_cell BK102.out 1).trans rfl⟩ (fun hHeld => ?_); refine with_tabW divide_shifted.tab1 divide_shifted.bits1 (fun HT_ HW_ => ?_)
      generalize w11.drew = w12 at BK102 BK103 HB hHeld ⊢
      refine pure_ (i := 0) (N := some 5) (v := ?_) (a' := ?_) #[true, false, false, false, false, false, false, false, false, false, false, false, false, false, false, false] rfl rfl (any_of HT_.out (by kernel_rfl)) (fun _ _ _ h => h) (Or.inl ⟨by rfl, ?_⟩) ?_ ?_
      rotate_left
      · intro w'
        go_simp
        with_reducible rfl
      rotate_left
      · simp only [Act.put, List.setIfInBounds_toArray, List.set_cons_zero, List.set_cons_succ, i64_w, i32_w]
        rfl
      refine pure_ (i := 2) (N := some 7) (v := ?_) (a' := ?_) #[true, false, true, false, false, false, false, false, false, false, false, false, false, false, false, false] rfl rfl (any_of HT_.out (by kernel_rfl)) (fun _ _ _ h => h) (Or.inl ⟨by rfl, ?_⟩) ?_ ?_
      rotate_left
      · intro w'
        go_simp
        with_reducible rfl
      rotate_left
      · simp only [Act.put, List.setIfInBounds_toArray, List.set_cons_zero, List.set_cons_succ, i64_w, i32_w]
        rfl
      refine pure_ (i := 4) (N := some 9) (v := ?_) (a' := ?_) #[true, false, true, false, true, false, false, false, false, false, false, false, false, false, false, false] rfl rfl (any_of HT_.out (by kernel_rfl)) (fun _ _ _ h => h) (Or.inl ⟨by rfl, ?_⟩) ?_ ?_
      rotate_left
      · intro w'
        go_simp
        with_reducible rfl
      rotate_left
      · simp only [Act.put, List.setIfInBounds_toArray, List.set_cons_zero, List.set_cons_succ, i64_w, i32_w]
        rfl
      refine pure_ (i := 6) (N := some 11) (v := ?_) (a' := ?_) #[true, false, true, false, true, false, true, false, false, false, false, false, false, false, false, false] rfl rfl (any_of HT_.out (by kernel_rfl)) (fun _ _ _ h => h) (Or.inl ⟨by rfl, ?_⟩) ?_ ?_
      rotate_left
      · intro w'
        go_simp
        with_reducible rfl
      rotate_left
      · simp only [Act.put, List.setIfInBounds_toArray, List.set_cons_zero, List.set_cons_succ, i64_w, i32_w]
        rfl
      refine pure_ (i := 7) (N := some 12) (v := ?_) (a' := ?_) #[true, false, true, false, true, false, true, true, false, false, false, false, false, false, false, false] rfl rfl (any_of HT_.out (by kernel_rfl)) (fun _ _ _ h => h) (Or.inl ⟨by rfl, ?_⟩) ?_ ?_
      rotate_left
      · intro w'
        go_simp
        with_reducible rfl
      rotate_left
      · simp only [Act.put, List.setIfInBounds_toArray, List.set_cons_zero, List.set_cons_succ, i64_w, i32_w]
        rfl
      refine pure_ (i := 10) (N := some 15) (v := ?_) (a' := ?_) #[true, false, true, false, true, false, true, true, false, false, true, false, false, false, false, false] rfl rfl (any_of HT_.out (by kernel_rfl)) (fun _ _ _ h => h) (Or.inl ⟨by rfl, ?_⟩) ?_ ?_
      rotate_left
      · intro w'
        go_simp
        with_reducible rfl
      rotate_left
      · simp only [Act.put, List.setIfInBounds_toArray, List.set_cons_zero, List.set_cons_succ, i64_w, i32_w]
        rfl
      refine pure_ (i := 12) (N := some 17) (v := ?_) (a' := ?_) #[true, false, true, false, true, false, true, true, false, false, true, false, true, false, false, false] rfl rfl (any_of HT_.out (by kernel_rfl)) (fun _ _ _ h => h) (Or.inl ⟨by rfl, ?_⟩) ?_ ?_
      rotate_left
      · intro w'
        go_simp
        with_reducible rfl
      rotate_left
      · simp only [Act.put, List.setIfInBounds_toArray, List.set_cons_zero, List.set_cons_succ, i64_w, i32_w]
        rfl
      refine take_ (i := 1) (N := some 6) (v := ?_) (a' := ?_) #[true, true, true, false, true, false, true, true, false, false, true, false, true, false, false, false] rfl rfl (take_ofW HT_.out HW_.out (by kernel_rfl)) (fun _ _ _ h => h) (Or.inl ⟨by rfl, ?_⟩) hHeld ?_ ?_
      rotate_left
      · rintro w' ⟨s0, s1⟩
        go_simp
        with_reducible rfl
      rotate_left
      · simp only [Act.put, List.setIfInBounds_toArray, List.set_cons_zero, List.set_cons_succ, i64_w, i32_w]
        rfl
      refine pure_ (i := 3) (N := some 8) (v := ?_) (a' := ?_) #[true, true, true, true, true, false, true, true, false, false, true, false, true, false, false, false] rfl rfl (any_of HT_.out (by kernel_rfl)) (fun _ _ _ h => h) (Or.inl ⟨by rfl, ?_⟩) ?_ ?_
      rotate_left
      · intro w'
        go_simp
        with_reducible rfl
      rotate_left
      · simp only [Act.put, List.setIfInBounds_toArray, List.set_cons_zero, List.set_cons_succ, i64_w, i32_w]
        rfl
      refine take_ (i := 5) (N := some 10) (v := ?_) (a' := ?_) #[true, true, true, true, true, true, true, true, false, false, true, false, true, false, false, false] rfl rfl (take_ofW HT_.out HW_.out (by kernel_rfl)) (fun _ _ _ h => h) (Or.inl ⟨by rfl, ?_⟩) hHeld ?_ ?_
      rotate_left
      · rintro w' ⟨s0, s1⟩
        go_simp
        with_reducible rfl
      rotate_left
      · simp only [Act.put, List.setIfInBounds_toArray, List.set_cons_zero, List.set_cons_succ, i64_w, i32_w]
        rfl
      refine pure_ (i := 8) (N := some 13) (v := ?_) (a' := ?_) #[true, true, true, true, true, true, true, true, true, false, true, false, true, false, false, false] rfl rfl (any_of HT_.out (by kernel_rfl)) (fun _ _ _ h => h) (Or.inl ⟨by rfl, ?_⟩) ?_ ?_
      rotate_left
      · intro w'
        go_simp
        with_reducible rfl
      rotate_left
      · simp only [Act.put, List.setIfInBounds_toArray, List.set_cons_zero, List.set_cons_succ, i64_w, i32_w]
        rfl
      refine pure_ (i := 9) (N := some 14) (v := ?_) (a' := ?_) #[true, true, true, true, true, true, true, true, true, true, true, false, true, false, false, false] rfl rfl (any_of HT_.out (by kernel_rfl)) (fun _ _ _ h => h) (Or.inl ⟨by rfl, ?_⟩) ?_ ?_
      rotate_left
      · intro w'
        go_simp
        with_reducible rfl
      rotate_left
      · simp only [Act.put, List.setIfInBounds_toArray, List.set_cons_zero, List.set_cons_succ, i64_w, i32_w]
        rfl
      refine take_ (i := 11) (N := some 16) (v := ?_) (a' := ?_) #[true, true, true, true, true, true, true, true, true, true, true, true, true, false, false, false] rfl rfl (take_ofW HT_.out HW_.out (by kernel_rfl)) (fun _ _ _ h => h) (Or.inl ⟨by rfl, ?_⟩) hHeld ?_ ?_
      rotate_left
      · rintro w' ⟨s0, s1⟩
        go_simp
        with_reducible rfl
      rotate_left
      · simp only [Act.put, List.setIfInBounds_toArray, List.set_cons_zero, List.set_cons_succ, i64_w, i32_w]
        rfl
      refine pure_ (i := 13) (N := some 18) (v := ?_) (a' := ?_) #[true, true, true, true, true, true, true, true, true, true, true, true, true, true, false, false] rfl rfl (any_of HT_.out (by kernel_rfl)) (fun _ _ _ h => h) (Or.inl ⟨by rfl, ?_⟩) ?_ ?_
      rotate_left
      · intro w'
        go_simp
        with_reducible rfl
      rotate_left
      · simp only [Act.put, List.setIfInBounds_toArray, List.set_cons_zero, List.set_cons_succ, i64_w, i32_w]
        rfl
      refine pure_ (i := 14) (N := some 19) (v := ?_) (a' := ?_) #[true, true, true, true, true, true, true, true, true, true, true, true, true, true, true, false] rfl rfl (any_of HT_.out (by kernel_rfl)) (fun _ _ _ h => h) (Or.inl ⟨by rfl, ?_⟩) ?_ ?_
      rotate_left
      · intro w'
        go_simp
        with_reducible rfl
      rotate_left
      · simp only [Act.put, List.setIfInBounds_toArray, List.set_cons_zero, List.set_cons_succ, i64_w, i32_w]
        rfl
      refine one_ (i := 15) (N := none) #[true, true, true, true, true, true, true, true, true, true, true, true, true, true, true, true] rfl rfl (one_of HT_.out (by kernel_rfl)) (by decide) (fun K hK => ?_)
      have hs13 : w12.cell? ⟨gb103, 0, none⟩ = some (.int .u64 0) := (blk_cell BK103.out 0).trans rfl
      have hfs13 := blk_frozen BK103.out 0
      have hns13_0 := NB102_103.out
      have hms13_0 := NB103_102.out
      have hs14 : w12.cell? ⟨gb103, 1, none⟩ = some (.int .u64 0) := (blk_cell BK103.out 1).trans rfl
      have hfs14 := blk_frozen BK103.out 1
      have hns14_0 := NB102_103.out
      have hms14_0 := NB103_102.out
      refine skip_ (w1 := ?_) (by rfl) rfl ?_ ?_
      rotate_left
      · go_simp
        rfl
      refine hK.out _ _ ⟨((cell_far (p := ⟨gb103, _, none⟩) NB102_103.out _).trans (((cell_far (p := ⟨gb103, _, none⟩) NB102_103.out _).trans (hHeld.1)))), ((cell_far (p := ⟨gb103, _, none⟩) NB102_103.out _).trans (((cell_far (p := ⟨gb103, _, none⟩) NB102_103.out _).trans (hHeld.2))))⟩ (fun hHeld => ?_)
      clear hK K
      refine done_ (done_of HT_.out (by kernel_rfl)) ?_
      try go_wp2
      refine bodyPost_ret (results_cell_row rfl _ _ gb103 35 #[.int .u64 (Go.bits .or .u64 (ji4) (ji7)), .int .u64 ji9] (0, 0) _ rfl (by (with_reducible repeat (first | refine blk_drewN ?_ _ | refine blk_drew ?_ | refine blk_alloc ?_ _)); refine blk_put (cs := #[.int .u64 (Go.bits .or .u64 (ji4) (ji7)), .int .u64 0]) ?_ 1 _ rfl; (with_reducible repeat (first | refine blk_drewN ?_ _ | refine blk_drew ?_ | refine blk_alloc ?_ _)); refine blk_put (cs := #[.int .u64 0, .int .u64 0]) ?_ 0 _ rfl; (with_reducible repeat (first | refine blk_drewN ?_ _ | refine blk_drew ?_ | refine blk_alloc ?_ _)); exact BK103.out) Try.underlying35 rfl (by kernel_rfl)) rfl ?_
      exact ⟨by first | rfl | (simp [errW_none, errW_some] <;> rfl) | (simp only [← hji4, ← hji5, ← hji7, ← hji9]; first | rfl | (simp [errW_none, errW_some] <;> rfl)) | (simp [*, errW_none, errW_some] <;> rfl), by repeat (first | (with_reducible first | exact HB.out | apply below_alloc | apply pw_below_drewN | apply below_drew1 | refine below_set ?_ GE102.out | refine below_set ?_ GE103.out) | exact HB.out)⟩
    · rw [if_neg c6] at H
      exact absurd H (by simp)
  · rw [if_neg c3] at H
    exact absurd H (by simp)

end Go.Proofs.Ytkdfkpalgejkkaa.Pb
-- Written by a program (gprint.py) for this claim.
namespace Go.Proofs.Ytkdfkpalgejkkaa.Pb
open Go.RowKit Go.Proofs.Ytkdfkpalgejkkaa Go.Proofs.YtkdfkpalgejkkaaW.PrintWords Go.Proofs.YtkdfkpalgejkkaaW.PrintLast Go.Proofs.YtkdfkpalgejkkaaW.PrintMore
attribute [local go_sem] add64' sub64' max2_int min2_int max_two min_two max_three min_three max_four min_four   -- for this text's walks alone
set_option linter.unusedVariables false
set_option linter.unusedSimpArgs false

end Go.Proofs.Ytkdfkpalgejkkaa.Pb
/-
  bits.Div64: what it computes.
-/
set_option linter.unusedSimpArgs false
namespace Go.Proofs.Ytkdfkpalgejkkaa
open Go.RowKit Go.Shelf Go.Proofs.YtkdfkpalgejkkaaW.PrintWords Go.Proofs.YtkdfkpalgejkkaaW.PrintMore

/-! ### One digit of the quotient, estimated -/
theorem est_test {q r U u1 yn1 yn0 Y : Int} (hY : Y = yn1 * 4294967296 + yn0) (hU : q * yn1 + r = U) :
    q * yn0 > 4294967296 * r + u1 ↔ q * Y > U * 4294967296 + u1 := by
  subst hY; subst hU
  have e : q * (yn1 * 4294967296 + yn0) = q * yn1 * 4294967296 + q * yn0 := by grind
  rw [e]; omega
/-- The estimate is not less than the digit; it is the digit where the test is not met. -/
theorem est_ge {q Q N Y : Int} (hY : 0 < Y) (h1 : Q * Y ≤ N) (h : q * Y > N) : Q ≤ q - 1 := by
  have : Q * Y < q * Y := by omega
  have := Int.lt_of_mul_lt_mul_right this (by omega)
  omega
theorem est_le {q Q N Y : Int} (hY : 0 < Y) (h2 : N < (Q + 1) * Y) (h : ¬ q * Y > N) : q ≤ Q := by
  have : q * Y < (Q + 1) * Y := by omega
  have := Int.lt_of_mul_lt_mul_right this (by omega)
  omega
/-- Where the rest is no digit, the estimate is the digit. -/
theorem est_out {q r U u1 yn1 yn0 Y : Int} (hY : Y = yn1 * 4294967296 + yn0) (hU : q * yn1 + r = U) (hr : 4294967296 ≤ r) (h0 : 0 ≤ yn0) (h0' : yn0 < 4294967296)
    (hu : 0 ≤ u1) (hq : q ≤ 4294967296) : ¬ q * Y > U * 4294967296 + u1 := by
  rw [← est_test hY hU]
  have : q * yn0 ≤ 4294967296 * 4294967295 := by
    by_cases hn : 0 ≤ q
    · exact Int.mul_le_mul hq (by omega) h0 (by omega)
    · have := Int.mul_nonneg (show 0 ≤ -q by omega) h0
      rw [Int.neg_mul] at this
      omega
  omega
structure Est (U u1 yn1 yn0 Y Q : Int) : Prop where
  hY : Y = yn1 * 4294967296 + yn0
  hn1 : 2147483648 ≤ yn1
  hn1' : yn1 < 4294967296
  h0 : 0 ≤ yn0
  h0' : yn0 < 4294967296
  hU0 : 0 ≤ U
  hUY : U < Y
  hu : 0 ≤ u1
  hu' : u1 < 4294967296
  hQ : Q * Y ≤ U * 4294967296 + u1
  hQ' : U * 4294967296 + u1 < (Q + 1) * Y
namespace Est
variable {U u1 yn1 yn0 Y Q : Int} (E : Est U u1 yn1 yn0 Y Q)
include E
theorem Ypos : 0 < Y := by have := E.hY; have := E.hn1; have := E.h0; omega
theorem Qlt : Q < 4294967296 := by
  have : Q * Y < 4294967296 * Y := by have := E.hQ; have := E.hUY; have := E.hu'; omega
  exact Int.lt_of_mul_lt_mul_right this (by have := E.Ypos; omega)
theorem Q0 : 0 ≤ Q := by
  have : 0 * Y < (Q + 1) * Y := by have := E.hQ'; have := E.hU0; have := E.hu; omega
  have := Int.lt_of_mul_lt_mul_right this (by have := E.Ypos; omega)
  omega
theorem Uw : U < 18446744073709551616 := by have := E.hY; have := E.hn1'; have := E.h0'; have := E.hUY; omega
/-- The first estimate. -/
theorem start : U / yn1 * yn1 + U % yn1 = U ∧ 0 ≤ U % yn1 ∧ U % yn1 < 4294967296 ∧ Q ≤ U / yn1 ∧ U / yn1 ≤ 4294967297 := by
  have h1 := E.hn1
  have h2 := E.hn1'
  have e : U / yn1 * yn1 + U % yn1 = U := by have := Int.mul_ediv_add_emod U yn1; rw [Int.mul_comm]; exact this
  have a := Int.emod_nonneg U (show yn1 ≠ 0 by omega)
  have b := Int.emod_lt_of_pos U (show 0 < yn1 by omega)
  refine ⟨e, a, by omega, ?_, ?_⟩
  · rw [Int.le_ediv_iff_mul_le (by omega)]
    have q0 := E.Q0
    have k : Q * (yn1 * 4294967296) ≤ U * 4294967296 + u1 := by
      have h := E.hQ
      have : 0 ≤ Q * yn0 := Int.mul_nonneg q0 E.h0
      rw [E.hY, Int.mul_add] at h
      omega
    have := E.hu'
    rw [← Int.mul_assoc] at k
    omega
  · have : U / yn1 < 4294967298 := by
      rw [Int.ediv_lt_iff_lt_mul (by omega)]
      have := E.hY; have := E.h0'; have := E.hUY
      omega
    omega
end Est
/-- What is tested, in machine words. -/
theorem test_words {q r u1 yn0 : Int} (hq0 : 0 ≤ q) (hq : q < 4294967296) (hr0 : 0 ≤ r) (hr : r < 4294967296) (h0 : 0 ≤ yn0) (h0' : yn0 < 4294967296) (hu : 0 ≤ u1) (hu' : u1 < 4294967296) :
    decide (IntKind.u64.wrap (q * yn0) > IntKind.u64.wrap (IntKind.u64.wrap (4294967296 * r) + u1)) = decide (q * yn0 > 4294967296 * r + u1) := by
  have h1 : 0 ≤ q * yn0 := Int.mul_nonneg hq0 h0
  have h2 : q * yn0 ≤ 4294967295 * 4294967295 := Int.mul_le_mul (by omega) (by omega) h0 (by omega)
  simp only [IntKind.wrap_u64]
  apply decide_eq_decide.2
  omega

theorem div64_l0 {U u1 yn1 yn0 Y Q : Int} (E : Est U u1 yn1 yn0 Y Q) (x8 x14 : Int) : ∀ (m k : Nat) (q r : Int), q * yn1 + r = U → Q ≤ q → q ≤ 4294967297 → 0 ≤ r → r < 4294967296 → 4294967296 ≤ r + m * yn1 →
    ∃ j, k ≤ j ∧ Pb.bits_Div64.l0 (k + 2 * m) Y x8 yn1 yn0 U u1 x14 q r = Pb.bits_Div64.j2 j Y x8 yn1 yn0 U u1 x14 Q
  | 0, k, q, r, _, _, _, _, h, h' => by exfalso; simp at h'; omega
  | m + 1, k, q, r, hU, hq, hq', hr0, hr, hm => by
    have n1 := E.hn1
    have n2 := E.hn1'
    have q0 := E.Q0
    have ql := E.Qlt
    have goes : q * Y > U * 4294967296 + u1 → ∃ j, k ≤ j ∧ Pb.bits_Div64.j1 (k + 2 * m + 1) Y x8 yn1 yn0 U u1 x14 q r true = Pb.bits_Div64.j2 j Y x8 yn1 yn0 U u1 x14 Q := by
      intro hgt
      have h1 := est_ge E.Ypos E.hQ hgt
      have hU2 : (q - 1) * yn1 + (r + yn1) = U := by rw [Int.sub_mul]; omega
      have e1 : IntKind.u64.wrap (r + yn1) = r + yn1 := by rw [IntKind.wrap_u64]; omega
      have e2 : IntKind.u64.wrap (q - 1) = q - 1 := by rw [IntKind.wrap_u64]; omega
      simp only [Pb.bits_Div64.j1, if_true, e1, e2]
      split
      · rename_i hge
        have h2 := est_le E.Ypos E.hQ' (est_out E.hY hU2 hge E.h0 E.h0' E.hu (by omega))
        have : q - 1 = Q := by omega
        exact ⟨k + 2 * m, by omega, by rw [this]⟩
      · rename_i hge
        have hm' : 4294967296 ≤ r + yn1 + (m : Int) * yn1 := by
          have : ((m + 1 : Nat) : Int) * yn1 = (m : Int) * yn1 + yn1 := by rw [Int.natCast_add, Int.add_mul]; simp
          omega
        exact div64_l0 E x8 x14 m k (q - 1) (r + yn1) hU2 h1 (by omega) (by omega) (by omega) hm'
    show ∃ j, k ≤ j ∧ Pb.bits_Div64.l0 (k + 2 * m + 1 + 1) Y x8 yn1 yn0 U u1 x14 q r = _
    simp only [Pb.bits_Div64.l0]
    split
    · rename_i hb
      refine goes ?_
      have : (Q + 1) * Y ≤ q * Y := Int.mul_le_mul_of_nonneg_right (by omega) (by have := E.Ypos; omega)
      have := E.hQ'
      omega
    · rename_i hb
      rw [test_words (by omega) (by omega) hr0 hr E.h0 E.h0' E.hu E.hu', decide_eq_decide.2 (est_test E.hY hU)]
      by_cases ht : q * Y > U * 4294967296 + u1
      · rw [decide_eq_true ht]; exact goes ht
      · rw [decide_eq_false ht]
        have h2 := est_le E.Ypos E.hQ' ht
        have : q = Q := by omega
        subst this
        exact ⟨k + 2 * m, by omega, by simp only [Pb.bits_Div64.j1, Bool.false_eq_true, if_false]⟩

theorem div64_l1 {U u1 yn1 yn0 Y Q : Int} (E : Est U u1 yn1 yn0 Y Q) (x8 x15 : Int) (h8 : 0 ≤ x8) : ∀ (m k : Nat) (q r : Int), q * yn1 + r = U → Q ≤ q → q ≤ 4294967297 → 0 ≤ r → r < 4294967296 → 4294967296 ≤ r + m * yn1 →
    Pb.bits_Div64.l1 (k + 2 * m) Y x8 yn1 yn0 u1 x15 r U q = some (IntKind.u64.wrap (IntKind.u64.wrap (x15 * 4294967296) + Q), shr .u64 (IntKind.u64.wrap (IntKind.u64.wrap (IntKind.u64.wrap (U * 4294967296) + u1) - IntKind.u64.wrap (Q * Y))) x8)
  | 0, k, q, r, _, _, _, _, h, h' => by exfalso; simp at h'; omega
  | m + 1, k, q, r, hU, hq, hq', hr0, hr, hm => by
    have n1 := E.hn1
    have n2 := E.hn1'
    have q0 := E.Q0
    have ql := E.Qlt
    have goes : q * Y > U * 4294967296 + u1 → Pb.bits_Div64.j4 (k + 2 * m + 1) Y x8 yn1 yn0 u1 x15 r U q true = some (IntKind.u64.wrap (IntKind.u64.wrap (x15 * 4294967296) + Q), shr .u64 (IntKind.u64.wrap (IntKind.u64.wrap (IntKind.u64.wrap (U * 4294967296) + u1) - IntKind.u64.wrap (Q * Y))) x8) := by
      intro hgt
      have h1 := est_ge E.Ypos E.hQ hgt
      have hU2 : (q - 1) * yn1 + (r + yn1) = U := by rw [Int.sub_mul]; omega
      have e1 : IntKind.u64.wrap (r + yn1) = r + yn1 := by rw [IntKind.wrap_u64]; omega
      have e2 : IntKind.u64.wrap (q - 1) = q - 1 := by rw [IntKind.wrap_u64]; omega
      simp only [Pb.bits_Div64.j4, if_true, e1, e2]
      split
      · rename_i hge
        have h2 := est_le E.Ypos E.hQ' (est_out E.hY hU2 hge E.h0 E.h0' E.hu (by omega))
        have : q - 1 = Q := by omega
        first | rw [if_pos h8, this] | rw [this]
      · rename_i hge
        have hm' : 4294967296 ≤ r + yn1 + (m : Int) * yn1 := by
          have : ((m + 1 : Nat) : Int) * yn1 = (m : Int) * yn1 + yn1 := by rw [Int.natCast_add, Int.add_mul]; simp
          omega
        exact div64_l1 E x8 x15 h8 m k (q - 1) (r + yn1) hU2 h1 (by omega) (by omega) (by omega) hm'
    show Pb.bits_Div64.l1 (k + 2 * m + 1 + 1) Y x8 yn1 yn0 u1 x15 r U q = _
    simp only [Pb.bits_Div64.l1]
    split
    · rename_i hb
      refine goes ?_
      have : (Q + 1) * Y ≤ q * Y := Int.mul_le_mul_of_nonneg_right (by omega) (by have := E.Ypos; omega)
      have := E.hQ'
      omega
    · rename_i hb
      rw [test_words (by omega) (by omega) hr0 hr E.h0 E.h0' E.hu E.hu', decide_eq_decide.2 (est_test E.hY hU)]
      by_cases ht : q * Y > U * 4294967296 + u1
      · rw [decide_eq_true ht]; exact goes ht
      · rw [decide_eq_false ht]
        have h2 := est_le E.Ypos E.hQ' ht
        have : q = Q := by omega
        subst this
        simp only [Pb.bits_Div64.j4, Bool.false_eq_true, if_false]
        rw [if_pos h8]

/-- Both digits. -/
theorem div64_both {s : Int} (hs0 : 0 ≤ s) (yn1 yn0 Y U u1 u0 : Int) (N : Int) (hN : N = U * 18446744073709551616 + u1 * 4294967296 + u0) (hY : Y = yn1 * 4294967296 + yn0)
    (hn1 : 2147483648 ≤ yn1) (hn1' : yn1 < 4294967296) (h0 : 0 ≤ yn0) (h0' : yn0 < 4294967296) (hU0 : 0 ≤ U) (hUY : U < Y) (hu1 : 0 ≤ u1) (hu1' : u1 < 4294967296) (hu0 : 0 ≤ u0) (hu0' : u0 < 4294967296) :
    Pb.bits_Div64.l0 20 Y s yn1 yn0 U u1 u0 (IntKind.u64.wrap (Int.tdiv U yn1)) (IntKind.u64.wrap (U - IntKind.u64.wrap (IntKind.u64.wrap (Int.tdiv U yn1) * yn1))) = some (N / Y, shr .u64 (N % Y) s) := by
  have hYp : 0 < Y := by omega
  have d1 := Int.mul_ediv_add_emod (U * 4294967296 + u1) Y
  have m1 := Int.emod_nonneg (U * 4294967296 + u1) (show Y ≠ 0 by omega)
  have m2 := Int.emod_lt_of_pos (U * 4294967296 + u1) hYp
  generalize hQ1 : (U * 4294967296 + u1) / Y = Q1 at *
  generalize hU2 : (U * 4294967296 + u1) % Y = U2 at *
  have E : Est U u1 yn1 yn0 Y Q1 := ⟨hY, hn1, hn1', h0, h0', hU0, hUY, hu1, hu1', by have := Int.mul_comm Q1 Y; omega, by rw [Int.add_mul]; have := Int.mul_comm Q1 Y; omega⟩
  have d2 := Int.mul_ediv_add_emod (U2 * 4294967296 + u0) Y
  have m3 := Int.emod_nonneg (U2 * 4294967296 + u0) (show Y ≠ 0 by omega)
  have m4 := Int.emod_lt_of_pos (U2 * 4294967296 + u0) hYp
  generalize hQ2 : (U2 * 4294967296 + u0) / Y = Q2 at *
  generalize hR : (U2 * 4294967296 + u0) % Y = R at *
  have E2 : Est U2 u0 yn1 yn0 Y Q2 := ⟨hY, hn1, hn1', h0, h0', m1, m2, hu0, hu0', by have := Int.mul_comm Q2 Y; omega, by rw [Int.add_mul]; have := Int.mul_comm Q2 Y; omega⟩
  have firsts : ∀ {V : Int}, 0 ≤ V → V < Y → IntKind.u64.wrap (Int.tdiv V yn1) = V / yn1 ∧ IntKind.u64.wrap (V - IntKind.u64.wrap (V / yn1 * yn1)) = V % yn1 := by
    intro V a b
    have e := Int.mul_ediv_add_emod V yn1
    have e' := Int.emod_nonneg V (show yn1 ≠ 0 by omega)
    have e'' : 0 ≤ V / yn1 := Int.ediv_nonneg a (by omega)
    have e3 : V / yn1 ≤ V := Int.ediv_le_self _ a
    have e4 : V % yn1 ≤ V := by have := Int.mul_nonneg (show 0 ≤ yn1 by omega) e''; omega
    constructor
    · rw [Int.tdiv_eq_ediv_of_nonneg a, IntKind.wrap_u64]; omega
    · rw [Int.mul_comm, IntKind.wrap_u64, IntKind.wrap_u64]; omega
  have f1 := firsts hU0 hUY
  rw [f1.1, f1.2]
  obtain ⟨s1, s2, s3, s4, s5⟩ := E.start
  obtain ⟨j, hj, e⟩ := div64_l0 E s u0 3 14 (U / yn1) (U % yn1) s1 s4 s5 s2 s3 (by simp; omega)
  rw [show (20 : Nat) = 14 + 2 * 3 from rfl, e]
  obtain ⟨i, rfl⟩ : ∃ i, j = (i + 2 * 3) + 1 := ⟨j - 7, by omega⟩
  have q10 := E.Q0
  have q11 := E.Qlt
  have q20 := E2.Q0
  have q21 := E2.Qlt
  simp only [Pb.bits_Div64.j2]
  rw [if_neg (by omega)]
  have p1 : IntKind.u64.wrap (IntKind.u64.wrap (IntKind.u64.wrap (U * 4294967296) + u1) - IntKind.u64.wrap (Q1 * Y)) = U2 := by
    rw [Int.mul_comm Q1 Y]; simp only [IntKind.wrap_u64]; omega
  have p2 : IntKind.u64.wrap (IntKind.u64.wrap (IntKind.u64.wrap (U2 * 4294967296) + u0) - IntKind.u64.wrap (Q2 * Y)) = R := by
    rw [Int.mul_comm Q2 Y]; simp only [IntKind.wrap_u64]; omega
  have f2 := firsts m1 m2
  rw [p1, f2.1, f2.2]
  obtain ⟨t1, t2, t3, t4, t5⟩ := E2.start
  rw [div64_l1 E2 s Q1 hs0 3 i (U2 / yn1) (U2 % yn1) t1 t4 t5 t2 t3 (by simp; omega), p2]
  have g1 : IntKind.u64.wrap (IntKind.u64.wrap (Q1 * 4294967296) + Q2) = Q1 * 4294967296 + Q2 := by simp only [IntKind.wrap_u64]; omega
  have hNY : N = Y * (Q1 * 4294967296 + Q2) + R := by
    have : Y * (Q1 * 4294967296 + Q2) = Y * Q1 * 4294967296 + Y * Q2 := by grind
    omega
  have g2 : N / Y = Q1 * 4294967296 + Q2 := by rw [hNY, Int.add_comm, Int.add_mul_ediv_left _ _ (by omega), Int.ediv_eq_zero_of_lt m3 m4]; omega
  have g3 : N % Y = R := by rw [hNY, Int.add_comm, Int.add_mul_emod_self_left, Int.emod_eq_of_lt m3 m4]
  rw [g1, g2, g3]
theorem shl64 {a : Int} {t : Nat} (ht : t ≤ 64) : shl .u64 a (t : Int) = (a * 2 ^ t) % 18446744073709551616 := by
  unfold shl
  rw [IntKind.wrap_u64, Int.toNat_natCast]
  simp [IntKind.bits, Nat.min_eq_left ht]
theorem shr64 {a : Int} {t : Nat} (ht : t ≤ 64) : shr .u64 a (t : Int) = a / 2 ^ t := by
  unfold shr
  rw [Int.toNat_natCast]
  simp [IntKind.bits, Nat.min_eq_left ht]
/-- Bits above and bits below, joined. -/
theorem or_apart {a b : Int} {t : Nat} (ht : t ≤ 64) (ha : 0 ≤ a) (hat : a * 2 ^ t < 18446744073709551616) (hb : 0 ≤ b) (hbt : b < 2 ^ t) : Go.bits .or .u64 (a * 2 ^ t) b = a * 2 ^ t + b := by
  obtain ⟨A, rfl⟩ := Int.eq_ofNat_of_zero_le ha
  obtain ⟨C, rfl⟩ := Int.eq_ofNat_of_zero_le hb
  have hp : ((2 ^ t : Nat) : Int) = 2 ^ t := by simp
  have hC : C < 2 ^ t := by omega
  have h64 : 2 ^ t ≤ 2 ^ 64 := Nat.pow_le_pow_right (by omega) ht
  have e : ((A : Int) * 2 ^ t) = ((2 ^ t * A : Nat) : Int) := by rw [Int.natCast_mul, Int.mul_comm, hp]
  rw [e] at hat ⊢
  rw [u64_or_nat _ _ (by omega) (by omega), ← Nat.two_pow_add_eq_or_of_lt hC]
  simp
theorem low32 {a : Int} (ha : Word a) : Go.bits .and .u64 a 4294967295 = a % 4294967296 := by
  obtain ⟨A, rfl⟩ := Int.eq_ofNat_of_zero_le ha.1
  have h := u64_and_nat A 4294967295 (by have := ha.2; omega) (by omega)
  rw [Nat.and_two_pow_sub_one_eq_mod A 32] at h
  exact h

theorem blen_spec (x : Nat) (h : x < 18446744073709551616) : x < 2 ^ Lib.bitLen x ∧ (x ≠ 0 → 2 ^ (Lib.bitLen x - 1) ≤ x) := by
  induction x using Nat.strongRecOn with
  | _ x ih =>
    by_cases h0 : x = 0
    · subst h0; exact ⟨by decide, fun k => absurd rfl k⟩
    · rw [Lib.bitLen_half x h0 (by omega)]
      obtain ⟨a, b⟩ := ih (x / 2) (by omega) (by omega)
      refine ⟨by rw [Nat.add_comm, Nat.pow_succ]; omega, fun _ => ?_⟩
      rw [Nat.add_sub_cancel_left]
      by_cases h1 : x / 2 = 0
      · rw [h1, show Lib.bitLen 0 = 0 by decide]; simp; omega
      · have b := b h1
        have n1 : Lib.bitLen (x / 2) ≠ 0 := by
          intro z; rw [z] at a; simp at a; omega
        obtain ⟨n, hn⟩ : ∃ n, Lib.bitLen (x / 2) = n + 1 := ⟨Lib.bitLen (x / 2) - 1, by omega⟩
        rw [hn] at b ⊢
        rw [Nat.add_sub_cancel] at b
        rw [Nat.pow_succ]; omega
/-- The number of zeros ahead, and what is lifted by it. -/
theorem lift_y {y : Int} (hy : Word y) (h0 : 0 < y) : ∃ t : Nat, t ≤ 63 ∧ 64 - (Lib.bitLen y.toNat : Int) = (t : Int) ∧ 9223372036854775808 ≤ y * 2 ^ t ∧ y * 2 ^ t < 18446744073709551616 := by
  obtain ⟨Y, rfl⟩ := Int.eq_ofNat_of_zero_le hy.1
  have hY := hy.2
  obtain ⟨b1, b2⟩ := blen_spec Y (by omega)
  have b2 := b2 (by omega)
  rw [Int.toNat_natCast]
  generalize Lib.bitLen Y = n at *
  have n1 : 1 ≤ n := by
    by_cases hn : n = 0
    · subst hn; simp at b1; omega
    · omega
  have n2 : n ≤ 64 := by
    by_cases hn : n ≤ 64
    · exact hn
    · have : 2 ^ 64 ≤ 2 ^ (n - 1) := Nat.pow_le_pow_right (by omega) (by omega)
      omega
  have hp : ((2 ^ (64 - n) : Nat) : Int) = 2 ^ (64 - n) := by simp
  refine ⟨64 - n, by omega, by omega, ?_, ?_⟩
  · have : 2 ^ (n - 1) * 2 ^ (64 - n) ≤ Y * 2 ^ (64 - n) := Nat.mul_le_mul_right _ b2
    rw [← Nat.pow_add, show n - 1 + (64 - n) = 63 by omega] at this
    rw [← hp, ← Int.natCast_mul]
    omega
  · have : Y * 2 ^ (64 - n) < 2 ^ n * 2 ^ (64 - n) := Nat.mul_lt_mul_of_pos_right b1 (Nat.pow_pos (by omega))
    rw [← Nat.pow_add, show n + (64 - n) = 64 by omega] at this
    rw [← hp, ← Int.natCast_mul]
    omega

theorem div64_f {hi lo y : Int} (hh : 0 ≤ hi) (hlo : Word lo) (hy : Word y) (hlt : hi < y) :
    Pb.bits_Div64.f 20 hi lo y = some (ofW hi lo / y, ofW hi lo % y) := by
  unfold Pb.bits_Div64.f
  rw [if_neg (by omega), if_neg (by omega)]
  by_cases h0 : hi = 0
  · subst h0
    rw [if_pos rfl]
    have e1 : ofW 0 lo = lo := by unfold ofW; omega
    have h1 : 0 ≤ lo / y := Int.ediv_nonneg hlo.1 (by omega)
    have h2 : lo / y ≤ lo := Int.ediv_le_self _ hlo.1
    have := hlo.2
    rw [e1, Int.tdiv_eq_ediv_of_nonneg hlo.1, Int.tmod_eq_emod_of_nonneg hlo.1, IntKind.wrap_u64, Int.emod_eq_of_lt h1 (by omega)]
  · rw [if_neg h0, bits_LeadingZeros64.f_eq hy]
    simp only [Option.bind_some]
    obtain ⟨t, ht, et, y1, y2⟩ := lift_y hy (by omega)
    rw [et]
    have w1 : IntKind.u64.wrap (t : Int) = (t : Int) := by rw [IntKind.wrap_u64]; omega
    have w2 : IntKind.u64.wrap (64 - (t : Int)) = ((64 - t : Nat) : Int) := by rw [IntKind.wrap_u64]; omega
    rw [w1, w2, if_pos (by omega), if_pos (by omega)]
    have hp : (0 : Int) < 2 ^ t := Int.pow_pos (by omega)
    have hp2 : (0 : Int) < 2 ^ (64 - t) := Int.pow_pos (by omega)
    have hpp : (2 : Int) ^ (64 - t) * 2 ^ t = 18446744073709551616 := by rw [← Int.pow_add, show 64 - t + t = 64 by omega]; rfl
    have y0 : 0 ≤ y * 2 ^ t := by omega
    have hiy : hi * 2 ^ t + 2 ^ t ≤ y * 2 ^ t := by
      have := Int.mul_le_mul_of_nonneg_right (show hi + 1 ≤ y by omega) (show (0 : Int) ≤ 2 ^ t by omega)
      rw [Int.add_mul, Int.one_mul] at this
      exact this
    have hi0 : 0 ≤ hi * 2 ^ t := Int.mul_nonneg hh (by omega)
    have lo0 : 0 ≤ lo / 2 ^ (64 - t) := Int.ediv_nonneg hlo.1 (by omega)
    have lo1 : lo / 2 ^ (64 - t) < 2 ^ t := by
      rw [Int.ediv_lt_iff_lt_mul hp2, Int.mul_comm, hpp]; exact hlo.2
    have sy : shl .u64 y (t : Int) = y * 2 ^ t := by rw [shl64 (by omega), Int.emod_eq_of_lt y0 y2]
    have sh : shl .u64 hi (t : Int) = hi * 2 ^ t := by rw [shl64 (by omega), Int.emod_eq_of_lt hi0 (by omega)]
    have sl : shl .u64 lo (t : Int) = (lo * 2 ^ t) % 18446744073709551616 := shl64 (by omega)
    have sr : shr .u64 lo ((64 - t : Nat) : Int) = lo / 2 ^ (64 - t) := shr64 (by omega)
    rw [sy, sh, sl, sr, or_apart (by omega) hh (by omega) lo0 lo1]
    have hsplit : lo * 2 ^ t = lo / 2 ^ (64 - t) * 18446744073709551616 + (lo * 2 ^ t) % 18446744073709551616 := by
      have e := Int.mul_ediv_mul_of_pos_left lo (2 ^ (64 - t)) hp
      rw [hpp] at e
      rw [← e]
      omega
    rw [if_neg (by omega), low32 ⟨y0, y2⟩, low32 (word_mod _)]
    have both := div64_both (s := (t : Int)) (by omega) (y * 2 ^ t / 4294967296) (y * 2 ^ t % 4294967296) (y * 2 ^ t) (hi * 2 ^ t + lo / 2 ^ (64 - t))
      (lo * 2 ^ t % 18446744073709551616 / 4294967296) (lo * 2 ^ t % 18446744073709551616 % 4294967296) (ofW hi lo * 2 ^ t)
      (by unfold ofW; rw [Int.add_mul, show hi * 18446744073709551616 * 2 ^ t = hi * 2 ^ t * 18446744073709551616 by grind]; omega)
      (by omega) (by omega) (by omega) (by omega) (by omega) (by omega) (by omega) (by omega) (by omega) (by omega) (by omega)
    rw [both, shr64 (by omega), Int.mul_ediv_mul_of_pos_left _ _ hp, Int.mul_comm (ofW hi lo) (2 ^ t), Int.mul_comm y (2 ^ t), Int.mul_emod_mul_of_pos _ _ hp, Int.mul_comm (2 ^ t) (ofW hi lo % y), Int.mul_ediv_cancel _ (by omega)]

/-! ### In the printed form -/
def bits_Div64.f (hi lo y : Int) : Option (Int × Int) := if 0 ≤ hi ∧ Word lo ∧ Word y ∧ hi < y then some (ofW hi lo / y, ofW hi lo % y) else none
theorem bits_Div64.f_eq {hi lo y : Int} (hh : 0 ≤ hi) (hlo : Word lo) (hy : Word y) (hlt : hi < y) : bits_Div64.f hi lo y = some (ofW hi lo / y, ofW hi lo % y) := by
  unfold bits_Div64.f; rw [if_pos ⟨hh, hlo, hy, hlt⟩]
theorem bits_Div64.calls (a0 a1 a2 r1 r2 : Int) (w : World) (h : bits_Div64.f a0 a1 a2 = some (r1, r2)) :
    Calls Try.prog 132 #[.int .u64 a0, .int .u64 a1, .int .u64 a2] w fun e w' => e = .returned (.tuple #[.int .u64 r1, .int .u64 r2]) ∧ Below w.heap.size w w' := by
  unfold bits_Div64.f at h
  split at h
  · rename_i hw
    exact Pb.bits_Div64.calls 20 a0 a1 a2 r1 r2 w (by rw [div64_f hw.1 hw.2.1 hw.2.2.1 hw.2.2.2]; exact h)
  · cases h

/-! ### shifted -/
theorem shifted_f {h l : Int} {n : Nat} (hh : 0 ≤ h) (hl : Word l) (hn : n ≤ 63) (hb : h * 2 ^ n + 2 ^ n ≤ 18446744073709551616) :
    Pb.divide_shifted.f h l (n : Int) = some (hiW (ofW h l * 2 ^ n), loW (ofW h l * 2 ^ n)) := by
  unfold Pb.divide_shifted.f
  have w2 : wrap64 (64 - (n : Int)) = ((64 - n : Nat) : Int) := by unfold wrap64; omega
  rw [w2, if_pos (by omega), if_pos (by omega)]
  have hp : (0 : Int) < 2 ^ n := Int.pow_pos (by omega)
  have hp2 : (0 : Int) < 2 ^ (64 - n) := Int.pow_pos (by omega)
  have hpp : (2 : Int) ^ (64 - n) * 2 ^ n = 18446744073709551616 := by rw [← Int.pow_add, show 64 - n + n = 64 by omega]; rfl
  have hi0 : 0 ≤ h * 2 ^ n := Int.mul_nonneg hh (by omega)
  have lo0 : 0 ≤ l / 2 ^ (64 - n) := Int.ediv_nonneg hl.1 (by omega)
  have lo1 : l / 2 ^ (64 - n) < 2 ^ n := by
    rw [Int.ediv_lt_iff_lt_mul hp2, Int.mul_comm, hpp]; exact hl.2
  have sh : shl .u64 h (n : Int) = h * 2 ^ n := by rw [shl64 (by omega), Int.emod_eq_of_lt hi0 (by omega)]
  have sl : shl .u64 l (n : Int) = (l * 2 ^ n) % 18446744073709551616 := shl64 (by omega)
  have sr : shr .u64 l ((64 - n : Nat) : Int) = l / 2 ^ (64 - n) := shr64 (by omega)
  rw [sh, sl, sr, or_apart (by omega) hh (by omega) lo0 lo1]
  have hsplit : l * 2 ^ n = l / 2 ^ (64 - n) * 18446744073709551616 + (l * 2 ^ n) % 18446744073709551616 := by
    have e := Int.mul_ediv_mul_of_pos_left l (2 ^ (64 - n)) hp
    rw [hpp] at e
    rw [← e]
    omega
  have e : ofW h l * 2 ^ n = (h * 2 ^ n + l / 2 ^ (64 - n)) * 18446744073709551616 + (l * 2 ^ n) % 18446744073709551616 := by
    unfold ofW; rw [Int.add_mul, show h * 18446744073709551616 * 2 ^ n = h * 2 ^ n * 18446744073709551616 by grind]; omega
  rw [e]
  have m := word_mod (l * 2 ^ n)
  unfold Word at m
  congr 2 <;> (first | unfold hiW | unfold loW) <;> omega
def divide_shifted.f (h l n : Int) : Option (Int × Int) := if 0 ≤ h ∧ Word l ∧ (0 ≤ n ∧ n ≤ 63) ∧ h * 2 ^ n.toNat + 2 ^ n.toNat ≤ 18446744073709551616 then some (hiW (ofW h l * 2 ^ n.toNat), loW (ofW h l * 2 ^ n.toNat)) else none
theorem divide_shifted.calls (h l n r1 r2 : Int) (w : World) (hf : divide_shifted.f h l n = some (r1, r2)) :
    Calls Try.prog 134 #[.agg #[.int .u64 h, .int .u64 l], .int .i64 n] w fun e w' => e = .returned (.agg #[.int .u64 r1, .int .u64 r2]) ∧ Below w.heap.size w w' := by
  unfold divide_shifted.f at hf
  split at hf
  · rename_i hw
    obtain ⟨N, rfl⟩ := Int.eq_ofNat_of_zero_le hw.2.2.1.1
    rw [Int.toNat_natCast] at hw hf
    exact Pb.divide_shifted.calls h l N r1 r2 w (by rw [shifted_f hw.1 hw.2.1 (by omega) hw.2.2.2]; exact hf)
  · cases hf
end Go.Proofs.Ytkdfkpalgejkkaa
-- Written by a program (gprint.py) for this claim.
namespace Go.Proofs.Ytkdfkpalgejkkaa.Pc
open Go.RowKit Go.Proofs.Ytkdfkpalgejkkaa Go.Proofs.YtkdfkpalgejkkaaW.PrintWords Go.Proofs.YtkdfkpalgejkkaaW.PrintLast Go.Proofs.YtkdfkpalgejkkaaW.PrintMore
attribute [local go_sem] add64' sub64' max2_int min2_int max_two min_two max_three min_three max_four min_four   -- for this text's walks alone
set_option linter.unusedVariables false
set_option linter.unusedSimpArgs false



def errW : Option Int → Value
  | none => .nilIface
  | some c => .iface 0 (.int .i64 c)
theorem errW_none : errW none = .nilIface := rfl
theorem errW_some (c : Int) : errW (some c) = .iface 0 (.int .i64 c) := rfl

-- the values' own types

end Go.Proofs.Ytkdfkpalgejkkaa.Pc
-- Written by a program (gprint.py) for this claim.
namespace Go.Proofs.Ytkdfkpalgejkkaa.Pc
open Go.RowKit Go.Proofs.Ytkdfkpalgejkkaa Go.Proofs.YtkdfkpalgejkkaaW.PrintWords Go.Proofs.YtkdfkpalgejkkaaW.PrintLast Go.Proofs.YtkdfkpalgejkkaaW.PrintMore
attribute [local go_sem] add64' sub64' max2_int min2_int max_two min_two max_three min_three max_four min_four   -- for this text's walks alone
set_option linter.unusedVariables false
set_option linter.unusedSimpArgs false

theorem eqA35 (d : Nat) (w : World) (x0 y0 : Int) (x1 y1 : Int) :
    (Op.equalIn (d + 2) 35 (.agg #[.int .u64 x0, .int .u64 x1]) (.agg #[.int .u64 y0, .int .u64 y1])).run Try.prog w = .ok (x0 == y0 && (x1 == y1)) w := by
  refine eqA_of Try.underlying35 (by kernel_rfl) ?_
  refine eqf_cons (by rfl) (by go_simp; rfl) (by go_simp; rfl) (by go_simp) ?_
  exact eqf_last (by rfl) (by go_simp; rfl) (by go_simp; rfl) (by go_simp)
end Go.Proofs.Ytkdfkpalgejkkaa.Pc
-- Written by a program (gprint.py) for this claim.
namespace Go.Proofs.Ytkdfkpalgejkkaa.Pc
open Go.RowKit Go.Proofs.Ytkdfkpalgejkkaa Go.Proofs.YtkdfkpalgejkkaaW.PrintWords Go.Proofs.YtkdfkpalgejkkaaW.PrintLast Go.Proofs.YtkdfkpalgejkkaaW.PrintMore
attribute [local go_sem] add64' sub64' max2_int min2_int max_two min_two max_three min_three max_four min_four   -- for this text's walks alone
set_option linter.unusedVariables false
set_option linter.unusedSimpArgs false

attribute [local go_sem high] eqA35
/-! ### divide_Div: function 110 -/
def divide_Div.l0 : Nat → Int → Int → Int → Int → Int → Int → Int → Option (Int × Int × Int × Int × Int)
  | 0, _, _, _, _, _, _, _ => none
  | k + 1, x12, x102000, x102001, x103000, x103001, x110000, x110001 => if x12 ≥ 0 then ((divide_shifted.f x103000 x103001 x12).bind fun bt111 => ((wide_Less.f x102000 x102001 bt111.1 bt111.2).bind fun t114 => (if t114 = true then (divide_Div.l0 k (wrap64 (x12 - 1)) x102000 x102001 x103000 x103001 x110000 x110001) else ((wide_Sub.f x102000 x102001 bt111.1 bt111.2).bind fun bt115 => (if 0 ≤ x12 then (divide_Div.l0 k (wrap64 (x12 - 1)) bt115.1 bt115.2.1 x103000 x103001 x110000 (Go.bits .or .u64 x110001 (shl .u64 1 x12))) else (none)))))) else (some (x110000, x110001, x102000, x102001, 0))
def divide_Div.f (k : Nat) (a0_0 : Int) (a0_1 : Int) (a1_0 : Int) (a1_1 : Int) : Option (Int × Int × Int × Int × Int) := if (a1_0 == 0 && (a1_1 == 0)) = true then (some (0, 0, 0, 0, 4)) else (if a1_0 = 0 then ((bits_Div64.f 0 a0_0 a1_1).bind fun bt105 => ((bits_Div64.f bt105.2 a0_1 a1_1).bind fun bt107 => (some (bt105.1, bt107.1, 0, bt107.2, 0)))) else ((bits_LeadingZeros64.f a1_0).bind fun t110 => (divide_Div.l0 k t110 a0_0 a0_1 a1_0 a1_1 0 0)))
theorem divide_Div.mono_l : ∀ k, (∀ y0 y1 y2 y3 y4 y5 y6, LeO (divide_Div.l0 k y0 y1 y2 y3 y4 y5 y6) (divide_Div.l0 (k + 1) y0 y1 y2 y3 y4 y5 y6))
  | 0 => fun _ _ _ _ _ _ _ r h => by simp [divide_Div.l0] at h
  | k + 1 => by
    have ih0 := divide_Div.mono_l k
    · intro y0 y1 y2 y3 y4 y5 y6
      unfold divide_Div.l0
      repeat' first
      | (with_reducible exact ih0 _ _ _ _ _ _ _)
      | (with_reducible exact LeO.refl _)
      | (with_reducible exact LeO.none _)
      | (with_reducible refine LeO.ite ?_ ?_)
      | (with_reducible refine LeO.bind ?_ (fun _ => ?_))
      | exact ih0 _ _ _ _ _ _ _
      | exact LeO.none _
      | refine LeO.ite ?_ ?_
      | refine LeO.bind ?_ (fun _ => ?_)
theorem divide_Div.mono : ∀ a0 a1 a2 a3 k, LeO (divide_Div.f k a0 a1 a2 a3) (divide_Div.f (k + 1) a0 a1 a2 a3) := by
  intro a0 a1 a2 a3 k
  have ih0 := divide_Div.mono_l k
  unfold divide_Div.f
  repeat' first
      | (with_reducible exact ih0 _ _ _ _ _ _ _)
      | (with_reducible exact LeO.refl _)
      | (with_reducible exact LeO.none _)
      | (with_reducible refine LeO.ite ?_ ?_)
      | (with_reducible refine LeO.bind ?_ (fun _ => ?_))
      | exact ih0 _ _ _ _ _ _ _
      | exact LeO.none _
      | refine LeO.ite ?_ ?_
      | refine LeO.bind ?_ (fun _ => ?_)
set_option maxHeartbeats 8000000 in
set_option maxRecDepth 100000 in
theorem divide_Div.calls (k : Nat) (a0_0 : Int) (a0_1 : Int) (a1_0 : Int) (a1_1 : Int) (r1 : Int) (r2 : Int) (r3 : Int) (r4 : Int) (r5 : Int) (w : World) (h : divide_Div.f k a0_0 a0_1 a1_0 a1_1 = some (r1, r2, r3, r4, r5)) :
    Calls Try.prog 110 #[.agg #[.int .u64 a0_0, .int .u64 a0_1], .agg #[.int .u64 a1_0, .int .u64 a1_1]] w fun e w' => e = .returned (.tuple #[.agg #[.int .u64 r1, .int .u64 r2], .agg #[.int .u64 r3, .int .u64 r4], .int .i64 r5]) ∧ Below w.heap.size w w' := by
  have hu35 := Try.underlying35
  have HB := Aside0.mk (Below.refl w.heap.size w)
  have H : (if (a1_0 == 0 && (a1_1 == 0)) = true then (some (0, 0, 0, 0, 4)) else (if a1_0 = 0 then ((bits_Div64.f 0 a0_0 a1_1).bind fun bt105 => ((bits_Div64.f bt105.2 a0_1 a1_1).bind fun bt107 => (some (bt105.1, bt107.1, 0, bt107.2, 0)))) else ((bits_LeadingZeros64.f a1_0).bind fun t110 => (divide_Div.l0 k t110 a0_0 a0_1 a1_0 a1_1 0 0)))) = some (r1, r2, r3, r4, r5) := h
  clear h
  by_cases c3 : (a1_0 == 0 && (a1_1 == 0)) = true
  · rw [if_pos c3] at H
    have c3b0 : (a1_0 == 0 && (a1_1 == 0)) = true := c3
    (try (have c3b1 : decide (a1_0 = 0 && (a1_1 == 0)) = true := by simpa using c3))
    (try (have c3b2 : (a1_0 == 0 && (a1_1 == 0)) = true := by simpa using c3))
    clear c3
    simp only [Option.some.injEq, Prod.mk.injEq] at H
    obtain ⟨rfl, rfl, rfl, rfl, rfl⟩ := H
    go_enter Try.func110, Try.ntmps110
    go_wp2_with (first | ((with_reducible refine gate_dst (N := 2) rfl ?_); refine box_event ?hg (N := 2) ?hd (cs := #[.int .u64 a0_0, .int .u64 a0_1]) (t := 35) ?hr ?_; (case hd => rfl); (case hg => rfl); (case hr => first | (go_simp; done) | (go_simp; rfl)); intro gb101 hg w4 hbox hb; have n0_ := Aside0.mk (below_step (by repeat (first | (with_reducible first | exact HB.out | apply below_alloc | apply pw_below_drewN | apply below_drew1) | exact HB.out)) hb); have n1_ := Aside0.mk (hbox); have n2_ := Aside0.mk ((by rw [hg]; exact (below_size (by repeat (first | (with_reducible first | exact HB.out | apply below_alloc | apply pw_below_drewN | apply below_drew1) | exact HB.out))) : w.heap.size ≤ gb101)); have n3_ := Aside0.mk ((by rw [hg]; exact (below_size (by repeat (first | (with_reducible first | exact HB.out | apply below_alloc | apply pw_below_drewN | apply below_drew1) | exact HB.out))) : w.heap.size ≤ gb101)); clear HB; have HB := n0_; have BK101 := n1_; have GW101 := n2_; have GE101 := n3_; clear n0_ n1_ n2_ n3_; clear hb hbox hg) | ((with_reducible refine gate_dst (N := 3) rfl ?_); refine box_event ?hg (N := 3) ?hd (cs := #[.int .u64 a1_0, .int .u64 a1_1]) (t := 35) ?hr ?_; (case hd => rfl); (case hg => rfl); (case hr => first | (go_simp; done) | (go_simp; rfl)); intro gb102 hg w5 hbox hb; have n0_ := Aside0.mk (blk_below (g := gb101) (o := .cells #[.int .u64 a0_0, .int .u64 a0_1] 35 (0, 0)) (by (with_reducible repeat (first | refine blk_drewN ?_ _ | refine blk_drew ?_ | refine blk_alloc ?_ _)); exact BK101.out) hb); have n1_ := Aside0.mk (below_step (by repeat (first | (with_reducible first | exact HB.out | apply below_alloc | apply pw_below_drewN | apply below_drew1 | refine below_set ?_ GE101.out) | exact HB.out)) hb); have n2_ := Aside0.mk (hbox); have n3_ := Aside0.mk ((by rw [hg]; exact (below_size (by repeat (first | (with_reducible first | exact HB.out | apply below_alloc | apply pw_below_drewN | apply below_drew1 | refine below_set ?_ GE101.out) | exact HB.out))) : w.heap.size ≤ gb102)); have n4_ := Aside0.mk ((by rw [hg]; exact (below_size (by repeat (first | (with_reducible first | exact HB.out | apply below_alloc | apply pw_below_drewN | apply below_drew1 | refine below_set ?_ GE101.out) | exact HB.out))) : w.heap.size ≤ gb102)); have n5_ := Aside0.mk ((by rw [hg]; exact Nat.ne_of_lt (blk_lt (g := gb101) (o := .cells #[.int .u64 a0_0, .int .u64 a0_1] 35 (0, 0)) (by (with_reducible repeat (first | refine blk_drewN ?_ _ | refine blk_drew ?_ | refine blk_alloc ?_ _)); exact BK101.out)) : gb101 ≠ gb102)); have n6_ := Aside0.mk ((by rw [hg]; exact Nat.ne_of_gt (blk_lt (g := gb101) (o := .cells #[.int .u64 a0_0, .int .u64 a0_1] 35 (0, 0)) (by (with_reducible repeat (first | refine blk_drewN ?_ _ | refine blk_drew ?_ | refine blk_alloc ?_ _)); exact BK101.out)) : gb102 ≠ gb101)); clear BK101; clear HB; have BK101 := n0_; have HB := n1_; have BK102 := n2_; have GW102 := n3_; have GE102 := n4_; have NB101_102 := n5_; have NB102_101 := n6_; clear n0_ n1_ n2_ n3_ n4_ n5_ n6_; clear hb hbox hg) | ((with_reducible refine gate_dst (N := 4) rfl ?_); refine box_event ?hg (N := 4) ?hd (cs := #[.int .u64 0, .int .u64 0]) (t := 35) ?hr ?_; (case hd => rfl); (case hg => rfl); (case hr => first | (go_simp; done) | (go_simp; rfl)); intro gb103 hg w6 hbox hb; have n0_ := Aside0.mk (blk_below (g := gb101) (o := .cells #[.int .u64 a0_0, .int .u64 a0_1] 35 (0, 0)) (by (with_reducible repeat (first | refine blk_drewN ?_ _ | refine blk_drew ?_ | refine blk_alloc ?_ _)); exact BK101.out) hb); have n1_ := Aside0.mk (blk_below (g := gb102) (o := .cells #[.int .u64 a1_0, .int .u64 a1_1] 35 (0, 0)) (by (with_reducible repeat (first | refine blk_drewN ?_ _ | refine blk_drew ?_ | refine blk_alloc ?_ _)); exact BK102.out) hb); have n2_ := Aside0.mk (below_step (by repeat (first | (with_reducible first | exact HB.out | apply below_alloc | apply pw_below_drewN | apply below_drew1 | refine below_set ?_ GE101.out | refine below_set ?_ GE102.out) | exact HB.out)) hb); have n3_ := Aside0.mk (hbox); have n4_ := Aside0.mk ((by rw [hg]; exact (below_size (by repeat (first | (with_reducible first | exact HB.out | apply below_alloc | apply pw_below_drewN | apply below_drew1 | refine below_set ?_ GE101.out | refine below_set ?_ GE102.out) | exact HB.out))) : w.heap.size ≤ gb103)); have n5_ := Aside0.mk ((by rw [hg]; exact (below_size (by repeat (first | (with_reducible first | exact HB.out | apply below_alloc | apply pw_below_drewN | apply below_drew1 | refine below_set ?_ GE101.out | refine below_set ?_ GE102.out) | exact HB.out))) : w.heap.size ≤ gb103)); have n6_ := Aside0.mk ((by rw [hg]; exact Nat.ne_of_lt (blk_lt (g := gb101) (o := .cells #[.int .u64 a0_0, .int .u64 a0_1] 35 (0, 0)) (by (with_reducible repeat (first | refine blk_drewN ?_ _ | refine blk_drew ?_ | refine blk_alloc ?_ _)); exact BK101.out)) : gb101 ≠ gb103)); have n7_ := Aside0.mk ((by rw [hg]; exact Nat.ne_of_gt (blk_lt (g := gb101) (o := .cells #[.int .u64 a0_0, .int .u64 a0_1] 35 (0, 0)) (by (with_reducible repeat (first | refine blk_drewN ?_ _ | refine blk_drew ?_ | refine blk_alloc ?_ _)); exact BK101.out)) : gb103 ≠ gb101)); have n8_ := Aside0.mk ((by rw [hg]; exact Nat.ne_of_lt (blk_lt (g := gb102) (o := .cells #[.int .u64 a1_0, .int .u64 a1_1] 35 (0, 0)) (by (with_reducible repeat (first | refine blk_drewN ?_ _ | refine blk_drew ?_ | refine blk_alloc ?_ _)); exact BK102.out)) : gb102 ≠ gb103)); have n9_ := Aside0.mk ((by rw [hg]; exact Nat.ne_of_gt (blk_lt (g := gb102) (o := .cells #[.int .u64 a1_0, .int .u64 a1_1] 35 (0, 0)) (by (with_reducible repeat (first | refine blk_drewN ?_ _ | refine blk_drew ?_ | refine blk_alloc ?_ _)); exact BK102.out)) : gb103 ≠ gb102)); clear BK101; clear BK102; clear HB; have BK101 := n0_; have BK102 := n1_; have HB := n2_; have BK103 := n3_; have GW103 := n4_; have GE103 := n5_; have NB101_103 := n6_; have NB103_101 := n7_; have NB102_103 := n8_; have NB103_102 := n9_; clear n0_ n1_ n2_ n3_ n4_ n5_ n6_ n7_ n8_ n9_; clear hb hbox hg) | ((with_reducible refine gate_dst (N := 5) rfl ?_); refine box_event ?hg (N := 5) ?hd (cs := #[.int .u64 0, .int .u64 0]) (t := 35) ?hr ?_; (case hd => rfl); (case hg => rfl); (case hr => first | (go_simp; done) | (go_simp; rfl)); intro gb104 hg w7 hbox hb; have n0_ := Aside0.mk (blk_below (g := gb101) (o := .cells #[.int .u64 a0_0, .int .u64 a0_1] 35 (0, 0)) (by (with_reducible repeat (first | refine blk_drewN ?_ _ | refine blk_drew ?_ | refine blk_alloc ?_ _)); exact BK101.out) hb); have n1_ := Aside0.mk (blk_below (g := gb102) (o := .cells #[.int .u64 a1_0, .int .u64 a1_1] 35 (0, 0)) (by (with_reducible repeat (first | refine blk_drewN ?_ _ | refine blk_drew ?_ | refine blk_alloc ?_ _)); exact BK102.out) hb); have n2_ := Aside0.mk (blk_below (g := gb103) (o := .cells #[.int .u64 0, .int .u64 0] 35 (0, 0)) (by (with_reducible repeat (first | refine blk_drewN ?_ _ | refine blk_drew ?_ | refine blk_alloc ?_ _)); exact BK103.out) hb); have n3_ := Aside0.mk (below_step (by repeat (first | (with_reducible first | exact HB.out | apply below_alloc | apply pw_below_drewN | apply below_drew1 | refine below_set ?_ GE101.out | refine below_set ?_ GE102.out | refine below_set ?_ GE103.out) | exact HB.out)) hb); have n4_ := Aside0.mk (hbox); have n5_ := Aside0.mk ((by rw [hg]; exact (below_size (by repeat (first | (with_reducible first | exact HB.out | apply below_alloc | apply pw_below_drewN | apply below_drew1 | refine below_set ?_ GE101.out | refine below_set ?_ GE102.out | refine below_set ?_ GE103.out) | exact HB.out))) : w.heap.size ≤ gb104)); have n6_ := Aside0.mk ((by rw [hg]; exact (below_size (by repeat (first | (with_reducible first | exact HB.out | apply below_alloc | apply pw_below_drewN | apply below_drew1 | refine below_set ?_ GE101.out | refine below_set ?_ GE102.out | refine below_set ?_ GE103.out) | exact HB.out))) : w.heap.size ≤ gb104)); have n7_ := Aside0.mk ((by rw [hg]; exact Nat.ne_of_lt (blk_lt (g := gb101) (o := .cells #[.int .u64 a0_0, .int .u64 a0_1] 35 (0, 0)) (by (with_reducible repeat (first | refine blk_drewN ?_ _ | refine blk_drew ?_ | refine blk_alloc ?_ _)); exact BK101.out)) : gb101 ≠ gb104)); have n8_ := Aside0.mk ((by rw [hg]; exact Nat.ne_of_gt (blk_lt (g := gb101) (o := .cells #[.int .u64 a0_0, .int .u64 a0_1] 35 (0, 0)) (by (with_reducible repeat (first | refine blk_drewN ?_ _ | refine blk_drew ?_ | refine blk_alloc ?_ _)); exact BK101.out)) : gb104 ≠ gb101)); have n9_ := Aside0.mk ((by rw [hg]; exact Nat.ne_of_lt (blk_lt (g := gb102) (o := .cells #[.int .u64 a1_0, .int .u64 a1_1] 35 (0, 0)) (by (with_reducible repeat (first | refine blk_drewN ?_ _ | refine blk_drew ?_ | refine blk_alloc ?_ _)); exact BK102.out)) : gb102 ≠ gb104)); have n10_ := Aside0.mk ((by rw [hg]; exact Nat.ne_of_gt (blk_lt (g := gb102) (o := .cells #[.int .u64 a1_0, .int .u64 a1_1] 35 (0, 0)) (by (with_reducible repeat (first | refine blk_drewN ?_ _ | refine blk_drew ?_ | refine blk_alloc ?_ _)); exact BK102.out)) : gb104 ≠ gb102)); have n11_ := Aside0.mk ((by rw [hg]; exact Nat.ne_of_lt (blk_lt (g := gb103) (o := .cells #[.int .u64 0, .int .u64 0] 35 (0, 0)) (by (with_reducible repeat (first | refine blk_drewN ?_ _ | refine blk_drew ?_ | refine blk_alloc ?_ _)); exact BK103.out)) : gb103 ≠ gb104)); have n12_ := Aside0.mk ((by rw [hg]; exact Nat.ne_of_gt (blk_lt (g := gb103) (o := .cells #[.int .u64 0, .int .u64 0] 35 (0, 0)) (by (with_reducible repeat (first | refine blk_drewN ?_ _ | refine blk_drew ?_ | refine blk_alloc ?_ _)); exact BK103.out)) : gb104 ≠ gb103)); clear BK101; clear BK102; clear BK103; clear HB; have BK101 := n0_; have BK102 := n1_; have BK103 := n2_; have HB := n3_; have BK104 := n4_; have GW104 := n5_; have GE104 := n6_; have NB101_104 := n7_; have NB104_101 := n8_; have NB102_104 := n9_; have NB104_102 := n10_; have NB103_104 := n11_; have NB104_103 := n12_; clear n0_ n1_ n2_ n3_ n4_ n5_ n6_ n7_ n8_ n9_ n10_ n11_ n12_; clear hb hbox hg; have hnb8 := NB102_101.out; have hnc8 := NB101_102.out; have hnb9 := NB102_103.out; have hnc9 := NB103_102.out; have hnb10 := NB102_104.out; have hnc10 := NB104_102.out; have hcz11_0 : w7.cell? ⟨gb102, 0, none⟩ = some (.int .u64 a1_0) := (blk_cell BK102.out 0).trans rfl; have hcz11_1 : w7.cell? ⟨gb102, 1, none⟩ = some (.int .u64 a1_1) := (blk_cell BK102.out 1).trans rfl; have hfz11_0 := blk_frozen BK102.out 0; have hfz11_1 := blk_frozen BK102.out 1; have hnb12 := NB103_101.out; have hnc12 := NB101_103.out; have hnb13 := NB103_104.out; have hnc13 := NB104_103.out; have hcz14_0 : w7.cell? ⟨gb103, 0, none⟩ = some (.int .u64 0) := (blk_cell BK103.out 0).trans rfl; have hcz14_1 : w7.cell? ⟨gb103, 1, none⟩ = some (.int .u64 0) := (blk_cell BK103.out 1).trans rfl; have hfz14_0 := blk_frozen BK103.out 0; have hfz14_1 := blk_frozen BK103.out 1; have hnb15 := NB104_101.out; have hnc15 := NB101_104.out; have hcz16_0 : w7.cell? ⟨gb104, 0, none⟩ = some (.int .u64 0) := (blk_cell BK104.out 0).trans rfl; have hcz16_1 : w7.cell? ⟨gb104, 1, none⟩ = some (.int .u64 0) := (blk_cell BK104.out 1).trans rfl; have hfz16_0 := blk_frozen BK104.out 0; have hfz16_1 := blk_frozen BK104.out 1))
    refine bodyPost_ret (results_list (rs := [.cell 4 35, .cell 5 35, .tmp 6]) rfl (by simp) (.cell gb103 35 #[.int .u64 0, .int .u64 0] (0, 0) _ rfl (by (with_reducible repeat (first | refine blk_drewN ?_ _ | refine blk_drew ?_ | refine blk_alloc ?_ _)); refine blk_far ?_ NB103_104.out _; (with_reducible repeat (first | refine blk_drewN ?_ _ | refine blk_drew ?_ | refine blk_alloc ?_ _)); refine blk_far ?_ NB103_104.out _; (with_reducible repeat (first | refine blk_drewN ?_ _ | refine blk_drew ?_ | refine blk_alloc ?_ _)); refine blk_put (cs := #[.int .u64 0, .int .u64 0]) ?_ 1 _ rfl; (with_reducible repeat (first | refine blk_drewN ?_ _ | refine blk_drew ?_ | refine blk_alloc ?_ _)); refine blk_put (cs := #[.int .u64 0, .int .u64 0]) ?_ 0 _ rfl; (with_reducible repeat (first | refine blk_drewN ?_ _ | refine blk_drew ?_ | refine blk_alloc ?_ _)); exact BK103.out) Try.underlying35 rfl (by kernel_rfl) (.cell gb104 35 #[.int .u64 0, .int .u64 0] (0, 0) _ rfl (by (with_reducible repeat (first | refine blk_drewN ?_ _ | refine blk_drew ?_ | refine blk_alloc ?_ _)); refine blk_put (cs := #[.int .u64 0, .int .u64 0]) ?_ 1 _ rfl; (with_reducible repeat (first | refine blk_drewN ?_ _ | refine blk_drew ?_ | refine blk_alloc ?_ _)); refine blk_put (cs := #[.int .u64 0, .int .u64 0]) ?_ 0 _ rfl; (with_reducible repeat (first | refine blk_drewN ?_ _ | refine blk_drew ?_ | refine blk_alloc ?_ _)); refine blk_far ?_ NB104_103.out _; (with_reducible repeat (first | refine blk_drewN ?_ _ | refine blk_drew ?_ | refine blk_alloc ?_ _)); refine blk_far ?_ NB104_103.out _; (with_reducible repeat (first | refine blk_drewN ?_ _ | refine blk_drew ?_ | refine blk_alloc ?_ _)); exact BK104.out) Try.underlying35 rfl (by kernel_rfl) (.tmp .nil)))) rfl ?_
    exact ⟨by first | rfl | (simp [errW_none, errW_some] <;> rfl) | (simp [*, errW_none, errW_some] <;> rfl), by repeat (first | (with_reducible first | exact HB.out | apply below_alloc | apply pw_below_drewN | apply below_drew1 | refine below_set ?_ GE101.out | refine below_set ?_ GE102.out | refine below_set ?_ GE103.out | refine below_set ?_ GE104.out) | exact HB.out)⟩
  · rw [if_neg c3] at H
    have c3b0 : (a1_0 == 0 && (a1_1 == 0)) = false := by simpa using c3
    (try (have c3b1 : decide (a1_0 = 0 && (a1_1 == 0)) = false := by simpa using c3))
    (try (have c3b2 : (a1_0 == 0 && (a1_1 == 0)) = false := by simpa using c3))
    (try (have c3b3 : ¬ (a1_0 = 0 && (a1_1 == 0)) := by simpa using c3))
    clear c3
    by_cases c17 : a1_0 = 0
    · rw [if_pos c17] at H
      have c17b0 : (a1_0 == 0) = true := beq_iff_eq.mpr c17
      have c17b1 : (a1_0 != 0) = false := bne_eq_false_iff_eq.mpr c17
      have c17x : (a1_1 == 0) = false := by simpa only [c17b0, Bool.true_and] using c3b0
      have c17y : decide (a1_1 = 0) = false := decide_eq_false (by simpa using c17x)
      have c17z : ¬ a1_1 = 0 := by simpa using c17x
      clear c17
      replace H := Option.bind_eq_some_iff.mp H
      obtain ⟨⟨t105, t106⟩, A180, H⟩ := H
      replace H : ((bits_Div64.f t106 a0_1 a1_1).bind fun bt107 => (some (t105, bt107.1, 0, bt107.2, 0))) = some (r1, r2, r3, r4, r5) := H
      have A18 := Aside0.mk A180
      clear A180
      replace H := Option.bind_eq_some_iff.mp H
      obtain ⟨⟨t107, t108⟩, A190, H⟩ := H
      replace H : (some (t105, t107, 0, t108, 0)) = some (r1, r2, r3, r4, r5) := H
      have A19 := Aside0.mk A190
      clear A190
      simp only [Option.some.injEq, Prod.mk.injEq] at H
      obtain ⟨rfl, rfl, rfl, rfl, rfl⟩ := H
      go_enter Try.func110, Try.ntmps110
      go_wp2_with (first | ((with_reducible refine gate_dst (N := 2) rfl ?_); refine box_event ?hg (N := 2) ?hd (cs := #[.int .u64 a0_0, .int .u64 a0_1]) (t := 35) ?hr ?_; (case hd => rfl); (case hg => rfl); (case hr => first | (go_simp; done) | (go_simp; rfl)); intro gb101 hg w20 hbox hb; have n0_ := Aside0.mk (below_step (by repeat (first | (with_reducible first | exact HB.out | apply below_alloc | apply pw_below_drewN | apply below_drew1) | exact HB.out)) hb); have n1_ := Aside0.mk (hbox); have n2_ := Aside0.mk ((by rw [hg]; exact (below_size (by repeat (first | (with_reducible first | exact HB.out | apply below_alloc | apply pw_below_drewN | apply below_drew1) | exact HB.out))) : w.heap.size ≤ gb101)); have n3_ := Aside0.mk ((by rw [hg]; exact (below_size (by repeat (first | (with_reducible first | exact HB.out | apply below_alloc | apply pw_below_drewN | apply below_drew1) | exact HB.out))) : w.heap.size ≤ gb101)); clear HB; have HB := n0_; have BK101 := n1_; have GW101 := n2_; have GE101 := n3_; clear n0_ n1_ n2_ n3_; clear hb hbox hg) | ((with_reducible refine gate_dst (N := 3) rfl ?_); refine box_event ?hg (N := 3) ?hd (cs := #[.int .u64 a1_0, .int .u64 a1_1]) (t := 35) ?hr ?_; (case hd => rfl); (case hg => rfl); (case hr => first | (go_simp; done) | (go_simp; rfl)); intro gb102 hg w21 hbox hb; have n0_ := Aside0.mk (blk_below (g := gb101) (o := .cells #[.int .u64 a0_0, .int .u64 a0_1] 35 (0, 0)) (by (with_reducible repeat (first | refine blk_drewN ?_ _ | refine blk_drew ?_ | refine blk_alloc ?_ _)); exact BK101.out) hb); have n1_ := Aside0.mk (below_step (by repeat (first | (with_reducible first | exact HB.out | apply below_alloc | apply pw_below_drewN | apply below_drew1 | refine below_set ?_ GE101.out) | exact HB.out)) hb); have n2_ := Aside0.mk (hbox); have n3_ := Aside0.mk ((by rw [hg]; exact (below_size (by repeat (first | (with_reducible first | exact HB.out | apply below_alloc | apply pw_below_drewN | apply below_drew1 | refine below_set ?_ GE101.out) | exact HB.out))) : w.heap.size ≤ gb102)); have n4_ := Aside0.mk ((by rw [hg]; exact (below_size (by repeat (first | (with_reducible first | exact HB.out | apply below_alloc | apply pw_below_drewN | apply below_drew1 | refine below_set ?_ GE101.out) | exact HB.out))) : w.heap.size ≤ gb102)); have n5_ := Aside0.mk ((by rw [hg]; exact Nat.ne_of_lt (blk_lt (g := gb101) (o := .cells #[.int .u64 a0_0, .int .u64 a0_1] 35 (0, 0)) (by (with_reducible repeat (first | refine blk_drewN ?_ _ | refine blk_drew ?_ | refine blk_alloc ?_ _)); exact BK101.out)) : gb101 ≠ gb102)); have n6_ := Aside0.mk ((by rw [hg]; exact Nat.ne_of_gt (blk_lt (g := gb101) (o := .cells #[.int .u64 a0_0, .int .u64 a0_1] 35 (0, 0)) (by (with_reducible repeat (first | refine blk_drewN ?_ _ | refine blk_drew ?_ | refine blk_alloc ?_ _)); exact BK101.out)) : gb102 ≠ gb101)); clear BK101; clear HB; have BK101 := n0_; have HB := n1_; have BK102 := n2_; have GW102 := n3_; have GE102 := n4_; have NB101_102 := n5_; have NB102_101 := n6_; clear n0_ n1_ n2_ n3_ n4_ n5_ n6_; clear hb hbox hg) | ((with_reducible refine gate_dst (N := 4) rfl ?_); refine box_event ?hg (N := 4) ?hd (cs := #[.int .u64 0, .int .u64 0]) (t := 35) ?hr ?_; (case hd => rfl); (case hg => rfl); (case hr => first | (go_simp; done) | (go_simp; rfl)); intro gb103 hg w22 hbox hb; have n0_ := Aside0.mk (blk_below (g := gb101) (o := .cells #[.int .u64 a0_0, .int .u64 a0_1] 35 (0, 0)) (by (with_reducible repeat (first | refine blk_drewN ?_ _ | refine blk_drew ?_ | refine blk_alloc ?_ _)); exact BK101.out) hb); have n1_ := Aside0.mk (blk_below (g := gb102) (o := .cells #[.int .u64 a1_0, .int .u64 a1_1] 35 (0, 0)) (by (with_reducible repeat (first | refine blk_drewN ?_ _ | refine blk_drew ?_ | refine blk_alloc ?_ _)); exact BK102.out) hb); have n2_ := Aside0.mk (below_step (by repeat (first | (with_reducible first | exact HB.out | apply below_alloc | apply pw_below_drewN | apply below_drew1 | refine below_set ?_ GE101.out | refine below_set ?_ GE102.out) | exact HB.out)) hb); have n3_ := Aside0.mk (hbox); have n4_ := Aside0.mk ((by rw [hg]; exact (below_size (by repeat (first | (with_reducible first | exact HB.out | apply below_alloc | apply pw_below_drewN | apply below_drew1 | refine below_set ?_ GE101.out | refine below_set ?_ GE102.out) | exact HB.out))) : w.heap.size ≤ gb103)); have n5_ := Aside0.mk ((by rw [hg]; exact (below_size (by repeat (first | (with_reducible first | exact HB.out | apply below_alloc | apply pw_below_drewN | apply below_drew1 | refine below_set ?_ GE101.out | refine below_set ?_ GE102.out) | exact HB.out))) : w.heap.size ≤ gb103)); have n6_ := Aside0.mk ((by rw [hg]; exact Nat.ne_of_lt (blk_lt (g := gb101) (o := .cells #[.int .u64 a0_0, .int .u64 a0_1] 35 (0, 0)) (by (with_reducible repeat (first | refine blk_drewN ?_ _ | refine blk_drew ?_ | refine blk_alloc ?_ _)); exact BK101.out)) : gb101 ≠ gb103)); have n7_ := Aside0.mk ((by rw [hg]; exact Nat.ne_of_gt (blk_lt (g := gb101) (o := .cells #[.int .u64 a0_0, .int .u64 a0_1] 35 (0, 0)) (by (with_reducible repeat (first | refine blk_drewN ?_ _ | refine blk_drew ?_ | refine blk_alloc ?_ _)); exact BK101.out)) : gb103 ≠ gb101)); have n8_ := Aside0.mk ((by rw [hg]; exact Nat.ne_of_lt (blk_lt (g := gb102) (o := .cells #[.int .u64 a1_0, .int .u64 a1_1] 35 (0, 0)) (by (with_reducible repeat (first | refine blk_drewN ?_ _ | refine blk_drew ?_ | refine blk_alloc ?_ _)); exact BK102.out)) : gb102 ≠ gb103)); have n9_ := Aside0.mk ((by rw [hg]; exact Nat.ne_of_gt (blk_lt (g := gb102) (o := .cells #[.int .u64 a1_0, .int .u64 a1_1] 35 (0, 0)) (by (with_reducible repeat (first | refine blk_drewN ?_ _ | refine blk_drew ?_ | refine blk_alloc ?_ _)); exact BK102.out)) : gb103 ≠ gb102)); clear BK101; clear BK102; clear HB; have BK101 := n0_; have BK102 := n1_; have HB := n2_; have BK103 := n3_; have GW103 := n4_; have GE103 := n5_; have NB101_103 := n6_; have NB103_101 := n7_; have NB102_103 := n8_; have NB103_102 := n9_; clear n0_ n1_ n2_ n3_ n4_ n5_ n6_ n7_ n8_ n9_; clear hb hbox hg) | ((with_reducible refine gate_dst (N := 5) rfl ?_); refine box_event ?hg (N := 5) ?hd (cs := #[.int .u64 0, .int .u64 0]) (t := 35) ?hr ?_; (case hd => rfl); (case hg => rfl); (case hr => first | (go_simp; done) | (go_simp; rfl)); intro gb104 hg w23 hbox hb; have n0_ := Aside0.mk (blk_below (g := gb101) (o := .cells #[.int .u64 a0_0, .int .u64 a0_1] 35 (0, 0)) (by (with_reducible repeat (first | refine blk_drewN ?_ _ | refine blk_drew ?_ | refine blk_alloc ?_ _)); exact BK101.out) hb); have n1_ := Aside0.mk (blk_below (g := gb102) (o := .cells #[.int .u64 a1_0, .int .u64 a1_1] 35 (0, 0)) (by (with_reducible repeat (first | refine blk_drewN ?_ _ | refine blk_drew ?_ | refine blk_alloc ?_ _)); exact BK102.out) hb); have n2_ := Aside0.mk (blk_below (g := gb103) (o := .cells #[.int .u64 0, .int .u64 0] 35 (0, 0)) (by (with_reducible repeat (first | refine blk_drewN ?_ _ | refine blk_drew ?_ | refine blk_alloc ?_ _)); exact BK103.out) hb); have n3_ := Aside0.mk (below_step (by repeat (first | (with_reducible first | exact HB.out | apply below_alloc | apply pw_below_drewN | apply below_drew1 | refine below_set ?_ GE101.out | refine below_set ?_ GE102.out | refine below_set ?_ GE103.out) | exact HB.out)) hb); have n4_ := Aside0.mk (hbox); have n5_ := Aside0.mk ((by rw [hg]; exact (below_size (by repeat (first | (with_reducible first | exact HB.out | apply below_alloc | apply pw_below_drewN | apply below_drew1 | refine below_set ?_ GE101.out | refine below_set ?_ GE102.out | refine below_set ?_ GE103.out) | exact HB.out))) : w.heap.size ≤ gb104)); have n6_ := Aside0.mk ((by rw [hg]; exact (below_size (by repeat (first | (with_reducible first | exact HB.out | apply below_alloc | apply pw_below_drewN | apply below_drew1 | refine below_set ?_ GE101.out | refine below_set ?_ GE102.out | refine below_set ?_ GE103.out) | exact HB.out))) : w.heap.size ≤ gb104)); have n7_ := Aside0.mk ((by rw [hg]; exact Nat.ne_of_lt (blk_lt (g := gb101) (o := .cells #[.int .u64 a0_0, .int .u64 a0_1] 35 (0, 0)) (by (with_reducible repeat (first | refine blk_drewN ?_ _ | refine blk_drew ?_ | refine blk_alloc ?_ _)); exact BK101.out)) : gb101 ≠ gb104)); have n8_ := Aside0.mk ((by rw [hg]; exact Nat.ne_of_gt (blk_lt (g := gb101) (o := .cells #[.int .u64 a0_0, .int .u64 a0_1] 35 (0, 0)) (by (with_reducible repeat (first | refine blk_drewN ?_ _ | refine blk_drew ?_ | refine blk_alloc ?_ _)); exact BK101.out)) : gb104 ≠ gb101)); have n9_ := Aside0.mk ((by rw [hg]; exact Nat.ne_of_lt (blk_lt (g := gb102) (o := .cells #[.int .u64 a1_0, .int .u64 a1_1] 35 (0, 0)) (by (with_reducible repeat (first | refine blk_drewN ?_ _ | refine blk_drew ?_ | refine blk_alloc ?_ _)); exact BK102.out)) : gb102 ≠ gb104)); have n10_ := Aside0.mk ((by rw [hg]; exact Nat.ne_of_gt (blk_lt (g := gb102) (o := .cells #[.int .u64 a1_0, .int .u64 a1_1] 35 (0, 0)) (by (with_reducible repeat (first | refine blk_drewN ?_ _ | refine blk_drew ?_ | refine blk_alloc ?_ _)); exact BK102.out)) : gb104 ≠ gb102)); have n11_ := Aside0.mk ((by rw [hg]; exact Nat.ne_of_lt (blk_lt (g := gb103) (o := .cells #[.int .u64 0, .int .u64 0] 35 (0, 0)) (by (with_reducible repeat (first | refine blk_drewN ?_ _ | refine blk_drew ?_ | refine blk_alloc ?_ _)); exact BK103.out)) : gb103 ≠ gb104)); have n12_ := Aside0.mk ((by rw [hg]; exact Nat.ne_of_gt (blk_lt (g := gb103) (o := .cells #[.int .u64 0, .int .u64 0] 35 (0, 0)) (by (with_reducible repeat (first | refine blk_drewN ?_ _ | refine blk_drew ?_ | refine blk_alloc ?_ _)); exact BK103.out)) : gb104 ≠ gb103)); clear BK101; clear BK102; clear BK103; clear HB; have BK101 := n0_; have BK102 := n1_; have BK103 := n2_; have HB := n3_; have BK104 := n4_; have GW104 := n5_; have GE104 := n6_; have NB101_104 := n7_; have NB104_101 := n8_; have NB102_104 := n9_; have NB104_102 := n10_; have NB103_104 := n11_; have NB104_103 := n12_; clear n0_ n1_ n2_ n3_ n4_ n5_ n6_ n7_ n8_ n9_ n10_ n11_ n12_; clear hb hbox hg; have hnb24 := NB102_101.out; have hnc24 := NB101_102.out; have hnb25 := NB102_103.out; have hnc25 := NB103_102.out; have hnb26 := NB102_104.out; have hnc26 := NB104_102.out; have hcz27_0 : w23.cell? ⟨gb102, 0, none⟩ = some (.int .u64 a1_0) := (blk_cell BK102.out 0).trans rfl; have hcz27_1 : w23.cell? ⟨gb102, 1, none⟩ = some (.int .u64 a1_1) := (blk_cell BK102.out 1).trans rfl; have hfz27_0 := blk_frozen BK102.out 0; have hfz27_1 := blk_frozen BK102.out 1; have hnb28 := NB101_103.out; have hnc28 := NB103_101.out; have hnb29 := NB101_104.out; have hnc29 := NB104_101.out; have hcz30_0 : w23.cell? ⟨gb101, 0, none⟩ = some (.int .u64 a0_0) := (blk_cell BK101.out 0).trans rfl; have hcz30_1 : w23.cell? ⟨gb101, 1, none⟩ = some (.int .u64 a0_1) := (blk_cell BK101.out 1).trans rfl; have hfz30_0 := blk_frozen BK101.out 0; have hfz30_1 := blk_frozen BK101.out 1) | ((with_reducible refine gate_callee (f := 132) rfl ?_); refine goesL_ (some 27) rfl rfl Try.func132 (by kernel_rfl) rfl #[.int .u64 0, .int .u64 a0_0, .int .u64 a1_1] rfl (by (try simp only [List.map_toArray, List.map_cons, List.map_nil]); first | done | rfl | (simp only [List.length_drop, List.length_take]; rfl)) ?_; (with_reducible refine (bits_Div64.calls 0 a0_0 a1_1 t105 t106 _ A18.out).mono ?_); rintro e w31 ⟨rfl, hb⟩; refine ⟨_, rfl, ?_⟩; have n0_ := Aside0.mk (blk_below (g := gb101) (o := .cells #[.int .u64 a0_0, .int .u64 a0_1] 35 (0, 0)) (by (with_reducible repeat (first | refine blk_drewN ?_ _ | refine blk_drew ?_ | refine blk_alloc ?_ _)); exact BK101.out) hb); have n1_ := Aside0.mk (blk_below (g := gb102) (o := .cells #[.int .u64 a1_0, .int .u64 a1_1] 35 (0, 0)) (by (with_reducible repeat (first | refine blk_drewN ?_ _ | refine blk_drew ?_ | refine blk_alloc ?_ _)); exact BK102.out) hb); have n2_ := Aside0.mk (blk_below (g := gb103) (o := .cells #[.int .u64 0, .int .u64 0] 35 (0, 0)) (by (with_reducible repeat (first | refine blk_drewN ?_ _ | refine blk_drew ?_ | refine blk_alloc ?_ _)); exact BK103.out) hb); have n3_ := Aside0.mk (blk_below (g := gb104) (o := .cells #[.int .u64 0, .int .u64 0] 35 (0, 0)) (by (with_reducible repeat (first | refine blk_drewN ?_ _ | refine blk_drew ?_ | refine blk_alloc ?_ _)); exact BK104.out) hb); have n4_ := Aside0.mk (below_step (by repeat (first | (with_reducible first | exact HB.out | apply below_alloc | apply pw_below_drewN | apply below_drew1 | refine below_set ?_ GE101.out | refine below_set ?_ GE102.out | refine below_set ?_ GE103.out | refine below_set ?_ GE104.out) | exact HB.out)) hb); clear BK101; clear BK102; clear BK103; clear BK104; clear HB; have BK101 := n0_; have BK102 := n1_; have BK103 := n2_; have BK104 := n3_; have HB := n4_; clear n0_ n1_ n2_ n3_ n4_; (try clear hb); (try clear hb2); (try clear hk); (try clear hi); have hcz32_0 : w31.cell? ⟨gb101, 0, none⟩ = some (.int .u64 a0_0) := (blk_cell BK101.out 0).trans rfl; have hcz32_1 : w31.cell? ⟨gb101, 1, none⟩ = some (.int .u64 a0_1) := (blk_cell BK101.out 1).trans rfl; have hfz32_0 := blk_frozen BK101.out 0; have hfz32_1 := blk_frozen BK101.out 1; have hcz33_0 : w31.cell? ⟨gb102, 0, none⟩ = some (.int .u64 a1_0) := (blk_cell BK102.out 0).trans rfl; have hcz33_1 : w31.cell? ⟨gb102, 1, none⟩ = some (.int .u64 a1_1) := (blk_cell BK102.out 1).trans rfl; have hfz33_0 := blk_frozen BK102.out 0; have hfz33_1 := blk_frozen BK102.out 1) | ((with_reducible refine gate_callee (f := 132) rfl ?_); refine goesL_ (some 36) rfl rfl Try.func132 (by kernel_rfl) rfl #[.int .u64 t106, .int .u64 a0_1, .int .u64 a1_1] rfl (by (try simp only [List.map_toArray, List.map_cons, List.map_nil]); first | done | rfl | (simp only [List.length_drop, List.length_take]; rfl)) ?_; (with_reducible refine (bits_Div64.calls t106 a0_1 a1_1 t107 t108 _ A19.out).mono ?_); rintro e w34 ⟨rfl, hb⟩; refine ⟨_, rfl, ?_⟩; have n0_ := Aside0.mk (blk_below (g := gb101) (o := .cells #[.int .u64 a0_0, .int .u64 a0_1] 35 (0, 0)) (by (with_reducible repeat (first | refine blk_drewN ?_ _ | refine blk_drew ?_ | refine blk_alloc ?_ _)); exact BK101.out) hb); have n1_ := Aside0.mk (blk_below (g := gb102) (o := .cells #[.int .u64 a1_0, .int .u64 a1_1] 35 (0, 0)) (by (with_reducible repeat (first | refine blk_drewN ?_ _ | refine blk_drew ?_ | refine blk_alloc ?_ _)); exact BK102.out) hb); have n2_ := Aside0.mk (blk_below (g := gb103) (o := .cells #[.int .u64 0, .int .u64 0] 35 (0, 0)) (by (with_reducible repeat (first | refine blk_drewN ?_ _ | refine blk_drew ?_ | refine blk_alloc ?_ _)); exact BK103.out) hb); have n3_ := Aside0.mk (blk_below (g := gb104) (o := .cells #[.int .u64 0, .int .u64 0] 35 (0, 0)) (by (with_reducible repeat (first | refine blk_drewN ?_ _ | refine blk_drew ?_ | refine blk_alloc ?_ _)); exact BK104.out) hb); have n4_ := Aside0.mk (below_step (by repeat (first | (with_reducible first | exact HB.out | apply below_alloc | apply pw_below_drewN | apply below_drew1 | refine below_set ?_ GE101.out | refine below_set ?_ GE102.out | refine below_set ?_ GE103.out | refine below_set ?_ GE104.out) | exact HB.out)) hb); clear BK101; clear BK102; clear BK103; clear BK104; clear HB; have BK101 := n0_; have BK102 := n1_; have BK103 := n2_; have BK104 := n3_; have HB := n4_; clear n0_ n1_ n2_ n3_ n4_; (try clear hb); (try clear hb2); (try clear hk); (try clear hi); have hnb35 := NB103_104.out; have hnc35 := NB104_103.out; have hcz36_0 : w34.cell? ⟨gb103, 0, none⟩ = some (.int .u64 0) := (blk_cell BK103.out 0).trans rfl; have hcz36_1 : w34.cell? ⟨gb103, 1, none⟩ = some (.int .u64 0) := (blk_cell BK103.out 1).trans rfl; have hfz36_0 := blk_frozen BK103.out 0; have hfz36_1 := blk_frozen BK103.out 1; have hcz37_0 : w34.cell? ⟨gb104, 0, none⟩ = some (.int .u64 0) := (blk_cell BK104.out 0).trans rfl; have hcz37_1 : w34.cell? ⟨gb104, 1, none⟩ = some (.int .u64 0) := (blk_cell BK104.out 1).trans rfl; have hfz37_0 := blk_frozen BK104.out 0; have hfz37_1 := blk_frozen BK104.out 1))
      refine bodyPost_ret (results_list (rs := [.cell 4 35, .cell 5 35, .tmp 6]) rfl (by simp) (.cell gb103 35 #[.int .u64 t105, .int .u64 t107] (0, 0) _ rfl (by (with_reducible repeat (first | refine blk_drewN ?_ _ | refine blk_drew ?_ | refine blk_alloc ?_ _)); refine blk_far ?_ NB103_104.out _; (with_reducible repeat (first | refine blk_drewN ?_ _ | refine blk_drew ?_ | refine blk_alloc ?_ _)); refine blk_far ?_ NB103_104.out _; (with_reducible repeat (first | refine blk_drewN ?_ _ | refine blk_drew ?_ | refine blk_alloc ?_ _)); refine blk_put (cs := #[.int .u64 t105, .int .u64 0]) ?_ 1 _ rfl; (with_reducible repeat (first | refine blk_drewN ?_ _ | refine blk_drew ?_ | refine blk_alloc ?_ _)); refine blk_put (cs := #[.int .u64 0, .int .u64 0]) ?_ 0 _ rfl; (with_reducible repeat (first | refine blk_drewN ?_ _ | refine blk_drew ?_ | refine blk_alloc ?_ _)); exact BK103.out) Try.underlying35 rfl (by kernel_rfl) (.cell gb104 35 #[.int .u64 0, .int .u64 t108] (0, 0) _ rfl (by (with_reducible repeat (first | refine blk_drewN ?_ _ | refine blk_drew ?_ | refine blk_alloc ?_ _)); refine blk_put (cs := #[.int .u64 0, .int .u64 0]) ?_ 1 _ rfl; (with_reducible repeat (first | refine blk_drewN ?_ _ | refine blk_drew ?_ | refine blk_alloc ?_ _)); refine blk_put (cs := #[.int .u64 0, .int .u64 0]) ?_ 0 _ rfl; (with_reducible repeat (first | refine blk_drewN ?_ _ | refine blk_drew ?_ | refine blk_alloc ?_ _)); refine blk_far ?_ NB104_103.out _; (with_reducible repeat (first | refine blk_drewN ?_ _ | refine blk_drew ?_ | refine blk_alloc ?_ _)); refine blk_far ?_ NB104_103.out _; (with_reducible repeat (first | refine blk_drewN ?_ _ | refine blk_drew ?_ | refine blk_alloc ?_ _)); exact BK104.out) Try.underlying35 rfl (by kernel_rfl) (.tmp .nil)))) rfl ?_
      exact ⟨by first | rfl | (simp [errW_none, errW_some] <;> rfl) | (simp [*, errW_none, errW_some] <;> rfl), by repeat (first | (with_reducible first | exact HB.out | apply below_alloc | apply pw_below_drewN | apply below_drew1 | refine below_set ?_ GE101.out | refine below_set ?_ GE102.out | refine below_set ?_ GE103.out | refine below_set ?_ GE104.out) | exact HB.out)⟩
    · rw [if_neg c17] at H
      have c17b0 : (a1_0 == 0) = false := beq_eq_false_iff_ne.mpr c17
      have c17b1 : (a1_0 != 0) = true := bne_iff_ne.mpr c17
      replace H := Option.bind_eq_some_iff.mp H
      obtain ⟨t110, A380, H⟩ := H
      replace H : (divide_Div.l0 k t110 a0_0 a0_1 a1_0 a1_1 0 0) = some (r1, r2, r3, r4, r5) := H
      have A38 := Aside0.mk A380
      clear A380
      have H' := Aside0.mk H
      clear H
      go_enter Try.func110, Try.ntmps110
      go_wp2_with (first | ((with_reducible refine gate_dst (N := 2) rfl ?_); refine box_event ?hg (N := 2) ?hd (cs := #[.int .u64 a0_0, .int .u64 a0_1]) (t := 35) ?hr ?_; (case hd => rfl); (case hg => rfl); (case hr => first | (go_simp; done) | (go_simp; rfl)); intro gb101 hg w39 hbox hb; have n0_ := Aside0.mk (below_step (by repeat (first | (with_reducible first | exact HB.out | apply below_alloc | apply pw_below_drewN | apply below_drew1) | exact HB.out)) hb); have n1_ := Aside0.mk (hbox); have n2_ := Aside0.mk ((by rw [hg]; exact (below_size (by repeat (first | (with_reducible first | exact HB.out | apply below_alloc | apply pw_below_drewN | apply below_drew1) | exact HB.out))) : w.heap.size ≤ gb101)); have n3_ := Aside0.mk ((by rw [hg]; exact (below_size (by repeat (first | (with_reducible first | exact HB.out | apply below_alloc | apply pw_below_drewN | apply below_drew1) | exact HB.out))) : w.heap.size ≤ gb101)); clear HB; have HB := n0_; have BK101 := n1_; have GW101 := n2_; have GE101 := n3_; clear n0_ n1_ n2_ n3_; clear hb hbox hg) | ((with_reducible refine gate_dst (N := 3) rfl ?_); refine box_event ?hg (N := 3) ?hd (cs := #[.int .u64 a1_0, .int .u64 a1_1]) (t := 35) ?hr ?_; (case hd => rfl); (case hg => rfl); (case hr => first | (go_simp; done) | (go_simp; rfl)); intro gb102 hg w40 hbox hb; have n0_ := Aside0.mk (blk_below (g := gb101) (o := .cells #[.int .u64 a0_0, .int .u64 a0_1] 35 (0, 0)) (by (with_reducible repeat (first | refine blk_drewN ?_ _ | refine blk_drew ?_ | refine blk_alloc ?_ _)); exact BK101.out) hb); have n1_ := Aside0.mk (below_step (by repeat (first | (with_reducible first | exact HB.out | apply below_alloc | apply pw_below_drewN | apply below_drew1 | refine below_set ?_ GE101.out) | exact HB.out)) hb); have n2_ := Aside0.mk (hbox); have n3_ := Aside0.mk ((by rw [hg]; exact (below_size (by repeat (first | (with_reducible first | exact HB.out | apply below_alloc | apply pw_below_drewN | apply below_drew1 | refine below_set ?_ GE101.out) | exact HB.out))) : w.heap.size ≤ gb102)); have n4_ := Aside0.mk ((by rw [hg]; exact (below_size (by repeat (first | (with_reducible first | exact HB.out | apply below_alloc | apply pw_below_drewN | apply below_drew1 | refine below_set ?_ GE101.out) | exact HB.out))) : w.heap.size ≤ gb102)); have n5_ := Aside0.mk ((by rw [hg]; exact Nat.ne_of_lt (blk_lt (g := gb101) (o := .cells #[.int .u64 a0_0, .int .u64 a0_1] 35 (0, 0)) (by (with_reducible repeat (first | refine blk_drewN ?_ _ | refine blk_drew ?_ | refine blk_alloc ?_ _)); exact BK101.out)) : gb101 ≠ gb102)); have n6_ := Aside0.mk ((by rw [hg]; exact Nat.ne_of_gt (blk_lt (g := gb101) (o := .cells #[.int .u64 a0_0, .int .u64 a0_1] 35 (0, 0)) (by (with_reducible repeat (first | refine blk_drewN ?_ _ | refine blk_drew ?_ | refine blk_alloc ?_ _)); exact BK101.out)) : gb102 ≠ gb101)); clear BK101; clear HB; have BK101 := n0_; have HB := n1_; have BK102 := n2_; have GW102 := n3_; have GE102 := n4_; have NB101_102 := n5_; have NB102_101 := n6_; clear n0_ n1_ n2_ n3_ n4_ n5_ n6_; clear hb hbox hg) | ((with_reducible refine gate_dst (N := 4) rfl ?_); refine box_event ?hg (N := 4) ?hd (cs := #[.int .u64 0, .int .u64 0]) (t := 35) ?hr ?_; (case hd => rfl); (case hg => rfl); (case hr => first | (go_simp; done) | (go_simp; rfl)); intro gb103 hg w41 hbox hb; have n0_ := Aside0.mk (blk_below (g := gb101) (o := .cells #[.int .u64 a0_0, .int .u64 a0_1] 35 (0, 0)) (by (with_reducible repeat (first | refine blk_drewN ?_ _ | refine blk_drew ?_ | refine blk_alloc ?_ _)); exact BK101.out) hb); have n1_ := Aside0.mk (blk_below (g := gb102) (o := .cells #[.int .u64 a1_0, .int .u64 a1_1] 35 (0, 0)) (by (with_reducible repeat (first | refine blk_drewN ?_ _ | refine blk_drew ?_ | refine blk_alloc ?_ _)); exact BK102.out) hb); have n2_ := Aside0.mk (below_step (by repeat (first | (with_reducible first | exact HB.out | apply below_alloc | apply pw_below_drewN | apply below_drew1 | refine below_set ?_ GE101.out | refine below_set ?_ GE102.out) | exact HB.out)) hb); have n3_ := Aside0.mk (hbox); have n4_ := Aside0.mk ((by rw [hg]; exact (below_size (by repeat (first | (with_reducible first | exact HB.out | apply below_alloc | apply pw_below_drewN | apply below_drew1 | refine below_set ?_ GE101.out | refine below_set ?_ GE102.out) | exact HB.out))) : w.heap.size ≤ gb103)); have n5_ := Aside0.mk ((by rw [hg]; exact (below_size (by repeat (first | (with_reducible first | exact HB.out | apply below_alloc | apply pw_below_drewN | apply below_drew1 | refine below_set ?_ GE101.out | refine below_set ?_ GE102.out) | exact HB.out))) : w.heap.size ≤ gb103)); have n6_ := Aside0.mk ((by rw [hg]; exact Nat.ne_of_lt (blk_lt (g := gb101) (o := .cells #[.int .u64 a0_0, .int .u64 a0_1] 35 (0, 0)) (by (with_reducible repeat (first | refine blk_drewN ?_ _ | refine blk_drew ?_ | refine blk_alloc ?_ _)); exact BK101.out)) : gb101 ≠ gb103)); have n7_ := Aside0.mk ((by rw [hg]; exact Nat.ne_of_gt (blk_lt (g := gb101) (o := .cells #[.int .u64 a0_0, .int .u64 a0_1] 35 (0, 0)) (by (with_reducible repeat (first | refine blk_drewN ?_ _ | refine blk_drew ?_ | refine blk_alloc ?_ _)); exact BK101.out)) : gb103 ≠ gb101)); have n8_ := Aside0.mk ((by rw [hg]; exact Nat.ne_of_lt (blk_lt (g := gb102) (o := .cells #[.int .u64 a1_0, .int .u64 a1_1] 35 (0, 0)) (by (with_reducible repeat (first | refine blk_drewN ?_ _ | refine blk_drew ?_ | refine blk_alloc ?_ _)); exact BK102.out)) : gb102 ≠ gb103)); have n9_ := Aside0.mk ((by rw [hg]; exact Nat.ne_of_gt (blk_lt (g := gb102) (o := .cells #[.int .u64 a1_0, .int .u64 a1_1] 35 (0, 0)) (by (with_reducible repeat (first | refine blk_drewN ?_ _ | refine blk_drew ?_ | refine blk_alloc ?_ _)); exact BK102.out)) : gb103 ≠ gb102)); clear BK101; clear BK102; clear HB; have BK101 := n0_; have BK102 := n1_; have HB := n2_; have BK103 := n3_; have GW103 := n4_; have GE103 := n5_; have NB101_103 := n6_; have NB103_101 := n7_; have NB102_103 := n8_; have NB103_102 := n9_; clear n0_ n1_ n2_ n3_ n4_ n5_ n6_ n7_ n8_ n9_; clear hb hbox hg) | ((with_reducible refine gate_dst (N := 5) rfl ?_); refine box_event ?hg (N := 5) ?hd (cs := #[.int .u64 0, .int .u64 0]) (t := 35) ?hr ?_; (case hd => rfl); (case hg => rfl); (case hr => first | (go_simp; done) | (go_simp; rfl)); intro gb104 hg w42 hbox hb; have n0_ := Aside0.mk (blk_below (g := gb101) (o := .cells #[.int .u64 a0_0, .int .u64 a0_1] 35 (0, 0)) (by (with_reducible repeat (first | refine blk_drewN ?_ _ | refine blk_drew ?_ | refine blk_alloc ?_ _)); exact BK101.out) hb); have n1_ := Aside0.mk (blk_below (g := gb102) (o := .cells #[.int .u64 a1_0, .int .u64 a1_1] 35 (0, 0)) (by (with_reducible repeat (first | refine blk_drewN ?_ _ | refine blk_drew ?_ | refine blk_alloc ?_ _)); exact BK102.out) hb); have n2_ := Aside0.mk (blk_below (g := gb103) (o := .cells #[.int .u64 0, .int .u64 0] 35 (0, 0)) (by (with_reducible repeat (first | refine blk_drewN ?_ _ | refine blk_drew ?_ | refine blk_alloc ?_ _)); exact BK103.out) hb); have n3_ := Aside0.mk (below_step (by repeat (first | (with_reducible first | exact HB.out | apply below_alloc | apply pw_below_drewN | apply below_drew1 | refine below_set ?_ GE101.out | refine below_set ?_ GE102.out | refine below_set ?_ GE103.out) | exact HB.out)) hb); have n4_ := Aside0.mk (hbox); have n5_ := Aside0.mk ((by rw [hg]; exact (below_size (by repeat (first | (with_reducible first | exact HB.out | apply below_alloc | apply pw_below_drewN | apply below_drew1 | refine below_set ?_ GE101.out | refine below_set ?_ GE102.out | refine below_set ?_ GE103.out) | exact HB.out))) : w.heap.size ≤ gb104)); have n6_ := Aside0.mk ((by rw [hg]; exact (below_size (by repeat (first | (with_reducible first | exact HB.out | apply below_alloc | apply pw_below_drewN | apply below_drew1 | refine below_set ?_ GE101.out | refine below_set ?_ GE102.out | refine below_set ?_ GE103.out) | exact HB.out))) : w.heap.size ≤ gb104)); have n7_ := Aside0.mk ((by rw [hg]; exact Nat.ne_of_lt (blk_lt (g := gb101) (o := .cells #[.int .u64 a0_0, .int .u64 a0_1] 35 (0, 0)) (by (with_reducible repeat (first | refine blk_drewN ?_ _ | refine blk_drew ?_ | refine blk_alloc ?_ _)); exact BK101.out)) : gb101 ≠ gb104)); have n8_ := Aside0.mk ((by rw [hg]; exact Nat.ne_of_gt (blk_lt (g := gb101) (o := .cells #[.int .u64 a0_0, .int .u64 a0_1] 35 (0, 0)) (by (with_reducible repeat (first | refine blk_drewN ?_ _ | refine blk_drew ?_ | refine blk_alloc ?_ _)); exact BK101.out)) : gb104 ≠ gb101)); have n9_ := Aside0.mk ((by rw [hg]; exact Nat.ne_of_lt (blk_lt (g := gb102) (o := .cells #[.int .u64 a1_0, .int .u64 a1_1] 35 (0, 0)) (by (with_reducible repeat (first | refine blk_drewN ?_ _ | refine blk_drew ?_ | refine blk_alloc ?_ _)); exact BK102.out)) : gb102 ≠ gb104)); have n10_ := Aside0.mk ((by rw [hg]; exact Nat.ne_of_gt (blk_lt (g := gb102) (o := .cells #[.int .u64 a1_0, .int .u64 a1_1] 35 (0, 0)) (by (with_reducible repeat (first | refine blk_drewN ?_ _ | refine blk_drew ?_ | refine blk_alloc ?_ _)); exact BK102.out)) : gb104 ≠ gb102)); have n11_ := Aside0.mk ((by rw [hg]; exact Nat.ne_of_lt (blk_lt (g := gb103) (o := .cells #[.int .u64 0, .int .u64 0] 35 (0, 0)) (by (with_reducible repeat (first | refine blk_drewN ?_ _ | refine blk_drew ?_ | refine blk_alloc ?_ _)); exact BK103.out)) : gb103 ≠ gb104)); have n12_ := Aside0.mk ((by rw [hg]; exact Nat.ne_of_gt (blk_lt (g := gb103) (o := .cells #[.int .u64 0, .int .u64 0] 35 (0, 0)) (by (with_reducible repeat (first | refine blk_drewN ?_ _ | refine blk_drew ?_ | refine blk_alloc ?_ _)); exact BK103.out)) : gb104 ≠ gb103)); clear BK101; clear BK102; clear BK103; clear HB; have BK101 := n0_; have BK102 := n1_; have BK103 := n2_; have HB := n3_; have BK104 := n4_; have GW104 := n5_; have GE104 := n6_; have NB101_104 := n7_; have NB104_101 := n8_; have NB102_104 := n9_; have NB104_102 := n10_; have NB103_104 := n11_; have NB104_103 := n12_; clear n0_ n1_ n2_ n3_ n4_ n5_ n6_ n7_ n8_ n9_ n10_ n11_ n12_; clear hb hbox hg; have hnb43 := NB102_101.out; have hnc43 := NB101_102.out; have hnb44 := NB102_103.out; have hnc44 := NB103_102.out; have hnb45 := NB102_104.out; have hnc45 := NB104_102.out; have hcz46_0 : w42.cell? ⟨gb102, 0, none⟩ = some (.int .u64 a1_0) := (blk_cell BK102.out 0).trans rfl; have hcz46_1 : w42.cell? ⟨gb102, 1, none⟩ = some (.int .u64 a1_1) := (blk_cell BK102.out 1).trans rfl; have hfz46_0 := blk_frozen BK102.out 0; have hfz46_1 := blk_frozen BK102.out 1) | ((with_reducible refine gate_dst (N := 11) rfl ?_); refine box_event ?hg (N := 11) ?hd (cs := #[.int .u64 0, .int .u64 0]) (t := 35) ?hr ?_; (case hd => rfl); (case hg => rfl); (case hr => first | (go_simp; done) | (go_simp; rfl)); intro gb109 hg w47 hbox hb; have n0_ := Aside0.mk (blk_below (g := gb101) (o := .cells #[.int .u64 a0_0, .int .u64 a0_1] 35 (0, 0)) (by (with_reducible repeat (first | refine blk_drewN ?_ _ | refine blk_drew ?_ | refine blk_alloc ?_ _)); exact BK101.out) hb); have n1_ := Aside0.mk (blk_below (g := gb102) (o := .cells #[.int .u64 a1_0, .int .u64 a1_1] 35 (0, 0)) (by (with_reducible repeat (first | refine blk_drewN ?_ _ | refine blk_drew ?_ | refine blk_alloc ?_ _)); exact BK102.out) hb); have n2_ := Aside0.mk (blk_below (g := gb103) (o := .cells #[.int .u64 0, .int .u64 0] 35 (0, 0)) (by (with_reducible repeat (first | refine blk_drewN ?_ _ | refine blk_drew ?_ | refine blk_alloc ?_ _)); exact BK103.out) hb); have n3_ := Aside0.mk (blk_below (g := gb104) (o := .cells #[.int .u64 0, .int .u64 0] 35 (0, 0)) (by (with_reducible repeat (first | refine blk_drewN ?_ _ | refine blk_drew ?_ | refine blk_alloc ?_ _)); exact BK104.out) hb); have n4_ := Aside0.mk (below_step (by repeat (first | (with_reducible first | exact HB.out | apply below_alloc | apply pw_below_drewN | apply below_drew1 | refine below_set ?_ GE101.out | refine below_set ?_ GE102.out | refine below_set ?_ GE103.out | refine below_set ?_ GE104.out) | exact HB.out)) hb); have n5_ := Aside0.mk (hbox); have n6_ := Aside0.mk ((by rw [hg]; exact (below_size (by repeat (first | (with_reducible first | exact HB.out | apply below_alloc | apply pw_below_drewN | apply below_drew1 | refine below_set ?_ GE101.out | refine below_set ?_ GE102.out | refine below_set ?_ GE103.out | refine below_set ?_ GE104.out) | exact HB.out))) : w.heap.size ≤ gb109)); have n7_ := Aside0.mk ((by rw [hg]; exact (below_size (by repeat (first | (with_reducible first | exact HB.out | apply below_alloc | apply pw_below_drewN | apply below_drew1 | refine below_set ?_ GE101.out | refine below_set ?_ GE102.out | refine below_set ?_ GE103.out | refine below_set ?_ GE104.out) | exact HB.out))) : w.heap.size ≤ gb109)); have n8_ := Aside0.mk ((by rw [hg]; exact Nat.ne_of_lt (blk_lt (g := gb101) (o := .cells #[.int .u64 a0_0, .int .u64 a0_1] 35 (0, 0)) (by (with_reducible repeat (first | refine blk_drewN ?_ _ | refine blk_drew ?_ | refine blk_alloc ?_ _)); exact BK101.out)) : gb101 ≠ gb109)); have n9_ := Aside0.mk ((by rw [hg]; exact Nat.ne_of_gt (blk_lt (g := gb101) (o := .cells #[.int .u64 a0_0, .int .u64 a0_1] 35 (0, 0)) (by (with_reducible repeat (first | refine blk_drewN ?_ _ | refine blk_drew ?_ | refine blk_alloc ?_ _)); exact BK101.out)) : gb109 ≠ gb101)); have n10_ := Aside0.mk ((by rw [hg]; exact Nat.ne_of_lt (blk_lt (g := gb102) (o := .cells #[.int .u64 a1_0, .int .u64 a1_1] 35 (0, 0)) (by (with_reducible repeat (first | refine blk_drewN ?_ _ | refine blk_drew ?_ | refine blk_alloc ?_ _)); exact BK102.out)) : gb102 ≠ gb109)); have n11_ := Aside0.mk ((by rw [hg]; exact Nat.ne_of_gt (blk_lt (g := gb102) (o := .cells #[.int .u64 a1_0, .int .u64 a1_1] 35 (0, 0)) (by (with_reducible repeat (first | refine blk_drewN ?_ _ | refine blk_drew ?_ | refine blk_alloc ?_ _)); exact BK102.out)) : gb109 ≠ gb102)); have n12_ := Aside0.mk ((by rw [hg]; exact Nat.ne_of_lt (blk_lt (g := gb103) (o := .cells #[.int .u64 0, .int .u64 0] 35 (0, 0)) (by (with_reducible repeat (first | refine blk_drewN ?_ _ | refine blk_drew ?_ | refine blk_alloc ?_ _)); exact BK103.out)) : gb103 ≠ gb109)); have n13_ := Aside0.mk ((by rw [hg]; exact Nat.ne_of_gt (blk_lt (g := gb103) (o := .cells #[.int .u64 0, .int .u64 0] 35 (0, 0)) (by (with_reducible repeat (first | refine blk_drewN ?_ _ | refine blk_drew ?_ | refine blk_alloc ?_ _)); exact BK103.out)) : gb109 ≠ gb103)); have n14_ := Aside0.mk ((by rw [hg]; exact Nat.ne_of_lt (blk_lt (g := gb104) (o := .cells #[.int .u64 0, .int .u64 0] 35 (0, 0)) (by (with_reducible repeat (first | refine blk_drewN ?_ _ | refine blk_drew ?_ | refine blk_alloc ?_ _)); exact BK104.out)) : gb104 ≠ gb109)); have n15_ := Aside0.mk ((by rw [hg]; exact Nat.ne_of_gt (blk_lt (g := gb104) (o := .cells #[.int .u64 0, .int .u64 0] 35 (0, 0)) (by (with_reducible repeat (first | refine blk_drewN ?_ _ | refine blk_drew ?_ | refine blk_alloc ?_ _)); exact BK104.out)) : gb109 ≠ gb104)); clear BK101; clear BK102; clear BK103; clear BK104; clear HB; have BK101 := n0_; have BK102 := n1_; have BK103 := n2_; have BK104 := n3_; have HB := n4_; have BK109 := n5_; have GW109 := n6_; have GE109 := n7_; have NB101_109 := n8_; have NB109_101 := n9_; have NB102_109 := n10_; have NB109_102 := n11_; have NB103_109 := n12_; have NB109_103 := n13_; have NB104_109 := n14_; have NB109_104 := n15_; clear n0_ n1_ n2_ n3_ n4_ n5_ n6_ n7_ n8_ n9_ n10_ n11_ n12_ n13_ n14_ n15_; clear hb hbox hg; have hnb48 := NB109_101.out; have hnc48 := NB101_109.out; have hnb49 := NB109_102.out; have hnc49 := NB102_109.out; have hnb50 := NB109_103.out; have hnc50 := NB103_109.out; have hnb51 := NB109_104.out; have hnc51 := NB104_109.out; have hcz52_0 : w47.cell? ⟨gb109, 0, none⟩ = some (.int .u64 0) := (blk_cell BK109.out 0).trans rfl; have hcz52_1 : w47.cell? ⟨gb109, 1, none⟩ = some (.int .u64 0) := (blk_cell BK109.out 1).trans rfl; have hfz52_0 := blk_frozen BK109.out 0; have hfz52_1 := blk_frozen BK109.out 1; have hcz53_0 : w47.cell? ⟨gb102, 0, none⟩ = some (.int .u64 a1_0) := (blk_cell BK102.out 0).trans rfl; have hcz53_1 : w47.cell? ⟨gb102, 1, none⟩ = some (.int .u64 a1_1) := (blk_cell BK102.out 1).trans rfl; have hfz53_0 := blk_frozen BK102.out 0; have hfz53_1 := blk_frozen BK102.out 1) | ((with_reducible refine gate_callee (f := 133) rfl ?_); refine goesL_ (some 47) rfl rfl Try.func133 (by kernel_rfl) rfl #[.int .u64 a1_0] rfl (by (try simp only [List.map_toArray, List.map_cons, List.map_nil]); first | done | rfl | (simp only [List.length_drop, List.length_take]; rfl)) ?_; (with_reducible refine (bits_LeadingZeros64.calls a1_0 t110 _ A38.out).mono ?_); rintro e w54 ⟨rfl, hb⟩; refine ⟨_, rfl, ?_⟩; have n0_ := Aside0.mk (blk_below (g := gb101) (o := .cells #[.int .u64 a0_0, .int .u64 a0_1] 35 (0, 0)) (by (with_reducible repeat (first | refine blk_drewN ?_ _ | refine blk_drew ?_ | refine blk_alloc ?_ _)); refine blk_far ?_ NB101_109.out _; (with_reducible repeat (first | refine blk_drewN ?_ _ | refine blk_drew ?_ | refine blk_alloc ?_ _)); refine blk_far ?_ NB101_109.out _; (with_reducible repeat (first | refine blk_drewN ?_ _ | refine blk_drew ?_ | refine blk_alloc ?_ _)); exact BK101.out) hb); have n1_ := Aside0.mk (blk_below (g := gb102) (o := .cells #[.int .u64 a1_0, .int .u64 a1_1] 35 (0, 0)) (by (with_reducible repeat (first | refine blk_drewN ?_ _ | refine blk_drew ?_ | refine blk_alloc ?_ _)); refine blk_far ?_ NB102_109.out _; (with_reducible repeat (first | refine blk_drewN ?_ _ | refine blk_drew ?_ | refine blk_alloc ?_ _)); refine blk_far ?_ NB102_109.out _; (with_reducible repeat (first | refine blk_drewN ?_ _ | refine blk_drew ?_ | refine blk_alloc ?_ _)); exact BK102.out) hb); have n2_ := Aside0.mk (blk_below (g := gb103) (o := .cells #[.int .u64 0, .int .u64 0] 35 (0, 0)) (by (with_reducible repeat (first | refine blk_drewN ?_ _ | refine blk_drew ?_ | refine blk_alloc ?_ _)); refine blk_far ?_ NB103_109.out _; (with_reducible repeat (first | refine blk_drewN ?_ _ | refine blk_drew ?_ | refine blk_alloc ?_ _)); refine blk_far ?_ NB103_109.out _; (with_reducible repeat (first | refine blk_drewN ?_ _ | refine blk_drew ?_ | refine blk_alloc ?_ _)); exact BK103.out) hb); have n3_ := Aside0.mk (blk_below (g := gb104) (o := .cells #[.int .u64 0, .int .u64 0] 35 (0, 0)) (by (with_reducible repeat (first | refine blk_drewN ?_ _ | refine blk_drew ?_ | refine blk_alloc ?_ _)); refine blk_far ?_ NB104_109.out _; (with_reducible repeat (first | refine blk_drewN ?_ _ | refine blk_drew ?_ | refine blk_alloc ?_ _)); refine blk_far ?_ NB104_109.out _; (with_reducible repeat (first | refine blk_drewN ?_ _ | refine blk_drew ?_ | refine blk_alloc ?_ _)); exact BK104.out) hb); have n4_ := Aside0.mk (blk_below (g := gb109) (o := .cells #[.int .u64 0, .int .u64 0] 35 (0, 0)) (by (with_reducible repeat (first | refine blk_drewN ?_ _ | refine blk_drew ?_ | refine blk_alloc ?_ _)); refine blk_put (cs := #[.int .u64 0, .int .u64 0]) ?_ 1 _ rfl; (with_reducible repeat (first | refine blk_drewN ?_ _ | refine blk_drew ?_ | refine blk_alloc ?_ _)); refine blk_put (cs := #[.int .u64 0, .int .u64 0]) ?_ 0 _ rfl; (with_reducible repeat (first | refine blk_drewN ?_ _ | refine blk_drew ?_ | refine blk_alloc ?_ _)); exact BK109.out) hb); have n5_ := Aside0.mk (below_step (by repeat (first | (with_reducible first | exact HB.out | apply below_alloc | apply pw_below_drewN | apply below_drew1 | refine below_set ?_ GE101.out | refine below_set ?_ GE102.out | refine below_set ?_ GE103.out | refine below_set ?_ GE104.out | refine below_set ?_ GE109.out) | exact HB.out)) hb); clear BK101; clear BK102; clear BK103; clear BK104; clear BK109; clear HB; have BK101 := n0_; have BK102 := n1_; have BK103 := n2_; have BK104 := n3_; have BK109 := n4_; have HB := n5_; clear n0_ n1_ n2_ n3_ n4_ n5_; (try clear hb); (try clear hb2); (try clear hk); (try clear hi)))
      go_loopg [12] k (fun kq v12 w' => ∃ (x12_1 : Int) (x102000_1 : Int) (x102001_1 : Int) (x110001_1 : Int), v12 = .int .i64 x12_1 ∧ Aside0 (divide_Div.l0 kq x12_1 x102000_1 x102001_1 a1_0 a1_1 0 x110001_1 = some (r1, r2, r3, r4, r5)) ∧ Aside0 (kq ≤ k) ∧ Aside0 (w'.heap[gb101]? = some (.cells #[.int .u64 x102000_1, .int .u64 x102001_1] 35 (0, 0))) ∧ Aside0 (w'.heap[gb102]? = some (.cells #[.int .u64 a1_0, .int .u64 a1_1] 35 (0, 0))) ∧ Aside0 (w'.heap[gb103]? = some (.cells #[.int .u64 0, .int .u64 0] 35 (0, 0))) ∧ Aside0 (w'.heap[gb104]? = some (.cells #[.int .u64 0, .int .u64 0] 35 (0, 0))) ∧ Aside0 (w'.heap[gb109]? = some (.cells #[.int .u64 0, .int .u64 x110001_1] 35 (0, 0))) ∧ Aside0 (Below w.heap.size w w'))
      case atStart => exact ⟨(t110), (a0_0), (a0_1), (0), (by first | rfl | (simp; done) | (simp [*]; done)), H', ⟨Nat.le_refl _⟩, ⟨by (with_reducible repeat (first | refine blk_drewN ?_ _ | refine blk_drew ?_ | refine blk_alloc ?_ _)); exact BK101.out⟩, ⟨by (with_reducible repeat (first | refine blk_drewN ?_ _ | refine blk_drew ?_ | refine blk_alloc ?_ _)); exact BK102.out⟩, ⟨by (with_reducible repeat (first | refine blk_drewN ?_ _ | refine blk_drew ?_ | refine blk_alloc ?_ _)); exact BK103.out⟩, ⟨by (with_reducible repeat (first | refine blk_drewN ?_ _ | refine blk_drew ?_ | refine blk_alloc ?_ _)); exact BK104.out⟩, ⟨by (with_reducible repeat (first | refine blk_drewN ?_ _ | refine blk_drew ?_ | refine blk_alloc ?_ _)); exact BK109.out⟩, ⟨by repeat (first | (with_reducible first | exact HB.out | apply below_alloc | apply pw_below_drewN | apply below_drew1 | refine below_set ?_ GE101.out | refine below_set ?_ GE102.out | refine below_set ?_ GE103.out | refine below_set ?_ GE104.out | refine below_set ?_ GE109.out) | exact HB.out)⟩⟩
      case round =>
        clear H'
        try clear c1
        try clear c2
        try clear p2
        try clear c3
        try clear c3b0
        try clear c3b1
        try clear c3b2
        try clear c4
        try clear c5
        try clear c8
        try clear c9
        try clear c10
        try clear c11
        try clear c12
        try clear c13
        try clear c15
        try clear c17
        try clear c17b0
        try clear c17b1
        try clear c24
        try clear c25
        try clear c26
        try clear c28
        try clear c29
        try clear c35
        try clear c43
        try clear c44
        try clear c45
        try clear c48
        try clear c49
        try clear c50
        try clear c51
        try clear hcz11_0
        try clear hcz11_1
        try clear hcz14_0
        try clear hcz14_1
        try clear hcz16_0
        try clear hcz16_1
        try clear hcz27_0
        try clear hcz27_1
        try clear hcz30_0
        try clear hcz30_1
        try clear hcz32_0
        try clear hcz32_1
        try clear hcz33_0
        try clear hcz33_1
        try clear hcz36_0
        try clear hcz36_1
        try clear hcz37_0
        try clear hcz37_1
        try clear hcz46_0
        try clear hcz46_1
        try clear hcz52_0
        try clear hcz52_1
        try clear hcz53_0
        try clear hcz53_1
        try clear hfz11_0
        try clear hfz11_1
        try clear hfz14_0
        try clear hfz14_1
        try clear hfz16_0
        try clear hfz16_1
        try clear hfz27_0
        try clear hfz27_1
        try clear hfz30_0
        try clear hfz30_1
        try clear hfz32_0
        try clear hfz32_1
        try clear hfz33_0
        try clear hfz33_1
        try clear hfz36_0
        try clear hfz36_1
        try clear hfz37_0
        try clear hfz37_1
        try clear hfz46_0
        try clear hfz46_1
        try clear hfz52_0
        try clear hfz52_1
        try clear hfz53_0
        try clear hfz53_1
        obtain ⟨x12_1, x102000_1, x102001_1, x110001_1, rfl, HA, HK1, BK101, BK102, BK103, BK104, BK109, HB⟩ := hrel
        cases gk with
        | zero => exact absurd HA.out (by simp [divide_Div.l0])
        | succ k1 =>
          have H := HA.out
          clear HA
          simp only [divide_Div.l0] at H
          by_cases c55 : x12_1 ≥ 0
          · rw [if_pos c55] at H
            have c55b0 : decide (0 ≤ x12_1) = true := decide_eq_true c55
            clear c55
            replace H := Option.bind_eq_some_iff.mp H
            obtain ⟨⟨t111, t112⟩, A560, H⟩ := H
            replace H : ((wide_Less.f x102000_1 x102001_1 t111 t112).bind fun t114 => (if t114 = true then (divide_Div.l0 k1 (wrap64 (x12_1 - 1)) x102000_1 x102001_1 a1_0 a1_1 0 x110001_1) else ((wide_Sub.f x102000_1 x102001_1 t111 t112).bind fun bt115 => (if 0 ≤ x12_1 then (divide_Div.l0 k1 (wrap64 (x12_1 - 1)) bt115.1 bt115.2.1 a1_0 a1_1 0 (Go.bits .or .u64 x110001_1 (shl .u64 1 x12_1))) else (none))))) = some (r1, r2, r3, r4, r5) := H
            have A56 := Aside0.mk A560
            clear A560
            replace H := Option.bind_eq_some_iff.mp H
            obtain ⟨t114, A570, H⟩ := H
            replace H : (if t114 = true then (divide_Div.l0 k1 (wrap64 (x12_1 - 1)) x102000_1 x102001_1 a1_0 a1_1 0 x110001_1) else ((wide_Sub.f x102000_1 x102001_1 t111 t112).bind fun bt115 => (if 0 ≤ x12_1 then (divide_Div.l0 k1 (wrap64 (x12_1 - 1)) bt115.1 bt115.2.1 a1_0 a1_1 0 (Go.bits .or .u64 x110001_1 (shl .u64 1 x12_1))) else (none)))) = some (r1, r2, r3, r4, r5) := H
            have A57 := Aside0.mk A570
            clear A570
            by_cases c58 : t114 = true
            · subst c58
              have H1 : (divide_Div.l0 k1 (wrap64 (x12_1 - 1)) x102000_1 x102001_1 a1_0 a1_1 0 x110001_1) = some (r1, r2, r3, r4, r5) := by rw [if_pos rfl] at H; exact H
              clear H
              have H := H1
              clear H1
              have H' := Aside0.mk H
              clear H
              have hnb59 := NB102_101.out
              have hnc59 := NB101_102.out
              have hnb60 := NB102_103.out
              have hnc60 := NB103_102.out
              have hnb61 := NB102_104.out
              have hnc61 := NB104_102.out
              have hnb62 := NB102_109.out
              have hnc62 := NB109_102.out
              have hcz63_0 : wr.cell? ⟨gb102, 0, none⟩ = some (.int .u64 a1_0) := (blk_cell BK102.out 0).trans rfl
              have hcz63_1 : wr.cell? ⟨gb102, 1, none⟩ = some (.int .u64 a1_1) := (blk_cell BK102.out 1).trans rfl
              have hfz63_0 := blk_frozen BK102.out 0
              have hfz63_1 := blk_frozen BK102.out 1
              go_wp2_with (first | ((with_reducible refine gate_callee (f := 134) rfl ?_); refine goesL_ (some 54) rfl rfl Try.func134 (by kernel_rfl) rfl #[.agg #[.int .u64 a1_0, .int .u64 a1_1], .int .i64 x12_1] rfl (by (try simp only [List.map_toArray, List.map_cons, List.map_nil]); first | done | rfl | (simp only [List.length_drop, List.length_take]; rfl)) ?_; (with_reducible refine (divide_shifted.calls a1_0 a1_1 x12_1 t111 t112 _ A56.out).mono ?_); rintro e w64 ⟨rfl, hb⟩; refine ⟨_, rfl, ?_⟩; have n0_ := Aside0.mk (blk_below (g := gb101) (o := .cells #[.int .u64 x102000_1, .int .u64 x102001_1] 35 (0, 0)) (by (with_reducible repeat (first | refine blk_drewN ?_ _ | refine blk_drew ?_ | refine blk_alloc ?_ _)); exact BK101.out) hb); have n1_ := Aside0.mk (blk_below (g := gb102) (o := .cells #[.int .u64 a1_0, .int .u64 a1_1] 35 (0, 0)) (by (with_reducible repeat (first | refine blk_drewN ?_ _ | refine blk_drew ?_ | refine blk_alloc ?_ _)); exact BK102.out) hb); have n2_ := Aside0.mk (blk_below (g := gb103) (o := .cells #[.int .u64 0, .int .u64 0] 35 (0, 0)) (by (with_reducible repeat (first | refine blk_drewN ?_ _ | refine blk_drew ?_ | refine blk_alloc ?_ _)); exact BK103.out) hb); have n3_ := Aside0.mk (blk_below (g := gb104) (o := .cells #[.int .u64 0, .int .u64 0] 35 (0, 0)) (by (with_reducible repeat (first | refine blk_drewN ?_ _ | refine blk_drew ?_ | refine blk_alloc ?_ _)); exact BK104.out) hb); have n4_ := Aside0.mk (blk_below (g := gb109) (o := .cells #[.int .u64 0, .int .u64 x110001_1] 35 (0, 0)) (by (with_reducible repeat (first | refine blk_drewN ?_ _ | refine blk_drew ?_ | refine blk_alloc ?_ _)); exact BK109.out) hb); have n5_ := Aside0.mk (below_step (by repeat (first | (with_reducible first | exact HB.out | apply below_alloc | apply pw_below_drewN | apply below_drew1 | refine below_set ?_ GE101.out | refine below_set ?_ GE102.out | refine below_set ?_ GE103.out | refine below_set ?_ GE104.out | refine below_set ?_ GE109.out) | exact HB.out)) hb); clear BK101; clear BK102; clear BK103; clear BK104; clear BK109; clear HB; have BK101 := n0_; have BK102 := n1_; have BK103 := n2_; have BK104 := n3_; have BK109 := n4_; have HB := n5_; clear n0_ n1_ n2_ n3_ n4_ n5_; (try clear hb); (try clear hb2); (try clear hk); (try clear hi)) | ((with_reducible refine gate_dst (N := 13) rfl ?_); refine box_event ?hg (N := 13) ?hd (cs := #[.int .u64 0, .int .u64 0]) (t := 35) ?hr ?_; (case hd => rfl); (case hg => rfl); (case hr => first | (go_simp; done) | (go_simp; rfl)); intro gb113 hg w65 hbox hb; have n0_ := Aside0.mk (blk_below (g := gb101) (o := .cells #[.int .u64 x102000_1, .int .u64 x102001_1] 35 (0, 0)) (by (with_reducible repeat (first | refine blk_drewN ?_ _ | refine blk_drew ?_ | refine blk_alloc ?_ _)); exact BK101.out) hb); have n1_ := Aside0.mk (blk_below (g := gb102) (o := .cells #[.int .u64 a1_0, .int .u64 a1_1] 35 (0, 0)) (by (with_reducible repeat (first | refine blk_drewN ?_ _ | refine blk_drew ?_ | refine blk_alloc ?_ _)); exact BK102.out) hb); have n2_ := Aside0.mk (blk_below (g := gb103) (o := .cells #[.int .u64 0, .int .u64 0] 35 (0, 0)) (by (with_reducible repeat (first | refine blk_drewN ?_ _ | refine blk_drew ?_ | refine blk_alloc ?_ _)); exact BK103.out) hb); have n3_ := Aside0.mk (blk_below (g := gb104) (o := .cells #[.int .u64 0, .int .u64 0] 35 (0, 0)) (by (with_reducible repeat (first | refine blk_drewN ?_ _ | refine blk_drew ?_ | refine blk_alloc ?_ _)); exact BK104.out) hb); have n4_ := Aside0.mk (blk_below (g := gb109) (o := .cells #[.int .u64 0, .int .u64 x110001_1] 35 (0, 0)) (by (with_reducible repeat (first | refine blk_drewN ?_ _ | refine blk_drew ?_ | refine blk_alloc ?_ _)); exact BK109.out) hb); have n5_ := Aside0.mk (below_step (by repeat (first | (with_reducible first | exact HB.out | apply below_alloc | apply pw_below_drewN | apply below_drew1 | refine below_set ?_ GE101.out | refine below_set ?_ GE102.out | refine below_set ?_ GE103.out | refine below_set ?_ GE104.out | refine below_set ?_ GE109.out) | exact HB.out)) hb); have n6_ := Aside0.mk (hbox); have n7_ := Aside0.mk ((by rw [hg]; exact (below_size (by repeat (first | (with_reducible first | exact HB.out | apply below_alloc | apply pw_below_drewN | apply below_drew1 | refine below_set ?_ GE101.out | refine below_set ?_ GE102.out | refine below_set ?_ GE103.out | refine below_set ?_ GE104.out | refine below_set ?_ GE109.out) | exact HB.out))) : w.heap.size ≤ gb113)); have n8_ := Aside0.mk ((by rw [hg]; exact (below_size (by repeat (first | (with_reducible first | exact HB.out | apply below_alloc | apply pw_below_drewN | apply below_drew1 | refine below_set ?_ GE101.out | refine below_set ?_ GE102.out | refine below_set ?_ GE103.out | refine below_set ?_ GE104.out | refine below_set ?_ GE109.out) | exact HB.out))) : w.heap.size ≤ gb113)); have n9_ := Aside0.mk ((by rw [hg]; exact Nat.ne_of_lt (blk_lt (g := gb101) (o := .cells #[.int .u64 x102000_1, .int .u64 x102001_1] 35 (0, 0)) (by (with_reducible repeat (first | refine blk_drewN ?_ _ | refine blk_drew ?_ | refine blk_alloc ?_ _)); exact BK101.out)) : gb101 ≠ gb113)); have n10_ := Aside0.mk ((by rw [hg]; exact Nat.ne_of_gt (blk_lt (g := gb101) (o := .cells #[.int .u64 x102000_1, .int .u64 x102001_1] 35 (0, 0)) (by (with_reducible repeat (first | refine blk_drewN ?_ _ | refine blk_drew ?_ | refine blk_alloc ?_ _)); exact BK101.out)) : gb113 ≠ gb101)); have n11_ := Aside0.mk ((by rw [hg]; exact Nat.ne_of_lt (blk_lt (g := gb102) (o := .cells #[.int .u64 a1_0, .int .u64 a1_1] 35 (0, 0)) (by (with_reducible repeat (first | refine blk_drewN ?_ _ | refine blk_drew ?_ | refine blk_alloc ?_ _)); exact BK102.out)) : gb102 ≠ gb113)); have n12_ := Aside0.mk ((by rw [hg]; exact Nat.ne_of_gt (blk_lt (g := gb102) (o := .cells #[.int .u64 a1_0, .int .u64 a1_1] 35 (0, 0)) (by (with_reducible repeat (first | refine blk_drewN ?_ _ | refine blk_drew ?_ | refine blk_alloc ?_ _)); exact BK102.out)) : gb113 ≠ gb102)); have n13_ := Aside0.mk ((by rw [hg]; exact Nat.ne_of_lt (blk_lt (g := gb103) (o := .cells #[.int .u64 0, .int .u64 0] 35 (0, 0)) (by (with_reducible repeat (first | refine blk_drewN ?_ _ | refine blk_drew ?_ | refine blk_alloc ?_ _)); exact BK103.out)) : gb103 ≠ gb113)); have n14_ := Aside0.mk ((by rw [hg]; exact Nat.ne_of_gt (blk_lt (g := gb103) (o := .cells #[.int .u64 0, .int .u64 0] 35 (0, 0)) (by (with_reducible repeat (first | refine blk_drewN ?_ _ | refine blk_drew ?_ | refine blk_alloc ?_ _)); exact BK103.out)) : gb113 ≠ gb103)); have n15_ := Aside0.mk ((by rw [hg]; exact Nat.ne_of_lt (blk_lt (g := gb104) (o := .cells #[.int .u64 0, .int .u64 0] 35 (0, 0)) (by (with_reducible repeat (first | refine blk_drewN ?_ _ | refine blk_drew ?_ | refine blk_alloc ?_ _)); exact BK104.out)) : gb104 ≠ gb113)); have n16_ := Aside0.mk ((by rw [hg]; exact Nat.ne_of_gt (blk_lt (g := gb104) (o := .cells #[.int .u64 0, .int .u64 0] 35 (0, 0)) (by (with_reducible repeat (first | refine blk_drewN ?_ _ | refine blk_drew ?_ | refine blk_alloc ?_ _)); exact BK104.out)) : gb113 ≠ gb104)); have n17_ := Aside0.mk ((by rw [hg]; exact Nat.ne_of_lt (blk_lt (g := gb109) (o := .cells #[.int .u64 0, .int .u64 x110001_1] 35 (0, 0)) (by (with_reducible repeat (first | refine blk_drewN ?_ _ | refine blk_drew ?_ | refine blk_alloc ?_ _)); exact BK109.out)) : gb109 ≠ gb113)); have n18_ := Aside0.mk ((by rw [hg]; exact Nat.ne_of_gt (blk_lt (g := gb109) (o := .cells #[.int .u64 0, .int .u64 x110001_1] 35 (0, 0)) (by (with_reducible repeat (first | refine blk_drewN ?_ _ | refine blk_drew ?_ | refine blk_alloc ?_ _)); exact BK109.out)) : gb113 ≠ gb109)); clear BK101; clear BK102; clear BK103; clear BK104; clear BK109; clear HB; have BK101 := n0_; have BK102 := n1_; have BK103 := n2_; have BK104 := n3_; have BK109 := n4_; have HB := n5_; have BK113 := n6_; have GW113 := n7_; have GE113 := n8_; have NB101_113 := n9_; have NB113_101 := n10_; have NB102_113 := n11_; have NB113_102 := n12_; have NB103_113 := n13_; have NB113_103 := n14_; have NB104_113 := n15_; have NB113_104 := n16_; have NB109_113 := n17_; have NB113_109 := n18_; clear n0_ n1_ n2_ n3_ n4_ n5_ n6_ n7_ n8_ n9_ n10_ n11_ n12_ n13_ n14_ n15_ n16_ n17_ n18_; clear hb hbox hg; have hnb66 := NB113_101.out; have hnc66 := NB101_113.out; have hnb67 := NB113_102.out; have hnc67 := NB102_113.out; have hnb68 := NB113_103.out; have hnc68 := NB103_113.out; have hnb69 := NB113_104.out; have hnc69 := NB104_113.out; have hnb70 := NB113_109.out; have hnc70 := NB109_113.out; have hcz71_0 : w65.cell? ⟨gb113, 0, none⟩ = some (.int .u64 0) := (blk_cell BK113.out 0).trans rfl; have hcz71_1 : w65.cell? ⟨gb113, 1, none⟩ = some (.int .u64 0) := (blk_cell BK113.out 1).trans rfl; have hfz71_0 := blk_frozen BK113.out 0; have hfz71_1 := blk_frozen BK113.out 1; have hnb72 := NB101_103.out; have hnc72 := NB103_101.out; have hnb73 := NB101_104.out; have hnc73 := NB104_101.out; have hnb74 := NB101_109.out; have hnc74 := NB109_101.out; have hcz75_0 : w65.cell? ⟨gb101, 0, none⟩ = some (.int .u64 x102000_1) := (blk_cell BK101.out 0).trans rfl; have hcz75_1 : w65.cell? ⟨gb101, 1, none⟩ = some (.int .u64 x102001_1) := (blk_cell BK101.out 1).trans rfl; have hfz75_0 := blk_frozen BK101.out 0; have hfz75_1 := blk_frozen BK101.out 1) | ((with_reducible refine gate_callee (f := 50) rfl ?_); refine goesL_ (some 57) rfl rfl Try.func50 (by kernel_rfl) rfl #[.agg #[.int .u64 x102000_1, .int .u64 x102001_1], .agg #[.int .u64 t111, .int .u64 t112]] rfl (by (try simp only [List.map_toArray, List.map_cons, List.map_nil]); first | done | rfl | (simp only [List.length_drop, List.length_take]; rfl)) ?_; (with_reducible refine (wide_Less.calls x102000_1 x102001_1 t111 t112 true _ A57.out).mono ?_); rintro e w76 ⟨rfl, hb⟩; refine ⟨_, rfl, ?_⟩; have n0_ := Aside0.mk (blk_below (g := gb101) (o := .cells #[.int .u64 x102000_1, .int .u64 x102001_1] 35 (0, 0)) (by (with_reducible repeat (first | refine blk_drewN ?_ _ | refine blk_drew ?_ | refine blk_alloc ?_ _)); refine blk_far ?_ NB101_113.out _; (with_reducible repeat (first | refine blk_drewN ?_ _ | refine blk_drew ?_ | refine blk_alloc ?_ _)); refine blk_far ?_ NB101_113.out _; (with_reducible repeat (first | refine blk_drewN ?_ _ | refine blk_drew ?_ | refine blk_alloc ?_ _)); exact BK101.out) hb); have n1_ := Aside0.mk (blk_below (g := gb102) (o := .cells #[.int .u64 a1_0, .int .u64 a1_1] 35 (0, 0)) (by (with_reducible repeat (first | refine blk_drewN ?_ _ | refine blk_drew ?_ | refine blk_alloc ?_ _)); refine blk_far ?_ NB102_113.out _; (with_reducible repeat (first | refine blk_drewN ?_ _ | refine blk_drew ?_ | refine blk_alloc ?_ _)); refine blk_far ?_ NB102_113.out _; (with_reducible repeat (first | refine blk_drewN ?_ _ | refine blk_drew ?_ | refine blk_alloc ?_ _)); exact BK102.out) hb); have n2_ := Aside0.mk (blk_below (g := gb103) (o := .cells #[.int .u64 0, .int .u64 0] 35 (0, 0)) (by (with_reducible repeat (first | refine blk_drewN ?_ _ | refine blk_drew ?_ | refine blk_alloc ?_ _)); refine blk_far ?_ NB103_113.out _; (with_reducible repeat (first | refine blk_drewN ?_ _ | refine blk_drew ?_ | refine blk_alloc ?_ _)); refine blk_far ?_ NB103_113.out _; (with_reducible repeat (first | refine blk_drewN ?_ _ | refine blk_drew ?_ | refine blk_alloc ?_ _)); exact BK103.out) hb); have n3_ := Aside0.mk (blk_below (g := gb104) (o := .cells #[.int .u64 0, .int .u64 0] 35 (0, 0)) (by (with_reducible repeat (first | refine blk_drewN ?_ _ | refine blk_drew ?_ | refine blk_alloc ?_ _)); refine blk_far ?_ NB104_113.out _; (with_reducible repeat (first | refine blk_drewN ?_ _ | refine blk_drew ?_ | refine blk_alloc ?_ _)); refine blk_far ?_ NB104_113.out _; (with_reducible repeat (first | refine blk_drewN ?_ _ | refine blk_drew ?_ | refine blk_alloc ?_ _)); exact BK104.out) hb); have n4_ := Aside0.mk (blk_below (g := gb109) (o := .cells #[.int .u64 0, .int .u64 x110001_1] 35 (0, 0)) (by (with_reducible repeat (first | refine blk_drewN ?_ _ | refine blk_drew ?_ | refine blk_alloc ?_ _)); refine blk_far ?_ NB109_113.out _; (with_reducible repeat (first | refine blk_drewN ?_ _ | refine blk_drew ?_ | refine blk_alloc ?_ _)); refine blk_far ?_ NB109_113.out _; (with_reducible repeat (first | refine blk_drewN ?_ _ | refine blk_drew ?_ | refine blk_alloc ?_ _)); exact BK109.out) hb); have n5_ := Aside0.mk (blk_below (g := gb113) (o := .cells #[.int .u64 t111, .int .u64 t112] 35 (0, 0)) (by (with_reducible repeat (first | refine blk_drewN ?_ _ | refine blk_drew ?_ | refine blk_alloc ?_ _)); refine blk_put (cs := #[.int .u64 t111, .int .u64 0]) ?_ 1 _ rfl; (with_reducible repeat (first | refine blk_drewN ?_ _ | refine blk_drew ?_ | refine blk_alloc ?_ _)); refine blk_put (cs := #[.int .u64 0, .int .u64 0]) ?_ 0 _ rfl; (with_reducible repeat (first | refine blk_drewN ?_ _ | refine blk_drew ?_ | refine blk_alloc ?_ _)); exact BK113.out) hb); have n6_ := Aside0.mk (below_step (by repeat (first | (with_reducible first | exact HB.out | apply below_alloc | apply pw_below_drewN | apply below_drew1 | refine below_set ?_ GE101.out | refine below_set ?_ GE102.out | refine below_set ?_ GE103.out | refine below_set ?_ GE104.out | refine below_set ?_ GE109.out | refine below_set ?_ GE113.out) | exact HB.out)) hb); clear BK101; clear BK102; clear BK103; clear BK104; clear BK109; clear BK113; clear HB; have BK101 := n0_; have BK102 := n1_; have BK103 := n2_; have BK104 := n3_; have BK109 := n4_; have BK113 := n5_; have HB := n6_; clear n0_ n1_ n2_ n3_ n4_ n5_ n6_; (try clear hb); (try clear hb2); (try clear hk); (try clear hi)))
              go_roundg k1
              case measure => have := HK1.out; omega
              case rel => exact ⟨(wrap64 (x12_1 - 1)), (x102000_1), (x102001_1), (x110001_1), (by first | rfl | (simp; done) | (simp [*]; done)), H', ⟨by have := HK1.out; omega⟩, ⟨by (with_reducible repeat (first | refine blk_drewN ?_ _ | refine blk_drew ?_ | refine blk_alloc ?_ _)); exact BK101.out⟩, ⟨by (with_reducible repeat (first | refine blk_drewN ?_ _ | refine blk_drew ?_ | refine blk_alloc ?_ _)); exact BK102.out⟩, ⟨by (with_reducible repeat (first | refine blk_drewN ?_ _ | refine blk_drew ?_ | refine blk_alloc ?_ _)); exact BK103.out⟩, ⟨by (with_reducible repeat (first | refine blk_drewN ?_ _ | refine blk_drew ?_ | refine blk_alloc ?_ _)); exact BK104.out⟩, ⟨by (with_reducible repeat (first | refine blk_drewN ?_ _ | refine blk_drew ?_ | refine blk_alloc ?_ _)); exact BK109.out⟩, ⟨by repeat (first | (with_reducible first | exact HB.out | apply below_alloc | apply pw_below_drewN | apply below_drew1 | refine below_set ?_ GE101.out | refine below_set ?_ GE102.out | refine below_set ?_ GE103.out | refine below_set ?_ GE104.out | refine below_set ?_ GE109.out | refine below_set ?_ GE113.out) | exact HB.out)⟩⟩
            · replace c58 := Bool.eq_false_iff.mpr c58
              subst c58
              have H1 : ((wide_Sub.f x102000_1 x102001_1 t111 t112).bind fun bt115 => (if 0 ≤ x12_1 then (divide_Div.l0 k1 (wrap64 (x12_1 - 1)) bt115.1 bt115.2.1 a1_0 a1_1 0 (Go.bits .or .u64 x110001_1 (shl .u64 1 x12_1))) else (none))) = some (r1, r2, r3, r4, r5) := by rw [if_neg (show ¬ (false = true) by decide)] at H; exact H
              clear H
              have H := H1
              clear H1
              replace H := Option.bind_eq_some_iff.mp H
              obtain ⟨⟨t115, t116, t117⟩, A770, H⟩ := H
              replace H : (if 0 ≤ x12_1 then (divide_Div.l0 k1 (wrap64 (x12_1 - 1)) t115 t116 a1_0 a1_1 0 (Go.bits .or .u64 x110001_1 (shl .u64 1 x12_1))) else (none)) = some (r1, r2, r3, r4, r5) := H
              have A77 := Aside0.mk A770
              clear A770
              by_cases c78 : 0 ≤ x12_1
              · rw [if_pos c78] at H
                have c78b0 := eq_true c78
                have c78b1 : decide (0 ≤ x12_1) = true := decide_eq_true c78
                clear c78
                obtain ⟨ji79, hji79⟩ : ∃ j_ : Int, (shl .u64 1 x12_1) = j_ := ⟨_, rfl⟩
                replace H : (divide_Div.l0 k1 (wrap64 (x12_1 - 1)) t115 t116 a1_0 a1_1 0 (Go.bits .or .u64 x110001_1 (ji79))) = some (r1, r2, r3, r4, r5) := by first | (rw [hji79] at H; exact H) | (simp only [hji79] at H ⊢; exact H)
                (try rw [hji79] at A56)
                (try rw [hji79] at A57)
                (try rw [hji79] at A77)
                have hji79_ : (IntKind.u64.wrap (1 * 2 ^ min x12_1.toNat 64)) = ji79 := hji79
                have hji79z : x12_1 ≤ 64 → (IntKind.u64.wrap (1 * 2 ^ x12_1.toNat)) = ji79 := shl_small hji79
                have hji79u : (IntKind.u64.wrap (2 ^ min x12_1.toNat 64)) = ji79 := by have h_ := hji79_; rw [Int.one_mul] at h_; exact h_
                have hji79v : x12_1 ≤ 64 → (IntKind.u64.wrap (2 ^ x12_1.toNat)) = ji79 := fun hle_ => by have h_ := hji79z hle_; rw [Int.one_mul] at h_; exact h_
                have H' := Aside0.mk H
                clear H
                have hnb80 := NB102_101.out
                have hnc80 := NB101_102.out
                have hnb81 := NB102_103.out
                have hnc81 := NB103_102.out
                have hnb82 := NB102_104.out
                have hnc82 := NB104_102.out
                have hnb83 := NB102_109.out
                have hnc83 := NB109_102.out
                have hcz84_0 : wr.cell? ⟨gb102, 0, none⟩ = some (.int .u64 a1_0) := (blk_cell BK102.out 0).trans rfl
                have hcz84_1 : wr.cell? ⟨gb102, 1, none⟩ = some (.int .u64 a1_1) := (blk_cell BK102.out 1).trans rfl
                have hfz84_0 := blk_frozen BK102.out 0
                have hfz84_1 := blk_frozen BK102.out 1
                try go_wp2_with (first | ((with_reducible refine gate_callee (f := 134) rfl ?_); refine goesL_ (some 54) rfl rfl Try.func134 (by kernel_rfl) rfl #[.agg #[.int .u64 a1_0, .int .u64 a1_1], .int .i64 x12_1] rfl (by (try simp only [List.map_toArray, List.map_cons, List.map_nil]); first | done | rfl | (simp only [List.length_drop, List.length_take]; rfl)) ?_; (with_reducible refine (divide_shifted.calls a1_0 a1_1 x12_1 t111 t112 _ A56.out).mono ?_); rintro e w85 ⟨rfl, hb⟩; refine ⟨_, rfl, ?_⟩; have n0_ := Aside0.mk (blk_below (g := gb101) (o := .cells #[.int .u64 x102000_1, .int .u64 x102001_1] 35 (0, 0)) (by (with_reducible repeat (first | refine blk_drewN ?_ _ | refine blk_drew ?_ | refine blk_alloc ?_ _)); exact BK101.out) hb); have n1_ := Aside0.mk (blk_below (g := gb102) (o := .cells #[.int .u64 a1_0, .int .u64 a1_1] 35 (0, 0)) (by (with_reducible repeat (first | refine blk_drewN ?_ _ | refine blk_drew ?_ | refine blk_alloc ?_ _)); exact BK102.out) hb); have n2_ := Aside0.mk (blk_below (g := gb103) (o := .cells #[.int .u64 0, .int .u64 0] 35 (0, 0)) (by (with_reducible repeat (first | refine blk_drewN ?_ _ | refine blk_drew ?_ | refine blk_alloc ?_ _)); exact BK103.out) hb); have n3_ := Aside0.mk (blk_below (g := gb104) (o := .cells #[.int .u64 0, .int .u64 0] 35 (0, 0)) (by (with_reducible repeat (first | refine blk_drewN ?_ _ | refine blk_drew ?_ | refine blk_alloc ?_ _)); exact BK104.out) hb); have n4_ := Aside0.mk (blk_below (g := gb109) (o := .cells #[.int .u64 0, .int .u64 x110001_1] 35 (0, 0)) (by (with_reducible repeat (first | refine blk_drewN ?_ _ | refine blk_drew ?_ | refine blk_alloc ?_ _)); exact BK109.out) hb); have n5_ := Aside0.mk (below_step (by repeat (first | (with_reducible first | exact HB.out | apply below_alloc | apply pw_below_drewN | apply below_drew1 | refine below_set ?_ GE101.out | refine below_set ?_ GE102.out | refine below_set ?_ GE103.out | refine below_set ?_ GE104.out | refine below_set ?_ GE109.out) | exact HB.out)) hb); clear BK101; clear BK102; clear BK103; clear BK104; clear BK109; clear HB; have BK101 := n0_; have BK102 := n1_; have BK103 := n2_; have BK104 := n3_; have BK109 := n4_; have HB := n5_; clear n0_ n1_ n2_ n3_ n4_ n5_; (try clear hb); (try clear hb2); (try clear hk); (try clear hi)) | ((with_reducible refine gate_dst (N := 13) rfl ?_); refine box_event ?hg (N := 13) ?hd (cs := #[.int .u64 0, .int .u64 0]) (t := 35) ?hr ?_; (case hd => rfl); (case hg => rfl); (case hr => first | (go_simp; done) | (go_simp; rfl)); intro gb113 hg w86 hbox hb; have n0_ := Aside0.mk (blk_below (g := gb101) (o := .cells #[.int .u64 x102000_1, .int .u64 x102001_1] 35 (0, 0)) (by (with_reducible repeat (first | refine blk_drewN ?_ _ | refine blk_drew ?_ | refine blk_alloc ?_ _)); exact BK101.out) hb); have n1_ := Aside0.mk (blk_below (g := gb102) (o := .cells #[.int .u64 a1_0, .int .u64 a1_1] 35 (0, 0)) (by (with_reducible repeat (first | refine blk_drewN ?_ _ | refine blk_drew ?_ | refine blk_alloc ?_ _)); exact BK102.out) hb); have n2_ := Aside0.mk (blk_below (g := gb103) (o := .cells #[.int .u64 0, .int .u64 0] 35 (0, 0)) (by (with_reducible repeat (first | refine blk_drewN ?_ _ | refine blk_drew ?_ | refine blk_alloc ?_ _)); exact BK103.out) hb); have n3_ := Aside0.mk (blk_below (g := gb104) (o := .cells #[.int .u64 0, .int .u64 0] 35 (0, 0)) (by (with_reducible repeat (first | refine blk_drewN ?_ _ | refine blk_drew ?_ | refine blk_alloc ?_ _)); exact BK104.out) hb); have n4_ := Aside0.mk (blk_below (g := gb109) (o := .cells #[.int .u64 0, .int .u64 x110001_1] 35 (0, 0)) (by (with_reducible repeat (first | refine blk_drewN ?_ _ | refine blk_drew ?_ | refine blk_alloc ?_ _)); exact BK109.out) hb); have n5_ := Aside0.mk (below_step (by repeat (first | (with_reducible first | exact HB.out | apply below_alloc | apply pw_below_drewN | apply below_drew1 | refine below_set ?_ GE101.out | refine below_set ?_ GE102.out | refine below_set ?_ GE103.out | refine below_set ?_ GE104.out | refine below_set ?_ GE109.out) | exact HB.out)) hb); have n6_ := Aside0.mk (hbox); have n7_ := Aside0.mk ((by rw [hg]; exact (below_size (by repeat (first | (with_reducible first | exact HB.out | apply below_alloc | apply pw_below_drewN | apply below_drew1 | refine below_set ?_ GE101.out | refine below_set ?_ GE102.out | refine below_set ?_ GE103.out | refine below_set ?_ GE104.out | refine below_set ?_ GE109.out) | exact HB.out))) : w.heap.size ≤ gb113)); have n8_ := Aside0.mk ((by rw [hg]; exact (below_size (by repeat (first | (with_reducible first | exact HB.out | apply below_alloc | apply pw_below_drewN | apply below_drew1 | refine below_set ?_ GE101.out | refine below_set ?_ GE102.out | refine below_set ?_ GE103.out | refine below_set ?_ GE104.out | refine below_set ?_ GE109.out) | exact HB.out))) : w.heap.size ≤ gb113)); have n9_ := Aside0.mk ((by rw [hg]; exact Nat.ne_of_lt (blk_lt (g := gb101) (o := .cells #[.int .u64 x102000_1, .int .u64 x102001_1] 35 (0, 0)) (by (with_reducible repeat (first | refine blk_drewN ?_ _ | refine blk_drew ?_ | refine blk_alloc ?_ _)); exact BK101.out)) : gb101 ≠ gb113)); have n10_ := Aside0.mk ((by rw [hg]; exact Nat.ne_of_gt (blk_lt (g := gb101) (o := .cells #[.int .u64 x102000_1, .int .u64 x102001_1] 35 (0, 0)) (by (with_reducible repeat (first | refine blk_drewN ?_ _ | refine blk_drew ?_ | refine blk_alloc ?_ _)); exact BK101.out)) : gb113 ≠ gb101)); have n11_ := Aside0.mk ((by rw [hg]; exact Nat.ne_of_lt (blk_lt (g := gb102) (o := .cells #[.int .u64 a1_0, .int .u64 a1_1] 35 (0, 0)) (by (with_reducible repeat (first | refine blk_drewN ?_ _ | refine blk_drew ?_ | refine blk_alloc ?_ _)); exact BK102.out)) : gb102 ≠ gb113)); have n12_ := Aside0.mk ((by rw [hg]; exact Nat.ne_of_gt (blk_lt (g := gb102) (o := .cells #[.int .u64 a1_0, .int .u64 a1_1] 35 (0, 0)) (by (with_reducible repeat (first | refine blk_drewN ?_ _ | refine blk_drew ?_ | refine blk_alloc ?_ _)); exact BK102.out)) : gb113 ≠ gb102)); have n13_ := Aside0.mk ((by rw [hg]; exact Nat.ne_of_lt (blk_lt (g := gb103) (o := .cells #[.int .u64 0, .int .u64 0] 35 (0, 0)) (by (with_reducible repeat (first | refine blk_drewN ?_ _ | refine blk_drew ?_ | refine blk_alloc ?_ _)); exact BK103.out)) : gb103 ≠ gb113)); have n14_ := Aside0.mk ((by rw [hg]; exact Nat.ne_of_gt (blk_lt (g := gb103) (o := .cells #[.int .u64 0, .int .u64 0] 35 (0, 0)) (by (with_reducible repeat (first | refine blk_drewN ?_ _ | refine blk_drew ?_ | refine blk_alloc ?_ _)); exact BK103.out)) : gb113 ≠ gb103)); have n15_ := Aside0.mk ((by rw [hg]; exact Nat.ne_of_lt (blk_lt (g := gb104) (o := .cells #[.int .u64 0, .int .u64 0] 35 (0, 0)) (by (with_reducible repeat (first | refine blk_drewN ?_ _ | refine blk_drew ?_ | refine blk_alloc ?_ _)); exact BK104.out)) : gb104 ≠ gb113)); have n16_ := Aside0.mk ((by rw [hg]; exact Nat.ne_of_gt (blk_lt (g := gb104) (o := .cells #[.int .u64 0, .int .u64 0] 35 (0, 0)) (by (with_reducible repeat (first | refine blk_drewN ?_ _ | refine blk_drew ?_ | refine blk_alloc ?_ _)); exact BK104.out)) : gb113 ≠ gb104)); have n17_ := Aside0.mk ((by rw [hg]; exact Nat.ne_of_lt (blk_lt (g := gb109) (o := .cells #[.int .u64 0, .int .u64 x110001_1] 35 (0, 0)) (by (with_reducible repeat (first | refine blk_drewN ?_ _ | refine blk_drew ?_ | refine blk_alloc ?_ _)); exact BK109.out)) : gb109 ≠ gb113)); have n18_ := Aside0.mk ((by rw [hg]; exact Nat.ne_of_gt (blk_lt (g := gb109) (o := .cells #[.int .u64 0, .int .u64 x110001_1] 35 (0, 0)) (by (with_reducible repeat (first | refine blk_drewN ?_ _ | refine blk_drew ?_ | refine blk_alloc ?_ _)); exact BK109.out)) : gb113 ≠ gb109)); clear BK101; clear BK102; clear BK103; clear BK104; clear BK109; clear HB; have BK101 := n0_; have BK102 := n1_; have BK103 := n2_; have BK104 := n3_; have BK109 := n4_; have HB := n5_; have BK113 := n6_; have GW113 := n7_; have GE113 := n8_; have NB101_113 := n9_; have NB113_101 := n10_; have NB102_113 := n11_; have NB113_102 := n12_; have NB103_113 := n13_; have NB113_103 := n14_; have NB104_113 := n15_; have NB113_104 := n16_; have NB109_113 := n17_; have NB113_109 := n18_; clear n0_ n1_ n2_ n3_ n4_ n5_ n6_ n7_ n8_ n9_ n10_ n11_ n12_ n13_ n14_ n15_ n16_ n17_ n18_; clear hb hbox hg; have hnb87 := NB113_101.out; have hnc87 := NB101_113.out; have hnb88 := NB113_102.out; have hnc88 := NB102_113.out; have hnb89 := NB113_103.out; have hnc89 := NB103_113.out; have hnb90 := NB113_104.out; have hnc90 := NB104_113.out; have hnb91 := NB113_109.out; have hnc91 := NB109_113.out; have hcz92_0 : w86.cell? ⟨gb113, 0, none⟩ = some (.int .u64 0) := (blk_cell BK113.out 0).trans rfl; have hcz92_1 : w86.cell? ⟨gb113, 1, none⟩ = some (.int .u64 0) := (blk_cell BK113.out 1).trans rfl; have hfz92_0 := blk_frozen BK113.out 0; have hfz92_1 := blk_frozen BK113.out 1; have hnb93 := NB101_103.out; have hnc93 := NB103_101.out; have hnb94 := NB101_104.out; have hnc94 := NB104_101.out; have hnb95 := NB101_109.out; have hnc95 := NB109_101.out; have hcz96_0 : w86.cell? ⟨gb101, 0, none⟩ = some (.int .u64 x102000_1) := (blk_cell BK101.out 0).trans rfl; have hcz96_1 : w86.cell? ⟨gb101, 1, none⟩ = some (.int .u64 x102001_1) := (blk_cell BK101.out 1).trans rfl; have hfz96_0 := blk_frozen BK101.out 0; have hfz96_1 := blk_frozen BK101.out 1) | ((with_reducible refine gate_callee (f := 50) rfl ?_); refine goesL_ (some 57) rfl rfl Try.func50 (by kernel_rfl) rfl #[.agg #[.int .u64 x102000_1, .int .u64 x102001_1], .agg #[.int .u64 t111, .int .u64 t112]] rfl (by (try simp only [List.map_toArray, List.map_cons, List.map_nil]); first | done | rfl | (simp only [List.length_drop, List.length_take]; rfl)) ?_; (with_reducible refine (wide_Less.calls x102000_1 x102001_1 t111 t112 false _ A57.out).mono ?_); rintro e w97 ⟨rfl, hb⟩; refine ⟨_, rfl, ?_⟩; have n0_ := Aside0.mk (blk_below (g := gb101) (o := .cells #[.int .u64 x102000_1, .int .u64 x102001_1] 35 (0, 0)) (by (with_reducible repeat (first | refine blk_drewN ?_ _ | refine blk_drew ?_ | refine blk_alloc ?_ _)); refine blk_far ?_ NB101_113.out _; (with_reducible repeat (first | refine blk_drewN ?_ _ | refine blk_drew ?_ | refine blk_alloc ?_ _)); refine blk_far ?_ NB101_113.out _; (with_reducible repeat (first | refine blk_drewN ?_ _ | refine blk_drew ?_ | refine blk_alloc ?_ _)); exact BK101.out) hb); have n1_ := Aside0.mk (blk_below (g := gb102) (o := .cells #[.int .u64 a1_0, .int .u64 a1_1] 35 (0, 0)) (by (with_reducible repeat (first | refine blk_drewN ?_ _ | refine blk_drew ?_ | refine blk_alloc ?_ _)); refine blk_far ?_ NB102_113.out _; (with_reducible repeat (first | refine blk_drewN ?_ _ | refine blk_drew ?_ | refine blk_alloc ?_ _)); refine blk_far ?_ NB102_113.out _; (with_reducible repeat (first | refine blk_drewN ?_ _ | refine blk_drew ?_ | refine blk_alloc ?_ _)); exact BK102.out) hb); have n2_ := Aside0.mk (blk_below (g := gb103) (o := .cells #[.int .u64 0, .int .u64 0] 35 (0, 0)) (by (with_reducible repeat (first | refine blk_drewN ?_ _ | refine blk_drew ?_ | refine blk_alloc ?_ _)); refine blk_far ?_ NB103_113.out _; (with_reducible repeat (first | refine blk_drewN ?_ _ | refine blk_drew ?_ | refine blk_alloc ?_ _)); refine blk_far ?_ NB103_113.out _; (with_reducible repeat (first | refine blk_drewN ?_ _ | refine blk_drew ?_ | refine blk_alloc ?_ _)); exact BK103.out) hb); have n3_ := Aside0.mk (blk_below (g := gb104) (o := .cells #[.int .u64 0, .int .u64 0] 35 (0, 0)) (by (with_reducible repeat (first | refine blk_drewN ?_ _ | refine blk_drew ?_ | refine blk_alloc ?_ _)); refine blk_far ?_ NB104_113.out _; (with_reducible repeat (first | refine blk_drewN ?_ _ | refine blk_drew ?_ | refine blk_alloc ?_ _)); refine blk_far ?_ NB104_113.out _; (with_reducible repeat (first | refine blk_drewN ?_ _ | refine blk_drew ?_ | refine blk_alloc ?_ _)); exact BK104.out) hb); have n4_ := Aside0.mk (blk_below (g := gb109) (o := .cells #[.int .u64 0, .int .u64 x110001_1] 35 (0, 0)) (by (with_reducible repeat (first | refine blk_drewN ?_ _ | refine blk_drew ?_ | refine blk_alloc ?_ _)); refine blk_far ?_ NB109_113.out _; (with_reducible repeat (first | refine blk_drewN ?_ _ | refine blk_drew ?_ | refine blk_alloc ?_ _)); refine blk_far ?_ NB109_113.out _; (with_reducible repeat (first | refine blk_drewN ?_ _ | refine blk_drew ?_ | refine blk_alloc ?_ _)); exact BK109.out) hb); have n5_ := Aside0.mk (blk_below (g := gb113) (o := .cells #[.int .u64 t111, .int .u64 t112] 35 (0, 0)) (by (with_reducible repeat (first | refine blk_drewN ?_ _ | refine blk_drew ?_ | refine blk_alloc ?_ _)); refine blk_put (cs := #[.int .u64 t111, .int .u64 0]) ?_ 1 _ rfl; (with_reducible repeat (first | refine blk_drewN ?_ _ | refine blk_drew ?_ | refine blk_alloc ?_ _)); refine blk_put (cs := #[.int .u64 0, .int .u64 0]) ?_ 0 _ rfl; (with_reducible repeat (first | refine blk_drewN ?_ _ | refine blk_drew ?_ | refine blk_alloc ?_ _)); exact BK113.out) hb); have n6_ := Aside0.mk (below_step (by repeat (first | (with_reducible first | exact HB.out | apply below_alloc | apply pw_below_drewN | apply below_drew1 | refine below_set ?_ GE101.out | refine below_set ?_ GE102.out | refine below_set ?_ GE103.out | refine below_set ?_ GE104.out | refine below_set ?_ GE109.out | refine below_set ?_ GE113.out) | exact HB.out)) hb); clear BK101; clear BK102; clear BK103; clear BK104; clear BK109; clear BK113; clear HB; have BK101 := n0_; have BK102 := n1_; have BK103 := n2_; have BK104 := n3_; have BK109 := n4_; have BK113 := n5_; have HB := n6_; clear n0_ n1_ n2_ n3_ n4_ n5_ n6_; (try clear hb); (try clear hb2); (try clear hk); (try clear hi); have hcz98_0 : w97.cell? ⟨gb101, 0, none⟩ = some (.int .u64 x102000_1) := (blk_cell BK101.out 0).trans rfl; have hcz98_1 : w97.cell? ⟨gb101, 1, none⟩ = some (.int .u64 x102001_1) := (blk_cell BK101.out 1).trans rfl; have hfz98_0 := blk_frozen BK101.out 0; have hfz98_1 := blk_frozen BK101.out 1; have hcz99_0 : w97.cell? ⟨gb113, 0, none⟩ = some (.int .u64 t111) := (blk_cell BK113.out 0).trans rfl; have hcz99_1 : w97.cell? ⟨gb113, 1, none⟩ = some (.int .u64 t112) := (blk_cell BK113.out 1).trans rfl; have hfz99_0 := blk_frozen BK113.out 0; have hfz99_1 := blk_frozen BK113.out 1) | ((with_reducible refine gate_callee (f := 130) rfl ?_); refine goesL_ (some 61) rfl rfl Try.func130 (by kernel_rfl) rfl #[.agg #[.int .u64 x102000_1, .int .u64 x102001_1], .agg #[.int .u64 t111, .int .u64 t112]] rfl (by (try simp only [List.map_toArray, List.map_cons, List.map_nil]); first | done | rfl | (simp only [List.length_drop, List.length_take]; rfl)) ?_; (with_reducible refine (wide_Sub.calls x102000_1 x102001_1 t111 t112 t115 t116 t117 _ A77.out).mono ?_); rintro e w100 ⟨rfl, hb⟩; refine ⟨_, rfl, ?_⟩; have n0_ := Aside0.mk (blk_below (g := gb101) (o := .cells #[.int .u64 x102000_1, .int .u64 x102001_1] 35 (0, 0)) (by (with_reducible repeat (first | refine blk_drewN ?_ _ | refine blk_drew ?_ | refine blk_alloc ?_ _)); exact BK101.out) hb); have n1_ := Aside0.mk (blk_below (g := gb102) (o := .cells #[.int .u64 a1_0, .int .u64 a1_1] 35 (0, 0)) (by (with_reducible repeat (first | refine blk_drewN ?_ _ | refine blk_drew ?_ | refine blk_alloc ?_ _)); exact BK102.out) hb); have n2_ := Aside0.mk (blk_below (g := gb103) (o := .cells #[.int .u64 0, .int .u64 0] 35 (0, 0)) (by (with_reducible repeat (first | refine blk_drewN ?_ _ | refine blk_drew ?_ | refine blk_alloc ?_ _)); exact BK103.out) hb); have n3_ := Aside0.mk (blk_below (g := gb104) (o := .cells #[.int .u64 0, .int .u64 0] 35 (0, 0)) (by (with_reducible repeat (first | refine blk_drewN ?_ _ | refine blk_drew ?_ | refine blk_alloc ?_ _)); exact BK104.out) hb); have n4_ := Aside0.mk (blk_below (g := gb109) (o := .cells #[.int .u64 0, .int .u64 x110001_1] 35 (0, 0)) (by (with_reducible repeat (first | refine blk_drewN ?_ _ | refine blk_drew ?_ | refine blk_alloc ?_ _)); exact BK109.out) hb); have n5_ := Aside0.mk (blk_below (g := gb113) (o := .cells #[.int .u64 t111, .int .u64 t112] 35 (0, 0)) (by (with_reducible repeat (first | refine blk_drewN ?_ _ | refine blk_drew ?_ | refine blk_alloc ?_ _)); exact BK113.out) hb); have n6_ := Aside0.mk (below_step (by repeat (first | (with_reducible first | exact HB.out | apply below_alloc | apply pw_below_drewN | apply below_drew1 | refine below_set ?_ GE101.out | refine below_set ?_ GE102.out | refine below_set ?_ GE103.out | refine below_set ?_ GE104.out | refine below_set ?_ GE109.out | refine below_set ?_ GE113.out) | exact HB.out)) hb); clear BK101; clear BK102; clear BK103; clear BK104; clear BK109; clear BK113; clear HB; have BK101 := n0_; have BK102 := n1_; have BK103 := n2_; have BK104 := n3_; have BK109 := n4_; have BK113 := n5_; have HB := n6_; clear n0_ n1_ n2_ n3_ n4_ n5_ n6_; (try clear hb); (try clear hb2); (try clear hk); (try clear hi); have hcz101_0 : w100.cell? ⟨gb101, 0, none⟩ = some (.int .u64 x102000_1) := (blk_cell BK101.out 0).trans rfl; have hcz101_1 : w100.cell? ⟨gb101, 1, none⟩ = some (.int .u64 x102001_1) := (blk_cell BK101.out 1).trans rfl; have hfz101_0 := blk_frozen BK101.out 0; have hfz101_1 := blk_frozen BK101.out 1))
                have n0_ : Aside0 (((w100.setCell ⟨gb101, 0, none⟩ (.int .u64 t115)).setCell ⟨gb101, 1, none⟩ (.int .u64 t116)).heap[gb101]? = some (.cells #[.int .u64 t115, .int .u64 t116] 35 (0, 0))) := ⟨by (with_reducible repeat (first | refine blk_drewN ?_ _ | refine blk_drew ?_ | refine blk_alloc ?_ _)); refine blk_put (cs := #[.int .u64 t115, .int .u64 x102001_1]) ?_ 1 _ rfl; (with_reducible repeat (first | refine blk_drewN ?_ _ | refine blk_drew ?_ | refine blk_alloc ?_ _)); refine blk_put (cs := #[.int .u64 x102000_1, .int .u64 x102001_1]) ?_ 0 _ rfl; (with_reducible repeat (first | refine blk_drewN ?_ _ | refine blk_drew ?_ | refine blk_alloc ?_ _)); exact BK101.out⟩
                have n1_ : Aside0 (((w100.setCell ⟨gb101, 0, none⟩ (.int .u64 t115)).setCell ⟨gb101, 1, none⟩ (.int .u64 t116)).heap[gb102]? = some (.cells #[.int .u64 a1_0, .int .u64 a1_1] 35 (0, 0))) := ⟨by (with_reducible repeat (first | refine blk_drewN ?_ _ | refine blk_drew ?_ | refine blk_alloc ?_ _)); refine blk_far ?_ NB102_101.out _; (with_reducible repeat (first | refine blk_drewN ?_ _ | refine blk_drew ?_ | refine blk_alloc ?_ _)); refine blk_far ?_ NB102_101.out _; (with_reducible repeat (first | refine blk_drewN ?_ _ | refine blk_drew ?_ | refine blk_alloc ?_ _)); exact BK102.out⟩
                have n2_ : Aside0 (((w100.setCell ⟨gb101, 0, none⟩ (.int .u64 t115)).setCell ⟨gb101, 1, none⟩ (.int .u64 t116)).heap[gb103]? = some (.cells #[.int .u64 0, .int .u64 0] 35 (0, 0))) := ⟨by (with_reducible repeat (first | refine blk_drewN ?_ _ | refine blk_drew ?_ | refine blk_alloc ?_ _)); refine blk_far ?_ NB103_101.out _; (with_reducible repeat (first | refine blk_drewN ?_ _ | refine blk_drew ?_ | refine blk_alloc ?_ _)); refine blk_far ?_ NB103_101.out _; (with_reducible repeat (first | refine blk_drewN ?_ _ | refine blk_drew ?_ | refine blk_alloc ?_ _)); exact BK103.out⟩
                have n3_ : Aside0 (((w100.setCell ⟨gb101, 0, none⟩ (.int .u64 t115)).setCell ⟨gb101, 1, none⟩ (.int .u64 t116)).heap[gb104]? = some (.cells #[.int .u64 0, .int .u64 0] 35 (0, 0))) := ⟨by (with_reducible repeat (first | refine blk_drewN ?_ _ | refine blk_drew ?_ | refine blk_alloc ?_ _)); refine blk_far ?_ NB104_101.out _; (with_reducible repeat (first | refine blk_drewN ?_ _ | refine blk_drew ?_ | refine blk_alloc ?_ _)); refine blk_far ?_ NB104_101.out _; (with_reducible repeat (first | refine blk_drewN ?_ _ | refine blk_drew ?_ | refine blk_alloc ?_ _)); exact BK104.out⟩
                have n4_ : Aside0 (((w100.setCell ⟨gb101, 0, none⟩ (.int .u64 t115)).setCell ⟨gb101, 1, none⟩ (.int .u64 t116)).heap[gb109]? = some (.cells #[.int .u64 0, .int .u64 x110001_1] 35 (0, 0))) := ⟨by (with_reducible repeat (first | refine blk_drewN ?_ _ | refine blk_drew ?_ | refine blk_alloc ?_ _)); refine blk_far ?_ NB109_101.out _; (with_reducible repeat (first | refine blk_drewN ?_ _ | refine blk_drew ?_ | refine blk_alloc ?_ _)); refine blk_far ?_ NB109_101.out _; (with_reducible repeat (first | refine blk_drewN ?_ _ | refine blk_drew ?_ | refine blk_alloc ?_ _)); exact BK109.out⟩
                have n5_ : Aside0 (((w100.setCell ⟨gb101, 0, none⟩ (.int .u64 t115)).setCell ⟨gb101, 1, none⟩ (.int .u64 t116)).heap[gb113]? = some (.cells #[.int .u64 t111, .int .u64 t112] 35 (0, 0))) := ⟨by (with_reducible repeat (first | refine blk_drewN ?_ _ | refine blk_drew ?_ | refine blk_alloc ?_ _)); refine blk_far ?_ NB113_101.out _; (with_reducible repeat (first | refine blk_drewN ?_ _ | refine blk_drew ?_ | refine blk_alloc ?_ _)); refine blk_far ?_ NB113_101.out _; (with_reducible repeat (first | refine blk_drewN ?_ _ | refine blk_drew ?_ | refine blk_alloc ?_ _)); exact BK113.out⟩
                have n6_ : Aside0 (Below w.heap.size w ((w100.setCell ⟨gb101, 0, none⟩ (.int .u64 t115)).setCell ⟨gb101, 1, none⟩ (.int .u64 t116))) := ⟨by repeat (first | (with_reducible first | exact HB.out | apply below_alloc | apply pw_below_drewN | apply below_drew1 | refine below_set ?_ GE101.out | refine below_set ?_ GE102.out | refine below_set ?_ GE103.out | refine below_set ?_ GE104.out | refine below_set ?_ GE109.out | refine below_set ?_ GE113.out) | exact HB.out)⟩
                (try clear BK101)
                (try clear BK102)
                (try clear BK103)
                (try clear BK104)
                (try clear BK109)
                (try clear BK113)
                (try clear HB)
                generalize ((w100.setCell ⟨gb101, 0, none⟩ (.int .u64 t115)).setCell ⟨gb101, 1, none⟩ (.int .u64 t116)) = w102 at n0_ n1_ n2_ n3_ n4_ n5_ n6_ ⊢
                have BK101 := n0_
                have BK102 := n1_
                have BK103 := n2_
                have BK104 := n3_
                have BK109 := n4_
                have BK113 := n5_
                have HB := n6_
                clear n0_ n1_ n2_ n3_ n4_ n5_ n6_
                have n0_ := Aside0.mk (blk_drew BK101.out)
                have n1_ := Aside0.mk (blk_drew BK102.out)
                have n2_ := Aside0.mk (blk_drew BK103.out)
                have n3_ := Aside0.mk (blk_drew BK104.out)
                have n4_ := Aside0.mk (blk_drew BK109.out)
                have n5_ := Aside0.mk (blk_drew BK113.out)
                have n6_ := Aside0.mk (below_drew1 HB.out)
                clear BK101
                clear BK102
                clear BK103
                clear BK104
                clear BK109
                clear BK113
                clear HB
                have BK101 := n0_
                have BK102 := n1_
                have BK103 := n2_
                have BK104 := n3_
                have BK109 := n4_
                have BK113 := n5_
                have HB := n6_
                clear n0_ n1_ n2_ n3_ n4_ n5_ n6_
                refine start_ (n := 7) (S := fun w' => w'.cell? ⟨gb109, 0, none⟩ = some (.int .u64 0) ∧ w'.cell? ⟨gb109, 1, none⟩ = some (.int .u64 x110001_1)) (ds := [6]) #[false, false, false, false, false, false, false] (by kernel_rfl) rfl rfl ⟨(blk_cell BK109.out 0).trans rfl, (blk_cell BK109.out 1).trans rfl⟩ (fun hHeld => ?_)
                generalize w102.drew = w103 at BK101 BK102 BK103 BK104 BK109 BK113 HB hHeld ⊢
                refine pure_ (i := 0) (N := some 64) (v := ?_) (a' := ?_) #[true, false, false, false, false, false, false] rfl rfl (by kernel_rfl) (fun _ _ _ h => h) (Or.inl ⟨by rfl, ?_⟩) ?_ ?_
                rotate_left
                · intro w'
                  go_simp
                  with_reducible rfl
                rotate_left
                · simp only [Act.put, List.setIfInBounds_toArray, List.set_cons_zero, List.set_cons_succ, i64_w, i32_w]
                  rfl
                refine pure_ (i := 2) (N := some 66) (v := ?_) (a' := ?_) #[true, false, true, false, false, false, false] rfl rfl (by kernel_rfl) (fun _ _ _ h => h) (Or.inl ⟨by rfl, ?_⟩) ?_ ?_
                rotate_left
                · intro w'
                  go_simp
                  with_reducible rfl
                rotate_left
                · simp only [Act.put, List.setIfInBounds_toArray, List.set_cons_zero, List.set_cons_succ, i64_w, i32_w]
                  rfl
                refine pure_ (i := 3) (N := some 67) (v := ?_) (a' := ?_) #[true, false, true, true, false, false, false] rfl rfl (by kernel_rfl) (fun _ _ _ h => h) (Or.inl ⟨by rfl, ?_⟩) ?_ ?_
                rotate_left
                · intro w'
                  go_simp
                  with_reducible rfl
                rotate_left
                · simp only [Act.put, List.setIfInBounds_toArray, List.set_cons_zero, List.set_cons_succ, i64_w, i32_w]
                  rfl
                refine take_ (i := 1) (N := some 65) (v := ?_) (a' := ?_) #[true, true, true, true, false, false, false] rfl rfl (by kernel_rfl) (fun _ _ _ h => h) (Or.inl ⟨by rfl, ?_⟩) hHeld ?_ ?_
                rotate_left
                · rintro w' ⟨s0, s1⟩
                  go_simp
                  with_reducible rfl
                rotate_left
                · simp only [Act.put, List.setIfInBounds_toArray, List.set_cons_zero, List.set_cons_succ, i64_w, i32_w]
                  rfl
                refine pure_ (i := 4) (N := some 68) (v := ?_) (a' := ?_) #[true, true, true, true, true, false, false] rfl rfl (by kernel_rfl) (fun _ _ _ h => h) (Or.inl ⟨by rfl, ?_⟩) ?_ ?_
                rotate_left
                · intro w'
                  go_simp
                  with_reducible rfl
                rotate_left
                · simp only [Act.put, List.setIfInBounds_toArray, List.set_cons_zero, List.set_cons_succ, i64_w, i32_w]
                  rfl
                refine pure_ (i := 5) (N := some 69) (v := ?_) (a' := ?_) #[true, true, true, true, true, true, false] rfl rfl (by kernel_rfl) (fun _ _ _ h => h) (Or.inl ⟨by rfl, ?_⟩) ?_ ?_
                rotate_left
                · intro w'
                  go_simp
                  with_reducible rfl
                rotate_left
                · simp only [Act.put, List.setIfInBounds_toArray, List.set_cons_zero, List.set_cons_succ, i64_w, i32_w]
                  rfl
                refine last_ (i := 6) (N := none) #[true, true, true, true, true, true, true] rfl rfl (by kernel_rfl) (by decide) (fun K hK => ?_)
                have hs104 : w103.cell? ⟨gb109, 1, none⟩ = some (.int .u64 x110001_1) := (blk_cell BK109.out 1).trans rfl
                have hfs104 := blk_frozen BK109.out 1
                have hns104_0 := NB101_109.out
                have hns104_1 := NB102_109.out
                have hns104_2 := NB103_109.out
                have hns104_3 := NB104_109.out
                have hns104_5 := NB113_109.out
                have hms104_0 := NB109_101.out
                have hms104_1 := NB109_102.out
                have hms104_2 := NB109_103.out
                have hms104_3 := NB109_104.out
                have hms104_5 := NB109_113.out
                refine skip_ (w1 := ?_) (by rfl) rfl ?_ ?_
                rotate_left
                · go_simp
                  rfl
                refine hK.out _ _ ?_
                clear hK K
                refine done_ (by kernel_rfl) ?_
                try go_wp2
                go_roundg k1
                case measure => have := HK1.out; omega
                case rel => exact ⟨(wrap64 (x12_1 - 1)), (t115), (t116), (Go.bits .or .u64 x110001_1 (ji79)), (by first | rfl | (simp; done) | (simp [*]; done)), H', ⟨by have := HK1.out; omega⟩, ⟨by (with_reducible repeat (first | refine blk_drewN ?_ _ | refine blk_drew ?_ | refine blk_alloc ?_ _)); refine blk_far ?_ NB101_109.out _; (with_reducible repeat (first | refine blk_drewN ?_ _ | refine blk_drew ?_ | refine blk_alloc ?_ _)); exact BK101.out⟩, ⟨by (with_reducible repeat (first | refine blk_drewN ?_ _ | refine blk_drew ?_ | refine blk_alloc ?_ _)); refine blk_far ?_ NB102_109.out _; (with_reducible repeat (first | refine blk_drewN ?_ _ | refine blk_drew ?_ | refine blk_alloc ?_ _)); exact BK102.out⟩, ⟨by (with_reducible repeat (first | refine blk_drewN ?_ _ | refine blk_drew ?_ | refine blk_alloc ?_ _)); refine blk_far ?_ NB103_109.out _; (with_reducible repeat (first | refine blk_drewN ?_ _ | refine blk_drew ?_ | refine blk_alloc ?_ _)); exact BK103.out⟩, ⟨by (with_reducible repeat (first | refine blk_drewN ?_ _ | refine blk_drew ?_ | refine blk_alloc ?_ _)); refine blk_far ?_ NB104_109.out _; (with_reducible repeat (first | refine blk_drewN ?_ _ | refine blk_drew ?_ | refine blk_alloc ?_ _)); exact BK104.out⟩, ⟨by (with_reducible repeat (first | refine blk_drewN ?_ _ | refine blk_drew ?_ | refine blk_alloc ?_ _)); refine blk_put (cs := #[.int .u64 0, .int .u64 x110001_1]) ?_ 1 _ rfl; (with_reducible repeat (first | refine blk_drewN ?_ _ | refine blk_drew ?_ | refine blk_alloc ?_ _)); exact BK109.out⟩, ⟨by repeat (first | (with_reducible first | exact HB.out | apply below_alloc | apply pw_below_drewN | apply below_drew1 | refine below_set ?_ GE101.out | refine below_set ?_ GE102.out | refine below_set ?_ GE103.out | refine below_set ?_ GE104.out | refine below_set ?_ GE109.out | refine below_set ?_ GE113.out) | exact HB.out)⟩⟩
              · rw [if_neg c78] at H
                exact absurd H (by simp)
          · rw [if_neg c55] at H
            have c55b0 : decide (0 ≤ x12_1) = false := decide_eq_false c55
            clear c55
            simp only [Option.some.injEq, Prod.mk.injEq] at H
            obtain ⟨rfl, rfl, rfl, rfl, rfl⟩ := H
            try go_wp2
            have n0_ := Aside0.mk (blk_drew BK101.out)
            have n1_ := Aside0.mk (blk_drew BK102.out)
            have n2_ := Aside0.mk (blk_drew BK103.out)
            have n3_ := Aside0.mk (blk_drew BK104.out)
            have n4_ := Aside0.mk (blk_drew BK109.out)
            have n5_ := Aside0.mk (below_drew1 HB.out)
            clear BK101
            clear BK102
            clear BK103
            clear BK104
            clear BK109
            clear HB
            have BK101 := n0_
            have BK102 := n1_
            have BK103 := n2_
            have BK104 := n3_
            have BK109 := n4_
            have HB := n5_
            clear n0_ n1_ n2_ n3_ n4_ n5_
            refine start_ (n := 5) (S := fun w' => w'.cell? ⟨gb109, 0, none⟩ = some (.int .u64 0) ∧ w'.cell? ⟨gb109, 1, none⟩ = some (.int .u64 x110001_1) ∧ w'.cell? ⟨gb101, 0, none⟩ = some (.int .u64 x102000_1) ∧ w'.cell? ⟨gb101, 1, none⟩ = some (.int .u64 x102001_1)) (ds := []) #[false, false, false, false, false] (by kernel_rfl) rfl rfl ⟨(blk_cell BK109.out 0).trans rfl, (blk_cell BK109.out 1).trans rfl, (blk_cell BK101.out 0).trans rfl, (blk_cell BK101.out 1).trans rfl⟩ (fun hHeld => ?_)
            generalize wr.drew = w105 at BK101 BK102 BK103 BK104 BK109 HB hHeld ⊢
            refine take_ (i := 0) (N := some 70) (v := ?_) (a' := ?_) #[true, false, false, false, false] rfl rfl (by kernel_rfl) (fun _ _ _ h => h) (Or.inl ⟨by rfl, ?_⟩) hHeld ?_ ?_
            rotate_left
            · rintro w' ⟨s0, s1, s2, s3⟩
              go_simp
              with_reducible rfl
            rotate_left
            · simp only [Act.put, List.setIfInBounds_toArray, List.set_cons_zero, List.set_cons_succ, i64_w, i32_w]
              rfl
            refine take_ (i := 1) (N := some 71) (v := ?_) (a' := ?_) #[true, true, false, false, false] rfl rfl (by kernel_rfl) (fun _ _ _ h => h) (Or.inl ⟨by rfl, ?_⟩) hHeld ?_ ?_
            rotate_left
            · rintro w' ⟨s0, s1, s2, s3⟩
              go_simp
              with_reducible rfl
            rotate_left
            · simp only [Act.put, List.setIfInBounds_toArray, List.set_cons_zero, List.set_cons_succ, i64_w, i32_w]
              rfl
            refine one_ (i := 2) (N := none) #[true, true, true, false, false] rfl rfl (by kernel_rfl) (by decide) (fun K hK => ?_)
            have hs106 : w105.cell? ⟨gb103, 0, none⟩ = some (.int .u64 0) := (blk_cell BK103.out 0).trans rfl
            have hfs106 := blk_frozen BK103.out 0
            have hns106_0 := NB101_103.out
            have hns106_1 := NB102_103.out
            have hns106_3 := NB104_103.out
            have hns106_4 := NB109_103.out
            have hms106_0 := NB103_101.out
            have hms106_1 := NB103_102.out
            have hms106_3 := NB103_104.out
            have hms106_4 := NB103_109.out
            have hs107 : w105.cell? ⟨gb103, 1, none⟩ = some (.int .u64 0) := (blk_cell BK103.out 1).trans rfl
            have hfs107 := blk_frozen BK103.out 1
            have hns107_0 := NB101_103.out
            have hns107_1 := NB102_103.out
            have hns107_3 := NB104_103.out
            have hns107_4 := NB109_103.out
            have hms107_0 := NB103_101.out
            have hms107_1 := NB103_102.out
            have hms107_3 := NB103_104.out
            have hms107_4 := NB103_109.out
            refine skip_ (w1 := ?_) (by rfl) rfl ?_ ?_
            rotate_left
            · go_simp
              rfl
            refine hK.out _ _ ⟨((cell_far (p := ⟨gb103, _, none⟩) NB109_103.out _).trans (((cell_far (p := ⟨gb103, _, none⟩) NB109_103.out _).trans (hHeld.1)))), ((cell_far (p := ⟨gb103, _, none⟩) NB109_103.out _).trans (((cell_far (p := ⟨gb103, _, none⟩) NB109_103.out _).trans (hHeld.2.1)))), ((cell_far (p := ⟨gb103, _, none⟩) NB101_103.out _).trans (((cell_far (p := ⟨gb103, _, none⟩) NB101_103.out _).trans (hHeld.2.2.1)))), ((cell_far (p := ⟨gb103, _, none⟩) NB101_103.out _).trans (((cell_far (p := ⟨gb103, _, none⟩) NB101_103.out _).trans (hHeld.2.2.2))))⟩ (fun hHeld => ?_)
            clear hK K
            refine one_ (i := 3) (N := none) #[true, true, true, true, false] rfl rfl (by kernel_rfl) (by decide) (fun K hK => ?_)
            have hs108 : w105.cell? ⟨gb104, 0, none⟩ = some (.int .u64 0) := (blk_cell BK104.out 0).trans rfl
            have hfs108 := blk_frozen BK104.out 0
            have hns108_0 := NB101_104.out
            have hns108_1 := NB102_104.out
            have hns108_2 := NB103_104.out
            have hns108_4 := NB109_104.out
            have hms108_0 := NB104_101.out
            have hms108_1 := NB104_102.out
            have hms108_2 := NB104_103.out
            have hms108_4 := NB104_109.out
            have hs109 : w105.cell? ⟨gb104, 1, none⟩ = some (.int .u64 0) := (blk_cell BK104.out 1).trans rfl
            have hfs109 := blk_frozen BK104.out 1
            have hns109_0 := NB101_104.out
            have hns109_1 := NB102_104.out
            have hns109_2 := NB103_104.out
            have hns109_4 := NB109_104.out
            have hms109_0 := NB104_101.out
            have hms109_1 := NB104_102.out
            have hms109_2 := NB104_103.out
            have hms109_4 := NB104_109.out
            refine skip_ (w1 := ?_) (by rfl) rfl ?_ ?_
            rotate_left
            · go_simp
              rfl
            refine hK.out _ _ ⟨((cell_far (p := ⟨gb104, _, none⟩) NB109_104.out _).trans (((cell_far (p := ⟨gb104, _, none⟩) NB109_104.out _).trans (hHeld.1)))), ((cell_far (p := ⟨gb104, _, none⟩) NB109_104.out _).trans (((cell_far (p := ⟨gb104, _, none⟩) NB109_104.out _).trans (hHeld.2.1)))), ((cell_far (p := ⟨gb104, _, none⟩) NB101_104.out _).trans (((cell_far (p := ⟨gb104, _, none⟩) NB101_104.out _).trans (hHeld.2.2.1)))), ((cell_far (p := ⟨gb104, _, none⟩) NB101_104.out _).trans (((cell_far (p := ⟨gb104, _, none⟩) NB101_104.out _).trans (hHeld.2.2.2))))⟩ (fun hHeld => ?_)
            clear hK K
            refine pure_ (i := 4) (N := some 6) (v := ?_) (a' := ?_) #[true, true, true, true, true] rfl rfl (by kernel_rfl) (fun _ _ _ h => h) (Or.inl ⟨by rfl, ?_⟩) ?_ ?_
            rotate_left
            · intro w'
              go_simp
              with_reducible rfl
            rotate_left
            · simp only [Act.put, List.setIfInBounds_toArray, List.set_cons_zero, List.set_cons_succ, i64_w, i32_w]
              rfl
            refine done_ (by kernel_rfl) ?_
            try go_wp2
            refine bodyPost_ret (results_list (rs := [.cell 4 35, .cell 5 35, .tmp 6]) rfl (by simp) (.cell gb103 35 #[.int .u64 0, .int .u64 x110001_1] (0, 0) _ rfl (by (with_reducible repeat (first | refine blk_drewN ?_ _ | refine blk_drew ?_ | refine blk_alloc ?_ _)); refine blk_far ?_ NB103_104.out _; (with_reducible repeat (first | refine blk_drewN ?_ _ | refine blk_drew ?_ | refine blk_alloc ?_ _)); refine blk_far ?_ NB103_104.out _; (with_reducible repeat (first | refine blk_drewN ?_ _ | refine blk_drew ?_ | refine blk_alloc ?_ _)); refine blk_put (cs := #[.int .u64 0, .int .u64 0]) ?_ 1 _ rfl; (with_reducible repeat (first | refine blk_drewN ?_ _ | refine blk_drew ?_ | refine blk_alloc ?_ _)); refine blk_put (cs := #[.int .u64 0, .int .u64 0]) ?_ 0 _ rfl; (with_reducible repeat (first | refine blk_drewN ?_ _ | refine blk_drew ?_ | refine blk_alloc ?_ _)); exact BK103.out) Try.underlying35 rfl (by kernel_rfl) (.cell gb104 35 #[.int .u64 x102000_1, .int .u64 x102001_1] (0, 0) _ rfl (by (with_reducible repeat (first | refine blk_drewN ?_ _ | refine blk_drew ?_ | refine blk_alloc ?_ _)); refine blk_put (cs := #[.int .u64 x102000_1, .int .u64 0]) ?_ 1 _ rfl; (with_reducible repeat (first | refine blk_drewN ?_ _ | refine blk_drew ?_ | refine blk_alloc ?_ _)); refine blk_put (cs := #[.int .u64 0, .int .u64 0]) ?_ 0 _ rfl; (with_reducible repeat (first | refine blk_drewN ?_ _ | refine blk_drew ?_ | refine blk_alloc ?_ _)); refine blk_far ?_ NB104_103.out _; (with_reducible repeat (first | refine blk_drewN ?_ _ | refine blk_drew ?_ | refine blk_alloc ?_ _)); refine blk_far ?_ NB104_103.out _; (with_reducible repeat (first | refine blk_drewN ?_ _ | refine blk_drew ?_ | refine blk_alloc ?_ _)); exact BK104.out) Try.underlying35 rfl (by kernel_rfl) (.tmp .nil)))) rfl ?_
            exact ⟨by first | rfl | (simp [errW_none, errW_some] <;> rfl) | (simp [*, errW_none, errW_some] <;> rfl), by repeat (first | (with_reducible first | exact HB.out | apply below_alloc | apply pw_below_drewN | apply below_drew1 | refine below_set ?_ GE101.out | refine below_set ?_ GE102.out | refine below_set ?_ GE103.out | refine below_set ?_ GE104.out | refine below_set ?_ GE109.out) | exact HB.out)⟩

end Go.Proofs.Ytkdfkpalgejkkaa.Pc
-- Written by a program (gprint.py) for this claim.
namespace Go.Proofs.Ytkdfkpalgejkkaa.Pc
open Go.RowKit Go.Proofs.Ytkdfkpalgejkkaa Go.Proofs.YtkdfkpalgejkkaaW.PrintWords Go.Proofs.YtkdfkpalgejkkaaW.PrintLast Go.Proofs.YtkdfkpalgejkkaaW.PrintMore
attribute [local go_sem] add64' sub64' max2_int min2_int max_two min_two max_three min_three max_four min_four   -- for this text's walks alone
set_option linter.unusedVariables false
set_option linter.unusedSimpArgs false

end Go.Proofs.Ytkdfkpalgejkkaa.Pc
