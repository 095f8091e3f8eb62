/- Part 4 of 4. The statement LimitNarrow holds: lines are at most three wide, the middle and the value one at most, and they lie in order; for every input, under no condition. -/
import Derived.Test.YtkdfkpalgejkkaaMLimitNarrow3
import Derived.ChangeSame
import Derived.ChangeShapes
import Derived.WideShapes
import Derived.Test.YtkdfkpalgejkkaaRows
import Derived.WalkKit
import Derived.ProofKit
import Derived.OpenShut
import Derived.ShutString
import Derived.ChangeOld
import Derived.Below
import Derived.SizedLaws
import Derived.Test.YtkdfkpalgejkkaaWSized
-- Written by a program (gprint.py) for this claim.
namespace Go.Proofs.Ytkdfkpalgejkkaa.Pf
open Go.RowKit Go.Proofs.Ytkdfkpalgejkkaa Go.Proofs.YtkdfkpalgejkkaaW.PrintWords Go.Proofs.YtkdfkpalgejkkaaW.PrintLast Go.Proofs.YtkdfkpalgejkkaaW.PrintMore
attribute [local go_sem] add64' sub64' max2_int min2_int max_two min_two max_three min_three max_four min_four   -- for this text's walks alone
set_option linter.unusedVariables false
set_option linter.unusedSimpArgs false

attribute [local go_sem high] eqA23 eqA35
/-! ### datumlaw17_alive: function 26 -/
def datumlaw17_alive.f  : Option (Bool) := (limit_Draw.f 5 1 7 0 4 10).bind fun bt101 => ((limit_Verdict.f bt101.1 bt101.2.1 bt101.2.2.1 bt101.2.2.2.1 bt101.2.2.2.2.1 bt101.2.2.2.2.2.1 bt101.2.2.2.2.2.2.1 bt101.2.2.2.2.2.2.2.1).bind fun bt111 => (if bt101.2.2.2.2.2.2.2.2 = 0 then (if bt111.2 = 0 then (if bt101.2.2.2.2.1 = 110 then (if bt101.2.2.2.2.2.2.2.1 = 120 then (some (bt111.1 == 1)) else (some false)) else (some false)) else (some false)) else (some false)))
set_option maxHeartbeats 8000000 in
set_option maxRecDepth 100000 in
theorem datumlaw17_alive.calls  (r : Bool) (w : World) (h : datumlaw17_alive.f  = some r) :
    Calls Try.prog 26 #[] w fun e w' => e = .returned (.bool r) ∧ Below w.heap.size w w' := by
  have hu35 := Try.underlying35
  have hu37 := Try.underlying37
  have hu39 := Try.underlying39
  have HB := Aside0.mk (Below.refl w.heap.size w)
  have H : ((limit_Draw.f 5 1 7 0 4 10).bind fun bt101 => ((limit_Verdict.f bt101.1 bt101.2.1 bt101.2.2.1 bt101.2.2.2.1 bt101.2.2.2.2.1 bt101.2.2.2.2.2.1 bt101.2.2.2.2.2.2.1 bt101.2.2.2.2.2.2.2.1).bind fun bt111 => (if bt101.2.2.2.2.2.2.2.2 = 0 then (if bt111.2 = 0 then (if bt101.2.2.2.2.1 = 110 then (if bt101.2.2.2.2.2.2.2.1 = 120 then (some (bt111.1 == 1)) else (some false)) else (some false)) else (some false)) else (some false)))) = some r := h
  clear h
  replace H := Option.bind_eq_some_iff.mp H
  obtain ⟨⟨t101, t102, t103, t104, t105, t106, t107, t108, t109⟩, A10, H⟩ := H
  replace H : ((limit_Verdict.f t101 t102 t103 t104 t105 t106 t107 t108).bind fun bt111 => (if t109 = 0 then (if bt111.2 = 0 then (if t105 = 110 then (if t108 = 120 then (some (bt111.1 == 1)) else (some false)) else (some false)) else (some false)) else (some false))) = some r := H
  have A1 := Aside0.mk A10
  clear A10
  replace H := Option.bind_eq_some_iff.mp H
  obtain ⟨⟨t111, t112⟩, A20, H⟩ := H
  replace H : (if t109 = 0 then (if t112 = 0 then (if t105 = 110 then (if t108 = 120 then (some (t111 == 1)) else (some false)) else (some false)) else (some false)) else (some false)) = some r := H
  have A2 := Aside0.mk A20
  clear A20
  by_cases c3 : t109 = 0
  · rw [if_pos c3] at H
    have c3b0 : (t109 == 0) = true := beq_iff_eq.mpr c3
    have c3b1 : (t109 != 0) = false := bne_eq_false_iff_eq.mpr c3
    clear c3
    by_cases c4 : t112 = 0
    · rw [if_pos c4] at H
      have c4b0 : (t112 == 0) = true := beq_iff_eq.mpr c4
      have c4b1 : (t112 != 0) = false := bne_eq_false_iff_eq.mpr c4
      clear c4
      by_cases c5 : t105 = 110
      · rw [if_pos c5] at H
        have c5b0 : (t105 == 110) = true := beq_iff_eq.mpr c5
        have c5b1 : (t105 != 110) = false := bne_eq_false_iff_eq.mpr c5
        clear c5
        by_cases c6 : t108 = 120
        · rw [if_pos c6] at H
          have c6b0 : (t108 == 120) = true := beq_iff_eq.mpr c6
          have c6b1 : (t108 != 120) = false := bne_eq_false_iff_eq.mpr c6
          clear c6
          obtain rfl := Option.some.inj H
          go_enter Try.func26, Try.ntmps26
          go_wp2_with (first | ((with_reducible refine gate_callee (f := 23) rfl ?_); refine goesL_ (some 8) rfl rfl Try.func23 (by kernel_rfl) rfl #[.agg #[.int .i64 5, .int .i64 1, .int .i64 7, .int .u64 0, .int .u64 4], .int .i64 10] rfl (by (try simp only [List.map_toArray, List.map_cons, List.map_nil]); first | done | rfl | (simp only [List.length_drop, List.length_take]; rfl)) ?_; (with_reducible refine (limit_Draw.calls 5 1 7 0 4 10 t101 t102 t103 t104 t105 t106 t107 t108 t109 _ A1.out).mono ?_); rintro e w7 ⟨rfl, hb⟩; refine ⟨_, rfl, ?_⟩; have n0_ := Aside0.mk (below_step (by repeat (first | (with_reducible first | exact HB.out | apply below_alloc | apply pw_below_drewN | apply below_drew1) | exact HB.out)) hb); clear HB; have HB := n0_; clear n0_; (try clear hb); (try clear hb2); (try clear hk); (try clear hi)) | ((with_reducible refine gate_dst (N := 1) rfl ?_); refine box_event ?hg (N := 1) ?hd (cs := #[.int .i64 0, .int .i64 0, .int .i64 0, .int .i64 0, .int .i64 0, .int .i64 0, .int .i64 0, .int .i64 0]) (t := 39) ?hr ?_; (case hd => rfl); (case hg => rfl); (case hr => first | (go_simp; done) | (go_simp; rfl)); intro gb110 hg w8 hbox hb; have n0_ := Aside0.mk (below_step (by repeat (first | (with_reducible first | exact HB.out | apply below_alloc | apply pw_below_drewN | apply below_drew1) | exact HB.out)) hb); have n1_ := Aside0.mk (hbox); have n2_ := Aside0.mk ((by rw [hg]; exact (below_size (by repeat (first | (with_reducible first | exact HB.out | apply below_alloc | apply pw_below_drewN | apply below_drew1) | exact HB.out))) : w.heap.size ≤ gb110)); have n3_ := Aside0.mk ((by rw [hg]; exact (below_size (by repeat (first | (with_reducible first | exact HB.out | apply below_alloc | apply pw_below_drewN | apply below_drew1) | exact HB.out))) : w.heap.size ≤ gb110)); clear HB; have HB := n0_; have BK110 := n1_; have GW110 := n2_; have GE110 := n3_; clear n0_ n1_ n2_ n3_; clear hb hbox hg; have hcz9_0 : w8.cell? ⟨gb110, 0, none⟩ = some (.int .i64 0) := (blk_cell BK110.out 0).trans rfl; have hcz9_1 : w8.cell? ⟨gb110, 1, none⟩ = some (.int .i64 0) := (blk_cell BK110.out 1).trans rfl; have hcz9_2 : w8.cell? ⟨gb110, 2, none⟩ = some (.int .i64 0) := (blk_cell BK110.out 2).trans rfl; have hcz9_3 : w8.cell? ⟨gb110, 3, none⟩ = some (.int .i64 0) := (blk_cell BK110.out 3).trans rfl; have hcz9_4 : w8.cell? ⟨gb110, 4, none⟩ = some (.int .i64 0) := (blk_cell BK110.out 4).trans rfl; have hcz9_5 : w8.cell? ⟨gb110, 5, none⟩ = some (.int .i64 0) := (blk_cell BK110.out 5).trans rfl; have hcz9_6 : w8.cell? ⟨gb110, 6, none⟩ = some (.int .i64 0) := (blk_cell BK110.out 6).trans rfl; have hcz9_7 : w8.cell? ⟨gb110, 7, none⟩ = some (.int .i64 0) := (blk_cell BK110.out 7).trans rfl; have hfz9_0 := blk_frozen BK110.out 0; have hfz9_1 := blk_frozen BK110.out 1; have hfz9_2 := blk_frozen BK110.out 2; have hfz9_3 := blk_frozen BK110.out 3; have hfz9_4 := blk_frozen BK110.out 4; have hfz9_5 := blk_frozen BK110.out 5; have hfz9_6 := blk_frozen BK110.out 6; have hfz9_7 := blk_frozen BK110.out 7) | ((with_reducible refine gate_callee (f := 30) rfl ?_); refine goesL_ (some 13) rfl rfl Try.func30 (by kernel_rfl) rfl #[.agg #[.int .i64 t101, .int .i64 t102, .int .i64 t103, .int .i64 t104, .int .i64 t105, .int .i64 t106, .int .i64 t107, .int .i64 t108]] rfl (by (try simp only [List.map_toArray, List.map_cons, List.map_nil]); first | done | rfl | (simp only [List.length_drop, List.length_take]; rfl)) ?_; (with_reducible refine (limit_Verdict.calls t101 t102 t103 t104 t105 t106 t107 t108 t111 t112 _ A2.out).mono ?_); rintro e w10 ⟨rfl, hb⟩; refine ⟨_, rfl, ?_⟩; have n0_ := Aside0.mk (blk_below (g := gb110) (o := .cells #[.int .i64 t101, .int .i64 t102, .int .i64 t103, .int .i64 t104, .int .i64 t105, .int .i64 t106, .int .i64 t107, .int .i64 t108] 39 (0, 0)) (by (with_reducible repeat (first | refine blk_drewN ?_ _ | refine blk_drew ?_ | refine blk_alloc ?_ _)); refine blk_put (cs := #[.int .i64 t101, .int .i64 t102, .int .i64 t103, .int .i64 t104, .int .i64 t105, .int .i64 t106, .int .i64 t107, .int .i64 0]) ?_ 7 _ rfl; (with_reducible repeat (first | refine blk_drewN ?_ _ | refine blk_drew ?_ | refine blk_alloc ?_ _)); refine blk_put (cs := #[.int .i64 t101, .int .i64 t102, .int .i64 t103, .int .i64 t104, .int .i64 t105, .int .i64 t106, .int .i64 0, .int .i64 0]) ?_ 6 _ rfl; (with_reducible repeat (first | refine blk_drewN ?_ _ | refine blk_drew ?_ | refine blk_alloc ?_ _)); refine blk_put (cs := #[.int .i64 t101, .int .i64 t102, .int .i64 t103, .int .i64 t104, .int .i64 t105, .int .i64 0, .int .i64 0, .int .i64 0]) ?_ 5 _ rfl; (with_reducible repeat (first | refine blk_drewN ?_ _ | refine blk_drew ?_ | refine blk_alloc ?_ _)); refine blk_put (cs := #[.int .i64 t101, .int .i64 t102, .int .i64 t103, .int .i64 t104, .int .i64 0, .int .i64 0, .int .i64 0, .int .i64 0]) ?_ 4 _ rfl; (with_reducible repeat (first | refine blk_drewN ?_ _ | refine blk_drew ?_ | refine blk_alloc ?_ _)); refine blk_put (cs := #[.int .i64 t101, .int .i64 t102, .int .i64 t103, .int .i64 0, .int .i64 0, .int .i64 0, .int .i64 0, .int .i64 0]) ?_ 3 _ rfl; (with_reducible repeat (first | refine blk_drewN ?_ _ | refine blk_drew ?_ | refine blk_alloc ?_ _)); refine blk_put (cs := #[.int .i64 t101, .int .i64 t102, .int .i64 0, .int .i64 0, .int .i64 0, .int .i64 0, .int .i64 0, .int .i64 0]) ?_ 2 _ rfl; (with_reducible repeat (first | refine blk_drewN ?_ _ | refine blk_drew ?_ | refine blk_alloc ?_ _)); refine blk_put (cs := #[.int .i64 t101, .int .i64 0, .int .i64 0, .int .i64 0, .int .i64 0, .int .i64 0, .int .i64 0, .int .i64 0]) ?_ 1 _ rfl; (with_reducible repeat (first | refine blk_drewN ?_ _ | refine blk_drew ?_ | refine blk_alloc ?_ _)); refine blk_put (cs := #[.int .i64 0, .int .i64 0, .int .i64 0, .int .i64 0, .int .i64 0, .int .i64 0, .int .i64 0, .int .i64 0]) ?_ 0 _ rfl; (with_reducible repeat (first | refine blk_drewN ?_ _ | refine blk_drew ?_ | refine blk_alloc ?_ _)); exact BK110.out) hb); have n1_ := Aside0.mk (below_step (by repeat (first | (with_reducible first | exact HB.out | apply below_alloc | apply pw_below_drewN | apply below_drew1 | refine below_set ?_ GE110.out) | exact HB.out)) hb); clear BK110; clear HB; have BK110 := n0_; have HB := n1_; clear n0_ n1_; (try clear hb); (try clear hb2); (try clear hk); (try clear hi); have hcz11_0 : w10.cell? ⟨gb110, 0, none⟩ = some (.int .i64 t101) := (blk_cell BK110.out 0).trans rfl; have hcz11_1 : w10.cell? ⟨gb110, 1, none⟩ = some (.int .i64 t102) := (blk_cell BK110.out 1).trans rfl; have hcz11_2 : w10.cell? ⟨gb110, 2, none⟩ = some (.int .i64 t103) := (blk_cell BK110.out 2).trans rfl; have hcz11_3 : w10.cell? ⟨gb110, 3, none⟩ = some (.int .i64 t104) := (blk_cell BK110.out 3).trans rfl; have hcz11_4 : w10.cell? ⟨gb110, 4, none⟩ = some (.int .i64 t105) := (blk_cell BK110.out 4).trans rfl; have hcz11_5 : w10.cell? ⟨gb110, 5, none⟩ = some (.int .i64 t106) := (blk_cell BK110.out 5).trans rfl; have hcz11_6 : w10.cell? ⟨gb110, 6, none⟩ = some (.int .i64 t107) := (blk_cell BK110.out 6).trans rfl; have hcz11_7 : w10.cell? ⟨gb110, 7, none⟩ = some (.int .i64 t108) := (blk_cell BK110.out 7).trans rfl; have hfz11_0 := blk_frozen BK110.out 0; have hfz11_1 := blk_frozen BK110.out 1; have hfz11_2 := blk_frozen BK110.out 2; have hfz11_3 := blk_frozen BK110.out 3; have hfz11_4 := blk_frozen BK110.out 4; have hfz11_5 := blk_frozen BK110.out 5; have hfz11_6 := blk_frozen BK110.out 6; have hfz11_7 := blk_frozen BK110.out 7))
          go_ret
          exact ⟨by first | rfl | (simp [errW_none, errW_some] <;> rfl) | (simp [*, errW_none, errW_some] <;> rfl), by repeat (first | (with_reducible first | exact HB.out | apply below_alloc | apply pw_below_drewN | apply below_drew1 | refine below_set ?_ GE110.out) | exact HB.out)⟩
        · rw [if_neg c6] at H
          have c6b0 : (t108 == 120) = false := beq_eq_false_iff_ne.mpr c6
          have c6b1 : (t108 != 120) = true := bne_iff_ne.mpr c6
          obtain rfl := Option.some.inj H
          go_enter Try.func26, Try.ntmps26
          go_wp2_with (first | ((with_reducible refine gate_callee (f := 23) rfl ?_); refine goesL_ (some 8) rfl rfl Try.func23 (by kernel_rfl) rfl #[.agg #[.int .i64 5, .int .i64 1, .int .i64 7, .int .u64 0, .int .u64 4], .int .i64 10] rfl (by (try simp only [List.map_toArray, List.map_cons, List.map_nil]); first | done | rfl | (simp only [List.length_drop, List.length_take]; rfl)) ?_; (with_reducible refine (limit_Draw.calls 5 1 7 0 4 10 t101 t102 t103 t104 t105 t106 t107 t108 t109 _ A1.out).mono ?_); rintro e w12 ⟨rfl, hb⟩; refine ⟨_, rfl, ?_⟩; have n0_ := Aside0.mk (below_step (by repeat (first | (with_reducible first | exact HB.out | apply below_alloc | apply pw_below_drewN | apply below_drew1) | exact HB.out)) hb); clear HB; have HB := n0_; clear n0_; (try clear hb); (try clear hb2); (try clear hk); (try clear hi)) | ((with_reducible refine gate_dst (N := 1) rfl ?_); refine box_event ?hg (N := 1) ?hd (cs := #[.int .i64 0, .int .i64 0, .int .i64 0, .int .i64 0, .int .i64 0, .int .i64 0, .int .i64 0, .int .i64 0]) (t := 39) ?hr ?_; (case hd => rfl); (case hg => rfl); (case hr => first | (go_simp; done) | (go_simp; rfl)); intro gb110 hg w13 hbox hb; have n0_ := Aside0.mk (below_step (by repeat (first | (with_reducible first | exact HB.out | apply below_alloc | apply pw_below_drewN | apply below_drew1) | exact HB.out)) hb); have n1_ := Aside0.mk (hbox); have n2_ := Aside0.mk ((by rw [hg]; exact (below_size (by repeat (first | (with_reducible first | exact HB.out | apply below_alloc | apply pw_below_drewN | apply below_drew1) | exact HB.out))) : w.heap.size ≤ gb110)); have n3_ := Aside0.mk ((by rw [hg]; exact (below_size (by repeat (first | (with_reducible first | exact HB.out | apply below_alloc | apply pw_below_drewN | apply below_drew1) | exact HB.out))) : w.heap.size ≤ gb110)); clear HB; have HB := n0_; have BK110 := n1_; have GW110 := n2_; have GE110 := n3_; clear n0_ n1_ n2_ n3_; clear hb hbox hg; have hcz14_0 : w13.cell? ⟨gb110, 0, none⟩ = some (.int .i64 0) := (blk_cell BK110.out 0).trans rfl; have hcz14_1 : w13.cell? ⟨gb110, 1, none⟩ = some (.int .i64 0) := (blk_cell BK110.out 1).trans rfl; have hcz14_2 : w13.cell? ⟨gb110, 2, none⟩ = some (.int .i64 0) := (blk_cell BK110.out 2).trans rfl; have hcz14_3 : w13.cell? ⟨gb110, 3, none⟩ = some (.int .i64 0) := (blk_cell BK110.out 3).trans rfl; have hcz14_4 : w13.cell? ⟨gb110, 4, none⟩ = some (.int .i64 0) := (blk_cell BK110.out 4).trans rfl; have hcz14_5 : w13.cell? ⟨gb110, 5, none⟩ = some (.int .i64 0) := (blk_cell BK110.out 5).trans rfl; have hcz14_6 : w13.cell? ⟨gb110, 6, none⟩ = some (.int .i64 0) := (blk_cell BK110.out 6).trans rfl; have hcz14_7 : w13.cell? ⟨gb110, 7, none⟩ = some (.int .i64 0) := (blk_cell BK110.out 7).trans rfl; have hfz14_0 := blk_frozen BK110.out 0; have hfz14_1 := blk_frozen BK110.out 1; have hfz14_2 := blk_frozen BK110.out 2; have hfz14_3 := blk_frozen BK110.out 3; have hfz14_4 := blk_frozen BK110.out 4; have hfz14_5 := blk_frozen BK110.out 5; have hfz14_6 := blk_frozen BK110.out 6; have hfz14_7 := blk_frozen BK110.out 7) | ((with_reducible refine gate_callee (f := 30) rfl ?_); refine goesL_ (some 13) rfl rfl Try.func30 (by kernel_rfl) rfl #[.agg #[.int .i64 t101, .int .i64 t102, .int .i64 t103, .int .i64 t104, .int .i64 t105, .int .i64 t106, .int .i64 t107, .int .i64 t108]] rfl (by (try simp only [List.map_toArray, List.map_cons, List.map_nil]); first | done | rfl | (simp only [List.length_drop, List.length_take]; rfl)) ?_; (with_reducible refine (limit_Verdict.calls t101 t102 t103 t104 t105 t106 t107 t108 t111 t112 _ A2.out).mono ?_); rintro e w15 ⟨rfl, hb⟩; refine ⟨_, rfl, ?_⟩; have n0_ := Aside0.mk (blk_below (g := gb110) (o := .cells #[.int .i64 t101, .int .i64 t102, .int .i64 t103, .int .i64 t104, .int .i64 t105, .int .i64 t106, .int .i64 t107, .int .i64 t108] 39 (0, 0)) (by (with_reducible repeat (first | refine blk_drewN ?_ _ | refine blk_drew ?_ | refine blk_alloc ?_ _)); refine blk_put (cs := #[.int .i64 t101, .int .i64 t102, .int .i64 t103, .int .i64 t104, .int .i64 t105, .int .i64 t106, .int .i64 t107, .int .i64 0]) ?_ 7 _ rfl; (with_reducible repeat (first | refine blk_drewN ?_ _ | refine blk_drew ?_ | refine blk_alloc ?_ _)); refine blk_put (cs := #[.int .i64 t101, .int .i64 t102, .int .i64 t103, .int .i64 t104, .int .i64 t105, .int .i64 t106, .int .i64 0, .int .i64 0]) ?_ 6 _ rfl; (with_reducible repeat (first | refine blk_drewN ?_ _ | refine blk_drew ?_ | refine blk_alloc ?_ _)); refine blk_put (cs := #[.int .i64 t101, .int .i64 t102, .int .i64 t103, .int .i64 t104, .int .i64 t105, .int .i64 0, .int .i64 0, .int .i64 0]) ?_ 5 _ rfl; (with_reducible repeat (first | refine blk_drewN ?_ _ | refine blk_drew ?_ | refine blk_alloc ?_ _)); refine blk_put (cs := #[.int .i64 t101, .int .i64 t102, .int .i64 t103, .int .i64 t104, .int .i64 0, .int .i64 0, .int .i64 0, .int .i64 0]) ?_ 4 _ rfl; (with_reducible repeat (first | refine blk_drewN ?_ _ | refine blk_drew ?_ | refine blk_alloc ?_ _)); refine blk_put (cs := #[.int .i64 t101, .int .i64 t102, .int .i64 t103, .int .i64 0, .int .i64 0, .int .i64 0, .int .i64 0, .int .i64 0]) ?_ 3 _ rfl; (with_reducible repeat (first | refine blk_drewN ?_ _ | refine blk_drew ?_ | refine blk_alloc ?_ _)); refine blk_put (cs := #[.int .i64 t101, .int .i64 t102, .int .i64 0, .int .i64 0, .int .i64 0, .int .i64 0, .int .i64 0, .int .i64 0]) ?_ 2 _ rfl; (with_reducible repeat (first | refine blk_drewN ?_ _ | refine blk_drew ?_ | refine blk_alloc ?_ _)); refine blk_put (cs := #[.int .i64 t101, .int .i64 0, .int .i64 0, .int .i64 0, .int .i64 0, .int .i64 0, .int .i64 0, .int .i64 0]) ?_ 1 _ rfl; (with_reducible repeat (first | refine blk_drewN ?_ _ | refine blk_drew ?_ | refine blk_alloc ?_ _)); refine blk_put (cs := #[.int .i64 0, .int .i64 0, .int .i64 0, .int .i64 0, .int .i64 0, .int .i64 0, .int .i64 0, .int .i64 0]) ?_ 0 _ rfl; (with_reducible repeat (first | refine blk_drewN ?_ _ | refine blk_drew ?_ | refine blk_alloc ?_ _)); exact BK110.out) hb); have n1_ := Aside0.mk (below_step (by repeat (first | (with_reducible first | exact HB.out | apply below_alloc | apply pw_below_drewN | apply below_drew1 | refine below_set ?_ GE110.out) | exact HB.out)) hb); clear BK110; clear HB; have BK110 := n0_; have HB := n1_; clear n0_ n1_; (try clear hb); (try clear hb2); (try clear hk); (try clear hi); have hcz16_0 : w15.cell? ⟨gb110, 0, none⟩ = some (.int .i64 t101) := (blk_cell BK110.out 0).trans rfl; have hcz16_1 : w15.cell? ⟨gb110, 1, none⟩ = some (.int .i64 t102) := (blk_cell BK110.out 1).trans rfl; have hcz16_2 : w15.cell? ⟨gb110, 2, none⟩ = some (.int .i64 t103) := (blk_cell BK110.out 2).trans rfl; have hcz16_3 : w15.cell? ⟨gb110, 3, none⟩ = some (.int .i64 t104) := (blk_cell BK110.out 3).trans rfl; have hcz16_4 : w15.cell? ⟨gb110, 4, none⟩ = some (.int .i64 t105) := (blk_cell BK110.out 4).trans rfl; have hcz16_5 : w15.cell? ⟨gb110, 5, none⟩ = some (.int .i64 t106) := (blk_cell BK110.out 5).trans rfl; have hcz16_6 : w15.cell? ⟨gb110, 6, none⟩ = some (.int .i64 t107) := (blk_cell BK110.out 6).trans rfl; have hcz16_7 : w15.cell? ⟨gb110, 7, none⟩ = some (.int .i64 t108) := (blk_cell BK110.out 7).trans rfl; have hfz16_0 := blk_frozen BK110.out 0; have hfz16_1 := blk_frozen BK110.out 1; have hfz16_2 := blk_frozen BK110.out 2; have hfz16_3 := blk_frozen BK110.out 3; have hfz16_4 := blk_frozen BK110.out 4; have hfz16_5 := blk_frozen BK110.out 5; have hfz16_6 := blk_frozen BK110.out 6; have hfz16_7 := blk_frozen BK110.out 7))
          go_ret
          exact ⟨by first | rfl | (simp [errW_none, errW_some] <;> rfl) | (simp [*, errW_none, errW_some] <;> rfl), by repeat (first | (with_reducible first | exact HB.out | apply below_alloc | apply pw_below_drewN | apply below_drew1 | refine below_set ?_ GE110.out) | exact HB.out)⟩
      · rw [if_neg c5] at H
        have c5b0 : (t105 == 110) = false := beq_eq_false_iff_ne.mpr c5
        have c5b1 : (t105 != 110) = true := bne_iff_ne.mpr c5
        obtain rfl := Option.some.inj H
        go_enter Try.func26, Try.ntmps26
        go_wp2_with (first | ((with_reducible refine gate_callee (f := 23) rfl ?_); refine goesL_ (some 8) rfl rfl Try.func23 (by kernel_rfl) rfl #[.agg #[.int .i64 5, .int .i64 1, .int .i64 7, .int .u64 0, .int .u64 4], .int .i64 10] rfl (by (try simp only [List.map_toArray, List.map_cons, List.map_nil]); first | done | rfl | (simp only [List.length_drop, List.length_take]; rfl)) ?_; (with_reducible refine (limit_Draw.calls 5 1 7 0 4 10 t101 t102 t103 t104 t105 t106 t107 t108 t109 _ A1.out).mono ?_); rintro e w17 ⟨rfl, hb⟩; refine ⟨_, rfl, ?_⟩; have n0_ := Aside0.mk (below_step (by repeat (first | (with_reducible first | exact HB.out | apply below_alloc | apply pw_below_drewN | apply below_drew1) | exact HB.out)) hb); clear HB; have HB := n0_; clear n0_; (try clear hb); (try clear hb2); (try clear hk); (try clear hi)) | ((with_reducible refine gate_dst (N := 1) rfl ?_); refine box_event ?hg (N := 1) ?hd (cs := #[.int .i64 0, .int .i64 0, .int .i64 0, .int .i64 0, .int .i64 0, .int .i64 0, .int .i64 0, .int .i64 0]) (t := 39) ?hr ?_; (case hd => rfl); (case hg => rfl); (case hr => first | (go_simp; done) | (go_simp; rfl)); intro gb110 hg w18 hbox hb; have n0_ := Aside0.mk (below_step (by repeat (first | (with_reducible first | exact HB.out | apply below_alloc | apply pw_below_drewN | apply below_drew1) | exact HB.out)) hb); have n1_ := Aside0.mk (hbox); have n2_ := Aside0.mk ((by rw [hg]; exact (below_size (by repeat (first | (with_reducible first | exact HB.out | apply below_alloc | apply pw_below_drewN | apply below_drew1) | exact HB.out))) : w.heap.size ≤ gb110)); have n3_ := Aside0.mk ((by rw [hg]; exact (below_size (by repeat (first | (with_reducible first | exact HB.out | apply below_alloc | apply pw_below_drewN | apply below_drew1) | exact HB.out))) : w.heap.size ≤ gb110)); clear HB; have HB := n0_; have BK110 := n1_; have GW110 := n2_; have GE110 := n3_; clear n0_ n1_ n2_ n3_; clear hb hbox hg; have hcz19_0 : w18.cell? ⟨gb110, 0, none⟩ = some (.int .i64 0) := (blk_cell BK110.out 0).trans rfl; have hcz19_1 : w18.cell? ⟨gb110, 1, none⟩ = some (.int .i64 0) := (blk_cell BK110.out 1).trans rfl; have hcz19_2 : w18.cell? ⟨gb110, 2, none⟩ = some (.int .i64 0) := (blk_cell BK110.out 2).trans rfl; have hcz19_3 : w18.cell? ⟨gb110, 3, none⟩ = some (.int .i64 0) := (blk_cell BK110.out 3).trans rfl; have hcz19_4 : w18.cell? ⟨gb110, 4, none⟩ = some (.int .i64 0) := (blk_cell BK110.out 4).trans rfl; have hcz19_5 : w18.cell? ⟨gb110, 5, none⟩ = some (.int .i64 0) := (blk_cell BK110.out 5).trans rfl; have hcz19_6 : w18.cell? ⟨gb110, 6, none⟩ = some (.int .i64 0) := (blk_cell BK110.out 6).trans rfl; have hcz19_7 : w18.cell? ⟨gb110, 7, none⟩ = some (.int .i64 0) := (blk_cell BK110.out 7).trans rfl; have hfz19_0 := blk_frozen BK110.out 0; have hfz19_1 := blk_frozen BK110.out 1; have hfz19_2 := blk_frozen BK110.out 2; have hfz19_3 := blk_frozen BK110.out 3; have hfz19_4 := blk_frozen BK110.out 4; have hfz19_5 := blk_frozen BK110.out 5; have hfz19_6 := blk_frozen BK110.out 6; have hfz19_7 := blk_frozen BK110.out 7) | ((with_reducible refine gate_callee (f := 30) rfl ?_); refine goesL_ (some 13) rfl rfl Try.func30 (by kernel_rfl) rfl #[.agg #[.int .i64 t101, .int .i64 t102, .int .i64 t103, .int .i64 t104, .int .i64 t105, .int .i64 t106, .int .i64 t107, .int .i64 t108]] rfl (by (try simp only [List.map_toArray, List.map_cons, List.map_nil]); first | done | rfl | (simp only [List.length_drop, List.length_take]; rfl)) ?_; (with_reducible refine (limit_Verdict.calls t101 t102 t103 t104 t105 t106 t107 t108 t111 t112 _ A2.out).mono ?_); rintro e w20 ⟨rfl, hb⟩; refine ⟨_, rfl, ?_⟩; have n0_ := Aside0.mk (blk_below (g := gb110) (o := .cells #[.int .i64 t101, .int .i64 t102, .int .i64 t103, .int .i64 t104, .int .i64 t105, .int .i64 t106, .int .i64 t107, .int .i64 t108] 39 (0, 0)) (by (with_reducible repeat (first | refine blk_drewN ?_ _ | refine blk_drew ?_ | refine blk_alloc ?_ _)); refine blk_put (cs := #[.int .i64 t101, .int .i64 t102, .int .i64 t103, .int .i64 t104, .int .i64 t105, .int .i64 t106, .int .i64 t107, .int .i64 0]) ?_ 7 _ rfl; (with_reducible repeat (first | refine blk_drewN ?_ _ | refine blk_drew ?_ | refine blk_alloc ?_ _)); refine blk_put (cs := #[.int .i64 t101, .int .i64 t102, .int .i64 t103, .int .i64 t104, .int .i64 t105, .int .i64 t106, .int .i64 0, .int .i64 0]) ?_ 6 _ rfl; (with_reducible repeat (first | refine blk_drewN ?_ _ | refine blk_drew ?_ | refine blk_alloc ?_ _)); refine blk_put (cs := #[.int .i64 t101, .int .i64 t102, .int .i64 t103, .int .i64 t104, .int .i64 t105, .int .i64 0, .int .i64 0, .int .i64 0]) ?_ 5 _ rfl; (with_reducible repeat (first | refine blk_drewN ?_ _ | refine blk_drew ?_ | refine blk_alloc ?_ _)); refine blk_put (cs := #[.int .i64 t101, .int .i64 t102, .int .i64 t103, .int .i64 t104, .int .i64 0, .int .i64 0, .int .i64 0, .int .i64 0]) ?_ 4 _ rfl; (with_reducible repeat (first | refine blk_drewN ?_ _ | refine blk_drew ?_ | refine blk_alloc ?_ _)); refine blk_put (cs := #[.int .i64 t101, .int .i64 t102, .int .i64 t103, .int .i64 0, .int .i64 0, .int .i64 0, .int .i64 0, .int .i64 0]) ?_ 3 _ rfl; (with_reducible repeat (first | refine blk_drewN ?_ _ | refine blk_drew ?_ | refine blk_alloc ?_ _)); refine blk_put (cs := #[.int .i64 t101, .int .i64 t102, .int .i64 0, .int .i64 0, .int .i64 0, .int .i64 0, .int .i64 0, .int .i64 0]) ?_ 2 _ rfl; (with_reducible repeat (first | refine blk_drewN ?_ _ | refine blk_drew ?_ | refine blk_alloc ?_ _)); refine blk_put (cs := #[.int .i64 t101, .int .i64 0, .int .i64 0, .int .i64 0, .int .i64 0, .int .i64 0, .int .i64 0, .int .i64 0]) ?_ 1 _ rfl; (with_reducible repeat (first | refine blk_drewN ?_ _ | refine blk_drew ?_ | refine blk_alloc ?_ _)); refine blk_put (cs := #[.int .i64 0, .int .i64 0, .int .i64 0, .int .i64 0, .int .i64 0, .int .i64 0, .int .i64 0, .int .i64 0]) ?_ 0 _ rfl; (with_reducible repeat (first | refine blk_drewN ?_ _ | refine blk_drew ?_ | refine blk_alloc ?_ _)); exact BK110.out) hb); have n1_ := Aside0.mk (below_step (by repeat (first | (with_reducible first | exact HB.out | apply below_alloc | apply pw_below_drewN | apply below_drew1 | refine below_set ?_ GE110.out) | exact HB.out)) hb); clear BK110; clear HB; have BK110 := n0_; have HB := n1_; clear n0_ n1_; (try clear hb); (try clear hb2); (try clear hk); (try clear hi); have hcz21_0 : w20.cell? ⟨gb110, 0, none⟩ = some (.int .i64 t101) := (blk_cell BK110.out 0).trans rfl; have hcz21_1 : w20.cell? ⟨gb110, 1, none⟩ = some (.int .i64 t102) := (blk_cell BK110.out 1).trans rfl; have hcz21_2 : w20.cell? ⟨gb110, 2, none⟩ = some (.int .i64 t103) := (blk_cell BK110.out 2).trans rfl; have hcz21_3 : w20.cell? ⟨gb110, 3, none⟩ = some (.int .i64 t104) := (blk_cell BK110.out 3).trans rfl; have hcz21_4 : w20.cell? ⟨gb110, 4, none⟩ = some (.int .i64 t105) := (blk_cell BK110.out 4).trans rfl; have hcz21_5 : w20.cell? ⟨gb110, 5, none⟩ = some (.int .i64 t106) := (blk_cell BK110.out 5).trans rfl; have hcz21_6 : w20.cell? ⟨gb110, 6, none⟩ = some (.int .i64 t107) := (blk_cell BK110.out 6).trans rfl; have hcz21_7 : w20.cell? ⟨gb110, 7, none⟩ = some (.int .i64 t108) := (blk_cell BK110.out 7).trans rfl; have hfz21_0 := blk_frozen BK110.out 0; have hfz21_1 := blk_frozen BK110.out 1; have hfz21_2 := blk_frozen BK110.out 2; have hfz21_3 := blk_frozen BK110.out 3; have hfz21_4 := blk_frozen BK110.out 4; have hfz21_5 := blk_frozen BK110.out 5; have hfz21_6 := blk_frozen BK110.out 6; have hfz21_7 := blk_frozen BK110.out 7))
        go_ret
        exact ⟨by first | rfl | (simp [errW_none, errW_some] <;> rfl) | (simp [*, errW_none, errW_some] <;> rfl), by repeat (first | (with_reducible first | exact HB.out | apply below_alloc | apply pw_below_drewN | apply below_drew1 | refine below_set ?_ GE110.out) | exact HB.out)⟩
    · rw [if_neg c4] at H
      have c4b0 : (t112 == 0) = false := beq_eq_false_iff_ne.mpr c4
      have c4b1 : (t112 != 0) = true := bne_iff_ne.mpr c4
      obtain rfl := Option.some.inj H
      go_enter Try.func26, Try.ntmps26
      go_wp2_with (first | ((with_reducible refine gate_callee (f := 23) rfl ?_); refine goesL_ (some 8) rfl rfl Try.func23 (by kernel_rfl) rfl #[.agg #[.int .i64 5, .int .i64 1, .int .i64 7, .int .u64 0, .int .u64 4], .int .i64 10] rfl (by (try simp only [List.map_toArray, List.map_cons, List.map_nil]); first | done | rfl | (simp only [List.length_drop, List.length_take]; rfl)) ?_; (with_reducible refine (limit_Draw.calls 5 1 7 0 4 10 t101 t102 t103 t104 t105 t106 t107 t108 t109 _ A1.out).mono ?_); rintro e w22 ⟨rfl, hb⟩; refine ⟨_, rfl, ?_⟩; have n0_ := Aside0.mk (below_step (by repeat (first | (with_reducible first | exact HB.out | apply below_alloc | apply pw_below_drewN | apply below_drew1) | exact HB.out)) hb); clear HB; have HB := n0_; clear n0_; (try clear hb); (try clear hb2); (try clear hk); (try clear hi)) | ((with_reducible refine gate_dst (N := 1) rfl ?_); refine box_event ?hg (N := 1) ?hd (cs := #[.int .i64 0, .int .i64 0, .int .i64 0, .int .i64 0, .int .i64 0, .int .i64 0, .int .i64 0, .int .i64 0]) (t := 39) ?hr ?_; (case hd => rfl); (case hg => rfl); (case hr => first | (go_simp; done) | (go_simp; rfl)); intro gb110 hg w23 hbox hb; have n0_ := Aside0.mk (below_step (by repeat (first | (with_reducible first | exact HB.out | apply below_alloc | apply pw_below_drewN | apply below_drew1) | exact HB.out)) hb); have n1_ := Aside0.mk (hbox); have n2_ := Aside0.mk ((by rw [hg]; exact (below_size (by repeat (first | (with_reducible first | exact HB.out | apply below_alloc | apply pw_below_drewN | apply below_drew1) | exact HB.out))) : w.heap.size ≤ gb110)); have n3_ := Aside0.mk ((by rw [hg]; exact (below_size (by repeat (first | (with_reducible first | exact HB.out | apply below_alloc | apply pw_below_drewN | apply below_drew1) | exact HB.out))) : w.heap.size ≤ gb110)); clear HB; have HB := n0_; have BK110 := n1_; have GW110 := n2_; have GE110 := n3_; clear n0_ n1_ n2_ n3_; clear hb hbox hg; have hcz24_0 : w23.cell? ⟨gb110, 0, none⟩ = some (.int .i64 0) := (blk_cell BK110.out 0).trans rfl; have hcz24_1 : w23.cell? ⟨gb110, 1, none⟩ = some (.int .i64 0) := (blk_cell BK110.out 1).trans rfl; have hcz24_2 : w23.cell? ⟨gb110, 2, none⟩ = some (.int .i64 0) := (blk_cell BK110.out 2).trans rfl; have hcz24_3 : w23.cell? ⟨gb110, 3, none⟩ = some (.int .i64 0) := (blk_cell BK110.out 3).trans rfl; have hcz24_4 : w23.cell? ⟨gb110, 4, none⟩ = some (.int .i64 0) := (blk_cell BK110.out 4).trans rfl; have hcz24_5 : w23.cell? ⟨gb110, 5, none⟩ = some (.int .i64 0) := (blk_cell BK110.out 5).trans rfl; have hcz24_6 : w23.cell? ⟨gb110, 6, none⟩ = some (.int .i64 0) := (blk_cell BK110.out 6).trans rfl; have hcz24_7 : w23.cell? ⟨gb110, 7, none⟩ = some (.int .i64 0) := (blk_cell BK110.out 7).trans rfl; have hfz24_0 := blk_frozen BK110.out 0; have hfz24_1 := blk_frozen BK110.out 1; have hfz24_2 := blk_frozen BK110.out 2; have hfz24_3 := blk_frozen BK110.out 3; have hfz24_4 := blk_frozen BK110.out 4; have hfz24_5 := blk_frozen BK110.out 5; have hfz24_6 := blk_frozen BK110.out 6; have hfz24_7 := blk_frozen BK110.out 7) | ((with_reducible refine gate_callee (f := 30) rfl ?_); refine goesL_ (some 13) rfl rfl Try.func30 (by kernel_rfl) rfl #[.agg #[.int .i64 t101, .int .i64 t102, .int .i64 t103, .int .i64 t104, .int .i64 t105, .int .i64 t106, .int .i64 t107, .int .i64 t108]] rfl (by (try simp only [List.map_toArray, List.map_cons, List.map_nil]); first | done | rfl | (simp only [List.length_drop, List.length_take]; rfl)) ?_; (with_reducible refine (limit_Verdict.calls t101 t102 t103 t104 t105 t106 t107 t108 t111 t112 _ A2.out).mono ?_); rintro e w25 ⟨rfl, hb⟩; refine ⟨_, rfl, ?_⟩; have n0_ := Aside0.mk (blk_below (g := gb110) (o := .cells #[.int .i64 t101, .int .i64 t102, .int .i64 t103, .int .i64 t104, .int .i64 t105, .int .i64 t106, .int .i64 t107, .int .i64 t108] 39 (0, 0)) (by (with_reducible repeat (first | refine blk_drewN ?_ _ | refine blk_drew ?_ | refine blk_alloc ?_ _)); refine blk_put (cs := #[.int .i64 t101, .int .i64 t102, .int .i64 t103, .int .i64 t104, .int .i64 t105, .int .i64 t106, .int .i64 t107, .int .i64 0]) ?_ 7 _ rfl; (with_reducible repeat (first | refine blk_drewN ?_ _ | refine blk_drew ?_ | refine blk_alloc ?_ _)); refine blk_put (cs := #[.int .i64 t101, .int .i64 t102, .int .i64 t103, .int .i64 t104, .int .i64 t105, .int .i64 t106, .int .i64 0, .int .i64 0]) ?_ 6 _ rfl; (with_reducible repeat (first | refine blk_drewN ?_ _ | refine blk_drew ?_ | refine blk_alloc ?_ _)); refine blk_put (cs := #[.int .i64 t101, .int .i64 t102, .int .i64 t103, .int .i64 t104, .int .i64 t105, .int .i64 0, .int .i64 0, .int .i64 0]) ?_ 5 _ rfl; (with_reducible repeat (first | refine blk_drewN ?_ _ | refine blk_drew ?_ | refine blk_alloc ?_ _)); refine blk_put (cs := #[.int .i64 t101, .int .i64 t102, .int .i64 t103, .int .i64 t104, .int .i64 0, .int .i64 0, .int .i64 0, .int .i64 0]) ?_ 4 _ rfl; (with_reducible repeat (first | refine blk_drewN ?_ _ | refine blk_drew ?_ | refine blk_alloc ?_ _)); refine blk_put (cs := #[.int .i64 t101, .int .i64 t102, .int .i64 t103, .int .i64 0, .int .i64 0, .int .i64 0, .int .i64 0, .int .i64 0]) ?_ 3 _ rfl; (with_reducible repeat (first | refine blk_drewN ?_ _ | refine blk_drew ?_ | refine blk_alloc ?_ _)); refine blk_put (cs := #[.int .i64 t101, .int .i64 t102, .int .i64 0, .int .i64 0, .int .i64 0, .int .i64 0, .int .i64 0, .int .i64 0]) ?_ 2 _ rfl; (with_reducible repeat (first | refine blk_drewN ?_ _ | refine blk_drew ?_ | refine blk_alloc ?_ _)); refine blk_put (cs := #[.int .i64 t101, .int .i64 0, .int .i64 0, .int .i64 0, .int .i64 0, .int .i64 0, .int .i64 0, .int .i64 0]) ?_ 1 _ rfl; (with_reducible repeat (first | refine blk_drewN ?_ _ | refine blk_drew ?_ | refine blk_alloc ?_ _)); refine blk_put (cs := #[.int .i64 0, .int .i64 0, .int .i64 0, .int .i64 0, .int .i64 0, .int .i64 0, .int .i64 0, .int .i64 0]) ?_ 0 _ rfl; (with_reducible repeat (first | refine blk_drewN ?_ _ | refine blk_drew ?_ | refine blk_alloc ?_ _)); exact BK110.out) hb); have n1_ := Aside0.mk (below_step (by repeat (first | (with_reducible first | exact HB.out | apply below_alloc | apply pw_below_drewN | apply below_drew1 | refine below_set ?_ GE110.out) | exact HB.out)) hb); clear BK110; clear HB; have BK110 := n0_; have HB := n1_; clear n0_ n1_; (try clear hb); (try clear hb2); (try clear hk); (try clear hi)))
      go_ret
      exact ⟨by first | rfl | (simp [errW_none, errW_some] <;> rfl) | (simp [*, errW_none, errW_some] <;> rfl), by repeat (first | (with_reducible first | exact HB.out | apply below_alloc | apply pw_below_drewN | apply below_drew1 | refine below_set ?_ GE110.out) | exact HB.out)⟩
  · rw [if_neg c3] at H
    have c3b0 : (t109 == 0) = false := beq_eq_false_iff_ne.mpr c3
    have c3b1 : (t109 != 0) = true := bne_iff_ne.mpr c3
    obtain rfl := Option.some.inj H
    go_enter Try.func26, Try.ntmps26
    go_wp2_with (first | ((with_reducible refine gate_callee (f := 23) rfl ?_); refine goesL_ (some 8) rfl rfl Try.func23 (by kernel_rfl) rfl #[.agg #[.int .i64 5, .int .i64 1, .int .i64 7, .int .u64 0, .int .u64 4], .int .i64 10] rfl (by (try simp only [List.map_toArray, List.map_cons, List.map_nil]); first | done | rfl | (simp only [List.length_drop, List.length_take]; rfl)) ?_; (with_reducible refine (limit_Draw.calls 5 1 7 0 4 10 t101 t102 t103 t104 t105 t106 t107 t108 t109 _ A1.out).mono ?_); rintro e w26 ⟨rfl, hb⟩; refine ⟨_, rfl, ?_⟩; have n0_ := Aside0.mk (below_step (by repeat (first | (with_reducible first | exact HB.out | apply below_alloc | apply pw_below_drewN | apply below_drew1) | exact HB.out)) hb); clear HB; have HB := n0_; clear n0_; (try clear hb); (try clear hb2); (try clear hk); (try clear hi)) | ((with_reducible refine gate_dst (N := 1) rfl ?_); refine box_event ?hg (N := 1) ?hd (cs := #[.int .i64 0, .int .i64 0, .int .i64 0, .int .i64 0, .int .i64 0, .int .i64 0, .int .i64 0, .int .i64 0]) (t := 39) ?hr ?_; (case hd => rfl); (case hg => rfl); (case hr => first | (go_simp; done) | (go_simp; rfl)); intro gb110 hg w27 hbox hb; have n0_ := Aside0.mk (below_step (by repeat (first | (with_reducible first | exact HB.out | apply below_alloc | apply pw_below_drewN | apply below_drew1) | exact HB.out)) hb); have n1_ := Aside0.mk (hbox); have n2_ := Aside0.mk ((by rw [hg]; exact (below_size (by repeat (first | (with_reducible first | exact HB.out | apply below_alloc | apply pw_below_drewN | apply below_drew1) | exact HB.out))) : w.heap.size ≤ gb110)); have n3_ := Aside0.mk ((by rw [hg]; exact (below_size (by repeat (first | (with_reducible first | exact HB.out | apply below_alloc | apply pw_below_drewN | apply below_drew1) | exact HB.out))) : w.heap.size ≤ gb110)); clear HB; have HB := n0_; have BK110 := n1_; have GW110 := n2_; have GE110 := n3_; clear n0_ n1_ n2_ n3_; clear hb hbox hg; have hcz28_0 : w27.cell? ⟨gb110, 0, none⟩ = some (.int .i64 0) := (blk_cell BK110.out 0).trans rfl; have hcz28_1 : w27.cell? ⟨gb110, 1, none⟩ = some (.int .i64 0) := (blk_cell BK110.out 1).trans rfl; have hcz28_2 : w27.cell? ⟨gb110, 2, none⟩ = some (.int .i64 0) := (blk_cell BK110.out 2).trans rfl; have hcz28_3 : w27.cell? ⟨gb110, 3, none⟩ = some (.int .i64 0) := (blk_cell BK110.out 3).trans rfl; have hcz28_4 : w27.cell? ⟨gb110, 4, none⟩ = some (.int .i64 0) := (blk_cell BK110.out 4).trans rfl; have hcz28_5 : w27.cell? ⟨gb110, 5, none⟩ = some (.int .i64 0) := (blk_cell BK110.out 5).trans rfl; have hcz28_6 : w27.cell? ⟨gb110, 6, none⟩ = some (.int .i64 0) := (blk_cell BK110.out 6).trans rfl; have hcz28_7 : w27.cell? ⟨gb110, 7, none⟩ = some (.int .i64 0) := (blk_cell BK110.out 7).trans rfl; have hfz28_0 := blk_frozen BK110.out 0; have hfz28_1 := blk_frozen BK110.out 1; have hfz28_2 := blk_frozen BK110.out 2; have hfz28_3 := blk_frozen BK110.out 3; have hfz28_4 := blk_frozen BK110.out 4; have hfz28_5 := blk_frozen BK110.out 5; have hfz28_6 := blk_frozen BK110.out 6; have hfz28_7 := blk_frozen BK110.out 7) | ((with_reducible refine gate_callee (f := 30) rfl ?_); refine goesL_ (some 13) rfl rfl Try.func30 (by kernel_rfl) rfl #[.agg #[.int .i64 t101, .int .i64 t102, .int .i64 t103, .int .i64 t104, .int .i64 t105, .int .i64 t106, .int .i64 t107, .int .i64 t108]] rfl (by (try simp only [List.map_toArray, List.map_cons, List.map_nil]); first | done | rfl | (simp only [List.length_drop, List.length_take]; rfl)) ?_; (with_reducible refine (limit_Verdict.calls t101 t102 t103 t104 t105 t106 t107 t108 t111 t112 _ A2.out).mono ?_); rintro e w29 ⟨rfl, hb⟩; refine ⟨_, rfl, ?_⟩; have n0_ := Aside0.mk (blk_below (g := gb110) (o := .cells #[.int .i64 t101, .int .i64 t102, .int .i64 t103, .int .i64 t104, .int .i64 t105, .int .i64 t106, .int .i64 t107, .int .i64 t108] 39 (0, 0)) (by (with_reducible repeat (first | refine blk_drewN ?_ _ | refine blk_drew ?_ | refine blk_alloc ?_ _)); refine blk_put (cs := #[.int .i64 t101, .int .i64 t102, .int .i64 t103, .int .i64 t104, .int .i64 t105, .int .i64 t106, .int .i64 t107, .int .i64 0]) ?_ 7 _ rfl; (with_reducible repeat (first | refine blk_drewN ?_ _ | refine blk_drew ?_ | refine blk_alloc ?_ _)); refine blk_put (cs := #[.int .i64 t101, .int .i64 t102, .int .i64 t103, .int .i64 t104, .int .i64 t105, .int .i64 t106, .int .i64 0, .int .i64 0]) ?_ 6 _ rfl; (with_reducible repeat (first | refine blk_drewN ?_ _ | refine blk_drew ?_ | refine blk_alloc ?_ _)); refine blk_put (cs := #[.int .i64 t101, .int .i64 t102, .int .i64 t103, .int .i64 t104, .int .i64 t105, .int .i64 0, .int .i64 0, .int .i64 0]) ?_ 5 _ rfl; (with_reducible repeat (first | refine blk_drewN ?_ _ | refine blk_drew ?_ | refine blk_alloc ?_ _)); refine blk_put (cs := #[.int .i64 t101, .int .i64 t102, .int .i64 t103, .int .i64 t104, .int .i64 0, .int .i64 0, .int .i64 0, .int .i64 0]) ?_ 4 _ rfl; (with_reducible repeat (first | refine blk_drewN ?_ _ | refine blk_drew ?_ | refine blk_alloc ?_ _)); refine blk_put (cs := #[.int .i64 t101, .int .i64 t102, .int .i64 t103, .int .i64 0, .int .i64 0, .int .i64 0, .int .i64 0, .int .i64 0]) ?_ 3 _ rfl; (with_reducible repeat (first | refine blk_drewN ?_ _ | refine blk_drew ?_ | refine blk_alloc ?_ _)); refine blk_put (cs := #[.int .i64 t101, .int .i64 t102, .int .i64 0, .int .i64 0, .int .i64 0, .int .i64 0, .int .i64 0, .int .i64 0]) ?_ 2 _ rfl; (with_reducible repeat (first | refine blk_drewN ?_ _ | refine blk_drew ?_ | refine blk_alloc ?_ _)); refine blk_put (cs := #[.int .i64 t101, .int .i64 0, .int .i64 0, .int .i64 0, .int .i64 0, .int .i64 0, .int .i64 0, .int .i64 0]) ?_ 1 _ rfl; (with_reducible repeat (first | refine blk_drewN ?_ _ | refine blk_drew ?_ | refine blk_alloc ?_ _)); refine blk_put (cs := #[.int .i64 0, .int .i64 0, .int .i64 0, .int .i64 0, .int .i64 0, .int .i64 0, .int .i64 0, .int .i64 0]) ?_ 0 _ rfl; (with_reducible repeat (first | refine blk_drewN ?_ _ | refine blk_drew ?_ | refine blk_alloc ?_ _)); exact BK110.out) hb); have n1_ := Aside0.mk (below_step (by repeat (first | (with_reducible first | exact HB.out | apply below_alloc | apply pw_below_drewN | apply below_drew1 | refine below_set ?_ GE110.out) | exact HB.out)) hb); clear BK110; clear HB; have BK110 := n0_; have HB := n1_; clear n0_ n1_; (try clear hb); (try clear hb2); (try clear hk); (try clear hi)))
    go_ret
    exact ⟨by first | rfl | (simp [errW_none, errW_some] <;> rfl) | (simp [*, errW_none, errW_some] <;> rfl), by repeat (first | (with_reducible first | exact HB.out | apply below_alloc | apply pw_below_drewN | apply below_drew1 | refine below_set ?_ GE110.out) | exact HB.out)⟩

/-! ### datumlaw17_some: function 29 -/
def datumlaw17_some.f (a0 : Int) (a1 : Int) (a2 : Int) (a3_0 : Int) (a3_1 : Int) : Option (Int × Int × Int × Int × Int) := some (Int.tmod a0 100000000000000, wrap64 (1 + (Int.tmod (wrap64 ((Int.tmod a1 100000000000000) + 100000000000000)) 100000000000000)), Int.tmod a2 100000000000000, a3_0 / 67108864, a3_1)
set_option maxHeartbeats 8000000 in
set_option maxRecDepth 100000 in
theorem datumlaw17_some.calls (a0 : Int) (a1 : Int) (a2 : Int) (a3_0 : Int) (a3_1 : Int) (r1 : Int) (r2 : Int) (r3 : Int) (r4 : Int) (r5 : Int) (w : World) (h : datumlaw17_some.f a0 a1 a2 a3_0 a3_1 = some (r1, r2, r3, r4, r5)) :
    Calls Try.prog 29 #[.int .i64 a0, .int .i64 a1, .int .i64 a2, .agg #[.int .u64 a3_0, .int .u64 a3_1]] w fun e w' => e = .returned (.agg #[.int .i64 r1, .int .i64 r2, .int .i64 r3, .int .u64 r4, .int .u64 r5]) ∧ Below w.heap.size w w' := by
  have hu35 := Try.underlying35
  have hu37 := Try.underlying37
  have HB := Aside0.mk (Below.refl w.heap.size w)
  have H : (some (Int.tmod a0 100000000000000, wrap64 (1 + (Int.tmod (wrap64 ((Int.tmod a1 100000000000000) + 100000000000000)) 100000000000000)), Int.tmod a2 100000000000000, a3_0 / 67108864, a3_1)) = some (r1, r2, r3, r4, r5) := h
  clear h
  simp only [Option.some.injEq, Prod.mk.injEq] at H
  obtain ⟨rfl, rfl, rfl, rfl, rfl⟩ := H
  go_enter Try.func29, Try.ntmps29
  go_wp2_with (first | ((with_reducible refine gate_dst (N := 7) rfl ?_); refine box_event ?hg (N := 7) ?hd (cs := #[.int .u64 a3_0, .int .u64 a3_1]) (t := 35) ?hr ?_; (case hd => rfl); (case hg => rfl); (case hr => first | (go_simp; done) | (go_simp; rfl)); intro gb113 hg w5 hbox hb; have n0_ := Aside0.mk (below_step (by repeat (first | (with_reducible first | exact HB.out | apply below_alloc | apply pw_below_drewN | apply below_drew1) | exact HB.out)) hb); have n1_ := Aside0.mk (hbox); have n2_ := Aside0.mk ((by rw [hg]; exact (below_size (by repeat (first | (with_reducible first | exact HB.out | apply below_alloc | apply pw_below_drewN | apply below_drew1) | exact HB.out))) : w.heap.size ≤ gb113)); have n3_ := Aside0.mk ((by rw [hg]; exact (below_size (by repeat (first | (with_reducible first | exact HB.out | apply below_alloc | apply pw_below_drewN | apply below_drew1) | exact HB.out))) : w.heap.size ≤ gb113)); clear HB; have HB := n0_; have BK113 := n1_; have GW113 := n2_; have GE113 := n3_; clear n0_ n1_ n2_ n3_; clear hb hbox hg) | ((with_reducible refine gate_dst (N := 8) rfl ?_); refine box_event ?hg (N := 8) ?hd (cs := #[.int .i64 0, .int .i64 0, .int .i64 0, .int .u64 0, .int .u64 0]) (t := 37) ?hr ?_; (case hd => rfl); (case hg => rfl); (case hr => first | (go_simp; done) | (go_simp; rfl)); intro gb114 hg w6 hbox hb; have n0_ := Aside0.mk (blk_below (g := gb113) (o := .cells #[.int .u64 a3_0, .int .u64 a3_1] 35 (0, 0)) (by (with_reducible repeat (first | refine blk_drewN ?_ _ | refine blk_drew ?_ | refine blk_alloc ?_ _)); exact BK113.out) hb); have n1_ := Aside0.mk (below_step (by repeat (first | (with_reducible first | exact HB.out | apply below_alloc | apply pw_below_drewN | apply below_drew1 | refine below_set ?_ GE113.out) | exact HB.out)) hb); have n2_ := Aside0.mk (hbox); have n3_ := Aside0.mk ((by rw [hg]; exact (below_size (by repeat (first | (with_reducible first | exact HB.out | apply below_alloc | apply pw_below_drewN | apply below_drew1 | refine below_set ?_ GE113.out) | exact HB.out))) : w.heap.size ≤ gb114)); have n4_ := Aside0.mk ((by rw [hg]; exact (below_size (by repeat (first | (with_reducible first | exact HB.out | apply below_alloc | apply pw_below_drewN | apply below_drew1 | refine below_set ?_ GE113.out) | exact HB.out))) : w.heap.size ≤ gb114)); have n5_ := Aside0.mk ((by rw [hg]; exact Nat.ne_of_lt (blk_lt (g := gb113) (o := .cells #[.int .u64 a3_0, .int .u64 a3_1] 35 (0, 0)) (by (with_reducible repeat (first | refine blk_drewN ?_ _ | refine blk_drew ?_ | refine blk_alloc ?_ _)); exact BK113.out)) : gb113 ≠ gb114)); have n6_ := Aside0.mk ((by rw [hg]; exact Nat.ne_of_gt (blk_lt (g := gb113) (o := .cells #[.int .u64 a3_0, .int .u64 a3_1] 35 (0, 0)) (by (with_reducible repeat (first | refine blk_drewN ?_ _ | refine blk_drew ?_ | refine blk_alloc ?_ _)); exact BK113.out)) : gb114 ≠ gb113)); clear BK113; clear HB; have BK113 := n0_; have HB := n1_; have BK114 := n2_; have GW114 := n3_; have GE114 := n4_; have NB113_114 := n5_; have NB114_113 := n6_; clear n0_ n1_ n2_ n3_ n4_ n5_ n6_; clear hb hbox hg; have hnb7 := NB113_114.out; have hnc7 := NB114_113.out; have hcz8_0 : w6.cell? ⟨gb113, 0, none⟩ = some (.int .u64 a3_0) := (blk_cell BK113.out 0).trans rfl; have hcz8_1 : w6.cell? ⟨gb113, 1, none⟩ = some (.int .u64 a3_1) := (blk_cell BK113.out 1).trans rfl; have hfz8_0 := blk_frozen BK113.out 0; have hfz8_1 := blk_frozen BK113.out 1; have hcz9_0 : w6.cell? ⟨gb114, 0, none⟩ = some (.int .i64 0) := (blk_cell BK114.out 0).trans rfl; have hcz9_1 : w6.cell? ⟨gb114, 1, none⟩ = some (.int .i64 0) := (blk_cell BK114.out 1).trans rfl; have hcz9_2 : w6.cell? ⟨gb114, 2, none⟩ = some (.int .i64 0) := (blk_cell BK114.out 2).trans rfl; have hcz9_3 : w6.cell? ⟨gb114, 3, none⟩ = some (.int .u64 0) := (blk_cell BK114.out 3).trans rfl; have hcz9_4 : w6.cell? ⟨gb114, 4, none⟩ = some (.int .u64 0) := (blk_cell BK114.out 4).trans rfl; have hfz9_0 := blk_frozen BK114.out 0; have hfz9_1 := blk_frozen BK114.out 1; have hfz9_2 := blk_frozen BK114.out 2; have hfz9_3 := blk_frozen BK114.out 3; have hfz9_4 := blk_frozen BK114.out 4))
  refine bodyPost_ret (results_cell_row rfl _ _ gb114 37 #[.int .i64 (Int.tmod a0 100000000000000), .int .i64 (wrap64 (1 + (Int.tmod (wrap64 ((Int.tmod a1 100000000000000) + 100000000000000)) 100000000000000))), .int .i64 (Int.tmod a2 100000000000000), .int .u64 (a3_0 / 67108864), .int .u64 a3_1] (0, 0) _ rfl (by (with_reducible repeat (first | refine blk_drewN ?_ _ | refine blk_drew ?_ | refine blk_alloc ?_ _)); refine blk_put (cs := #[.int .i64 (Int.tmod a0 100000000000000), .int .i64 (wrap64 (1 + (Int.tmod (wrap64 ((Int.tmod a1 100000000000000) + 100000000000000)) 100000000000000))), .int .i64 (Int.tmod a2 100000000000000), .int .u64 (a3_0 / 67108864), .int .u64 0]) ?_ 4 _ rfl; (with_reducible repeat (first | refine blk_drewN ?_ _ | refine blk_drew ?_ | refine blk_alloc ?_ _)); refine blk_put (cs := #[.int .i64 (Int.tmod a0 100000000000000), .int .i64 (wrap64 (1 + (Int.tmod (wrap64 ((Int.tmod a1 100000000000000) + 100000000000000)) 100000000000000))), .int .i64 (Int.tmod a2 100000000000000), .int .u64 0, .int .u64 0]) ?_ 3 _ rfl; (with_reducible repeat (first | refine blk_drewN ?_ _ | refine blk_drew ?_ | refine blk_alloc ?_ _)); refine blk_put (cs := #[.int .i64 (Int.tmod a0 100000000000000), .int .i64 (wrap64 (1 + (Int.tmod (wrap64 ((Int.tmod a1 100000000000000) + 100000000000000)) 100000000000000))), .int .i64 0, .int .u64 0, .int .u64 0]) ?_ 2 _ rfl; (with_reducible repeat (first | refine blk_drewN ?_ _ | refine blk_drew ?_ | refine blk_alloc ?_ _)); refine blk_put (cs := #[.int .i64 (Int.tmod a0 100000000000000), .int .i64 0, .int .i64 0, .int .u64 0, .int .u64 0]) ?_ 1 _ rfl; (with_reducible repeat (first | refine blk_drewN ?_ _ | refine blk_drew ?_ | refine blk_alloc ?_ _)); refine blk_put (cs := #[.int .i64 0, .int .i64 0, .int .i64 0, .int .u64 0, .int .u64 0]) ?_ 0 _ rfl; (with_reducible repeat (first | refine blk_drewN ?_ _ | refine blk_drew ?_ | refine blk_alloc ?_ _)); exact BK114.out) Try.underlying37 rfl (by kernel_rfl)) rfl ?_
  exact ⟨by first | rfl | (simp [errW_none, errW_some] <;> rfl) | (simp [*, errW_none, errW_some] <;> rfl), by repeat (first | (with_reducible first | exact HB.out | apply below_alloc | apply pw_below_drewN | apply below_drew1 | refine below_set ?_ GE113.out | refine below_set ?_ GE114.out) | exact HB.out)⟩

/-! ### datumlaw17_LimitNarrow: function 6 -/
mutual
def datumlaw17_LimitNarrow.j0 : Nat → Bool → Int → Int → Int → Int → Int → Int → Int → Int → Int → Int → Int → Int → Int → Option (Bool)
  | 0, _, _, _, _, _, _, _, _, _, _, _, _, _, _ => none
  | k + 1, x38, x122000, x122001, x122002, x122003, x122004, x132000, x132001, x132002, x132003, x132004, x132005, x132006, x132007 => if x38 = true then (some false) else ((some (([(⟨x132000, x132001⟩ : S23), (⟨x132004, x132005⟩ : S23), (⟨x132002, x132003⟩ : S23), (⟨x132006, x132007⟩ : S23)] : List (S23)) : List (S23))).bind fun y133 => (datumlaw17_LimitNarrow.l0 k y133 (y133.length : Int) 0 x122000 x122001 x122002 x122003 x122004 x132000 x132001 x132002 x132003 x132004 x132005 x132006 x132007))
def datumlaw17_LimitNarrow.l0 : Nat → List (S23) → Int → Int → Int → Int → Int → Int → Int → Int → Int → Int → Int → Int → Int → Int → Int → Option (Bool)
  | 0, _, _, _, _, _, _, _, _, _, _, _, _, _, _, _, _ => none
  | k + 1, x47, x48, x49, x122000, x122001, x122002, x122003, x122004, x132000, x132001, x132002, x132003, x132004, x132005, x132006, x132007 => if x49 < x48 then (if 0 ≤ x49 then (if x49 < (x47.length : Int) then (if x49 ≥ 2 then (if ((rd_T23 x47 x49).f1) < ((rd_T23 x47 x49).f0) then (some false) else (if (wrap64 (((rd_T23 x47 x49).f1) - ((rd_T23 x47 x49).f0))) > 1 then (some false) else (datumlaw17_LimitNarrow.l0 k x47 x48 (wrap64 (x49 + 1)) x122000 x122001 x122002 x122003 x122004 x132000 x132001 x132002 x132003 x132004 x132005 x132006 x132007))) else (if ((rd_T23 x47 x49).f1) < ((rd_T23 x47 x49).f0) then (some false) else (if (wrap64 (((rd_T23 x47 x49).f1) - ((rd_T23 x47 x49).f0))) > 3 then (some false) else (datumlaw17_LimitNarrow.l0 k x47 x48 (wrap64 (x49 + 1)) x122000 x122001 x122002 x122003 x122004 x132000 x132001 x132002 x132003 x132004 x132005 x132006 x132007)))) else (none)) else (none)) else (if x132000 > x132002 then (some false) else (if x132001 > x132003 then (some false) else (if x132002 > x132004 then (some false) else (if x132003 > x132005 then (some false) else (if (!(x122003 == 0) || (!(x122004 == 0))) = true then (some true) else (if (x132000 == x132002 && (x132001 == x132003)) = true then (some (x132004 == x132002 && (x132005 == x132003))) else (some false)))))))
end
def datumlaw17_LimitNarrow.f (k : Nat) (a0 : Int) (a1 : Int) (a2 : Int) (a3_0 : Int) (a3_1 : Int) (a4 : Int) : Option (Bool) := (datumlaw17_some.f a0 a1 a2 a3_0 a3_1).bind fun bt116 => ((limit_Draw.f bt116.1 bt116.2.1 bt116.2.2.1 bt116.2.2.2.1 bt116.2.2.2.2 (wrap64 (1 + (Int.tmod (wrap64 ((Int.tmod a4 1000) + 1000)) 1000)))).bind fun bt122 => (if bt122.2.2.2.2.2.2.2.2 = 0 then ((datumlaw17_alive.f).bind fun t132 => (datumlaw17_LimitNarrow.j0 k (!t132) bt116.1 bt116.2.1 bt116.2.2.1 bt116.2.2.2.1 bt116.2.2.2.2 bt122.1 bt122.2.1 bt122.2.2.1 bt122.2.2.2.1 bt122.2.2.2.2.1 bt122.2.2.2.2.2.1 bt122.2.2.2.2.2.2.1 bt122.2.2.2.2.2.2.2.1)) else (datumlaw17_LimitNarrow.j0 k true bt116.1 bt116.2.1 bt116.2.2.1 bt116.2.2.2.1 bt116.2.2.2.2 bt122.1 bt122.2.1 bt122.2.2.1 bt122.2.2.2.1 bt122.2.2.2.2.1 bt122.2.2.2.2.2.1 bt122.2.2.2.2.2.2.1 bt122.2.2.2.2.2.2.2.1)))
theorem datumlaw17_LimitNarrow.mono_l : ∀ k, (∀ y0 y1 y2 y3 y4 y5 y6 y7 y8 y9 y10 y11 y12 y13, LeO (datumlaw17_LimitNarrow.j0 k y0 y1 y2 y3 y4 y5 y6 y7 y8 y9 y10 y11 y12 y13) (datumlaw17_LimitNarrow.j0 (k + 1) y0 y1 y2 y3 y4 y5 y6 y7 y8 y9 y10 y11 y12 y13)) ∧ (∀ y0 y1 y2 y3 y4 y5 y6 y7 y8 y9 y10 y11 y12 y13 y14 y15, LeO (datumlaw17_LimitNarrow.l0 k y0 y1 y2 y3 y4 y5 y6 y7 y8 y9 y10 y11 y12 y13 y14 y15) (datumlaw17_LimitNarrow.l0 (k + 1) y0 y1 y2 y3 y4 y5 y6 y7 y8 y9 y10 y11 y12 y13 y14 y15))
  | 0 => ⟨fun _ _ _ _ _ _ _ _ _ _ _ _ _ _ r h => by simp [datumlaw17_LimitNarrow.j0] at h, fun _ _ _ _ _ _ _ _ _ _ _ _ _ _ _ _ r h => by simp [datumlaw17_LimitNarrow.l0] at h⟩
  | k + 1 => by
    obtain ⟨ih0, ih1⟩ := datumlaw17_LimitNarrow.mono_l k
    refine ⟨?_, ?_⟩
    · intro y0 y1 y2 y3 y4 y5 y6 y7 y8 y9 y10 y11 y12 y13
      unfold datumlaw17_LimitNarrow.j0
      repeat' first
      | (with_reducible exact ih0 _ _ _ _ _ _ _ _ _ _ _ _ _ _)
      | (with_reducible exact ih1 _ _ _ _ _ _ _ _ _ _ _ _ _ _ _ _)
      | (with_reducible exact LeO.refl _)
      | (with_reducible exact LeO.none _)
      | (with_reducible refine LeO.ite ?_ ?_)
      | (with_reducible refine LeO.bind ?_ (fun _ => ?_))
      | exact ih0 _ _ _ _ _ _ _ _ _ _ _ _ _ _
      | exact ih1 _ _ _ _ _ _ _ _ _ _ _ _ _ _ _ _
      | exact LeO.none _
      | refine LeO.ite ?_ ?_
      | refine LeO.bind ?_ (fun _ => ?_)
    · intro y0 y1 y2 y3 y4 y5 y6 y7 y8 y9 y10 y11 y12 y13 y14 y15
      unfold datumlaw17_LimitNarrow.l0
      repeat' first
      | (with_reducible exact ih0 _ _ _ _ _ _ _ _ _ _ _ _ _ _)
      | (with_reducible exact ih1 _ _ _ _ _ _ _ _ _ _ _ _ _ _ _ _)
      | (with_reducible exact LeO.refl _)
      | (with_reducible exact LeO.none _)
      | (with_reducible refine LeO.ite ?_ ?_)
      | (with_reducible refine LeO.bind ?_ (fun _ => ?_))
      | exact ih0 _ _ _ _ _ _ _ _ _ _ _ _ _ _
      | exact ih1 _ _ _ _ _ _ _ _ _ _ _ _ _ _ _ _
      | exact LeO.none _
      | refine LeO.ite ?_ ?_
      | refine LeO.bind ?_ (fun _ => ?_)
theorem datumlaw17_LimitNarrow.mono : ∀ a0 a1 a2 a3 a4 a5 k, LeO (datumlaw17_LimitNarrow.f k a0 a1 a2 a3 a4 a5) (datumlaw17_LimitNarrow.f (k + 1) a0 a1 a2 a3 a4 a5) := by
  intro a0 a1 a2 a3 a4 a5 k
  obtain ⟨ih0, ih1⟩ := datumlaw17_LimitNarrow.mono_l k
  unfold datumlaw17_LimitNarrow.f
  repeat' first
      | (with_reducible exact ih0 _ _ _ _ _ _ _ _ _ _ _ _ _ _)
      | (with_reducible exact ih1 _ _ _ _ _ _ _ _ _ _ _ _ _ _ _ _)
      | (with_reducible exact LeO.refl _)
      | (with_reducible exact LeO.none _)
      | (with_reducible refine LeO.ite ?_ ?_)
      | (with_reducible refine LeO.bind ?_ (fun _ => ?_))
      | exact ih0 _ _ _ _ _ _ _ _ _ _ _ _ _ _
      | exact ih1 _ _ _ _ _ _ _ _ _ _ _ _ _ _ _ _
      | exact LeO.none _
      | refine LeO.ite ?_ ?_
      | refine LeO.bind ?_ (fun _ => ?_)
set_option maxHeartbeats 8000000 in
set_option maxRecDepth 100000 in
theorem datumlaw17_LimitNarrow.calls (k : Nat) (a0 : Int) (a1 : Int) (a2 : Int) (a3_0 : Int) (a3_1 : Int) (a4 : Int) (r : Bool) (w : World) (h : datumlaw17_LimitNarrow.f k a0 a1 a2 a3_0 a3_1 a4 = some r) :
    Calls Try.prog 6 #[.int .i64 a0, .int .i64 a1, .int .i64 a2, .agg #[.int .u64 a3_0, .int .u64 a3_1], .int .i64 a4] w fun e w' => e = .returned (.bool r) ∧ Below w.heap.size w w' := by
  have hu35 := Try.underlying35
  have hu37 := Try.underlying37
  have hu39 := Try.underlying39
  have hu23 := Try.underlying23
  have HB := Aside0.mk (Below.refl w.heap.size w)
  have H : ((datumlaw17_some.f a0 a1 a2 a3_0 a3_1).bind fun bt116 => ((limit_Draw.f bt116.1 bt116.2.1 bt116.2.2.1 bt116.2.2.2.1 bt116.2.2.2.2 (wrap64 (1 + (Int.tmod (wrap64 ((Int.tmod a4 1000) + 1000)) 1000)))).bind fun bt122 => (if bt122.2.2.2.2.2.2.2.2 = 0 then ((datumlaw17_alive.f).bind fun t132 => (datumlaw17_LimitNarrow.j0 k (!t132) bt116.1 bt116.2.1 bt116.2.2.1 bt116.2.2.2.1 bt116.2.2.2.2 bt122.1 bt122.2.1 bt122.2.2.1 bt122.2.2.2.1 bt122.2.2.2.2.1 bt122.2.2.2.2.2.1 bt122.2.2.2.2.2.2.1 bt122.2.2.2.2.2.2.2.1)) else (datumlaw17_LimitNarrow.j0 k true bt116.1 bt116.2.1 bt116.2.2.1 bt116.2.2.2.1 bt116.2.2.2.2 bt122.1 bt122.2.1 bt122.2.2.1 bt122.2.2.2.1 bt122.2.2.2.2.1 bt122.2.2.2.2.2.1 bt122.2.2.2.2.2.2.1 bt122.2.2.2.2.2.2.2.1)))) = some r := h
  clear h
  replace H := Option.bind_eq_some_iff.mp H
  obtain ⟨⟨t116, t117, t118, t119, t120⟩, A60, H⟩ := H
  replace H : ((limit_Draw.f t116 t117 t118 t119 t120 (wrap64 (1 + (Int.tmod (wrap64 ((Int.tmod a4 1000) + 1000)) 1000)))).bind fun bt122 => (if bt122.2.2.2.2.2.2.2.2 = 0 then ((datumlaw17_alive.f).bind fun t132 => (datumlaw17_LimitNarrow.j0 k (!t132) t116 t117 t118 t119 t120 bt122.1 bt122.2.1 bt122.2.2.1 bt122.2.2.2.1 bt122.2.2.2.2.1 bt122.2.2.2.2.2.1 bt122.2.2.2.2.2.2.1 bt122.2.2.2.2.2.2.2.1)) else (datumlaw17_LimitNarrow.j0 k true t116 t117 t118 t119 t120 bt122.1 bt122.2.1 bt122.2.2.1 bt122.2.2.2.1 bt122.2.2.2.2.1 bt122.2.2.2.2.2.1 bt122.2.2.2.2.2.2.1 bt122.2.2.2.2.2.2.2.1))) = some r := H
  have A6 := Aside0.mk A60
  clear A60
  replace H := Option.bind_eq_some_iff.mp H
  obtain ⟨⟨t122, t123, t124, t125, t126, t127, t128, t129, t130⟩, A70, H⟩ := H
  replace H : (if t130 = 0 then ((datumlaw17_alive.f).bind fun t132 => (datumlaw17_LimitNarrow.j0 k (!t132) t116 t117 t118 t119 t120 t122 t123 t124 t125 t126 t127 t128 t129)) else (datumlaw17_LimitNarrow.j0 k true t116 t117 t118 t119 t120 t122 t123 t124 t125 t126 t127 t128 t129)) = some r := H
  have A7 := Aside0.mk A70
  clear A70
  have HC8 := Aside0.mk H
  clear H
  go_enter Try.func6, Try.ntmps6
  go_upto_region 4 with (first | ((with_reducible refine gate_dst (N := 8) rfl ?_); refine box_event ?hg (N := 8) ?hd (cs := #[.int .u64 a3_0, .int .u64 a3_1]) (t := 35) ?hr ?_; (case hd => rfl); (case hg => rfl); (case hr => first | (go_simp; done) | (go_simp; rfl)); intro gb115 hg w9 hbox hb; have n0_ := Aside0.mk (below_step (by repeat (first | (with_reducible first | exact HB.out | apply below_alloc | apply pw_below_drewN | apply below_drew1) | exact HB.out)) hb); have n1_ := Aside0.mk (hbox); have n2_ := Aside0.mk ((by rw [hg]; exact (below_size (by repeat (first | (with_reducible first | exact HB.out | apply below_alloc | apply pw_below_drewN | apply below_drew1) | exact HB.out))) : w.heap.size ≤ gb115)); have n3_ := Aside0.mk ((by rw [hg]; exact (below_size (by repeat (first | (with_reducible first | exact HB.out | apply below_alloc | apply pw_below_drewN | apply below_drew1) | exact HB.out))) : w.heap.size ≤ gb115)); clear HB; have HB := n0_; have BK115 := n1_; have GW115 := n2_; have GE115 := n3_; clear n0_ n1_ n2_ n3_; clear hb hbox hg; have hcz10_0 : w9.cell? ⟨gb115, 0, none⟩ = some (.int .u64 a3_0) := (blk_cell BK115.out 0).trans rfl; have hcz10_1 : w9.cell? ⟨gb115, 1, none⟩ = some (.int .u64 a3_1) := (blk_cell BK115.out 1).trans rfl; have hfz10_0 := blk_frozen BK115.out 0; have hfz10_1 := blk_frozen BK115.out 1) | ((with_reducible refine gate_callee (f := 29) rfl ?_); refine goesL_ (some 21) rfl rfl Try.func29 (by kernel_rfl) rfl #[.int .i64 a0, .int .i64 a1, .int .i64 a2, .agg #[.int .u64 a3_0, .int .u64 a3_1]] rfl (by (try simp only [List.map_toArray, List.map_cons, List.map_nil]); first | done | rfl | (simp only [List.length_drop, List.length_take]; rfl)) ?_; (with_reducible refine (datumlaw17_some.calls a0 a1 a2 a3_0 a3_1 t116 t117 t118 t119 t120 _ A6.out).mono ?_); rintro e w11 ⟨rfl, hb⟩; refine ⟨_, rfl, ?_⟩; have n0_ := Aside0.mk (blk_below (g := gb115) (o := .cells #[.int .u64 a3_0, .int .u64 a3_1] 35 (0, 0)) (by (with_reducible repeat (first | refine blk_drewN ?_ _ | refine blk_drew ?_ | refine blk_alloc ?_ _)); exact BK115.out) hb); have n1_ := Aside0.mk (below_step (by repeat (first | (with_reducible first | exact HB.out | apply below_alloc | apply pw_below_drewN | apply below_drew1 | refine below_set ?_ GE115.out) | exact HB.out)) hb); clear BK115; clear HB; have BK115 := n0_; have HB := n1_; clear n0_ n1_; (try clear hb); (try clear hb2); (try clear hk); (try clear hi)) | ((with_reducible refine gate_dst (N := 11) rfl ?_); refine box_event ?hg (N := 11) ?hd (cs := #[.int .i64 0, .int .i64 0, .int .i64 0, .int .u64 0, .int .u64 0]) (t := 37) ?hr ?_; (case hd => rfl); (case hg => rfl); (case hr => first | (go_simp; done) | (go_simp; rfl)); intro gb121 hg w12 hbox hb; have n0_ := Aside0.mk (blk_below (g := gb115) (o := .cells #[.int .u64 a3_0, .int .u64 a3_1] 35 (0, 0)) (by (with_reducible repeat (first | refine blk_drewN ?_ _ | refine blk_drew ?_ | refine blk_alloc ?_ _)); exact BK115.out) hb); have n1_ := Aside0.mk (below_step (by repeat (first | (with_reducible first | exact HB.out | apply below_alloc | apply pw_below_drewN | apply below_drew1 | refine below_set ?_ GE115.out) | exact HB.out)) hb); have n2_ := Aside0.mk (hbox); have n3_ := Aside0.mk ((by rw [hg]; exact (below_size (by repeat (first | (with_reducible first | exact HB.out | apply below_alloc | apply pw_below_drewN | apply below_drew1 | refine below_set ?_ GE115.out) | exact HB.out))) : w.heap.size ≤ gb121)); have n4_ := Aside0.mk ((by rw [hg]; exact (below_size (by repeat (first | (with_reducible first | exact HB.out | apply below_alloc | apply pw_below_drewN | apply below_drew1 | refine below_set ?_ GE115.out) | exact HB.out))) : w.heap.size ≤ gb121)); have n5_ := Aside0.mk ((by rw [hg]; exact Nat.ne_of_lt (blk_lt (g := gb115) (o := .cells #[.int .u64 a3_0, .int .u64 a3_1] 35 (0, 0)) (by (with_reducible repeat (first | refine blk_drewN ?_ _ | refine blk_drew ?_ | refine blk_alloc ?_ _)); exact BK115.out)) : gb115 ≠ gb121)); have n6_ := Aside0.mk ((by rw [hg]; exact Nat.ne_of_gt (blk_lt (g := gb115) (o := .cells #[.int .u64 a3_0, .int .u64 a3_1] 35 (0, 0)) (by (with_reducible repeat (first | refine blk_drewN ?_ _ | refine blk_drew ?_ | refine blk_alloc ?_ _)); exact BK115.out)) : gb121 ≠ gb115)); clear BK115; clear HB; have BK115 := n0_; have HB := n1_; have BK121 := n2_; have GW121 := n3_; have GE121 := n4_; have NB115_121 := n5_; have NB121_115 := n6_; clear n0_ n1_ n2_ n3_ n4_ n5_ n6_; clear hb hbox hg; have hnb13 := NB121_115.out; have hnc13 := NB115_121.out; have hcz14_0 : w12.cell? ⟨gb121, 0, none⟩ = some (.int .i64 0) := (blk_cell BK121.out 0).trans rfl; have hcz14_1 : w12.cell? ⟨gb121, 1, none⟩ = some (.int .i64 0) := (blk_cell BK121.out 1).trans rfl; have hcz14_2 : w12.cell? ⟨gb121, 2, none⟩ = some (.int .i64 0) := (blk_cell BK121.out 2).trans rfl; have hcz14_3 : w12.cell? ⟨gb121, 3, none⟩ = some (.int .u64 0) := (blk_cell BK121.out 3).trans rfl; have hcz14_4 : w12.cell? ⟨gb121, 4, none⟩ = some (.int .u64 0) := (blk_cell BK121.out 4).trans rfl; have hfz14_0 := blk_frozen BK121.out 0; have hfz14_1 := blk_frozen BK121.out 1; have hfz14_2 := blk_frozen BK121.out 2; have hfz14_3 := blk_frozen BK121.out 3; have hfz14_4 := blk_frozen BK121.out 4) | ((with_reducible refine gate_callee (f := 23) rfl ?_); refine goesL_ (some 30) rfl rfl Try.func23 (by kernel_rfl) rfl #[.agg #[.int .i64 t116, .int .i64 t117, .int .i64 t118, .int .u64 t119, .int .u64 t120], .int .i64 (wrap64 (1 + (Int.tmod (wrap64 ((Int.tmod a4 1000) + 1000)) 1000)))] rfl (by (try simp only [List.map_toArray, List.map_cons, List.map_nil]); first | done | rfl | (simp only [List.length_drop, List.length_take]; rfl)) ?_; (with_reducible refine (limit_Draw.calls t116 t117 t118 t119 t120 (wrap64 (1 + (Int.tmod (wrap64 ((Int.tmod a4 1000) + 1000)) 1000))) t122 t123 t124 t125 t126 t127 t128 t129 t130 _ A7.out).mono ?_); rintro e w15 ⟨rfl, hb⟩; refine ⟨_, rfl, ?_⟩; have n0_ := Aside0.mk (blk_below (g := gb115) (o := .cells #[.int .u64 a3_0, .int .u64 a3_1] 35 (0, 0)) (by (with_reducible repeat (first | refine blk_drewN ?_ _ | refine blk_drew ?_ | refine blk_alloc ?_ _)); refine blk_far ?_ NB115_121.out _; (with_reducible repeat (first | refine blk_drewN ?_ _ | refine blk_drew ?_ | refine blk_alloc ?_ _)); refine blk_far ?_ NB115_121.out _; (with_reducible repeat (first | refine blk_drewN ?_ _ | refine blk_drew ?_ | refine blk_alloc ?_ _)); refine blk_far ?_ NB115_121.out _; (with_reducible repeat (first | refine blk_drewN ?_ _ | refine blk_drew ?_ | refine blk_alloc ?_ _)); refine blk_far ?_ NB115_121.out _; (with_reducible repeat (first | refine blk_drewN ?_ _ | refine blk_drew ?_ | refine blk_alloc ?_ _)); refine blk_far ?_ NB115_121.out _; (with_reducible repeat (first | refine blk_drewN ?_ _ | refine blk_drew ?_ | refine blk_alloc ?_ _)); exact BK115.out) hb); have n1_ := Aside0.mk (blk_below (g := gb121) (o := .cells #[.int .i64 t116, .int .i64 t117, .int .i64 t118, .int .u64 t119, .int .u64 t120] 37 (0, 0)) (by (with_reducible repeat (first | refine blk_drewN ?_ _ | refine blk_drew ?_ | refine blk_alloc ?_ _)); refine blk_put (cs := #[.int .i64 t116, .int .i64 t117, .int .i64 t118, .int .u64 t119, .int .u64 0]) ?_ 4 _ rfl; (with_reducible repeat (first | refine blk_drewN ?_ _ | refine blk_drew ?_ | refine blk_alloc ?_ _)); refine blk_put (cs := #[.int .i64 t116, .int .i64 t117, .int .i64 t118, .int .u64 0, .int .u64 0]) ?_ 3 _ rfl; (with_reducible repeat (first | refine blk_drewN ?_ _ | refine blk_drew ?_ | refine blk_alloc ?_ _)); refine blk_put (cs := #[.int .i64 t116, .int .i64 t117, .int .i64 0, .int .u64 0, .int .u64 0]) ?_ 2 _ rfl; (with_reducible repeat (first | refine blk_drewN ?_ _ | refine blk_drew ?_ | refine blk_alloc ?_ _)); refine blk_put (cs := #[.int .i64 t116, .int .i64 0, .int .i64 0, .int .u64 0, .int .u64 0]) ?_ 1 _ rfl; (with_reducible repeat (first | refine blk_drewN ?_ _ | refine blk_drew ?_ | refine blk_alloc ?_ _)); refine blk_put (cs := #[.int .i64 0, .int .i64 0, .int .i64 0, .int .u64 0, .int .u64 0]) ?_ 0 _ rfl; (with_reducible repeat (first | refine blk_drewN ?_ _ | refine blk_drew ?_ | refine blk_alloc ?_ _)); exact BK121.out) hb); have n2_ := Aside0.mk (below_step (by repeat (first | (with_reducible first | exact HB.out | apply below_alloc | apply pw_below_drewN | apply below_drew1 | refine below_set ?_ GE115.out | refine below_set ?_ GE121.out) | exact HB.out)) hb); clear BK115; clear BK121; clear HB; have BK115 := n0_; have BK121 := n1_; have HB := n2_; clear n0_ n1_ n2_; (try clear hb); (try clear hb2); (try clear hk); (try clear hi)) | ((with_reducible refine gate_dst (N := 12) rfl ?_); refine box_event ?hg (N := 12) ?hd (cs := #[.int .i64 0, .int .i64 0, .int .i64 0, .int .i64 0, .int .i64 0, .int .i64 0, .int .i64 0, .int .i64 0]) (t := 39) ?hr ?_; (case hd => rfl); (case hg => rfl); (case hr => first | (go_simp; done) | (go_simp; rfl)); intro gb131 hg w16 hbox hb; have n0_ := Aside0.mk (blk_below (g := gb115) (o := .cells #[.int .u64 a3_0, .int .u64 a3_1] 35 (0, 0)) (by (with_reducible repeat (first | refine blk_drewN ?_ _ | refine blk_drew ?_ | refine blk_alloc ?_ _)); exact BK115.out) hb); have n1_ := Aside0.mk (blk_below (g := gb121) (o := .cells #[.int .i64 t116, .int .i64 t117, .int .i64 t118, .int .u64 t119, .int .u64 t120] 37 (0, 0)) (by (with_reducible repeat (first | refine blk_drewN ?_ _ | refine blk_drew ?_ | refine blk_alloc ?_ _)); exact BK121.out) hb); have n2_ := Aside0.mk (below_step (by repeat (first | (with_reducible first | exact HB.out | apply below_alloc | apply pw_below_drewN | apply below_drew1 | refine below_set ?_ GE115.out | refine below_set ?_ GE121.out) | exact HB.out)) hb); have n3_ := Aside0.mk (hbox); have n4_ := Aside0.mk ((by rw [hg]; exact (below_size (by repeat (first | (with_reducible first | exact HB.out | apply below_alloc | apply pw_below_drewN | apply below_drew1 | refine below_set ?_ GE115.out | refine below_set ?_ GE121.out) | exact HB.out))) : w.heap.size ≤ gb131)); have n5_ := Aside0.mk ((by rw [hg]; exact (below_size (by repeat (first | (with_reducible first | exact HB.out | apply below_alloc | apply pw_below_drewN | apply below_drew1 | refine below_set ?_ GE115.out | refine below_set ?_ GE121.out) | exact HB.out))) : w.heap.size ≤ gb131)); have n6_ := Aside0.mk ((by rw [hg]; exact Nat.ne_of_lt (blk_lt (g := gb115) (o := .cells #[.int .u64 a3_0, .int .u64 a3_1] 35 (0, 0)) (by (with_reducible repeat (first | refine blk_drewN ?_ _ | refine blk_drew ?_ | refine blk_alloc ?_ _)); exact BK115.out)) : gb115 ≠ gb131)); have n7_ := Aside0.mk ((by rw [hg]; exact Nat.ne_of_gt (blk_lt (g := gb115) (o := .cells #[.int .u64 a3_0, .int .u64 a3_1] 35 (0, 0)) (by (with_reducible repeat (first | refine blk_drewN ?_ _ | refine blk_drew ?_ | refine blk_alloc ?_ _)); exact BK115.out)) : gb131 ≠ gb115)); have n8_ := Aside0.mk ((by rw [hg]; exact Nat.ne_of_lt (blk_lt (g := gb121) (o := .cells #[.int .i64 t116, .int .i64 t117, .int .i64 t118, .int .u64 t119, .int .u64 t120] 37 (0, 0)) (by (with_reducible repeat (first | refine blk_drewN ?_ _ | refine blk_drew ?_ | refine blk_alloc ?_ _)); exact BK121.out)) : gb121 ≠ gb131)); have n9_ := Aside0.mk ((by rw [hg]; exact Nat.ne_of_gt (blk_lt (g := gb121) (o := .cells #[.int .i64 t116, .int .i64 t117, .int .i64 t118, .int .u64 t119, .int .u64 t120] 37 (0, 0)) (by (with_reducible repeat (first | refine blk_drewN ?_ _ | refine blk_drew ?_ | refine blk_alloc ?_ _)); exact BK121.out)) : gb131 ≠ gb121)); clear BK115; clear BK121; clear HB; have BK115 := n0_; have BK121 := n1_; have HB := n2_; have BK131 := n3_; have GW131 := n4_; have GE131 := n5_; have NB115_131 := n6_; have NB131_115 := n7_; have NB121_131 := n8_; have NB131_121 := n9_; clear n0_ n1_ n2_ n3_ n4_ n5_ n6_ n7_ n8_ n9_; clear hb hbox hg; have hnb17 := NB131_115.out; have hnc17 := NB115_131.out; have hnb18 := NB131_121.out; have hnc18 := NB121_131.out; have hcz19_0 : w16.cell? ⟨gb131, 0, none⟩ = some (.int .i64 0) := (blk_cell BK131.out 0).trans rfl; have hcz19_1 : w16.cell? ⟨gb131, 1, none⟩ = some (.int .i64 0) := (blk_cell BK131.out 1).trans rfl; have hcz19_2 : w16.cell? ⟨gb131, 2, none⟩ = some (.int .i64 0) := (blk_cell BK131.out 2).trans rfl; have hcz19_3 : w16.cell? ⟨gb131, 3, none⟩ = some (.int .i64 0) := (blk_cell BK131.out 3).trans rfl; have hcz19_4 : w16.cell? ⟨gb131, 4, none⟩ = some (.int .i64 0) := (blk_cell BK131.out 4).trans rfl; have hcz19_5 : w16.cell? ⟨gb131, 5, none⟩ = some (.int .i64 0) := (blk_cell BK131.out 5).trans rfl; have hcz19_6 : w16.cell? ⟨gb131, 6, none⟩ = some (.int .i64 0) := (blk_cell BK131.out 6).trans rfl; have hcz19_7 : w16.cell? ⟨gb131, 7, none⟩ = some (.int .i64 0) := (blk_cell BK131.out 7).trans rfl; have hfz19_0 := blk_frozen BK131.out 0; have hfz19_1 := blk_frozen BK131.out 1; have hfz19_2 := blk_frozen BK131.out 2; have hfz19_3 := blk_frozen BK131.out 3; have hfz19_4 := blk_frozen BK131.out 4; have hfz19_5 := blk_frozen BK131.out 5; have hfz19_6 := blk_frozen BK131.out 6; have hfz19_7 := blk_frozen BK131.out 7))
  (try simp only [Act.put, List.setIfInBounds_toArray, List.set_cons_zero, List.set_cons_succ])
  go_cut [38] (fun v38 wc => ∃ (kq : Nat) (x38_7 : Bool), v38 = .bool x38_7 ∧ Aside0 (datumlaw17_LimitNarrow.j0 kq x38_7 t116 t117 t118 t119 t120 t122 t123 t124 t125 t126 t127 t128 t129 = some r) ∧ Aside0 (kq ≤ k) ∧ Aside0 (wc.heap[gb115]? = some (.cells #[.int .u64 a3_0, .int .u64 a3_1] 35 (0, 0))) ∧ Aside0 (wc.heap[gb121]? = some (.cells #[.int .i64 t116, .int .i64 t117, .int .i64 t118, .int .u64 t119, .int .u64 t120] 37 (0, 0))) ∧ Aside0 (wc.heap[gb131]? = some (.cells #[.int .i64 t122, .int .i64 t123, .int .i64 t124, .int .i64 t125, .int .i64 t126, .int .i64 t127, .int .i64 t128, .int .i64 t129] 39 (0, 0))) ∧ Aside0 (Below w.heap.size w wc))
  case first =>
    have H := HC8.out
    clear HC8
    by_cases c20 : t130 = 0
    · rw [if_pos c20] at H
      have c20b0 : (t130 == 0) = true := beq_iff_eq.mpr c20
      have c20b1 : (t130 != 0) = false := bne_eq_false_iff_eq.mpr c20
      clear c20
      (first | rw [c20b0] | (simp only [i64_w, i32_w]; rw [c20b0]) | skip)
      replace H := Option.bind_eq_some_iff.mp H
      obtain ⟨t132, A210, H⟩ := H
      replace H : (datumlaw17_LimitNarrow.j0 k (!t132) t116 t117 t118 t119 t120 t122 t123 t124 t125 t126 t127 t128 t129) = some r := H
      have A21 := Aside0.mk A210
      clear A210
      have H' := Aside0.mk H
      clear H
      go_wp2_with (first | (go_at_call 26; (with_reducible refine (datumlaw17_alive.calls  t132 _ A21.out).mono ?_); rintro e w22 ⟨rfl, hb⟩; have n0_ := Aside0.mk (blk_below (g := gb115) (o := .cells #[.int .u64 a3_0, .int .u64 a3_1] 35 (0, 0)) (by (with_reducible repeat (first | refine blk_drewN ?_ _ | refine blk_drew ?_ | refine blk_alloc ?_ _)); refine blk_far ?_ NB115_131.out _; (with_reducible repeat (first | refine blk_drewN ?_ _ | refine blk_drew ?_ | refine blk_alloc ?_ _)); refine blk_far ?_ NB115_131.out _; (with_reducible repeat (first | refine blk_drewN ?_ _ | refine blk_drew ?_ | refine blk_alloc ?_ _)); refine blk_far ?_ NB115_131.out _; (with_reducible repeat (first | refine blk_drewN ?_ _ | refine blk_drew ?_ | refine blk_alloc ?_ _)); refine blk_far ?_ NB115_131.out _; (with_reducible repeat (first | refine blk_drewN ?_ _ | refine blk_drew ?_ | refine blk_alloc ?_ _)); refine blk_far ?_ NB115_131.out _; (with_reducible repeat (first | refine blk_drewN ?_ _ | refine blk_drew ?_ | refine blk_alloc ?_ _)); refine blk_far ?_ NB115_131.out _; (with_reducible repeat (first | refine blk_drewN ?_ _ | refine blk_drew ?_ | refine blk_alloc ?_ _)); refine blk_far ?_ NB115_131.out _; (with_reducible repeat (first | refine blk_drewN ?_ _ | refine blk_drew ?_ | refine blk_alloc ?_ _)); refine blk_far ?_ NB115_131.out _; (with_reducible repeat (first | refine blk_drewN ?_ _ | refine blk_drew ?_ | refine blk_alloc ?_ _)); exact BK115.out) hb); have n1_ := Aside0.mk (blk_below (g := gb121) (o := .cells #[.int .i64 t116, .int .i64 t117, .int .i64 t118, .int .u64 t119, .int .u64 t120] 37 (0, 0)) (by (with_reducible repeat (first | refine blk_drewN ?_ _ | refine blk_drew ?_ | refine blk_alloc ?_ _)); refine blk_far ?_ NB121_131.out _; (with_reducible repeat (first | refine blk_drewN ?_ _ | refine blk_drew ?_ | refine blk_alloc ?_ _)); refine blk_far ?_ NB121_131.out _; (with_reducible repeat (first | refine blk_drewN ?_ _ | refine blk_drew ?_ | refine blk_alloc ?_ _)); refine blk_far ?_ NB121_131.out _; (with_reducible repeat (first | refine blk_drewN ?_ _ | refine blk_drew ?_ | refine blk_alloc ?_ _)); refine blk_far ?_ NB121_131.out _; (with_reducible repeat (first | refine blk_drewN ?_ _ | refine blk_drew ?_ | refine blk_alloc ?_ _)); refine blk_far ?_ NB121_131.out _; (with_reducible repeat (first | refine blk_drewN ?_ _ | refine blk_drew ?_ | refine blk_alloc ?_ _)); refine blk_far ?_ NB121_131.out _; (with_reducible repeat (first | refine blk_drewN ?_ _ | refine blk_drew ?_ | refine blk_alloc ?_ _)); refine blk_far ?_ NB121_131.out _; (with_reducible repeat (first | refine blk_drewN ?_ _ | refine blk_drew ?_ | refine blk_alloc ?_ _)); refine blk_far ?_ NB121_131.out _; (with_reducible repeat (first | refine blk_drewN ?_ _ | refine blk_drew ?_ | refine blk_alloc ?_ _)); exact BK121.out) hb); have n2_ := Aside0.mk (blk_below (g := gb131) (o := .cells #[.int .i64 t122, .int .i64 t123, .int .i64 t124, .int .i64 t125, .int .i64 t126, .int .i64 t127, .int .i64 t128, .int .i64 t129] 39 (0, 0)) (by (with_reducible repeat (first | refine blk_drewN ?_ _ | refine blk_drew ?_ | refine blk_alloc ?_ _)); refine blk_put (cs := #[.int .i64 t122, .int .i64 t123, .int .i64 t124, .int .i64 t125, .int .i64 t126, .int .i64 t127, .int .i64 t128, .int .i64 0]) ?_ 7 _ rfl; (with_reducible repeat (first | refine blk_drewN ?_ _ | refine blk_drew ?_ | refine blk_alloc ?_ _)); refine blk_put (cs := #[.int .i64 t122, .int .i64 t123, .int .i64 t124, .int .i64 t125, .int .i64 t126, .int .i64 t127, .int .i64 0, .int .i64 0]) ?_ 6 _ rfl; (with_reducible repeat (first | refine blk_drewN ?_ _ | refine blk_drew ?_ | refine blk_alloc ?_ _)); refine blk_put (cs := #[.int .i64 t122, .int .i64 t123, .int .i64 t124, .int .i64 t125, .int .i64 t126, .int .i64 0, .int .i64 0, .int .i64 0]) ?_ 5 _ rfl; (with_reducible repeat (first | refine blk_drewN ?_ _ | refine blk_drew ?_ | refine blk_alloc ?_ _)); refine blk_put (cs := #[.int .i64 t122, .int .i64 t123, .int .i64 t124, .int .i64 t125, .int .i64 0, .int .i64 0, .int .i64 0, .int .i64 0]) ?_ 4 _ rfl; (with_reducible repeat (first | refine blk_drewN ?_ _ | refine blk_drew ?_ | refine blk_alloc ?_ _)); refine blk_put (cs := #[.int .i64 t122, .int .i64 t123, .int .i64 t124, .int .i64 0, .int .i64 0, .int .i64 0, .int .i64 0, .int .i64 0]) ?_ 3 _ rfl; (with_reducible repeat (first | refine blk_drewN ?_ _ | refine blk_drew ?_ | refine blk_alloc ?_ _)); refine blk_put (cs := #[.int .i64 t122, .int .i64 t123, .int .i64 0, .int .i64 0, .int .i64 0, .int .i64 0, .int .i64 0, .int .i64 0]) ?_ 2 _ rfl; (with_reducible repeat (first | refine blk_drewN ?_ _ | refine blk_drew ?_ | refine blk_alloc ?_ _)); refine blk_put (cs := #[.int .i64 t122, .int .i64 0, .int .i64 0, .int .i64 0, .int .i64 0, .int .i64 0, .int .i64 0, .int .i64 0]) ?_ 1 _ rfl; (with_reducible repeat (first | refine blk_drewN ?_ _ | refine blk_drew ?_ | refine blk_alloc ?_ _)); refine blk_put (cs := #[.int .i64 0, .int .i64 0, .int .i64 0, .int .i64 0, .int .i64 0, .int .i64 0, .int .i64 0, .int .i64 0]) ?_ 0 _ rfl; (with_reducible repeat (first | refine blk_drewN ?_ _ | refine blk_drew ?_ | refine blk_alloc ?_ _)); exact BK131.out) hb); have n3_ := Aside0.mk (below_step (by repeat (first | (with_reducible first | exact HB.out | apply below_alloc | apply pw_below_drewN | apply below_drew1 | refine below_set ?_ GE115.out | refine below_set ?_ GE121.out | refine below_set ?_ GE131.out) | exact HB.out)) hb); clear BK115; clear BK121; clear BK131; clear HB; have BK115 := n0_; have BK121 := n1_; have BK131 := n2_; have HB := n3_; clear n0_ n1_ n2_ n3_; (try clear hb); (try clear hb2); (try clear hk); (try clear hi)))
      go_meet
      case rel => exact ⟨_, (!t132), (by first | rfl | (simp; done) | (simp [*]; done)), H', ⟨by first | omega | exact Nat.le_refl _⟩, ⟨by (with_reducible repeat (first | refine blk_drewN ?_ _ | refine blk_drew ?_ | refine blk_alloc ?_ _)); exact BK115.out⟩, ⟨by (with_reducible repeat (first | refine blk_drewN ?_ _ | refine blk_drew ?_ | refine blk_alloc ?_ _)); exact BK121.out⟩, ⟨by (with_reducible repeat (first | refine blk_drewN ?_ _ | refine blk_drew ?_ | refine blk_alloc ?_ _)); exact BK131.out⟩, ⟨by repeat (first | (with_reducible first | exact HB.out | apply below_alloc | apply pw_below_drewN | apply below_drew1 | refine below_set ?_ GE115.out | refine below_set ?_ GE121.out | refine below_set ?_ GE131.out) | exact HB.out)⟩⟩
    · rw [if_neg c20] at H
      have c20b0 : (t130 == 0) = false := beq_eq_false_iff_ne.mpr c20
      have c20b1 : (t130 != 0) = true := bne_iff_ne.mpr c20
      (first | rw [c20b0] | (simp only [i64_w, i32_w]; rw [c20b0]) | skip)
      have H' := Aside0.mk H
      clear H
      go_wp2
      go_meet
      case rel => exact ⟨_, (true), (by first | rfl | (simp; done) | (simp [*]; done)), H', ⟨by first | omega | exact Nat.le_refl _⟩, ⟨by (with_reducible repeat (first | refine blk_drewN ?_ _ | refine blk_drew ?_ | refine blk_alloc ?_ _)); refine blk_far ?_ NB115_131.out _; (with_reducible repeat (first | refine blk_drewN ?_ _ | refine blk_drew ?_ | refine blk_alloc ?_ _)); refine blk_far ?_ NB115_131.out _; (with_reducible repeat (first | refine blk_drewN ?_ _ | refine blk_drew ?_ | refine blk_alloc ?_ _)); refine blk_far ?_ NB115_131.out _; (with_reducible repeat (first | refine blk_drewN ?_ _ | refine blk_drew ?_ | refine blk_alloc ?_ _)); refine blk_far ?_ NB115_131.out _; (with_reducible repeat (first | refine blk_drewN ?_ _ | refine blk_drew ?_ | refine blk_alloc ?_ _)); refine blk_far ?_ NB115_131.out _; (with_reducible repeat (first | refine blk_drewN ?_ _ | refine blk_drew ?_ | refine blk_alloc ?_ _)); refine blk_far ?_ NB115_131.out _; (with_reducible repeat (first | refine blk_drewN ?_ _ | refine blk_drew ?_ | refine blk_alloc ?_ _)); refine blk_far ?_ NB115_131.out _; (with_reducible repeat (first | refine blk_drewN ?_ _ | refine blk_drew ?_ | refine blk_alloc ?_ _)); refine blk_far ?_ NB115_131.out _; (with_reducible repeat (first | refine blk_drewN ?_ _ | refine blk_drew ?_ | refine blk_alloc ?_ _)); exact BK115.out⟩, ⟨by (with_reducible repeat (first | refine blk_drewN ?_ _ | refine blk_drew ?_ | refine blk_alloc ?_ _)); refine blk_far ?_ NB121_131.out _; (with_reducible repeat (first | refine blk_drewN ?_ _ | refine blk_drew ?_ | refine blk_alloc ?_ _)); refine blk_far ?_ NB121_131.out _; (with_reducible repeat (first | refine blk_drewN ?_ _ | refine blk_drew ?_ | refine blk_alloc ?_ _)); refine blk_far ?_ NB121_131.out _; (with_reducible repeat (first | refine blk_drewN ?_ _ | refine blk_drew ?_ | refine blk_alloc ?_ _)); refine blk_far ?_ NB121_131.out _; (with_reducible repeat (first | refine blk_drewN ?_ _ | refine blk_drew ?_ | refine blk_alloc ?_ _)); refine blk_far ?_ NB121_131.out _; (with_reducible repeat (first | refine blk_drewN ?_ _ | refine blk_drew ?_ | refine blk_alloc ?_ _)); refine blk_far ?_ NB121_131.out _; (with_reducible repeat (first | refine blk_drewN ?_ _ | refine blk_drew ?_ | refine blk_alloc ?_ _)); refine blk_far ?_ NB121_131.out _; (with_reducible repeat (first | refine blk_drewN ?_ _ | refine blk_drew ?_ | refine blk_alloc ?_ _)); refine blk_far ?_ NB121_131.out _; (with_reducible repeat (first | refine blk_drewN ?_ _ | refine blk_drew ?_ | refine blk_alloc ?_ _)); exact BK121.out⟩, ⟨by (with_reducible repeat (first | refine blk_drewN ?_ _ | refine blk_drew ?_ | refine blk_alloc ?_ _)); refine blk_put (cs := #[.int .i64 t122, .int .i64 t123, .int .i64 t124, .int .i64 t125, .int .i64 t126, .int .i64 t127, .int .i64 t128, .int .i64 0]) ?_ 7 _ rfl; (with_reducible repeat (first | refine blk_drewN ?_ _ | refine blk_drew ?_ | refine blk_alloc ?_ _)); refine blk_put (cs := #[.int .i64 t122, .int .i64 t123, .int .i64 t124, .int .i64 t125, .int .i64 t126, .int .i64 t127, .int .i64 0, .int .i64 0]) ?_ 6 _ rfl; (with_reducible repeat (first | refine blk_drewN ?_ _ | refine blk_drew ?_ | refine blk_alloc ?_ _)); refine blk_put (cs := #[.int .i64 t122, .int .i64 t123, .int .i64 t124, .int .i64 t125, .int .i64 t126, .int .i64 0, .int .i64 0, .int .i64 0]) ?_ 5 _ rfl; (with_reducible repeat (first | refine blk_drewN ?_ _ | refine blk_drew ?_ | refine blk_alloc ?_ _)); refine blk_put (cs := #[.int .i64 t122, .int .i64 t123, .int .i64 t124, .int .i64 t125, .int .i64 0, .int .i64 0, .int .i64 0, .int .i64 0]) ?_ 4 _ rfl; (with_reducible repeat (first | refine blk_drewN ?_ _ | refine blk_drew ?_ | refine blk_alloc ?_ _)); refine blk_put (cs := #[.int .i64 t122, .int .i64 t123, .int .i64 t124, .int .i64 0, .int .i64 0, .int .i64 0, .int .i64 0, .int .i64 0]) ?_ 3 _ rfl; (with_reducible repeat (first | refine blk_drewN ?_ _ | refine blk_drew ?_ | refine blk_alloc ?_ _)); refine blk_put (cs := #[.int .i64 t122, .int .i64 t123, .int .i64 0, .int .i64 0, .int .i64 0, .int .i64 0, .int .i64 0, .int .i64 0]) ?_ 2 _ rfl; (with_reducible repeat (first | refine blk_drewN ?_ _ | refine blk_drew ?_ | refine blk_alloc ?_ _)); refine blk_put (cs := #[.int .i64 t122, .int .i64 0, .int .i64 0, .int .i64 0, .int .i64 0, .int .i64 0, .int .i64 0, .int .i64 0]) ?_ 1 _ rfl; (with_reducible repeat (first | refine blk_drewN ?_ _ | refine blk_drew ?_ | refine blk_alloc ?_ _)); refine blk_put (cs := #[.int .i64 0, .int .i64 0, .int .i64 0, .int .i64 0, .int .i64 0, .int .i64 0, .int .i64 0, .int .i64 0]) ?_ 0 _ rfl; (with_reducible repeat (first | refine blk_drewN ?_ _ | refine blk_drew ?_ | refine blk_alloc ?_ _)); exact BK131.out⟩, ⟨by repeat (first | (with_reducible first | exact HB.out | apply below_alloc | apply pw_below_drewN | apply below_drew1 | refine below_set ?_ GE115.out | refine below_set ?_ GE121.out | refine below_set ?_ GE131.out) | exact HB.out)⟩⟩
  case rest =>
    clear HC8
    try clear c1
    try clear c2
    try clear p2
    try clear c6
    try clear p6
    try clear c13
    try clear c17
    try clear c18
    try clear c20
    try clear c20b0
    try clear c20b1
    try clear hcz10_0
    try clear hcz10_1
    try clear hcz14_0
    try clear hcz14_1
    try clear hcz14_2
    try clear hcz14_3
    try clear hcz14_4
    try clear hcz19_0
    try clear hcz19_1
    try clear hcz19_2
    try clear hcz19_3
    try clear hcz19_4
    try clear hcz19_5
    try clear hcz19_6
    try clear hcz19_7
    try clear hfz10_0
    try clear hfz10_1
    try clear hfz14_0
    try clear hfz14_1
    try clear hfz14_2
    try clear hfz14_3
    try clear hfz14_4
    try clear hfz19_0
    try clear hfz19_1
    try clear hfz19_2
    try clear hfz19_3
    try clear hfz19_4
    try clear hfz19_5
    try clear hfz19_6
    try clear hfz19_7
    obtain ⟨kq, x38_7, rfl, HA, HJ7, BK115, BK121, BK131, HB⟩ := hcut
    cases kq with
    | zero => exact absurd HA.out (by simp [datumlaw17_LimitNarrow.j0])
    | succ kj7 =>
      have H := HA.out
      clear HA
      simp only [datumlaw17_LimitNarrow.j0] at H
      by_cases c23 : x38_7 = true
      · subst c23
        have H1 : (some false) = some r := by rw [if_pos rfl] at H; exact H
        clear H
        have H := H1
        clear H1
        obtain rfl := Option.some.inj H
        go_wp2
        go_ret
        exact ⟨by first | rfl | (simp [errW_none, errW_some] <;> rfl) | (simp [*, errW_none, errW_some] <;> rfl), by repeat (first | (with_reducible first | exact HB.out | apply below_alloc | apply pw_below_drewN | apply below_drew1 | refine below_set ?_ GE115.out | refine below_set ?_ GE121.out | refine below_set ?_ GE131.out) | exact HB.out)⟩
      · replace c23 := Bool.eq_false_iff.mpr c23
        subst c23
        have H1 : ((some (([(⟨t122, t123⟩ : S23), (⟨t126, t127⟩ : S23), (⟨t124, t125⟩ : S23), (⟨t128, t129⟩ : S23)] : List (S23)) : List (S23))).bind fun y133 => (datumlaw17_LimitNarrow.l0 kj7 y133 (y133.length : Int) 0 t116 t117 t118 t119 t120 t122 t123 t124 t125 t126 t127 t128 t129)) = some r := by rw [if_neg (show ¬ (false = true) by decide)] at H; exact H
        clear H
        have H := H1
        clear H1
        obtain ⟨y133, hy133⟩ : ∃ y_ : List (S23), y_ = (([(⟨t122, t123⟩ : S23), (⟨t126, t127⟩ : S23), (⟨t124, t125⟩ : S23), (⟨t128, t129⟩ : S23)] : List (S23))) := ⟨_, rfl⟩
        replace H : (datumlaw17_LimitNarrow.l0 kj7 y133 (y133.length : Int) 0 t116 t117 t118 t119 t120 t122 t123 t124 t125 t126 t127 t128 t129) = some r := by first | (rw [hy133]; with_reducible exact H) | (have H2_ := (Option.bind_some _ _).symm.trans H; rw [hy133]; with_reducible exact H2_) | (have H2_ := (Option.bind_some _ _).symm.trans H; with_reducible exact H2_) | with_reducible exact H | (rw [hy133]; exact H) | exact H
        have Ny133 := Aside0.mk hy133
        clear hy133
        have H' := Aside0.mk H
        clear H
        have hnb24 := NB131_115.out
        have hnc24 := NB115_131.out
        have hnb25 := NB131_121.out
        have hnc25 := NB121_131.out
        have hcz26_0 : wc.cell? ⟨gb131, 0, none⟩ = some (.int .i64 t122) := (blk_cell BK131.out 0).trans rfl
        have hcz26_1 : wc.cell? ⟨gb131, 1, none⟩ = some (.int .i64 t123) := (blk_cell BK131.out 1).trans rfl
        have hcz26_2 : wc.cell? ⟨gb131, 2, none⟩ = some (.int .i64 t124) := (blk_cell BK131.out 2).trans rfl
        have hcz26_3 : wc.cell? ⟨gb131, 3, none⟩ = some (.int .i64 t125) := (blk_cell BK131.out 3).trans rfl
        have hcz26_4 : wc.cell? ⟨gb131, 4, none⟩ = some (.int .i64 t126) := (blk_cell BK131.out 4).trans rfl
        have hcz26_5 : wc.cell? ⟨gb131, 5, none⟩ = some (.int .i64 t127) := (blk_cell BK131.out 5).trans rfl
        have hcz26_6 : wc.cell? ⟨gb131, 6, none⟩ = some (.int .i64 t128) := (blk_cell BK131.out 6).trans rfl
        have hcz26_7 : wc.cell? ⟨gb131, 7, none⟩ = some (.int .i64 t129) := (blk_cell BK131.out 7).trans rfl
        have hfz26_0 := blk_frozen BK131.out 0
        have hfz26_1 := blk_frozen BK131.out 1
        have hfz26_2 := blk_frozen BK131.out 2
        have hfz26_3 := blk_frozen BK131.out 3
        have hfz26_4 := blk_frozen BK131.out 4
        have hfz26_5 := blk_frozen BK131.out 5
        have hfz26_6 := blk_frozen BK131.out 6
        have hfz26_7 := blk_frozen BK131.out 7
        go_wp2_with (first | ((with_reducible refine gate_dst (N := 47) rfl ?_); refine Kd.R_lit k23 _ 23 ?hg (N := 47) ?hd (xs := ([(⟨t122, t123⟩ : S23), (⟨t126, t127⟩ : S23), (⟨t124, t125⟩ : S23), (⟨t128, t129⟩ : S23)] : List (S23))) (inner := [.int .i64 t122, .int .i64 t123, .int .i64 t126, .int .i64 t127, .int .i64 t124, .int .i64 t125, .int .i64 t128, .int .i64 t129]) (ok := fun _ => True) (okp := fun _ => True) ?hr ?hp (fun _ hk => hk) trivial (Below.refl _ _) (Nat.le_refl _) (by simp) ?_; (case hd => rfl); (case hg => rfl); (case hr => first | (go_simp; done) | (go_simp; rfl)); (case hp => exact (Reps.c2 (show Kd.M k23 _ _ _ (⟨t122, t123⟩ : S23) [.int .i64 t122, .int .i64 t123] from (k23_mkM _ _ _ (⟨t122, t123⟩ : S23) )) (Reps.c2 (show Kd.M k23 _ _ _ (⟨t126, t127⟩ : S23) [.int .i64 t126, .int .i64 t127] from (k23_mkM _ _ _ (⟨t126, t127⟩ : S23) )) (Reps.c2 (show Kd.M k23 _ _ _ (⟨t124, t125⟩ : S23) [.int .i64 t124, .int .i64 t125] from (k23_mkM _ _ _ (⟨t124, t125⟩ : S23) )) (Reps.c2 (show Kd.M k23 _ _ _ (⟨t128, t129⟩ : S23) [.int .i64 t128, .int .i64 t129] from (k23_mkM _ _ _ (⟨t128, t129⟩ : S23) )) (Reps.none _ _)))))); intro v134 w27 ho28 hb hg_ hnew_; clear hg_ hnew_; (first | rw [← Ny133.out] at ho28 | (simp only [Int.reduceToNat] at ho28; rw [← Ny133.out] at ho28)); have n0_ := Aside0.mk (Kd.R_lower ho28 (below_size (by repeat (first | (with_reducible first | exact HB.out | apply below_alloc | apply pw_below_drewN | apply below_drew1 | refine below_set ?_ GE115.out | refine below_set ?_ GE121.out | refine below_set ?_ GE131.out) | exact HB.out)))); have n1_ := Aside0.mk (blk_below (g := gb115) (o := .cells #[.int .u64 a3_0, .int .u64 a3_1] 35 (0, 0)) (by (with_reducible repeat (first | refine blk_drewN ?_ _ | refine blk_drew ?_ | refine blk_alloc ?_ _)); exact BK115.out) hb); have n2_ := Aside0.mk (blk_below (g := gb121) (o := .cells #[.int .i64 t116, .int .i64 t117, .int .i64 t118, .int .u64 t119, .int .u64 t120] 37 (0, 0)) (by (with_reducible repeat (first | refine blk_drewN ?_ _ | refine blk_drew ?_ | refine blk_alloc ?_ _)); exact BK121.out) hb); have n3_ := Aside0.mk (blk_below (g := gb131) (o := .cells #[.int .i64 t122, .int .i64 t123, .int .i64 t124, .int .i64 t125, .int .i64 t126, .int .i64 t127, .int .i64 t128, .int .i64 t129] 39 (0, 0)) (by (with_reducible repeat (first | refine blk_drewN ?_ _ | refine blk_drew ?_ | refine blk_alloc ?_ _)); exact BK131.out) hb); have n4_ := Aside0.mk (below_step (by repeat (first | (with_reducible first | exact HB.out | apply below_alloc | apply pw_below_drewN | apply below_drew1 | refine below_set ?_ GE115.out | refine below_set ?_ GE121.out | refine below_set ?_ GE131.out) | exact HB.out)) hb); clear BK115; clear BK121; clear BK131; clear HB; have HO135 := n0_; have BK115 := n1_; have BK121 := n2_; have BK131 := n3_; have HB := n4_; clear n0_ n1_ n2_ n3_ n4_; clear hb ho28; obtain ⟨Ao29, co29, eo29⟩ := Kd.R_slice HO135.out; subst eo29))
        go_loopg [49] kj7 (fun kq v49 w' => ∃ (x49_2 : Int), v49 = .int .i64 x49_2 ∧ Aside0 (datumlaw17_LimitNarrow.l0 kq y133 (y133.length : Int) x49_2 t116 t117 t118 t119 t120 t122 t123 t124 t125 t126 t127 t128 t129 = some r) ∧ Aside0 (kq ≤ kj7) ∧ Aside0 (Kd.R k23 23 w' w.heap.size (fun _ => True) (.slice Ao29 y133.length co29) y133) ∧ Aside0 (w'.heap[gb115]? = some (.cells #[.int .u64 a3_0, .int .u64 a3_1] 35 (0, 0))) ∧ Aside0 (w'.heap[gb121]? = some (.cells #[.int .i64 t116, .int .i64 t117, .int .i64 t118, .int .u64 t119, .int .u64 t120] 37 (0, 0))) ∧ Aside0 (w'.heap[gb131]? = some (.cells #[.int .i64 t122, .int .i64 t123, .int .i64 t124, .int .i64 t125, .int .i64 t126, .int .i64 t127, .int .i64 t128, .int .i64 t129] 39 (0, 0))) ∧ Aside0 (Below w.heap.size w w'))
        case atStart => exact ⟨(0), (by first | rfl | (simp; done) | (simp [*]; done)), H', ⟨Nat.le_refl _⟩, ⟨by (with_reducible repeat (first | apply Kd.R_alloc | apply Kd.R_drewN | apply Kd.R_drew)); exact HO135.out⟩, ⟨by (with_reducible repeat (first | refine blk_drewN ?_ _ | refine blk_drew ?_ | refine blk_alloc ?_ _)); exact BK115.out⟩, ⟨by (with_reducible repeat (first | refine blk_drewN ?_ _ | refine blk_drew ?_ | refine blk_alloc ?_ _)); exact BK121.out⟩, ⟨by (with_reducible repeat (first | refine blk_drewN ?_ _ | refine blk_drew ?_ | refine blk_alloc ?_ _)); exact BK131.out⟩, ⟨by repeat (first | (with_reducible first | exact HB.out | apply below_alloc | apply pw_below_drewN | apply below_drew1 | refine below_set ?_ GE115.out | refine below_set ?_ GE121.out | refine below_set ?_ GE131.out) | exact HB.out)⟩⟩
        case round =>
          clear H'
          try clear c1
          try clear c2
          try clear p2
          try clear c6
          try clear p6
          try clear c13
          try clear c17
          try clear c18
          try clear c20
          try clear c20b0
          try clear c20b1
          try clear c23
          try clear c24
          try clear c25
          try clear c29
          try clear hcz10_0
          try clear hcz10_1
          try clear hcz14_0
          try clear hcz14_1
          try clear hcz14_2
          try clear hcz14_3
          try clear hcz14_4
          try clear hcz19_0
          try clear hcz19_1
          try clear hcz19_2
          try clear hcz19_3
          try clear hcz19_4
          try clear hcz19_5
          try clear hcz19_6
          try clear hcz19_7
          try clear hcz26_0
          try clear hcz26_1
          try clear hcz26_2
          try clear hcz26_3
          try clear hcz26_4
          try clear hcz26_5
          try clear hcz26_6
          try clear hcz26_7
          try clear hfz10_0
          try clear hfz10_1
          try clear hfz14_0
          try clear hfz14_1
          try clear hfz14_2
          try clear hfz14_3
          try clear hfz14_4
          try clear hfz19_0
          try clear hfz19_1
          try clear hfz19_2
          try clear hfz19_3
          try clear hfz19_4
          try clear hfz19_5
          try clear hfz19_6
          try clear hfz19_7
          try clear hfz26_0
          try clear hfz26_1
          try clear hfz26_2
          try clear hfz26_3
          try clear hfz26_4
          try clear hfz26_5
          try clear hfz26_6
          try clear hfz26_7
          try clear p2
          try clear p6
          obtain ⟨x49_2, rfl, HA, HK2, HO_47, BK115, BK121, BK131, HB⟩ := hrel
          cases gk with
          | zero => exact absurd HA.out (by simp [datumlaw17_LimitNarrow.l0])
          | succ k2 =>
            have H := HA.out
            clear HA
            simp only [datumlaw17_LimitNarrow.l0] at H
            by_cases c30 : x49_2 < (y133.length : Int)
            · rw [if_pos c30] at H
              have c30b0 : decide (x49_2 < (y133.length : Int)) = true := decide_eq_true c30
              clear c30
              by_cases c31 : 0 ≤ x49_2
              · rw [if_pos c31] at H
                have c31b0 : decide (0 ≤ x49_2) = true := decide_eq_true c31
                clear c31
                by_cases c32 : x49_2 < (y133.length : Int)
                · rw [if_pos c32] at H
                  have c32b0 : decide (x49_2 < (y133.length : Int)) = true := decide_eq_true c32
                  clear c32
                  by_cases c33 : x49_2 ≥ 2
                  · rw [if_pos c33] at H
                    have c33b0 : decide (2 ≤ x49_2) = true := decide_eq_true c33
                    clear c33
                    by_cases c34 : ((rd_T23 y133 x49_2).f1) < ((rd_T23 y133 x49_2).f0)
                    · rw [if_pos c34] at H
                      have c34b0 : decide (((rd_T23 y133 x49_2).f1) < ((rd_T23 y133 x49_2).f0)) = true := decide_eq_true c34
                      clear c34
                      obtain rfl := Option.some.inj H
                      have p136 : 0 ≤ (x49_2 : Int) := of_decide_eq_true (by first | (with_reducible assumption) | assumption)
                      have q136 : x49_2 < (y133.length : Int) := of_decide_eq_true (by first | (with_reducible assumption) | assumption)
                      obtain ⟨ad136, e136, hx136_0, hx136_1⟩ := at_T23 (Kd.R_reads' HO_47.out).2.2 x49_2 p136 q136
                      cases e136
                      replace p136 := eq_true p136
                      replace q136 := eq_true q136
                      go_wp2_with (first | ((with_reducible refine gate_dst (N := 15) rfl ?_); refine box_event ?hg (N := 15) ?hd (cs := #[.int .i64 0, .int .i64 0]) (t := 23) ?hr ?_; (case hd => rfl); (case hg => rfl); (case hr => first | (go_simp; done) | (go_simp; rfl)); intro gb137 hg w35 hbox hb; have n0_ := Aside0.mk (Kd.R_below (Kd.R_elderB (by (with_reducible repeat (first | apply Kd.R_alloc | apply Kd.R_drewN | apply Kd.R_drew)); exact HO_47.out) gb137 (Nat.le_of_eq hg.symm)) hb); have n1_ := Aside0.mk (blk_below (g := gb115) (o := .cells #[.int .u64 a3_0, .int .u64 a3_1] 35 (0, 0)) (by (with_reducible repeat (first | refine blk_drewN ?_ _ | refine blk_drew ?_ | refine blk_alloc ?_ _)); exact BK115.out) hb); have n2_ := Aside0.mk (blk_below (g := gb121) (o := .cells #[.int .i64 t116, .int .i64 t117, .int .i64 t118, .int .u64 t119, .int .u64 t120] 37 (0, 0)) (by (with_reducible repeat (first | refine blk_drewN ?_ _ | refine blk_drew ?_ | refine blk_alloc ?_ _)); exact BK121.out) hb); have n3_ := Aside0.mk (blk_below (g := gb131) (o := .cells #[.int .i64 t122, .int .i64 t123, .int .i64 t124, .int .i64 t125, .int .i64 t126, .int .i64 t127, .int .i64 t128, .int .i64 t129] 39 (0, 0)) (by (with_reducible repeat (first | refine blk_drewN ?_ _ | refine blk_drew ?_ | refine blk_alloc ?_ _)); exact BK131.out) hb); have n4_ := Aside0.mk (below_step (by repeat (first | (with_reducible first | exact HB.out | apply below_alloc | apply pw_below_drewN | apply below_drew1 | refine below_set ?_ GE115.out | refine below_set ?_ GE121.out | refine below_set ?_ GE131.out) | exact HB.out)) hb); have n5_ := Aside0.mk (hbox); have n6_ := Aside0.mk ((by rw [hg]; exact (below_size (by repeat (first | (with_reducible first | exact HB.out | apply below_alloc | apply pw_below_drewN | apply below_drew1 | refine below_set ?_ GE115.out | refine below_set ?_ GE121.out | refine below_set ?_ GE131.out) | exact HB.out))) : w.heap.size ≤ gb137)); have n7_ := Aside0.mk ((by rw [hg]; exact (below_size (by repeat (first | (with_reducible first | exact HB.out | apply below_alloc | apply pw_below_drewN | apply below_drew1 | refine below_set ?_ GE115.out | refine below_set ?_ GE121.out | refine below_set ?_ GE131.out) | exact HB.out))) : w.heap.size ≤ gb137)); have n8_ := Aside0.mk ((by rw [hg]; exact Nat.ne_of_lt (blk_lt (g := gb115) (o := .cells #[.int .u64 a3_0, .int .u64 a3_1] 35 (0, 0)) (by (with_reducible repeat (first | refine blk_drewN ?_ _ | refine blk_drew ?_ | refine blk_alloc ?_ _)); exact BK115.out)) : gb115 ≠ gb137)); have n9_ := Aside0.mk ((by rw [hg]; exact Nat.ne_of_gt (blk_lt (g := gb115) (o := .cells #[.int .u64 a3_0, .int .u64 a3_1] 35 (0, 0)) (by (with_reducible repeat (first | refine blk_drewN ?_ _ | refine blk_drew ?_ | refine blk_alloc ?_ _)); exact BK115.out)) : gb137 ≠ gb115)); have n10_ := Aside0.mk ((by rw [hg]; exact Nat.ne_of_lt (blk_lt (g := gb121) (o := .cells #[.int .i64 t116, .int .i64 t117, .int .i64 t118, .int .u64 t119, .int .u64 t120] 37 (0, 0)) (by (with_reducible repeat (first | refine blk_drewN ?_ _ | refine blk_drew ?_ | refine blk_alloc ?_ _)); exact BK121.out)) : gb121 ≠ gb137)); have n11_ := Aside0.mk ((by rw [hg]; exact Nat.ne_of_gt (blk_lt (g := gb121) (o := .cells #[.int .i64 t116, .int .i64 t117, .int .i64 t118, .int .u64 t119, .int .u64 t120] 37 (0, 0)) (by (with_reducible repeat (first | refine blk_drewN ?_ _ | refine blk_drew ?_ | refine blk_alloc ?_ _)); exact BK121.out)) : gb137 ≠ gb121)); have n12_ := Aside0.mk ((by rw [hg]; exact Nat.ne_of_lt (blk_lt (g := gb131) (o := .cells #[.int .i64 t122, .int .i64 t123, .int .i64 t124, .int .i64 t125, .int .i64 t126, .int .i64 t127, .int .i64 t128, .int .i64 t129] 39 (0, 0)) (by (with_reducible repeat (first | refine blk_drewN ?_ _ | refine blk_drew ?_ | refine blk_alloc ?_ _)); exact BK131.out)) : gb131 ≠ gb137)); have n13_ := Aside0.mk ((by rw [hg]; exact Nat.ne_of_gt (blk_lt (g := gb131) (o := .cells #[.int .i64 t122, .int .i64 t123, .int .i64 t124, .int .i64 t125, .int .i64 t126, .int .i64 t127, .int .i64 t128, .int .i64 t129] 39 (0, 0)) (by (with_reducible repeat (first | refine blk_drewN ?_ _ | refine blk_drew ?_ | refine blk_alloc ?_ _)); exact BK131.out)) : gb137 ≠ gb131)); clear HO_47; clear BK115; clear BK121; clear BK131; clear HB; have HO_47 := n0_; have BK115 := n1_; have BK121 := n2_; have BK131 := n3_; have HB := n4_; have BK137 := n5_; have GW137 := n6_; have GE137 := n7_; have NB115_137 := n8_; have NB137_115 := n9_; have NB121_137 := n10_; have NB137_121 := n11_; have NB131_137 := n12_; have NB137_131 := n13_; clear n0_ n1_ n2_ n3_ n4_ n5_ n6_ n7_ n8_ n9_ n10_ n11_ n12_ n13_; clear hb hbox hg; have hnb36 := NB137_115.out; have hnc36 := NB115_137.out; have hnb37 := NB137_121.out; have hnc37 := NB121_137.out; have hnb38 := NB137_131.out; have hnc38 := NB131_137.out; have hcz39_0 : w35.cell? ⟨gb137, 0, none⟩ = some (.int .i64 0) := (blk_cell BK137.out 0).trans rfl; have hcz39_1 : w35.cell? ⟨gb137, 1, none⟩ = some (.int .i64 0) := (blk_cell BK137.out 1).trans rfl; have hfz39_0 := blk_frozen BK137.out 0; have hfz39_1 := blk_frozen BK137.out 1))
                      go_ret
                      exact ⟨by first | rfl | (simp [errW_none, errW_some] <;> rfl) | (simp [*, errW_none, errW_some] <;> rfl), by repeat (first | (with_reducible first | exact HB.out | apply below_alloc | apply pw_below_drewN | apply below_drew1 | refine below_set ?_ GE115.out | refine below_set ?_ GE121.out | refine below_set ?_ GE131.out | refine below_set ?_ GE137.out) | exact HB.out)⟩
                    · rw [if_neg c34] at H
                      have c34b0 : decide (((rd_T23 y133 x49_2).f1) < ((rd_T23 y133 x49_2).f0)) = false := decide_eq_false c34
                      clear c34
                      by_cases c40 : (wrap64 (((rd_T23 y133 x49_2).f1) - ((rd_T23 y133 x49_2).f0))) > 1
                      · rw [if_pos c40] at H
                        have c40b0 : decide (1 < (wrap64 (((rd_T23 y133 x49_2).f1) - ((rd_T23 y133 x49_2).f0)))) = true := decide_eq_true c40
                        clear c40
                        obtain rfl := Option.some.inj H
                        have p136 : 0 ≤ (x49_2 : Int) := of_decide_eq_true (by first | (with_reducible assumption) | assumption)
                        have q136 : x49_2 < (y133.length : Int) := of_decide_eq_true (by first | (with_reducible assumption) | assumption)
                        obtain ⟨ad136, e136, hx136_0, hx136_1⟩ := at_T23 (Kd.R_reads' HO_47.out).2.2 x49_2 p136 q136
                        cases e136
                        replace p136 := eq_true p136
                        replace q136 := eq_true q136
                        go_wp2_with (first | ((with_reducible refine gate_dst (N := 15) rfl ?_); refine box_event ?hg (N := 15) ?hd (cs := #[.int .i64 0, .int .i64 0]) (t := 23) ?hr ?_; (case hd => rfl); (case hg => rfl); (case hr => first | (go_simp; done) | (go_simp; rfl)); intro gb137 hg w41 hbox hb; have n0_ := Aside0.mk (Kd.R_below (Kd.R_elderB (by (with_reducible repeat (first | apply Kd.R_alloc | apply Kd.R_drewN | apply Kd.R_drew)); exact HO_47.out) gb137 (Nat.le_of_eq hg.symm)) hb); have n1_ := Aside0.mk (blk_below (g := gb115) (o := .cells #[.int .u64 a3_0, .int .u64 a3_1] 35 (0, 0)) (by (with_reducible repeat (first | refine blk_drewN ?_ _ | refine blk_drew ?_ | refine blk_alloc ?_ _)); exact BK115.out) hb); have n2_ := Aside0.mk (blk_below (g := gb121) (o := .cells #[.int .i64 t116, .int .i64 t117, .int .i64 t118, .int .u64 t119, .int .u64 t120] 37 (0, 0)) (by (with_reducible repeat (first | refine blk_drewN ?_ _ | refine blk_drew ?_ | refine blk_alloc ?_ _)); exact BK121.out) hb); have n3_ := Aside0.mk (blk_below (g := gb131) (o := .cells #[.int .i64 t122, .int .i64 t123, .int .i64 t124, .int .i64 t125, .int .i64 t126, .int .i64 t127, .int .i64 t128, .int .i64 t129] 39 (0, 0)) (by (with_reducible repeat (first | refine blk_drewN ?_ _ | refine blk_drew ?_ | refine blk_alloc ?_ _)); exact BK131.out) hb); have n4_ := Aside0.mk (below_step (by repeat (first | (with_reducible first | exact HB.out | apply below_alloc | apply pw_below_drewN | apply below_drew1 | refine below_set ?_ GE115.out | refine below_set ?_ GE121.out | refine below_set ?_ GE131.out) | exact HB.out)) hb); have n5_ := Aside0.mk (hbox); have n6_ := Aside0.mk ((by rw [hg]; exact (below_size (by repeat (first | (with_reducible first | exact HB.out | apply below_alloc | apply pw_below_drewN | apply below_drew1 | refine below_set ?_ GE115.out | refine below_set ?_ GE121.out | refine below_set ?_ GE131.out) | exact HB.out))) : w.heap.size ≤ gb137)); have n7_ := Aside0.mk ((by rw [hg]; exact (below_size (by repeat (first | (with_reducible first | exact HB.out | apply below_alloc | apply pw_below_drewN | apply below_drew1 | refine below_set ?_ GE115.out | refine below_set ?_ GE121.out | refine below_set ?_ GE131.out) | exact HB.out))) : w.heap.size ≤ gb137)); have n8_ := Aside0.mk ((by rw [hg]; exact Nat.ne_of_lt (blk_lt (g := gb115) (o := .cells #[.int .u64 a3_0, .int .u64 a3_1] 35 (0, 0)) (by (with_reducible repeat (first | refine blk_drewN ?_ _ | refine blk_drew ?_ | refine blk_alloc ?_ _)); exact BK115.out)) : gb115 ≠ gb137)); have n9_ := Aside0.mk ((by rw [hg]; exact Nat.ne_of_gt (blk_lt (g := gb115) (o := .cells #[.int .u64 a3_0, .int .u64 a3_1] 35 (0, 0)) (by (with_reducible repeat (first | refine blk_drewN ?_ _ | refine blk_drew ?_ | refine blk_alloc ?_ _)); exact BK115.out)) : gb137 ≠ gb115)); have n10_ := Aside0.mk ((by rw [hg]; exact Nat.ne_of_lt (blk_lt (g := gb121) (o := .cells #[.int .i64 t116, .int .i64 t117, .int .i64 t118, .int .u64 t119, .int .u64 t120] 37 (0, 0)) (by (with_reducible repeat (first | refine blk_drewN ?_ _ | refine blk_drew ?_ | refine blk_alloc ?_ _)); exact BK121.out)) : gb121 ≠ gb137)); have n11_ := Aside0.mk ((by rw [hg]; exact Nat.ne_of_gt (blk_lt (g := gb121) (o := .cells #[.int .i64 t116, .int .i64 t117, .int .i64 t118, .int .u64 t119, .int .u64 t120] 37 (0, 0)) (by (with_reducible repeat (first | refine blk_drewN ?_ _ | refine blk_drew ?_ | refine blk_alloc ?_ _)); exact BK121.out)) : gb137 ≠ gb121)); have n12_ := Aside0.mk ((by rw [hg]; exact Nat.ne_of_lt (blk_lt (g := gb131) (o := .cells #[.int .i64 t122, .int .i64 t123, .int .i64 t124, .int .i64 t125, .int .i64 t126, .int .i64 t127, .int .i64 t128, .int .i64 t129] 39 (0, 0)) (by (with_reducible repeat (first | refine blk_drewN ?_ _ | refine blk_drew ?_ | refine blk_alloc ?_ _)); exact BK131.out)) : gb131 ≠ gb137)); have n13_ := Aside0.mk ((by rw [hg]; exact Nat.ne_of_gt (blk_lt (g := gb131) (o := .cells #[.int .i64 t122, .int .i64 t123, .int .i64 t124, .int .i64 t125, .int .i64 t126, .int .i64 t127, .int .i64 t128, .int .i64 t129] 39 (0, 0)) (by (with_reducible repeat (first | refine blk_drewN ?_ _ | refine blk_drew ?_ | refine blk_alloc ?_ _)); exact BK131.out)) : gb137 ≠ gb131)); clear HO_47; clear BK115; clear BK121; clear BK131; clear HB; have HO_47 := n0_; have BK115 := n1_; have BK121 := n2_; have BK131 := n3_; have HB := n4_; have BK137 := n5_; have GW137 := n6_; have GE137 := n7_; have NB115_137 := n8_; have NB137_115 := n9_; have NB121_137 := n10_; have NB137_121 := n11_; have NB131_137 := n12_; have NB137_131 := n13_; clear n0_ n1_ n2_ n3_ n4_ n5_ n6_ n7_ n8_ n9_ n10_ n11_ n12_ n13_; clear hb hbox hg; have hnb42 := NB137_115.out; have hnc42 := NB115_137.out; have hnb43 := NB137_121.out; have hnc43 := NB121_137.out; have hnb44 := NB137_131.out; have hnc44 := NB131_137.out; have hcz45_0 : w41.cell? ⟨gb137, 0, none⟩ = some (.int .i64 0) := (blk_cell BK137.out 0).trans rfl; have hcz45_1 : w41.cell? ⟨gb137, 1, none⟩ = some (.int .i64 0) := (blk_cell BK137.out 1).trans rfl; have hfz45_0 := blk_frozen BK137.out 0; have hfz45_1 := blk_frozen BK137.out 1))
                        go_ret
                        exact ⟨by first | rfl | (simp [errW_none, errW_some] <;> rfl) | (simp [*, errW_none, errW_some] <;> rfl), by repeat (first | (with_reducible first | exact HB.out | apply below_alloc | apply pw_below_drewN | apply below_drew1 | refine below_set ?_ GE115.out | refine below_set ?_ GE121.out | refine below_set ?_ GE131.out | refine below_set ?_ GE137.out) | exact HB.out)⟩
                      · rw [if_neg c40] at H
                        have c40b0 : decide (1 < (wrap64 (((rd_T23 y133 x49_2).f1) - ((rd_T23 y133 x49_2).f0)))) = false := decide_eq_false c40
                        clear c40
                        have H' := Aside0.mk H
                        clear H
                        have p136 : 0 ≤ (x49_2 : Int) := of_decide_eq_true (by first | (with_reducible assumption) | assumption)
                        have q136 : x49_2 < (y133.length : Int) := of_decide_eq_true (by first | (with_reducible assumption) | assumption)
                        obtain ⟨ad136, e136, hx136_0, hx136_1⟩ := at_T23 (Kd.R_reads' HO_47.out).2.2 x49_2 p136 q136
                        cases e136
                        replace p136 := eq_true p136
                        replace q136 := eq_true q136
                        go_wp2_with (first | ((with_reducible refine gate_dst (N := 15) rfl ?_); refine box_event ?hg (N := 15) ?hd (cs := #[.int .i64 0, .int .i64 0]) (t := 23) ?hr ?_; (case hd => rfl); (case hg => rfl); (case hr => first | (go_simp; done) | (go_simp; rfl)); intro gb137 hg w46 hbox hb; have n0_ := Aside0.mk (Kd.R_below (Kd.R_elderB (by (with_reducible repeat (first | apply Kd.R_alloc | apply Kd.R_drewN | apply Kd.R_drew)); exact HO_47.out) gb137 (Nat.le_of_eq hg.symm)) hb); have n1_ := Aside0.mk (blk_below (g := gb115) (o := .cells #[.int .u64 a3_0, .int .u64 a3_1] 35 (0, 0)) (by (with_reducible repeat (first | refine blk_drewN ?_ _ | refine blk_drew ?_ | refine blk_alloc ?_ _)); exact BK115.out) hb); have n2_ := Aside0.mk (blk_below (g := gb121) (o := .cells #[.int .i64 t116, .int .i64 t117, .int .i64 t118, .int .u64 t119, .int .u64 t120] 37 (0, 0)) (by (with_reducible repeat (first | refine blk_drewN ?_ _ | refine blk_drew ?_ | refine blk_alloc ?_ _)); exact BK121.out) hb); have n3_ := Aside0.mk (blk_below (g := gb131) (o := .cells #[.int .i64 t122, .int .i64 t123, .int .i64 t124, .int .i64 t125, .int .i64 t126, .int .i64 t127, .int .i64 t128, .int .i64 t129] 39 (0, 0)) (by (with_reducible repeat (first | refine blk_drewN ?_ _ | refine blk_drew ?_ | refine blk_alloc ?_ _)); exact BK131.out) hb); have n4_ := Aside0.mk (below_step (by repeat (first | (with_reducible first | exact HB.out | apply below_alloc | apply pw_below_drewN | apply below_drew1 | refine below_set ?_ GE115.out | refine below_set ?_ GE121.out | refine below_set ?_ GE131.out) | exact HB.out)) hb); have n5_ := Aside0.mk (hbox); have n6_ := Aside0.mk ((by rw [hg]; exact (below_size (by repeat (first | (with_reducible first | exact HB.out | apply below_alloc | apply pw_below_drewN | apply below_drew1 | refine below_set ?_ GE115.out | refine below_set ?_ GE121.out | refine below_set ?_ GE131.out) | exact HB.out))) : w.heap.size ≤ gb137)); have n7_ := Aside0.mk ((by rw [hg]; exact (below_size (by repeat (first | (with_reducible first | exact HB.out | apply below_alloc | apply pw_below_drewN | apply below_drew1 | refine below_set ?_ GE115.out | refine below_set ?_ GE121.out | refine below_set ?_ GE131.out) | exact HB.out))) : w.heap.size ≤ gb137)); have n8_ := Aside0.mk ((by rw [hg]; exact Nat.ne_of_lt (blk_lt (g := gb115) (o := .cells #[.int .u64 a3_0, .int .u64 a3_1] 35 (0, 0)) (by (with_reducible repeat (first | refine blk_drewN ?_ _ | refine blk_drew ?_ | refine blk_alloc ?_ _)); exact BK115.out)) : gb115 ≠ gb137)); have n9_ := Aside0.mk ((by rw [hg]; exact Nat.ne_of_gt (blk_lt (g := gb115) (o := .cells #[.int .u64 a3_0, .int .u64 a3_1] 35 (0, 0)) (by (with_reducible repeat (first | refine blk_drewN ?_ _ | refine blk_drew ?_ | refine blk_alloc ?_ _)); exact BK115.out)) : gb137 ≠ gb115)); have n10_ := Aside0.mk ((by rw [hg]; exact Nat.ne_of_lt (blk_lt (g := gb121) (o := .cells #[.int .i64 t116, .int .i64 t117, .int .i64 t118, .int .u64 t119, .int .u64 t120] 37 (0, 0)) (by (with_reducible repeat (first | refine blk_drewN ?_ _ | refine blk_drew ?_ | refine blk_alloc ?_ _)); exact BK121.out)) : gb121 ≠ gb137)); have n11_ := Aside0.mk ((by rw [hg]; exact Nat.ne_of_gt (blk_lt (g := gb121) (o := .cells #[.int .i64 t116, .int .i64 t117, .int .i64 t118, .int .u64 t119, .int .u64 t120] 37 (0, 0)) (by (with_reducible repeat (first | refine blk_drewN ?_ _ | refine blk_drew ?_ | refine blk_alloc ?_ _)); exact BK121.out)) : gb137 ≠ gb121)); have n12_ := Aside0.mk ((by rw [hg]; exact Nat.ne_of_lt (blk_lt (g := gb131) (o := .cells #[.int .i64 t122, .int .i64 t123, .int .i64 t124, .int .i64 t125, .int .i64 t126, .int .i64 t127, .int .i64 t128, .int .i64 t129] 39 (0, 0)) (by (with_reducible repeat (first | refine blk_drewN ?_ _ | refine blk_drew ?_ | refine blk_alloc ?_ _)); exact BK131.out)) : gb131 ≠ gb137)); have n13_ := Aside0.mk ((by rw [hg]; exact Nat.ne_of_gt (blk_lt (g := gb131) (o := .cells #[.int .i64 t122, .int .i64 t123, .int .i64 t124, .int .i64 t125, .int .i64 t126, .int .i64 t127, .int .i64 t128, .int .i64 t129] 39 (0, 0)) (by (with_reducible repeat (first | refine blk_drewN ?_ _ | refine blk_drew ?_ | refine blk_alloc ?_ _)); exact BK131.out)) : gb137 ≠ gb131)); clear HO_47; clear BK115; clear BK121; clear BK131; clear HB; have HO_47 := n0_; have BK115 := n1_; have BK121 := n2_; have BK131 := n3_; have HB := n4_; have BK137 := n5_; have GW137 := n6_; have GE137 := n7_; have NB115_137 := n8_; have NB137_115 := n9_; have NB121_137 := n10_; have NB137_121 := n11_; have NB131_137 := n12_; have NB137_131 := n13_; clear n0_ n1_ n2_ n3_ n4_ n5_ n6_ n7_ n8_ n9_ n10_ n11_ n12_ n13_; clear hb hbox hg; have hnb47 := NB137_115.out; have hnc47 := NB115_137.out; have hnb48 := NB137_121.out; have hnc48 := NB121_137.out; have hnb49 := NB137_131.out; have hnc49 := NB131_137.out; have hcz50_0 : w46.cell? ⟨gb137, 0, none⟩ = some (.int .i64 0) := (blk_cell BK137.out 0).trans rfl; have hcz50_1 : w46.cell? ⟨gb137, 1, none⟩ = some (.int .i64 0) := (blk_cell BK137.out 1).trans rfl; have hfz50_0 := blk_frozen BK137.out 0; have hfz50_1 := blk_frozen BK137.out 1))
                        go_roundg k2
                        case measure => have := HJ7.out; have := HK2.out; omega
                        case rel => exact ⟨(wrap64 (x49_2 + 1)), (by first | rfl | (simp; done) | (simp [*]; done)), H', ⟨by have := HJ7.out; have := HK2.out; omega⟩, ⟨by (with_reducible repeat (first | apply Kd.R_alloc | apply Kd.R_drewN | apply Kd.R_drew)); exact Kd.R_mono (Kd.R_far (p := ⟨gb137, 1, none⟩) (Kd.R_far (p := ⟨gb137, 0, none⟩) (Kd.R_mono HO_47.out (fun k_ hk => (⟨hk, hk.2⟩ : _ ∧ k_ ≠ gb137))) (fun _ hk => hk.2) (.int .i64 ((rd_T23 y133 x49_2).f0))) (fun _ hk => hk.2) (.int .i64 ((rd_T23 y133 x49_2).f1))) (fun _ hk => trivial)⟩, ⟨by (with_reducible repeat (first | refine blk_drewN ?_ _ | refine blk_drew ?_ | refine blk_alloc ?_ _)); refine blk_far ?_ NB115_137.out _; (with_reducible repeat (first | refine blk_drewN ?_ _ | refine blk_drew ?_ | refine blk_alloc ?_ _)); refine blk_far ?_ NB115_137.out _; (with_reducible repeat (first | refine blk_drewN ?_ _ | refine blk_drew ?_ | refine blk_alloc ?_ _)); exact BK115.out⟩, ⟨by (with_reducible repeat (first | refine blk_drewN ?_ _ | refine blk_drew ?_ | refine blk_alloc ?_ _)); refine blk_far ?_ NB121_137.out _; (with_reducible repeat (first | refine blk_drewN ?_ _ | refine blk_drew ?_ | refine blk_alloc ?_ _)); refine blk_far ?_ NB121_137.out _; (with_reducible repeat (first | refine blk_drewN ?_ _ | refine blk_drew ?_ | refine blk_alloc ?_ _)); exact BK121.out⟩, ⟨by (with_reducible repeat (first | refine blk_drewN ?_ _ | refine blk_drew ?_ | refine blk_alloc ?_ _)); refine blk_far ?_ NB131_137.out _; (with_reducible repeat (first | refine blk_drewN ?_ _ | refine blk_drew ?_ | refine blk_alloc ?_ _)); refine blk_far ?_ NB131_137.out _; (with_reducible repeat (first | refine blk_drewN ?_ _ | refine blk_drew ?_ | refine blk_alloc ?_ _)); exact BK131.out⟩, ⟨by repeat (first | (with_reducible first | exact HB.out | apply below_alloc | apply pw_below_drewN | apply below_drew1 | refine below_set ?_ GE115.out | refine below_set ?_ GE121.out | refine below_set ?_ GE131.out | refine below_set ?_ GE137.out) | exact HB.out)⟩⟩
                  · rw [if_neg c33] at H
                    have c33b0 : decide (2 ≤ x49_2) = false := decide_eq_false c33
                    clear c33
                    by_cases c51 : ((rd_T23 y133 x49_2).f1) < ((rd_T23 y133 x49_2).f0)
                    · rw [if_pos c51] at H
                      have c51b0 : decide (((rd_T23 y133 x49_2).f1) < ((rd_T23 y133 x49_2).f0)) = true := decide_eq_true c51
                      clear c51
                      obtain rfl := Option.some.inj H
                      have p136 : 0 ≤ (x49_2 : Int) := of_decide_eq_true (by first | (with_reducible assumption) | assumption)
                      have q136 : x49_2 < (y133.length : Int) := of_decide_eq_true (by first | (with_reducible assumption) | assumption)
                      obtain ⟨ad136, e136, hx136_0, hx136_1⟩ := at_T23 (Kd.R_reads' HO_47.out).2.2 x49_2 p136 q136
                      cases e136
                      replace p136 := eq_true p136
                      replace q136 := eq_true q136
                      go_wp2_with (first | ((with_reducible refine gate_dst (N := 15) rfl ?_); refine box_event ?hg (N := 15) ?hd (cs := #[.int .i64 0, .int .i64 0]) (t := 23) ?hr ?_; (case hd => rfl); (case hg => rfl); (case hr => first | (go_simp; done) | (go_simp; rfl)); intro gb137 hg w52 hbox hb; have n0_ := Aside0.mk (Kd.R_below (Kd.R_elderB (by (with_reducible repeat (first | apply Kd.R_alloc | apply Kd.R_drewN | apply Kd.R_drew)); exact HO_47.out) gb137 (Nat.le_of_eq hg.symm)) hb); have n1_ := Aside0.mk (blk_below (g := gb115) (o := .cells #[.int .u64 a3_0, .int .u64 a3_1] 35 (0, 0)) (by (with_reducible repeat (first | refine blk_drewN ?_ _ | refine blk_drew ?_ | refine blk_alloc ?_ _)); exact BK115.out) hb); have n2_ := Aside0.mk (blk_below (g := gb121) (o := .cells #[.int .i64 t116, .int .i64 t117, .int .i64 t118, .int .u64 t119, .int .u64 t120] 37 (0, 0)) (by (with_reducible repeat (first | refine blk_drewN ?_ _ | refine blk_drew ?_ | refine blk_alloc ?_ _)); exact BK121.out) hb); have n3_ := Aside0.mk (blk_below (g := gb131) (o := .cells #[.int .i64 t122, .int .i64 t123, .int .i64 t124, .int .i64 t125, .int .i64 t126, .int .i64 t127, .int .i64 t128, .int .i64 t129] 39 (0, 0)) (by (with_reducible repeat (first | refine blk_drewN ?_ _ | refine blk_drew ?_ | refine blk_alloc ?_ _)); exact BK131.out) hb); have n4_ := Aside0.mk (below_step (by repeat (first | (with_reducible first | exact HB.out | apply below_alloc | apply pw_below_drewN | apply below_drew1 | refine below_set ?_ GE115.out | refine below_set ?_ GE121.out | refine below_set ?_ GE131.out) | exact HB.out)) hb); have n5_ := Aside0.mk (hbox); have n6_ := Aside0.mk ((by rw [hg]; exact (below_size (by repeat (first | (with_reducible first | exact HB.out | apply below_alloc | apply pw_below_drewN | apply below_drew1 | refine below_set ?_ GE115.out | refine below_set ?_ GE121.out | refine below_set ?_ GE131.out) | exact HB.out))) : w.heap.size ≤ gb137)); have n7_ := Aside0.mk ((by rw [hg]; exact (below_size (by repeat (first | (with_reducible first | exact HB.out | apply below_alloc | apply pw_below_drewN | apply below_drew1 | refine below_set ?_ GE115.out | refine below_set ?_ GE121.out | refine below_set ?_ GE131.out) | exact HB.out))) : w.heap.size ≤ gb137)); have n8_ := Aside0.mk ((by rw [hg]; exact Nat.ne_of_lt (blk_lt (g := gb115) (o := .cells #[.int .u64 a3_0, .int .u64 a3_1] 35 (0, 0)) (by (with_reducible repeat (first | refine blk_drewN ?_ _ | refine blk_drew ?_ | refine blk_alloc ?_ _)); exact BK115.out)) : gb115 ≠ gb137)); have n9_ := Aside0.mk ((by rw [hg]; exact Nat.ne_of_gt (blk_lt (g := gb115) (o := .cells #[.int .u64 a3_0, .int .u64 a3_1] 35 (0, 0)) (by (with_reducible repeat (first | refine blk_drewN ?_ _ | refine blk_drew ?_ | refine blk_alloc ?_ _)); exact BK115.out)) : gb137 ≠ gb115)); have n10_ := Aside0.mk ((by rw [hg]; exact Nat.ne_of_lt (blk_lt (g := gb121) (o := .cells #[.int .i64 t116, .int .i64 t117, .int .i64 t118, .int .u64 t119, .int .u64 t120] 37 (0, 0)) (by (with_reducible repeat (first | refine blk_drewN ?_ _ | refine blk_drew ?_ | refine blk_alloc ?_ _)); exact BK121.out)) : gb121 ≠ gb137)); have n11_ := Aside0.mk ((by rw [hg]; exact Nat.ne_of_gt (blk_lt (g := gb121) (o := .cells #[.int .i64 t116, .int .i64 t117, .int .i64 t118, .int .u64 t119, .int .u64 t120] 37 (0, 0)) (by (with_reducible repeat (first | refine blk_drewN ?_ _ | refine blk_drew ?_ | refine blk_alloc ?_ _)); exact BK121.out)) : gb137 ≠ gb121)); have n12_ := Aside0.mk ((by rw [hg]; exact Nat.ne_of_lt (blk_lt (g := gb131) (o := .cells #[.int .i64 t122, .int .i64 t123, .int .i64 t124, .int .i64 t125, .int .i64 t126, .int .i64 t127, .int .i64 t128, .int .i64 t129] 39 (0, 0)) (by (with_reducible repeat (first | refine blk_drewN ?_ _ | refine blk_drew ?_ | refine blk_alloc ?_ _)); exact BK131.out)) : gb131 ≠ gb137)); have n13_ := Aside0.mk ((by rw [hg]; exact Nat.ne_of_gt (blk_lt (g := gb131) (o := .cells #[.int .i64 t122, .int .i64 t123, .int .i64 t124, .int .i64 t125, .int .i64 t126, .int .i64 t127, .int .i64 t128, .int .i64 t129] 39 (0, 0)) (by (with_reducible repeat (first | refine blk_drewN ?_ _ | refine blk_drew ?_ | refine blk_alloc ?_ _)); exact BK131.out)) : gb137 ≠ gb131)); clear HO_47; clear BK115; clear BK121; clear BK131; clear HB; have HO_47 := n0_; have BK115 := n1_; have BK121 := n2_; have BK131 := n3_; have HB := n4_; have BK137 := n5_; have GW137 := n6_; have GE137 := n7_; have NB115_137 := n8_; have NB137_115 := n9_; have NB121_137 := n10_; have NB137_121 := n11_; have NB131_137 := n12_; have NB137_131 := n13_; clear n0_ n1_ n2_ n3_ n4_ n5_ n6_ n7_ n8_ n9_ n10_ n11_ n12_ n13_; clear hb hbox hg; have hnb53 := NB137_115.out; have hnc53 := NB115_137.out; have hnb54 := NB137_121.out; have hnc54 := NB121_137.out; have hnb55 := NB137_131.out; have hnc55 := NB131_137.out; have hcz56_0 : w52.cell? ⟨gb137, 0, none⟩ = some (.int .i64 0) := (blk_cell BK137.out 0).trans rfl; have hcz56_1 : w52.cell? ⟨gb137, 1, none⟩ = some (.int .i64 0) := (blk_cell BK137.out 1).trans rfl; have hfz56_0 := blk_frozen BK137.out 0; have hfz56_1 := blk_frozen BK137.out 1))
                      go_ret
                      exact ⟨by first | rfl | (simp [errW_none, errW_some] <;> rfl) | (simp [*, errW_none, errW_some] <;> rfl), by repeat (first | (with_reducible first | exact HB.out | apply below_alloc | apply pw_below_drewN | apply below_drew1 | refine below_set ?_ GE115.out | refine below_set ?_ GE121.out | refine below_set ?_ GE131.out | refine below_set ?_ GE137.out) | exact HB.out)⟩
                    · rw [if_neg c51] at H
                      have c51b0 : decide (((rd_T23 y133 x49_2).f1) < ((rd_T23 y133 x49_2).f0)) = false := decide_eq_false c51
                      clear c51
                      by_cases c57 : (wrap64 (((rd_T23 y133 x49_2).f1) - ((rd_T23 y133 x49_2).f0))) > 3
                      · rw [if_pos c57] at H
                        have c57b0 : decide (3 < (wrap64 (((rd_T23 y133 x49_2).f1) - ((rd_T23 y133 x49_2).f0)))) = true := decide_eq_true c57
                        clear c57
                        obtain rfl := Option.some.inj H
                        have p136 : 0 ≤ (x49_2 : Int) := of_decide_eq_true (by first | (with_reducible assumption) | assumption)
                        have q136 : x49_2 < (y133.length : Int) := of_decide_eq_true (by first | (with_reducible assumption) | assumption)
                        obtain ⟨ad136, e136, hx136_0, hx136_1⟩ := at_T23 (Kd.R_reads' HO_47.out).2.2 x49_2 p136 q136
                        cases e136
                        replace p136 := eq_true p136
                        replace q136 := eq_true q136
                        go_wp2_with (first | ((with_reducible refine gate_dst (N := 15) rfl ?_); refine box_event ?hg (N := 15) ?hd (cs := #[.int .i64 0, .int .i64 0]) (t := 23) ?hr ?_; (case hd => rfl); (case hg => rfl); (case hr => first | (go_simp; done) | (go_simp; rfl)); intro gb137 hg w58 hbox hb; have n0_ := Aside0.mk (Kd.R_below (Kd.R_elderB (by (with_reducible repeat (first | apply Kd.R_alloc | apply Kd.R_drewN | apply Kd.R_drew)); exact HO_47.out) gb137 (Nat.le_of_eq hg.symm)) hb); have n1_ := Aside0.mk (blk_below (g := gb115) (o := .cells #[.int .u64 a3_0, .int .u64 a3_1] 35 (0, 0)) (by (with_reducible repeat (first | refine blk_drewN ?_ _ | refine blk_drew ?_ | refine blk_alloc ?_ _)); exact BK115.out) hb); have n2_ := Aside0.mk (blk_below (g := gb121) (o := .cells #[.int .i64 t116, .int .i64 t117, .int .i64 t118, .int .u64 t119, .int .u64 t120] 37 (0, 0)) (by (with_reducible repeat (first | refine blk_drewN ?_ _ | refine blk_drew ?_ | refine blk_alloc ?_ _)); exact BK121.out) hb); have n3_ := Aside0.mk (blk_below (g := gb131) (o := .cells #[.int .i64 t122, .int .i64 t123, .int .i64 t124, .int .i64 t125, .int .i64 t126, .int .i64 t127, .int .i64 t128, .int .i64 t129] 39 (0, 0)) (by (with_reducible repeat (first | refine blk_drewN ?_ _ | refine blk_drew ?_ | refine blk_alloc ?_ _)); exact BK131.out) hb); have n4_ := Aside0.mk (below_step (by repeat (first | (with_reducible first | exact HB.out | apply below_alloc | apply pw_below_drewN | apply below_drew1 | refine below_set ?_ GE115.out | refine below_set ?_ GE121.out | refine below_set ?_ GE131.out) | exact HB.out)) hb); have n5_ := Aside0.mk (hbox); have n6_ := Aside0.mk ((by rw [hg]; exact (below_size (by repeat (first | (with_reducible first | exact HB.out | apply below_alloc | apply pw_below_drewN | apply below_drew1 | refine below_set ?_ GE115.out | refine below_set ?_ GE121.out | refine below_set ?_ GE131.out) | exact HB.out))) : w.heap.size ≤ gb137)); have n7_ := Aside0.mk ((by rw [hg]; exact (below_size (by repeat (first | (with_reducible first | exact HB.out | apply below_alloc | apply pw_below_drewN | apply below_drew1 | refine below_set ?_ GE115.out | refine below_set ?_ GE121.out | refine below_set ?_ GE131.out) | exact HB.out))) : w.heap.size ≤ gb137)); have n8_ := Aside0.mk ((by rw [hg]; exact Nat.ne_of_lt (blk_lt (g := gb115) (o := .cells #[.int .u64 a3_0, .int .u64 a3_1] 35 (0, 0)) (by (with_reducible repeat (first | refine blk_drewN ?_ _ | refine blk_drew ?_ | refine blk_alloc ?_ _)); exact BK115.out)) : gb115 ≠ gb137)); have n9_ := Aside0.mk ((by rw [hg]; exact Nat.ne_of_gt (blk_lt (g := gb115) (o := .cells #[.int .u64 a3_0, .int .u64 a3_1] 35 (0, 0)) (by (with_reducible repeat (first | refine blk_drewN ?_ _ | refine blk_drew ?_ | refine blk_alloc ?_ _)); exact BK115.out)) : gb137 ≠ gb115)); have n10_ := Aside0.mk ((by rw [hg]; exact Nat.ne_of_lt (blk_lt (g := gb121) (o := .cells #[.int .i64 t116, .int .i64 t117, .int .i64 t118, .int .u64 t119, .int .u64 t120] 37 (0, 0)) (by (with_reducible repeat (first | refine blk_drewN ?_ _ | refine blk_drew ?_ | refine blk_alloc ?_ _)); exact BK121.out)) : gb121 ≠ gb137)); have n11_ := Aside0.mk ((by rw [hg]; exact Nat.ne_of_gt (blk_lt (g := gb121) (o := .cells #[.int .i64 t116, .int .i64 t117, .int .i64 t118, .int .u64 t119, .int .u64 t120] 37 (0, 0)) (by (with_reducible repeat (first | refine blk_drewN ?_ _ | refine blk_drew ?_ | refine blk_alloc ?_ _)); exact BK121.out)) : gb137 ≠ gb121)); have n12_ := Aside0.mk ((by rw [hg]; exact Nat.ne_of_lt (blk_lt (g := gb131) (o := .cells #[.int .i64 t122, .int .i64 t123, .int .i64 t124, .int .i64 t125, .int .i64 t126, .int .i64 t127, .int .i64 t128, .int .i64 t129] 39 (0, 0)) (by (with_reducible repeat (first | refine blk_drewN ?_ _ | refine blk_drew ?_ | refine blk_alloc ?_ _)); exact BK131.out)) : gb131 ≠ gb137)); have n13_ := Aside0.mk ((by rw [hg]; exact Nat.ne_of_gt (blk_lt (g := gb131) (o := .cells #[.int .i64 t122, .int .i64 t123, .int .i64 t124, .int .i64 t125, .int .i64 t126, .int .i64 t127, .int .i64 t128, .int .i64 t129] 39 (0, 0)) (by (with_reducible repeat (first | refine blk_drewN ?_ _ | refine blk_drew ?_ | refine blk_alloc ?_ _)); exact BK131.out)) : gb137 ≠ gb131)); clear HO_47; clear BK115; clear BK121; clear BK131; clear HB; have HO_47 := n0_; have BK115 := n1_; have BK121 := n2_; have BK131 := n3_; have HB := n4_; have BK137 := n5_; have GW137 := n6_; have GE137 := n7_; have NB115_137 := n8_; have NB137_115 := n9_; have NB121_137 := n10_; have NB137_121 := n11_; have NB131_137 := n12_; have NB137_131 := n13_; clear n0_ n1_ n2_ n3_ n4_ n5_ n6_ n7_ n8_ n9_ n10_ n11_ n12_ n13_; clear hb hbox hg; have hnb59 := NB137_115.out; have hnc59 := NB115_137.out; have hnb60 := NB137_121.out; have hnc60 := NB121_137.out; have hnb61 := NB137_131.out; have hnc61 := NB131_137.out; have hcz62_0 : w58.cell? ⟨gb137, 0, none⟩ = some (.int .i64 0) := (blk_cell BK137.out 0).trans rfl; have hcz62_1 : w58.cell? ⟨gb137, 1, none⟩ = some (.int .i64 0) := (blk_cell BK137.out 1).trans rfl; have hfz62_0 := blk_frozen BK137.out 0; have hfz62_1 := blk_frozen BK137.out 1))
                        go_ret
                        exact ⟨by first | rfl | (simp [errW_none, errW_some] <;> rfl) | (simp [*, errW_none, errW_some] <;> rfl), by repeat (first | (with_reducible first | exact HB.out | apply below_alloc | apply pw_below_drewN | apply below_drew1 | refine below_set ?_ GE115.out | refine below_set ?_ GE121.out | refine below_set ?_ GE131.out | refine below_set ?_ GE137.out) | exact HB.out)⟩
                      · rw [if_neg c57] at H
                        have c57b0 : decide (3 < (wrap64 (((rd_T23 y133 x49_2).f1) - ((rd_T23 y133 x49_2).f0)))) = false := decide_eq_false c57
                        clear c57
                        have H' := Aside0.mk H
                        clear H
                        have p136 : 0 ≤ (x49_2 : Int) := of_decide_eq_true (by first | (with_reducible assumption) | assumption)
                        have q136 : x49_2 < (y133.length : Int) := of_decide_eq_true (by first | (with_reducible assumption) | assumption)
                        obtain ⟨ad136, e136, hx136_0, hx136_1⟩ := at_T23 (Kd.R_reads' HO_47.out).2.2 x49_2 p136 q136
                        cases e136
                        replace p136 := eq_true p136
                        replace q136 := eq_true q136
                        go_wp2_with (first | ((with_reducible refine gate_dst (N := 15) rfl ?_); refine box_event ?hg (N := 15) ?hd (cs := #[.int .i64 0, .int .i64 0]) (t := 23) ?hr ?_; (case hd => rfl); (case hg => rfl); (case hr => first | (go_simp; done) | (go_simp; rfl)); intro gb137 hg w63 hbox hb; have n0_ := Aside0.mk (Kd.R_below (Kd.R_elderB (by (with_reducible repeat (first | apply Kd.R_alloc | apply Kd.R_drewN | apply Kd.R_drew)); exact HO_47.out) gb137 (Nat.le_of_eq hg.symm)) hb); have n1_ := Aside0.mk (blk_below (g := gb115) (o := .cells #[.int .u64 a3_0, .int .u64 a3_1] 35 (0, 0)) (by (with_reducible repeat (first | refine blk_drewN ?_ _ | refine blk_drew ?_ | refine blk_alloc ?_ _)); exact BK115.out) hb); have n2_ := Aside0.mk (blk_below (g := gb121) (o := .cells #[.int .i64 t116, .int .i64 t117, .int .i64 t118, .int .u64 t119, .int .u64 t120] 37 (0, 0)) (by (with_reducible repeat (first | refine blk_drewN ?_ _ | refine blk_drew ?_ | refine blk_alloc ?_ _)); exact BK121.out) hb); have n3_ := Aside0.mk (blk_below (g := gb131) (o := .cells #[.int .i64 t122, .int .i64 t123, .int .i64 t124, .int .i64 t125, .int .i64 t126, .int .i64 t127, .int .i64 t128, .int .i64 t129] 39 (0, 0)) (by (with_reducible repeat (first | refine blk_drewN ?_ _ | refine blk_drew ?_ | refine blk_alloc ?_ _)); exact BK131.out) hb); have n4_ := Aside0.mk (below_step (by repeat (first | (with_reducible first | exact HB.out | apply below_alloc | apply pw_below_drewN | apply below_drew1 | refine below_set ?_ GE115.out | refine below_set ?_ GE121.out | refine below_set ?_ GE131.out) | exact HB.out)) hb); have n5_ := Aside0.mk (hbox); have n6_ := Aside0.mk ((by rw [hg]; exact (below_size (by repeat (first | (with_reducible first | exact HB.out | apply below_alloc | apply pw_below_drewN | apply below_drew1 | refine below_set ?_ GE115.out | refine below_set ?_ GE121.out | refine below_set ?_ GE131.out) | exact HB.out))) : w.heap.size ≤ gb137)); have n7_ := Aside0.mk ((by rw [hg]; exact (below_size (by repeat (first | (with_reducible first | exact HB.out | apply below_alloc | apply pw_below_drewN | apply below_drew1 | refine below_set ?_ GE115.out | refine below_set ?_ GE121.out | refine below_set ?_ GE131.out) | exact HB.out))) : w.heap.size ≤ gb137)); have n8_ := Aside0.mk ((by rw [hg]; exact Nat.ne_of_lt (blk_lt (g := gb115) (o := .cells #[.int .u64 a3_0, .int .u64 a3_1] 35 (0, 0)) (by (with_reducible repeat (first | refine blk_drewN ?_ _ | refine blk_drew ?_ | refine blk_alloc ?_ _)); exact BK115.out)) : gb115 ≠ gb137)); have n9_ := Aside0.mk ((by rw [hg]; exact Nat.ne_of_gt (blk_lt (g := gb115) (o := .cells #[.int .u64 a3_0, .int .u64 a3_1] 35 (0, 0)) (by (with_reducible repeat (first | refine blk_drewN ?_ _ | refine blk_drew ?_ | refine blk_alloc ?_ _)); exact BK115.out)) : gb137 ≠ gb115)); have n10_ := Aside0.mk ((by rw [hg]; exact Nat.ne_of_lt (blk_lt (g := gb121) (o := .cells #[.int .i64 t116, .int .i64 t117, .int .i64 t118, .int .u64 t119, .int .u64 t120] 37 (0, 0)) (by (with_reducible repeat (first | refine blk_drewN ?_ _ | refine blk_drew ?_ | refine blk_alloc ?_ _)); exact BK121.out)) : gb121 ≠ gb137)); have n11_ := Aside0.mk ((by rw [hg]; exact Nat.ne_of_gt (blk_lt (g := gb121) (o := .cells #[.int .i64 t116, .int .i64 t117, .int .i64 t118, .int .u64 t119, .int .u64 t120] 37 (0, 0)) (by (with_reducible repeat (first | refine blk_drewN ?_ _ | refine blk_drew ?_ | refine blk_alloc ?_ _)); exact BK121.out)) : gb137 ≠ gb121)); have n12_ := Aside0.mk ((by rw [hg]; exact Nat.ne_of_lt (blk_lt (g := gb131) (o := .cells #[.int .i64 t122, .int .i64 t123, .int .i64 t124, .int .i64 t125, .int .i64 t126, .int .i64 t127, .int .i64 t128, .int .i64 t129] 39 (0, 0)) (by (with_reducible repeat (first | refine blk_drewN ?_ _ | refine blk_drew ?_ | refine blk_alloc ?_ _)); exact BK131.out)) : gb131 ≠ gb137)); have n13_ := Aside0.mk ((by rw [hg]; exact Nat.ne_of_gt (blk_lt (g := gb131) (o := .cells #[.int .i64 t122, .int .i64 t123, .int .i64 t124, .int .i64 t125, .int .i64 t126, .int .i64 t127, .int .i64 t128, .int .i64 t129] 39 (0, 0)) (by (with_reducible repeat (first | refine blk_drewN ?_ _ | refine blk_drew ?_ | refine blk_alloc ?_ _)); exact BK131.out)) : gb137 ≠ gb131)); clear HO_47; clear BK115; clear BK121; clear BK131; clear HB; have HO_47 := n0_; have BK115 := n1_; have BK121 := n2_; have BK131 := n3_; have HB := n4_; have BK137 := n5_; have GW137 := n6_; have GE137 := n7_; have NB115_137 := n8_; have NB137_115 := n9_; have NB121_137 := n10_; have NB137_121 := n11_; have NB131_137 := n12_; have NB137_131 := n13_; clear n0_ n1_ n2_ n3_ n4_ n5_ n6_ n7_ n8_ n9_ n10_ n11_ n12_ n13_; clear hb hbox hg; have hnb64 := NB137_115.out; have hnc64 := NB115_137.out; have hnb65 := NB137_121.out; have hnc65 := NB121_137.out; have hnb66 := NB137_131.out; have hnc66 := NB131_137.out; have hcz67_0 : w63.cell? ⟨gb137, 0, none⟩ = some (.int .i64 0) := (blk_cell BK137.out 0).trans rfl; have hcz67_1 : w63.cell? ⟨gb137, 1, none⟩ = some (.int .i64 0) := (blk_cell BK137.out 1).trans rfl; have hfz67_0 := blk_frozen BK137.out 0; have hfz67_1 := blk_frozen BK137.out 1))
                        go_roundg k2
                        case measure => have := HJ7.out; have := HK2.out; omega
                        case rel => exact ⟨(wrap64 (x49_2 + 1)), (by first | rfl | (simp; done) | (simp [*]; done)), H', ⟨by have := HJ7.out; have := HK2.out; omega⟩, ⟨by (with_reducible repeat (first | apply Kd.R_alloc | apply Kd.R_drewN | apply Kd.R_drew)); exact Kd.R_mono (Kd.R_far (p := ⟨gb137, 1, none⟩) (Kd.R_far (p := ⟨gb137, 0, none⟩) (Kd.R_mono HO_47.out (fun k_ hk => (⟨hk, hk.2⟩ : _ ∧ k_ ≠ gb137))) (fun _ hk => hk.2) (.int .i64 ((rd_T23 y133 x49_2).f0))) (fun _ hk => hk.2) (.int .i64 ((rd_T23 y133 x49_2).f1))) (fun _ hk => trivial)⟩, ⟨by (with_reducible repeat (first | refine blk_drewN ?_ _ | refine blk_drew ?_ | refine blk_alloc ?_ _)); refine blk_far ?_ NB115_137.out _; (with_reducible repeat (first | refine blk_drewN ?_ _ | refine blk_drew ?_ | refine blk_alloc ?_ _)); refine blk_far ?_ NB115_137.out _; (with_reducible repeat (first | refine blk_drewN ?_ _ | refine blk_drew ?_ | refine blk_alloc ?_ _)); exact BK115.out⟩, ⟨by (with_reducible repeat (first | refine blk_drewN ?_ _ | refine blk_drew ?_ | refine blk_alloc ?_ _)); refine blk_far ?_ NB121_137.out _; (with_reducible repeat (first | refine blk_drewN ?_ _ | refine blk_drew ?_ | refine blk_alloc ?_ _)); refine blk_far ?_ NB121_137.out _; (with_reducible repeat (first | refine blk_drewN ?_ _ | refine blk_drew ?_ | refine blk_alloc ?_ _)); exact BK121.out⟩, ⟨by (with_reducible repeat (first | refine blk_drewN ?_ _ | refine blk_drew ?_ | refine blk_alloc ?_ _)); refine blk_far ?_ NB131_137.out _; (with_reducible repeat (first | refine blk_drewN ?_ _ | refine blk_drew ?_ | refine blk_alloc ?_ _)); refine blk_far ?_ NB131_137.out _; (with_reducible repeat (first | refine blk_drewN ?_ _ | refine blk_drew ?_ | refine blk_alloc ?_ _)); exact BK131.out⟩, ⟨by repeat (first | (with_reducible first | exact HB.out | apply below_alloc | apply pw_below_drewN | apply below_drew1 | refine below_set ?_ GE115.out | refine below_set ?_ GE121.out | refine below_set ?_ GE131.out | refine below_set ?_ GE137.out) | exact HB.out)⟩⟩
                · rw [if_neg c32] at H
                  exact absurd H (by simp)
              · rw [if_neg c31] at H
                exact absurd H (by simp)
            · rw [if_neg c30] at H
              have c30b0 : decide (x49_2 < (y133.length : Int)) = false := decide_eq_false c30
              clear c30
              by_cases c68 : t122 > t124
              · rw [if_pos c68] at H
                have c68b0 : decide (t124 < t122) = true := decide_eq_true c68
                clear c68
                obtain rfl := Option.some.inj H
                have hnb69 := NB131_115.out
                have hnc69 := NB115_131.out
                have hnb70 := NB131_121.out
                have hnc70 := NB121_131.out
                have hcz71_0 : wr.cell? ⟨gb131, 0, none⟩ = some (.int .i64 t122) := (blk_cell BK131.out 0).trans rfl
                have hcz71_1 : wr.cell? ⟨gb131, 1, none⟩ = some (.int .i64 t123) := (blk_cell BK131.out 1).trans rfl
                have hcz71_2 : wr.cell? ⟨gb131, 2, none⟩ = some (.int .i64 t124) := (blk_cell BK131.out 2).trans rfl
                have hcz71_3 : wr.cell? ⟨gb131, 3, none⟩ = some (.int .i64 t125) := (blk_cell BK131.out 3).trans rfl
                have hcz71_4 : wr.cell? ⟨gb131, 4, none⟩ = some (.int .i64 t126) := (blk_cell BK131.out 4).trans rfl
                have hcz71_5 : wr.cell? ⟨gb131, 5, none⟩ = some (.int .i64 t127) := (blk_cell BK131.out 5).trans rfl
                have hcz71_6 : wr.cell? ⟨gb131, 6, none⟩ = some (.int .i64 t128) := (blk_cell BK131.out 6).trans rfl
                have hcz71_7 : wr.cell? ⟨gb131, 7, none⟩ = some (.int .i64 t129) := (blk_cell BK131.out 7).trans rfl
                have hfz71_0 := blk_frozen BK131.out 0
                have hfz71_1 := blk_frozen BK131.out 1
                have hfz71_2 := blk_frozen BK131.out 2
                have hfz71_3 := blk_frozen BK131.out 3
                have hfz71_4 := blk_frozen BK131.out 4
                have hfz71_5 := blk_frozen BK131.out 5
                have hfz71_6 := blk_frozen BK131.out 6
                have hfz71_7 := blk_frozen BK131.out 7
                go_wp2
                go_ret
                exact ⟨by first | rfl | (simp [errW_none, errW_some] <;> rfl) | (simp [*, errW_none, errW_some] <;> rfl), by repeat (first | (with_reducible first | exact HB.out | apply below_alloc | apply pw_below_drewN | apply below_drew1 | refine below_set ?_ GE115.out | refine below_set ?_ GE121.out | refine below_set ?_ GE131.out) | exact HB.out)⟩
              · rw [if_neg c68] at H
                have c68b0 : decide (t124 < t122) = false := decide_eq_false c68
                clear c68
                by_cases c72 : t123 > t125
                · rw [if_pos c72] at H
                  have c72b0 : decide (t125 < t123) = true := decide_eq_true c72
                  clear c72
                  obtain rfl := Option.some.inj H
                  have hnb73 := NB131_115.out
                  have hnc73 := NB115_131.out
                  have hnb74 := NB131_121.out
                  have hnc74 := NB121_131.out
                  have hcz75_0 : wr.cell? ⟨gb131, 0, none⟩ = some (.int .i64 t122) := (blk_cell BK131.out 0).trans rfl
                  have hcz75_1 : wr.cell? ⟨gb131, 1, none⟩ = some (.int .i64 t123) := (blk_cell BK131.out 1).trans rfl
                  have hcz75_2 : wr.cell? ⟨gb131, 2, none⟩ = some (.int .i64 t124) := (blk_cell BK131.out 2).trans rfl
                  have hcz75_3 : wr.cell? ⟨gb131, 3, none⟩ = some (.int .i64 t125) := (blk_cell BK131.out 3).trans rfl
                  have hcz75_4 : wr.cell? ⟨gb131, 4, none⟩ = some (.int .i64 t126) := (blk_cell BK131.out 4).trans rfl
                  have hcz75_5 : wr.cell? ⟨gb131, 5, none⟩ = some (.int .i64 t127) := (blk_cell BK131.out 5).trans rfl
                  have hcz75_6 : wr.cell? ⟨gb131, 6, none⟩ = some (.int .i64 t128) := (blk_cell BK131.out 6).trans rfl
                  have hcz75_7 : wr.cell? ⟨gb131, 7, none⟩ = some (.int .i64 t129) := (blk_cell BK131.out 7).trans rfl
                  have hfz75_0 := blk_frozen BK131.out 0
                  have hfz75_1 := blk_frozen BK131.out 1
                  have hfz75_2 := blk_frozen BK131.out 2
                  have hfz75_3 := blk_frozen BK131.out 3
                  have hfz75_4 := blk_frozen BK131.out 4
                  have hfz75_5 := blk_frozen BK131.out 5
                  have hfz75_6 := blk_frozen BK131.out 6
                  have hfz75_7 := blk_frozen BK131.out 7
                  go_wp2
                  go_ret
                  exact ⟨by first | rfl | (simp [errW_none, errW_some] <;> rfl) | (simp [*, errW_none, errW_some] <;> rfl), by repeat (first | (with_reducible first | exact HB.out | apply below_alloc | apply pw_below_drewN | apply below_drew1 | refine below_set ?_ GE115.out | refine below_set ?_ GE121.out | refine below_set ?_ GE131.out) | exact HB.out)⟩
                · rw [if_neg c72] at H
                  have c72b0 : decide (t125 < t123) = false := decide_eq_false c72
                  clear c72
                  by_cases c76 : t124 > t126
                  · rw [if_pos c76] at H
                    have c76b0 : decide (t126 < t124) = true := decide_eq_true c76
                    clear c76
                    obtain rfl := Option.some.inj H
                    have hnb77 := NB131_115.out
                    have hnc77 := NB115_131.out
                    have hnb78 := NB131_121.out
                    have hnc78 := NB121_131.out
                    have hcz79_0 : wr.cell? ⟨gb131, 0, none⟩ = some (.int .i64 t122) := (blk_cell BK131.out 0).trans rfl
                    have hcz79_1 : wr.cell? ⟨gb131, 1, none⟩ = some (.int .i64 t123) := (blk_cell BK131.out 1).trans rfl
                    have hcz79_2 : wr.cell? ⟨gb131, 2, none⟩ = some (.int .i64 t124) := (blk_cell BK131.out 2).trans rfl
                    have hcz79_3 : wr.cell? ⟨gb131, 3, none⟩ = some (.int .i64 t125) := (blk_cell BK131.out 3).trans rfl
                    have hcz79_4 : wr.cell? ⟨gb131, 4, none⟩ = some (.int .i64 t126) := (blk_cell BK131.out 4).trans rfl
                    have hcz79_5 : wr.cell? ⟨gb131, 5, none⟩ = some (.int .i64 t127) := (blk_cell BK131.out 5).trans rfl
                    have hcz79_6 : wr.cell? ⟨gb131, 6, none⟩ = some (.int .i64 t128) := (blk_cell BK131.out 6).trans rfl
                    have hcz79_7 : wr.cell? ⟨gb131, 7, none⟩ = some (.int .i64 t129) := (blk_cell BK131.out 7).trans rfl
                    have hfz79_0 := blk_frozen BK131.out 0
                    have hfz79_1 := blk_frozen BK131.out 1
                    have hfz79_2 := blk_frozen BK131.out 2
                    have hfz79_3 := blk_frozen BK131.out 3
                    have hfz79_4 := blk_frozen BK131.out 4
                    have hfz79_5 := blk_frozen BK131.out 5
                    have hfz79_6 := blk_frozen BK131.out 6
                    have hfz79_7 := blk_frozen BK131.out 7
                    go_wp2
                    go_ret
                    exact ⟨by first | rfl | (simp [errW_none, errW_some] <;> rfl) | (simp [*, errW_none, errW_some] <;> rfl), by repeat (first | (with_reducible first | exact HB.out | apply below_alloc | apply pw_below_drewN | apply below_drew1 | refine below_set ?_ GE115.out | refine below_set ?_ GE121.out | refine below_set ?_ GE131.out) | exact HB.out)⟩
                  · rw [if_neg c76] at H
                    have c76b0 : decide (t126 < t124) = false := decide_eq_false c76
                    clear c76
                    by_cases c80 : t125 > t127
                    · rw [if_pos c80] at H
                      have c80b0 : decide (t127 < t125) = true := decide_eq_true c80
                      clear c80
                      obtain rfl := Option.some.inj H
                      have hnb81 := NB131_115.out
                      have hnc81 := NB115_131.out
                      have hnb82 := NB131_121.out
                      have hnc82 := NB121_131.out
                      have hcz83_0 : wr.cell? ⟨gb131, 0, none⟩ = some (.int .i64 t122) := (blk_cell BK131.out 0).trans rfl
                      have hcz83_1 : wr.cell? ⟨gb131, 1, none⟩ = some (.int .i64 t123) := (blk_cell BK131.out 1).trans rfl
                      have hcz83_2 : wr.cell? ⟨gb131, 2, none⟩ = some (.int .i64 t124) := (blk_cell BK131.out 2).trans rfl
                      have hcz83_3 : wr.cell? ⟨gb131, 3, none⟩ = some (.int .i64 t125) := (blk_cell BK131.out 3).trans rfl
                      have hcz83_4 : wr.cell? ⟨gb131, 4, none⟩ = some (.int .i64 t126) := (blk_cell BK131.out 4).trans rfl
                      have hcz83_5 : wr.cell? ⟨gb131, 5, none⟩ = some (.int .i64 t127) := (blk_cell BK131.out 5).trans rfl
                      have hcz83_6 : wr.cell? ⟨gb131, 6, none⟩ = some (.int .i64 t128) := (blk_cell BK131.out 6).trans rfl
                      have hcz83_7 : wr.cell? ⟨gb131, 7, none⟩ = some (.int .i64 t129) := (blk_cell BK131.out 7).trans rfl
                      have hfz83_0 := blk_frozen BK131.out 0
                      have hfz83_1 := blk_frozen BK131.out 1
                      have hfz83_2 := blk_frozen BK131.out 2
                      have hfz83_3 := blk_frozen BK131.out 3
                      have hfz83_4 := blk_frozen BK131.out 4
                      have hfz83_5 := blk_frozen BK131.out 5
                      have hfz83_6 := blk_frozen BK131.out 6
                      have hfz83_7 := blk_frozen BK131.out 7
                      go_wp2
                      go_ret
                      exact ⟨by first | rfl | (simp [errW_none, errW_some] <;> rfl) | (simp [*, errW_none, errW_some] <;> rfl), by repeat (first | (with_reducible first | exact HB.out | apply below_alloc | apply pw_below_drewN | apply below_drew1 | refine below_set ?_ GE115.out | refine below_set ?_ GE121.out | refine below_set ?_ GE131.out) | exact HB.out)⟩
                    · rw [if_neg c80] at H
                      have c80b0 : decide (t127 < t125) = false := decide_eq_false c80
                      clear c80
                      by_cases c84 : (!(t119 == 0) || (!(t120 == 0))) = true
                      · rw [if_pos c84] at H
                        have c84b0 : (!(t119 == 0) || (!(t120 == 0))) = true := c84
                        clear c84
                        obtain rfl := Option.some.inj H
                        have hnb85 := NB131_115.out
                        have hnc85 := NB115_131.out
                        have hnb86 := NB131_121.out
                        have hnc86 := NB121_131.out
                        have hcz87_0 : wr.cell? ⟨gb131, 0, none⟩ = some (.int .i64 t122) := (blk_cell BK131.out 0).trans rfl
                        have hcz87_1 : wr.cell? ⟨gb131, 1, none⟩ = some (.int .i64 t123) := (blk_cell BK131.out 1).trans rfl
                        have hcz87_2 : wr.cell? ⟨gb131, 2, none⟩ = some (.int .i64 t124) := (blk_cell BK131.out 2).trans rfl
                        have hcz87_3 : wr.cell? ⟨gb131, 3, none⟩ = some (.int .i64 t125) := (blk_cell BK131.out 3).trans rfl
                        have hcz87_4 : wr.cell? ⟨gb131, 4, none⟩ = some (.int .i64 t126) := (blk_cell BK131.out 4).trans rfl
                        have hcz87_5 : wr.cell? ⟨gb131, 5, none⟩ = some (.int .i64 t127) := (blk_cell BK131.out 5).trans rfl
                        have hcz87_6 : wr.cell? ⟨gb131, 6, none⟩ = some (.int .i64 t128) := (blk_cell BK131.out 6).trans rfl
                        have hcz87_7 : wr.cell? ⟨gb131, 7, none⟩ = some (.int .i64 t129) := (blk_cell BK131.out 7).trans rfl
                        have hfz87_0 := blk_frozen BK131.out 0
                        have hfz87_1 := blk_frozen BK131.out 1
                        have hfz87_2 := blk_frozen BK131.out 2
                        have hfz87_3 := blk_frozen BK131.out 3
                        have hfz87_4 := blk_frozen BK131.out 4
                        have hfz87_5 := blk_frozen BK131.out 5
                        have hfz87_6 := blk_frozen BK131.out 6
                        have hfz87_7 := blk_frozen BK131.out 7
                        have hnb88 := NB121_115.out
                        have hnc88 := NB115_121.out
                        have hcz89_0 : wr.cell? ⟨gb121, 0, none⟩ = some (.int .i64 t116) := (blk_cell BK121.out 0).trans rfl
                        have hcz89_1 : wr.cell? ⟨gb121, 1, none⟩ = some (.int .i64 t117) := (blk_cell BK121.out 1).trans rfl
                        have hcz89_2 : wr.cell? ⟨gb121, 2, none⟩ = some (.int .i64 t118) := (blk_cell BK121.out 2).trans rfl
                        have hcz89_3 : wr.cell? ⟨gb121, 3, none⟩ = some (.int .u64 t119) := (blk_cell BK121.out 3).trans rfl
                        have hcz89_4 : wr.cell? ⟨gb121, 4, none⟩ = some (.int .u64 t120) := (blk_cell BK121.out 4).trans rfl
                        have hfz89_0 := blk_frozen BK121.out 0
                        have hfz89_1 := blk_frozen BK121.out 1
                        have hfz89_2 := blk_frozen BK121.out 2
                        have hfz89_3 := blk_frozen BK121.out 3
                        have hfz89_4 := blk_frozen BK121.out 4
                        go_wp2
                        go_ret
                        exact ⟨by first | rfl | (simp [errW_none, errW_some] <;> rfl) | (simp [*, errW_none, errW_some] <;> rfl), by repeat (first | (with_reducible first | exact HB.out | apply below_alloc | apply pw_below_drewN | apply below_drew1 | refine below_set ?_ GE115.out | refine below_set ?_ GE121.out | refine below_set ?_ GE131.out) | exact HB.out)⟩
                      · rw [if_neg c84] at H
                        have c84b0 : (!(t119 == 0) || (!(t120 == 0))) = false := by simpa using c84
                        clear c84
                        by_cases c90 : (t122 == t124 && (t123 == t125)) = true
                        · rw [if_pos c90] at H
                          have c90b0 : (t122 == t124 && (t123 == t125)) = true := c90
                          (try (have c90b1 : decide (t122 = t124 && (t123 == t125)) = true := by simpa using c90))
                          (try (have c90b2 : (t122 == t124 && (t123 == t125)) = true := by simpa using c90))
                          clear c90
                          obtain rfl := Option.some.inj H
                          have hnb91 := NB131_115.out
                          have hnc91 := NB115_131.out
                          have hnb92 := NB131_121.out
                          have hnc92 := NB121_131.out
                          have hcz93_0 : wr.cell? ⟨gb131, 0, none⟩ = some (.int .i64 t122) := (blk_cell BK131.out 0).trans rfl
                          have hcz93_1 : wr.cell? ⟨gb131, 1, none⟩ = some (.int .i64 t123) := (blk_cell BK131.out 1).trans rfl
                          have hcz93_2 : wr.cell? ⟨gb131, 2, none⟩ = some (.int .i64 t124) := (blk_cell BK131.out 2).trans rfl
                          have hcz93_3 : wr.cell? ⟨gb131, 3, none⟩ = some (.int .i64 t125) := (blk_cell BK131.out 3).trans rfl
                          have hcz93_4 : wr.cell? ⟨gb131, 4, none⟩ = some (.int .i64 t126) := (blk_cell BK131.out 4).trans rfl
                          have hcz93_5 : wr.cell? ⟨gb131, 5, none⟩ = some (.int .i64 t127) := (blk_cell BK131.out 5).trans rfl
                          have hcz93_6 : wr.cell? ⟨gb131, 6, none⟩ = some (.int .i64 t128) := (blk_cell BK131.out 6).trans rfl
                          have hcz93_7 : wr.cell? ⟨gb131, 7, none⟩ = some (.int .i64 t129) := (blk_cell BK131.out 7).trans rfl
                          have hfz93_0 := blk_frozen BK131.out 0
                          have hfz93_1 := blk_frozen BK131.out 1
                          have hfz93_2 := blk_frozen BK131.out 2
                          have hfz93_3 := blk_frozen BK131.out 3
                          have hfz93_4 := blk_frozen BK131.out 4
                          have hfz93_5 := blk_frozen BK131.out 5
                          have hfz93_6 := blk_frozen BK131.out 6
                          have hfz93_7 := blk_frozen BK131.out 7
                          have hnb94 := NB121_115.out
                          have hnc94 := NB115_121.out
                          have hcz95_0 : wr.cell? ⟨gb121, 0, none⟩ = some (.int .i64 t116) := (blk_cell BK121.out 0).trans rfl
                          have hcz95_1 : wr.cell? ⟨gb121, 1, none⟩ = some (.int .i64 t117) := (blk_cell BK121.out 1).trans rfl
                          have hcz95_2 : wr.cell? ⟨gb121, 2, none⟩ = some (.int .i64 t118) := (blk_cell BK121.out 2).trans rfl
                          have hcz95_3 : wr.cell? ⟨gb121, 3, none⟩ = some (.int .u64 t119) := (blk_cell BK121.out 3).trans rfl
                          have hcz95_4 : wr.cell? ⟨gb121, 4, none⟩ = some (.int .u64 t120) := (blk_cell BK121.out 4).trans rfl
                          have hfz95_0 := blk_frozen BK121.out 0
                          have hfz95_1 := blk_frozen BK121.out 1
                          have hfz95_2 := blk_frozen BK121.out 2
                          have hfz95_3 := blk_frozen BK121.out 3
                          have hfz95_4 := blk_frozen BK121.out 4
                          go_wp2
                          go_ret
                          exact ⟨by first | rfl | (simp [errW_none, errW_some] <;> rfl) | (simp [*, errW_none, errW_some] <;> rfl), by repeat (first | (with_reducible first | exact HB.out | apply below_alloc | apply pw_below_drewN | apply below_drew1 | refine below_set ?_ GE115.out | refine below_set ?_ GE121.out | refine below_set ?_ GE131.out) | exact HB.out)⟩
                        · rw [if_neg c90] at H
                          have c90b0 : (t122 == t124 && (t123 == t125)) = false := by simpa using c90
                          (try (have c90b1 : decide (t122 = t124 && (t123 == t125)) = false := by simpa using c90))
                          (try (have c90b2 : (t122 == t124 && (t123 == t125)) = false := by simpa using c90))
                          (try (have c90b3 : ¬ (t122 = t124 && (t123 == t125)) := by simpa using c90))
                          clear c90
                          obtain rfl := Option.some.inj H
                          have hnb96 := NB131_115.out
                          have hnc96 := NB115_131.out
                          have hnb97 := NB131_121.out
                          have hnc97 := NB121_131.out
                          have hcz98_0 : wr.cell? ⟨gb131, 0, none⟩ = some (.int .i64 t122) := (blk_cell BK131.out 0).trans rfl
                          have hcz98_1 : wr.cell? ⟨gb131, 1, none⟩ = some (.int .i64 t123) := (blk_cell BK131.out 1).trans rfl
                          have hcz98_2 : wr.cell? ⟨gb131, 2, none⟩ = some (.int .i64 t124) := (blk_cell BK131.out 2).trans rfl
                          have hcz98_3 : wr.cell? ⟨gb131, 3, none⟩ = some (.int .i64 t125) := (blk_cell BK131.out 3).trans rfl
                          have hcz98_4 : wr.cell? ⟨gb131, 4, none⟩ = some (.int .i64 t126) := (blk_cell BK131.out 4).trans rfl
                          have hcz98_5 : wr.cell? ⟨gb131, 5, none⟩ = some (.int .i64 t127) := (blk_cell BK131.out 5).trans rfl
                          have hcz98_6 : wr.cell? ⟨gb131, 6, none⟩ = some (.int .i64 t128) := (blk_cell BK131.out 6).trans rfl
                          have hcz98_7 : wr.cell? ⟨gb131, 7, none⟩ = some (.int .i64 t129) := (blk_cell BK131.out 7).trans rfl
                          have hfz98_0 := blk_frozen BK131.out 0
                          have hfz98_1 := blk_frozen BK131.out 1
                          have hfz98_2 := blk_frozen BK131.out 2
                          have hfz98_3 := blk_frozen BK131.out 3
                          have hfz98_4 := blk_frozen BK131.out 4
                          have hfz98_5 := blk_frozen BK131.out 5
                          have hfz98_6 := blk_frozen BK131.out 6
                          have hfz98_7 := blk_frozen BK131.out 7
                          have hnb99 := NB121_115.out
                          have hnc99 := NB115_121.out
                          have hcz100_0 : wr.cell? ⟨gb121, 0, none⟩ = some (.int .i64 t116) := (blk_cell BK121.out 0).trans rfl
                          have hcz100_1 : wr.cell? ⟨gb121, 1, none⟩ = some (.int .i64 t117) := (blk_cell BK121.out 1).trans rfl
                          have hcz100_2 : wr.cell? ⟨gb121, 2, none⟩ = some (.int .i64 t118) := (blk_cell BK121.out 2).trans rfl
                          have hcz100_3 : wr.cell? ⟨gb121, 3, none⟩ = some (.int .u64 t119) := (blk_cell BK121.out 3).trans rfl
                          have hcz100_4 : wr.cell? ⟨gb121, 4, none⟩ = some (.int .u64 t120) := (blk_cell BK121.out 4).trans rfl
                          have hfz100_0 := blk_frozen BK121.out 0
                          have hfz100_1 := blk_frozen BK121.out 1
                          have hfz100_2 := blk_frozen BK121.out 2
                          have hfz100_3 := blk_frozen BK121.out 3
                          have hfz100_4 := blk_frozen BK121.out 4
                          go_wp2
                          go_ret
                          exact ⟨by first | rfl | (simp [errW_none, errW_some] <;> rfl) | (simp [*, errW_none, errW_some] <;> rfl), by repeat (first | (with_reducible first | exact HB.out | apply below_alloc | apply pw_below_drewN | apply below_drew1 | refine below_set ?_ GE115.out | refine below_set ?_ GE121.out | refine below_set ?_ GE131.out) | exact HB.out)⟩

/-- THE ONE PURE STATEMENT of datumlaw17_LimitNarrow: yours. -/
def datumlaw17_LimitNarrow.Pure : Prop := ∀ (a0 : Int) (a1 : Int) (a2 : Int) (a3_0 : Int) (a3_1 : Int) (a4 : Int), (Lit.int .i64 a0).wf = true → (Lit.int .i64 a1).wf = true → (Lit.int .i64 a2).wf = true → (Lit.int .u64 a3_0).wf = true → (Lit.int .u64 a3_1).wf = true → (Lit.int .i64 a4).wf = true → ∃ k, datumlaw17_LimitNarrow.f k a0 a1 a2 a3_0 a3_1 a4 = some true
theorem datumlaw17_LimitNarrow.walk (P : datumlaw17_LimitNarrow.Pure) (a0 : Int) (a1 : Int) (a2 : Int) (a3_0 : Int) (a3_1 : Int) (a4 : Int) (w : World) (w0 : (Lit.int .i64 a0).wf = true) (w1 : (Lit.int .i64 a1).wf = true) (w2 : (Lit.int .i64 a2).wf = true) (w3_0 : (Lit.int .u64 a3_0).wf = true) (w3_1 : (Lit.int .u64 a3_1).wf = true) (w4 : (Lit.int .i64 a4).wf = true) :
    Calls Try.prog 6 #[.int .i64 a0, .int .i64 a1, .int .i64 a2, .agg #[.int .u64 a3_0, .int .u64 a3_1], .int .i64 a4] w fun e w' => e = .returned (.bool true) ∧ Below w.heap.size w w' := by
  obtain ⟨k, h⟩ := P a0 a1 a2 a3_0 a3_1 a4 w0 w1 w2 w3_0 w3_1 w4
  refine (datumlaw17_LimitNarrow.calls k a0 a1 a2 a3_0 a3_1 a4 true w h).mono ?_
  rintro e w' ⟨rfl, hd⟩
  exact ⟨rfl, hd⟩

/-! ### datumlaw17_beyond: function 31 -/
def datumlaw17_beyond.f (a0 : Int) (a1_0 : Int) (a1_1 : Int) (a2 : Int) : Option (Bool) := (wide_Times.f a1_0 a1_1 0 (IntKind.u64.wrap ((IntKind.u64.wrap (9 * a2)) * a2))).bind fun bt139 => ((wide_Mul.f a0 a0).bind fun bt143 => ((wide_Less.f bt139.1 bt139.2.1 bt143.1 bt143.2).bind fun t145 => (some t145)))
set_option maxHeartbeats 8000000 in
set_option maxRecDepth 100000 in
theorem datumlaw17_beyond.calls (a0 : Int) (a1_0 : Int) (a1_1 : Int) (a2 : Int) (r : Bool) (w : World) (h : datumlaw17_beyond.f a0 a1_0 a1_1 a2 = some r) :
    Calls Try.prog 31 #[.int .u64 a0, .agg #[.int .u64 a1_0, .int .u64 a1_1], .int .u64 a2] w fun e w' => e = .returned (.bool r) ∧ Below w.heap.size w w' := by
  have hu35 := Try.underlying35
  have HB := Aside0.mk (Below.refl w.heap.size w)
  have H : ((wide_Times.f a1_0 a1_1 0 (IntKind.u64.wrap ((IntKind.u64.wrap (9 * a2)) * a2))).bind fun bt139 => ((wide_Mul.f a0 a0).bind fun bt143 => ((wide_Less.f bt139.1 bt139.2.1 bt143.1 bt143.2).bind fun t145 => (some t145)))) = some r := h
  clear h
  replace H := Option.bind_eq_some_iff.mp H
  obtain ⟨⟨t139, t140, t141⟩, A40, H⟩ := H
  replace H : ((wide_Mul.f a0 a0).bind fun bt143 => ((wide_Less.f t139 t140 bt143.1 bt143.2).bind fun t145 => (some t145))) = some r := H
  have A4 := Aside0.mk A40
  clear A40
  replace H := Option.bind_eq_some_iff.mp H
  obtain ⟨⟨t143, t144⟩, A50, H⟩ := H
  replace H : ((wide_Less.f t139 t140 t143 t144).bind fun t145 => (some t145)) = some r := H
  have A5 := Aside0.mk A50
  clear A50
  replace H := Option.bind_eq_some_iff.mp H
  obtain ⟨t145, A60, H⟩ := H
  replace H : (some t145) = some r := H
  have A6 := Aside0.mk A60
  clear A60
  obtain rfl := Option.some.inj H
  go_enter Try.func31, Try.ntmps31
  try go_wp2_with (first | ((with_reducible refine gate_dst (N := 4) rfl ?_); refine box_event ?hg (N := 4) ?hd (cs := #[.int .u64 a1_0, .int .u64 a1_1]) (t := 35) ?hr ?_; (case hd => rfl); (case hg => rfl); (case hr => first | (go_simp; done) | (go_simp; rfl)); intro gb138 hg w7 hbox hb; have n0_ := Aside0.mk (below_step (by repeat (first | (with_reducible first | exact HB.out | apply below_alloc | apply pw_below_drewN | apply below_drew1) | exact HB.out)) hb); have n1_ := Aside0.mk (hbox); have n2_ := Aside0.mk ((by rw [hg]; exact (below_size (by repeat (first | (with_reducible first | exact HB.out | apply below_alloc | apply pw_below_drewN | apply below_drew1) | exact HB.out))) : w.heap.size ≤ gb138)); have n3_ := Aside0.mk ((by rw [hg]; exact (below_size (by repeat (first | (with_reducible first | exact HB.out | apply below_alloc | apply pw_below_drewN | apply below_drew1) | exact HB.out))) : w.heap.size ≤ gb138)); clear HB; have HB := n0_; have BK138 := n1_; have GW138 := n2_; have GE138 := n3_; clear n0_ n1_ n2_ n3_; clear hb hbox hg; have hcz8_0 : w7.cell? ⟨gb138, 0, none⟩ = some (.int .u64 a1_0) := (blk_cell BK138.out 0).trans rfl; have hcz8_1 : w7.cell? ⟨gb138, 1, none⟩ = some (.int .u64 a1_1) := (blk_cell BK138.out 1).trans rfl; have hfz8_0 := blk_frozen BK138.out 0; have hfz8_1 := blk_frozen BK138.out 1) | ((with_reducible refine gate_callee (f := 51) rfl ?_); refine goesL_ (some 16) rfl rfl Try.func51 (by kernel_rfl) rfl #[.agg #[.int .u64 a1_0, .int .u64 a1_1], .agg #[.int .u64 0, .int .u64 (IntKind.u64.wrap ((IntKind.u64.wrap (9 * a2)) * a2))]] rfl (by (try simp only [List.map_toArray, List.map_cons, List.map_nil]); first | done | rfl | (simp only [List.length_drop, List.length_take]; rfl)) ?_; (with_reducible refine (wide_Times.calls a1_0 a1_1 0 (IntKind.u64.wrap ((IntKind.u64.wrap (9 * a2)) * a2)) t139 t140 t141 _ A4.out).mono ?_); rintro e w9 ⟨rfl, hb⟩; refine ⟨_, rfl, ?_⟩; have n0_ := Aside0.mk (blk_below (g := gb138) (o := .cells #[.int .u64 a1_0, .int .u64 a1_1] 35 (0, 0)) (by (with_reducible repeat (first | refine blk_drewN ?_ _ | refine blk_drew ?_ | refine blk_alloc ?_ _)); exact BK138.out) hb); have n1_ := Aside0.mk (below_step (by repeat (first | (with_reducible first | exact HB.out | apply below_alloc | apply pw_below_drewN | apply below_drew1 | refine below_set ?_ GE138.out) | exact HB.out)) hb); clear BK138; clear HB; have BK138 := n0_; have HB := n1_; clear n0_ n1_; (try clear hb); (try clear hb2); (try clear hk); (try clear hi)) | ((with_reducible refine gate_dst (N := 7) rfl ?_); refine box_event ?hg (N := 7) ?hd (cs := #[.int .u64 0, .int .u64 0]) (t := 35) ?hr ?_; (case hd => rfl); (case hg => rfl); (case hr => first | (go_simp; done) | (go_simp; rfl)); intro gb142 hg w10 hbox hb; have n0_ := Aside0.mk (blk_below (g := gb138) (o := .cells #[.int .u64 a1_0, .int .u64 a1_1] 35 (0, 0)) (by (with_reducible repeat (first | refine blk_drewN ?_ _ | refine blk_drew ?_ | refine blk_alloc ?_ _)); exact BK138.out) hb); have n1_ := Aside0.mk (below_step (by repeat (first | (with_reducible first | exact HB.out | apply below_alloc | apply pw_below_drewN | apply below_drew1 | refine below_set ?_ GE138.out) | exact HB.out)) hb); have n2_ := Aside0.mk (hbox); have n3_ := Aside0.mk ((by rw [hg]; exact (below_size (by repeat (first | (with_reducible first | exact HB.out | apply below_alloc | apply pw_below_drewN | apply below_drew1 | refine below_set ?_ GE138.out) | exact HB.out))) : w.heap.size ≤ gb142)); have n4_ := Aside0.mk ((by rw [hg]; exact (below_size (by repeat (first | (with_reducible first | exact HB.out | apply below_alloc | apply pw_below_drewN | apply below_drew1 | refine below_set ?_ GE138.out) | exact HB.out))) : w.heap.size ≤ gb142)); have n5_ := Aside0.mk ((by rw [hg]; exact Nat.ne_of_lt (blk_lt (g := gb138) (o := .cells #[.int .u64 a1_0, .int .u64 a1_1] 35 (0, 0)) (by (with_reducible repeat (first | refine blk_drewN ?_ _ | refine blk_drew ?_ | refine blk_alloc ?_ _)); exact BK138.out)) : gb138 ≠ gb142)); have n6_ := Aside0.mk ((by rw [hg]; exact Nat.ne_of_gt (blk_lt (g := gb138) (o := .cells #[.int .u64 a1_0, .int .u64 a1_1] 35 (0, 0)) (by (with_reducible repeat (first | refine blk_drewN ?_ _ | refine blk_drew ?_ | refine blk_alloc ?_ _)); exact BK138.out)) : gb142 ≠ gb138)); clear BK138; clear HB; have BK138 := n0_; have HB := n1_; have BK142 := n2_; have GW142 := n3_; have GE142 := n4_; have NB138_142 := n5_; have NB142_138 := n6_; clear n0_ n1_ n2_ n3_ n4_ n5_ n6_; clear hb hbox hg; have hnb11 := NB142_138.out; have hnc11 := NB138_142.out; have hcz12_0 : w10.cell? ⟨gb142, 0, none⟩ = some (.int .u64 0) := (blk_cell BK142.out 0).trans rfl; have hcz12_1 : w10.cell? ⟨gb142, 1, none⟩ = some (.int .u64 0) := (blk_cell BK142.out 1).trans rfl; have hfz12_0 := blk_frozen BK142.out 0; have hfz12_1 := blk_frozen BK142.out 1))
  have n0_ : Aside0 (((w10.setCell ⟨gb142, 0, none⟩ (.int .u64 t139)).setCell ⟨gb142, 1, none⟩ (.int .u64 t140)).heap[gb138]? = some (.cells #[.int .u64 a1_0, .int .u64 a1_1] 35 (0, 0))) := ⟨by (with_reducible repeat (first | refine blk_drewN ?_ _ | refine blk_drew ?_ | refine blk_alloc ?_ _)); refine blk_far ?_ NB138_142.out _; (with_reducible repeat (first | refine blk_drewN ?_ _ | refine blk_drew ?_ | refine blk_alloc ?_ _)); refine blk_far ?_ NB138_142.out _; (with_reducible repeat (first | refine blk_drewN ?_ _ | refine blk_drew ?_ | refine blk_alloc ?_ _)); exact BK138.out⟩
  have n1_ : Aside0 (((w10.setCell ⟨gb142, 0, none⟩ (.int .u64 t139)).setCell ⟨gb142, 1, none⟩ (.int .u64 t140)).heap[gb142]? = some (.cells #[.int .u64 t139, .int .u64 t140] 35 (0, 0))) := ⟨by (with_reducible repeat (first | refine blk_drewN ?_ _ | refine blk_drew ?_ | refine blk_alloc ?_ _)); refine blk_put (cs := #[.int .u64 t139, .int .u64 0]) ?_ 1 _ rfl; (with_reducible repeat (first | refine blk_drewN ?_ _ | refine blk_drew ?_ | refine blk_alloc ?_ _)); refine blk_put (cs := #[.int .u64 0, .int .u64 0]) ?_ 0 _ rfl; (with_reducible repeat (first | refine blk_drewN ?_ _ | refine blk_drew ?_ | refine blk_alloc ?_ _)); exact BK142.out⟩
  have n2_ : Aside0 (Below w.heap.size w ((w10.setCell ⟨gb142, 0, none⟩ (.int .u64 t139)).setCell ⟨gb142, 1, none⟩ (.int .u64 t140))) := ⟨by repeat (first | (with_reducible first | exact HB.out | apply below_alloc | apply pw_below_drewN | apply below_drew1 | refine below_set ?_ GE138.out | refine below_set ?_ GE142.out) | exact HB.out)⟩
  (try clear BK138)
  (try clear BK142)
  (try clear HB)
  generalize ((w10.setCell ⟨gb142, 0, none⟩ (.int .u64 t139)).setCell ⟨gb142, 1, none⟩ (.int .u64 t140)) = w13 at n0_ n1_ n2_ ⊢
  have BK138 := n0_
  have BK142 := n1_
  have HB := n2_
  clear n0_ n1_ n2_
  have n0_ := Aside0.mk (blk_drew BK138.out)
  have n1_ := Aside0.mk (blk_drew BK142.out)
  have n2_ := Aside0.mk (below_drew1 HB.out)
  clear BK138
  clear BK142
  clear HB
  have BK138 := n0_
  have BK142 := n1_
  have HB := n2_
  clear n0_ n1_ n2_
  refine start_ (n := 6) (S := fun w' => w'.cell? ⟨gb142, 0, none⟩ = some (.int .u64 t139) ∧ w'.cell? ⟨gb142, 1, none⟩ = some (.int .u64 t140)) (ds := []) #[false, false, false, false, false, false] (by kernel_rfl) rfl rfl ⟨(blk_cell BK142.out 0).trans rfl, (blk_cell BK142.out 1).trans rfl⟩ (fun hHeld => ?_)
  generalize w13.drew = w14 at BK138 BK142 HB hHeld ⊢
  refine pure_ (i := 1) (N := some 20) (v := ?_) (a' := ?_) #[false, true, false, false, false, false] rfl rfl (by kernel_rfl) (fun _ _ _ h => h) (Or.inl ⟨by rfl, ?_⟩) ?_ ?_
  rotate_left
  · intro w'
    go_simp
    with_reducible rfl
  rotate_left
  · simp only [Act.put, List.setIfInBounds_toArray, List.set_cons_zero, List.set_cons_succ, i64_w, i32_w]
    rfl
  refine pure_ (i := 2) (N := some 21) (v := ?_) (a' := ?_) #[false, true, true, false, false, false] rfl rfl (by kernel_rfl) (fun _ _ _ h => h) (Or.inl ⟨by rfl, ?_⟩) ?_ ?_
  rotate_left
  · intro w'
    go_simp
    with_reducible rfl
  rotate_left
  · simp only [Act.put, List.setIfInBounds_toArray, List.set_cons_zero, List.set_cons_succ, i64_w, i32_w]
    rfl
  refine take_ (i := 0) (N := some 19) (v := ?_) (a' := ?_) #[true, true, true, false, false, false] rfl rfl (by kernel_rfl) (fun _ _ _ h => h) (Or.inl ⟨by rfl, ?_⟩) hHeld ?_ ?_
  rotate_left
  · rintro w' ⟨s0, s1⟩
    go_simp
    with_reducible rfl
  rotate_left
  · simp only [Act.put, List.setIfInBounds_toArray, List.set_cons_zero, List.set_cons_succ, i64_w, i32_w]
    rfl
  refine one_ (i := 3) (N := some 22) #[true, true, true, true, false, false] rfl rfl (by kernel_rfl) (by decide) (fun K hK => ?_)
  refine goes_ Try.func49 (by kernel_rfl) rfl #[.int .u64 a0, .int .u64 a0] (by rfl) rfl rfl (by (try simp only [List.map_toArray, List.map_cons, List.map_nil]); first | done | rfl | (simp only [List.length_drop, List.length_take]; rfl)) ?_
  with_reducible refine (wide_Mul.calls a0 a0 t143 t144 _ A5.out).mono ?_
  rintro e w15 ⟨rfl, hb⟩
  refine ⟨_, rfl, ?_⟩
  have n0_ := Aside0.mk (blk_below (g := gb138) (o := .cells #[.int .u64 a1_0, .int .u64 a1_1] 35 (0, 0)) (by (with_reducible repeat (first | refine blk_drewN ?_ _ | refine blk_drew ?_ | refine blk_alloc ?_ _)); exact BK138.out) hb)
  have n1_ := Aside0.mk (blk_below (g := gb142) (o := .cells #[.int .u64 t139, .int .u64 t140] 35 (0, 0)) (by (with_reducible repeat (first | refine blk_drewN ?_ _ | refine blk_drew ?_ | refine blk_alloc ?_ _)); exact BK142.out) hb)
  have n2_ := Aside0.mk (below_step (by repeat (first | (with_reducible first | exact HB.out | apply below_alloc | apply pw_below_drewN | apply below_drew1 | refine below_set ?_ GE138.out | refine below_set ?_ GE142.out) | exact HB.out)) hb)
  clear BK138
  clear BK142
  clear HB
  have BK138 := n0_
  have BK142 := n1_
  have HB := n2_
  clear n0_ n1_ n2_
  (try clear hb)
  (try clear hb2)
  (try clear hk)
  (try clear hi)
  refine hK.out _ _ ⟨(blk_cell BK142.out 0).trans rfl, (blk_cell BK142.out 1).trans rfl⟩ (fun hHeld => ?_)
  clear hK K
  refine norm_ (a' := ?_) ?_ ?_
  rotate_left
  · show Act.put _ (some 22) _ = _
    simp only [Act.put, List.setIfInBounds_toArray, List.set_cons_zero, List.set_cons_succ, i64_w, i32_w]
    rfl
  refine one_ (i := 4) (N := some 23) #[true, true, true, true, true, false] rfl rfl (by kernel_rfl) (by decide) (fun K hK => ?_)
  refine goes_ Try.func50 (by kernel_rfl) rfl #[.agg #[.int .u64 t139, .int .u64 t140], .agg #[.int .u64 t143, .int .u64 t144]] (by rfl) rfl rfl (by (try simp only [List.map_toArray, List.map_cons, List.map_nil]); first | done | rfl | (simp only [List.length_drop, List.length_take]; rfl)) ?_
  with_reducible refine (wide_Less.calls t139 t140 t143 t144 t145 _ A6.out).mono ?_
  rintro e w16 ⟨rfl, hb⟩
  refine ⟨_, rfl, ?_⟩
  have n0_ := Aside0.mk (blk_below (g := gb138) (o := .cells #[.int .u64 a1_0, .int .u64 a1_1] 35 (0, 0)) (by (with_reducible repeat (first | refine blk_drewN ?_ _ | refine blk_drew ?_ | refine blk_alloc ?_ _)); exact BK138.out) hb)
  have n1_ := Aside0.mk (blk_below (g := gb142) (o := .cells #[.int .u64 t139, .int .u64 t140] 35 (0, 0)) (by (with_reducible repeat (first | refine blk_drewN ?_ _ | refine blk_drew ?_ | refine blk_alloc ?_ _)); exact BK142.out) hb)
  have n2_ := Aside0.mk (below_step (by repeat (first | (with_reducible first | exact HB.out | apply below_alloc | apply pw_below_drewN | apply below_drew1 | refine below_set ?_ GE138.out | refine below_set ?_ GE142.out) | exact HB.out)) hb)
  clear BK138
  clear BK142
  clear HB
  have BK138 := n0_
  have BK142 := n1_
  have HB := n2_
  clear n0_ n1_ n2_
  (try clear hb)
  (try clear hb2)
  (try clear hk)
  (try clear hi)
  refine hK.out _ _ ⟨(blk_cell BK142.out 0).trans rfl, (blk_cell BK142.out 1).trans rfl⟩ (fun hHeld => ?_)
  clear hK K
  refine norm_ (a' := ?_) ?_ ?_
  rotate_left
  · show Act.put _ (some 23) _ = _
    simp only [Act.put, List.setIfInBounds_toArray, List.set_cons_zero, List.set_cons_succ, i64_w, i32_w]
    rfl
  refine pure_ (i := 5) (N := some 6) (v := ?_) (a' := ?_) #[true, true, true, true, true, true] rfl rfl (by kernel_rfl) (fun _ _ _ h => h) (Or.inl ⟨by rfl, ?_⟩) ?_ ?_
  rotate_left
  · intro w'
    go_simp
    with_reducible rfl
  rotate_left
  · simp only [Act.put, List.setIfInBounds_toArray, List.set_cons_zero, List.set_cons_succ, i64_w, i32_w]
    rfl
  refine done_ (by kernel_rfl) ?_
  try go_wp2
  go_ret
  exact ⟨by first | rfl | (simp [errW_none, errW_some] <;> rfl) | (simp [*, errW_none, errW_some] <;> rfl), by repeat (first | (with_reducible first | exact HB.out | apply below_alloc | apply pw_below_drewN | apply below_drew1 | refine below_set ?_ GE138.out | refine below_set ?_ GE142.out) | exact HB.out)⟩

end Go.Proofs.Ytkdfkpalgejkkaa.Pf
/-
  limit: plain numbers. How lines lie, and what a verdict says.
-/
set_option linter.unusedSimpArgs false
namespace Go.Proofs.Ytkdfkpalgejkkaa
open Go.RowKit

theorem wf_int {a : Int} (h : (Lit.int .i64 a).wf = true) : IsInt a := by
  have e1 : IntKind.i64.min = -9223372036854775808 := by decide
  have e2 : IntKind.i64.max = 9223372036854775807 := by decide
  unfold IsInt
  simp [Lit.wf, e1, e2] at h
  omega
theorem wf_word {a : Int} (h : (Lit.int .u64 a).wf = true) : Word a := by
  have e1 : IntKind.u64.min = 0 := by decide
  have e2 : IntKind.u64.max = 18446744073709551615 := by decide
  unfold Word
  simp [Lit.wf, e1, e2] at h
  omega
theorem tmod_bound (a : Int) {m : Int} (hm : 0 < m) : -m < Int.tmod a m ∧ Int.tmod a m < m := by
  constructor
  · have := Int.lt_tmod_of_pos a hm
    omega
  · exact Int.tmod_lt_of_pos a hm
/-- A number from 1 to m out of any one. -/
theorem one_to {a m : Int} (hm : 0 < m) (hm2 : m ≤ 1000000000000000) : 1 ≤ wrap64 (1 + Int.tmod (wrap64 (Int.tmod a m + m)) m) ∧ wrap64 (1 + Int.tmod (wrap64 (Int.tmod a m + m)) m) ≤ m := by
  obtain ⟨h1, h2⟩ := tmod_bound a hm
  have e : wrap64 (Int.tmod a m + m) = Int.tmod a m + m := by unfold wrap64; omega
  rw [e]
  obtain ⟨h3, h4⟩ := tmod_bound (Int.tmod a m + m) hm
  have h5 : 0 ≤ Int.tmod (Int.tmod a m + m) m := Int.tmod_nonneg _ (by omega)
  have e2 : wrap64 (1 + Int.tmod (Int.tmod a m + m) m) = 1 + Int.tmod (Int.tmod a m + m) m := by unfold wrap64; omega
  rw [e2]
  omega

theorem fl_succ {x d : Int} (hd : 1 ≤ d) : fl (x + 1) d ≤ fl x d + 1 := by
  have h := lt_fl_mul (p := x) (c := d) (by omega)
  have h2 : ¬ fl x d + 2 ≤ fl (x + 1) d := fun k => by
    have := (le_fl (p := x + 1) (c := d) (by omega)).1 k
    have e : (fl x d + 2) * d = (fl x d + 1) * d + d := by grind
    omega
  omega
theorem cl_pred {x d : Int} (hd : 1 ≤ d) : cl x d ≤ cl (x - 1) d + 1 := by
  have h := le_cl_mul (p := x - 1) (c := d) (by omega)
  refine (cl_le (by omega)).2 ?_
  have e : (cl (x - 1) d + 1) * d = cl (x - 1) d * d + d := by grind
  omega

section
variable {d mid r u : Int} (hd : 1 ≤ d) (hru : r ≤ u) (hur : u ≤ r + 1)
include hd hru hur
theorem low_wide : fl (mid - u) d ≤ cl (mid - r) d ∧ cl (mid - r) d - fl (mid - u) d ≤ 2 := by
  have h1 := cl_le_fl (p := mid - r) (c := d) (by omega)
  have h2 : fl (mid - r) d ≤ fl (mid - u + 1) d := fl_mono (by omega) (by omega)
  have h3 := fl_succ (x := mid - u) hd
  have h4 : fl (mid - u) d ≤ fl (mid - r) d := fl_mono (by omega) (by omega)
  have h5 := fl_le_cl (p := mid - r) (c := d) (by omega)
  omega
theorem high_wide : fl (mid + r) d ≤ cl (mid + u) d ∧ cl (mid + u) d - fl (mid + r) d ≤ 2 := by
  have h1 := cl_le_fl (p := mid + u) (c := d) (by omega)
  have h2 : fl (mid + u) d ≤ fl (mid + r + 1) d := fl_mono (by omega) (by omega)
  have h3 := fl_succ (x := mid + r) hd
  have h4 : fl (mid + r) d ≤ fl (mid + u) d := fl_mono (by omega) (by omega)
  have h5 := fl_le_cl (p := mid + u) (c := d) (by omega)
  omega
end
theorem one_wide {x d : Int} (hd : 1 ≤ d) : fl x d ≤ cl x d ∧ cl x d - fl x d ≤ 1 := by
  have h1 := cl_le_fl (p := x) (c := d) (by omega)
  have h5 := fl_le_cl (p := x) (c := d) (by omega)
  omega

/-- The verdict of a value that is D beyond the middle. -/
def verd (mid D d r u : Int) : Int := told (fl (mid - u) d) (cl (mid - r) d) (fl (mid + r) d) (cl (mid + u) d) (fl (mid + D) d) (cl (mid + D) d)
theorem verd_cases (mid D d r u : Int) : verd mid D d r u = 0 ∨ verd mid D d r u = 1 ∨ verd mid D d r u = 2 := by
  unfold verd told
  split
  · exact .inr (.inl rfl)
  · split
    · exact .inr (.inr rfl)
    · exact .inl rfl
theorem verd_out {d mid D r u : Int} (hd : 1 ≤ d) (hr0 : 0 ≤ r) (hru : r ≤ u) (h : verd mid D d r u = 1) : u * u < D * D := by
  unfold verd told at h
  have hd0 : (0 : Int) < d := by omega
  split at h
  · rename_i hh
    rcases hh with hh | hh
    · have h1 := le_cl_mul (p := mid + u) hd0
      have h2 := fl_mul_le (p := mid + D) hd0
      have h3 : cl (mid + u) d * d ≤ (fl (mid + D) d) * d := Int.mul_le_mul_of_nonneg_right (by omega) (by omega)
      have h4 : (cl (mid + u) d + 1) * d ≤ (fl (mid + D) d) * d := Int.mul_le_mul_of_nonneg_right (by omega) (by omega)
      have e : (cl (mid + u) d + 1) * d = cl (mid + u) d * d + d := by grind
      exact sq_lt_sq (by omega) (by omega)
    · have h1 := le_cl_mul (p := mid + D) hd0
      have h2 := fl_mul_le (p := mid - u) hd0
      have h4 : (cl (mid + D) d + 1) * d ≤ (fl (mid - u) d) * d := Int.mul_le_mul_of_nonneg_right (by omega) (by omega)
      have e : (cl (mid + D) d + 1) * d = cl (mid + D) d * d + d := by grind
      have := sq_lt_sq (x := u) (y := -D) (by omega) (by omega)
      rwa [Int.neg_mul_neg] at this
  · split at h <;> omega
theorem verd_in {d mid D r u : Int} (hd : 1 ≤ d) (h : verd mid D d r u = 0) : D * D ≤ r * r := by
  unfold verd told at h
  have hd0 : (0 : Int) < d := by omega
  split at h
  · omega
  · split at h
    · omega
    · rename_i h1 h2
      have a1 := le_cl_mul (p := mid + D) hd0
      have a2 := fl_mul_le (p := mid + r) hd0
      have a3 : cl (mid + D) d * d ≤ fl (mid + r) d * d := Int.mul_le_mul_of_nonneg_right (by omega) (by omega)
      have b1 := le_cl_mul (p := mid - r) hd0
      have b2 := fl_mul_le (p := mid + D) hd0
      have b3 : cl (mid - r) d * d ≤ fl (mid + D) d * d := Int.mul_le_mul_of_nonneg_right (by omega) (by omega)
      by_cases hD : 0 ≤ D
      · exact sq_le_sq hD (by omega)
      · have := sq_le_sq (x := -D) (y := r) (by omega) (by omega)
        rwa [Int.neg_mul_neg] at this
theorem out_verd {d mid D r u : Int} (hd : 1 ≤ d) (h : u + 3 * d ≤ absZ D) : verd mid D d r u = 1 := by
  have hd0 : (0 : Int) < d := by omega
  unfold verd told
  rw [if_pos]
  unfold absZ at h
  split at h
  · right
    have a1 := cl_mul_lt (p := mid + D) hd0
    have a2 := lt_fl_mul (p := mid - u) hd0
    have e1 : (cl (mid + D) d - 1) * d = cl (mid + D) d * d - d := by grind
    have e2 : (fl (mid - u) d + 1) * d = fl (mid - u) d * d + d := by grind
    have : cl (mid + D) d * d < fl (mid - u) d * d := by omega
    exact Int.lt_of_mul_lt_mul_right this (by omega)
  · left
    have a1 := cl_mul_lt (p := mid + u) hd0
    have a2 := lt_fl_mul (p := mid + D) hd0
    have e1 : (cl (mid + u) d - 1) * d = cl (mid + u) d * d - d := by grind
    have e2 : (fl (mid + D) d + 1) * d = fl (mid + D) d * d + d := by grind
    have : cl (mid + u) d * d < fl (mid + D) d * d := by omega
    exact Int.lt_of_mul_lt_mul_right this (by omega)
theorem in_verd {d mid D r u : Int} (hd : 1 ≤ d) (hru : r ≤ u) (h : absZ D + 3 * d ≤ r) : verd mid D d r u = 0 := by
  have hd0 : (0 : Int) < d := by omega
  have hD : -r + 3 * d ≤ D ∧ D ≤ r - 3 * d := by unfold absZ at h; split at h <;> omega
  have k1 : cl (mid + D) d ≤ fl (mid + r) d := by
    have a1 := cl_mul_lt (p := mid + D) hd0
    have a2 := lt_fl_mul (p := mid + r) hd0
    have e1 : (cl (mid + D) d - 1) * d = cl (mid + D) d * d - d := by grind
    have e2 : (fl (mid + r) d + 1) * d = fl (mid + r) d * d + d := by grind
    exact Int.le_of_lt (Int.lt_of_mul_lt_mul_right (show cl (mid + D) d * d < fl (mid + r) d * d by omega) (by omega))
  have k2 : cl (mid - r) d ≤ fl (mid + D) d := by
    have a1 := cl_mul_lt (p := mid - r) hd0
    have a2 := lt_fl_mul (p := mid + D) hd0
    have e1 : (cl (mid - r) d - 1) * d = cl (mid - r) d * d - d := by grind
    have e2 : (fl (mid + D) d + 1) * d = fl (mid + D) d * d + d := by grind
    exact Int.le_of_lt (Int.lt_of_mul_lt_mul_right (show cl (mid - r) d * d < fl (mid + D) d * d by omega) (by omega))
  have k3 := fl_le_cl (p := mid + D) (c := d) (by omega)
  have k4 : fl (mid + r) d ≤ fl (mid + u) d := fl_mono hd0 (by omega)
  have k5 := fl_le_cl (p := mid + u) (c := d) (by omega)
  have k6 : fl (mid - u) d ≤ fl (mid - r) d := fl_mono hd0 (by omega)
  have k7 := fl_le_cl (p := mid - r) (c := d) (by omega)
  unfold verd told
  rw [if_neg (by omega), if_neg (by omega)]
end Go.Proofs.Ytkdfkpalgejkkaa
/-
  datumlaw17.LimitNarrow: the statement over numbers alone.
-/
set_option linter.unusedSimpArgs false
namespace Go.Proofs.Ytkdfkpalgejkkaa.Pure
open Go.RowKit Go.Proofs.Ytkdfkpalgejkkaa Go.Proofs.Ytkdfkpalgejkkaa.Pf Go.Proofs.YtkdfkpalgejkkaaW.PrintWords Go.Proofs.YtkdfkpalgejkkaaW.PrintLast

theorem alive17 : datumlaw17_alive.f = some true := by
  have hA : rad 0 4 10 = 3600 := by decide
  have h1 : isqrt 3600 = 60 := isqrt_eq (by omega) (by omega) (by omega)
  have h2 : usqrt 3600 = 60 := by unfold usqrt; rw [h1]; rfl
  have hD : limit_Draw.f 5 1 7 0 4 10 = some (-10, -10, 50, 50, 110, 110, 120, 120, 0) := by
    unfold limit_Draw.f
    rw [if_pos (by decide), if_pos (by decide), if_pos (by decide), hA, h1, h2]
    rfl
  unfold datumlaw17_alive.f
  rw [hD]
  simp only [Option.bind_some]
  have hV : limit_Verdict.f (-10) (-10) 50 50 110 110 120 120 = some (1, 0) := by
    unfold limit_Verdict.f told
    rw [if_pos (by omega), if_pos (by omega)]
  rw [hV]
  rfl

/-- The point that is made. -/
theorem some17 (a0 a1 a2 a3_0 a3_1 : Int) (h3 : Word a3_0) : ∃ c d v vh : Int, datumlaw17_some.f a0 a1 a2 a3_0 a3_1 = some (c, d, v, vh, a3_1) ∧ pointB c d v vh = true ∧ 0 ≤ vh := by
  refine ⟨_, _, _, _, rfl, ?_, ?_⟩
  · obtain ⟨c1, c2⟩ := tmod_bound a0 (m := 100000000000000) (by omega)
    obtain ⟨d1, d2⟩ := one_to (a := a1) (m := 100000000000000) (by omega) (by omega)
    obtain ⟨v1, v2⟩ := tmod_bound a2 (m := 100000000000000) (by omega)
    unfold Word at h3
    unfold pointB far
    simp
    omega
  · unfold Word at h3
    omega

theorem sub_small {a b : Int} (h : a ≤ b) (h2 : b - a ≤ 2) : wrap64 (b - a) = b - a := by unfold wrap64; omega

theorem LimitNarrow : datumlaw17_LimitNarrow.Pure := by
  intro a0 a1 a2 a3_0 a3_1 a4 _ _ _ w30 w31 _
  have h30 := wf_word w30
  have h31 := wf_word w31
  obtain ⟨c, d, v, vh, hs, hp, hv0⟩ := some17 a0 a1 a2 a3_0 a3_1 h30
  obtain ⟨s1, s2⟩ := one_to (a := a4) (m := 1000) (by omega) (by omega)
  refine ⟨6, ?_⟩
  unfold datumlaw17_LimitNarrow.f
  rw [hs]
  generalize wrap64 (1 + Int.tmod (wrap64 (Int.tmod a4 1000 + 1000)) 1000) = s at *
  simp only [Option.bind_some]
  obtain ⟨hc, hd, hv, hh⟩ := pointB_spec hp
  have hsc : scaleB s = true := by unfold scaleB; simp; omega
  have hD : limit_Draw.f c d v vh a3_1 s = some (fl (c * s - usqrt (rad vh a3_1 s)) d, cl (c * s - isqrt (rad vh a3_1 s)) d, fl (c * s) d, cl (c * s) d, fl (c * s + isqrt (rad vh a3_1 s)) d, cl (c * s + usqrt (rad vh a3_1 s)) d, fl ((c + v) * s) d, cl ((c + v) * s) d, 0) := by
    unfold limit_Draw.f
    rw [if_pos hp, if_pos ⟨hv0, h31⟩, if_pos hsc]
  rw [hD]
  simp only [Option.bind_some, if_true, alive17, Bool.not_true]
  have r1 := isqrt_le_usqrt (rad vh a3_1 s)
  have r2 := usqrt_le_isqrt (rad vh a3_1 s)
  have r0 := isqrt_nonneg (rad vh a3_1 s)
  have hd0 : (0 : Int) < d := by omega
  have hzero : vh = 0 → a3_1 = 0 → isqrt (rad vh a3_1 s) = 0 ∧ usqrt (rad vh a3_1 s) = 0 := by
    rintro rfl rfl
    have e : rad 0 0 s = 0 := by unfold rad ofW; simp
    have e1 : isqrt 0 = 0 := isqrt_eq (by omega) (by omega) (by omega)
    rw [e, e1]
    exact ⟨rfl, by unfold usqrt; rw [e1]; rfl⟩
  generalize isqrt (rad vh a3_1 s) = r at *
  generalize usqrt (rad vh a3_1 s) = u at *
  generalize (c + v) * s = val at *
  generalize c * s = mid at *
  obtain ⟨lw1, lw2⟩ := low_wide (mid := mid) hd.1 r1 r2
  obtain ⟨hw1, hw2⟩ := high_wide (mid := mid) hd.1 r1 r2
  obtain ⟨mw1, mw2⟩ := one_wide (x := mid) hd.1
  obtain ⟨vw1, vw2⟩ := one_wide (x := val) hd.1
  have o1 : fl (mid - u) d ≤ fl mid d := fl_mono hd0 (by omega)
  have o2 : cl (mid - r) d ≤ cl mid d := cl_mono hd0 (by omega)
  have o3 : fl mid d ≤ fl (mid + r) d := fl_mono hd0 (by omega)
  have o4 : cl mid d ≤ cl (mid + u) d := cl_mono hd0 (by omega)
  have g1 := sub_small lw1 lw2
  have g2 := sub_small hw1 hw2
  have g3 := sub_small mw1 (by omega)
  have g4 := sub_small vw1 (by omega)
  have e1 : wrap64 (0 + 1) = 1 := by unfold wrap64; omega
  have e2 : wrap64 (1 + 1) = 2 := by unfold wrap64; omega
  have e3 : wrap64 (2 + 1) = 3 := by unfold wrap64; omega
  have e4 : wrap64 (3 + 1) = 4 := by unfold wrap64; omega
  rw [datumlaw17_LimitNarrow.j0]
  simp only [Bool.false_eq_true, if_false, Option.bind_some]
  generalize hL : [(⟨fl (mid - u) d, cl (mid - r) d⟩ : S23), ⟨fl (mid + r) d, cl (mid + u) d⟩, ⟨fl mid d, cl mid d⟩, ⟨fl val d, cl val d⟩] = L
  have n4 : (L.length : Int) = 4 := by rw [← hL]; rfl
  have x0 : rd_T23 L 0 = ⟨fl (mid - u) d, cl (mid - r) d⟩ := by rw [← hL]; rfl
  have x1 : rd_T23 L 1 = ⟨fl (mid + r) d, cl (mid + u) d⟩ := by rw [← hL]; rfl
  have x2 : rd_T23 L 2 = ⟨fl mid d, cl mid d⟩ := by rw [← hL]; rfl
  have x3 : rd_T23 L 3 = ⟨fl val d, cl val d⟩ := by rw [← hL]; rfl
  clear hL
  rw [n4]
  rw [datumlaw17_LimitNarrow.l0, x0, n4, if_pos (by omega), if_pos (by omega), if_pos (by omega), if_neg (by omega), if_neg (by dsimp only; omega), if_neg (by dsimp only; omega), e1]
  rw [datumlaw17_LimitNarrow.l0, x1, n4, if_pos (by omega), if_pos (by omega), if_pos (by omega), if_neg (by omega), if_neg (by dsimp only; omega), if_neg (by dsimp only; omega), e2]
  rw [datumlaw17_LimitNarrow.l0, x2, n4, if_pos (by omega), if_pos (by omega), if_pos (by omega), if_pos (by omega), if_neg (by dsimp only; omega), if_neg (by dsimp only; omega), e3]
  rw [datumlaw17_LimitNarrow.l0, x3, n4, if_pos (by omega), if_pos (by omega), if_pos (by omega), if_pos (by omega), if_neg (by dsimp only; omega), if_neg (by dsimp only; omega), e4]
  rw [datumlaw17_LimitNarrow.l0, if_neg (by omega), if_neg (by omega), if_neg (by omega), if_neg (by omega), if_neg (by omega)]
  by_cases hz : vh = 0 ∧ a3_1 = 0
  · obtain ⟨z1, z2⟩ := hzero hz.1 hz.2
    rw [if_neg (by simp [hz.1, hz.2]), z1, z2]
    simp
  · rw [if_pos (by simp; omega)]
end Go.Proofs.Ytkdfkpalgejkkaa.Pure
/-
  A parameter that is a struct of whole numbers (structs in structs too): what it is, where it reads as data.
-/
namespace Go.Proofs.Ytkdfkpalgejkkaa
open Go Go.ChangeShapes Go.WideShapes

/-- The kinds of a type's cells, if all are whole numbers; m: how deep structs may lie in structs. -/
def flatFs (P : Program) (K : TypeId → Option (List IntKind)) : List Field → Nat → Option (List IntKind)
  | [], _ => some []
  | f :: fs, off => if f.offset = off then (K f.type).bind fun ks => if P.cellsOf f.type = ks.length then (flatFs P K fs (off + ks.length)).map (ks ++ ·) else none else none
def flatK (P : Program) : Nat → TypeId → Option (List IntKind)
  | 0, _ => none
  | m + 1, t => match P.underlying t with
    | some (.int k) => some [k]
    | some (.struct fs) => (flatFs P (flatK P m) fs.toList 0).bind fun ks => if P.cellsOf t = ks.length then some ks else none
    | _ => none

def FlatOf (ks : List IntKind) (cs : List Value) : Prop := ∃ ns : List Int, ns.length = ks.length ∧ cs = List.zipWith Value.int ks ns ∧ ∀ p ∈ ks.zip ns, (Lit.int p.1 p.2).wf = true

theorem FlatOf.append {ks ks' : List IntKind} {cs cs' : List Value} (h : FlatOf ks cs) (h' : FlatOf ks' cs') : FlatOf (ks ++ ks') (cs ++ cs') := by
  obtain ⟨ns, h1, h2, h3⟩ := h
  obtain ⟨ns', h1', h2', h3'⟩ := h'
  refine ⟨ns ++ ns', by simp [h1, h1'], ?_, ?_⟩
  · rw [h2, h2', List.zipWith_append h1.symm]
  · intro p hp
    rw [List.zip_append h1.symm] at hp
    rcases List.mem_append.1 hp with hp | hp
    · exact h3 p hp
    · exact h3' p hp

variable {H : Type} {enc : TypeId × Value → H} {P : Program} {w : World} {base : Nat} {spare : Nat → Bool} {held : Bool}
theorem trod_flatFs {K : TypeId → Option (List IntKind)} {n : Nat} (hK : ∀ (t : TypeId) (ks : List IntKind) (cs : List Value) (x : DataW H × List MemPlace), K t = some ks → DataW.trod enc P w base spare held n t cs = some x → FlatOf ks cs) {cs : List Value} :
    ∀ (l : List Field) (off : Nat) (ks : List IntKind), (∀ f ∈ l, ∃ y, DataW.trod enc P w base spare held n f.type ((cs.drop f.offset).take (P.cellsOf f.type)) = some y) → flatFs P K l off = some ks → FlatOf ks ((cs.drop off).take ks.length)
  | [], off, ks, _, h => by
    simp only [flatFs, Option.some.injEq] at h
    subst h
    exact ⟨[], rfl, by simp, by simp⟩
  | f :: l, off, ks, hf, h => by
    unfold flatFs at h
    split at h
    · rename_i ho
      cases hk : K f.type with
      | none => simp [hk] at h
      | some k1 =>
        simp only [hk, Option.bind_some] at h
        split at h
        · rename_i hc
          cases hr : flatFs P K l (off + k1.length) with
          | none => simp [hr] at h
          | some k2 =>
            simp only [hr, Option.map_some, Option.some.injEq] at h
            subst h
            obtain ⟨y, hy⟩ := hf f (by simp)
            have h1 := hK f.type k1 _ y hk hy
            rw [hc, ho] at h1
            have h2 := trod_flatFs hK l (off + k1.length) k2 (fun g hg => hf g (by simp [hg])) hr
            have h3 := h1.append h2
            have e : (cs.drop off).take (k1 ++ k2).length = (cs.drop off).take k1.length ++ (cs.drop (off + k1.length)).take k2.length := by
              rw [List.length_append, List.take_add, List.drop_drop]
            rw [e]; exact h3
        · cases h
    · cases h

theorem trod_flat : ∀ (m : Nat) (t : TypeId) (ks : List IntKind) (fuel : Nat) (cs : List Value) (x : DataW H × List MemPlace), flatK P m t = some ks → DataW.trod enc P w base spare held fuel t cs = some x → FlatOf ks cs
  | 0, _, _, _, _, _, h, _ => by simp [flatK] at h
  | m + 1, t, ks, fuel, cs, x, h, hx => by
    unfold flatK at h
    split at h
    · rename_i k hu
      simp only [Option.some.injEq] at h
      subst h
      obtain ⟨n, hcs, -, hw⟩ := DataW.trod_int hu hx
      exact ⟨[n], rfl, by simp [hcs], by simpa using hw⟩
    · rename_i fs hu
      cases hr : flatFs P (flatK P m) fs.toList 0 with
      | none => simp [hr] at h
      | some k1 =>
        simp only [hr, Option.bind_some] at h
        split at h
        · rename_i hc
          simp only [Option.some.injEq] at h
          subst h
          obtain ⟨xs, n, _, _, hl, hlen, hf⟩ := DataW.trod_struct hu hx
          have := trod_flatFs (K := flatK P m) (n := n) (fun t' ks' cs' x' h1 h2 => trod_flat m t' ks' n cs' x' h1 h2) (cs := cs) fs.toList 0 k1 (fun f hfm => by
            obtain ⟨i, hi⟩ := List.getElem?_of_mem hfm
            have h1 := hf i f (by simpa using hi)
            have hil : i < fs.size := by
              have := (List.getElem?_eq_some_iff.1 hi).1
              simpa using this
            exact ⟨xs[i]'(by omega), h1.trans (List.getElem?_eq_getElem (by omega))⟩) hr
          rw [List.drop_zero, ← hc, ← hl, List.take_length] at this
          exact this
        · cases h
    · cases h

/-- The parameter itself. -/
theorem open_flat {r : Reach} {b0 m : Nat} {t : TypeId} {fs : Array Field} {ks : List IntKind} {v : Value} {d : DataW H} {p : List MemPlace} (hu : P.underlying t = some (.struct fs)) (hk : flatK P m t = some ks) (hv : Value.okWide P w r b0 t v) (h : DataW.Trod enc P w base spare held t v d p) :
    ∃ ns : List Int, ns.length = ks.length ∧ v = .agg (List.zipWith Value.int ks ns).toArray ∧ ∀ q ∈ ks.zip ns, (Lit.int q.1 q.2).wf = true := by
  obtain ⟨cs, rfl, -⟩ := okWide_struct hu hv
  obtain ⟨fuel, hf⟩ := h
  obtain ⟨ns, h1, h2, h3⟩ := trod_flat m t ks fuel _ _ hk hf
  refine ⟨ns, h1, ?_, h3⟩
  have e : (Value.agg cs).cells = cs := rfl
  rw [e] at h2
  rw [← h2]
end Go.Proofs.Ytkdfkpalgejkkaa
-- Written by a program (gprint.py) for this claim.
namespace Go.Proofs.Ytkdfkpalgejkkaa.limitNarrow
open Go.ChangeShapes Go.WideShapes Go.ChangeAt Go.RowKit
open Go.ChangeMaps (open_string shut_string)
set_option linter.unusedVariables false
theorem own : ownKnob Try.prog.godebug = none := by kernel_rfl
theorem laidOut : laidOutB Try.prog = true := by kernel_rfl
def IsRow (k : IntKind) (w : World) (a : Option Addr) (len cap : Nat) (zs : List Int) : Prop :=
  (a = none ∧ len = 0 ∧ cap = 0 ∧ zs = []) ∨
  ∃ x, a = some x ∧ len ≤ cap ∧ cap ≤ maxLen ∧ zs.length = cap ∧ (∀ i, i < zs.length → w.cell? (x.add i) = some (.int k (zs.getD i 0))) ∧ ∀ n ∈ zs, (Lit.int k n).wf = true
set_option maxRecDepth 100000 in
theorem lifted (os : Os) (started : os.Started) (H : Type) (enc : TypeId × Value → H) :
    ReturnsInHanded {} Try.checked os 6 .any (Rows.limitNarrowSpec.pre6 enc Try.prog Try.f6 Rows.limitNarrowRow.domain false) (Rows.limitNarrowSpec.post enc Try.prog Try.f6 false true false false) := by
  refine returnsInHanded_of_change_sized (C := Try.checked) own started (by kernel_rfl) Try.func6
    (ChangeSpec.witness6 (enc := enc) (C := Try.checked) false ⟨#[], #[.int .i64 0, .int .i64 0, .int .i64 0, .agg #[.int .u64 0, .int .u64 0], .int .i64 0], []⟩ 8 (by kernel_rfl) (by kernel_rfl) (by kernel_rfl) (by kernel_rfl)) ?_
  intro W base args ds gs before hval0 hW hcnd hsz0 _
  have hsz : (DataW.weightsEach Try.prog (Try.f6.params.toList ++ Rows.limitNarrowSpec.plain.varTypes Try.prog) (ds ++ gs)).all (· ≤ reachBytes) = true := hsz0
  have hval : ∀ (j : Nat) t v, Try.f6.params[j]? = some t → args[j]? = some v → Value.okWide Try.prog W .any base t v := hval0
  have hW' := hW
  obtain ⟨p, q, hA0, hV, rfl, hfz, hnd⟩ := hW
  have hA : DataW.TrodAll enc Try.prog W 0 (fun _ => true) true Try.f6.params.toList args.toList ds p := hA0
  rw [Try.params6] at hA hval hsz
  obtain ⟨v0, vs0, d0, ds0, p0, q0, hargs, rfl, rfl, h0, r0⟩ := trodAll_cons hA
  obtain ⟨v1, vs1, d1, ds1, p1, q1, rfl, rfl, rfl, h1, r1⟩ := trodAll_cons r0
  obtain ⟨v2, vs2, d2, ds2, p2, q2, rfl, rfl, rfl, h2, r2⟩ := trodAll_cons r1
  obtain ⟨v3, vs3, d3, ds3, p3, q3, rfl, rfl, rfl, h3, r3⟩ := trodAll_cons r2
  obtain ⟨v4, vs4, d4, ds4, p4, q4, rfl, rfl, rfl, h4, r4⟩ := trodAll_cons r3
  obtain ⟨rfl, rfl, rfl⟩ := trodAll_nil r4
  obtain rfl : args = #[v0, v1, v2, v3, v4] := by cases args; simp_all
  obtain ⟨rfl, rfl⟩ := trodVars_none hV
  obtain ⟨a0, rfl, rfl, rfl, w0⟩ := open_int Try.underlying3 (hval 0 3 v0 rfl rfl) h0
  obtain ⟨a1, rfl, rfl, rfl, w1⟩ := open_int Try.underlying3 (hval 1 3 v1 rfl rfl) h1
  obtain ⟨a2, rfl, rfl, rfl, w2⟩ := open_int Try.underlying3 (hval 2 3 v2 rfl rfl) h2
  have k3 := h3
  have lt3 : ∀ x ∈ p3, x.block < W.heap.size := by obtain ⟨m, hm⟩ := k3; exact DataW.trod_lt m _ _ _ hm
  obtain ⟨n3, nl3, nv3, nw3⟩ := open_flat (m := 8) (ks := [.u64, .u64]) Try.underlying35 (by kernel_rfl) (hval 3 35 v3 rfl rfl) h3
  obtain ⟨a3_0, a3_1, rfl⟩ : ∃ a3_0 a3_1, n3 = [a3_0, a3_1] := by
    match n3, nl3 with
    | [m3_0, m3_1], _ => exact ⟨m3_0, m3_1, rfl⟩
  obtain rfl : v3 = .agg #[.int .u64 a3_0, .int .u64 a3_1] := nv3
  have w3_0 : (Lit.int .u64 a3_0).wf = true := nw3 (.u64, a3_0) (by simp)
  have w3_1 : (Lit.int .u64 a3_1).wf = true := nw3 (.u64, a3_1) (by simp)
  obtain ⟨a4, rfl, rfl, rfl, w4⟩ := open_int Try.underlying3 (hval 4 3 v4 rfl rfl) h4
  clear hA0 hval0 hsz0 hsz
  refine (Pf.datumlaw17_LimitNarrow.walk Pure.LimitNarrow a0 a1 a2 a3_0 a3_1 a4 W w0 w1 w2 w3_0 w3_1 w4).mono fun e W' ⟨he, bel⟩ => ?_
  subst he
  exact ⟨_, rfl, _, _, _, [], _, [], hW', trodAll_mk1 (shut_bool Try.underlying4 _), (trodAll_cons_mk (shut_int Try.underlying3 w0) (trodAll_cons_mk (shut_int Try.underlying3 w1) (trodAll_cons_mk (shut_int Try.underlying3 w2) (trodAll_cons_mk (Below.trod laidOut (by kernel_rfl) (of_decide_eq_true (by kernel_rfl)) k3 bel lt3) (trodAll_cons_mk (shut_int Try.underlying3 w4) trodAll_mk0))))), rfl, bel.frame _, fun h => by cases h⟩
theorem over : Rows.limitNarrowRow.holds Try.pinned (OpenSpec.ofChange Rows.limitNarrowSpec) :=
  OpenClaim.holds_of_wide 6 Try.f6 rfl rfl rfl rfl rfl rfl rfl ⟨rfl, rfl, rfl, rfl, rfl⟩ rfl rfl rfl rfl rfl (by kernel_rfl) Try.func6 (by kernel_rfl)
    (of_decide_eq_true (by kernel_rfl)) (by unfold Func.isWrapper; first | (rw [if_pos (by decide +kernel)]; kernel_rfl) | (rw [if_neg (by decide +kernel)]; exact ⟨rfl, rfl⟩))
    (fun os started H enc _ => lifted os started H enc)
theorem proved : Rows.LimitNarrowSaid := over
#print axioms proved
end Go.Proofs.Ytkdfkpalgejkkaa.limitNarrow
namespace Go.Proofs.Ytkdfkpalgejkkaa
/-- The row, under a short name, for the claim. -/
theorem limitNarrow_holds : Rows.LimitNarrowSaid := limitNarrow.proved
end Go.Proofs.Ytkdfkpalgejkkaa
