/- Part 4 of 4. The statement LimitSure holds: a value that is told as out is beyond its lines, one told as in is on them or between; for every input, under no condition. -/
import Derived.Test.YtkdfkpalgejkkaaMLimitSure3
import Derived.ChangeSame
import Derived.ChangeShapes
import Derived.WideShapes
import Derived.Test.YtkdfkpalgejkkaaRows
import Derived.WalkKit
import Derived.ProofKit
import Derived.OpenShut
import Derived.ShutString
import Derived.ChangeOld
import Derived.Below
import Derived.SizedLaws
import Derived.Test.YtkdfkpalgejkkaaWSized
-- Written by a program (gprint.py) for this claim.
namespace Go.Proofs.Ytkdfkpalgejkkaa.Pg
open Go.RowKit Go.Proofs.Ytkdfkpalgejkkaa Go.Proofs.YtkdfkpalgejkkaaW.PrintWords Go.Proofs.YtkdfkpalgejkkaaW.PrintLast Go.Proofs.YtkdfkpalgejkkaaW.PrintMore
attribute [local go_sem] add64' sub64' max2_int min2_int max_two min_two max_three min_three max_four min_four   -- for this text's walks alone
set_option linter.unusedVariables false
set_option linter.unusedSimpArgs false

/-! ### datumlaw17_LimitSure: function 5 -/
mutual
def datumlaw17_LimitSure.j0 : Nat → Int → Int → Bool → Int → Int → Int → Int → Int → Option (Bool)
  | 0, _, _, _, _, _, _, _, _ => none
  | k + 1, x4, x14, x49, x130000, x130001, x130002, x130003, x130004 => if x49 = true then (some false) else (if x14 = 1 then ((datumlaw17_beyond.f (IntKind.u64.wrap ((IntKind.u64.wrap (mx x130002 (wrap64 (-x130002)))) * (IntKind.u64.wrap (x4)))) x130003 x130004 (IntKind.u64.wrap (x4))).bind fun t143 => (if t143 = true then (if x14 = 0 then ((datumlaw17_beyond.f (IntKind.u64.wrap ((IntKind.u64.wrap (mx x130002 (wrap64 (-x130002)))) * (IntKind.u64.wrap (x4)))) x130003 x130004 (IntKind.u64.wrap (x4))).bind fun t144 => (datumlaw17_LimitSure.j1 k x14 (IntKind.u64.wrap ((IntKind.u64.wrap (mx x130002 (wrap64 (-x130002)))) * (IntKind.u64.wrap (x4)))) (IntKind.u64.wrap (3 * (IntKind.u64.wrap (x130001)))) (IntKind.u64.wrap (x4)) t144 x130000 x130001 x130002 x130003 x130004)) else (datumlaw17_LimitSure.j1 k x14 (IntKind.u64.wrap ((IntKind.u64.wrap (mx x130002 (wrap64 (-x130002)))) * (IntKind.u64.wrap (x4)))) (IntKind.u64.wrap (3 * (IntKind.u64.wrap (x130001)))) (IntKind.u64.wrap (x4)) false x130000 x130001 x130002 x130003 x130004)) else (datumlaw17_LimitSure.j1 k x14 (IntKind.u64.wrap ((IntKind.u64.wrap (mx x130002 (wrap64 (-x130002)))) * (IntKind.u64.wrap (x4)))) (IntKind.u64.wrap (3 * (IntKind.u64.wrap (x130001)))) (IntKind.u64.wrap (x4)) true x130000 x130001 x130002 x130003 x130004))) else (if x14 = 0 then ((datumlaw17_beyond.f (IntKind.u64.wrap ((IntKind.u64.wrap (mx x130002 (wrap64 (-x130002)))) * (IntKind.u64.wrap (x4)))) x130003 x130004 (IntKind.u64.wrap (x4))).bind fun t145 => (datumlaw17_LimitSure.j1 k x14 (IntKind.u64.wrap ((IntKind.u64.wrap (mx x130002 (wrap64 (-x130002)))) * (IntKind.u64.wrap (x4)))) (IntKind.u64.wrap (3 * (IntKind.u64.wrap (x130001)))) (IntKind.u64.wrap (x4)) t145 x130000 x130001 x130002 x130003 x130004)) else (datumlaw17_LimitSure.j1 k x14 (IntKind.u64.wrap ((IntKind.u64.wrap (mx x130002 (wrap64 (-x130002)))) * (IntKind.u64.wrap (x4)))) (IntKind.u64.wrap (3 * (IntKind.u64.wrap (x130001)))) (IntKind.u64.wrap (x4)) false x130000 x130001 x130002 x130003 x130004)))
def datumlaw17_LimitSure.j1 : Nat → Int → Int → Int → Int → Bool → Int → Int → Int → Int → Int → Option (Bool)
  | 0, _, _, _, _, _, _, _, _, _, _ => none
  | k + 1, x14, x16, x17, x18, x66, x130000, x130001, x130002, x130003, x130004 => if x66 = true then (some false) else (if x16 > x17 then ((datumlaw17_beyond.f (IntKind.u64.wrap (x16 - x17)) x130003 x130004 x18).bind fun t146 => (datumlaw17_LimitSure.j2 k x14 x16 x17 x18 t146 x130000 x130001 x130002 x130003 x130004)) else (datumlaw17_LimitSure.j2 k x14 x16 x17 x18 false x130000 x130001 x130002 x130003 x130004))
def datumlaw17_LimitSure.j2 : Nat → Int → Int → Int → Int → Bool → Int → Int → Int → Int → Int → Option (Bool)
  | 0, _, _, _, _, _, _, _, _, _, _ => none
  | k + 1, x14, x16, x17, x18, x88, x130000, x130001, x130002, x130003, x130004 => if x88 = true then (some (x14 == 1)) else ((datumlaw17_beyond.f (IntKind.u64.wrap (x16 + x17)) x130003 x130004 x18).bind fun t147 => (if t147 = true then (if x14 = 0 then (some true) else (if x14 = 1 then (some true) else (some (x14 == 2)))) else (some (x14 == 0))))
end
def datumlaw17_LimitSure.f (k : Nat) (a0 : Int) (a1 : Int) (a2 : Int) (a3_0 : Int) (a3_1 : Int) (a4 : Int) : Option (Bool) := (datumlaw17_some.f a0 a1 a2 a3_0 a3_1).bind fun bt124 => ((limit_Draw.f bt124.1 bt124.2.1 bt124.2.2.1 bt124.2.2.2.1 bt124.2.2.2.2 (wrap64 (1 + (Int.tmod (wrap64 ((Int.tmod a4 1000) + 1000)) 1000)))).bind fun bt130 => ((limit_Verdict.f bt130.1 bt130.2.1 bt130.2.2.1 bt130.2.2.2.1 bt130.2.2.2.2.1 bt130.2.2.2.2.2.1 bt130.2.2.2.2.2.2.1 bt130.2.2.2.2.2.2.2.1).bind fun bt140 => (if bt130.2.2.2.2.2.2.2.2 = 0 then (if bt140.2 = 0 then ((datumlaw17_alive.f).bind fun t142 => (datumlaw17_LimitSure.j0 k (wrap64 (1 + (Int.tmod (wrap64 ((Int.tmod a4 1000) + 1000)) 1000))) bt140.1 (!t142) bt124.1 bt124.2.1 bt124.2.2.1 bt124.2.2.2.1 bt124.2.2.2.2)) else (datumlaw17_LimitSure.j0 k (wrap64 (1 + (Int.tmod (wrap64 ((Int.tmod a4 1000) + 1000)) 1000))) bt140.1 true bt124.1 bt124.2.1 bt124.2.2.1 bt124.2.2.2.1 bt124.2.2.2.2)) else (datumlaw17_LimitSure.j0 k (wrap64 (1 + (Int.tmod (wrap64 ((Int.tmod a4 1000) + 1000)) 1000))) bt140.1 true bt124.1 bt124.2.1 bt124.2.2.1 bt124.2.2.2.1 bt124.2.2.2.2))))
theorem datumlaw17_LimitSure.mono_l : ∀ k, (∀ y0 y1 y2 y3 y4 y5 y6 y7, LeO (datumlaw17_LimitSure.j0 k y0 y1 y2 y3 y4 y5 y6 y7) (datumlaw17_LimitSure.j0 (k + 1) y0 y1 y2 y3 y4 y5 y6 y7)) ∧ (∀ y0 y1 y2 y3 y4 y5 y6 y7 y8 y9, LeO (datumlaw17_LimitSure.j1 k y0 y1 y2 y3 y4 y5 y6 y7 y8 y9) (datumlaw17_LimitSure.j1 (k + 1) y0 y1 y2 y3 y4 y5 y6 y7 y8 y9)) ∧ (∀ y0 y1 y2 y3 y4 y5 y6 y7 y8 y9, LeO (datumlaw17_LimitSure.j2 k y0 y1 y2 y3 y4 y5 y6 y7 y8 y9) (datumlaw17_LimitSure.j2 (k + 1) y0 y1 y2 y3 y4 y5 y6 y7 y8 y9))
  | 0 => ⟨fun _ _ _ _ _ _ _ _ r h => by simp [datumlaw17_LimitSure.j0] at h, fun _ _ _ _ _ _ _ _ _ _ r h => by simp [datumlaw17_LimitSure.j1] at h, fun _ _ _ _ _ _ _ _ _ _ r h => by simp [datumlaw17_LimitSure.j2] at h⟩
  | k + 1 => by
    obtain ⟨ih0, ih1, ih2⟩ := datumlaw17_LimitSure.mono_l k
    refine ⟨?_, ?_, ?_⟩
    · intro y0 y1 y2 y3 y4 y5 y6 y7
      unfold datumlaw17_LimitSure.j0
      repeat' first
      | (with_reducible exact ih0 _ _ _ _ _ _ _ _)
      | (with_reducible exact ih1 _ _ _ _ _ _ _ _ _ _)
      | (with_reducible exact ih2 _ _ _ _ _ _ _ _ _ _)
      | (with_reducible exact LeO.refl _)
      | (with_reducible exact LeO.none _)
      | (with_reducible refine LeO.ite ?_ ?_)
      | (with_reducible refine LeO.bind ?_ (fun _ => ?_))
      | exact ih0 _ _ _ _ _ _ _ _
      | exact ih1 _ _ _ _ _ _ _ _ _ _
      | exact ih2 _ _ _ _ _ _ _ _ _ _
      | exact LeO.none _
      | refine LeO.ite ?_ ?_
      | refine LeO.bind ?_ (fun _ => ?_)
    · intro y0 y1 y2 y3 y4 y5 y6 y7 y8 y9
      unfold datumlaw17_LimitSure.j1
      repeat' first
      | (with_reducible exact ih0 _ _ _ _ _ _ _ _)
      | (with_reducible exact ih1 _ _ _ _ _ _ _ _ _ _)
      | (with_reducible exact ih2 _ _ _ _ _ _ _ _ _ _)
      | (with_reducible exact LeO.refl _)
      | (with_reducible exact LeO.none _)
      | (with_reducible refine LeO.ite ?_ ?_)
      | (with_reducible refine LeO.bind ?_ (fun _ => ?_))
      | exact ih0 _ _ _ _ _ _ _ _
      | exact ih1 _ _ _ _ _ _ _ _ _ _
      | exact ih2 _ _ _ _ _ _ _ _ _ _
      | exact LeO.none _
      | refine LeO.ite ?_ ?_
      | refine LeO.bind ?_ (fun _ => ?_)
    · intro y0 y1 y2 y3 y4 y5 y6 y7 y8 y9
      unfold datumlaw17_LimitSure.j2
      repeat' first
      | (with_reducible exact ih0 _ _ _ _ _ _ _ _)
      | (with_reducible exact ih1 _ _ _ _ _ _ _ _ _ _)
      | (with_reducible exact ih2 _ _ _ _ _ _ _ _ _ _)
      | (with_reducible exact LeO.refl _)
      | (with_reducible exact LeO.none _)
      | (with_reducible refine LeO.ite ?_ ?_)
      | (with_reducible refine LeO.bind ?_ (fun _ => ?_))
      | exact ih0 _ _ _ _ _ _ _ _
      | exact ih1 _ _ _ _ _ _ _ _ _ _
      | exact ih2 _ _ _ _ _ _ _ _ _ _
      | exact LeO.none _
      | refine LeO.ite ?_ ?_
      | refine LeO.bind ?_ (fun _ => ?_)
theorem datumlaw17_LimitSure.mono : ∀ a0 a1 a2 a3 a4 a5 k, LeO (datumlaw17_LimitSure.f k a0 a1 a2 a3 a4 a5) (datumlaw17_LimitSure.f (k + 1) a0 a1 a2 a3 a4 a5) := by
  intro a0 a1 a2 a3 a4 a5 k
  obtain ⟨ih0, ih1, ih2⟩ := datumlaw17_LimitSure.mono_l k
  unfold datumlaw17_LimitSure.f
  repeat' first
      | (with_reducible exact ih0 _ _ _ _ _ _ _ _)
      | (with_reducible exact ih1 _ _ _ _ _ _ _ _ _ _)
      | (with_reducible exact ih2 _ _ _ _ _ _ _ _ _ _)
      | (with_reducible exact LeO.refl _)
      | (with_reducible exact LeO.none _)
      | (with_reducible refine LeO.ite ?_ ?_)
      | (with_reducible refine LeO.bind ?_ (fun _ => ?_))
      | exact ih0 _ _ _ _ _ _ _ _
      | exact ih1 _ _ _ _ _ _ _ _ _ _
      | exact ih2 _ _ _ _ _ _ _ _ _ _
      | exact LeO.none _
      | refine LeO.ite ?_ ?_
      | refine LeO.bind ?_ (fun _ => ?_)
set_option maxHeartbeats 8000000 in
set_option maxRecDepth 100000 in
theorem datumlaw17_LimitSure.calls (k : Nat) (a0 : Int) (a1 : Int) (a2 : Int) (a3_0 : Int) (a3_1 : Int) (a4 : Int) (r : Bool) (w : World) (h : datumlaw17_LimitSure.f k a0 a1 a2 a3_0 a3_1 a4 = some r) :
    Calls Try.prog 5 #[.int .i64 a0, .int .i64 a1, .int .i64 a2, .agg #[.int .u64 a3_0, .int .u64 a3_1], .int .i64 a4] w fun e w' => e = .returned (.bool r) ∧ Below w.heap.size w w' := by
  have hu35 := Try.underlying35
  have hu37 := Try.underlying37
  have hu39 := Try.underlying39
  have HB := Aside0.mk (Below.refl w.heap.size w)
  have H : ((datumlaw17_some.f a0 a1 a2 a3_0 a3_1).bind fun bt124 => ((limit_Draw.f bt124.1 bt124.2.1 bt124.2.2.1 bt124.2.2.2.1 bt124.2.2.2.2 (wrap64 (1 + (Int.tmod (wrap64 ((Int.tmod a4 1000) + 1000)) 1000)))).bind fun bt130 => ((limit_Verdict.f bt130.1 bt130.2.1 bt130.2.2.1 bt130.2.2.2.1 bt130.2.2.2.2.1 bt130.2.2.2.2.2.1 bt130.2.2.2.2.2.2.1 bt130.2.2.2.2.2.2.2.1).bind fun bt140 => (if bt130.2.2.2.2.2.2.2.2 = 0 then (if bt140.2 = 0 then ((datumlaw17_alive.f).bind fun t142 => (datumlaw17_LimitSure.j0 k (wrap64 (1 + (Int.tmod (wrap64 ((Int.tmod a4 1000) + 1000)) 1000))) bt140.1 (!t142) bt124.1 bt124.2.1 bt124.2.2.1 bt124.2.2.2.1 bt124.2.2.2.2)) else (datumlaw17_LimitSure.j0 k (wrap64 (1 + (Int.tmod (wrap64 ((Int.tmod a4 1000) + 1000)) 1000))) bt140.1 true bt124.1 bt124.2.1 bt124.2.2.1 bt124.2.2.2.1 bt124.2.2.2.2)) else (datumlaw17_LimitSure.j0 k (wrap64 (1 + (Int.tmod (wrap64 ((Int.tmod a4 1000) + 1000)) 1000))) bt140.1 true bt124.1 bt124.2.1 bt124.2.2.1 bt124.2.2.2.1 bt124.2.2.2.2))))) = some r := h
  clear h
  replace H := Option.bind_eq_some_iff.mp H
  obtain ⟨⟨t124, t125, t126, t127, t128⟩, A60, H⟩ := H
  replace H : ((limit_Draw.f t124 t125 t126 t127 t128 (wrap64 (1 + (Int.tmod (wrap64 ((Int.tmod a4 1000) + 1000)) 1000)))).bind fun bt130 => ((limit_Verdict.f bt130.1 bt130.2.1 bt130.2.2.1 bt130.2.2.2.1 bt130.2.2.2.2.1 bt130.2.2.2.2.2.1 bt130.2.2.2.2.2.2.1 bt130.2.2.2.2.2.2.2.1).bind fun bt140 => (if bt130.2.2.2.2.2.2.2.2 = 0 then (if bt140.2 = 0 then ((datumlaw17_alive.f).bind fun t142 => (datumlaw17_LimitSure.j0 k (wrap64 (1 + (Int.tmod (wrap64 ((Int.tmod a4 1000) + 1000)) 1000))) bt140.1 (!t142) t124 t125 t126 t127 t128)) else (datumlaw17_LimitSure.j0 k (wrap64 (1 + (Int.tmod (wrap64 ((Int.tmod a4 1000) + 1000)) 1000))) bt140.1 true t124 t125 t126 t127 t128)) else (datumlaw17_LimitSure.j0 k (wrap64 (1 + (Int.tmod (wrap64 ((Int.tmod a4 1000) + 1000)) 1000))) bt140.1 true t124 t125 t126 t127 t128)))) = some r := H
  have A6 := Aside0.mk A60
  clear A60
  replace H := Option.bind_eq_some_iff.mp H
  obtain ⟨⟨t130, t131, t132, t133, t134, t135, t136, t137, t138⟩, A70, H⟩ := H
  replace H : ((limit_Verdict.f t130 t131 t132 t133 t134 t135 t136 t137).bind fun bt140 => (if t138 = 0 then (if bt140.2 = 0 then ((datumlaw17_alive.f).bind fun t142 => (datumlaw17_LimitSure.j0 k (wrap64 (1 + (Int.tmod (wrap64 ((Int.tmod a4 1000) + 1000)) 1000))) bt140.1 (!t142) t124 t125 t126 t127 t128)) else (datumlaw17_LimitSure.j0 k (wrap64 (1 + (Int.tmod (wrap64 ((Int.tmod a4 1000) + 1000)) 1000))) bt140.1 true t124 t125 t126 t127 t128)) else (datumlaw17_LimitSure.j0 k (wrap64 (1 + (Int.tmod (wrap64 ((Int.tmod a4 1000) + 1000)) 1000))) bt140.1 true t124 t125 t126 t127 t128))) = some r := H
  have A7 := Aside0.mk A70
  clear A70
  replace H := Option.bind_eq_some_iff.mp H
  obtain ⟨⟨t140, t141⟩, A80, H⟩ := H
  replace H : (if t138 = 0 then (if t141 = 0 then ((datumlaw17_alive.f).bind fun t142 => (datumlaw17_LimitSure.j0 k (wrap64 (1 + (Int.tmod (wrap64 ((Int.tmod a4 1000) + 1000)) 1000))) t140 (!t142) t124 t125 t126 t127 t128)) else (datumlaw17_LimitSure.j0 k (wrap64 (1 + (Int.tmod (wrap64 ((Int.tmod a4 1000) + 1000)) 1000))) t140 true t124 t125 t126 t127 t128)) else (datumlaw17_LimitSure.j0 k (wrap64 (1 + (Int.tmod (wrap64 ((Int.tmod a4 1000) + 1000)) 1000))) t140 true t124 t125 t126 t127 t128)) = some r := H
  have A8 := Aside0.mk A80
  clear A80
  have HC9 := Aside0.mk H
  clear H
  go_enter Try.func5, Try.ntmps5
  go_upto_region 5 with (first | ((with_reducible refine gate_dst (N := 8) rfl ?_); refine box_event ?hg (N := 8) ?hd (cs := #[.int .u64 a3_0, .int .u64 a3_1]) (t := 35) ?hr ?_; (case hd => rfl); (case hg => rfl); (case hr => first | (go_simp; done) | (go_simp; rfl)); intro gb123 hg w10 hbox hb; have n0_ := Aside0.mk (below_step (by repeat (first | (with_reducible first | exact HB.out | apply below_alloc | apply pw_below_drewN | apply below_drew1) | exact HB.out)) hb); have n1_ := Aside0.mk (hbox); have n2_ := Aside0.mk ((by rw [hg]; exact (below_size (by repeat (first | (with_reducible first | exact HB.out | apply below_alloc | apply pw_below_drewN | apply below_drew1) | exact HB.out))) : w.heap.size ≤ gb123)); have n3_ := Aside0.mk ((by rw [hg]; exact (below_size (by repeat (first | (with_reducible first | exact HB.out | apply below_alloc | apply pw_below_drewN | apply below_drew1) | exact HB.out))) : w.heap.size ≤ gb123)); clear HB; have HB := n0_; have BK123 := n1_; have GW123 := n2_; have GE123 := n3_; clear n0_ n1_ n2_ n3_; clear hb hbox hg; have hcz11_0 : w10.cell? ⟨gb123, 0, none⟩ = some (.int .u64 a3_0) := (blk_cell BK123.out 0).trans rfl; have hcz11_1 : w10.cell? ⟨gb123, 1, none⟩ = some (.int .u64 a3_1) := (blk_cell BK123.out 1).trans rfl; have hfz11_0 := blk_frozen BK123.out 0; have hfz11_1 := blk_frozen BK123.out 1) | ((with_reducible refine gate_callee (f := 29) rfl ?_); refine goesL_ (some 23) rfl rfl Try.func29 (by kernel_rfl) rfl #[.int .i64 a0, .int .i64 a1, .int .i64 a2, .agg #[.int .u64 a3_0, .int .u64 a3_1]] rfl (by (try simp only [List.map_toArray, List.map_cons, List.map_nil]); first | done | rfl | (simp only [List.length_drop, List.length_take]; rfl)) ?_; (with_reducible refine (datumlaw17_some.calls a0 a1 a2 a3_0 a3_1 t124 t125 t126 t127 t128 _ A6.out).mono ?_); rintro e w12 ⟨rfl, hb⟩; refine ⟨_, rfl, ?_⟩; have n0_ := Aside0.mk (blk_below (g := gb123) (o := .cells #[.int .u64 a3_0, .int .u64 a3_1] 35 (0, 0)) (by (with_reducible repeat (first | refine blk_drewN ?_ _ | refine blk_drew ?_ | refine blk_alloc ?_ _)); exact BK123.out) hb); have n1_ := Aside0.mk (below_step (by repeat (first | (with_reducible first | exact HB.out | apply below_alloc | apply pw_below_drewN | apply below_drew1 | refine below_set ?_ GE123.out) | exact HB.out)) hb); clear BK123; clear HB; have BK123 := n0_; have HB := n1_; clear n0_ n1_; (try clear hb); (try clear hb2); (try clear hk); (try clear hi)) | ((with_reducible refine gate_dst (N := 11) rfl ?_); refine box_event ?hg (N := 11) ?hd (cs := #[.int .i64 0, .int .i64 0, .int .i64 0, .int .u64 0, .int .u64 0]) (t := 37) ?hr ?_; (case hd => rfl); (case hg => rfl); (case hr => first | (go_simp; done) | (go_simp; rfl)); intro gb129 hg w13 hbox hb; have n0_ := Aside0.mk (blk_below (g := gb123) (o := .cells #[.int .u64 a3_0, .int .u64 a3_1] 35 (0, 0)) (by (with_reducible repeat (first | refine blk_drewN ?_ _ | refine blk_drew ?_ | refine blk_alloc ?_ _)); exact BK123.out) hb); have n1_ := Aside0.mk (below_step (by repeat (first | (with_reducible first | exact HB.out | apply below_alloc | apply pw_below_drewN | apply below_drew1 | refine below_set ?_ GE123.out) | exact HB.out)) hb); have n2_ := Aside0.mk (hbox); have n3_ := Aside0.mk ((by rw [hg]; exact (below_size (by repeat (first | (with_reducible first | exact HB.out | apply below_alloc | apply pw_below_drewN | apply below_drew1 | refine below_set ?_ GE123.out) | exact HB.out))) : w.heap.size ≤ gb129)); have n4_ := Aside0.mk ((by rw [hg]; exact (below_size (by repeat (first | (with_reducible first | exact HB.out | apply below_alloc | apply pw_below_drewN | apply below_drew1 | refine below_set ?_ GE123.out) | exact HB.out))) : w.heap.size ≤ gb129)); have n5_ := Aside0.mk ((by rw [hg]; exact Nat.ne_of_lt (blk_lt (g := gb123) (o := .cells #[.int .u64 a3_0, .int .u64 a3_1] 35 (0, 0)) (by (with_reducible repeat (first | refine blk_drewN ?_ _ | refine blk_drew ?_ | refine blk_alloc ?_ _)); exact BK123.out)) : gb123 ≠ gb129)); have n6_ := Aside0.mk ((by rw [hg]; exact Nat.ne_of_gt (blk_lt (g := gb123) (o := .cells #[.int .u64 a3_0, .int .u64 a3_1] 35 (0, 0)) (by (with_reducible repeat (first | refine blk_drewN ?_ _ | refine blk_drew ?_ | refine blk_alloc ?_ _)); exact BK123.out)) : gb129 ≠ gb123)); clear BK123; clear HB; have BK123 := n0_; have HB := n1_; have BK129 := n2_; have GW129 := n3_; have GE129 := n4_; have NB123_129 := n5_; have NB129_123 := n6_; clear n0_ n1_ n2_ n3_ n4_ n5_ n6_; clear hb hbox hg; have hnb14 := NB129_123.out; have hnc14 := NB123_129.out; have hcz15_0 : w13.cell? ⟨gb129, 0, none⟩ = some (.int .i64 0) := (blk_cell BK129.out 0).trans rfl; have hcz15_1 : w13.cell? ⟨gb129, 1, none⟩ = some (.int .i64 0) := (blk_cell BK129.out 1).trans rfl; have hcz15_2 : w13.cell? ⟨gb129, 2, none⟩ = some (.int .i64 0) := (blk_cell BK129.out 2).trans rfl; have hcz15_3 : w13.cell? ⟨gb129, 3, none⟩ = some (.int .u64 0) := (blk_cell BK129.out 3).trans rfl; have hcz15_4 : w13.cell? ⟨gb129, 4, none⟩ = some (.int .u64 0) := (blk_cell BK129.out 4).trans rfl; have hfz15_0 := blk_frozen BK129.out 0; have hfz15_1 := blk_frozen BK129.out 1; have hfz15_2 := blk_frozen BK129.out 2; have hfz15_3 := blk_frozen BK129.out 3; have hfz15_4 := blk_frozen BK129.out 4) | ((with_reducible refine gate_callee (f := 23) rfl ?_); refine goesL_ (some 32) rfl rfl Try.func23 (by kernel_rfl) rfl #[.agg #[.int .i64 t124, .int .i64 t125, .int .i64 t126, .int .u64 t127, .int .u64 t128], .int .i64 (wrap64 (1 + (Int.tmod (wrap64 ((Int.tmod a4 1000) + 1000)) 1000)))] rfl (by (try simp only [List.map_toArray, List.map_cons, List.map_nil]); first | done | rfl | (simp only [List.length_drop, List.length_take]; rfl)) ?_; (with_reducible refine (limit_Draw.calls t124 t125 t126 t127 t128 (wrap64 (1 + (Int.tmod (wrap64 ((Int.tmod a4 1000) + 1000)) 1000))) t130 t131 t132 t133 t134 t135 t136 t137 t138 _ A7.out).mono ?_); rintro e w16 ⟨rfl, hb⟩; refine ⟨_, rfl, ?_⟩; have n0_ := Aside0.mk (blk_below (g := gb123) (o := .cells #[.int .u64 a3_0, .int .u64 a3_1] 35 (0, 0)) (by (with_reducible repeat (first | refine blk_drewN ?_ _ | refine blk_drew ?_ | refine blk_alloc ?_ _)); refine blk_far ?_ NB123_129.out _; (with_reducible repeat (first | refine blk_drewN ?_ _ | refine blk_drew ?_ | refine blk_alloc ?_ _)); refine blk_far ?_ NB123_129.out _; (with_reducible repeat (first | refine blk_drewN ?_ _ | refine blk_drew ?_ | refine blk_alloc ?_ _)); refine blk_far ?_ NB123_129.out _; (with_reducible repeat (first | refine blk_drewN ?_ _ | refine blk_drew ?_ | refine blk_alloc ?_ _)); refine blk_far ?_ NB123_129.out _; (with_reducible repeat (first | refine blk_drewN ?_ _ | refine blk_drew ?_ | refine blk_alloc ?_ _)); refine blk_far ?_ NB123_129.out _; (with_reducible repeat (first | refine blk_drewN ?_ _ | refine blk_drew ?_ | refine blk_alloc ?_ _)); exact BK123.out) hb); have n1_ := Aside0.mk (blk_below (g := gb129) (o := .cells #[.int .i64 t124, .int .i64 t125, .int .i64 t126, .int .u64 t127, .int .u64 t128] 37 (0, 0)) (by (with_reducible repeat (first | refine blk_drewN ?_ _ | refine blk_drew ?_ | refine blk_alloc ?_ _)); refine blk_put (cs := #[.int .i64 t124, .int .i64 t125, .int .i64 t126, .int .u64 t127, .int .u64 0]) ?_ 4 _ rfl; (with_reducible repeat (first | refine blk_drewN ?_ _ | refine blk_drew ?_ | refine blk_alloc ?_ _)); refine blk_put (cs := #[.int .i64 t124, .int .i64 t125, .int .i64 t126, .int .u64 0, .int .u64 0]) ?_ 3 _ rfl; (with_reducible repeat (first | refine blk_drewN ?_ _ | refine blk_drew ?_ | refine blk_alloc ?_ _)); refine blk_put (cs := #[.int .i64 t124, .int .i64 t125, .int .i64 0, .int .u64 0, .int .u64 0]) ?_ 2 _ rfl; (with_reducible repeat (first | refine blk_drewN ?_ _ | refine blk_drew ?_ | refine blk_alloc ?_ _)); refine blk_put (cs := #[.int .i64 t124, .int .i64 0, .int .i64 0, .int .u64 0, .int .u64 0]) ?_ 1 _ rfl; (with_reducible repeat (first | refine blk_drewN ?_ _ | refine blk_drew ?_ | refine blk_alloc ?_ _)); refine blk_put (cs := #[.int .i64 0, .int .i64 0, .int .i64 0, .int .u64 0, .int .u64 0]) ?_ 0 _ rfl; (with_reducible repeat (first | refine blk_drewN ?_ _ | refine blk_drew ?_ | refine blk_alloc ?_ _)); exact BK129.out) hb); have n2_ := Aside0.mk (below_step (by repeat (first | (with_reducible first | exact HB.out | apply below_alloc | apply pw_below_drewN | apply below_drew1 | refine below_set ?_ GE123.out | refine below_set ?_ GE129.out) | exact HB.out)) hb); clear BK123; clear BK129; clear HB; have BK123 := n0_; have BK129 := n1_; have HB := n2_; clear n0_ n1_ n2_; (try clear hb); (try clear hb2); (try clear hk); (try clear hi)) | ((with_reducible refine gate_dst (N := 12) rfl ?_); refine box_event ?hg (N := 12) ?hd (cs := #[.int .i64 0, .int .i64 0, .int .i64 0, .int .i64 0, .int .i64 0, .int .i64 0, .int .i64 0, .int .i64 0]) (t := 39) ?hr ?_; (case hd => rfl); (case hg => rfl); (case hr => first | (go_simp; done) | (go_simp; rfl)); intro gb139 hg w17 hbox hb; have n0_ := Aside0.mk (blk_below (g := gb123) (o := .cells #[.int .u64 a3_0, .int .u64 a3_1] 35 (0, 0)) (by (with_reducible repeat (first | refine blk_drewN ?_ _ | refine blk_drew ?_ | refine blk_alloc ?_ _)); exact BK123.out) hb); have n1_ := Aside0.mk (blk_below (g := gb129) (o := .cells #[.int .i64 t124, .int .i64 t125, .int .i64 t126, .int .u64 t127, .int .u64 t128] 37 (0, 0)) (by (with_reducible repeat (first | refine blk_drewN ?_ _ | refine blk_drew ?_ | refine blk_alloc ?_ _)); exact BK129.out) hb); have n2_ := Aside0.mk (below_step (by repeat (first | (with_reducible first | exact HB.out | apply below_alloc | apply pw_below_drewN | apply below_drew1 | refine below_set ?_ GE123.out | refine below_set ?_ GE129.out) | exact HB.out)) hb); have n3_ := Aside0.mk (hbox); have n4_ := Aside0.mk ((by rw [hg]; exact (below_size (by repeat (first | (with_reducible first | exact HB.out | apply below_alloc | apply pw_below_drewN | apply below_drew1 | refine below_set ?_ GE123.out | refine below_set ?_ GE129.out) | exact HB.out))) : w.heap.size ≤ gb139)); have n5_ := Aside0.mk ((by rw [hg]; exact (below_size (by repeat (first | (with_reducible first | exact HB.out | apply below_alloc | apply pw_below_drewN | apply below_drew1 | refine below_set ?_ GE123.out | refine below_set ?_ GE129.out) | exact HB.out))) : w.heap.size ≤ gb139)); have n6_ := Aside0.mk ((by rw [hg]; exact Nat.ne_of_lt (blk_lt (g := gb123) (o := .cells #[.int .u64 a3_0, .int .u64 a3_1] 35 (0, 0)) (by (with_reducible repeat (first | refine blk_drewN ?_ _ | refine blk_drew ?_ | refine blk_alloc ?_ _)); exact BK123.out)) : gb123 ≠ gb139)); have n7_ := Aside0.mk ((by rw [hg]; exact Nat.ne_of_gt (blk_lt (g := gb123) (o := .cells #[.int .u64 a3_0, .int .u64 a3_1] 35 (0, 0)) (by (with_reducible repeat (first | refine blk_drewN ?_ _ | refine blk_drew ?_ | refine blk_alloc ?_ _)); exact BK123.out)) : gb139 ≠ gb123)); have n8_ := Aside0.mk ((by rw [hg]; exact Nat.ne_of_lt (blk_lt (g := gb129) (o := .cells #[.int .i64 t124, .int .i64 t125, .int .i64 t126, .int .u64 t127, .int .u64 t128] 37 (0, 0)) (by (with_reducible repeat (first | refine blk_drewN ?_ _ | refine blk_drew ?_ | refine blk_alloc ?_ _)); exact BK129.out)) : gb129 ≠ gb139)); have n9_ := Aside0.mk ((by rw [hg]; exact Nat.ne_of_gt (blk_lt (g := gb129) (o := .cells #[.int .i64 t124, .int .i64 t125, .int .i64 t126, .int .u64 t127, .int .u64 t128] 37 (0, 0)) (by (with_reducible repeat (first | refine blk_drewN ?_ _ | refine blk_drew ?_ | refine blk_alloc ?_ _)); exact BK129.out)) : gb139 ≠ gb129)); clear BK123; clear BK129; clear HB; have BK123 := n0_; have BK129 := n1_; have HB := n2_; have BK139 := n3_; have GW139 := n4_; have GE139 := n5_; have NB123_139 := n6_; have NB139_123 := n7_; have NB129_139 := n8_; have NB139_129 := n9_; clear n0_ n1_ n2_ n3_ n4_ n5_ n6_ n7_ n8_ n9_; clear hb hbox hg; have hnb18 := NB139_123.out; have hnc18 := NB123_139.out; have hnb19 := NB139_129.out; have hnc19 := NB129_139.out; have hcz20_0 : w17.cell? ⟨gb139, 0, none⟩ = some (.int .i64 0) := (blk_cell BK139.out 0).trans rfl; have hcz20_1 : w17.cell? ⟨gb139, 1, none⟩ = some (.int .i64 0) := (blk_cell BK139.out 1).trans rfl; have hcz20_2 : w17.cell? ⟨gb139, 2, none⟩ = some (.int .i64 0) := (blk_cell BK139.out 2).trans rfl; have hcz20_3 : w17.cell? ⟨gb139, 3, none⟩ = some (.int .i64 0) := (blk_cell BK139.out 3).trans rfl; have hcz20_4 : w17.cell? ⟨gb139, 4, none⟩ = some (.int .i64 0) := (blk_cell BK139.out 4).trans rfl; have hcz20_5 : w17.cell? ⟨gb139, 5, none⟩ = some (.int .i64 0) := (blk_cell BK139.out 5).trans rfl; have hcz20_6 : w17.cell? ⟨gb139, 6, none⟩ = some (.int .i64 0) := (blk_cell BK139.out 6).trans rfl; have hcz20_7 : w17.cell? ⟨gb139, 7, none⟩ = some (.int .i64 0) := (blk_cell BK139.out 7).trans rfl; have hfz20_0 := blk_frozen BK139.out 0; have hfz20_1 := blk_frozen BK139.out 1; have hfz20_2 := blk_frozen BK139.out 2; have hfz20_3 := blk_frozen BK139.out 3; have hfz20_4 := blk_frozen BK139.out 4; have hfz20_5 := blk_frozen BK139.out 5; have hfz20_6 := blk_frozen BK139.out 6; have hfz20_7 := blk_frozen BK139.out 7) | ((with_reducible refine gate_callee (f := 30) rfl ?_); refine goesL_ (some 37) rfl rfl Try.func30 (by kernel_rfl) rfl #[.agg #[.int .i64 t130, .int .i64 t131, .int .i64 t132, .int .i64 t133, .int .i64 t134, .int .i64 t135, .int .i64 t136, .int .i64 t137]] rfl (by (try simp only [List.map_toArray, List.map_cons, List.map_nil]); first | done | rfl | (simp only [List.length_drop, List.length_take]; rfl)) ?_; (with_reducible refine (limit_Verdict.calls t130 t131 t132 t133 t134 t135 t136 t137 t140 t141 _ A8.out).mono ?_); rintro e w21 ⟨rfl, hb⟩; refine ⟨_, rfl, ?_⟩; have n0_ := Aside0.mk (blk_below (g := gb123) (o := .cells #[.int .u64 a3_0, .int .u64 a3_1] 35 (0, 0)) (by (with_reducible repeat (first | refine blk_drewN ?_ _ | refine blk_drew ?_ | refine blk_alloc ?_ _)); refine blk_far ?_ NB123_139.out _; (with_reducible repeat (first | refine blk_drewN ?_ _ | refine blk_drew ?_ | refine blk_alloc ?_ _)); refine blk_far ?_ NB123_139.out _; (with_reducible repeat (first | refine blk_drewN ?_ _ | refine blk_drew ?_ | refine blk_alloc ?_ _)); refine blk_far ?_ NB123_139.out _; (with_reducible repeat (first | refine blk_drewN ?_ _ | refine blk_drew ?_ | refine blk_alloc ?_ _)); refine blk_far ?_ NB123_139.out _; (with_reducible repeat (first | refine blk_drewN ?_ _ | refine blk_drew ?_ | refine blk_alloc ?_ _)); refine blk_far ?_ NB123_139.out _; (with_reducible repeat (first | refine blk_drewN ?_ _ | refine blk_drew ?_ | refine blk_alloc ?_ _)); refine blk_far ?_ NB123_139.out _; (with_reducible repeat (first | refine blk_drewN ?_ _ | refine blk_drew ?_ | refine blk_alloc ?_ _)); refine blk_far ?_ NB123_139.out _; (with_reducible repeat (first | refine blk_drewN ?_ _ | refine blk_drew ?_ | refine blk_alloc ?_ _)); refine blk_far ?_ NB123_139.out _; (with_reducible repeat (first | refine blk_drewN ?_ _ | refine blk_drew ?_ | refine blk_alloc ?_ _)); exact BK123.out) hb); have n1_ := Aside0.mk (blk_below (g := gb129) (o := .cells #[.int .i64 t124, .int .i64 t125, .int .i64 t126, .int .u64 t127, .int .u64 t128] 37 (0, 0)) (by (with_reducible repeat (first | refine blk_drewN ?_ _ | refine blk_drew ?_ | refine blk_alloc ?_ _)); refine blk_far ?_ NB129_139.out _; (with_reducible repeat (first | refine blk_drewN ?_ _ | refine blk_drew ?_ | refine blk_alloc ?_ _)); refine blk_far ?_ NB129_139.out _; (with_reducible repeat (first | refine blk_drewN ?_ _ | refine blk_drew ?_ | refine blk_alloc ?_ _)); refine blk_far ?_ NB129_139.out _; (with_reducible repeat (first | refine blk_drewN ?_ _ | refine blk_drew ?_ | refine blk_alloc ?_ _)); refine blk_far ?_ NB129_139.out _; (with_reducible repeat (first | refine blk_drewN ?_ _ | refine blk_drew ?_ | refine blk_alloc ?_ _)); refine blk_far ?_ NB129_139.out _; (with_reducible repeat (first | refine blk_drewN ?_ _ | refine blk_drew ?_ | refine blk_alloc ?_ _)); refine blk_far ?_ NB129_139.out _; (with_reducible repeat (first | refine blk_drewN ?_ _ | refine blk_drew ?_ | refine blk_alloc ?_ _)); refine blk_far ?_ NB129_139.out _; (with_reducible repeat (first | refine blk_drewN ?_ _ | refine blk_drew ?_ | refine blk_alloc ?_ _)); refine blk_far ?_ NB129_139.out _; (with_reducible repeat (first | refine blk_drewN ?_ _ | refine blk_drew ?_ | refine blk_alloc ?_ _)); exact BK129.out) hb); have n2_ := Aside0.mk (blk_below (g := gb139) (o := .cells #[.int .i64 t130, .int .i64 t131, .int .i64 t132, .int .i64 t133, .int .i64 t134, .int .i64 t135, .int .i64 t136, .int .i64 t137] 39 (0, 0)) (by (with_reducible repeat (first | refine blk_drewN ?_ _ | refine blk_drew ?_ | refine blk_alloc ?_ _)); refine blk_put (cs := #[.int .i64 t130, .int .i64 t131, .int .i64 t132, .int .i64 t133, .int .i64 t134, .int .i64 t135, .int .i64 t136, .int .i64 0]) ?_ 7 _ rfl; (with_reducible repeat (first | refine blk_drewN ?_ _ | refine blk_drew ?_ | refine blk_alloc ?_ _)); refine blk_put (cs := #[.int .i64 t130, .int .i64 t131, .int .i64 t132, .int .i64 t133, .int .i64 t134, .int .i64 t135, .int .i64 0, .int .i64 0]) ?_ 6 _ rfl; (with_reducible repeat (first | refine blk_drewN ?_ _ | refine blk_drew ?_ | refine blk_alloc ?_ _)); refine blk_put (cs := #[.int .i64 t130, .int .i64 t131, .int .i64 t132, .int .i64 t133, .int .i64 t134, .int .i64 0, .int .i64 0, .int .i64 0]) ?_ 5 _ rfl; (with_reducible repeat (first | refine blk_drewN ?_ _ | refine blk_drew ?_ | refine blk_alloc ?_ _)); refine blk_put (cs := #[.int .i64 t130, .int .i64 t131, .int .i64 t132, .int .i64 t133, .int .i64 0, .int .i64 0, .int .i64 0, .int .i64 0]) ?_ 4 _ rfl; (with_reducible repeat (first | refine blk_drewN ?_ _ | refine blk_drew ?_ | refine blk_alloc ?_ _)); refine blk_put (cs := #[.int .i64 t130, .int .i64 t131, .int .i64 t132, .int .i64 0, .int .i64 0, .int .i64 0, .int .i64 0, .int .i64 0]) ?_ 3 _ rfl; (with_reducible repeat (first | refine blk_drewN ?_ _ | refine blk_drew ?_ | refine blk_alloc ?_ _)); refine blk_put (cs := #[.int .i64 t130, .int .i64 t131, .int .i64 0, .int .i64 0, .int .i64 0, .int .i64 0, .int .i64 0, .int .i64 0]) ?_ 2 _ rfl; (with_reducible repeat (first | refine blk_drewN ?_ _ | refine blk_drew ?_ | refine blk_alloc ?_ _)); refine blk_put (cs := #[.int .i64 t130, .int .i64 0, .int .i64 0, .int .i64 0, .int .i64 0, .int .i64 0, .int .i64 0, .int .i64 0]) ?_ 1 _ rfl; (with_reducible repeat (first | refine blk_drewN ?_ _ | refine blk_drew ?_ | refine blk_alloc ?_ _)); refine blk_put (cs := #[.int .i64 0, .int .i64 0, .int .i64 0, .int .i64 0, .int .i64 0, .int .i64 0, .int .i64 0, .int .i64 0]) ?_ 0 _ rfl; (with_reducible repeat (first | refine blk_drewN ?_ _ | refine blk_drew ?_ | refine blk_alloc ?_ _)); exact BK139.out) hb); have n3_ := Aside0.mk (below_step (by repeat (first | (with_reducible first | exact HB.out | apply below_alloc | apply pw_below_drewN | apply below_drew1 | refine below_set ?_ GE123.out | refine below_set ?_ GE129.out | refine below_set ?_ GE139.out) | exact HB.out)) hb); clear BK123; clear BK129; clear BK139; clear HB; have BK123 := n0_; have BK129 := n1_; have BK139 := n2_; have HB := n3_; clear n0_ n1_ n2_ n3_; (try clear hb); (try clear hb2); (try clear hk); (try clear hi)))
  (try simp only [Act.put, List.setIfInBounds_toArray, List.set_cons_zero, List.set_cons_succ])
  go_cut [49] (fun v49 wc => ∃ (kq : Nat) (x49_8 : Bool), v49 = .bool x49_8 ∧ Aside0 (datumlaw17_LimitSure.j0 kq (wrap64 (1 + (Int.tmod (wrap64 ((Int.tmod a4 1000) + 1000)) 1000))) t140 x49_8 t124 t125 t126 t127 t128 = some r) ∧ Aside0 (kq ≤ k) ∧ Aside0 (wc.heap[gb123]? = some (.cells #[.int .u64 a3_0, .int .u64 a3_1] 35 (0, 0))) ∧ Aside0 (wc.heap[gb129]? = some (.cells #[.int .i64 t124, .int .i64 t125, .int .i64 t126, .int .u64 t127, .int .u64 t128] 37 (0, 0))) ∧ Aside0 (wc.heap[gb139]? = some (.cells #[.int .i64 t130, .int .i64 t131, .int .i64 t132, .int .i64 t133, .int .i64 t134, .int .i64 t135, .int .i64 t136, .int .i64 t137] 39 (0, 0))) ∧ Aside0 (Below w.heap.size w wc))
  case first =>
    have H := HC9.out
    clear HC9
    by_cases c22 : t138 = 0
    · rw [if_pos c22] at H
      have c22b0 : (t138 == 0) = true := beq_iff_eq.mpr c22
      have c22b1 : (t138 != 0) = false := bne_eq_false_iff_eq.mpr c22
      clear c22
      (first | rw [c22b0] | (simp only [i64_w, i32_w]; rw [c22b0]) | skip)
      by_cases c23 : t141 = 0
      · rw [if_pos c23] at H
        have c23b0 : (t141 == 0) = true := beq_iff_eq.mpr c23
        have c23b1 : (t141 != 0) = false := bne_eq_false_iff_eq.mpr c23
        clear c23
        replace H := Option.bind_eq_some_iff.mp H
        obtain ⟨t142, A240, H⟩ := H
        replace H : (datumlaw17_LimitSure.j0 k (wrap64 (1 + (Int.tmod (wrap64 ((Int.tmod a4 1000) + 1000)) 1000))) t140 (!t142) t124 t125 t126 t127 t128) = some r := H
        have A24 := Aside0.mk A240
        clear A240
        have H' := Aside0.mk H
        clear H
        go_wp2_with (first | (go_at_call 26; (with_reducible refine (datumlaw17_alive.calls  t142 _ A24.out).mono ?_); rintro e w25 ⟨rfl, hb⟩; have n0_ := Aside0.mk (blk_below (g := gb123) (o := .cells #[.int .u64 a3_0, .int .u64 a3_1] 35 (0, 0)) (by (with_reducible repeat (first | refine blk_drewN ?_ _ | refine blk_drew ?_ | refine blk_alloc ?_ _)); exact BK123.out) hb); have n1_ := Aside0.mk (blk_below (g := gb129) (o := .cells #[.int .i64 t124, .int .i64 t125, .int .i64 t126, .int .u64 t127, .int .u64 t128] 37 (0, 0)) (by (with_reducible repeat (first | refine blk_drewN ?_ _ | refine blk_drew ?_ | refine blk_alloc ?_ _)); exact BK129.out) hb); have n2_ := Aside0.mk (blk_below (g := gb139) (o := .cells #[.int .i64 t130, .int .i64 t131, .int .i64 t132, .int .i64 t133, .int .i64 t134, .int .i64 t135, .int .i64 t136, .int .i64 t137] 39 (0, 0)) (by (with_reducible repeat (first | refine blk_drewN ?_ _ | refine blk_drew ?_ | refine blk_alloc ?_ _)); exact BK139.out) hb); have n3_ := Aside0.mk (below_step (by repeat (first | (with_reducible first | exact HB.out | apply below_alloc | apply pw_below_drewN | apply below_drew1 | refine below_set ?_ GE123.out | refine below_set ?_ GE129.out | refine below_set ?_ GE139.out) | exact HB.out)) hb); clear BK123; clear BK129; clear BK139; clear HB; have BK123 := n0_; have BK129 := n1_; have BK139 := n2_; have HB := n3_; clear n0_ n1_ n2_ n3_; (try clear hb); (try clear hb2); (try clear hk); (try clear hi)))
        go_meet
        case rel => exact ⟨_, (!t142), (by first | rfl | (simp; done) | (simp [*]; done)), H', ⟨by first | omega | exact Nat.le_refl _⟩, ⟨by (with_reducible repeat (first | refine blk_drewN ?_ _ | refine blk_drew ?_ | refine blk_alloc ?_ _)); exact BK123.out⟩, ⟨by (with_reducible repeat (first | refine blk_drewN ?_ _ | refine blk_drew ?_ | refine blk_alloc ?_ _)); exact BK129.out⟩, ⟨by (with_reducible repeat (first | refine blk_drewN ?_ _ | refine blk_drew ?_ | refine blk_alloc ?_ _)); exact BK139.out⟩, ⟨by repeat (first | (with_reducible first | exact HB.out | apply below_alloc | apply pw_below_drewN | apply below_drew1 | refine below_set ?_ GE123.out | refine below_set ?_ GE129.out | refine below_set ?_ GE139.out) | exact HB.out)⟩⟩
      · rw [if_neg c23] at H
        have c23b0 : (t141 == 0) = false := beq_eq_false_iff_ne.mpr c23
        have c23b1 : (t141 != 0) = true := bne_iff_ne.mpr c23
        have H' := Aside0.mk H
        clear H
        go_wp2
        go_meet
        case rel => exact ⟨_, (true), (by first | rfl | (simp; done) | (simp [*]; done)), H', ⟨by first | omega | exact Nat.le_refl _⟩, ⟨by (with_reducible repeat (first | refine blk_drewN ?_ _ | refine blk_drew ?_ | refine blk_alloc ?_ _)); exact BK123.out⟩, ⟨by (with_reducible repeat (first | refine blk_drewN ?_ _ | refine blk_drew ?_ | refine blk_alloc ?_ _)); exact BK129.out⟩, ⟨by (with_reducible repeat (first | refine blk_drewN ?_ _ | refine blk_drew ?_ | refine blk_alloc ?_ _)); exact BK139.out⟩, ⟨by repeat (first | (with_reducible first | exact HB.out | apply below_alloc | apply pw_below_drewN | apply below_drew1 | refine below_set ?_ GE123.out | refine below_set ?_ GE129.out | refine below_set ?_ GE139.out) | exact HB.out)⟩⟩
    · rw [if_neg c22] at H
      have c22b0 : (t138 == 0) = false := beq_eq_false_iff_ne.mpr c22
      have c22b1 : (t138 != 0) = true := bne_iff_ne.mpr c22
      (first | rw [c22b0] | (simp only [i64_w, i32_w]; rw [c22b0]) | skip)
      have H' := Aside0.mk H
      clear H
      go_wp2
      go_meet
      case rel => exact ⟨_, (true), (by first | rfl | (simp; done) | (simp [*]; done)), H', ⟨by first | omega | exact Nat.le_refl _⟩, ⟨by (with_reducible repeat (first | refine blk_drewN ?_ _ | refine blk_drew ?_ | refine blk_alloc ?_ _)); exact BK123.out⟩, ⟨by (with_reducible repeat (first | refine blk_drewN ?_ _ | refine blk_drew ?_ | refine blk_alloc ?_ _)); exact BK129.out⟩, ⟨by (with_reducible repeat (first | refine blk_drewN ?_ _ | refine blk_drew ?_ | refine blk_alloc ?_ _)); exact BK139.out⟩, ⟨by repeat (first | (with_reducible first | exact HB.out | apply below_alloc | apply pw_below_drewN | apply below_drew1 | refine below_set ?_ GE123.out | refine below_set ?_ GE129.out | refine below_set ?_ GE139.out) | exact HB.out)⟩⟩
  case rest =>
    clear HC9
    try clear c1
    try clear c2
    try clear p2
    try clear c3
    try clear c5
    try clear p6
    try clear c14
    try clear c18
    try clear c19
    try clear c22
    try clear c22b0
    try clear c22b1
    try clear c23
    try clear c23b0
    try clear c23b1
    try clear hcz11_0
    try clear hcz11_1
    try clear hcz15_0
    try clear hcz15_1
    try clear hcz15_2
    try clear hcz15_3
    try clear hcz15_4
    try clear hcz20_0
    try clear hcz20_1
    try clear hcz20_2
    try clear hcz20_3
    try clear hcz20_4
    try clear hcz20_5
    try clear hcz20_6
    try clear hcz20_7
    try clear hfz11_0
    try clear hfz11_1
    try clear hfz15_0
    try clear hfz15_1
    try clear hfz15_2
    try clear hfz15_3
    try clear hfz15_4
    try clear hfz20_0
    try clear hfz20_1
    try clear hfz20_2
    try clear hfz20_3
    try clear hfz20_4
    try clear hfz20_5
    try clear hfz20_6
    try clear hfz20_7
    obtain ⟨kq, x49_8, rfl, HA, HJ8, BK123, BK129, BK139, HB⟩ := hcut
    cases kq with
    | zero => exact absurd HA.out (by simp [datumlaw17_LimitSure.j0])
    | succ kj8 =>
      have H := HA.out
      clear HA
      simp only [datumlaw17_LimitSure.j0] at H
      by_cases c26 : x49_8 = true
      · subst c26
        have H1 : (some false) = some r := by rw [if_pos rfl] at H; exact H
        clear H
        have H := H1
        clear H1
        obtain rfl := Option.some.inj H
        go_wp2
        go_ret
        exact ⟨by first | rfl | (simp [errW_none, errW_some] <;> rfl) | (simp [*, errW_none, errW_some] <;> rfl), by repeat (first | (with_reducible first | exact HB.out | apply below_alloc | apply pw_below_drewN | apply below_drew1 | refine below_set ?_ GE123.out | refine below_set ?_ GE129.out | refine below_set ?_ GE139.out) | exact HB.out)⟩
      · replace c26 := Bool.eq_false_iff.mpr c26
        subst c26
        have H1 : (if t140 = 1 then ((datumlaw17_beyond.f (IntKind.u64.wrap ((IntKind.u64.wrap (mx t126 (wrap64 (-t126)))) * (IntKind.u64.wrap ((wrap64 (1 + (Int.tmod (wrap64 ((Int.tmod a4 1000) + 1000)) 1000))))))) t127 t128 (IntKind.u64.wrap ((wrap64 (1 + (Int.tmod (wrap64 ((Int.tmod a4 1000) + 1000)) 1000)))))).bind fun t143 => (if t143 = true then (if t140 = 0 then ((datumlaw17_beyond.f (IntKind.u64.wrap ((IntKind.u64.wrap (mx t126 (wrap64 (-t126)))) * (IntKind.u64.wrap ((wrap64 (1 + (Int.tmod (wrap64 ((Int.tmod a4 1000) + 1000)) 1000))))))) t127 t128 (IntKind.u64.wrap ((wrap64 (1 + (Int.tmod (wrap64 ((Int.tmod a4 1000) + 1000)) 1000)))))).bind fun t144 => (datumlaw17_LimitSure.j1 kj8 t140 (IntKind.u64.wrap ((IntKind.u64.wrap (mx t126 (wrap64 (-t126)))) * (IntKind.u64.wrap ((wrap64 (1 + (Int.tmod (wrap64 ((Int.tmod a4 1000) + 1000)) 1000))))))) (IntKind.u64.wrap (3 * (IntKind.u64.wrap (t125)))) (IntKind.u64.wrap ((wrap64 (1 + (Int.tmod (wrap64 ((Int.tmod a4 1000) + 1000)) 1000))))) t144 t124 t125 t126 t127 t128)) else (datumlaw17_LimitSure.j1 kj8 t140 (IntKind.u64.wrap ((IntKind.u64.wrap (mx t126 (wrap64 (-t126)))) * (IntKind.u64.wrap ((wrap64 (1 + (Int.tmod (wrap64 ((Int.tmod a4 1000) + 1000)) 1000))))))) (IntKind.u64.wrap (3 * (IntKind.u64.wrap (t125)))) (IntKind.u64.wrap ((wrap64 (1 + (Int.tmod (wrap64 ((Int.tmod a4 1000) + 1000)) 1000))))) false t124 t125 t126 t127 t128)) else (datumlaw17_LimitSure.j1 kj8 t140 (IntKind.u64.wrap ((IntKind.u64.wrap (mx t126 (wrap64 (-t126)))) * (IntKind.u64.wrap ((wrap64 (1 + (Int.tmod (wrap64 ((Int.tmod a4 1000) + 1000)) 1000))))))) (IntKind.u64.wrap (3 * (IntKind.u64.wrap (t125)))) (IntKind.u64.wrap ((wrap64 (1 + (Int.tmod (wrap64 ((Int.tmod a4 1000) + 1000)) 1000))))) true t124 t125 t126 t127 t128))) else (if t140 = 0 then ((datumlaw17_beyond.f (IntKind.u64.wrap ((IntKind.u64.wrap (mx t126 (wrap64 (-t126)))) * (IntKind.u64.wrap ((wrap64 (1 + (Int.tmod (wrap64 ((Int.tmod a4 1000) + 1000)) 1000))))))) t127 t128 (IntKind.u64.wrap ((wrap64 (1 + (Int.tmod (wrap64 ((Int.tmod a4 1000) + 1000)) 1000)))))).bind fun t145 => (datumlaw17_LimitSure.j1 kj8 t140 (IntKind.u64.wrap ((IntKind.u64.wrap (mx t126 (wrap64 (-t126)))) * (IntKind.u64.wrap ((wrap64 (1 + (Int.tmod (wrap64 ((Int.tmod a4 1000) + 1000)) 1000))))))) (IntKind.u64.wrap (3 * (IntKind.u64.wrap (t125)))) (IntKind.u64.wrap ((wrap64 (1 + (Int.tmod (wrap64 ((Int.tmod a4 1000) + 1000)) 1000))))) t145 t124 t125 t126 t127 t128)) else (datumlaw17_LimitSure.j1 kj8 t140 (IntKind.u64.wrap ((IntKind.u64.wrap (mx t126 (wrap64 (-t126)))) * (IntKind.u64.wrap ((wrap64 (1 + (Int.tmod (wrap64 ((Int.tmod a4 1000) + 1000)) 1000))))))) (IntKind.u64.wrap (3 * (IntKind.u64.wrap (t125)))) (IntKind.u64.wrap ((wrap64 (1 + (Int.tmod (wrap64 ((Int.tmod a4 1000) + 1000)) 1000))))) false t124 t125 t126 t127 t128))) = some r := by rw [if_neg (show ¬ (false = true) by decide)] at H; exact H
        clear H
        have H := H1
        clear H1
        obtain ⟨ji27, hji27⟩ : ∃ j_ : Int, (mx t126 (wrap64 (-t126))) = j_ := ⟨_, rfl⟩
        replace H : (if t140 = 1 then ((datumlaw17_beyond.f (IntKind.u64.wrap ((IntKind.u64.wrap (ji27)) * (IntKind.u64.wrap ((wrap64 (1 + (Int.tmod (wrap64 ((Int.tmod a4 1000) + 1000)) 1000))))))) t127 t128 (IntKind.u64.wrap ((wrap64 (1 + (Int.tmod (wrap64 ((Int.tmod a4 1000) + 1000)) 1000)))))).bind fun t143 => (if t143 = true then (if t140 = 0 then ((datumlaw17_beyond.f (IntKind.u64.wrap ((IntKind.u64.wrap (ji27)) * (IntKind.u64.wrap ((wrap64 (1 + (Int.tmod (wrap64 ((Int.tmod a4 1000) + 1000)) 1000))))))) t127 t128 (IntKind.u64.wrap ((wrap64 (1 + (Int.tmod (wrap64 ((Int.tmod a4 1000) + 1000)) 1000)))))).bind fun t144 => (datumlaw17_LimitSure.j1 kj8 t140 (IntKind.u64.wrap ((IntKind.u64.wrap (ji27)) * (IntKind.u64.wrap ((wrap64 (1 + (Int.tmod (wrap64 ((Int.tmod a4 1000) + 1000)) 1000))))))) (IntKind.u64.wrap (3 * (IntKind.u64.wrap (t125)))) (IntKind.u64.wrap ((wrap64 (1 + (Int.tmod (wrap64 ((Int.tmod a4 1000) + 1000)) 1000))))) t144 t124 t125 t126 t127 t128)) else (datumlaw17_LimitSure.j1 kj8 t140 (IntKind.u64.wrap ((IntKind.u64.wrap (ji27)) * (IntKind.u64.wrap ((wrap64 (1 + (Int.tmod (wrap64 ((Int.tmod a4 1000) + 1000)) 1000))))))) (IntKind.u64.wrap (3 * (IntKind.u64.wrap (t125)))) (IntKind.u64.wrap ((wrap64 (1 + (Int.tmod (wrap64 ((Int.tmod a4 1000) + 1000)) 1000))))) false t124 t125 t126 t127 t128)) else (datumlaw17_LimitSure.j1 kj8 t140 (IntKind.u64.wrap ((IntKind.u64.wrap (ji27)) * (IntKind.u64.wrap ((wrap64 (1 + (Int.tmod (wrap64 ((Int.tmod a4 1000) + 1000)) 1000))))))) (IntKind.u64.wrap (3 * (IntKind.u64.wrap (t125)))) (IntKind.u64.wrap ((wrap64 (1 + (Int.tmod (wrap64 ((Int.tmod a4 1000) + 1000)) 1000))))) true t124 t125 t126 t127 t128))) else (if t140 = 0 then ((datumlaw17_beyond.f (IntKind.u64.wrap ((IntKind.u64.wrap (ji27)) * (IntKind.u64.wrap ((wrap64 (1 + (Int.tmod (wrap64 ((Int.tmod a4 1000) + 1000)) 1000))))))) t127 t128 (IntKind.u64.wrap ((wrap64 (1 + (Int.tmod (wrap64 ((Int.tmod a4 1000) + 1000)) 1000)))))).bind fun t145 => (datumlaw17_LimitSure.j1 kj8 t140 (IntKind.u64.wrap ((IntKind.u64.wrap (ji27)) * (IntKind.u64.wrap ((wrap64 (1 + (Int.tmod (wrap64 ((Int.tmod a4 1000) + 1000)) 1000))))))) (IntKind.u64.wrap (3 * (IntKind.u64.wrap (t125)))) (IntKind.u64.wrap ((wrap64 (1 + (Int.tmod (wrap64 ((Int.tmod a4 1000) + 1000)) 1000))))) t145 t124 t125 t126 t127 t128)) else (datumlaw17_LimitSure.j1 kj8 t140 (IntKind.u64.wrap ((IntKind.u64.wrap (ji27)) * (IntKind.u64.wrap ((wrap64 (1 + (Int.tmod (wrap64 ((Int.tmod a4 1000) + 1000)) 1000))))))) (IntKind.u64.wrap (3 * (IntKind.u64.wrap (t125)))) (IntKind.u64.wrap ((wrap64 (1 + (Int.tmod (wrap64 ((Int.tmod a4 1000) + 1000)) 1000))))) false t124 t125 t126 t127 t128))) = some r := by first | (rw [hji27] at H; exact H) | (simp only [hji27] at H ⊢; exact H)
        have hji27_ : (if t126 < (wrap64 (-t126)) then (wrap64 (-t126)) else t126) = ji27 := hji27
        have HC28 := Aside0.mk H
        clear H
        have hnb29 := NB129_123.out
        have hnc29 := NB123_129.out
        have hnb30 := NB129_139.out
        have hnc30 := NB139_129.out
        have hcz31_0 : wc.cell? ⟨gb129, 0, none⟩ = some (.int .i64 t124) := (blk_cell BK129.out 0).trans rfl
        have hcz31_1 : wc.cell? ⟨gb129, 1, none⟩ = some (.int .i64 t125) := (blk_cell BK129.out 1).trans rfl
        have hcz31_2 : wc.cell? ⟨gb129, 2, none⟩ = some (.int .i64 t126) := (blk_cell BK129.out 2).trans rfl
        have hcz31_3 : wc.cell? ⟨gb129, 3, none⟩ = some (.int .u64 t127) := (blk_cell BK129.out 3).trans rfl
        have hcz31_4 : wc.cell? ⟨gb129, 4, none⟩ = some (.int .u64 t128) := (blk_cell BK129.out 4).trans rfl
        have hfz31_0 := blk_frozen BK129.out 0
        have hfz31_1 := blk_frozen BK129.out 1
        have hfz31_2 := blk_frozen BK129.out 2
        have hfz31_3 := blk_frozen BK129.out 3
        have hfz31_4 := blk_frozen BK129.out 4
        go_upto_region 10 with (fail)
        go_cut [66] (fun v66 wc => ∃ (kq : Nat) (x66_27 : Bool), v66 = .bool x66_27 ∧ Aside0 (datumlaw17_LimitSure.j1 kq t140 (IntKind.u64.wrap ((IntKind.u64.wrap (ji27)) * (IntKind.u64.wrap ((wrap64 (1 + (Int.tmod (wrap64 ((Int.tmod a4 1000) + 1000)) 1000))))))) (IntKind.u64.wrap (3 * (IntKind.u64.wrap (t125)))) (IntKind.u64.wrap ((wrap64 (1 + (Int.tmod (wrap64 ((Int.tmod a4 1000) + 1000)) 1000))))) x66_27 t124 t125 t126 t127 t128 = some r) ∧ Aside0 (kq ≤ kj8) ∧ Aside0 (wc.heap[gb123]? = some (.cells #[.int .u64 a3_0, .int .u64 a3_1] 35 (0, 0))) ∧ Aside0 (wc.heap[gb129]? = some (.cells #[.int .i64 t124, .int .i64 t125, .int .i64 t126, .int .u64 t127, .int .u64 t128] 37 (0, 0))) ∧ Aside0 (wc.heap[gb139]? = some (.cells #[.int .i64 t130, .int .i64 t131, .int .i64 t132, .int .i64 t133, .int .i64 t134, .int .i64 t135, .int .i64 t136, .int .i64 t137] 39 (0, 0))) ∧ Aside0 (Below w.heap.size w wc))
        case first =>
          have H := HC28.out
          clear HC28
          by_cases c32 : t140 = 1
          · rw [if_pos c32] at H
            have c32b0 : (t140 == 1) = true := beq_iff_eq.mpr c32
            have c32b1 : (t140 != 1) = false := bne_eq_false_iff_eq.mpr c32
            clear c32
            (first | rw [c32b0] | (simp only [i64_w, i32_w]; rw [c32b0]) | skip)
            replace H := Option.bind_eq_some_iff.mp H
            obtain ⟨t143, A330, H⟩ := H
            replace H : (if t143 = true then (if t140 = 0 then ((datumlaw17_beyond.f (IntKind.u64.wrap ((IntKind.u64.wrap (ji27)) * (IntKind.u64.wrap ((wrap64 (1 + (Int.tmod (wrap64 ((Int.tmod a4 1000) + 1000)) 1000))))))) t127 t128 (IntKind.u64.wrap ((wrap64 (1 + (Int.tmod (wrap64 ((Int.tmod a4 1000) + 1000)) 1000)))))).bind fun t144 => (datumlaw17_LimitSure.j1 kj8 t140 (IntKind.u64.wrap ((IntKind.u64.wrap (ji27)) * (IntKind.u64.wrap ((wrap64 (1 + (Int.tmod (wrap64 ((Int.tmod a4 1000) + 1000)) 1000))))))) (IntKind.u64.wrap (3 * (IntKind.u64.wrap (t125)))) (IntKind.u64.wrap ((wrap64 (1 + (Int.tmod (wrap64 ((Int.tmod a4 1000) + 1000)) 1000))))) t144 t124 t125 t126 t127 t128)) else (datumlaw17_LimitSure.j1 kj8 t140 (IntKind.u64.wrap ((IntKind.u64.wrap (ji27)) * (IntKind.u64.wrap ((wrap64 (1 + (Int.tmod (wrap64 ((Int.tmod a4 1000) + 1000)) 1000))))))) (IntKind.u64.wrap (3 * (IntKind.u64.wrap (t125)))) (IntKind.u64.wrap ((wrap64 (1 + (Int.tmod (wrap64 ((Int.tmod a4 1000) + 1000)) 1000))))) false t124 t125 t126 t127 t128)) else (datumlaw17_LimitSure.j1 kj8 t140 (IntKind.u64.wrap ((IntKind.u64.wrap (ji27)) * (IntKind.u64.wrap ((wrap64 (1 + (Int.tmod (wrap64 ((Int.tmod a4 1000) + 1000)) 1000))))))) (IntKind.u64.wrap (3 * (IntKind.u64.wrap (t125)))) (IntKind.u64.wrap ((wrap64 (1 + (Int.tmod (wrap64 ((Int.tmod a4 1000) + 1000)) 1000))))) true t124 t125 t126 t127 t128)) = some r := H
            have A33 := Aside0.mk A330
            clear A330
            by_cases c34 : t143 = true
            · subst c34
              have H1 : (if t140 = 0 then ((datumlaw17_beyond.f (IntKind.u64.wrap ((IntKind.u64.wrap (ji27)) * (IntKind.u64.wrap ((wrap64 (1 + (Int.tmod (wrap64 ((Int.tmod a4 1000) + 1000)) 1000))))))) t127 t128 (IntKind.u64.wrap ((wrap64 (1 + (Int.tmod (wrap64 ((Int.tmod a4 1000) + 1000)) 1000)))))).bind fun t144 => (datumlaw17_LimitSure.j1 kj8 t140 (IntKind.u64.wrap ((IntKind.u64.wrap (ji27)) * (IntKind.u64.wrap ((wrap64 (1 + (Int.tmod (wrap64 ((Int.tmod a4 1000) + 1000)) 1000))))))) (IntKind.u64.wrap (3 * (IntKind.u64.wrap (t125)))) (IntKind.u64.wrap ((wrap64 (1 + (Int.tmod (wrap64 ((Int.tmod a4 1000) + 1000)) 1000))))) t144 t124 t125 t126 t127 t128)) else (datumlaw17_LimitSure.j1 kj8 t140 (IntKind.u64.wrap ((IntKind.u64.wrap (ji27)) * (IntKind.u64.wrap ((wrap64 (1 + (Int.tmod (wrap64 ((Int.tmod a4 1000) + 1000)) 1000))))))) (IntKind.u64.wrap (3 * (IntKind.u64.wrap (t125)))) (IntKind.u64.wrap ((wrap64 (1 + (Int.tmod (wrap64 ((Int.tmod a4 1000) + 1000)) 1000))))) false t124 t125 t126 t127 t128)) = some r := by rw [if_pos rfl] at H; exact H
              clear H
              have H := H1
              clear H1
              by_cases c35 : t140 = 0
              · exact absurd (beq_iff_eq.1 c32b0) (by omega)
              · rw [if_neg c35] at H
                have c35b0 : (t140 == 0) = false := beq_eq_false_iff_ne.mpr c35
                have c35b1 : (t140 != 0) = true := bne_iff_ne.mpr c35
                have H' := Aside0.mk H
                clear H
                have hnb43 := NB129_123.out
                have hnc43 := NB123_129.out
                have hnb44 := NB129_139.out
                have hnc44 := NB139_129.out
                have hcz45_0 : wc.cell? ⟨gb129, 0, none⟩ = some (.int .i64 t124) := (blk_cell BK129.out 0).trans rfl
                have hcz45_1 : wc.cell? ⟨gb129, 1, none⟩ = some (.int .i64 t125) := (blk_cell BK129.out 1).trans rfl
                have hcz45_2 : wc.cell? ⟨gb129, 2, none⟩ = some (.int .i64 t126) := (blk_cell BK129.out 2).trans rfl
                have hcz45_3 : wc.cell? ⟨gb129, 3, none⟩ = some (.int .u64 t127) := (blk_cell BK129.out 3).trans rfl
                have hcz45_4 : wc.cell? ⟨gb129, 4, none⟩ = some (.int .u64 t128) := (blk_cell BK129.out 4).trans rfl
                have hfz45_0 := blk_frozen BK129.out 0
                have hfz45_1 := blk_frozen BK129.out 1
                have hfz45_2 := blk_frozen BK129.out 2
                have hfz45_3 := blk_frozen BK129.out 3
                have hfz45_4 := blk_frozen BK129.out 4
                go_wp2_with (first | (go_at_call 31; (with_reducible refine (datumlaw17_beyond.calls (IntKind.u64.wrap ((IntKind.u64.wrap (ji27)) * (IntKind.u64.wrap ((wrap64 (1 + (Int.tmod (wrap64 ((Int.tmod a4 1000) + 1000)) 1000))))))) t127 t128 (IntKind.u64.wrap ((wrap64 (1 + (Int.tmod (wrap64 ((Int.tmod a4 1000) + 1000)) 1000))))) true _ A33.out).mono ?_); rintro e w46 ⟨rfl, hb⟩; have n0_ := Aside0.mk (blk_below (g := gb123) (o := .cells #[.int .u64 a3_0, .int .u64 a3_1] 35 (0, 0)) (by (with_reducible repeat (first | refine blk_drewN ?_ _ | refine blk_drew ?_ | refine blk_alloc ?_ _)); exact BK123.out) hb); have n1_ := Aside0.mk (blk_below (g := gb129) (o := .cells #[.int .i64 t124, .int .i64 t125, .int .i64 t126, .int .u64 t127, .int .u64 t128] 37 (0, 0)) (by (with_reducible repeat (first | refine blk_drewN ?_ _ | refine blk_drew ?_ | refine blk_alloc ?_ _)); exact BK129.out) hb); have n2_ := Aside0.mk (blk_below (g := gb139) (o := .cells #[.int .i64 t130, .int .i64 t131, .int .i64 t132, .int .i64 t133, .int .i64 t134, .int .i64 t135, .int .i64 t136, .int .i64 t137] 39 (0, 0)) (by (with_reducible repeat (first | refine blk_drewN ?_ _ | refine blk_drew ?_ | refine blk_alloc ?_ _)); exact BK139.out) hb); have n3_ := Aside0.mk (below_step (by repeat (first | (with_reducible first | exact HB.out | apply below_alloc | apply pw_below_drewN | apply below_drew1 | refine below_set ?_ GE123.out | refine below_set ?_ GE129.out | refine below_set ?_ GE139.out) | exact HB.out)) hb); clear BK123; clear BK129; clear BK139; clear HB; have BK123 := n0_; have BK129 := n1_; have BK139 := n2_; have HB := n3_; clear n0_ n1_ n2_ n3_; (try clear hb); (try clear hb2); (try clear hk); (try clear hi)))
                go_meet
                case rel => exact ⟨_, (false), (by first | rfl | (simp; done) | (simp [*]; done)), H', ⟨by have := HJ8.out; first | omega | exact Nat.le_refl _⟩, ⟨by (with_reducible repeat (first | refine blk_drewN ?_ _ | refine blk_drew ?_ | refine blk_alloc ?_ _)); exact BK123.out⟩, ⟨by (with_reducible repeat (first | refine blk_drewN ?_ _ | refine blk_drew ?_ | refine blk_alloc ?_ _)); exact BK129.out⟩, ⟨by (with_reducible repeat (first | refine blk_drewN ?_ _ | refine blk_drew ?_ | refine blk_alloc ?_ _)); exact BK139.out⟩, ⟨by repeat (first | (with_reducible first | exact HB.out | apply below_alloc | apply pw_below_drewN | apply below_drew1 | refine below_set ?_ GE123.out | refine below_set ?_ GE129.out | refine below_set ?_ GE139.out) | exact HB.out)⟩⟩
            · replace c34 := Bool.eq_false_iff.mpr c34
              subst c34
              have H1 : (datumlaw17_LimitSure.j1 kj8 t140 (IntKind.u64.wrap ((IntKind.u64.wrap (ji27)) * (IntKind.u64.wrap ((wrap64 (1 + (Int.tmod (wrap64 ((Int.tmod a4 1000) + 1000)) 1000))))))) (IntKind.u64.wrap (3 * (IntKind.u64.wrap (t125)))) (IntKind.u64.wrap ((wrap64 (1 + (Int.tmod (wrap64 ((Int.tmod a4 1000) + 1000)) 1000))))) true t124 t125 t126 t127 t128) = some r := by rw [if_neg (show ¬ (false = true) by decide)] at H; exact H
              clear H
              have H := H1
              clear H1
              have H' := Aside0.mk H
              clear H
              have hnb47 := NB129_123.out
              have hnc47 := NB123_129.out
              have hnb48 := NB129_139.out
              have hnc48 := NB139_129.out
              have hcz49_0 : wc.cell? ⟨gb129, 0, none⟩ = some (.int .i64 t124) := (blk_cell BK129.out 0).trans rfl
              have hcz49_1 : wc.cell? ⟨gb129, 1, none⟩ = some (.int .i64 t125) := (blk_cell BK129.out 1).trans rfl
              have hcz49_2 : wc.cell? ⟨gb129, 2, none⟩ = some (.int .i64 t126) := (blk_cell BK129.out 2).trans rfl
              have hcz49_3 : wc.cell? ⟨gb129, 3, none⟩ = some (.int .u64 t127) := (blk_cell BK129.out 3).trans rfl
              have hcz49_4 : wc.cell? ⟨gb129, 4, none⟩ = some (.int .u64 t128) := (blk_cell BK129.out 4).trans rfl
              have hfz49_0 := blk_frozen BK129.out 0
              have hfz49_1 := blk_frozen BK129.out 1
              have hfz49_2 := blk_frozen BK129.out 2
              have hfz49_3 := blk_frozen BK129.out 3
              have hfz49_4 := blk_frozen BK129.out 4
              go_wp2_with (first | (go_at_call 31; (with_reducible refine (datumlaw17_beyond.calls (IntKind.u64.wrap ((IntKind.u64.wrap (ji27)) * (IntKind.u64.wrap ((wrap64 (1 + (Int.tmod (wrap64 ((Int.tmod a4 1000) + 1000)) 1000))))))) t127 t128 (IntKind.u64.wrap ((wrap64 (1 + (Int.tmod (wrap64 ((Int.tmod a4 1000) + 1000)) 1000))))) false _ A33.out).mono ?_); rintro e w50 ⟨rfl, hb⟩; have n0_ := Aside0.mk (blk_below (g := gb123) (o := .cells #[.int .u64 a3_0, .int .u64 a3_1] 35 (0, 0)) (by (with_reducible repeat (first | refine blk_drewN ?_ _ | refine blk_drew ?_ | refine blk_alloc ?_ _)); exact BK123.out) hb); have n1_ := Aside0.mk (blk_below (g := gb129) (o := .cells #[.int .i64 t124, .int .i64 t125, .int .i64 t126, .int .u64 t127, .int .u64 t128] 37 (0, 0)) (by (with_reducible repeat (first | refine blk_drewN ?_ _ | refine blk_drew ?_ | refine blk_alloc ?_ _)); exact BK129.out) hb); have n2_ := Aside0.mk (blk_below (g := gb139) (o := .cells #[.int .i64 t130, .int .i64 t131, .int .i64 t132, .int .i64 t133, .int .i64 t134, .int .i64 t135, .int .i64 t136, .int .i64 t137] 39 (0, 0)) (by (with_reducible repeat (first | refine blk_drewN ?_ _ | refine blk_drew ?_ | refine blk_alloc ?_ _)); exact BK139.out) hb); have n3_ := Aside0.mk (below_step (by repeat (first | (with_reducible first | exact HB.out | apply below_alloc | apply pw_below_drewN | apply below_drew1 | refine below_set ?_ GE123.out | refine below_set ?_ GE129.out | refine below_set ?_ GE139.out) | exact HB.out)) hb); clear BK123; clear BK129; clear BK139; clear HB; have BK123 := n0_; have BK129 := n1_; have BK139 := n2_; have HB := n3_; clear n0_ n1_ n2_ n3_; (try clear hb); (try clear hb2); (try clear hk); (try clear hi)))
              go_meet
              case rel => exact ⟨_, (true), (by first | rfl | (simp; done) | (simp [*]; done)), H', ⟨by have := HJ8.out; first | omega | exact Nat.le_refl _⟩, ⟨by (with_reducible repeat (first | refine blk_drewN ?_ _ | refine blk_drew ?_ | refine blk_alloc ?_ _)); exact BK123.out⟩, ⟨by (with_reducible repeat (first | refine blk_drewN ?_ _ | refine blk_drew ?_ | refine blk_alloc ?_ _)); exact BK129.out⟩, ⟨by (with_reducible repeat (first | refine blk_drewN ?_ _ | refine blk_drew ?_ | refine blk_alloc ?_ _)); exact BK139.out⟩, ⟨by repeat (first | (with_reducible first | exact HB.out | apply below_alloc | apply pw_below_drewN | apply below_drew1 | refine below_set ?_ GE123.out | refine below_set ?_ GE129.out | refine below_set ?_ GE139.out) | exact HB.out)⟩⟩
          · rw [if_neg c32] at H
            have c32b0 : (t140 == 1) = false := beq_eq_false_iff_ne.mpr c32
            have c32b1 : (t140 != 1) = true := bne_iff_ne.mpr c32
            (first | rw [c32b0] | (simp only [i64_w, i32_w]; rw [c32b0]) | skip)
            by_cases c51 : t140 = 0
            · rw [if_pos c51] at H
              have c51b0 : (t140 == 0) = true := beq_iff_eq.mpr c51
              have c51b1 : (t140 != 0) = false := bne_eq_false_iff_eq.mpr c51
              clear c51
              replace H := Option.bind_eq_some_iff.mp H
              obtain ⟨t145, A520, H⟩ := H
              replace H : (datumlaw17_LimitSure.j1 kj8 t140 (IntKind.u64.wrap ((IntKind.u64.wrap (ji27)) * (IntKind.u64.wrap ((wrap64 (1 + (Int.tmod (wrap64 ((Int.tmod a4 1000) + 1000)) 1000))))))) (IntKind.u64.wrap (3 * (IntKind.u64.wrap (t125)))) (IntKind.u64.wrap ((wrap64 (1 + (Int.tmod (wrap64 ((Int.tmod a4 1000) + 1000)) 1000))))) t145 t124 t125 t126 t127 t128) = some r := H
              have A52 := Aside0.mk A520
              clear A520
              have H' := Aside0.mk H
              clear H
              have hnb53 := NB129_123.out
              have hnc53 := NB123_129.out
              have hnb54 := NB129_139.out
              have hnc54 := NB139_129.out
              have hcz55_0 : wc.cell? ⟨gb129, 0, none⟩ = some (.int .i64 t124) := (blk_cell BK129.out 0).trans rfl
              have hcz55_1 : wc.cell? ⟨gb129, 1, none⟩ = some (.int .i64 t125) := (blk_cell BK129.out 1).trans rfl
              have hcz55_2 : wc.cell? ⟨gb129, 2, none⟩ = some (.int .i64 t126) := (blk_cell BK129.out 2).trans rfl
              have hcz55_3 : wc.cell? ⟨gb129, 3, none⟩ = some (.int .u64 t127) := (blk_cell BK129.out 3).trans rfl
              have hcz55_4 : wc.cell? ⟨gb129, 4, none⟩ = some (.int .u64 t128) := (blk_cell BK129.out 4).trans rfl
              have hfz55_0 := blk_frozen BK129.out 0
              have hfz55_1 := blk_frozen BK129.out 1
              have hfz55_2 := blk_frozen BK129.out 2
              have hfz55_3 := blk_frozen BK129.out 3
              have hfz55_4 := blk_frozen BK129.out 4
              go_wp2_with (first | (go_at_call 31; (with_reducible refine (datumlaw17_beyond.calls (IntKind.u64.wrap ((IntKind.u64.wrap (ji27)) * (IntKind.u64.wrap ((wrap64 (1 + (Int.tmod (wrap64 ((Int.tmod a4 1000) + 1000)) 1000))))))) t127 t128 (IntKind.u64.wrap ((wrap64 (1 + (Int.tmod (wrap64 ((Int.tmod a4 1000) + 1000)) 1000))))) t145 _ A52.out).mono ?_); rintro e w56 ⟨rfl, hb⟩; have n0_ := Aside0.mk (blk_below (g := gb123) (o := .cells #[.int .u64 a3_0, .int .u64 a3_1] 35 (0, 0)) (by (with_reducible repeat (first | refine blk_drewN ?_ _ | refine blk_drew ?_ | refine blk_alloc ?_ _)); exact BK123.out) hb); have n1_ := Aside0.mk (blk_below (g := gb129) (o := .cells #[.int .i64 t124, .int .i64 t125, .int .i64 t126, .int .u64 t127, .int .u64 t128] 37 (0, 0)) (by (with_reducible repeat (first | refine blk_drewN ?_ _ | refine blk_drew ?_ | refine blk_alloc ?_ _)); exact BK129.out) hb); have n2_ := Aside0.mk (blk_below (g := gb139) (o := .cells #[.int .i64 t130, .int .i64 t131, .int .i64 t132, .int .i64 t133, .int .i64 t134, .int .i64 t135, .int .i64 t136, .int .i64 t137] 39 (0, 0)) (by (with_reducible repeat (first | refine blk_drewN ?_ _ | refine blk_drew ?_ | refine blk_alloc ?_ _)); exact BK139.out) hb); have n3_ := Aside0.mk (below_step (by repeat (first | (with_reducible first | exact HB.out | apply below_alloc | apply pw_below_drewN | apply below_drew1 | refine below_set ?_ GE123.out | refine below_set ?_ GE129.out | refine below_set ?_ GE139.out) | exact HB.out)) hb); clear BK123; clear BK129; clear BK139; clear HB; have BK123 := n0_; have BK129 := n1_; have BK139 := n2_; have HB := n3_; clear n0_ n1_ n2_ n3_; (try clear hb); (try clear hb2); (try clear hk); (try clear hi)))
              go_meet
              case rel => exact ⟨_, (t145), (by first | rfl | (simp; done) | (simp [*]; done)), H', ⟨by have := HJ8.out; first | omega | exact Nat.le_refl _⟩, ⟨by (with_reducible repeat (first | refine blk_drewN ?_ _ | refine blk_drew ?_ | refine blk_alloc ?_ _)); exact BK123.out⟩, ⟨by (with_reducible repeat (first | refine blk_drewN ?_ _ | refine blk_drew ?_ | refine blk_alloc ?_ _)); exact BK129.out⟩, ⟨by (with_reducible repeat (first | refine blk_drewN ?_ _ | refine blk_drew ?_ | refine blk_alloc ?_ _)); exact BK139.out⟩, ⟨by repeat (first | (with_reducible first | exact HB.out | apply below_alloc | apply pw_below_drewN | apply below_drew1 | refine below_set ?_ GE123.out | refine below_set ?_ GE129.out | refine below_set ?_ GE139.out) | exact HB.out)⟩⟩
            · rw [if_neg c51] at H
              have c51b0 : (t140 == 0) = false := beq_eq_false_iff_ne.mpr c51
              have c51b1 : (t140 != 0) = true := bne_iff_ne.mpr c51
              have H' := Aside0.mk H
              clear H
              go_wp2
              go_meet
              case rel => exact ⟨_, (false), (by first | rfl | (simp; done) | (simp [*]; done)), H', ⟨by have := HJ8.out; first | omega | exact Nat.le_refl _⟩, ⟨by (with_reducible repeat (first | refine blk_drewN ?_ _ | refine blk_drew ?_ | refine blk_alloc ?_ _)); exact BK123.out⟩, ⟨by (with_reducible repeat (first | refine blk_drewN ?_ _ | refine blk_drew ?_ | refine blk_alloc ?_ _)); exact BK129.out⟩, ⟨by (with_reducible repeat (first | refine blk_drewN ?_ _ | refine blk_drew ?_ | refine blk_alloc ?_ _)); exact BK139.out⟩, ⟨by repeat (first | (with_reducible first | exact HB.out | apply below_alloc | apply pw_below_drewN | apply below_drew1 | refine below_set ?_ GE123.out | refine below_set ?_ GE129.out | refine below_set ?_ GE139.out) | exact HB.out)⟩⟩
        case rest =>
          clear HC28
          try clear c1
          try clear c2
          try clear p2
          try clear c3
          try clear c4
          try clear c5
          try clear p6
          try clear c14
          try clear c18
          try clear c19
          try clear c22
          try clear c22b0
          try clear c22b1
          try clear c23
          try clear c23b0
          try clear c23b1
          try clear c26
          try clear c29
          try clear c30
          try clear c32
          try clear c32b0
          try clear c32b1
          try clear c34
          try clear c35
          try clear c35b0
          try clear c35b1
          try clear c37
          try clear c38
          try clear c43
          try clear c44
          try clear c47
          try clear c48
          try clear c51
          try clear c51b0
          try clear c51b1
          try clear c53
          try clear c54
          try clear hcz11_0
          try clear hcz11_1
          try clear hcz15_0
          try clear hcz15_1
          try clear hcz15_2
          try clear hcz15_3
          try clear hcz15_4
          try clear hcz20_0
          try clear hcz20_1
          try clear hcz20_2
          try clear hcz20_3
          try clear hcz20_4
          try clear hcz20_5
          try clear hcz20_6
          try clear hcz20_7
          try clear hcz31_0
          try clear hcz31_1
          try clear hcz31_2
          try clear hcz31_3
          try clear hcz31_4
          try clear hcz39_0
          try clear hcz39_1
          try clear hcz39_2
          try clear hcz39_3
          try clear hcz39_4
          try clear hcz41_0
          try clear hcz41_1
          try clear hcz41_2
          try clear hcz41_3
          try clear hcz41_4
          try clear hcz45_0
          try clear hcz45_1
          try clear hcz45_2
          try clear hcz45_3
          try clear hcz45_4
          try clear hcz49_0
          try clear hcz49_1
          try clear hcz49_2
          try clear hcz49_3
          try clear hcz49_4
          try clear hcz55_0
          try clear hcz55_1
          try clear hcz55_2
          try clear hcz55_3
          try clear hcz55_4
          try clear hfz11_0
          try clear hfz11_1
          try clear hfz15_0
          try clear hfz15_1
          try clear hfz15_2
          try clear hfz15_3
          try clear hfz15_4
          try clear hfz20_0
          try clear hfz20_1
          try clear hfz20_2
          try clear hfz20_3
          try clear hfz20_4
          try clear hfz20_5
          try clear hfz20_6
          try clear hfz20_7
          try clear hfz31_0
          try clear hfz31_1
          try clear hfz31_2
          try clear hfz31_3
          try clear hfz31_4
          try clear hfz39_0
          try clear hfz39_1
          try clear hfz39_2
          try clear hfz39_3
          try clear hfz39_4
          try clear hfz41_0
          try clear hfz41_1
          try clear hfz41_2
          try clear hfz41_3
          try clear hfz41_4
          try clear hfz45_0
          try clear hfz45_1
          try clear hfz45_2
          try clear hfz45_3
          try clear hfz45_4
          try clear hfz49_0
          try clear hfz49_1
          try clear hfz49_2
          try clear hfz49_3
          try clear hfz49_4
          try clear hfz55_0
          try clear hfz55_1
          try clear hfz55_2
          try clear hfz55_3
          try clear hfz55_4
          try clear p2
          try clear p6
          obtain ⟨kq, x66_27, rfl, HA, HJ27, BK123, BK129, BK139, HB⟩ := hcut
          cases kq with
          | zero => exact absurd HA.out (by simp [datumlaw17_LimitSure.j1])
          | succ kj27 =>
            have H := HA.out
            clear HA
            simp only [datumlaw17_LimitSure.j1] at H
            by_cases c57 : x66_27 = true
            · subst c57
              have H1 : (some false) = some r := by rw [if_pos rfl] at H; exact H
              clear H
              have H := H1
              clear H1
              obtain rfl := Option.some.inj H
              go_wp2
              go_ret
              exact ⟨by first | rfl | (simp [errW_none, errW_some] <;> rfl) | (simp only [← hji27]; first | rfl | (simp [errW_none, errW_some] <;> rfl)) | (simp [*, errW_none, errW_some] <;> rfl), by repeat (first | (with_reducible first | exact HB.out | apply below_alloc | apply pw_below_drewN | apply below_drew1 | refine below_set ?_ GE123.out | refine below_set ?_ GE129.out | refine below_set ?_ GE139.out) | exact HB.out)⟩
            · replace c57 := Bool.eq_false_iff.mpr c57
              subst c57
              have H1 : (if (IntKind.u64.wrap ((IntKind.u64.wrap (ji27)) * (IntKind.u64.wrap ((wrap64 (1 + (Int.tmod (wrap64 ((Int.tmod a4 1000) + 1000)) 1000))))))) > (IntKind.u64.wrap (3 * (IntKind.u64.wrap (t125)))) then ((datumlaw17_beyond.f (IntKind.u64.wrap ((IntKind.u64.wrap ((IntKind.u64.wrap (ji27)) * (IntKind.u64.wrap ((wrap64 (1 + (Int.tmod (wrap64 ((Int.tmod a4 1000) + 1000)) 1000))))))) - (IntKind.u64.wrap (3 * (IntKind.u64.wrap (t125)))))) t127 t128 (IntKind.u64.wrap ((wrap64 (1 + (Int.tmod (wrap64 ((Int.tmod a4 1000) + 1000)) 1000)))))).bind fun t146 => (datumlaw17_LimitSure.j2 kj27 t140 (IntKind.u64.wrap ((IntKind.u64.wrap (ji27)) * (IntKind.u64.wrap ((wrap64 (1 + (Int.tmod (wrap64 ((Int.tmod a4 1000) + 1000)) 1000))))))) (IntKind.u64.wrap (3 * (IntKind.u64.wrap (t125)))) (IntKind.u64.wrap ((wrap64 (1 + (Int.tmod (wrap64 ((Int.tmod a4 1000) + 1000)) 1000))))) t146 t124 t125 t126 t127 t128)) else (datumlaw17_LimitSure.j2 kj27 t140 (IntKind.u64.wrap ((IntKind.u64.wrap (ji27)) * (IntKind.u64.wrap ((wrap64 (1 + (Int.tmod (wrap64 ((Int.tmod a4 1000) + 1000)) 1000))))))) (IntKind.u64.wrap (3 * (IntKind.u64.wrap (t125)))) (IntKind.u64.wrap ((wrap64 (1 + (Int.tmod (wrap64 ((Int.tmod a4 1000) + 1000)) 1000))))) false t124 t125 t126 t127 t128)) = some r := by rw [if_neg (show ¬ (false = true) by decide)] at H; exact H
              clear H
              have H := H1
              clear H1
              have HC58 := Aside0.mk H
              clear H
              go_upto_region 12 with (fail)
              go_cut [88] (fun v88 wc => ∃ (kq : Nat) (x88_57 : Bool), v88 = .bool x88_57 ∧ Aside0 (datumlaw17_LimitSure.j2 kq t140 (IntKind.u64.wrap ((IntKind.u64.wrap (ji27)) * (IntKind.u64.wrap ((wrap64 (1 + (Int.tmod (wrap64 ((Int.tmod a4 1000) + 1000)) 1000))))))) (IntKind.u64.wrap (3 * (IntKind.u64.wrap (t125)))) (IntKind.u64.wrap ((wrap64 (1 + (Int.tmod (wrap64 ((Int.tmod a4 1000) + 1000)) 1000))))) x88_57 t124 t125 t126 t127 t128 = some r) ∧ Aside0 (kq ≤ kj27) ∧ Aside0 (wc.heap[gb123]? = some (.cells #[.int .u64 a3_0, .int .u64 a3_1] 35 (0, 0))) ∧ Aside0 (wc.heap[gb129]? = some (.cells #[.int .i64 t124, .int .i64 t125, .int .i64 t126, .int .u64 t127, .int .u64 t128] 37 (0, 0))) ∧ Aside0 (wc.heap[gb139]? = some (.cells #[.int .i64 t130, .int .i64 t131, .int .i64 t132, .int .i64 t133, .int .i64 t134, .int .i64 t135, .int .i64 t136, .int .i64 t137] 39 (0, 0))) ∧ Aside0 (Below w.heap.size w wc))
              case first =>
                have H := HC58.out
                clear HC58
                by_cases c59 : (IntKind.u64.wrap ((IntKind.u64.wrap (ji27)) * (IntKind.u64.wrap ((wrap64 (1 + (Int.tmod (wrap64 ((Int.tmod a4 1000) + 1000)) 1000))))))) > (IntKind.u64.wrap (3 * (IntKind.u64.wrap (t125))))
                · rw [if_pos c59] at H
                  have c59b0 : decide ((IntKind.u64.wrap (3 * (IntKind.u64.wrap (t125)))) < (IntKind.u64.wrap ((IntKind.u64.wrap (ji27)) * (IntKind.u64.wrap ((wrap64 (1 + (Int.tmod (wrap64 ((Int.tmod a4 1000) + 1000)) 1000)))))))) = true := decide_eq_true c59
                  clear c59
                  (first | rw [c59b0] | (simp only [i64_w, i32_w]; rw [c59b0]) | skip)
                  replace H := Option.bind_eq_some_iff.mp H
                  obtain ⟨t146, A600, H⟩ := H
                  replace H : (datumlaw17_LimitSure.j2 kj27 t140 (IntKind.u64.wrap ((IntKind.u64.wrap (ji27)) * (IntKind.u64.wrap ((wrap64 (1 + (Int.tmod (wrap64 ((Int.tmod a4 1000) + 1000)) 1000))))))) (IntKind.u64.wrap (3 * (IntKind.u64.wrap (t125)))) (IntKind.u64.wrap ((wrap64 (1 + (Int.tmod (wrap64 ((Int.tmod a4 1000) + 1000)) 1000))))) t146 t124 t125 t126 t127 t128) = some r := H
                  have A60 := Aside0.mk A600
                  clear A600
                  have H' := Aside0.mk H
                  clear H
                  have hnb61 := NB129_123.out
                  have hnc61 := NB123_129.out
                  have hnb62 := NB129_139.out
                  have hnc62 := NB139_129.out
                  have hcz63_0 : wc.cell? ⟨gb129, 0, none⟩ = some (.int .i64 t124) := (blk_cell BK129.out 0).trans rfl
                  have hcz63_1 : wc.cell? ⟨gb129, 1, none⟩ = some (.int .i64 t125) := (blk_cell BK129.out 1).trans rfl
                  have hcz63_2 : wc.cell? ⟨gb129, 2, none⟩ = some (.int .i64 t126) := (blk_cell BK129.out 2).trans rfl
                  have hcz63_3 : wc.cell? ⟨gb129, 3, none⟩ = some (.int .u64 t127) := (blk_cell BK129.out 3).trans rfl
                  have hcz63_4 : wc.cell? ⟨gb129, 4, none⟩ = some (.int .u64 t128) := (blk_cell BK129.out 4).trans rfl
                  have hfz63_0 := blk_frozen BK129.out 0
                  have hfz63_1 := blk_frozen BK129.out 1
                  have hfz63_2 := blk_frozen BK129.out 2
                  have hfz63_3 := blk_frozen BK129.out 3
                  have hfz63_4 := blk_frozen BK129.out 4
                  go_wp2_with (first | (go_at_call 31; (with_reducible refine (datumlaw17_beyond.calls (IntKind.u64.wrap ((IntKind.u64.wrap ((IntKind.u64.wrap (ji27)) * (IntKind.u64.wrap ((wrap64 (1 + (Int.tmod (wrap64 ((Int.tmod a4 1000) + 1000)) 1000))))))) - (IntKind.u64.wrap (3 * (IntKind.u64.wrap (t125)))))) t127 t128 (IntKind.u64.wrap ((wrap64 (1 + (Int.tmod (wrap64 ((Int.tmod a4 1000) + 1000)) 1000))))) t146 _ A60.out).mono ?_); rintro e w64 ⟨rfl, hb⟩; have n0_ := Aside0.mk (blk_below (g := gb123) (o := .cells #[.int .u64 a3_0, .int .u64 a3_1] 35 (0, 0)) (by (with_reducible repeat (first | refine blk_drewN ?_ _ | refine blk_drew ?_ | refine blk_alloc ?_ _)); exact BK123.out) hb); have n1_ := Aside0.mk (blk_below (g := gb129) (o := .cells #[.int .i64 t124, .int .i64 t125, .int .i64 t126, .int .u64 t127, .int .u64 t128] 37 (0, 0)) (by (with_reducible repeat (first | refine blk_drewN ?_ _ | refine blk_drew ?_ | refine blk_alloc ?_ _)); exact BK129.out) hb); have n2_ := Aside0.mk (blk_below (g := gb139) (o := .cells #[.int .i64 t130, .int .i64 t131, .int .i64 t132, .int .i64 t133, .int .i64 t134, .int .i64 t135, .int .i64 t136, .int .i64 t137] 39 (0, 0)) (by (with_reducible repeat (first | refine blk_drewN ?_ _ | refine blk_drew ?_ | refine blk_alloc ?_ _)); exact BK139.out) hb); have n3_ := Aside0.mk (below_step (by repeat (first | (with_reducible first | exact HB.out | apply below_alloc | apply pw_below_drewN | apply below_drew1 | refine below_set ?_ GE123.out | refine below_set ?_ GE129.out | refine below_set ?_ GE139.out) | exact HB.out)) hb); clear BK123; clear BK129; clear BK139; clear HB; have BK123 := n0_; have BK129 := n1_; have BK139 := n2_; have HB := n3_; clear n0_ n1_ n2_ n3_; (try clear hb); (try clear hb2); (try clear hk); (try clear hi)))
                  go_meet
                  case rel => exact ⟨_, (t146), (by first | rfl | (simp; done) | (simp [*]; done)), H', ⟨by have := HJ8.out; have := HJ27.out; first | omega | exact Nat.le_refl _⟩, ⟨by (with_reducible repeat (first | refine blk_drewN ?_ _ | refine blk_drew ?_ | refine blk_alloc ?_ _)); exact BK123.out⟩, ⟨by (with_reducible repeat (first | refine blk_drewN ?_ _ | refine blk_drew ?_ | refine blk_alloc ?_ _)); exact BK129.out⟩, ⟨by (with_reducible repeat (first | refine blk_drewN ?_ _ | refine blk_drew ?_ | refine blk_alloc ?_ _)); exact BK139.out⟩, ⟨by repeat (first | (with_reducible first | exact HB.out | apply below_alloc | apply pw_below_drewN | apply below_drew1 | refine below_set ?_ GE123.out | refine below_set ?_ GE129.out | refine below_set ?_ GE139.out) | exact HB.out)⟩⟩
                · rw [if_neg c59] at H
                  have c59b0 : decide ((IntKind.u64.wrap (3 * (IntKind.u64.wrap (t125)))) < (IntKind.u64.wrap ((IntKind.u64.wrap (ji27)) * (IntKind.u64.wrap ((wrap64 (1 + (Int.tmod (wrap64 ((Int.tmod a4 1000) + 1000)) 1000)))))))) = false := decide_eq_false c59
                  clear c59
                  (first | rw [c59b0] | (simp only [i64_w, i32_w]; rw [c59b0]) | skip)
                  have H' := Aside0.mk H
                  clear H
                  go_wp2
                  go_meet
                  case rel => exact ⟨_, (false), (by first | rfl | (simp; done) | (simp [*]; done)), H', ⟨by have := HJ8.out; have := HJ27.out; first | omega | exact Nat.le_refl _⟩, ⟨by (with_reducible repeat (first | refine blk_drewN ?_ _ | refine blk_drew ?_ | refine blk_alloc ?_ _)); exact BK123.out⟩, ⟨by (with_reducible repeat (first | refine blk_drewN ?_ _ | refine blk_drew ?_ | refine blk_alloc ?_ _)); exact BK129.out⟩, ⟨by (with_reducible repeat (first | refine blk_drewN ?_ _ | refine blk_drew ?_ | refine blk_alloc ?_ _)); exact BK139.out⟩, ⟨by repeat (first | (with_reducible first | exact HB.out | apply below_alloc | apply pw_below_drewN | apply below_drew1 | refine below_set ?_ GE123.out | refine below_set ?_ GE129.out | refine below_set ?_ GE139.out) | exact HB.out)⟩⟩
              case rest =>
                clear HC58
                try clear c1
                try clear c2
                try clear p2
                try clear c3
                try clear c4
                try clear c5
                try clear c6
                try clear p6
                try clear c14
                try clear c18
                try clear c19
                try clear c22
                try clear c22b0
                try clear c22b1
                try clear c23
                try clear c23b0
                try clear c23b1
                try clear c26
                try clear c29
                try clear c30
                try clear c32
                try clear c32b0
                try clear c32b1
                try clear c34
                try clear c35
                try clear c35b0
                try clear c35b1
                try clear c37
                try clear c38
                try clear c43
                try clear c44
                try clear c47
                try clear c48
                try clear c51
                try clear c51b0
                try clear c51b1
                try clear c53
                try clear c54
                try clear c57
                try clear c59
                try clear c59b0
                try clear c61
                try clear c62
                try clear p64
                try clear hcz11_0
                try clear hcz11_1
                try clear hcz15_0
                try clear hcz15_1
                try clear hcz15_2
                try clear hcz15_3
                try clear hcz15_4
                try clear hcz20_0
                try clear hcz20_1
                try clear hcz20_2
                try clear hcz20_3
                try clear hcz20_4
                try clear hcz20_5
                try clear hcz20_6
                try clear hcz20_7
                try clear hcz31_0
                try clear hcz31_1
                try clear hcz31_2
                try clear hcz31_3
                try clear hcz31_4
                try clear hcz39_0
                try clear hcz39_1
                try clear hcz39_2
                try clear hcz39_3
                try clear hcz39_4
                try clear hcz41_0
                try clear hcz41_1
                try clear hcz41_2
                try clear hcz41_3
                try clear hcz41_4
                try clear hcz45_0
                try clear hcz45_1
                try clear hcz45_2
                try clear hcz45_3
                try clear hcz45_4
                try clear hcz49_0
                try clear hcz49_1
                try clear hcz49_2
                try clear hcz49_3
                try clear hcz49_4
                try clear hcz55_0
                try clear hcz55_1
                try clear hcz55_2
                try clear hcz55_3
                try clear hcz55_4
                try clear hcz63_0
                try clear hcz63_1
                try clear hcz63_2
                try clear hcz63_3
                try clear hcz63_4
                try clear hfz11_0
                try clear hfz11_1
                try clear hfz15_0
                try clear hfz15_1
                try clear hfz15_2
                try clear hfz15_3
                try clear hfz15_4
                try clear hfz20_0
                try clear hfz20_1
                try clear hfz20_2
                try clear hfz20_3
                try clear hfz20_4
                try clear hfz20_5
                try clear hfz20_6
                try clear hfz20_7
                try clear hfz31_0
                try clear hfz31_1
                try clear hfz31_2
                try clear hfz31_3
                try clear hfz31_4
                try clear hfz39_0
                try clear hfz39_1
                try clear hfz39_2
                try clear hfz39_3
                try clear hfz39_4
                try clear hfz41_0
                try clear hfz41_1
                try clear hfz41_2
                try clear hfz41_3
                try clear hfz41_4
                try clear hfz45_0
                try clear hfz45_1
                try clear hfz45_2
                try clear hfz45_3
                try clear hfz45_4
                try clear hfz49_0
                try clear hfz49_1
                try clear hfz49_2
                try clear hfz49_3
                try clear hfz49_4
                try clear hfz55_0
                try clear hfz55_1
                try clear hfz55_2
                try clear hfz55_3
                try clear hfz55_4
                try clear hfz63_0
                try clear hfz63_1
                try clear hfz63_2
                try clear hfz63_3
                try clear hfz63_4
                try clear p2
                try clear p6
                obtain ⟨kq, x88_57, rfl, HA, HJ57, BK123, BK129, BK139, HB⟩ := hcut
                cases kq with
                | zero => exact absurd HA.out (by simp [datumlaw17_LimitSure.j2])
                | succ kj57 =>
                  have H := HA.out
                  clear HA
                  simp only [datumlaw17_LimitSure.j2] at H
                  by_cases c65 : x88_57 = true
                  · subst c65
                    have H1 : (some (t140 == 1)) = some r := by rw [if_pos rfl] at H; exact H
                    clear H
                    have H := H1
                    clear H1
                    obtain rfl := Option.some.inj H
                    go_wp2
                    go_ret
                    exact ⟨by first | rfl | (simp [errW_none, errW_some] <;> rfl) | (simp only [← hji27]; first | rfl | (simp [errW_none, errW_some] <;> rfl)) | (simp [*, errW_none, errW_some] <;> rfl), by repeat (first | (with_reducible first | exact HB.out | apply below_alloc | apply pw_below_drewN | apply below_drew1 | refine below_set ?_ GE123.out | refine below_set ?_ GE129.out | refine below_set ?_ GE139.out) | exact HB.out)⟩
                  · replace c65 := Bool.eq_false_iff.mpr c65
                    subst c65
                    have H1 : ((datumlaw17_beyond.f (IntKind.u64.wrap ((IntKind.u64.wrap ((IntKind.u64.wrap (ji27)) * (IntKind.u64.wrap ((wrap64 (1 + (Int.tmod (wrap64 ((Int.tmod a4 1000) + 1000)) 1000))))))) + (IntKind.u64.wrap (3 * (IntKind.u64.wrap (t125)))))) t127 t128 (IntKind.u64.wrap ((wrap64 (1 + (Int.tmod (wrap64 ((Int.tmod a4 1000) + 1000)) 1000)))))).bind fun t147 => (if t147 = true then (if t140 = 0 then (some true) else (if t140 = 1 then (some true) else (some (t140 == 2)))) else (some (t140 == 0)))) = some r := by rw [if_neg (show ¬ (false = true) by decide)] at H; exact H
                    clear H
                    have H := H1
                    clear H1
                    replace H := Option.bind_eq_some_iff.mp H
                    obtain ⟨t147, A660, H⟩ := H
                    replace H : (if t147 = true then (if t140 = 0 then (some true) else (if t140 = 1 then (some true) else (some (t140 == 2)))) else (some (t140 == 0))) = some r := H
                    have A66 := Aside0.mk A660
                    clear A660
                    by_cases c67 : t147 = true
                    · subst c67
                      have H1 : (if t140 = 0 then (some true) else (if t140 = 1 then (some true) else (some (t140 == 2)))) = some r := by rw [if_pos rfl] at H; exact H
                      clear H
                      have H := H1
                      clear H1
                      by_cases c68 : t140 = 0
                      · rw [if_pos c68] at H
                        have c68b0 : (t140 == 0) = true := beq_iff_eq.mpr c68
                        have c68b1 : (t140 != 0) = false := bne_eq_false_iff_eq.mpr c68
                        clear c68
                        obtain rfl := Option.some.inj H
                        have hnb69 := NB129_123.out
                        have hnc69 := NB123_129.out
                        have hnb70 := NB129_139.out
                        have hnc70 := NB139_129.out
                        have hcz71_0 : wc.cell? ⟨gb129, 0, none⟩ = some (.int .i64 t124) := (blk_cell BK129.out 0).trans rfl
                        have hcz71_1 : wc.cell? ⟨gb129, 1, none⟩ = some (.int .i64 t125) := (blk_cell BK129.out 1).trans rfl
                        have hcz71_2 : wc.cell? ⟨gb129, 2, none⟩ = some (.int .i64 t126) := (blk_cell BK129.out 2).trans rfl
                        have hcz71_3 : wc.cell? ⟨gb129, 3, none⟩ = some (.int .u64 t127) := (blk_cell BK129.out 3).trans rfl
                        have hcz71_4 : wc.cell? ⟨gb129, 4, none⟩ = some (.int .u64 t128) := (blk_cell BK129.out 4).trans rfl
                        have hfz71_0 := blk_frozen BK129.out 0
                        have hfz71_1 := blk_frozen BK129.out 1
                        have hfz71_2 := blk_frozen BK129.out 2
                        have hfz71_3 := blk_frozen BK129.out 3
                        have hfz71_4 := blk_frozen BK129.out 4
                        go_wp2_with (first | ((with_reducible refine gate_callee (f := 31) rfl ?_); refine goesL_ (some 110) rfl rfl Try.func31 (by kernel_rfl) rfl #[.int .u64 (IntKind.u64.wrap ((IntKind.u64.wrap ((IntKind.u64.wrap (ji27)) * (IntKind.u64.wrap ((wrap64 (1 + (Int.tmod (wrap64 ((Int.tmod a4 1000) + 1000)) 1000))))))) + (IntKind.u64.wrap (3 * (IntKind.u64.wrap (t125)))))), .agg #[.int .u64 t127, .int .u64 t128], .int .u64 (IntKind.u64.wrap ((wrap64 (1 + (Int.tmod (wrap64 ((Int.tmod a4 1000) + 1000)) 1000)))))] rfl (by (try simp only [List.map_toArray, List.map_cons, List.map_nil]); first | done | (simp only [hji27]; rfl) | rfl | (simp only [List.length_drop, List.length_take]; rfl)) ?_; (with_reducible refine (datumlaw17_beyond.calls (IntKind.u64.wrap ((IntKind.u64.wrap ((IntKind.u64.wrap (ji27)) * (IntKind.u64.wrap ((wrap64 (1 + (Int.tmod (wrap64 ((Int.tmod a4 1000) + 1000)) 1000))))))) + (IntKind.u64.wrap (3 * (IntKind.u64.wrap (t125)))))) t127 t128 (IntKind.u64.wrap ((wrap64 (1 + (Int.tmod (wrap64 ((Int.tmod a4 1000) + 1000)) 1000))))) true _ A66.out).mono ?_); rintro e w72 ⟨rfl, hb⟩; refine ⟨_, rfl, ?_⟩; have n0_ := Aside0.mk (blk_below (g := gb123) (o := .cells #[.int .u64 a3_0, .int .u64 a3_1] 35 (0, 0)) (by (with_reducible repeat (first | refine blk_drewN ?_ _ | refine blk_drew ?_ | refine blk_alloc ?_ _)); exact BK123.out) hb); have n1_ := Aside0.mk (blk_below (g := gb129) (o := .cells #[.int .i64 t124, .int .i64 t125, .int .i64 t126, .int .u64 t127, .int .u64 t128] 37 (0, 0)) (by (with_reducible repeat (first | refine blk_drewN ?_ _ | refine blk_drew ?_ | refine blk_alloc ?_ _)); exact BK129.out) hb); have n2_ := Aside0.mk (blk_below (g := gb139) (o := .cells #[.int .i64 t130, .int .i64 t131, .int .i64 t132, .int .i64 t133, .int .i64 t134, .int .i64 t135, .int .i64 t136, .int .i64 t137] 39 (0, 0)) (by (with_reducible repeat (first | refine blk_drewN ?_ _ | refine blk_drew ?_ | refine blk_alloc ?_ _)); exact BK139.out) hb); have n3_ := Aside0.mk (below_step (by repeat (first | (with_reducible first | exact HB.out | apply below_alloc | apply pw_below_drewN | apply below_drew1 | refine below_set ?_ GE123.out | refine below_set ?_ GE129.out | refine below_set ?_ GE139.out) | exact HB.out)) hb); clear BK123; clear BK129; clear BK139; clear HB; have BK123 := n0_; have BK129 := n1_; have BK139 := n2_; have HB := n3_; clear n0_ n1_ n2_ n3_; (try clear hb); (try clear hb2); (try clear hk); (try clear hi)))
                        go_ret
                        exact ⟨by first | rfl | (simp [errW_none, errW_some] <;> rfl) | (simp only [← hji27]; first | rfl | (simp [errW_none, errW_some] <;> rfl)) | (simp [*, errW_none, errW_some] <;> rfl), by repeat (first | (with_reducible first | exact HB.out | apply below_alloc | apply pw_below_drewN | apply below_drew1 | refine below_set ?_ GE123.out | refine below_set ?_ GE129.out | refine below_set ?_ GE139.out) | exact HB.out)⟩
                      · rw [if_neg c68] at H
                        have c68b0 : (t140 == 0) = false := beq_eq_false_iff_ne.mpr c68
                        have c68b1 : (t140 != 0) = true := bne_iff_ne.mpr c68
                        by_cases c73 : t140 = 1
                        · rw [if_pos c73] at H
                          have c73b0 : (t140 == 1) = true := beq_iff_eq.mpr c73
                          have c73b1 : (t140 != 1) = false := bne_eq_false_iff_eq.mpr c73
                          clear c73
                          obtain rfl := Option.some.inj H
                          have hnb74 := NB129_123.out
                          have hnc74 := NB123_129.out
                          have hnb75 := NB129_139.out
                          have hnc75 := NB139_129.out
                          have hcz76_0 : wc.cell? ⟨gb129, 0, none⟩ = some (.int .i64 t124) := (blk_cell BK129.out 0).trans rfl
                          have hcz76_1 : wc.cell? ⟨gb129, 1, none⟩ = some (.int .i64 t125) := (blk_cell BK129.out 1).trans rfl
                          have hcz76_2 : wc.cell? ⟨gb129, 2, none⟩ = some (.int .i64 t126) := (blk_cell BK129.out 2).trans rfl
                          have hcz76_3 : wc.cell? ⟨gb129, 3, none⟩ = some (.int .u64 t127) := (blk_cell BK129.out 3).trans rfl
                          have hcz76_4 : wc.cell? ⟨gb129, 4, none⟩ = some (.int .u64 t128) := (blk_cell BK129.out 4).trans rfl
                          have hfz76_0 := blk_frozen BK129.out 0
                          have hfz76_1 := blk_frozen BK129.out 1
                          have hfz76_2 := blk_frozen BK129.out 2
                          have hfz76_3 := blk_frozen BK129.out 3
                          have hfz76_4 := blk_frozen BK129.out 4
                          go_wp2_with (first | ((with_reducible refine gate_callee (f := 31) rfl ?_); refine goesL_ (some 110) rfl rfl Try.func31 (by kernel_rfl) rfl #[.int .u64 (IntKind.u64.wrap ((IntKind.u64.wrap ((IntKind.u64.wrap (ji27)) * (IntKind.u64.wrap ((wrap64 (1 + (Int.tmod (wrap64 ((Int.tmod a4 1000) + 1000)) 1000))))))) + (IntKind.u64.wrap (3 * (IntKind.u64.wrap (t125)))))), .agg #[.int .u64 t127, .int .u64 t128], .int .u64 (IntKind.u64.wrap ((wrap64 (1 + (Int.tmod (wrap64 ((Int.tmod a4 1000) + 1000)) 1000)))))] rfl (by (try simp only [List.map_toArray, List.map_cons, List.map_nil]); first | done | (simp only [hji27]; rfl) | rfl | (simp only [List.length_drop, List.length_take]; rfl)) ?_; (with_reducible refine (datumlaw17_beyond.calls (IntKind.u64.wrap ((IntKind.u64.wrap ((IntKind.u64.wrap (ji27)) * (IntKind.u64.wrap ((wrap64 (1 + (Int.tmod (wrap64 ((Int.tmod a4 1000) + 1000)) 1000))))))) + (IntKind.u64.wrap (3 * (IntKind.u64.wrap (t125)))))) t127 t128 (IntKind.u64.wrap ((wrap64 (1 + (Int.tmod (wrap64 ((Int.tmod a4 1000) + 1000)) 1000))))) true _ A66.out).mono ?_); rintro e w77 ⟨rfl, hb⟩; refine ⟨_, rfl, ?_⟩; have n0_ := Aside0.mk (blk_below (g := gb123) (o := .cells #[.int .u64 a3_0, .int .u64 a3_1] 35 (0, 0)) (by (with_reducible repeat (first | refine blk_drewN ?_ _ | refine blk_drew ?_ | refine blk_alloc ?_ _)); exact BK123.out) hb); have n1_ := Aside0.mk (blk_below (g := gb129) (o := .cells #[.int .i64 t124, .int .i64 t125, .int .i64 t126, .int .u64 t127, .int .u64 t128] 37 (0, 0)) (by (with_reducible repeat (first | refine blk_drewN ?_ _ | refine blk_drew ?_ | refine blk_alloc ?_ _)); exact BK129.out) hb); have n2_ := Aside0.mk (blk_below (g := gb139) (o := .cells #[.int .i64 t130, .int .i64 t131, .int .i64 t132, .int .i64 t133, .int .i64 t134, .int .i64 t135, .int .i64 t136, .int .i64 t137] 39 (0, 0)) (by (with_reducible repeat (first | refine blk_drewN ?_ _ | refine blk_drew ?_ | refine blk_alloc ?_ _)); exact BK139.out) hb); have n3_ := Aside0.mk (below_step (by repeat (first | (with_reducible first | exact HB.out | apply below_alloc | apply pw_below_drewN | apply below_drew1 | refine below_set ?_ GE123.out | refine below_set ?_ GE129.out | refine below_set ?_ GE139.out) | exact HB.out)) hb); clear BK123; clear BK129; clear BK139; clear HB; have BK123 := n0_; have BK129 := n1_; have BK139 := n2_; have HB := n3_; clear n0_ n1_ n2_ n3_; (try clear hb); (try clear hb2); (try clear hk); (try clear hi)))
                          go_ret
                          exact ⟨by first | rfl | (simp [errW_none, errW_some] <;> rfl) | (simp only [← hji27]; first | rfl | (simp [errW_none, errW_some] <;> rfl)) | (simp [*, errW_none, errW_some] <;> rfl), by repeat (first | (with_reducible first | exact HB.out | apply below_alloc | apply pw_below_drewN | apply below_drew1 | refine below_set ?_ GE123.out | refine below_set ?_ GE129.out | refine below_set ?_ GE139.out) | exact HB.out)⟩
                        · rw [if_neg c73] at H
                          have c73b0 : (t140 == 1) = false := beq_eq_false_iff_ne.mpr c73
                          have c73b1 : (t140 != 1) = true := bne_iff_ne.mpr c73
                          obtain rfl := Option.some.inj H
                          have hnb78 := NB129_123.out
                          have hnc78 := NB123_129.out
                          have hnb79 := NB129_139.out
                          have hnc79 := NB139_129.out
                          have hcz80_0 : wc.cell? ⟨gb129, 0, none⟩ = some (.int .i64 t124) := (blk_cell BK129.out 0).trans rfl
                          have hcz80_1 : wc.cell? ⟨gb129, 1, none⟩ = some (.int .i64 t125) := (blk_cell BK129.out 1).trans rfl
                          have hcz80_2 : wc.cell? ⟨gb129, 2, none⟩ = some (.int .i64 t126) := (blk_cell BK129.out 2).trans rfl
                          have hcz80_3 : wc.cell? ⟨gb129, 3, none⟩ = some (.int .u64 t127) := (blk_cell BK129.out 3).trans rfl
                          have hcz80_4 : wc.cell? ⟨gb129, 4, none⟩ = some (.int .u64 t128) := (blk_cell BK129.out 4).trans rfl
                          have hfz80_0 := blk_frozen BK129.out 0
                          have hfz80_1 := blk_frozen BK129.out 1
                          have hfz80_2 := blk_frozen BK129.out 2
                          have hfz80_3 := blk_frozen BK129.out 3
                          have hfz80_4 := blk_frozen BK129.out 4
                          go_wp2_with (first | ((with_reducible refine gate_callee (f := 31) rfl ?_); refine goesL_ (some 110) rfl rfl Try.func31 (by kernel_rfl) rfl #[.int .u64 (IntKind.u64.wrap ((IntKind.u64.wrap ((IntKind.u64.wrap (ji27)) * (IntKind.u64.wrap ((wrap64 (1 + (Int.tmod (wrap64 ((Int.tmod a4 1000) + 1000)) 1000))))))) + (IntKind.u64.wrap (3 * (IntKind.u64.wrap (t125)))))), .agg #[.int .u64 t127, .int .u64 t128], .int .u64 (IntKind.u64.wrap ((wrap64 (1 + (Int.tmod (wrap64 ((Int.tmod a4 1000) + 1000)) 1000)))))] rfl (by (try simp only [List.map_toArray, List.map_cons, List.map_nil]); first | done | (simp only [hji27]; rfl) | rfl | (simp only [List.length_drop, List.length_take]; rfl)) ?_; (with_reducible refine (datumlaw17_beyond.calls (IntKind.u64.wrap ((IntKind.u64.wrap ((IntKind.u64.wrap (ji27)) * (IntKind.u64.wrap ((wrap64 (1 + (Int.tmod (wrap64 ((Int.tmod a4 1000) + 1000)) 1000))))))) + (IntKind.u64.wrap (3 * (IntKind.u64.wrap (t125)))))) t127 t128 (IntKind.u64.wrap ((wrap64 (1 + (Int.tmod (wrap64 ((Int.tmod a4 1000) + 1000)) 1000))))) true _ A66.out).mono ?_); rintro e w81 ⟨rfl, hb⟩; refine ⟨_, rfl, ?_⟩; have n0_ := Aside0.mk (blk_below (g := gb123) (o := .cells #[.int .u64 a3_0, .int .u64 a3_1] 35 (0, 0)) (by (with_reducible repeat (first | refine blk_drewN ?_ _ | refine blk_drew ?_ | refine blk_alloc ?_ _)); exact BK123.out) hb); have n1_ := Aside0.mk (blk_below (g := gb129) (o := .cells #[.int .i64 t124, .int .i64 t125, .int .i64 t126, .int .u64 t127, .int .u64 t128] 37 (0, 0)) (by (with_reducible repeat (first | refine blk_drewN ?_ _ | refine blk_drew ?_ | refine blk_alloc ?_ _)); exact BK129.out) hb); have n2_ := Aside0.mk (blk_below (g := gb139) (o := .cells #[.int .i64 t130, .int .i64 t131, .int .i64 t132, .int .i64 t133, .int .i64 t134, .int .i64 t135, .int .i64 t136, .int .i64 t137] 39 (0, 0)) (by (with_reducible repeat (first | refine blk_drewN ?_ _ | refine blk_drew ?_ | refine blk_alloc ?_ _)); exact BK139.out) hb); have n3_ := Aside0.mk (below_step (by repeat (first | (with_reducible first | exact HB.out | apply below_alloc | apply pw_below_drewN | apply below_drew1 | refine below_set ?_ GE123.out | refine below_set ?_ GE129.out | refine below_set ?_ GE139.out) | exact HB.out)) hb); clear BK123; clear BK129; clear BK139; clear HB; have BK123 := n0_; have BK129 := n1_; have BK139 := n2_; have HB := n3_; clear n0_ n1_ n2_ n3_; (try clear hb); (try clear hb2); (try clear hk); (try clear hi)))
                          go_ret
                          exact ⟨by first | rfl | (simp [errW_none, errW_some] <;> rfl) | (simp only [← hji27]; first | rfl | (simp [errW_none, errW_some] <;> rfl)) | (simp [*, errW_none, errW_some] <;> rfl), by repeat (first | (with_reducible first | exact HB.out | apply below_alloc | apply pw_below_drewN | apply below_drew1 | refine below_set ?_ GE123.out | refine below_set ?_ GE129.out | refine below_set ?_ GE139.out) | exact HB.out)⟩
                    · replace c67 := Bool.eq_false_iff.mpr c67
                      subst c67
                      have H1 : (some (t140 == 0)) = some r := by rw [if_neg (show ¬ (false = true) by decide)] at H; exact H
                      clear H
                      have H := H1
                      clear H1
                      obtain rfl := Option.some.inj H
                      have hnb82 := NB129_123.out
                      have hnc82 := NB123_129.out
                      have hnb83 := NB129_139.out
                      have hnc83 := NB139_129.out
                      have hcz84_0 : wc.cell? ⟨gb129, 0, none⟩ = some (.int .i64 t124) := (blk_cell BK129.out 0).trans rfl
                      have hcz84_1 : wc.cell? ⟨gb129, 1, none⟩ = some (.int .i64 t125) := (blk_cell BK129.out 1).trans rfl
                      have hcz84_2 : wc.cell? ⟨gb129, 2, none⟩ = some (.int .i64 t126) := (blk_cell BK129.out 2).trans rfl
                      have hcz84_3 : wc.cell? ⟨gb129, 3, none⟩ = some (.int .u64 t127) := (blk_cell BK129.out 3).trans rfl
                      have hcz84_4 : wc.cell? ⟨gb129, 4, none⟩ = some (.int .u64 t128) := (blk_cell BK129.out 4).trans rfl
                      have hfz84_0 := blk_frozen BK129.out 0
                      have hfz84_1 := blk_frozen BK129.out 1
                      have hfz84_2 := blk_frozen BK129.out 2
                      have hfz84_3 := blk_frozen BK129.out 3
                      have hfz84_4 := blk_frozen BK129.out 4
                      go_wp2_with (first | ((with_reducible refine gate_callee (f := 31) rfl ?_); refine goesL_ (some 110) rfl rfl Try.func31 (by kernel_rfl) rfl #[.int .u64 (IntKind.u64.wrap ((IntKind.u64.wrap ((IntKind.u64.wrap (ji27)) * (IntKind.u64.wrap ((wrap64 (1 + (Int.tmod (wrap64 ((Int.tmod a4 1000) + 1000)) 1000))))))) + (IntKind.u64.wrap (3 * (IntKind.u64.wrap (t125)))))), .agg #[.int .u64 t127, .int .u64 t128], .int .u64 (IntKind.u64.wrap ((wrap64 (1 + (Int.tmod (wrap64 ((Int.tmod a4 1000) + 1000)) 1000)))))] rfl (by (try simp only [List.map_toArray, List.map_cons, List.map_nil]); first | done | (simp only [hji27]; rfl) | rfl | (simp only [List.length_drop, List.length_take]; rfl)) ?_; (with_reducible refine (datumlaw17_beyond.calls (IntKind.u64.wrap ((IntKind.u64.wrap ((IntKind.u64.wrap (ji27)) * (IntKind.u64.wrap ((wrap64 (1 + (Int.tmod (wrap64 ((Int.tmod a4 1000) + 1000)) 1000))))))) + (IntKind.u64.wrap (3 * (IntKind.u64.wrap (t125)))))) t127 t128 (IntKind.u64.wrap ((wrap64 (1 + (Int.tmod (wrap64 ((Int.tmod a4 1000) + 1000)) 1000))))) false _ A66.out).mono ?_); rintro e w85 ⟨rfl, hb⟩; refine ⟨_, rfl, ?_⟩; have n0_ := Aside0.mk (blk_below (g := gb123) (o := .cells #[.int .u64 a3_0, .int .u64 a3_1] 35 (0, 0)) (by (with_reducible repeat (first | refine blk_drewN ?_ _ | refine blk_drew ?_ | refine blk_alloc ?_ _)); exact BK123.out) hb); have n1_ := Aside0.mk (blk_below (g := gb129) (o := .cells #[.int .i64 t124, .int .i64 t125, .int .i64 t126, .int .u64 t127, .int .u64 t128] 37 (0, 0)) (by (with_reducible repeat (first | refine blk_drewN ?_ _ | refine blk_drew ?_ | refine blk_alloc ?_ _)); exact BK129.out) hb); have n2_ := Aside0.mk (blk_below (g := gb139) (o := .cells #[.int .i64 t130, .int .i64 t131, .int .i64 t132, .int .i64 t133, .int .i64 t134, .int .i64 t135, .int .i64 t136, .int .i64 t137] 39 (0, 0)) (by (with_reducible repeat (first | refine blk_drewN ?_ _ | refine blk_drew ?_ | refine blk_alloc ?_ _)); exact BK139.out) hb); have n3_ := Aside0.mk (below_step (by repeat (first | (with_reducible first | exact HB.out | apply below_alloc | apply pw_below_drewN | apply below_drew1 | refine below_set ?_ GE123.out | refine below_set ?_ GE129.out | refine below_set ?_ GE139.out) | exact HB.out)) hb); clear BK123; clear BK129; clear BK139; clear HB; have BK123 := n0_; have BK129 := n1_; have BK139 := n2_; have HB := n3_; clear n0_ n1_ n2_ n3_; (try clear hb); (try clear hb2); (try clear hk); (try clear hi)))
                      go_ret
                      exact ⟨by first | rfl | (simp [errW_none, errW_some] <;> rfl) | (simp only [← hji27]; first | rfl | (simp [errW_none, errW_some] <;> rfl)) | (simp [*, errW_none, errW_some] <;> rfl), by repeat (first | (with_reducible first | exact HB.out | apply below_alloc | apply pw_below_drewN | apply below_drew1 | refine below_set ?_ GE123.out | refine below_set ?_ GE129.out | refine below_set ?_ GE139.out) | exact HB.out)⟩

/-- THE ONE PURE STATEMENT of datumlaw17_LimitSure: yours. -/
def datumlaw17_LimitSure.Pure : Prop := ∀ (a0 : Int) (a1 : Int) (a2 : Int) (a3_0 : Int) (a3_1 : Int) (a4 : Int), (Lit.int .i64 a0).wf = true → (Lit.int .i64 a1).wf = true → (Lit.int .i64 a2).wf = true → (Lit.int .u64 a3_0).wf = true → (Lit.int .u64 a3_1).wf = true → (Lit.int .i64 a4).wf = true → ∃ k, datumlaw17_LimitSure.f k a0 a1 a2 a3_0 a3_1 a4 = some true
theorem datumlaw17_LimitSure.walk (P : datumlaw17_LimitSure.Pure) (a0 : Int) (a1 : Int) (a2 : Int) (a3_0 : Int) (a3_1 : Int) (a4 : Int) (w : World) (w0 : (Lit.int .i64 a0).wf = true) (w1 : (Lit.int .i64 a1).wf = true) (w2 : (Lit.int .i64 a2).wf = true) (w3_0 : (Lit.int .u64 a3_0).wf = true) (w3_1 : (Lit.int .u64 a3_1).wf = true) (w4 : (Lit.int .i64 a4).wf = true) :
    Calls Try.prog 5 #[.int .i64 a0, .int .i64 a1, .int .i64 a2, .agg #[.int .u64 a3_0, .int .u64 a3_1], .int .i64 a4] w fun e w' => e = .returned (.bool true) ∧ Below w.heap.size w w' := by
  obtain ⟨k, h⟩ := P a0 a1 a2 a3_0 a3_1 a4 w0 w1 w2 w3_0 w3_1 w4
  refine (datumlaw17_LimitSure.calls k a0 a1 a2 a3_0 a3_1 a4 true w h).mono ?_
  rintro e w' ⟨rfl, hd⟩
  exact ⟨rfl, hd⟩

end Go.Proofs.Ytkdfkpalgejkkaa.Pg
/-
  limit: plain numbers. How lines lie, and what a verdict says.
-/
set_option linter.unusedSimpArgs false
namespace Go.Proofs.Ytkdfkpalgejkkaa
open Go.RowKit

theorem wf_int {a : Int} (h : (Lit.int .i64 a).wf = true) : IsInt a := by
  have e1 : IntKind.i64.min = -9223372036854775808 := by decide
  have e2 : IntKind.i64.max = 9223372036854775807 := by decide
  unfold IsInt
  simp [Lit.wf, e1, e2] at h
  omega
theorem wf_word {a : Int} (h : (Lit.int .u64 a).wf = true) : Word a := by
  have e1 : IntKind.u64.min = 0 := by decide
  have e2 : IntKind.u64.max = 18446744073709551615 := by decide
  unfold Word
  simp [Lit.wf, e1, e2] at h
  omega
theorem tmod_bound (a : Int) {m : Int} (hm : 0 < m) : -m < Int.tmod a m ∧ Int.tmod a m < m := by
  constructor
  · have := Int.lt_tmod_of_pos a hm
    omega
  · exact Int.tmod_lt_of_pos a hm
/-- A number from 1 to m out of any one. -/
theorem one_to {a m : Int} (hm : 0 < m) (hm2 : m ≤ 1000000000000000) : 1 ≤ wrap64 (1 + Int.tmod (wrap64 (Int.tmod a m + m)) m) ∧ wrap64 (1 + Int.tmod (wrap64 (Int.tmod a m + m)) m) ≤ m := by
  obtain ⟨h1, h2⟩ := tmod_bound a hm
  have e : wrap64 (Int.tmod a m + m) = Int.tmod a m + m := by unfold wrap64; omega
  rw [e]
  obtain ⟨h3, h4⟩ := tmod_bound (Int.tmod a m + m) hm
  have h5 : 0 ≤ Int.tmod (Int.tmod a m + m) m := Int.tmod_nonneg _ (by omega)
  have e2 : wrap64 (1 + Int.tmod (Int.tmod a m + m) m) = 1 + Int.tmod (Int.tmod a m + m) m := by unfold wrap64; omega
  rw [e2]
  omega

theorem fl_succ {x d : Int} (hd : 1 ≤ d) : fl (x + 1) d ≤ fl x d + 1 := by
  have h := lt_fl_mul (p := x) (c := d) (by omega)
  have h2 : ¬ fl x d + 2 ≤ fl (x + 1) d := fun k => by
    have := (le_fl (p := x + 1) (c := d) (by omega)).1 k
    have e : (fl x d + 2) * d = (fl x d + 1) * d + d := by grind
    omega
  omega
theorem cl_pred {x d : Int} (hd : 1 ≤ d) : cl x d ≤ cl (x - 1) d + 1 := by
  have h := le_cl_mul (p := x - 1) (c := d) (by omega)
  refine (cl_le (by omega)).2 ?_
  have e : (cl (x - 1) d + 1) * d = cl (x - 1) d * d + d := by grind
  omega

section
variable {d mid r u : Int} (hd : 1 ≤ d) (hru : r ≤ u) (hur : u ≤ r + 1)
include hd hru hur
theorem low_wide : fl (mid - u) d ≤ cl (mid - r) d ∧ cl (mid - r) d - fl (mid - u) d ≤ 2 := by
  have h1 := cl_le_fl (p := mid - r) (c := d) (by omega)
  have h2 : fl (mid - r) d ≤ fl (mid - u + 1) d := fl_mono (by omega) (by omega)
  have h3 := fl_succ (x := mid - u) hd
  have h4 : fl (mid - u) d ≤ fl (mid - r) d := fl_mono (by omega) (by omega)
  have h5 := fl_le_cl (p := mid - r) (c := d) (by omega)
  omega
theorem high_wide : fl (mid + r) d ≤ cl (mid + u) d ∧ cl (mid + u) d - fl (mid + r) d ≤ 2 := by
  have h1 := cl_le_fl (p := mid + u) (c := d) (by omega)
  have h2 : fl (mid + u) d ≤ fl (mid + r + 1) d := fl_mono (by omega) (by omega)
  have h3 := fl_succ (x := mid + r) hd
  have h4 : fl (mid + r) d ≤ fl (mid + u) d := fl_mono (by omega) (by omega)
  have h5 := fl_le_cl (p := mid + u) (c := d) (by omega)
  omega
end
theorem one_wide {x d : Int} (hd : 1 ≤ d) : fl x d ≤ cl x d ∧ cl x d - fl x d ≤ 1 := by
  have h1 := cl_le_fl (p := x) (c := d) (by omega)
  have h5 := fl_le_cl (p := x) (c := d) (by omega)
  omega

/-- The verdict of a value that is D beyond the middle. -/
def verd (mid D d r u : Int) : Int := told (fl (mid - u) d) (cl (mid - r) d) (fl (mid + r) d) (cl (mid + u) d) (fl (mid + D) d) (cl (mid + D) d)
theorem verd_cases (mid D d r u : Int) : verd mid D d r u = 0 ∨ verd mid D d r u = 1 ∨ verd mid D d r u = 2 := by
  unfold verd told
  split
  · exact .inr (.inl rfl)
  · split
    · exact .inr (.inr rfl)
    · exact .inl rfl
theorem verd_out {d mid D r u : Int} (hd : 1 ≤ d) (hr0 : 0 ≤ r) (hru : r ≤ u) (h : verd mid D d r u = 1) : u * u < D * D := by
  unfold verd told at h
  have hd0 : (0 : Int) < d := by omega
  split at h
  · rename_i hh
    rcases hh with hh | hh
    · have h1 := le_cl_mul (p := mid + u) hd0
      have h2 := fl_mul_le (p := mid + D) hd0
      have h3 : cl (mid + u) d * d ≤ (fl (mid + D) d) * d := Int.mul_le_mul_of_nonneg_right (by omega) (by omega)
      have h4 : (cl (mid + u) d + 1) * d ≤ (fl (mid + D) d) * d := Int.mul_le_mul_of_nonneg_right (by omega) (by omega)
      have e : (cl (mid + u) d + 1) * d = cl (mid + u) d * d + d := by grind
      exact sq_lt_sq (by omega) (by omega)
    · have h1 := le_cl_mul (p := mid + D) hd0
      have h2 := fl_mul_le (p := mid - u) hd0
      have h4 : (cl (mid + D) d + 1) * d ≤ (fl (mid - u) d) * d := Int.mul_le_mul_of_nonneg_right (by omega) (by omega)
      have e : (cl (mid + D) d + 1) * d = cl (mid + D) d * d + d := by grind
      have := sq_lt_sq (x := u) (y := -D) (by omega) (by omega)
      rwa [Int.neg_mul_neg] at this
  · split at h <;> omega
theorem verd_in {d mid D r u : Int} (hd : 1 ≤ d) (h : verd mid D d r u = 0) : D * D ≤ r * r := by
  unfold verd told at h
  have hd0 : (0 : Int) < d := by omega
  split at h
  · omega
  · split at h
    · omega
    · rename_i h1 h2
      have a1 := le_cl_mul (p := mid + D) hd0
      have a2 := fl_mul_le (p := mid + r) hd0
      have a3 : cl (mid + D) d * d ≤ fl (mid + r) d * d := Int.mul_le_mul_of_nonneg_right (by omega) (by omega)
      have b1 := le_cl_mul (p := mid - r) hd0
      have b2 := fl_mul_le (p := mid + D) hd0
      have b3 : cl (mid - r) d * d ≤ fl (mid + D) d * d := Int.mul_le_mul_of_nonneg_right (by omega) (by omega)
      by_cases hD : 0 ≤ D
      · exact sq_le_sq hD (by omega)
      · have := sq_le_sq (x := -D) (y := r) (by omega) (by omega)
        rwa [Int.neg_mul_neg] at this
theorem out_verd {d mid D r u : Int} (hd : 1 ≤ d) (h : u + 3 * d ≤ absZ D) : verd mid D d r u = 1 := by
  have hd0 : (0 : Int) < d := by omega
  unfold verd told
  rw [if_pos]
  unfold absZ at h
  split at h
  · right
    have a1 := cl_mul_lt (p := mid + D) hd0
    have a2 := lt_fl_mul (p := mid - u) hd0
    have e1 : (cl (mid + D) d - 1) * d = cl (mid + D) d * d - d := by grind
    have e2 : (fl (mid - u) d + 1) * d = fl (mid - u) d * d + d := by grind
    have : cl (mid + D) d * d < fl (mid - u) d * d := by omega
    exact Int.lt_of_mul_lt_mul_right this (by omega)
  · left
    have a1 := cl_mul_lt (p := mid + u) hd0
    have a2 := lt_fl_mul (p := mid + D) hd0
    have e1 : (cl (mid + u) d - 1) * d = cl (mid + u) d * d - d := by grind
    have e2 : (fl (mid + D) d + 1) * d = fl (mid + D) d * d + d := by grind
    have : cl (mid + u) d * d < fl (mid + D) d * d := by omega
    exact Int.lt_of_mul_lt_mul_right this (by omega)
theorem in_verd {d mid D r u : Int} (hd : 1 ≤ d) (hru : r ≤ u) (h : absZ D + 3 * d ≤ r) : verd mid D d r u = 0 := by
  have hd0 : (0 : Int) < d := by omega
  have hD : -r + 3 * d ≤ D ∧ D ≤ r - 3 * d := by unfold absZ at h; split at h <;> omega
  have k1 : cl (mid + D) d ≤ fl (mid + r) d := by
    have a1 := cl_mul_lt (p := mid + D) hd0
    have a2 := lt_fl_mul (p := mid + r) hd0
    have e1 : (cl (mid + D) d - 1) * d = cl (mid + D) d * d - d := by grind
    have e2 : (fl (mid + r) d + 1) * d = fl (mid + r) d * d + d := by grind
    exact Int.le_of_lt (Int.lt_of_mul_lt_mul_right (show cl (mid + D) d * d < fl (mid + r) d * d by omega) (by omega))
  have k2 : cl (mid - r) d ≤ fl (mid + D) d := by
    have a1 := cl_mul_lt (p := mid - r) hd0
    have a2 := lt_fl_mul (p := mid + D) hd0
    have e1 : (cl (mid - r) d - 1) * d = cl (mid - r) d * d - d := by grind
    have e2 : (fl (mid + D) d + 1) * d = fl (mid + D) d * d + d := by grind
    exact Int.le_of_lt (Int.lt_of_mul_lt_mul_right (show cl (mid - r) d * d < fl (mid + D) d * d by omega) (by omega))
  have k3 := fl_le_cl (p := mid + D) (c := d) (by omega)
  have k4 : fl (mid + r) d ≤ fl (mid + u) d := fl_mono hd0 (by omega)
  have k5 := fl_le_cl (p := mid + u) (c := d) (by omega)
  have k6 : fl (mid - u) d ≤ fl (mid - r) d := fl_mono hd0 (by omega)
  have k7 := fl_le_cl (p := mid - r) (c := d) (by omega)
  unfold verd told
  rw [if_neg (by omega), if_neg (by omega)]
end Go.Proofs.Ytkdfkpalgejkkaa
/-
  datumlaw17.LimitSure: the statement over numbers alone.
-/
set_option linter.unusedSimpArgs false
namespace Go.Proofs.Ytkdfkpalgejkkaa.PureSure
open Go.RowKit Go.Proofs.Ytkdfkpalgejkkaa Go.Proofs.Ytkdfkpalgejkkaa.Pg Go.Proofs.YtkdfkpalgejkkaaW.PrintWords Go.Proofs.YtkdfkpalgejkkaaW.PrintLast

theorem alive17 : datumlaw17_alive.f = some true := by
  have hA : rad 0 4 10 = 3600 := by decide
  have h1 : isqrt 3600 = 60 := isqrt_eq (by omega) (by omega) (by omega)
  have h2 : usqrt 3600 = 60 := by unfold usqrt; rw [h1]; rfl
  have hD : limit_Draw.f 5 1 7 0 4 10 = some (-10, -10, 50, 50, 110, 110, 120, 120, 0) := by
    unfold limit_Draw.f
    rw [if_pos (by decide), if_pos (by decide), if_pos (by decide), hA, h1, h2]
    rfl
  unfold datumlaw17_alive.f
  rw [hD]
  simp only [Option.bind_some]
  have hV : limit_Verdict.f (-10) (-10) 50 50 110 110 120 120 = some (1, 0) := by
    unfold limit_Verdict.f told
    rw [if_pos (by omega), if_pos (by omega)]
  rw [hV]
  rfl

/-- The point that is made. -/
theorem some17 (a0 a1 a2 a3_0 a3_1 : Int) (h3 : Word a3_0) : ∃ c d v vh : Int, datumlaw17_some.f a0 a1 a2 a3_0 a3_1 = some (c, d, v, vh, a3_1) ∧ pointB c d v vh = true ∧ 0 ≤ vh := by
  refine ⟨_, _, _, _, rfl, ?_, ?_⟩
  · obtain ⟨c1, c2⟩ := tmod_bound a0 (m := 100000000000000) (by omega)
    obtain ⟨d1, d2⟩ := one_to (a := a1) (m := 100000000000000) (by omega) (by omega)
    obtain ⟨v1, v2⟩ := tmod_bound a2 (m := 100000000000000) (by omega)
    unfold Word at h3
    unfold pointB far
    simp
    omega
  · unfold Word at h3
    omega

theorem beyond17 {x vh vl s : Int} (hx : Word x) (h0 : 0 ≤ vh) (hv : vh < 274877906944) (hl : Word vl) (s1 : 1 ≤ s) (s2 : s ≤ 1000) :
    datumlaw17_beyond.f x vh vl s = some (decide (rad vh vl s < x * x)) := by
  obtain ⟨k1, k2⟩ := sq_bound s1 s2
  obtain ⟨r1, r2⟩ := rad_bound h0 hv hl s1 s2
  have e1 : IntKind.u64.wrap (9 * s) = 9 * s := by rw [IntKind.wrap_u64]; omega
  have e2 : IntKind.u64.wrap (9 * s * s) = 9 * s * s := by rw [IntKind.wrap_u64]; omega
  have hs : Word (9 * s * s) := by unfold Word; omega
  have hA : Wide (rad vh vl s) := ⟨r1, by omega⟩
  have eo : ofW 0 (9 * s * s) = 9 * s * s := by unfold ofW; omega
  have hT : wide_Times.f vh vl 0 (9 * s * s) = some (hiW (rad vh vl s), loW (rad vh vl s), false) := by
    unfold wide_Times.f
    rw [if_pos ⟨⟨by unfold Word; omega, hl⟩, by decide, hs⟩, eo, show ofW vh vl * (9 * s * s) = rad vh vl s from rfl, mod_wide hA, decide_eq_false (by omega)]
  unfold datumlaw17_beyond.f
  rw [e1, e2, hT]
  simp only [Option.bind_some]
  rw [wide_Mul.f_eq hx hx]
  simp only [Option.bind_some]
  rw [wide_Less.f_eq]
  rfl

end Go.Proofs.Ytkdfkpalgejkkaa.PureSure
namespace Go.Proofs.Ytkdfkpalgejkkaa.Pure
open Go.RowKit Go.Proofs.Ytkdfkpalgejkkaa Go.Proofs.Ytkdfkpalgejkkaa.Pg Go.Proofs.Ytkdfkpalgejkkaa.PureSure Go.Proofs.YtkdfkpalgejkkaaW.PrintWords Go.Proofs.YtkdfkpalgejkkaaW.PrintLast
theorem LimitSure : datumlaw17_LimitSure.Pure := by
  intro a0 a1 a2 a3_0 a3_1 a4 _ _ _ w30 w31 _
  have h30 := wf_word w30
  have h31 := wf_word w31
  obtain ⟨c, d, v, vh, hs, hp, hv0⟩ := some17 a0 a1 a2 a3_0 a3_1 h30
  obtain ⟨s1, s2⟩ := one_to (a := a4) (m := 1000) (by omega) (by omega)
  refine ⟨6, ?_⟩
  unfold datumlaw17_LimitSure.f
  rw [hs]
  generalize wrap64 (1 + Int.tmod (wrap64 (Int.tmod a4 1000 + 1000)) 1000) = s at *
  simp only [Option.bind_some]
  obtain ⟨hc, hd, hv, hh⟩ := pointB_spec hp
  have hsc : scaleB s = true := by unfold scaleB; simp; omega
  have hD : limit_Draw.f c d v vh a3_1 s = some (fl (c * s - usqrt (rad vh a3_1 s)) d, cl (c * s - isqrt (rad vh a3_1 s)) d, fl (c * s) d, cl (c * s) d, fl (c * s + isqrt (rad vh a3_1 s)) d, cl (c * s + usqrt (rad vh a3_1 s)) d, fl ((c + v) * s) d, cl ((c + v) * s) d, 0) := by
    unfold limit_Draw.f
    rw [if_pos hp, if_pos ⟨hv0, h31⟩, if_pos hsc]
  rw [hD]
  simp only [Option.bind_some]
  have r1 := isqrt_le_usqrt (rad vh a3_1 s)
  have r2 := usqrt_le_isqrt (rad vh a3_1 s)
  have r0 := isqrt_nonneg (rad vh a3_1 s)
  have hA0 := (rad_bound hv0 hh h31 s1 s2).1
  have q1 := isqrt_sq hA0
  have q2 := isqrt_top hA0
  have q3 := usqrt_sq hA0
  have hBy := fun x (hx : Word x) => beyond17 hx hv0 hh h31 s1 s2
  have hd0 : (0 : Int) < d := by omega
  generalize isqrt (rad vh a3_1 s) = r at *
  generalize usqrt (rad vh a3_1 s) = u at *
  generalize hA : rad vh a3_1 s = A at *
  have hval : (c + v) * s = c * s + v * s := by grind
  rw [hval]
  obtain ⟨lw1, -⟩ := low_wide (mid := c * s) hd.1 r1 r2
  obtain ⟨hw1, -⟩ := high_wide (mid := c * s) hd.1 r1 r2
  obtain ⟨mw1, -⟩ := one_wide (x := c * s) hd.1
  obtain ⟨vw1, -⟩ := one_wide (x := c * s + v * s) hd.1
  have hV : limit_Verdict.f (fl (c * s - u) d) (cl (c * s - r) d) (fl (c * s) d) (cl (c * s) d) (fl (c * s + r) d) (cl (c * s + u) d) (fl (c * s + v * s) d) (cl (c * s + v * s) d) = some (verd (c * s) (v * s) d r u, 0) := by
    unfold limit_Verdict.f
    rw [if_pos ⟨lw1, mw1, hw1, vw1⟩]
    rfl
  rw [hV]
  simp only [Option.bind_some, if_true, alive17, Bool.not_true]
  have o1 : verd (c * s) (v * s) d r u = 1 → A < v * s * (v * s) := fun h => by
    have := verd_out hd.1 r0 r1 h
    omega
  have o2 : verd (c * s) (v * s) d r u = 0 → v * s * (v * s) ≤ A := fun h => by
    have := verd_in hd.1 h
    omega
  have o3 : u + 3 * d ≤ absZ (v * s) → verd (c * s) (v * s) d r u = 1 := out_verd hd.1
  have o4 : absZ (v * s) + 3 * d ≤ r → verd (c * s) (v * s) d r u = 0 := in_verd hd.1 r1
  have o5 := verd_cases (c * s) (v * s) d r u
  generalize verd (c * s) (v * s) d r u = k at *
  have hvs : absZ (v * s) = absZ v * s := by rw [absZ_mul]; congr 1; unfold absZ; rw [if_neg (by omega)]
  have hsq : v * s * (v * s) = absZ v * s * (absZ v * s) := by
    rw [← hvs]
    unfold absZ
    split
    · rw [Int.neg_mul_neg]
    · rfl
  have hmx : mx v (wrap64 (-v)) = absZ v := by
    have : wrap64 (-v) = -v := by unfold wrap64; omega
    rw [this]
    unfold mx absZ
    split <;> split <;> omega
  have hva : 0 ≤ absZ v ∧ absZ v ≤ 100000000000000 := by unfold absZ; split <;> omega
  have hf1 : 0 ≤ absZ v * s := Int.mul_nonneg hva.1 (by omega)
  have hf2 : absZ v * s ≤ 100000000000000 * 1000 := Int.mul_le_mul hva.2 s2 (by omega) (by omega)
  have w1 : IntKind.u64.wrap (absZ v) = absZ v := by rw [IntKind.wrap_u64]; omega
  have w2 : IntKind.u64.wrap s = s := by rw [IntKind.wrap_u64]; omega
  have w3 : IntKind.u64.wrap (absZ v * s) = absZ v * s := by rw [IntKind.wrap_u64]; omega
  have w4 : IntKind.u64.wrap d = d := by rw [IntKind.wrap_u64]; omega
  have w5 : IntKind.u64.wrap (3 * d) = 3 * d := by rw [IntKind.wrap_u64]; omega
  rw [hvs] at o3 o4
  rw [hsq] at o1 o2
  rw [datumlaw17_LimitSure.j0, hmx, w1, w2, w3, w4, w5]
  clear hvs hsq hD hV lw1 hw1 mw1 vw1 hval
  generalize absZ v * s = x at *
  have w6 : 3 * d < x → IntKind.u64.wrap (x - 3 * d) = x - 3 * d := fun h => by rw [IntKind.wrap_u64]; omega
  have w7 : IntKind.u64.wrap (x + 3 * d) = x + 3 * d := by rw [IntKind.wrap_u64]; omega
  have B1 := hBy x (by unfold Word; omega)
  have B2 := fun h : 3 * d < x => hBy (x - 3 * d) (by unfold Word; omega)
  have B3 := hBy (x + 3 * d) (by unfold Word; omega)
  have m2 : 3 * d < x → A < (x - 3 * d) * (x - 3 * d) → k = 1 := fun h1 h2 => by
    refine o3 ?_
    have : r < x - 3 * d := lt_of_sq_lt (by omega) (by omega)
    omega
  have m3 : ¬ A < (x + 3 * d) * (x + 3 * d) → k = 0 := fun h => by
    refine o4 ?_
    have : x + 3 * d < r + 1 := lt_of_sq_lt (by omega) (by omega)
    omega
  clear hBy q1 q2 q3 o3 o4
  -- the rest of the way
  have J2 : ∀ (n : Nat) (t : Bool), (t = true → k = 1) → datumlaw17_LimitSure.j2 (n + 1) k x (3 * d) s t c d v vh a3_1 = some true := by
    intro n t ht
    rw [datumlaw17_LimitSure.j2, w7, B3]
    simp only [Option.bind_some]
    cases t with
    | true => rw [if_pos rfl, ht rfl]; rfl
    | false =>
      rw [if_neg (by simp)]
      by_cases hb : A < (x + 3 * d) * (x + 3 * d)
      · rw [if_pos (by simpa using hb)]
        rcases o5 with h | h | h <;> rw [h] <;> rfl
      · rw [if_neg (by simpa using hb), m3 hb]; rfl
  have J1 : ∀ (n : Nat), datumlaw17_LimitSure.j1 (n + 2) k x (3 * d) s false c d v vh a3_1 = some true := by
    intro n
    rw [datumlaw17_LimitSure.j1, if_neg (by simp)]
    by_cases h3 : 3 * d < x
    · rw [if_pos h3, w6 h3, B2 h3]
      simp only [Option.bind_some]
      exact J2 n _ (fun ht => m2 h3 (by simpa using ht))
    · rw [if_neg h3]
      exact J2 n _ (fun ht => by cases ht)
  rw [B1]
  simp only [Option.bind_some, Bool.false_eq_true, if_false]
  by_cases k1 : k = 1
  · have := o1 k1
    rw [if_pos k1, if_pos (by simpa using this), if_neg (by omega)]
    exact J1 3
  · rw [if_neg k1]
    by_cases k0 : k = 0
    · have := o2 k0
      rw [if_pos k0, decide_eq_false (by omega)]
      exact J1 3
    · rw [if_neg k0]
      exact J1 3
end Go.Proofs.Ytkdfkpalgejkkaa.Pure
/-
  A parameter that is a struct of whole numbers (structs in structs too): what it is, where it reads as data.
-/
namespace Go.Proofs.Ytkdfkpalgejkkaa
open Go Go.ChangeShapes Go.WideShapes

/-- The kinds of a type's cells, if all are whole numbers; m: how deep structs may lie in structs. -/
def flatFs (P : Program) (K : TypeId → Option (List IntKind)) : List Field → Nat → Option (List IntKind)
  | [], _ => some []
  | f :: fs, off => if f.offset = off then (K f.type).bind fun ks => if P.cellsOf f.type = ks.length then (flatFs P K fs (off + ks.length)).map (ks ++ ·) else none else none
def flatK (P : Program) : Nat → TypeId → Option (List IntKind)
  | 0, _ => none
  | m + 1, t => match P.underlying t with
    | some (.int k) => some [k]
    | some (.struct fs) => (flatFs P (flatK P m) fs.toList 0).bind fun ks => if P.cellsOf t = ks.length then some ks else none
    | _ => none

def FlatOf (ks : List IntKind) (cs : List Value) : Prop := ∃ ns : List Int, ns.length = ks.length ∧ cs = List.zipWith Value.int ks ns ∧ ∀ p ∈ ks.zip ns, (Lit.int p.1 p.2).wf = true

theorem FlatOf.append {ks ks' : List IntKind} {cs cs' : List Value} (h : FlatOf ks cs) (h' : FlatOf ks' cs') : FlatOf (ks ++ ks') (cs ++ cs') := by
  obtain ⟨ns, h1, h2, h3⟩ := h
  obtain ⟨ns', h1', h2', h3'⟩ := h'
  refine ⟨ns ++ ns', by simp [h1, h1'], ?_, ?_⟩
  · rw [h2, h2', List.zipWith_append h1.symm]
  · intro p hp
    rw [List.zip_append h1.symm] at hp
    rcases List.mem_append.1 hp with hp | hp
    · exact h3 p hp
    · exact h3' p hp

variable {H : Type} {enc : TypeId × Value → H} {P : Program} {w : World} {base : Nat} {spare : Nat → Bool} {held : Bool}
theorem trod_flatFs {K : TypeId → Option (List IntKind)} {n : Nat} (hK : ∀ (t : TypeId) (ks : List IntKind) (cs : List Value) (x : DataW H × List MemPlace), K t = some ks → DataW.trod enc P w base spare held n t cs = some x → FlatOf ks cs) {cs : List Value} :
    ∀ (l : List Field) (off : Nat) (ks : List IntKind), (∀ f ∈ l, ∃ y, DataW.trod enc P w base spare held n f.type ((cs.drop f.offset).take (P.cellsOf f.type)) = some y) → flatFs P K l off = some ks → FlatOf ks ((cs.drop off).take ks.length)
  | [], off, ks, _, h => by
    simp only [flatFs, Option.some.injEq] at h
    subst h
    exact ⟨[], rfl, by simp, by simp⟩
  | f :: l, off, ks, hf, h => by
    unfold flatFs at h
    split at h
    · rename_i ho
      cases hk : K f.type with
      | none => simp [hk] at h
      | some k1 =>
        simp only [hk, Option.bind_some] at h
        split at h
        · rename_i hc
          cases hr : flatFs P K l (off + k1.length) with
          | none => simp [hr] at h
          | some k2 =>
            simp only [hr, Option.map_some, Option.some.injEq] at h
            subst h
            obtain ⟨y, hy⟩ := hf f (by simp)
            have h1 := hK f.type k1 _ y hk hy
            rw [hc, ho] at h1
            have h2 := trod_flatFs hK l (off + k1.length) k2 (fun g hg => hf g (by simp [hg])) hr
            have h3 := h1.append h2
            have e : (cs.drop off).take (k1 ++ k2).length = (cs.drop off).take k1.length ++ (cs.drop (off + k1.length)).take k2.length := by
              rw [List.length_append, List.take_add, List.drop_drop]
            rw [e]; exact h3
        · cases h
    · cases h

theorem trod_flat : ∀ (m : Nat) (t : TypeId) (ks : List IntKind) (fuel : Nat) (cs : List Value) (x : DataW H × List MemPlace), flatK P m t = some ks → DataW.trod enc P w base spare held fuel t cs = some x → FlatOf ks cs
  | 0, _, _, _, _, _, h, _ => by simp [flatK] at h
  | m + 1, t, ks, fuel, cs, x, h, hx => by
    unfold flatK at h
    split at h
    · rename_i k hu
      simp only [Option.some.injEq] at h
      subst h
      obtain ⟨n, hcs, -, hw⟩ := DataW.trod_int hu hx
      exact ⟨[n], rfl, by simp [hcs], by simpa using hw⟩
    · rename_i fs hu
      cases hr : flatFs P (flatK P m) fs.toList 0 with
      | none => simp [hr] at h
      | some k1 =>
        simp only [hr, Option.bind_some] at h
        split at h
        · rename_i hc
          simp only [Option.some.injEq] at h
          subst h
          obtain ⟨xs, n, _, _, hl, hlen, hf⟩ := DataW.trod_struct hu hx
          have := trod_flatFs (K := flatK P m) (n := n) (fun t' ks' cs' x' h1 h2 => trod_flat m t' ks' n cs' x' h1 h2) (cs := cs) fs.toList 0 k1 (fun f hfm => by
            obtain ⟨i, hi⟩ := List.getElem?_of_mem hfm
            have h1 := hf i f (by simpa using hi)
            have hil : i < fs.size := by
              have := (List.getElem?_eq_some_iff.1 hi).1
              simpa using this
            exact ⟨xs[i]'(by omega), h1.trans (List.getElem?_eq_getElem (by omega))⟩) hr
          rw [List.drop_zero, ← hc, ← hl, List.take_length] at this
          exact this
        · cases h
    · cases h

/-- The parameter itself. -/
theorem open_flat {r : Reach} {b0 m : Nat} {t : TypeId} {fs : Array Field} {ks : List IntKind} {v : Value} {d : DataW H} {p : List MemPlace} (hu : P.underlying t = some (.struct fs)) (hk : flatK P m t = some ks) (hv : Value.okWide P w r b0 t v) (h : DataW.Trod enc P w base spare held t v d p) :
    ∃ ns : List Int, ns.length = ks.length ∧ v = .agg (List.zipWith Value.int ks ns).toArray ∧ ∀ q ∈ ks.zip ns, (Lit.int q.1 q.2).wf = true := by
  obtain ⟨cs, rfl, -⟩ := okWide_struct hu hv
  obtain ⟨fuel, hf⟩ := h
  obtain ⟨ns, h1, h2, h3⟩ := trod_flat m t ks fuel _ _ hk hf
  refine ⟨ns, h1, ?_, h3⟩
  have e : (Value.agg cs).cells = cs := rfl
  rw [e] at h2
  rw [← h2]
end Go.Proofs.Ytkdfkpalgejkkaa
-- Written by a program (gprint.py) for this claim.
namespace Go.Proofs.Ytkdfkpalgejkkaa.limitSure
open Go.ChangeShapes Go.WideShapes Go.ChangeAt Go.RowKit
open Go.ChangeMaps (open_string shut_string)
set_option linter.unusedVariables false
theorem own : ownKnob Try.prog.godebug = none := by kernel_rfl
theorem laidOut : laidOutB Try.prog = true := by kernel_rfl
def IsRow (k : IntKind) (w : World) (a : Option Addr) (len cap : Nat) (zs : List Int) : Prop :=
  (a = none ∧ len = 0 ∧ cap = 0 ∧ zs = []) ∨
  ∃ x, a = some x ∧ len ≤ cap ∧ cap ≤ maxLen ∧ zs.length = cap ∧ (∀ i, i < zs.length → w.cell? (x.add i) = some (.int k (zs.getD i 0))) ∧ ∀ n ∈ zs, (Lit.int k n).wf = true
set_option maxRecDepth 100000 in
theorem lifted (os : Os) (started : os.Started) (H : Type) (enc : TypeId × Value → H) :
    ReturnsInHanded {} Try.checked os 5 .any (Rows.limitSureSpec.pre6 enc Try.prog Try.f5 Rows.limitSureRow.domain false) (Rows.limitSureSpec.post enc Try.prog Try.f5 false true false false) := by
  refine returnsInHanded_of_change_sized (C := Try.checked) own started (by kernel_rfl) Try.func5
    (ChangeSpec.witness6 (enc := enc) (C := Try.checked) false ⟨#[], #[.int .i64 0, .int .i64 0, .int .i64 0, .agg #[.int .u64 0, .int .u64 0], .int .i64 0], []⟩ 8 (by kernel_rfl) (by kernel_rfl) (by kernel_rfl) (by kernel_rfl)) ?_
  intro W base args ds gs before hval0 hW hcnd hsz0 _
  have hsz : (DataW.weightsEach Try.prog (Try.f5.params.toList ++ Rows.limitSureSpec.plain.varTypes Try.prog) (ds ++ gs)).all (· ≤ reachBytes) = true := hsz0
  have hval : ∀ (j : Nat) t v, Try.f5.params[j]? = some t → args[j]? = some v → Value.okWide Try.prog W .any base t v := hval0
  have hW' := hW
  obtain ⟨p, q, hA0, hV, rfl, hfz, hnd⟩ := hW
  have hA : DataW.TrodAll enc Try.prog W 0 (fun _ => true) true Try.f5.params.toList args.toList ds p := hA0
  rw [Try.params5] at hA hval hsz
  obtain ⟨v0, vs0, d0, ds0, p0, q0, hargs, rfl, rfl, h0, r0⟩ := trodAll_cons hA
  obtain ⟨v1, vs1, d1, ds1, p1, q1, rfl, rfl, rfl, h1, r1⟩ := trodAll_cons r0
  obtain ⟨v2, vs2, d2, ds2, p2, q2, rfl, rfl, rfl, h2, r2⟩ := trodAll_cons r1
  obtain ⟨v3, vs3, d3, ds3, p3, q3, rfl, rfl, rfl, h3, r3⟩ := trodAll_cons r2
  obtain ⟨v4, vs4, d4, ds4, p4, q4, rfl, rfl, rfl, h4, r4⟩ := trodAll_cons r3
  obtain ⟨rfl, rfl, rfl⟩ := trodAll_nil r4
  obtain rfl : args = #[v0, v1, v2, v3, v4] := by cases args; simp_all
  obtain ⟨rfl, rfl⟩ := trodVars_none hV
  obtain ⟨a0, rfl, rfl, rfl, w0⟩ := open_int Try.underlying3 (hval 0 3 v0 rfl rfl) h0
  obtain ⟨a1, rfl, rfl, rfl, w1⟩ := open_int Try.underlying3 (hval 1 3 v1 rfl rfl) h1
  obtain ⟨a2, rfl, rfl, rfl, w2⟩ := open_int Try.underlying3 (hval 2 3 v2 rfl rfl) h2
  have k3 := h3
  have lt3 : ∀ x ∈ p3, x.block < W.heap.size := by obtain ⟨m, hm⟩ := k3; exact DataW.trod_lt m _ _ _ hm
  obtain ⟨n3, nl3, nv3, nw3⟩ := open_flat (m := 8) (ks := [.u64, .u64]) Try.underlying35 (by kernel_rfl) (hval 3 35 v3 rfl rfl) h3
  obtain ⟨a3_0, a3_1, rfl⟩ : ∃ a3_0 a3_1, n3 = [a3_0, a3_1] := by
    match n3, nl3 with
    | [m3_0, m3_1], _ => exact ⟨m3_0, m3_1, rfl⟩
  obtain rfl : v3 = .agg #[.int .u64 a3_0, .int .u64 a3_1] := nv3
  have w3_0 : (Lit.int .u64 a3_0).wf = true := nw3 (.u64, a3_0) (by simp)
  have w3_1 : (Lit.int .u64 a3_1).wf = true := nw3 (.u64, a3_1) (by simp)
  obtain ⟨a4, rfl, rfl, rfl, w4⟩ := open_int Try.underlying3 (hval 4 3 v4 rfl rfl) h4
  clear hA0 hval0 hsz0 hsz
  refine (Pg.datumlaw17_LimitSure.walk Pure.LimitSure a0 a1 a2 a3_0 a3_1 a4 W w0 w1 w2 w3_0 w3_1 w4).mono fun e W' ⟨he, bel⟩ => ?_
  subst he
  exact ⟨_, rfl, _, _, _, [], _, [], hW', trodAll_mk1 (shut_bool Try.underlying4 _), (trodAll_cons_mk (shut_int Try.underlying3 w0) (trodAll_cons_mk (shut_int Try.underlying3 w1) (trodAll_cons_mk (shut_int Try.underlying3 w2) (trodAll_cons_mk (Below.trod laidOut (by kernel_rfl) (of_decide_eq_true (by kernel_rfl)) k3 bel lt3) (trodAll_cons_mk (shut_int Try.underlying3 w4) trodAll_mk0))))), rfl, bel.frame _, fun h => by cases h⟩
theorem over : Rows.limitSureRow.holds Try.pinned (OpenSpec.ofChange Rows.limitSureSpec) :=
  OpenClaim.holds_of_wide 5 Try.f5 rfl rfl rfl rfl rfl rfl rfl ⟨rfl, rfl, rfl, rfl, rfl⟩ rfl rfl rfl rfl rfl (by kernel_rfl) Try.func5 (by kernel_rfl)
    (of_decide_eq_true (by kernel_rfl)) (by unfold Func.isWrapper; first | (rw [if_pos (by decide +kernel)]; kernel_rfl) | (rw [if_neg (by decide +kernel)]; exact ⟨rfl, rfl⟩))
    (fun os started H enc _ => lifted os started H enc)
theorem proved : Rows.LimitSureSaid := over
#print axioms proved
end Go.Proofs.Ytkdfkpalgejkkaa.limitSure
namespace Go.Proofs.Ytkdfkpalgejkkaa
/-- The row, under a short name, for the claim. -/
theorem limitSure_holds : Rows.LimitSureSaid := limitSure.proved
end Go.Proofs.Ytkdfkpalgejkkaa
