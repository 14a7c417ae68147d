/- The law SlabPuts: it returns true for every input, and its arguments read as they did. No condition. Part 4 of 4. -/
import Derived.Test.YtfjmnaobfbmllaaRows
import Derived.Below
import Derived.Carry
import Derived.ChangeOld
import Derived.OpenShut
import Derived.ProofKit
import Derived.ShutString
import Derived.SizedLaws
import Derived.WalkKit
import Derived.Test.YtfjmnaobfbmllaaSlabPutsA0
import Derived.Test.YtfjmnaobfbmllaaSlabPutsA1
import Derived.Test.YtfjmnaobfbmllaaSlabPutsA2
namespace Go.Proofs.Ytfjmnaobfbmllaa.M
open Go.RowKit Go.Proofs.YtfjmnaobfbmllaaW.PrintWords Go.Proofs.YtfjmnaobfbmllaaW.PrintLast Go.Proofs.YtfjmnaobfbmllaaW.PrintMore
attribute [local go_sem] max2_int min2_int max_two min_two max_three min_three max_four min_four   -- for this text's walks alone
set_option linter.unusedVariables false
set_option linter.unusedSimpArgs false

attribute [local go_sem high] eqA33
/-! ### seneschalref03_Same: function 42 -/
mutual
def seneschalref03_Same.j0 : Nat → Bool → Int → List (S33) → Int → List (S33) → Option (Bool)
  | 0, _, _, _, _, _ => none
  | k + 1, x19, x102000, x102001, x103000, x103001 => if x19 = true then (some false) else (seneschalref03_Same.l0 k 0 x102000 x102001 x103000 x103001)
def seneschalref03_Same.l0 : Nat → Int → Int → List (S33) → Int → List (S33) → Option (Bool)
  | 0, _, _, _, _, _ => none
  | k + 1, x5, x102000, x102001, x103000, x103001 => if x5 < (x102001.length : Int) then (if 0 ≤ x5 then (if x5 < (x103001.length : Int) then (if (!(((rd_T33 x102001 x5).f0) == ((rd_T33 x103001 x5).f0)) || (!((((rd_T33 x102001 x5).f1).toList) == (((rd_T33 x103001 x5).f1).toList)))) = true then (some false) else (seneschalref03_Same.l0 k (wrap64 (x5 + 1)) x102000 x102001 x103000 x103001)) else (none)) else (none)) else (some true)
end
def seneschalref03_Same.f (k : Nat) (a0_0 : Int) (l0_1 : List (S33)) (a1_0 : Int) (l1_1 : List (S33)) : Option (Bool) := if a0_0 = a1_0 then (seneschalref03_Same.j0 k ((l0_1.length : Int) != (l1_1.length : Int)) a0_0 l0_1 a1_0 l1_1) else (seneschalref03_Same.j0 k true a0_0 l0_1 a1_0 l1_1)
set_option maxHeartbeats 8000000 in
set_option maxRecDepth 100000 in
theorem seneschalref03_Same.calls (k : Nat) (a0_0 : Int) (A0_1 : Option Addr) (c0_1 : Nat) (l0_1 : List (S33)) (a1_0 : Int) (A1_1 : Option Addr) (c1_1 : Nat) (l1_1 : List (S33)) (r : Bool) (w : World) (hr0_1 : Kd.C k33 w A0_1 l0_1.length l0_1) (hc0_1 : l0_1.length ≤ c0_1) (hr1_1 : Kd.C k33 w A1_1 l1_1.length l1_1) (hc1_1 : l1_1.length ≤ c1_1) (h : seneschalref03_Same.f k a0_0 l0_1 a1_0 l1_1 = some r) :
    Calls Try.prog 42 #[.agg #[.int .i64 a0_0, .slice A0_1 l0_1.length c0_1], .agg #[.int .i64 a1_0, .slice A1_1 l1_1.length c1_1]] w fun e w' => e = .returned (.bool r) ∧ Below w.heap.size w w' := by
  have hu24 := Try.underlying24
  have hu33 := Try.underlying33
  have HR0_1 := Aside0.mk hr0_1
  have HC0_1 := Aside0.mk hc0_1
  clear hr0_1 hc0_1
  have HR1_1 := Aside0.mk hr1_1
  have HC1_1 := Aside0.mk hc1_1
  clear hr1_1 hc1_1
  have HB := Aside0.mk (Below.refl w.heap.size w)
  have H : (if a0_0 = a1_0 then (seneschalref03_Same.j0 k ((l0_1.length : Int) != (l1_1.length : Int)) a0_0 l0_1 a1_0 l1_1) else (seneschalref03_Same.j0 k true a0_0 l0_1 a1_0 l1_1)) = some r := h
  clear h
  have HC3 := Aside0.mk H
  clear H
  go_enter Try.func42, Try.ntmps42
  go_upto_region 1 with (first | ((with_reducible refine gate_dst (N := 2) rfl ?_); (try (refine gate_guard (by rfl) ?_; dsimp only)); refine box_event ?hg (N := 2) ?hd (cs := #[.int .i64 a0_0, .slice A0_1 l0_1.length c0_1]) (t := 24) ?hr ?_; (case hd => rfl); (case hg => rfl); (case hr => first | (go_simp; done) | (go_simp; rfl)); intro gb101 hg w4 hbox hb; have n0_ := Aside0.mk (below_step (by repeat (first | (with_reducible first | exact HB.out | apply below_alloc | apply pw_below_drewN | apply below_drew1) | exact HB.out)) hb); have n1_ := Aside0.mk (hbox); have n2_ := Aside0.mk ((by rw [hg]; exact (below_size (by repeat (first | (with_reducible first | exact HB.out | apply below_alloc | apply pw_below_drewN | apply below_drew1) | exact HB.out))) : w.heap.size ≤ gb101)); have n3_ := Aside0.mk ((by rw [hg]; exact (below_size (by repeat (first | (with_reducible first | exact HB.out | apply below_alloc | apply pw_below_drewN | apply below_drew1) | exact HB.out))) : w.heap.size ≤ gb101)); clear HB; have HB := n0_; have BK101 := n1_; have GW101 := n2_; have GE101 := n3_; clear n0_ n1_ n2_ n3_; clear hb hbox hg) | ((with_reducible refine gate_dst (N := 3) rfl ?_); (try (refine gate_guard (by rfl) ?_; dsimp only)); refine box_event ?hg (N := 3) ?hd (cs := #[.int .i64 a1_0, .slice A1_1 l1_1.length c1_1]) (t := 24) ?hr ?_; (case hd => rfl); (case hg => rfl); (case hr => first | (go_simp; done) | (go_simp; rfl)); intro gb102 hg w5 hbox hb; have n0_ := Aside0.mk (blk_below (g := gb101) (o := .cells #[.int .i64 a0_0, .slice A0_1 l0_1.length c0_1] 24 (0, 0)) (by (with_reducible repeat (first | refine blk_drewN ?_ _ | refine blk_drew ?_ | refine blk_alloc ?_ _)); exact BK101.out) hb); have n1_ := Aside0.mk (below_step (by repeat (first | (with_reducible first | exact HB.out | apply below_alloc | apply pw_below_drewN | apply below_drew1 | refine below_set ?_ GE101.out) | exact HB.out)) hb); have n2_ := Aside0.mk (hbox); have n3_ := Aside0.mk ((by rw [hg]; exact (below_size (by repeat (first | (with_reducible first | exact HB.out | apply below_alloc | apply pw_below_drewN | apply below_drew1 | refine below_set ?_ GE101.out) | exact HB.out))) : w.heap.size ≤ gb102)); have n4_ := Aside0.mk ((by rw [hg]; exact (below_size (by repeat (first | (with_reducible first | exact HB.out | apply below_alloc | apply pw_below_drewN | apply below_drew1 | refine below_set ?_ GE101.out) | exact HB.out))) : w.heap.size ≤ gb102)); have n5_ := Aside0.mk ((by rw [hg]; exact Nat.ne_of_lt (blk_lt (g := gb101) (o := .cells #[.int .i64 a0_0, .slice A0_1 l0_1.length c0_1] 24 (0, 0)) (by (with_reducible repeat (first | refine blk_drewN ?_ _ | refine blk_drew ?_ | refine blk_alloc ?_ _)); exact BK101.out)) : gb101 ≠ gb102)); have n6_ := Aside0.mk ((by rw [hg]; exact Nat.ne_of_gt (blk_lt (g := gb101) (o := .cells #[.int .i64 a0_0, .slice A0_1 l0_1.length c0_1] 24 (0, 0)) (by (with_reducible repeat (first | refine blk_drewN ?_ _ | refine blk_drew ?_ | refine blk_alloc ?_ _)); exact BK101.out)) : gb102 ≠ gb101)); clear BK101; clear HB; have BK101 := n0_; have HB := n1_; have BK102 := n2_; have GW102 := n3_; have GE102 := n4_; have NB101_102 := n5_; have NB102_101 := n6_; clear n0_ n1_ n2_ n3_ n4_ n5_ n6_; clear hb hbox hg))
  repeat (go_quiet (first | ((with_reducible refine gate_dst (N := 2) rfl ?_); (try (refine gate_guard (by rfl) ?_; dsimp only)); refine box_event ?hg (N := 2) ?hd (cs := #[.int .i64 a0_0, .slice A0_1 l0_1.length c0_1]) (t := 24) ?hr ?_; (case hd => rfl); (case hg => rfl); (case hr => first | (go_simp; done) | (go_simp; rfl)); intro gb101 hg w4 hbox hb; have n0_ := Aside0.mk (below_step (by repeat (first | (with_reducible first | exact HB.out | apply below_alloc | apply pw_below_drewN | apply below_drew1) | exact HB.out)) hb); have n1_ := Aside0.mk (hbox); have n2_ := Aside0.mk ((by rw [hg]; exact (below_size (by repeat (first | (with_reducible first | exact HB.out | apply below_alloc | apply pw_below_drewN | apply below_drew1) | exact HB.out))) : w.heap.size ≤ gb101)); have n3_ := Aside0.mk ((by rw [hg]; exact (below_size (by repeat (first | (with_reducible first | exact HB.out | apply below_alloc | apply pw_below_drewN | apply below_drew1) | exact HB.out))) : w.heap.size ≤ gb101)); clear HB; have HB := n0_; have BK101 := n1_; have GW101 := n2_; have GE101 := n3_; clear n0_ n1_ n2_ n3_; clear hb hbox hg) | ((with_reducible refine gate_dst (N := 3) rfl ?_); (try (refine gate_guard (by rfl) ?_; dsimp only)); refine box_event ?hg (N := 3) ?hd (cs := #[.int .i64 a1_0, .slice A1_1 l1_1.length c1_1]) (t := 24) ?hr ?_; (case hd => rfl); (case hg => rfl); (case hr => first | (go_simp; done) | (go_simp; rfl)); intro gb102 hg w5 hbox hb; have n0_ := Aside0.mk (blk_below (g := gb101) (o := .cells #[.int .i64 a0_0, .slice A0_1 l0_1.length c0_1] 24 (0, 0)) (by (with_reducible repeat (first | refine blk_drewN ?_ _ | refine blk_drew ?_ | refine blk_alloc ?_ _)); exact BK101.out) hb); have n1_ := Aside0.mk (below_step (by repeat (first | (with_reducible first | exact HB.out | apply below_alloc | apply pw_below_drewN | apply below_drew1 | refine below_set ?_ GE101.out) | exact HB.out)) hb); have n2_ := Aside0.mk (hbox); have n3_ := Aside0.mk ((by rw [hg]; exact (below_size (by repeat (first | (with_reducible first | exact HB.out | apply below_alloc | apply pw_below_drewN | apply below_drew1 | refine below_set ?_ GE101.out) | exact HB.out))) : w.heap.size ≤ gb102)); have n4_ := Aside0.mk ((by rw [hg]; exact (below_size (by repeat (first | (with_reducible first | exact HB.out | apply below_alloc | apply pw_below_drewN | apply below_drew1 | refine below_set ?_ GE101.out) | exact HB.out))) : w.heap.size ≤ gb102)); have n5_ := Aside0.mk ((by rw [hg]; exact Nat.ne_of_lt (blk_lt (g := gb101) (o := .cells #[.int .i64 a0_0, .slice A0_1 l0_1.length c0_1] 24 (0, 0)) (by (with_reducible repeat (first | refine blk_drewN ?_ _ | refine blk_drew ?_ | refine blk_alloc ?_ _)); exact BK101.out)) : gb101 ≠ gb102)); have n6_ := Aside0.mk ((by rw [hg]; exact Nat.ne_of_gt (blk_lt (g := gb101) (o := .cells #[.int .i64 a0_0, .slice A0_1 l0_1.length c0_1] 24 (0, 0)) (by (with_reducible repeat (first | refine blk_drewN ?_ _ | refine blk_drew ?_ | refine blk_alloc ?_ _)); exact BK101.out)) : gb102 ≠ gb101)); clear BK101; clear HB; have BK101 := n0_; have HB := n1_; have BK102 := n2_; have GW102 := n3_; have GE102 := n4_; have NB101_102 := n5_; have NB102_101 := n6_; clear n0_ n1_ n2_ n3_ n4_ n5_ n6_; clear hb hbox hg)); go_upto_region 1 with (first | ((with_reducible refine gate_dst (N := 2) rfl ?_); (try (refine gate_guard (by rfl) ?_; dsimp only)); refine box_event ?hg (N := 2) ?hd (cs := #[.int .i64 a0_0, .slice A0_1 l0_1.length c0_1]) (t := 24) ?hr ?_; (case hd => rfl); (case hg => rfl); (case hr => first | (go_simp; done) | (go_simp; rfl)); intro gb101 hg w4 hbox hb; have n0_ := Aside0.mk (below_step (by repeat (first | (with_reducible first | exact HB.out | apply below_alloc | apply pw_below_drewN | apply below_drew1) | exact HB.out)) hb); have n1_ := Aside0.mk (hbox); have n2_ := Aside0.mk ((by rw [hg]; exact (below_size (by repeat (first | (with_reducible first | exact HB.out | apply below_alloc | apply pw_below_drewN | apply below_drew1) | exact HB.out))) : w.heap.size ≤ gb101)); have n3_ := Aside0.mk ((by rw [hg]; exact (below_size (by repeat (first | (with_reducible first | exact HB.out | apply below_alloc | apply pw_below_drewN | apply below_drew1) | exact HB.out))) : w.heap.size ≤ gb101)); clear HB; have HB := n0_; have BK101 := n1_; have GW101 := n2_; have GE101 := n3_; clear n0_ n1_ n2_ n3_; clear hb hbox hg) | ((with_reducible refine gate_dst (N := 3) rfl ?_); (try (refine gate_guard (by rfl) ?_; dsimp only)); refine box_event ?hg (N := 3) ?hd (cs := #[.int .i64 a1_0, .slice A1_1 l1_1.length c1_1]) (t := 24) ?hr ?_; (case hd => rfl); (case hg => rfl); (case hr => first | (go_simp; done) | (go_simp; rfl)); intro gb102 hg w5 hbox hb; have n0_ := Aside0.mk (blk_below (g := gb101) (o := .cells #[.int .i64 a0_0, .slice A0_1 l0_1.length c0_1] 24 (0, 0)) (by (with_reducible repeat (first | refine blk_drewN ?_ _ | refine blk_drew ?_ | refine blk_alloc ?_ _)); exact BK101.out) hb); have n1_ := Aside0.mk (below_step (by repeat (first | (with_reducible first | exact HB.out | apply below_alloc | apply pw_below_drewN | apply below_drew1 | refine below_set ?_ GE101.out) | exact HB.out)) hb); have n2_ := Aside0.mk (hbox); have n3_ := Aside0.mk ((by rw [hg]; exact (below_size (by repeat (first | (with_reducible first | exact HB.out | apply below_alloc | apply pw_below_drewN | apply below_drew1 | refine below_set ?_ GE101.out) | exact HB.out))) : w.heap.size ≤ gb102)); have n4_ := Aside0.mk ((by rw [hg]; exact (below_size (by repeat (first | (with_reducible first | exact HB.out | apply below_alloc | apply pw_below_drewN | apply below_drew1 | refine below_set ?_ GE101.out) | exact HB.out))) : w.heap.size ≤ gb102)); have n5_ := Aside0.mk ((by rw [hg]; exact Nat.ne_of_lt (blk_lt (g := gb101) (o := .cells #[.int .i64 a0_0, .slice A0_1 l0_1.length c0_1] 24 (0, 0)) (by (with_reducible repeat (first | refine blk_drewN ?_ _ | refine blk_drew ?_ | refine blk_alloc ?_ _)); exact BK101.out)) : gb101 ≠ gb102)); have n6_ := Aside0.mk ((by rw [hg]; exact Nat.ne_of_gt (blk_lt (g := gb101) (o := .cells #[.int .i64 a0_0, .slice A0_1 l0_1.length c0_1] 24 (0, 0)) (by (with_reducible repeat (first | refine blk_drewN ?_ _ | refine blk_drew ?_ | refine blk_alloc ?_ _)); exact BK101.out)) : gb102 ≠ gb101)); clear BK101; clear HB; have BK101 := n0_; have HB := n1_; have BK102 := n2_; have GW102 := n3_; have GE102 := n4_; have NB101_102 := n5_; have NB102_101 := n6_; clear n0_ n1_ n2_ n3_ n4_ n5_ n6_; clear hb hbox hg)))
  (try simp only [Act.put, List.setIfInBounds_toArray, List.set_cons_zero, List.set_cons_succ])
  go_cut [19] (fun v19 wc => ∃ (kq : Nat) (x19_2 : Bool), v19 = .bool x19_2 ∧ Aside0 (seneschalref03_Same.j0 kq x19_2 a0_0 l0_1 a1_0 l1_1 = some r) ∧ Aside0 (kq ≤ k) ∧ Aside0 (wc.heap[gb101]? = some (.cells #[.int .i64 a0_0, (.slice A0_1 l0_1.length c0_1)] 24 (0, 0))) ∧ Aside0 (wc.heap[gb102]? = some (.cells #[.int .i64 a1_0, (.slice A1_1 l1_1.length c1_1)] 24 (0, 0))) ∧ Aside0 (Below w.heap.size w wc))
  case first =>
    have H := HC3.out
    clear HC3
    by_cases c6 : a0_0 = a1_0
    · rw [if_pos c6] at H
      have c6b0 : (a0_0 == a1_0) = true := beq_iff_eq.mpr c6
      have c6b1 : (a0_0 != a1_0) = false := bne_eq_false_iff_eq.mpr c6
      clear c6
      (first | rw [c6b0] | (simp only [i64_w, i32_w]; rw [c6b0]) | skip)
      have H' := Aside0.mk H
      clear H
      have hnb7 := NB101_102.out
      have hnc7 := NB102_101.out
      have hcz8_0 : w5.cell? ⟨gb101, 0, none⟩ = some (.int .i64 a0_0) := (blk_cell BK101.out 0).trans rfl
      have hcz8_1 : w5.cell? ⟨gb101, 1, none⟩ = some (.slice A0_1 l0_1.length c0_1) := (blk_cell BK101.out 1).trans rfl
      have hfz8_0 := blk_frozen BK101.out 0
      have hfz8_1 := blk_frozen BK101.out 1
      have hcz9_0 : w5.cell? ⟨gb102, 0, none⟩ = some (.int .i64 a1_0) := (blk_cell BK102.out 0).trans rfl
      have hcz9_1 : w5.cell? ⟨gb102, 1, none⟩ = some (.slice A1_1 l1_1.length c1_1) := (blk_cell BK102.out 1).trans rfl
      have hfz9_0 := blk_frozen BK102.out 0
      have hfz9_1 := blk_frozen BK102.out 1
      go_wp2
      repeat (go_quiet (fail); try go_wp2)
      go_meet
      case rel => exact ⟨_, (((l0_1.length : Int) != (l1_1.length : Int))), (by first | rfl | (simp; done) | (simp [*]; done)), H', ⟨by first | omega | exact Nat.le_refl _⟩, ⟨by (with_reducible repeat (first | refine blk_drewN ?_ _ | refine blk_drew ?_ | refine blk_alloc ?_ _)); exact BK101.out⟩, ⟨by (with_reducible repeat (first | refine blk_drewN ?_ _ | refine blk_drew ?_ | refine blk_alloc ?_ _)); exact BK102.out⟩, ⟨by repeat (first | (with_reducible first | exact HB.out | apply below_alloc | apply pw_below_drewN | apply below_drew1 | refine below_set ?_ GE101.out | refine below_set ?_ GE102.out) | exact HB.out)⟩⟩
    · rw [if_neg c6] at H
      have c6b0 : (a0_0 == a1_0) = false := beq_eq_false_iff_ne.mpr c6
      have c6b1 : (a0_0 != a1_0) = true := bne_iff_ne.mpr c6
      (first | rw [c6b0] | (simp only [i64_w, i32_w]; rw [c6b0]) | skip)
      have H' := Aside0.mk H
      clear H
      have hnb10 := NB101_102.out
      have hnc10 := NB102_101.out
      have hcz11_0 : w5.cell? ⟨gb101, 0, none⟩ = some (.int .i64 a0_0) := (blk_cell BK101.out 0).trans rfl
      have hcz11_1 : w5.cell? ⟨gb101, 1, none⟩ = some (.slice A0_1 l0_1.length c0_1) := (blk_cell BK101.out 1).trans rfl
      have hfz11_0 := blk_frozen BK101.out 0
      have hfz11_1 := blk_frozen BK101.out 1
      have hcz12_0 : w5.cell? ⟨gb102, 0, none⟩ = some (.int .i64 a1_0) := (blk_cell BK102.out 0).trans rfl
      have hcz12_1 : w5.cell? ⟨gb102, 1, none⟩ = some (.slice A1_1 l1_1.length c1_1) := (blk_cell BK102.out 1).trans rfl
      have hfz12_0 := blk_frozen BK102.out 0
      have hfz12_1 := blk_frozen BK102.out 1
      go_wp2
      repeat (go_quiet (fail); try go_wp2)
      go_meet
      case rel => exact ⟨_, (true), (by first | rfl | (simp; done) | (simp [*]; done)), H', ⟨by first | omega | exact Nat.le_refl _⟩, ⟨by (with_reducible repeat (first | refine blk_drewN ?_ _ | refine blk_drew ?_ | refine blk_alloc ?_ _)); exact BK101.out⟩, ⟨by (with_reducible repeat (first | refine blk_drewN ?_ _ | refine blk_drew ?_ | refine blk_alloc ?_ _)); exact BK102.out⟩, ⟨by repeat (first | (with_reducible first | exact HB.out | apply below_alloc | apply pw_below_drewN | apply below_drew1 | refine below_set ?_ GE101.out | refine below_set ?_ GE102.out) | exact HB.out)⟩⟩
  case rest =>
    clear HC3
    try clear c1
    try clear p2
    try clear c4
    try clear c6
    try clear c6b0
    try clear c6b1
    try clear c7
    try clear c10
    try clear hcz11_0
    try clear hcz11_1
    try clear hcz12_0
    try clear hcz12_1
    try clear hcz8_0
    try clear hcz8_1
    try clear hcz9_0
    try clear hcz9_1
    try clear hfz11_0
    try clear hfz11_1
    try clear hfz12_0
    try clear hfz12_1
    try clear hfz8_0
    try clear hfz8_1
    try clear hfz9_0
    try clear hfz9_1
    obtain ⟨kq, x19_2, rfl, HA, HJ2, BK101, BK102, HB⟩ := hcut
    cases kq with
    | zero => exact absurd HA.out (by simp [seneschalref03_Same.j0])
    | succ kj2 =>
      have H := HA.out
      clear HA
      simp only [seneschalref03_Same.j0] at H
      by_cases c13 : x19_2 = true
      · subst c13
        have H1 : (some false) = some r := by rw [if_pos rfl] at H; exact H
        clear H
        have H := H1
        clear H1
        obtain rfl := Option.some.inj H
        go_wp2
        repeat (go_quiet (fail); try go_wp2)
        go_ret
        exact ⟨by first | rfl | (simp [errW_none, errW_some] <;> rfl) | (simp [*, errW_none, errW_some] <;> rfl), by repeat (first | (with_reducible first | exact HB.out | apply below_alloc | apply pw_below_drewN | apply below_drew1 | refine below_set ?_ GE101.out | refine below_set ?_ GE102.out) | exact HB.out)⟩
      · replace c13 := Bool.eq_false_iff.mpr c13
        subst c13
        have H1 : (seneschalref03_Same.l0 kj2 0 a0_0 l0_1 a1_0 l1_1) = some r := by rw [if_neg (show ¬ (false = true) by decide)] at H; exact H
        clear H
        have H := H1
        clear H1
        have H' := Aside0.mk H
        clear H
        go_wp2
        repeat (go_quiet (fail); try go_wp2)
        go_loopg [5] kj2 (fun kq v5 w' => ∃ (x5_2 : Int), v5 = .int .i64 x5_2 ∧ Aside0 (seneschalref03_Same.l0 kq x5_2 a0_0 l0_1 a1_0 l1_1 = some r) ∧ Aside0 (kq ≤ kj2) ∧ Aside0 (w'.heap[gb101]? = some (.cells #[.int .i64 a0_0, (.slice A0_1 l0_1.length c0_1)] 24 (0, 0))) ∧ Aside0 (w'.heap[gb102]? = some (.cells #[.int .i64 a1_0, (.slice A1_1 l1_1.length c1_1)] 24 (0, 0))) ∧ Aside0 (Below w.heap.size w w'))
        case atStart => exact ⟨(0), (by first | rfl | (simp; done) | (simp [*]; done)), H', ⟨Nat.le_refl _⟩, ⟨by (with_reducible repeat (first | refine blk_drewN ?_ _ | refine blk_drew ?_ | refine blk_alloc ?_ _)); exact BK101.out⟩, ⟨by (with_reducible repeat (first | refine blk_drewN ?_ _ | refine blk_drew ?_ | refine blk_alloc ?_ _)); exact BK102.out⟩, ⟨by repeat (first | (with_reducible first | exact HB.out | apply below_alloc | apply pw_below_drewN | apply below_drew1 | refine below_set ?_ GE101.out | refine below_set ?_ GE102.out) | exact HB.out)⟩⟩
        case round =>
          clear H'
          try clear c1
          try clear p2
          try clear c4
          try clear c6
          try clear c6b0
          try clear c6b1
          try clear c7
          try clear c10
          try clear c13
          try clear hcz11_0
          try clear hcz11_1
          try clear hcz12_0
          try clear hcz12_1
          try clear hcz8_0
          try clear hcz8_1
          try clear hcz9_0
          try clear hcz9_1
          try clear hfz11_0
          try clear hfz11_1
          try clear hfz12_0
          try clear hfz12_1
          try clear hfz8_0
          try clear hfz8_1
          try clear hfz9_0
          try clear hfz9_1
          try clear p2
          obtain ⟨x5_2, rfl, HA, HK2, BK101, BK102, HB⟩ := hrel
          cases gk with
          | zero => exact absurd HA.out (by simp [seneschalref03_Same.l0])
          | succ k2 =>
            have H := HA.out
            clear HA
            simp only [seneschalref03_Same.l0] at H
            by_cases c14 : x5_2 < (l0_1.length : Int)
            · rw [if_pos c14] at H
              have c14b0 : decide (x5_2 < (l0_1.length : Int)) = true := decide_eq_true c14
              clear c14
              by_cases c15 : 0 ≤ x5_2
              · rw [if_pos c15] at H
                have c15b0 : decide (0 ≤ x5_2) = true := decide_eq_true c15
                clear c15
                by_cases c16 : x5_2 < (l1_1.length : Int)
                · rw [if_pos c16] at H
                  have c16b0 : decide (x5_2 < (l1_1.length : Int)) = true := decide_eq_true c16
                  clear c16
                  by_cases c17 : (!(((rd_T33 l0_1 x5_2).f0) == ((rd_T33 l1_1 x5_2).f0)) || (!((((rd_T33 l0_1 x5_2).f1).toList) == (((rd_T33 l1_1 x5_2).f1).toList)))) = true
                  · rw [if_pos c17] at H
                    have c17b0 : (!(((rd_T33 l0_1 x5_2).f0) == ((rd_T33 l1_1 x5_2).f0)) || (!((((rd_T33 l0_1 x5_2).f1).toList) == (((rd_T33 l1_1 x5_2).f1).toList)))) = true := c17
                    clear c17
                    obtain rfl := Option.some.inj H
                    have hnb18 := NB101_102.out
                    have hnc18 := NB102_101.out
                    have hcz19_0 : wr.cell? ⟨gb101, 0, none⟩ = some (.int .i64 a0_0) := (blk_cell BK101.out 0).trans rfl
                    have hcz19_1 : wr.cell? ⟨gb101, 1, none⟩ = some (.slice A0_1 l0_1.length c0_1) := (blk_cell BK101.out 1).trans rfl
                    have hfz19_0 := blk_frozen BK101.out 0
                    have hfz19_1 := blk_frozen BK101.out 1
                    have p103 : 0 ≤ (x5_2 : Int) := of_decide_eq_true (by first | (with_reducible assumption) | assumption)
                    have q103 : x5_2 < (l0_1.length : Int) := of_decide_eq_true (by first | (with_reducible assumption) | assumption)
                    obtain ⟨ad103, e103, hx103_0, hx103_1⟩ := at_T33 HR0_1.out x5_2 p103 q103
                    cases e103
                    replace hx103_0 := (HB.out.cell (World.block_lt_of_cell? w _ hx103_0)).trans hx103_0
                    replace hx103_1 := (HB.out.cell (World.block_lt_of_cell? w _ hx103_1)).trans hx103_1
                    replace p103 := eq_true p103
                    replace q103 := eq_true q103
                    have hcz20_0 : wr.cell? ⟨gb102, 0, none⟩ = some (.int .i64 a1_0) := (blk_cell BK102.out 0).trans rfl
                    have hcz20_1 : wr.cell? ⟨gb102, 1, none⟩ = some (.slice A1_1 l1_1.length c1_1) := (blk_cell BK102.out 1).trans rfl
                    have hfz20_0 := blk_frozen BK102.out 0
                    have hfz20_1 := blk_frozen BK102.out 1
                    have p104 : 0 ≤ (x5_2 : Int) := of_decide_eq_true (by first | (with_reducible assumption) | assumption)
                    have q104 : x5_2 < (l1_1.length : Int) := of_decide_eq_true (by first | (with_reducible assumption) | assumption)
                    obtain ⟨ad104, e104, hx104_0, hx104_1⟩ := at_T33 HR1_1.out x5_2 p104 q104
                    cases e104
                    replace hx104_0 := (HB.out.cell (World.block_lt_of_cell? w _ hx104_0)).trans hx104_0
                    replace hx104_1 := (HB.out.cell (World.block_lt_of_cell? w _ hx104_1)).trans hx104_1
                    replace p104 := eq_true p104
                    replace q104 := eq_true q104
                    go_wp2
                    repeat (go_quiet (fail); try go_wp2)
                    go_ret
                    exact ⟨by first | rfl | (simp [errW_none, errW_some] <;> rfl) | (simp [*, errW_none, errW_some] <;> rfl), by repeat (first | (with_reducible first | exact HB.out | apply below_alloc | apply pw_below_drewN | apply below_drew1 | refine below_set ?_ GE101.out | refine below_set ?_ GE102.out) | exact HB.out)⟩
                  · rw [if_neg c17] at H
                    have c17b0 : (!(((rd_T33 l0_1 x5_2).f0) == ((rd_T33 l1_1 x5_2).f0)) || (!((((rd_T33 l0_1 x5_2).f1).toList) == (((rd_T33 l1_1 x5_2).f1).toList)))) = false := by simpa using c17
                    clear c17
                    have H' := Aside0.mk H
                    clear H
                    have hnb21 := NB101_102.out
                    have hnc21 := NB102_101.out
                    have hcz22_0 : wr.cell? ⟨gb101, 0, none⟩ = some (.int .i64 a0_0) := (blk_cell BK101.out 0).trans rfl
                    have hcz22_1 : wr.cell? ⟨gb101, 1, none⟩ = some (.slice A0_1 l0_1.length c0_1) := (blk_cell BK101.out 1).trans rfl
                    have hfz22_0 := blk_frozen BK101.out 0
                    have hfz22_1 := blk_frozen BK101.out 1
                    have p103 : 0 ≤ (x5_2 : Int) := of_decide_eq_true (by first | (with_reducible assumption) | assumption)
                    have q103 : x5_2 < (l0_1.length : Int) := of_decide_eq_true (by first | (with_reducible assumption) | assumption)
                    obtain ⟨ad103, e103, hx103_0, hx103_1⟩ := at_T33 HR0_1.out x5_2 p103 q103
                    cases e103
                    replace hx103_0 := (HB.out.cell (World.block_lt_of_cell? w _ hx103_0)).trans hx103_0
                    replace hx103_1 := (HB.out.cell (World.block_lt_of_cell? w _ hx103_1)).trans hx103_1
                    replace p103 := eq_true p103
                    replace q103 := eq_true q103
                    have hcz23_0 : wr.cell? ⟨gb102, 0, none⟩ = some (.int .i64 a1_0) := (blk_cell BK102.out 0).trans rfl
                    have hcz23_1 : wr.cell? ⟨gb102, 1, none⟩ = some (.slice A1_1 l1_1.length c1_1) := (blk_cell BK102.out 1).trans rfl
                    have hfz23_0 := blk_frozen BK102.out 0
                    have hfz23_1 := blk_frozen BK102.out 1
                    have p104 : 0 ≤ (x5_2 : Int) := of_decide_eq_true (by first | (with_reducible assumption) | assumption)
                    have q104 : x5_2 < (l1_1.length : Int) := of_decide_eq_true (by first | (with_reducible assumption) | assumption)
                    obtain ⟨ad104, e104, hx104_0, hx104_1⟩ := at_T33 HR1_1.out x5_2 p104 q104
                    cases e104
                    replace hx104_0 := (HB.out.cell (World.block_lt_of_cell? w _ hx104_0)).trans hx104_0
                    replace hx104_1 := (HB.out.cell (World.block_lt_of_cell? w _ hx104_1)).trans hx104_1
                    replace p104 := eq_true p104
                    replace q104 := eq_true q104
                    go_wp2
                    repeat (go_quiet (fail); try go_wp2)
                    go_roundg k2
                    case measure => have := HJ2.out; have := HK2.out; omega
                    case rel => exact ⟨(wrap64 (x5_2 + 1)), (by first | rfl | (simp; done) | (simp [*]; done)), H', ⟨by have := HJ2.out; have := HK2.out; omega⟩, ⟨by (with_reducible repeat (first | refine blk_drewN ?_ _ | refine blk_drew ?_ | refine blk_alloc ?_ _)); exact BK101.out⟩, ⟨by (with_reducible repeat (first | refine blk_drewN ?_ _ | refine blk_drew ?_ | refine blk_alloc ?_ _)); exact BK102.out⟩, ⟨by repeat (first | (with_reducible first | exact HB.out | apply below_alloc | apply pw_below_drewN | apply below_drew1 | refine below_set ?_ GE101.out | refine below_set ?_ GE102.out) | exact HB.out)⟩⟩
                · rw [if_neg c16] at H
                  exact absurd H (by simp)
              · rw [if_neg c15] at H
                exact absurd H (by simp)
            · rw [if_neg c14] at H
              have c14b0 : decide (x5_2 < (l0_1.length : Int)) = false := decide_eq_false c14
              clear c14
              obtain rfl := Option.some.inj H
              have hnb24 := NB101_102.out
              have hnc24 := NB102_101.out
              have hcz25_0 : wr.cell? ⟨gb101, 0, none⟩ = some (.int .i64 a0_0) := (blk_cell BK101.out 0).trans rfl
              have hcz25_1 : wr.cell? ⟨gb101, 1, none⟩ = some (.slice A0_1 l0_1.length c0_1) := (blk_cell BK101.out 1).trans rfl
              have hfz25_0 := blk_frozen BK101.out 0
              have hfz25_1 := blk_frozen BK101.out 1
              go_wp2
              repeat (go_quiet (fail); try go_wp2)
              go_ret
              exact ⟨by first | rfl | (simp [errW_none, errW_some] <;> rfl) | (simp [*, errW_none, errW_some] <;> rfl), by repeat (first | (with_reducible first | exact HB.out | apply below_alloc | apply pw_below_drewN | apply below_drew1 | refine below_set ?_ GE101.out | refine below_set ?_ GE102.out) | exact HB.out)⟩

end Go.Proofs.Ytfjmnaobfbmllaa.M

namespace Go.Proofs.Ytfjmnaobfbmllaa.M
open Go.RowKit Go.Proofs.YtfjmnaobfbmllaaW.PrintWords Go.Proofs.YtfjmnaobfbmllaaW.PrintLast Go.Proofs.YtfjmnaobfbmllaaW.PrintMore
set_option linter.unusedVariables false
set_option linter.unusedSimpArgs false

/-! ### same -/
def sameP (a : Int) (l : List S33) (b : Int) (m : List S33) : Bool := decide (a = b ∧ l = m)
theorem same_loop (a b : Int) (l m : List S33) (he : l.length = m.length) (hl : l.length ≤ 4611686018427387904) (d : Nat) : ∀ (k i : Nat), i + d = l.length → d < k →
    seneschalref03_Same.l0 k i a l b m = some (decide (l.drop i = m.drop i)) := by
  induction d with
  | zero =>
    intro k i hi hk
    obtain ⟨k, rfl⟩ : ∃ m, k = m + 1 := ⟨k - 1, by omega⟩
    simp only [seneschalref03_Same.l0]
    rw [if_neg (by omega), List.drop_of_length_le (by omega), List.drop_of_length_le (by omega)]; rfl
  | succ d ih =>
    intro k i hi hk
    obtain ⟨k, rfl⟩ : ∃ m, k = m + 1 := ⟨k - 1, by omega⟩
    have hlt : i < l.length := by omega
    simp only [seneschalref03_Same.l0]
    have := ih k (i + 1) (by omega) (by omega)
    rw [show ((i + 1 : Nat) : Int) = (i : Int) + 1 by omega] at this
    have hm : i < m.length := by omega
    have c1 : (i : Int) < (l.length : Int) := by omega
    have c2 : (0 : Int) ≤ (i : Int) := by omega
    have c3 : (i : Int) < (m.length : Int) := by omega
    rw [if_pos c1, if_pos c2, if_pos c3, rd33 l i hlt, rd33 m i hm, w64 ((i : Int) + 1) (by omega) (by omega), this,
      List.drop_eq_getElem_cons hlt, List.drop_eq_getElem_cons hm]
    have hs := s33_ne l[i] m[i]
    by_cases h : l[i] = m[i]
    · rw [if_neg (fun e => hs.mp e h)]
      exact congrArg some (decide_eq_decide.mpr ⟨fun e => by rw [h, e], fun e => (List.cons.inj e).2⟩)
    · rw [if_pos (hs.mpr h), decide_eq_false (fun e => h (List.cons.inj e).1)]
theorem same_pure (a b : Int) (l m : List S33) (k : Nat) (hl : l.length ≤ 4611686018427387904) (hk : l.length + 1 < k) : seneschalref03_Same.f k a l b m = some (sameP a l b m) := by
  obtain ⟨k, rfl⟩ : ∃ m, k = m + 1 := ⟨k - 1, by omega⟩
  unfold seneschalref03_Same.f sameP
  simp only [seneschalref03_Same.j0]
  by_cases h : a = b
  · rw [if_pos h]
    by_cases h2 : l.length = m.length
    · rw [if_neg (by simp; omega)]
      have := same_loop a b l m h2 hl l.length k 0 (by omega) (by omega)
      simpa [h] using this
    · rw [if_pos (by simp; omega)]
      have : l ≠ m := fun e => h2 (by rw [e])
      simp [this]
  · rw [if_neg h]; simp [h]
/-- Whether two images are the same (asked of short ones). -/
def refSame.f (a : Int) (l : List S33) (b : Int) (m : List S33) : Option Bool := if l.length ≤ 4611686018427387904 then some (sameP a l b m) else none
theorem refSame.calls (a : Int) (A : Option Addr) (c : Nat) (l : List S33) (b : Int) (B : Option Addr) (d : Nat) (m : List S33) (r : Bool) (w : World) (hr : Kd.C k33 w A l.length l) (hc : l.length ≤ c) (hr2 : Kd.C k33 w B m.length m) (hd : m.length ≤ d) (h : refSame.f a l b m = some r) :
    Calls Try.prog 42 #[.agg #[.int .i64 a, .slice A l.length c], .agg #[.int .i64 b, .slice B m.length d]] w fun e w' => e = .returned (.bool r) ∧ Below w.heap.size w w' := by
  unfold refSame.f at h
  split at h
  · rename_i hl
    exact seneschalref03_Same.calls (l.length + 2) a A c l b B d m r w hr hc hr2 hd (by rw [same_pure a b l m _ hl (by omega)]; exact h)
  · cases h
end Go.Proofs.Ytfjmnaobfbmllaa.M

namespace Go.Proofs.Ytfjmnaobfbmllaa.M
open Go.RowKit Go.Proofs.YtfjmnaobfbmllaaW.PrintWords Go.Proofs.YtfjmnaobfbmllaaW.PrintLast Go.Proofs.YtfjmnaobfbmllaaW.PrintMore
def va1 : List S33 := [z33, ⟨true, ⟨#[97, 98]⟩⟩]
theorem v30_1 : slabPut.f 0 [] 1 true ⟨#[97, 98]⟩ = some (0, va1, 0) := by decide +kernel
theorem v30_2 : slab_Encode.f 0 va1 = some (strOfNums (padL (encL 0 va1)), 0) := by decide +kernel
theorem v30_3 : slabPut.f 0 va1 1 false ⟨#[]⟩ = some (0, [], 0) := by decide +kernel
theorem v30_4 : slabVac.f 0 va1 5 = some (0, 0) := by decide +kernel
theorem v30_24 : slabSz.f 0 va1 = some 13 := by decide +kernel
end Go.Proofs.Ytfjmnaobfbmllaa.M

namespace Go.Proofs.Ytfjmnaobfbmllaa.M
open Go.RowKit Go.Proofs.YtfjmnaobfbmllaaW.PrintWords Go.Proofs.YtfjmnaobfbmllaaW.PrintLast Go.Proofs.YtfjmnaobfbmllaaW.PrintMore
attribute [local go_sem] max2_int min2_int max_two min_two max_three min_three max_four min_four   -- for this text's walks alone
set_option linter.unusedVariables false
set_option linter.unusedSimpArgs false

/-! ### seneschallaw03_awake: function 30 -/
def seneschallaw03_awake.f  : Option (Bool) := (slabPut.f 0 ([] : List (S33)) 1 true (⟨#[97, 98]⟩ : ByteArray)).bind fun bt101 => ((slab_Encode.f bt101.1 bt101.2.1).bind fun bt107 => ((slabPut.f bt101.1 bt101.2.1 1 false (⟨#[]⟩ : ByteArray)).bind fun bt109 => ((slabVac.f bt101.1 bt101.2.1 5).bind fun bt115 => (if bt101.2.2 = 0 then (if (bt101.2.1.length : Int) = 2 then (if 0 < (bt101.2.1.length : Int) then (if ((rd_T33 bt101.2.1 0).f0 = true) then (some false) else ((slabSz.f bt101.1 bt101.2.1).bind fun t118 => (if t118 = 13 then (if bt107.2 = 0 then (if (bt107.1.size : Int) = 240 then (if 8 ≤ 13 then (if 13 ≤ (bt107.1.size : Int) then (if (bt107.1.extract 8 13).toList = ([2, 255, 2, 97, 98] : List UInt8) then (if bt109.2.2 = 0 then (if (bt109.2.1.length : Int) = 0 then (if bt115.1 = 0 then (if bt115.2 = 0 then ((slabGood.f bt109.1 bt109.2.1).bind fun t119 => (some t119)) else (some false)) else (some false)) else (some false)) else (some false)) else (some false)) else (none)) else (none)) else (some false)) else (some false)) else (some false)))) else (none)) else (some false)) else (some false)))))
set_option maxHeartbeats 8000000 in
set_option maxRecDepth 100000 in
theorem seneschallaw03_awake.calls  (r : Bool) (w : World) (h : seneschallaw03_awake.f  = some r) :
    Calls Try.prog 30 #[] w fun e w' => e = .returned (.bool r) ∧ Below w.heap.size w w' := by
  have hu24 := Try.underlying24
  have hu33 := Try.underlying33
  have HB := Aside0.mk (Below.refl w.heap.size w)
  have H : ((slabPut.f 0 ([] : List (S33)) 1 true (⟨#[97, 98]⟩ : ByteArray)).bind fun bt101 => ((slab_Encode.f bt101.1 bt101.2.1).bind fun bt107 => ((slabPut.f bt101.1 bt101.2.1 1 false (⟨#[]⟩ : ByteArray)).bind fun bt109 => ((slabVac.f bt101.1 bt101.2.1 5).bind fun bt115 => (if bt101.2.2 = 0 then (if (bt101.2.1.length : Int) = 2 then (if 0 < (bt101.2.1.length : Int) then (if ((rd_T33 bt101.2.1 0).f0 = true) then (some false) else ((slabSz.f bt101.1 bt101.2.1).bind fun t118 => (if t118 = 13 then (if bt107.2 = 0 then (if (bt107.1.size : Int) = 240 then (if 8 ≤ 13 then (if 13 ≤ (bt107.1.size : Int) then (if (bt107.1.extract 8 13).toList = ([2, 255, 2, 97, 98] : List UInt8) then (if bt109.2.2 = 0 then (if (bt109.2.1.length : Int) = 0 then (if bt115.1 = 0 then (if bt115.2 = 0 then ((slabGood.f bt109.1 bt109.2.1).bind fun t119 => (some t119)) else (some false)) else (some false)) else (some false)) else (some false)) else (some false)) else (none)) else (none)) else (some false)) else (some false)) else (some false)))) else (none)) else (some false)) else (some false)))))) = some r := h
  clear h
  replace H := Option.bind_eq_some_iff.mp H
  obtain ⟨⟨t101, t102, t105⟩, A10, H⟩ := H
  replace H : ((slab_Encode.f t101 t102).bind fun bt107 => ((slabPut.f t101 t102 1 false (⟨#[]⟩ : ByteArray)).bind fun bt109 => ((slabVac.f t101 t102 5).bind fun bt115 => (if t105 = 0 then (if (t102.length : Int) = 2 then (if 0 < (t102.length : Int) then (if ((rd_T33 t102 0).f0 = true) then (some false) else ((slabSz.f t101 t102).bind fun t118 => (if t118 = 13 then (if bt107.2 = 0 then (if (bt107.1.size : Int) = 240 then (if 8 ≤ 13 then (if 13 ≤ (bt107.1.size : Int) then (if (bt107.1.extract 8 13).toList = ([2, 255, 2, 97, 98] : List UInt8) then (if bt109.2.2 = 0 then (if (bt109.2.1.length : Int) = 0 then (if bt115.1 = 0 then (if bt115.2 = 0 then ((slabGood.f bt109.1 bt109.2.1).bind fun t119 => (some t119)) else (some false)) else (some false)) else (some false)) else (some false)) else (some false)) else (none)) else (none)) else (some false)) else (some false)) else (some false)))) else (none)) else (some false)) else (some false))))) = some r := H
  have A1 := Aside0.mk A10
  clear A10
  replace H := Option.bind_eq_some_iff.mp H
  obtain ⟨⟨t107, t108⟩, A20, H⟩ := H
  replace H : ((slabPut.f t101 t102 1 false (⟨#[]⟩ : ByteArray)).bind fun bt109 => ((slabVac.f t101 t102 5).bind fun bt115 => (if t105 = 0 then (if (t102.length : Int) = 2 then (if 0 < (t102.length : Int) then (if ((rd_T33 t102 0).f0 = true) then (some false) else ((slabSz.f t101 t102).bind fun t118 => (if t118 = 13 then (if t108 = 0 then (if (t107.size : Int) = 240 then (if 8 ≤ 13 then (if 13 ≤ (t107.size : Int) then (if (t107.extract 8 13).toList = ([2, 255, 2, 97, 98] : List UInt8) then (if bt109.2.2 = 0 then (if (bt109.2.1.length : Int) = 0 then (if bt115.1 = 0 then (if bt115.2 = 0 then ((slabGood.f bt109.1 bt109.2.1).bind fun t119 => (some t119)) else (some false)) else (some false)) else (some false)) else (some false)) else (some false)) else (none)) else (none)) else (some false)) else (some false)) else (some false)))) else (none)) else (some false)) else (some false)))) = some r := H
  have A2 := Aside0.mk A20
  clear A20
  replace H := Option.bind_eq_some_iff.mp H
  obtain ⟨⟨t109, t110, t113⟩, A30, H⟩ := H
  replace H : ((slabVac.f t101 t102 5).bind fun bt115 => (if t105 = 0 then (if (t102.length : Int) = 2 then (if 0 < (t102.length : Int) then (if ((rd_T33 t102 0).f0 = true) then (some false) else ((slabSz.f t101 t102).bind fun t118 => (if t118 = 13 then (if t108 = 0 then (if (t107.size : Int) = 240 then (if 8 ≤ 13 then (if 13 ≤ (t107.size : Int) then (if (t107.extract 8 13).toList = ([2, 255, 2, 97, 98] : List UInt8) then (if t113 = 0 then (if (t110.length : Int) = 0 then (if bt115.1 = 0 then (if bt115.2 = 0 then ((slabGood.f t109 t110).bind fun t119 => (some t119)) else (some false)) else (some false)) else (some false)) else (some false)) else (some false)) else (none)) else (none)) else (some false)) else (some false)) else (some false)))) else (none)) else (some false)) else (some false))) = some r := H
  have A3 := Aside0.mk A30
  clear A30
  replace H := Option.bind_eq_some_iff.mp H
  obtain ⟨⟨t115, t116⟩, A40, H⟩ := H
  replace H : (if t105 = 0 then (if (t102.length : Int) = 2 then (if 0 < (t102.length : Int) then (if ((rd_T33 t102 0).f0 = true) then (some false) else ((slabSz.f t101 t102).bind fun t118 => (if t118 = 13 then (if t108 = 0 then (if (t107.size : Int) = 240 then (if 8 ≤ 13 then (if 13 ≤ (t107.size : Int) then (if (t107.extract 8 13).toList = ([2, 255, 2, 97, 98] : List UInt8) then (if t113 = 0 then (if (t110.length : Int) = 0 then (if t115 = 0 then (if t116 = 0 then ((slabGood.f t109 t110).bind fun t119 => (some t119)) else (some false)) else (some false)) else (some false)) else (some false)) else (some false)) else (none)) else (none)) else (some false)) else (some false)) else (some false)))) else (none)) else (some false)) else (some false)) = some r := H
  have A4 := Aside0.mk A40
  clear A40
  by_cases c5 : t105 = 0
  · rw [if_pos c5] at H
    have c5b0 : (t105 == 0) = true := beq_iff_eq.mpr c5
    have c5b1 : (t105 != 0) = false := bne_eq_false_iff_eq.mpr c5
    clear c5
    by_cases c6 : (t102.length : Int) = 2
    · rw [if_pos c6] at H
      have c6b0 : ((t102.length : Int) == 2) = true := beq_iff_eq.mpr c6
      have c6b1 : ((t102.length : Int) != 2) = false := bne_eq_false_iff_eq.mpr c6
      clear c6
      by_cases c7 : 0 < (t102.length : Int)
      · rw [if_pos c7] at H
        have c7b0 : decide (0 < (t102.length : Int)) = true := decide_eq_true c7
        have c7b1 : decide (0 < t102.length) = true := decide_eq_true (by omega)
        clear c7
        obtain ⟨bq8, hbq8⟩ : ∃ b_ : Bool, b_ = ((rd_T33 t102 0).f0) := ⟨_, rfl⟩
        replace H : (if (bq8 = true) then (some false) else ((slabSz.f t101 t102).bind fun t118 => (if t118 = 13 then (if t108 = 0 then (if (t107.size : Int) = 240 then (if 8 ≤ 13 then (if 13 ≤ (t107.size : Int) then (if (t107.extract 8 13).toList = ([2, 255, 2, 97, 98] : List UInt8) then (if t113 = 0 then (if (t110.length : Int) = 0 then (if t115 = 0 then (if t116 = 0 then ((slabGood.f t109 t110).bind fun t119 => (some t119)) else (some false)) else (some false)) else (some false)) else (some false)) else (some false)) else (none)) else (none)) else (some false)) else (some false)) else (some false)))) = some r := by rw [← hbq8] at H; exact H
        have Nbq8 := Aside0.mk hbq8
        clear hbq8
        by_cases c9 : (bq8 = true)
        · exfalso; subst c9; have q_ := Option.some.inj (A1.out.symm.trans v30_1); simp only [Prod.mk.injEq] at q_; obtain ⟨rfl, rfl, rfl⟩ := q_; have q_ := Option.some.inj (A2.out.symm.trans v30_2); simp only [Prod.mk.injEq] at q_; obtain ⟨rfl, rfl⟩ := q_; have q_ := Option.some.inj (A3.out.symm.trans v30_3); simp only [Prod.mk.injEq] at q_; obtain ⟨rfl, rfl, rfl⟩ := q_; have q_ := Option.some.inj (A4.out.symm.trans v30_4); simp only [Prod.mk.injEq] at q_; obtain ⟨rfl, rfl⟩ := q_; exact absurd Nbq8.out (by decide +kernel)
        · replace c9 := Bool.eq_false_iff.mpr c9
          subst c9
          have H1 : ((slabSz.f t101 t102).bind fun t118 => (if t118 = 13 then (if t108 = 0 then (if (t107.size : Int) = 240 then (if 8 ≤ 13 then (if 13 ≤ (t107.size : Int) then (if (t107.extract 8 13).toList = ([2, 255, 2, 97, 98] : List UInt8) then (if t113 = 0 then (if (t110.length : Int) = 0 then (if t115 = 0 then (if t116 = 0 then ((slabGood.f t109 t110).bind fun t119 => (some t119)) else (some false)) else (some false)) else (some false)) else (some false)) else (some false)) else (none)) else (none)) else (some false)) else (some false)) else (some false))) = some r := by rw [if_neg (show ¬ (false = true) by decide)] at H; exact H
          clear H
          have H := H1
          clear H1
          replace H := Option.bind_eq_some_iff.mp H
          obtain ⟨t118, A240, H⟩ := H
          replace H : (if t118 = 13 then (if t108 = 0 then (if (t107.size : Int) = 240 then (if 8 ≤ 13 then (if 13 ≤ (t107.size : Int) then (if (t107.extract 8 13).toList = ([2, 255, 2, 97, 98] : List UInt8) then (if t113 = 0 then (if (t110.length : Int) = 0 then (if t115 = 0 then (if t116 = 0 then ((slabGood.f t109 t110).bind fun t119 => (some t119)) else (some false)) else (some false)) else (some false)) else (some false)) else (some false)) else (none)) else (none)) else (some false)) else (some false)) else (some false)) = some r := H
          have A24 := Aside0.mk A240
          clear A240
          by_cases c25 : t118 = 13
          · rw [if_pos c25] at H
            have c25b0 : (t118 == 13) = true := beq_iff_eq.mpr c25
            have c25b1 : (t118 != 13) = false := bne_eq_false_iff_eq.mpr c25
            clear c25
            by_cases c26 : t108 = 0
            · rw [if_pos c26] at H
              have c26b0 : (t108 == 0) = true := beq_iff_eq.mpr c26
              have c26b1 : (t108 != 0) = false := bne_eq_false_iff_eq.mpr c26
              clear c26
              by_cases c27 : (t107.size : Int) = 240
              · rw [if_pos c27] at H
                have c27b0 : ((t107.size : Int) == 240) = true := beq_iff_eq.mpr c27
                have c27b1 : ((t107.size : Int) != 240) = false := bne_eq_false_iff_eq.mpr c27
                clear c27
                by_cases c28 : 8 ≤ 13
                · rw [if_pos c28] at H
                  have c28b0 := eq_true c28
                  have c28b1 : decide (8 ≤ 13) = true := decide_eq_true c28
                  clear c28
                  by_cases c29 : 13 ≤ (t107.size : Int)
                  · rw [if_pos c29] at H
                    have c29b0 := eq_true c29
                    have c29b1 : decide (13 ≤ (t107.size : Int)) = true := decide_eq_true c29
                    clear c29
                    by_cases c30 : (t107.extract 8 13).toList = ([2, 255, 2, 97, 98] : List UInt8)
                    · rw [if_pos c30] at H
                      have c30b0 : ((t107.extract 8 13).toList == ([2, 255, 2, 97, 98] : List UInt8)) = true := beq_iff_eq.mpr c30
                      have c30b1 : ((t107.extract 8 13).toList != ([2, 255, 2, 97, 98] : List UInt8)) = false := bne_eq_false_iff_eq.mpr c30
                      clear c30
                      by_cases c31 : t113 = 0
                      · rw [if_pos c31] at H
                        have c31b0 : (t113 == 0) = true := beq_iff_eq.mpr c31
                        have c31b1 : (t113 != 0) = false := bne_eq_false_iff_eq.mpr c31
                        clear c31
                        by_cases c32 : (t110.length : Int) = 0
                        · rw [if_pos c32] at H
                          have c32b0 : ((t110.length : Int) == 0) = true := beq_iff_eq.mpr c32
                          have c32b1 : ((t110.length : Int) != 0) = false := bne_eq_false_iff_eq.mpr c32
                          clear c32
                          by_cases c33 : t115 = 0
                          · rw [if_pos c33] at H
                            have c33b0 : (t115 == 0) = true := beq_iff_eq.mpr c33
                            have c33b1 : (t115 != 0) = false := bne_eq_false_iff_eq.mpr c33
                            clear c33
                            by_cases c34 : t116 = 0
                            · rw [if_pos c34] at H
                              have c34b0 : (t116 == 0) = true := beq_iff_eq.mpr c34
                              have c34b1 : (t116 != 0) = false := bne_eq_false_iff_eq.mpr c34
                              clear c34
                              replace H := Option.bind_eq_some_iff.mp H
                              obtain ⟨t119, A350, H⟩ := H
                              replace H : (some t119) = some r := H
                              have A35 := Aside0.mk A350
                              clear A350
                              obtain rfl := Option.some.inj H
                              go_enter Try.func30, Try.ntmps30
                              go_wp2_with (first | ((with_reducible refine gate_callee (f := 38) rfl ?_); refine goesL_ (some 12) rfl rfl Try.func38 (by kernel_rfl) rfl #[.agg #[.int .i64 0, .slice none 0 0], .int .i64 1, .agg #[.bool true, .string (⟨#[97, 98]⟩ : ByteArray)]] rfl (by (try simp only [List.map_toArray, List.map_cons, List.map_nil]); first | done | rfl | (simp only [List.length_drop, List.length_take]; rfl)) ?_; (refine (slabPut.calls 0 _ _ ([] : List (S33)) 1 true (⟨#[97, 98]⟩ : ByteArray) t101 t102 t105 _ ?side1 ?side2 A1.out).mono ?_); (case side1 => exact Kd.C_nil _ _); (case side2 => exact Nat.le_refl _); rintro e w36 ⟨v103, rfl, ho0, hb⟩; refine ⟨_, rfl, ?_⟩; have n0_ := Aside0.mk (Kd.R_lower ho0 (below_size (by repeat (first | (with_reducible first | exact HB.out | apply below_alloc | apply pw_below_drewN | apply below_drew1) | exact HB.out)))); have n1_ := Aside0.mk (below_step (by repeat (first | (with_reducible first | exact HB.out | apply below_alloc | apply pw_below_drewN | apply below_drew1) | exact HB.out)) hb); clear HB; have HO104 := n0_; have HB := n1_; clear n0_ n1_; (try clear hb); (try clear hb2); (try clear hk); (try clear hi); (try clear ho0)) | ((with_reducible refine gate_dst (N := 1) rfl ?_); (try (refine gate_guard (by rfl) ?_; dsimp only)); refine box_event ?hg (N := 1) ?hd (cs := #[.int .i64 0, .slice none 0 0]) (t := 24) ?hr ?_; (case hd => rfl); (case hg => rfl); (case hr => first | (go_simp; done) | (go_simp; rfl)); intro gb106 hg w37 hbox hb; have n0_ := Aside0.mk (Kd.R_below (by (with_reducible repeat (first | apply Kd.R_alloc | apply Kd.R_drewN | apply Kd.R_drew)); exact HO104.out) hb); have n1_ := Aside0.mk (below_step (by repeat (first | (with_reducible first | exact HB.out | apply below_alloc | apply pw_below_drewN | apply below_drew1) | exact HB.out)) hb); have n2_ := Aside0.mk (hbox); have n3_ := Aside0.mk ((by rw [hg]; exact (below_size (by repeat (first | (with_reducible first | exact HB.out | apply below_alloc | apply pw_below_drewN | apply below_drew1) | exact HB.out))) : w.heap.size ≤ gb106)); have n4_ := Aside0.mk ((by rw [hg]; exact (below_size (by repeat (first | (with_reducible first | exact HB.out | apply below_alloc | apply pw_below_drewN | apply below_drew1) | exact HB.out))) : w.heap.size ≤ gb106)); clear HO104; clear HB; have HO104 := n0_; have HB := n1_; have BK106 := n2_; have GW106 := n3_; have GE106 := n4_; clear n0_ n1_ n2_ n3_ n4_; clear hb hbox hg; have hcz38_0 : w37.cell? ⟨gb106, 0, none⟩ = some (.int .i64 0) := (blk_cell BK106.out 0).trans rfl; have hcz38_1 : w37.cell? ⟨gb106, 1, none⟩ = some (.slice none 0 0) := (blk_cell BK106.out 1).trans rfl; have hfz38_0 := blk_frozen BK106.out 0; have hfz38_1 := blk_frozen BK106.out 1; obtain ⟨Ao39, co39, eo39⟩ := Kd.R_slice HO104.out; subst eo39) | ((with_reducible refine gate_callee (f := 32) rfl ?_); refine goesL_ (some 17) rfl rfl Try.func32 (by kernel_rfl) rfl #[.agg #[.int .i64 t101, .slice Ao39 t102.length co39]] rfl (by (try simp only [List.map_toArray, List.map_cons, List.map_nil]); first | done | rfl | (simp only [List.length_drop, List.length_take]; rfl)) ?_; (with_reducible refine (slab_Encode.calls t101 _ _ t102 t107 t108 _ ?side1 ?side2 A2.out).mono ?_); (case side1 => refine (Kd.R_reads' (e := 33) (base := w.heap.size) (ok := fun k_ => True) (n := t102.length) (c := co39) ?_).2.2; exact (by (with_reducible repeat (first | apply Kd.R_alloc | apply Kd.R_drewN | apply Kd.R_drew)); exact (Kd.R_mono (Kd.R_far (p := ⟨gb106, 1, none⟩) (Kd.R_far (p := ⟨gb106, 0, none⟩) (Kd.R_types HO104.out BK106.out (by decide)) (fun _ hk => hk.2) (.int .i64 t101)) (fun _ hk => hk.2) (.slice Ao39 t102.length co39)) (fun _ h_ => h_.1)))); (case side2 => exact (Kd.R_reads' HO104.out).2.1); rintro e w40 ⟨rfl, hb⟩; refine ⟨_, rfl, ?_⟩; have n0_ := Aside0.mk (Kd.R_below (by (with_reducible repeat (first | apply Kd.R_alloc | apply Kd.R_drewN | apply Kd.R_drew)); exact (Kd.R_mono (Kd.R_far (p := ⟨gb106, 1, none⟩) (Kd.R_far (p := ⟨gb106, 0, none⟩) (Kd.R_types HO104.out BK106.out (by decide)) (fun _ hk => hk.2) (.int .i64 t101)) (fun _ hk => hk.2) (.slice Ao39 t102.length co39)) (fun _ h_ => h_.1))) hb); have n1_ := Aside0.mk (blk_below (g := gb106) (o := .cells #[.int .i64 t101, .slice Ao39 t102.length co39] 24 (0, 0)) (by (with_reducible repeat (first | refine blk_drewN ?_ _ | refine blk_drew ?_ | refine blk_alloc ?_ _)); refine blk_put (cs := #[.int .i64 t101, .slice none 0 0]) ?_ 1 _ rfl; (with_reducible repeat (first | refine blk_drewN ?_ _ | refine blk_drew ?_ | refine blk_alloc ?_ _)); refine blk_put (cs := #[.int .i64 0, .slice none 0 0]) ?_ 0 _ rfl; (with_reducible repeat (first | refine blk_drewN ?_ _ | refine blk_drew ?_ | refine blk_alloc ?_ _)); exact BK106.out) hb); have n2_ := Aside0.mk (below_step (by repeat (first | (with_reducible first | exact HB.out | apply below_alloc | apply pw_below_drewN | apply below_drew1 | refine below_set ?_ GE106.out) | exact HB.out)) hb); clear HO104; clear BK106; clear HB; have HO104 := n0_; have BK106 := n1_; have HB := n2_; clear n0_ n1_ n2_; (try clear hb); (try clear hb2); (try clear hk); (try clear hi); have hcz41_0 : w40.cell? ⟨gb106, 0, none⟩ = some (.int .i64 t101) := (blk_cell BK106.out 0).trans rfl; have hcz41_1 : w40.cell? ⟨gb106, 1, none⟩ = some (.slice Ao39 t102.length co39) := (blk_cell BK106.out 1).trans rfl; have hfz41_0 := blk_frozen BK106.out 0; have hfz41_1 := blk_frozen BK106.out 1) | ((with_reducible refine gate_callee (f := 38) rfl ?_); refine goesL_ (some 23) rfl rfl Try.func38 (by kernel_rfl) rfl #[.agg #[.int .i64 t101, .slice Ao39 t102.length co39], .int .i64 1, .agg #[.bool false, .string (⟨#[]⟩ : ByteArray)]] rfl (by (try simp only [List.map_toArray, List.map_cons, List.map_nil]); first | done | rfl | (simp only [List.length_drop, List.length_take]; rfl)) ?_; (with_reducible refine (slabPut.calls t101 _ _ t102 1 false (⟨#[]⟩ : ByteArray) t109 t110 t113 _ ?side1 ?side2 A3.out).mono ?_); (case side1 => repeat (first | exact (Kd.R_reads' HO104.out).2.2 | (with_reducible refine Kd.C_alloc ?_ _) | (with_reducible refine Kd.C_drewN ?_ _) | (with_reducible refine Kd.C_drew ?_))); (case side2 => exact (Kd.R_reads' HO104.out).2.1); rintro e w42 ⟨v111, rfl, ho0, hb⟩; refine ⟨_, rfl, ?_⟩; have n0_ := Aside0.mk (Kd.R_elder' (by (with_reducible repeat (first | apply Kd.R_alloc | apply Kd.R_drewN | apply Kd.R_drew)); exact HO104.out) (Kd.R_base ho0) hb); have n1_ := Aside0.mk (Kd.R_lower (Kd.R_new' ho0 (Kd.R_lt (by (with_reducible repeat (first | apply Kd.R_alloc | apply Kd.R_drewN | apply Kd.R_drew)); exact HO104.out))) (below_size (by repeat (first | (with_reducible first | exact HB.out | apply below_alloc | apply pw_below_drewN | apply below_drew1 | refine below_set ?_ GE106.out) | exact HB.out)))); have n2_ := Aside0.mk (blk_below (g := gb106) (o := .cells #[.int .i64 t101, .slice Ao39 t102.length co39] 24 (0, 0)) (by (with_reducible repeat (first | refine blk_drewN ?_ _ | refine blk_drew ?_ | refine blk_alloc ?_ _)); exact BK106.out) hb); have n3_ := Aside0.mk (below_step (by repeat (first | (with_reducible first | exact HB.out | apply below_alloc | apply pw_below_drewN | apply below_drew1 | refine below_set ?_ GE106.out) | exact HB.out)) hb); clear HO104; clear BK106; clear HB; have HO104 := n0_; have HO112 := n1_; have BK106 := n2_; have HB := n3_; clear n0_ n1_ n2_ n3_; (try clear hb); (try clear hb2); (try clear hk); (try clear hi); (try clear ho0)) | ((with_reducible refine gate_dst (N := 5) rfl ?_); (try (refine gate_guard (by rfl) ?_; dsimp only)); refine box_event ?hg (N := 5) ?hd (cs := #[.int .i64 0, .slice none 0 0]) (t := 24) ?hr ?_; (case hd => rfl); (case hg => rfl); (case hr => first | (go_simp; done) | (go_simp; rfl)); intro gb114 hg w43 hbox hb; have n0_ := Aside0.mk (Kd.R_below (by (with_reducible repeat (first | apply Kd.R_alloc | apply Kd.R_drewN | apply Kd.R_drew)); exact HO104.out) hb); have n1_ := Aside0.mk (Kd.R_below (by (with_reducible repeat (first | apply Kd.R_alloc | apply Kd.R_drewN | apply Kd.R_drew)); exact HO112.out) hb); have n2_ := Aside0.mk (blk_below (g := gb106) (o := .cells #[.int .i64 t101, .slice Ao39 t102.length co39] 24 (0, 0)) (by (with_reducible repeat (first | refine blk_drewN ?_ _ | refine blk_drew ?_ | refine blk_alloc ?_ _)); exact BK106.out) hb); have n3_ := Aside0.mk (below_step (by repeat (first | (with_reducible first | exact HB.out | apply below_alloc | apply pw_below_drewN | apply below_drew1 | refine below_set ?_ GE106.out) | exact HB.out)) hb); have n4_ := Aside0.mk (hbox); have n5_ := Aside0.mk ((by rw [hg]; exact (below_size (by repeat (first | (with_reducible first | exact HB.out | apply below_alloc | apply pw_below_drewN | apply below_drew1 | refine below_set ?_ GE106.out) | exact HB.out))) : w.heap.size ≤ gb114)); have n6_ := Aside0.mk ((by rw [hg]; exact (below_size (by repeat (first | (with_reducible first | exact HB.out | apply below_alloc | apply pw_below_drewN | apply below_drew1 | refine below_set ?_ GE106.out) | exact HB.out))) : w.heap.size ≤ gb114)); have n7_ := Aside0.mk ((by rw [hg]; exact Nat.ne_of_lt (blk_lt (g := gb106) (o := .cells #[.int .i64 t101, .slice Ao39 t102.length co39] 24 (0, 0)) (by (with_reducible repeat (first | refine blk_drewN ?_ _ | refine blk_drew ?_ | refine blk_alloc ?_ _)); exact BK106.out)) : gb106 ≠ gb114)); have n8_ := Aside0.mk ((by rw [hg]; exact Nat.ne_of_gt (blk_lt (g := gb106) (o := .cells #[.int .i64 t101, .slice Ao39 t102.length co39] 24 (0, 0)) (by (with_reducible repeat (first | refine blk_drewN ?_ _ | refine blk_drew ?_ | refine blk_alloc ?_ _)); exact BK106.out)) : gb114 ≠ gb106)); clear HO104; clear HO112; clear BK106; clear HB; have HO104 := n0_; have HO112 := n1_; have BK106 := n2_; have HB := n3_; have BK114 := n4_; have GW114 := n5_; have GE114 := n6_; have NB106_114 := n7_; have NB114_106 := n8_; clear n0_ n1_ n2_ n3_ n4_ n5_ n6_ n7_ n8_; clear hb hbox hg; have hnb44 := NB114_106.out; have hnc44 := NB106_114.out; have hcz45_0 : w43.cell? ⟨gb114, 0, none⟩ = some (.int .i64 0) := (blk_cell BK114.out 0).trans rfl; have hcz45_1 : w43.cell? ⟨gb114, 1, none⟩ = some (.slice none 0 0) := (blk_cell BK114.out 1).trans rfl; have hfz45_0 := blk_frozen BK114.out 0; have hfz45_1 := blk_frozen BK114.out 1; obtain ⟨Ao46, co46, eo46⟩ := Kd.R_slice HO112.out; subst eo46; have hcz47_0 : w43.cell? ⟨gb106, 0, none⟩ = some (.int .i64 t101) := (blk_cell BK106.out 0).trans rfl; have hcz47_1 : w43.cell? ⟨gb106, 1, none⟩ = some (.slice Ao39 t102.length co39) := (blk_cell BK106.out 1).trans rfl; have hfz47_0 := blk_frozen BK106.out 0; have hfz47_1 := blk_frozen BK106.out 1) | ((with_reducible refine gate_callee (f := 43) rfl ?_); refine goesL_ (some 28) rfl rfl Try.func43 (by kernel_rfl) rfl #[.agg #[.int .i64 t101, .slice Ao39 t102.length co39], .int .i64 5] rfl (by (try simp only [List.map_toArray, List.map_cons, List.map_nil]); first | done | rfl | (simp only [List.length_drop, List.length_take]; rfl)) ?_; (with_reducible refine (slabVac.calls t101 _ _ t102 5 t115 t116 _ ?side1 ?side2 A4.out).mono ?_); (case side1 => refine (Kd.R_reads' (e := 33) (base := w.heap.size) (ok := fun k_ => (True ∧ some k_ ≠ (.slice Ao46 t110.length co46 : Value).ownBlock)) (n := t102.length) (c := co39) ?_).2.2; exact (by (with_reducible repeat (first | apply Kd.R_alloc | apply Kd.R_drewN | apply Kd.R_drew)); exact (Kd.R_mono (Kd.R_far (p := ⟨gb114, 1, none⟩) (Kd.R_far (p := ⟨gb114, 0, none⟩) (Kd.R_types HO104.out BK114.out (by decide)) (fun _ hk => hk.2) (.int .i64 t109)) (fun _ hk => hk.2) (.slice Ao46 t110.length co46)) (fun _ h_ => h_.1)))); (case side2 => exact (Kd.R_reads' HO104.out).2.1); rintro e w48 ⟨rfl, hb⟩; refine ⟨_, rfl, ?_⟩; have n0_ := Aside0.mk (Kd.R_below (by (with_reducible repeat (first | apply Kd.R_alloc | apply Kd.R_drewN | apply Kd.R_drew)); exact (Kd.R_mono (Kd.R_far (p := ⟨gb114, 1, none⟩) (Kd.R_far (p := ⟨gb114, 0, none⟩) (Kd.R_types HO104.out BK114.out (by decide)) (fun _ hk => hk.2) (.int .i64 t109)) (fun _ hk => hk.2) (.slice Ao46 t110.length co46)) (fun _ h_ => h_.1))) hb); have n1_ := Aside0.mk (Kd.R_below (by (with_reducible repeat (first | apply Kd.R_alloc | apply Kd.R_drewN | apply Kd.R_drew)); exact (Kd.R_mono (Kd.R_far (p := ⟨gb114, 1, none⟩) (Kd.R_far (p := ⟨gb114, 0, none⟩) (Kd.R_types HO112.out BK114.out (by decide)) (fun _ hk => hk.2) (.int .i64 t109)) (fun _ hk => hk.2) (.slice Ao46 t110.length co46)) (fun _ h_ => h_.1))) hb); have n2_ := Aside0.mk (blk_below (g := gb106) (o := .cells #[.int .i64 t101, .slice Ao39 t102.length co39] 24 (0, 0)) (by (with_reducible repeat (first | refine blk_drewN ?_ _ | refine blk_drew ?_ | refine blk_alloc ?_ _)); refine blk_far ?_ NB106_114.out _; (with_reducible repeat (first | refine blk_drewN ?_ _ | refine blk_drew ?_ | refine blk_alloc ?_ _)); refine blk_far ?_ NB106_114.out _; (with_reducible repeat (first | refine blk_drewN ?_ _ | refine blk_drew ?_ | refine blk_alloc ?_ _)); exact BK106.out) hb); have n3_ := Aside0.mk (blk_below (g := gb114) (o := .cells #[.int .i64 t109, .slice Ao46 t110.length co46] 24 (0, 0)) (by (with_reducible repeat (first | refine blk_drewN ?_ _ | refine blk_drew ?_ | refine blk_alloc ?_ _)); refine blk_put (cs := #[.int .i64 t109, .slice none 0 0]) ?_ 1 _ rfl; (with_reducible repeat (first | refine blk_drewN ?_ _ | refine blk_drew ?_ | refine blk_alloc ?_ _)); refine blk_put (cs := #[.int .i64 0, .slice none 0 0]) ?_ 0 _ rfl; (with_reducible repeat (first | refine blk_drewN ?_ _ | refine blk_drew ?_ | refine blk_alloc ?_ _)); exact BK114.out) hb); have n4_ := Aside0.mk (below_step (by repeat (first | (with_reducible first | exact HB.out | apply below_alloc | apply pw_below_drewN | apply below_drew1 | refine below_set ?_ GE106.out | refine below_set ?_ GE114.out) | exact HB.out)) hb); clear HO104; clear HO112; clear BK106; clear BK114; clear HB; have HO104 := n0_; have HO112 := n1_; have BK106 := n2_; have BK114 := n3_; have HB := n4_; clear n0_ n1_ n2_ n3_ n4_; (try clear hb); (try clear hb2); (try clear hk); (try clear hi); have hcz49_0 : w48.cell? ⟨gb106, 0, none⟩ = some (.int .i64 t101) := (blk_cell BK106.out 0).trans rfl; have hcz49_1 : w48.cell? ⟨gb106, 1, none⟩ = some (.slice Ao39 t102.length co39) := (blk_cell BK106.out 1).trans rfl; have hfz49_0 := blk_frozen BK106.out 0; have hfz49_1 := blk_frozen BK106.out 1; have p117 : 0 ≤ (0 : Int) := (by omega); have q117 : 0 < (t102.length : Int) := of_decide_eq_true (by first | (with_reducible assumption) | assumption); obtain ⟨ad117, e117, hx117_0, hx117_1⟩ := at_T33 (Kd.R_reads' HO104.out).2.2 0 p117 q117; (try rw [← Nbq8.out] at hx117_0); cases e117; have qi117 : (0 < t102.length) = True := eq_true (by omega); (try rw [show ((0 : Int)).toNat = 0 from rfl] at hx117_0); (try rw [show 0 * 2 = 0 from rfl] at hx117_0); (try rw [Addr.add_zero'] at hx117_0); (try rw [show ((0 : Int)).toNat = 0 from rfl] at hx117_1); (try rw [show 0 * 2 = 0 from rfl] at hx117_1); (try rw [Addr.add_zero'] at hx117_1); replace p117 := eq_true p117; replace q117 := eq_true q117) | (go_at_call 36; (with_reducible refine (slabSz.calls t101 _ _ t102 t118 _ ?side1 ?side2 A24.out).mono ?_); (case side1 => repeat (first | exact (Kd.R_reads' HO104.out).2.2 | (with_reducible refine Kd.C_alloc ?_ _) | (with_reducible refine Kd.C_drewN ?_ _) | (with_reducible refine Kd.C_drew ?_))); (case side2 => exact (Kd.R_reads' HO104.out).2.1); rintro e w50 ⟨rfl, hb⟩; have n0_ := Aside0.mk (Kd.R_below (by (with_reducible repeat (first | apply Kd.R_alloc | apply Kd.R_drewN | apply Kd.R_drew)); exact HO104.out) hb); have n1_ := Aside0.mk (Kd.R_below (by (with_reducible repeat (first | apply Kd.R_alloc | apply Kd.R_drewN | apply Kd.R_drew)); exact HO112.out) hb); have n2_ := Aside0.mk (blk_below (g := gb106) (o := .cells #[.int .i64 t101, .slice (some ad117) t102.length co39] 24 (0, 0)) (by (with_reducible repeat (first | refine blk_drewN ?_ _ | refine blk_drew ?_ | refine blk_alloc ?_ _)); exact BK106.out) hb); have n3_ := Aside0.mk (blk_below (g := gb114) (o := .cells #[.int .i64 t109, .slice Ao46 t110.length co46] 24 (0, 0)) (by (with_reducible repeat (first | refine blk_drewN ?_ _ | refine blk_drew ?_ | refine blk_alloc ?_ _)); exact BK114.out) hb); have n4_ := Aside0.mk (below_step (by repeat (first | (with_reducible first | exact HB.out | apply below_alloc | apply pw_below_drewN | apply below_drew1 | refine below_set ?_ GE106.out | refine below_set ?_ GE114.out) | exact HB.out)) hb); clear HO104; clear HO112; clear BK106; clear BK114; clear HB; have HO104 := n0_; have HO112 := n1_; have BK106 := n2_; have BK114 := n3_; have HB := n4_; clear n0_ n1_ n2_ n3_ n4_; (try clear hb); (try clear hb2); (try clear hk); (try clear hi); have hcz51_0 : w50.cell? ⟨gb114, 0, none⟩ = some (.int .i64 t109) := (blk_cell BK114.out 0).trans rfl; have hcz51_1 : w50.cell? ⟨gb114, 1, none⟩ = some (.slice Ao46 t110.length co46) := (blk_cell BK114.out 1).trans rfl; have hfz51_0 := blk_frozen BK114.out 0; have hfz51_1 := blk_frozen BK114.out 1) | (go_at_call 34; (with_reducible refine (slabGood.calls t109 _ _ t110 t119 _ ?side1 ?side2 A35.out).mono ?_); (case side1 => repeat (first | exact (Kd.R_reads' HO112.out).2.2 | (with_reducible refine Kd.C_alloc ?_ _) | (with_reducible refine Kd.C_drewN ?_ _) | (with_reducible refine Kd.C_drew ?_))); (case side2 => exact (Kd.R_reads' HO112.out).2.1); rintro e w52 ⟨rfl, hb⟩; have n0_ := Aside0.mk (Kd.R_below (by (with_reducible repeat (first | apply Kd.R_alloc | apply Kd.R_drewN | apply Kd.R_drew)); exact HO104.out) hb); have n1_ := Aside0.mk (Kd.R_below (by (with_reducible repeat (first | apply Kd.R_alloc | apply Kd.R_drewN | apply Kd.R_drew)); exact HO112.out) hb); have n2_ := Aside0.mk (blk_below (g := gb106) (o := .cells #[.int .i64 t101, .slice (some ad117) t102.length co39] 24 (0, 0)) (by (with_reducible repeat (first | refine blk_drewN ?_ _ | refine blk_drew ?_ | refine blk_alloc ?_ _)); exact BK106.out) hb); have n3_ := Aside0.mk (blk_below (g := gb114) (o := .cells #[.int .i64 t109, .slice Ao46 t110.length co46] 24 (0, 0)) (by (with_reducible repeat (first | refine blk_drewN ?_ _ | refine blk_drew ?_ | refine blk_alloc ?_ _)); exact BK114.out) hb); have n4_ := Aside0.mk (below_step (by repeat (first | (with_reducible first | exact HB.out | apply below_alloc | apply pw_below_drewN | apply below_drew1 | refine below_set ?_ GE106.out | refine below_set ?_ GE114.out) | exact HB.out)) hb); clear HO104; clear HO112; clear BK106; clear BK114; clear HB; have HO104 := n0_; have HO112 := n1_; have BK106 := n2_; have BK114 := n3_; have HB := n4_; clear n0_ n1_ n2_ n3_ n4_; (try clear hb); (try clear hb2); (try clear hk); (try clear hi)))
                              go_ret
                              exact ⟨by first | rfl | (simp [errW_none, errW_some] <;> rfl) | (simp [*, errW_none, errW_some] <;> rfl), by repeat (first | (with_reducible first | exact HB.out | apply below_alloc | apply pw_below_drewN | apply below_drew1 | refine below_set ?_ GE106.out | refine below_set ?_ GE114.out) | exact HB.out)⟩
                            · exfalso; have q_ := Option.some.inj (A1.out.symm.trans v30_1); simp only [Prod.mk.injEq] at q_; obtain ⟨rfl, rfl, rfl⟩ := q_; have q_ := Option.some.inj (A2.out.symm.trans v30_2); simp only [Prod.mk.injEq] at q_; obtain ⟨rfl, rfl⟩ := q_; have q_ := Option.some.inj (A3.out.symm.trans v30_3); simp only [Prod.mk.injEq] at q_; obtain ⟨rfl, rfl, rfl⟩ := q_; have q_ := Option.some.inj (A4.out.symm.trans v30_4); simp only [Prod.mk.injEq] at q_; obtain ⟨rfl, rfl⟩ := q_; have q_ := Option.some.inj (A24.out.symm.trans v30_24); subst q_; exact c34 (by decide +kernel)
                          · exfalso; have q_ := Option.some.inj (A1.out.symm.trans v30_1); simp only [Prod.mk.injEq] at q_; obtain ⟨rfl, rfl, rfl⟩ := q_; have q_ := Option.some.inj (A2.out.symm.trans v30_2); simp only [Prod.mk.injEq] at q_; obtain ⟨rfl, rfl⟩ := q_; have q_ := Option.some.inj (A3.out.symm.trans v30_3); simp only [Prod.mk.injEq] at q_; obtain ⟨rfl, rfl, rfl⟩ := q_; have q_ := Option.some.inj (A4.out.symm.trans v30_4); simp only [Prod.mk.injEq] at q_; obtain ⟨rfl, rfl⟩ := q_; have q_ := Option.some.inj (A24.out.symm.trans v30_24); subst q_; exact c33 (by decide +kernel)
                        · exfalso; have q_ := Option.some.inj (A1.out.symm.trans v30_1); simp only [Prod.mk.injEq] at q_; obtain ⟨rfl, rfl, rfl⟩ := q_; have q_ := Option.some.inj (A2.out.symm.trans v30_2); simp only [Prod.mk.injEq] at q_; obtain ⟨rfl, rfl⟩ := q_; have q_ := Option.some.inj (A3.out.symm.trans v30_3); simp only [Prod.mk.injEq] at q_; obtain ⟨rfl, rfl, rfl⟩ := q_; have q_ := Option.some.inj (A4.out.symm.trans v30_4); simp only [Prod.mk.injEq] at q_; obtain ⟨rfl, rfl⟩ := q_; have q_ := Option.some.inj (A24.out.symm.trans v30_24); subst q_; exact c32 (by decide +kernel)
                      · exfalso; have q_ := Option.some.inj (A1.out.symm.trans v30_1); simp only [Prod.mk.injEq] at q_; obtain ⟨rfl, rfl, rfl⟩ := q_; have q_ := Option.some.inj (A2.out.symm.trans v30_2); simp only [Prod.mk.injEq] at q_; obtain ⟨rfl, rfl⟩ := q_; have q_ := Option.some.inj (A3.out.symm.trans v30_3); simp only [Prod.mk.injEq] at q_; obtain ⟨rfl, rfl, rfl⟩ := q_; have q_ := Option.some.inj (A4.out.symm.trans v30_4); simp only [Prod.mk.injEq] at q_; obtain ⟨rfl, rfl⟩ := q_; have q_ := Option.some.inj (A24.out.symm.trans v30_24); subst q_; exact c31 (by decide +kernel)
                    · exfalso; have q_ := Option.some.inj (A1.out.symm.trans v30_1); simp only [Prod.mk.injEq] at q_; obtain ⟨rfl, rfl, rfl⟩ := q_; have q_ := Option.some.inj (A2.out.symm.trans v30_2); simp only [Prod.mk.injEq] at q_; obtain ⟨rfl, rfl⟩ := q_; have q_ := Option.some.inj (A3.out.symm.trans v30_3); simp only [Prod.mk.injEq] at q_; obtain ⟨rfl, rfl, rfl⟩ := q_; have q_ := Option.some.inj (A4.out.symm.trans v30_4); simp only [Prod.mk.injEq] at q_; obtain ⟨rfl, rfl⟩ := q_; have q_ := Option.some.inj (A24.out.symm.trans v30_24); subst q_; exact c30 (by decide +kernel)
                  · exfalso; have q_ := Option.some.inj (A1.out.symm.trans v30_1); simp only [Prod.mk.injEq] at q_; obtain ⟨rfl, rfl, rfl⟩ := q_; have q_ := Option.some.inj (A2.out.symm.trans v30_2); simp only [Prod.mk.injEq] at q_; obtain ⟨rfl, rfl⟩ := q_; have q_ := Option.some.inj (A3.out.symm.trans v30_3); simp only [Prod.mk.injEq] at q_; obtain ⟨rfl, rfl, rfl⟩ := q_; have q_ := Option.some.inj (A4.out.symm.trans v30_4); simp only [Prod.mk.injEq] at q_; obtain ⟨rfl, rfl⟩ := q_; have q_ := Option.some.inj (A24.out.symm.trans v30_24); subst q_; exact c29 (by decide +kernel)
                · exfalso; have q_ := Option.some.inj (A1.out.symm.trans v30_1); simp only [Prod.mk.injEq] at q_; obtain ⟨rfl, rfl, rfl⟩ := q_; have q_ := Option.some.inj (A2.out.symm.trans v30_2); simp only [Prod.mk.injEq] at q_; obtain ⟨rfl, rfl⟩ := q_; have q_ := Option.some.inj (A3.out.symm.trans v30_3); simp only [Prod.mk.injEq] at q_; obtain ⟨rfl, rfl, rfl⟩ := q_; have q_ := Option.some.inj (A4.out.symm.trans v30_4); simp only [Prod.mk.injEq] at q_; obtain ⟨rfl, rfl⟩ := q_; have q_ := Option.some.inj (A24.out.symm.trans v30_24); subst q_; exact c28 (by decide +kernel)
              · exfalso; have q_ := Option.some.inj (A1.out.symm.trans v30_1); simp only [Prod.mk.injEq] at q_; obtain ⟨rfl, rfl, rfl⟩ := q_; have q_ := Option.some.inj (A2.out.symm.trans v30_2); simp only [Prod.mk.injEq] at q_; obtain ⟨rfl, rfl⟩ := q_; have q_ := Option.some.inj (A3.out.symm.trans v30_3); simp only [Prod.mk.injEq] at q_; obtain ⟨rfl, rfl, rfl⟩ := q_; have q_ := Option.some.inj (A4.out.symm.trans v30_4); simp only [Prod.mk.injEq] at q_; obtain ⟨rfl, rfl⟩ := q_; have q_ := Option.some.inj (A24.out.symm.trans v30_24); subst q_; exact c27 (by decide +kernel)
            · exfalso; have q_ := Option.some.inj (A1.out.symm.trans v30_1); simp only [Prod.mk.injEq] at q_; obtain ⟨rfl, rfl, rfl⟩ := q_; have q_ := Option.some.inj (A2.out.symm.trans v30_2); simp only [Prod.mk.injEq] at q_; obtain ⟨rfl, rfl⟩ := q_; have q_ := Option.some.inj (A3.out.symm.trans v30_3); simp only [Prod.mk.injEq] at q_; obtain ⟨rfl, rfl, rfl⟩ := q_; have q_ := Option.some.inj (A4.out.symm.trans v30_4); simp only [Prod.mk.injEq] at q_; obtain ⟨rfl, rfl⟩ := q_; have q_ := Option.some.inj (A24.out.symm.trans v30_24); subst q_; exact c26 (by decide +kernel)
          · exfalso; have q_ := Option.some.inj (A1.out.symm.trans v30_1); simp only [Prod.mk.injEq] at q_; obtain ⟨rfl, rfl, rfl⟩ := q_; have q_ := Option.some.inj (A2.out.symm.trans v30_2); simp only [Prod.mk.injEq] at q_; obtain ⟨rfl, rfl⟩ := q_; have q_ := Option.some.inj (A3.out.symm.trans v30_3); simp only [Prod.mk.injEq] at q_; obtain ⟨rfl, rfl, rfl⟩ := q_; have q_ := Option.some.inj (A4.out.symm.trans v30_4); simp only [Prod.mk.injEq] at q_; obtain ⟨rfl, rfl⟩ := q_; have q_ := Option.some.inj (A24.out.symm.trans v30_24); subst q_; exact c25 (by decide +kernel)
      · exfalso; have q_ := Option.some.inj (A1.out.symm.trans v30_1); simp only [Prod.mk.injEq] at q_; obtain ⟨rfl, rfl, rfl⟩ := q_; have q_ := Option.some.inj (A2.out.symm.trans v30_2); simp only [Prod.mk.injEq] at q_; obtain ⟨rfl, rfl⟩ := q_; have q_ := Option.some.inj (A3.out.symm.trans v30_3); simp only [Prod.mk.injEq] at q_; obtain ⟨rfl, rfl, rfl⟩ := q_; have q_ := Option.some.inj (A4.out.symm.trans v30_4); simp only [Prod.mk.injEq] at q_; obtain ⟨rfl, rfl⟩ := q_; exact c7 (by decide +kernel)
    · exfalso; have q_ := Option.some.inj (A1.out.symm.trans v30_1); simp only [Prod.mk.injEq] at q_; obtain ⟨rfl, rfl, rfl⟩ := q_; have q_ := Option.some.inj (A2.out.symm.trans v30_2); simp only [Prod.mk.injEq] at q_; obtain ⟨rfl, rfl⟩ := q_; have q_ := Option.some.inj (A3.out.symm.trans v30_3); simp only [Prod.mk.injEq] at q_; obtain ⟨rfl, rfl, rfl⟩ := q_; have q_ := Option.some.inj (A4.out.symm.trans v30_4); simp only [Prod.mk.injEq] at q_; obtain ⟨rfl, rfl⟩ := q_; exact c6 (by decide +kernel)
  · exfalso; have q_ := Option.some.inj (A1.out.symm.trans v30_1); simp only [Prod.mk.injEq] at q_; obtain ⟨rfl, rfl, rfl⟩ := q_; have q_ := Option.some.inj (A2.out.symm.trans v30_2); simp only [Prod.mk.injEq] at q_; obtain ⟨rfl, rfl⟩ := q_; have q_ := Option.some.inj (A3.out.symm.trans v30_3); simp only [Prod.mk.injEq] at q_; obtain ⟨rfl, rfl, rfl⟩ := q_; have q_ := Option.some.inj (A4.out.symm.trans v30_4); simp only [Prod.mk.injEq] at q_; obtain ⟨rfl, rfl⟩ := q_; exact c5 (by decide +kernel)
end Go.Proofs.Ytfjmnaobfbmllaa.M

namespace Go.Proofs.Ytfjmnaobfbmllaa.M
open Go.RowKit Go.Proofs.YtfjmnaobfbmllaaW.PrintWords Go.Proofs.YtfjmnaobfbmllaaW.PrintLast Go.Proofs.YtfjmnaobfbmllaaW.PrintMore
theorem awake3_pure : seneschallaw03_awake.f = some true := by decide +kernel
def awake3.f : Option Bool := some true
theorem awake3.calls (r : Bool) (w : World) (h : awake3.f = some r) : Calls Try.prog 30 #[] w fun e w' => e = .returned (.bool r) ∧ Below w.heap.size w w' :=
  seneschallaw03_awake.calls r w (by rw [awake3_pure]; exact h)
end Go.Proofs.Ytfjmnaobfbmllaa.M

namespace Go.Proofs.Ytfjmnaobfbmllaa.M
open Go.RowKit Go.Proofs.YtfjmnaobfbmllaaW.PrintWords Go.Proofs.YtfjmnaobfbmllaaW.PrintLast Go.Proofs.YtfjmnaobfbmllaaW.PrintMore
attribute [local go_sem] max2_int min2_int max_two min_two max_three min_three max_four min_four   -- for this text's walks alone
set_option linter.unusedVariables false
set_option linter.unusedSimpArgs false

attribute [local go_sem high] eqA33
/-! ### seneschallaw03_SlabPuts: function 5 -/
mutual
def seneschallaw03_SlabPuts.j0 : Nat → Int → Bool → Int → List (S33) → Bool → ByteArray → Option (Bool)
  | 0, _, _, _, _, _, _ => none
  | k + 1, x1, x24, x102000, x102001, x103000, x103001 => if x24 = true then (some true) else ((slabAt.f x102000 x102001 x1).bind fun bt105 => ((refAt.f x102000 x102001 x1).bind fun bt107 => (if (!(bt105.1 == bt107.1) || (!(bt105.2.toList == bt107.2.toList))) = true then (some false) else ((slabPut.f x102000 x102001 x1 x103000 x103001).bind fun bt109 => ((refPut.f x102000 x102001 x1 x103000 x103001).bind fun bt115 => ((refSame.f bt109.1 bt109.2.1 bt115.1 bt115.2.1).bind fun t121 => (if t121 = true then (seneschallaw03_SlabPuts.j1 k x1 (bt109.2.2 != bt115.2.2) x102000 x102001) else (seneschallaw03_SlabPuts.j1 k x1 true x102000 x102001))))))))
def seneschallaw03_SlabPuts.j1 : Nat → Int → Bool → Int → List (S33) → Option (Bool)
  | 0, _, _, _, _ => none
  | k + 1, x1, x54, x102000, x102001 => if x54 = true then (some false) else ((slabVac.f x102000 x102001 x1).bind fun bt122 => ((refVac.f x102000 x102001 x1).bind fun bt124 => (if bt122.1 = bt124.1 then (some (bt122.2 == bt124.2)) else (some false))))
end
def seneschallaw03_SlabPuts.f (k : Nat) (a0_0 : Int) (l0_1 : List (S33)) (a1 : Int) (a2_0 : Bool) (a2_1 : ByteArray) : Option (Bool) := (awake3.f).bind fun t103 => (if t103 = true then ((great3.f a0_0 l0_1).bind fun t104 => (if t104 = true then (seneschallaw03_SlabPuts.j0 k a1 true a0_0 l0_1 a2_0 a2_1) else (seneschallaw03_SlabPuts.j0 k a1 (decide ((a2_1.size : Int) > 4096)) a0_0 l0_1 a2_0 a2_1))) else (some false))
set_option maxHeartbeats 8000000 in
set_option maxRecDepth 100000 in
theorem seneschallaw03_SlabPuts.calls (k : Nat) (a0_0 : Int) (A0_1 : Option Addr) (c0_1 : Nat) (l0_1 : List (S33)) (a1 : Int) (a2_0 : Bool) (a2_1 : ByteArray) (r : Bool) (w : World) (hr0_1 : Kd.C k33 w A0_1 l0_1.length l0_1) (hc0_1 : l0_1.length ≤ c0_1) (h : seneschallaw03_SlabPuts.f k a0_0 l0_1 a1 a2_0 a2_1 = some r) :
    Calls Try.prog 5 #[.agg #[.int .i64 a0_0, .slice A0_1 l0_1.length c0_1], .int .i64 a1, .agg #[.bool a2_0, .string a2_1]] w fun e w' => e = .returned (.bool r) ∧ Below w.heap.size w w' := by
  have hu24 := Try.underlying24
  have hu33 := Try.underlying33
  have HR0_1 := Aside0.mk hr0_1
  have HC0_1 := Aside0.mk hc0_1
  clear hr0_1 hc0_1
  have HB := Aside0.mk (Below.refl w.heap.size w)
  have H : ((awake3.f).bind fun t103 => (if t103 = true then ((great3.f a0_0 l0_1).bind fun t104 => (if t104 = true then (seneschallaw03_SlabPuts.j0 k a1 true a0_0 l0_1 a2_0 a2_1) else (seneschallaw03_SlabPuts.j0 k a1 (decide ((a2_1.size : Int) > 4096)) a0_0 l0_1 a2_0 a2_1))) else (some false))) = some r := h
  clear h
  replace H := Option.bind_eq_some_iff.mp H
  obtain ⟨t103, A40, H⟩ := H
  replace H : (if t103 = true then ((great3.f a0_0 l0_1).bind fun t104 => (if t104 = true then (seneschallaw03_SlabPuts.j0 k a1 true a0_0 l0_1 a2_0 a2_1) else (seneschallaw03_SlabPuts.j0 k a1 (decide ((a2_1.size : Int) > 4096)) a0_0 l0_1 a2_0 a2_1))) else (some false)) = some r := H
  have A4 := Aside0.mk A40
  clear A40
  by_cases c5 : t103 = true
  · subst c5
    have H1 : ((great3.f a0_0 l0_1).bind fun t104 => (if t104 = true then (seneschallaw03_SlabPuts.j0 k a1 true a0_0 l0_1 a2_0 a2_1) else (seneschallaw03_SlabPuts.j0 k a1 (decide ((a2_1.size : Int) > 4096)) a0_0 l0_1 a2_0 a2_1))) = some r := by rw [if_pos rfl] at H; exact H
    clear H
    have H := H1
    clear H1
    have HC6 := Aside0.mk H
    clear H
    go_enter Try.func5, Try.ntmps5
    go_upto_region 3 with (first | ((with_reducible refine gate_dst (N := 3) rfl ?_); (try (refine gate_guard (by rfl) ?_; dsimp only)); refine box_event ?hg (N := 3) ?hd (cs := #[.int .i64 a0_0, .slice A0_1 l0_1.length c0_1]) (t := 24) ?hr ?_; (case hd => rfl); (case hg => rfl); (case hr => first | (go_simp; done) | (go_simp; rfl)); intro gb101 hg w7 hbox hb; have n0_ := Aside0.mk (below_step (by repeat (first | (with_reducible first | exact HB.out | apply below_alloc | apply pw_below_drewN | apply below_drew1) | exact HB.out)) hb); have n1_ := Aside0.mk (hbox); have n2_ := Aside0.mk ((by rw [hg]; exact (below_size (by repeat (first | (with_reducible first | exact HB.out | apply below_alloc | apply pw_below_drewN | apply below_drew1) | exact HB.out))) : w.heap.size ≤ gb101)); have n3_ := Aside0.mk ((by rw [hg]; exact (below_size (by repeat (first | (with_reducible first | exact HB.out | apply below_alloc | apply pw_below_drewN | apply below_drew1) | exact HB.out))) : w.heap.size ≤ gb101)); clear HB; have HB := n0_; have BK101 := n1_; have GW101 := n2_; have GE101 := n3_; clear n0_ n1_ n2_ n3_; clear hb hbox hg) | ((with_reducible refine gate_dst (N := 5) rfl ?_); (try (refine gate_guard (by rfl) ?_; dsimp only)); refine box_event ?hg (N := 5) ?hd (cs := #[.bool a2_0, .string a2_1]) (t := 33) ?hr ?_; (case hd => rfl); (case hg => rfl); (case hr => first | (go_simp; done) | (go_simp; rfl)); intro gb102 hg w8 hbox hb; have n0_ := Aside0.mk (blk_below (g := gb101) (o := .cells #[.int .i64 a0_0, .slice A0_1 l0_1.length c0_1] 24 (0, 0)) (by (with_reducible repeat (first | refine blk_drewN ?_ _ | refine blk_drew ?_ | refine blk_alloc ?_ _)); exact BK101.out) hb); have n1_ := Aside0.mk (below_step (by repeat (first | (with_reducible first | exact HB.out | apply below_alloc | apply pw_below_drewN | apply below_drew1 | refine below_set ?_ GE101.out) | exact HB.out)) hb); have n2_ := Aside0.mk (hbox); have n3_ := Aside0.mk ((by rw [hg]; exact (below_size (by repeat (first | (with_reducible first | exact HB.out | apply below_alloc | apply pw_below_drewN | apply below_drew1 | refine below_set ?_ GE101.out) | exact HB.out))) : w.heap.size ≤ gb102)); have n4_ := Aside0.mk ((by rw [hg]; exact (below_size (by repeat (first | (with_reducible first | exact HB.out | apply below_alloc | apply pw_below_drewN | apply below_drew1 | refine below_set ?_ GE101.out) | exact HB.out))) : w.heap.size ≤ gb102)); have n5_ := Aside0.mk ((by rw [hg]; exact Nat.ne_of_lt (blk_lt (g := gb101) (o := .cells #[.int .i64 a0_0, .slice A0_1 l0_1.length c0_1] 24 (0, 0)) (by (with_reducible repeat (first | refine blk_drewN ?_ _ | refine blk_drew ?_ | refine blk_alloc ?_ _)); exact BK101.out)) : gb101 ≠ gb102)); have n6_ := Aside0.mk ((by rw [hg]; exact Nat.ne_of_gt (blk_lt (g := gb101) (o := .cells #[.int .i64 a0_0, .slice A0_1 l0_1.length c0_1] 24 (0, 0)) (by (with_reducible repeat (first | refine blk_drewN ?_ _ | refine blk_drew ?_ | refine blk_alloc ?_ _)); exact BK101.out)) : gb102 ≠ gb101)); clear BK101; clear HB; have BK101 := n0_; have HB := n1_; have BK102 := n2_; have GW102 := n3_; have GE102 := n4_; have NB101_102 := n5_; have NB102_101 := n6_; clear n0_ n1_ n2_ n3_ n4_ n5_ n6_; clear hb hbox hg) | ((with_reducible refine gate_callee (f := 30) rfl ?_); refine goesL_ (some 15) rfl rfl Try.func30 (by kernel_rfl) rfl #[] rfl (by (try simp only [List.map_toArray, List.map_cons, List.map_nil]); first | done | rfl | (simp only [List.length_drop, List.length_take]; rfl)) ?_; (with_reducible refine (awake3.calls  true _ A4.out).mono ?_); rintro e w9 ⟨rfl, hb⟩; refine ⟨_, rfl, ?_⟩; have n0_ := Aside0.mk (blk_below (g := gb101) (o := .cells #[.int .i64 a0_0, .slice A0_1 l0_1.length c0_1] 24 (0, 0)) (by (with_reducible repeat (first | refine blk_drewN ?_ _ | refine blk_drew ?_ | refine blk_alloc ?_ _)); exact BK101.out) hb); have n1_ := Aside0.mk (blk_below (g := gb102) (o := .cells #[.bool a2_0, .string a2_1] 33 (0, 0)) (by (with_reducible repeat (first | refine blk_drewN ?_ _ | refine blk_drew ?_ | refine blk_alloc ?_ _)); exact BK102.out) hb); have n2_ := Aside0.mk (below_step (by repeat (first | (with_reducible first | exact HB.out | apply below_alloc | apply pw_below_drewN | apply below_drew1 | refine below_set ?_ GE101.out | refine below_set ?_ GE102.out) | exact HB.out)) hb); clear BK101; clear BK102; clear HB; have BK101 := n0_; have BK102 := n1_; have HB := n2_; clear n0_ n1_ n2_; (try clear hb); (try clear hb2); (try clear hk); (try clear hi)))
    (try simp only [Act.put, List.setIfInBounds_toArray, List.set_cons_zero, List.set_cons_succ])
    go_cut [24] (fun v24 wc => ∃ (kq : Nat) (x24_5 : Bool), v24 = .bool x24_5 ∧ Aside0 (seneschallaw03_SlabPuts.j0 kq a1 x24_5 a0_0 l0_1 a2_0 a2_1 = some r) ∧ Aside0 (kq ≤ k) ∧ Aside0 (wc.heap[gb101]? = some (.cells #[.int .i64 a0_0, (.slice A0_1 l0_1.length c0_1)] 24 (0, 0))) ∧ Aside0 (wc.heap[gb102]? = some (.cells #[.bool a2_0, .string a2_1] 33 (0, 0))) ∧ Aside0 (Below w.heap.size w wc))
    case first =>
      have H := HC6.out
      clear HC6
      replace H := Option.bind_eq_some_iff.mp H
      obtain ⟨t104, A100, H⟩ := H
      replace H : (if t104 = true then (seneschallaw03_SlabPuts.j0 k a1 true a0_0 l0_1 a2_0 a2_1) else (seneschallaw03_SlabPuts.j0 k a1 (decide ((a2_1.size : Int) > 4096)) a0_0 l0_1 a2_0 a2_1)) = some r := H
      have A10 := Aside0.mk A100
      clear A100
      by_cases c11 : t104 = true
      · subst c11
        have H1 : (seneschallaw03_SlabPuts.j0 k a1 true a0_0 l0_1 a2_0 a2_1) = some r := by rw [if_pos rfl] at H; exact H
        clear H
        have H := H1
        clear H1
        have H' := Aside0.mk H
        clear H
        have hnb12 := NB101_102.out
        have hnc12 := NB102_101.out
        have hcz13_0 : w9.cell? ⟨gb101, 0, none⟩ = some (.int .i64 a0_0) := (blk_cell BK101.out 0).trans rfl
        have hcz13_1 : w9.cell? ⟨gb101, 1, none⟩ = some (.slice A0_1 l0_1.length c0_1) := (blk_cell BK101.out 1).trans rfl
        have hfz13_0 := blk_frozen BK101.out 0
        have hfz13_1 := blk_frozen BK101.out 1
        go_wp2_with (first | ((with_reducible refine gate_callee (f := 31) rfl ?_); refine goesL_ (some 18) rfl rfl Try.func31 (by kernel_rfl) rfl #[.agg #[.int .i64 a0_0, .slice A0_1 l0_1.length c0_1]] rfl (by (try simp only [List.map_toArray, List.map_cons, List.map_nil]); first | done | rfl | (simp only [List.length_drop, List.length_take]; rfl)) ?_; (with_reducible refine (great3.calls a0_0 _ _ l0_1 true _ ?side1 ?side2 A10.out).mono ?_); (case side1 => repeat (first | exact (Kd.C_below HR0_1.out HB.out) | (with_reducible refine Kd.C_alloc ?_ _) | (with_reducible refine Kd.C_drewN ?_ _) | (with_reducible refine Kd.C_drew ?_))); (case side2 => exact HC0_1.out); rintro e w14 ⟨rfl, hb⟩; refine ⟨_, rfl, ?_⟩; have n0_ := Aside0.mk (blk_below (g := gb101) (o := .cells #[.int .i64 a0_0, .slice A0_1 l0_1.length c0_1] 24 (0, 0)) (by (with_reducible repeat (first | refine blk_drewN ?_ _ | refine blk_drew ?_ | refine blk_alloc ?_ _)); exact BK101.out) hb); have n1_ := Aside0.mk (blk_below (g := gb102) (o := .cells #[.bool a2_0, .string a2_1] 33 (0, 0)) (by (with_reducible repeat (first | refine blk_drewN ?_ _ | refine blk_drew ?_ | refine blk_alloc ?_ _)); exact BK102.out) hb); have n2_ := Aside0.mk (below_step (by repeat (first | (with_reducible first | exact HB.out | apply below_alloc | apply pw_below_drewN | apply below_drew1 | refine below_set ?_ GE101.out | refine below_set ?_ GE102.out) | exact HB.out)) hb); clear BK101; clear BK102; clear HB; have BK101 := n0_; have BK102 := n1_; have HB := n2_; clear n0_ n1_ n2_; (try clear hb); (try clear hb2); (try clear hk); (try clear hi)))
        go_meet
        case rel => exact ⟨_, (true), (by first | rfl | (simp; done) | (simp [*]; done)), H', ⟨by first | omega | exact Nat.le_refl _⟩, ⟨by (with_reducible repeat (first | refine blk_drewN ?_ _ | refine blk_drew ?_ | refine blk_alloc ?_ _)); exact BK101.out⟩, ⟨by (with_reducible repeat (first | refine blk_drewN ?_ _ | refine blk_drew ?_ | refine blk_alloc ?_ _)); exact BK102.out⟩, ⟨by repeat (first | (with_reducible first | exact HB.out | apply below_alloc | apply pw_below_drewN | apply below_drew1 | refine below_set ?_ GE101.out | refine below_set ?_ GE102.out) | exact HB.out)⟩⟩
      · replace c11 := Bool.eq_false_iff.mpr c11
        subst c11
        have H1 : (seneschallaw03_SlabPuts.j0 k a1 (decide ((a2_1.size : Int) > 4096)) a0_0 l0_1 a2_0 a2_1) = some r := by rw [if_neg (show ¬ (false = true) by decide)] at H; exact H
        clear H
        have H := H1
        clear H1
        have H' := Aside0.mk H
        clear H
        have hnb15 := NB101_102.out
        have hnc15 := NB102_101.out
        have hcz16_0 : w9.cell? ⟨gb101, 0, none⟩ = some (.int .i64 a0_0) := (blk_cell BK101.out 0).trans rfl
        have hcz16_1 : w9.cell? ⟨gb101, 1, none⟩ = some (.slice A0_1 l0_1.length c0_1) := (blk_cell BK101.out 1).trans rfl
        have hfz16_0 := blk_frozen BK101.out 0
        have hfz16_1 := blk_frozen BK101.out 1
        go_wp2_with (first | ((with_reducible refine gate_callee (f := 31) rfl ?_); refine goesL_ (some 18) rfl rfl Try.func31 (by kernel_rfl) rfl #[.agg #[.int .i64 a0_0, .slice A0_1 l0_1.length c0_1]] rfl (by (try simp only [List.map_toArray, List.map_cons, List.map_nil]); first | done | rfl | (simp only [List.length_drop, List.length_take]; rfl)) ?_; (with_reducible refine (great3.calls a0_0 _ _ l0_1 false _ ?side1 ?side2 A10.out).mono ?_); (case side1 => repeat (first | exact (Kd.C_below HR0_1.out HB.out) | (with_reducible refine Kd.C_alloc ?_ _) | (with_reducible refine Kd.C_drewN ?_ _) | (with_reducible refine Kd.C_drew ?_))); (case side2 => exact HC0_1.out); rintro e w17 ⟨rfl, hb⟩; refine ⟨_, rfl, ?_⟩; have n0_ := Aside0.mk (blk_below (g := gb101) (o := .cells #[.int .i64 a0_0, .slice A0_1 l0_1.length c0_1] 24 (0, 0)) (by (with_reducible repeat (first | refine blk_drewN ?_ _ | refine blk_drew ?_ | refine blk_alloc ?_ _)); exact BK101.out) hb); have n1_ := Aside0.mk (blk_below (g := gb102) (o := .cells #[.bool a2_0, .string a2_1] 33 (0, 0)) (by (with_reducible repeat (first | refine blk_drewN ?_ _ | refine blk_drew ?_ | refine blk_alloc ?_ _)); exact BK102.out) hb); have n2_ := Aside0.mk (below_step (by repeat (first | (with_reducible first | exact HB.out | apply below_alloc | apply pw_below_drewN | apply below_drew1 | refine below_set ?_ GE101.out | refine below_set ?_ GE102.out) | exact HB.out)) hb); clear BK101; clear BK102; clear HB; have BK101 := n0_; have BK102 := n1_; have HB := n2_; clear n0_ n1_ n2_; (try clear hb); (try clear hb2); (try clear hk); (try clear hi); have hcz18_0 : w17.cell? ⟨gb102, 0, none⟩ = some (.bool a2_0) := (blk_cell BK102.out 0).trans rfl; have hcz18_1 : w17.cell? ⟨gb102, 1, none⟩ = some (.string a2_1) := (blk_cell BK102.out 1).trans rfl; have hfz18_0 := blk_frozen BK102.out 0; have hfz18_1 := blk_frozen BK102.out 1))
        go_meet
        case rel => exact ⟨_, (decide ((a2_1.size : Int) > 4096)), (by first | rfl | (simp; done) | (simp [*]; done)), H', ⟨by first | omega | exact Nat.le_refl _⟩, ⟨by (with_reducible repeat (first | refine blk_drewN ?_ _ | refine blk_drew ?_ | refine blk_alloc ?_ _)); exact BK101.out⟩, ⟨by (with_reducible repeat (first | refine blk_drewN ?_ _ | refine blk_drew ?_ | refine blk_alloc ?_ _)); exact BK102.out⟩, ⟨by repeat (first | (with_reducible first | exact HB.out | apply below_alloc | apply pw_below_drewN | apply below_drew1 | refine below_set ?_ GE101.out | refine below_set ?_ GE102.out) | exact HB.out)⟩⟩
    case rest =>
      clear HC6
      try clear c1
      try clear p2
      try clear c3
      try clear c5
      try clear c11
      try clear c12
      try clear c15
      try clear hcz13_0
      try clear hcz13_1
      try clear hcz16_0
      try clear hcz16_1
      try clear hcz18_0
      try clear hcz18_1
      try clear hfz13_0
      try clear hfz13_1
      try clear hfz16_0
      try clear hfz16_1
      try clear hfz18_0
      try clear hfz18_1
      obtain ⟨kq, x24_5, rfl, HA, HJ5, BK101, BK102, HB⟩ := hcut
      cases kq with
      | zero => exact absurd HA.out (by simp [seneschallaw03_SlabPuts.j0])
      | succ kj5 =>
        have H := HA.out
        clear HA
        simp only [seneschallaw03_SlabPuts.j0] at H
        by_cases c19 : x24_5 = true
        · subst c19
          have H1 : (some true) = some r := by rw [if_pos rfl] at H; exact H
          clear H
          have H := H1
          clear H1
          obtain rfl := Option.some.inj H
          go_wp2
          go_ret
          exact ⟨by first | rfl | (simp [errW_none, errW_some] <;> rfl) | (simp [*, errW_none, errW_some] <;> rfl), by repeat (first | (with_reducible first | exact HB.out | apply below_alloc | apply pw_below_drewN | apply below_drew1 | refine below_set ?_ GE101.out | refine below_set ?_ GE102.out) | exact HB.out)⟩
        · replace c19 := Bool.eq_false_iff.mpr c19
          subst c19
          have H1 : ((slabAt.f a0_0 l0_1 a1).bind fun bt105 => ((refAt.f a0_0 l0_1 a1).bind fun bt107 => (if (!(bt105.1 == bt107.1) || (!(bt105.2.toList == bt107.2.toList))) = true then (some false) else ((slabPut.f a0_0 l0_1 a1 a2_0 a2_1).bind fun bt109 => ((refPut.f a0_0 l0_1 a1 a2_0 a2_1).bind fun bt115 => ((refSame.f bt109.1 bt109.2.1 bt115.1 bt115.2.1).bind fun t121 => (if t121 = true then (seneschallaw03_SlabPuts.j1 kj5 a1 (bt109.2.2 != bt115.2.2) a0_0 l0_1) else (seneschallaw03_SlabPuts.j1 kj5 a1 true a0_0 l0_1)))))))) = some r := by rw [if_neg (show ¬ (false = true) by decide)] at H; exact H
          clear H
          have H := H1
          clear H1
          replace H := Option.bind_eq_some_iff.mp H
          obtain ⟨⟨t105, t106⟩, A200, H⟩ := H
          replace H : ((refAt.f a0_0 l0_1 a1).bind fun bt107 => (if (!(t105 == bt107.1) || (!(t106.toList == bt107.2.toList))) = true then (some false) else ((slabPut.f a0_0 l0_1 a1 a2_0 a2_1).bind fun bt109 => ((refPut.f a0_0 l0_1 a1 a2_0 a2_1).bind fun bt115 => ((refSame.f bt109.1 bt109.2.1 bt115.1 bt115.2.1).bind fun t121 => (if t121 = true then (seneschallaw03_SlabPuts.j1 kj5 a1 (bt109.2.2 != bt115.2.2) a0_0 l0_1) else (seneschallaw03_SlabPuts.j1 kj5 a1 true a0_0 l0_1))))))) = some r := H
          have A20 := Aside0.mk A200
          clear A200
          replace H := Option.bind_eq_some_iff.mp H
          obtain ⟨⟨t107, t108⟩, A210, H⟩ := H
          replace H : (if (!(t105 == t107) || (!(t106.toList == t108.toList))) = true then (some false) else ((slabPut.f a0_0 l0_1 a1 a2_0 a2_1).bind fun bt109 => ((refPut.f a0_0 l0_1 a1 a2_0 a2_1).bind fun bt115 => ((refSame.f bt109.1 bt109.2.1 bt115.1 bt115.2.1).bind fun t121 => (if t121 = true then (seneschallaw03_SlabPuts.j1 kj5 a1 (bt109.2.2 != bt115.2.2) a0_0 l0_1) else (seneschallaw03_SlabPuts.j1 kj5 a1 true a0_0 l0_1)))))) = some r := H
          have A21 := Aside0.mk A210
          clear A210
          by_cases c22 : (!(t105 == t107) || (!(t106.toList == t108.toList))) = true
          · rw [if_pos c22] at H
            have c22b0 : (!(t105 == t107) || (!(t106.toList == t108.toList))) = true := c22
            clear c22
            obtain rfl := Option.some.inj H
            try go_wp2
            have n0_ := Aside0.mk (blk_drew BK101.out)
            have n1_ := Aside0.mk (blk_drew BK102.out)
            have n2_ := Aside0.mk (below_drew1 HB.out)
            clear BK101
            clear BK102
            clear HB
            have BK101 := n0_
            have BK102 := n1_
            have HB := n2_
            clear n0_ n1_ n2_
            refine start_ (n := 7) (S := fun w' => w'.cell? ⟨gb101, 0, none⟩ = some (.int .i64 a0_0) ∧ w'.cell? ⟨gb101, 1, none⟩ = some (.slice A0_1 l0_1.length c0_1)) (ds := []) #[false, false, false, false, false, false, false] (by kernel_rfl) rfl rfl ⟨(blk_cell BK101.out 0).trans rfl, (blk_cell BK101.out 1).trans rfl⟩ (fun hHeld => ?_)
            generalize wc.drew = w23 at BK101 BK102 HB hHeld ⊢
            refine pure_ (i := 1) (N := some 26) (v := ?_) (a' := ?_) #[false, true, false, false, false, false, false] rfl rfl (by kernel_rfl) (fun _ _ _ h => h) (Or.inl ⟨by rfl, ?_⟩) ?_ ?_
            rotate_left
            · intro w'
              go_simp
              with_reducible rfl
            rotate_left
            · simp only [Act.put, List.setIfInBounds_toArray, List.set_cons_zero, List.set_cons_succ, i64_w, i32_w]
              rfl
            refine pure_ (i := 4) (N := some 29) (v := ?_) (a' := ?_) #[false, true, false, false, true, false, false] rfl rfl (by kernel_rfl) (fun _ _ _ h => h) (Or.inl ⟨by rfl, ?_⟩) ?_ ?_
            rotate_left
            · intro w'
              go_simp
              with_reducible rfl
            rotate_left
            · simp only [Act.put, List.setIfInBounds_toArray, List.set_cons_zero, List.set_cons_succ, i64_w, i32_w]
              rfl
            refine take_ (i := 0) (N := some 25) (v := ?_) (a' := ?_) #[true, true, false, false, true, false, false] rfl rfl (by kernel_rfl) (fun _ _ _ h => h) (Or.inl ⟨by rfl, ?_⟩) hHeld ?_ ?_
            rotate_left
            · rintro w' ⟨s0, s1⟩
              go_simp
              with_reducible rfl
            rotate_left
            · simp only [Act.put, List.setIfInBounds_toArray, List.set_cons_zero, List.set_cons_succ, i64_w, i32_w]
              rfl
            refine take_ (i := 3) (N := some 28) (v := ?_) (a' := ?_) #[true, true, false, true, true, false, false] rfl rfl (by kernel_rfl) (fun _ _ _ h => h) (Or.inl ⟨by rfl, ?_⟩) hHeld ?_ ?_
            rotate_left
            · rintro w' ⟨s0, s1⟩
              go_simp
              with_reducible rfl
            rotate_left
            · simp only [Act.put, List.setIfInBounds_toArray, List.set_cons_zero, List.set_cons_succ, i64_w, i32_w]
              rfl
            refine one_ (i := 2) (N := some 27) #[true, true, true, true, true, false, false] rfl rfl (by kernel_rfl) (by decide) (fun K hK => ?_)
            refine goes_ Try.func39 (by kernel_rfl) rfl #[.agg #[.int .i64 a0_0, .slice A0_1 l0_1.length c0_1], .int .i64 a1] (by rfl) rfl rfl (by (try simp only [List.map_toArray, List.map_cons, List.map_nil]); first | done | rfl | (simp only [List.length_drop, List.length_take]; rfl)) ?_
            with_reducible refine (slabAt.calls a0_0 _ _ l0_1 a1 t105 t106 _ ?side1 ?side2 A20.out).mono ?_
            (case side1 => repeat (first | exact (Kd.C_below HR0_1.out HB.out) | (with_reducible refine Kd.C_alloc ?_ _) | (with_reducible refine Kd.C_drewN ?_ _) | (with_reducible refine Kd.C_drew ?_)))
            (case side2 => exact HC0_1.out)
            rintro e w24 ⟨rfl, hb⟩
            refine ⟨_, rfl, ?_⟩
            have n0_ := Aside0.mk (blk_below (g := gb101) (o := .cells #[.int .i64 a0_0, .slice A0_1 l0_1.length c0_1] 24 (0, 0)) (by (with_reducible repeat (first | refine blk_drewN ?_ _ | refine blk_drew ?_ | refine blk_alloc ?_ _)); exact BK101.out) hb)
            have n1_ := Aside0.mk (blk_below (g := gb102) (o := .cells #[.bool a2_0, .string a2_1] 33 (0, 0)) (by (with_reducible repeat (first | refine blk_drewN ?_ _ | refine blk_drew ?_ | refine blk_alloc ?_ _)); exact BK102.out) hb)
            have n2_ := Aside0.mk (below_step (by repeat (first | (with_reducible first | exact HB.out | apply below_alloc | apply pw_below_drewN | apply below_drew1 | refine below_set ?_ GE101.out | refine below_set ?_ GE102.out) | exact HB.out)) hb)
            clear BK101
            clear BK102
            clear HB
            have BK101 := n0_
            have BK102 := n1_
            have HB := n2_
            clear n0_ n1_ n2_
            (try clear hb)
            (try clear hb2)
            (try clear hk)
            (try clear hi)
            refine hK.out _ _ ⟨(blk_cell BK101.out 0).trans rfl, (blk_cell BK101.out 1).trans rfl⟩ (fun hHeld => ?_)
            clear hK K
            refine norm_ (a' := ?_) ?_ ?_
            rotate_left
            · show Act.put _ (some 27) _ = _
              simp only [Act.put, List.setIfInBounds_toArray, List.set_cons_zero, List.set_cons_succ, i64_w, i32_w]
              rfl
            refine one_ (i := 5) (N := some 30) #[true, true, true, true, true, true, false] rfl rfl (by kernel_rfl) (by decide) (fun K hK => ?_)
            refine goes_ Try.func40 (by kernel_rfl) rfl #[.agg #[.int .i64 a0_0, .slice A0_1 l0_1.length c0_1], .int .i64 a1] (by rfl) rfl rfl (by (try simp only [List.map_toArray, List.map_cons, List.map_nil]); first | done | rfl | (simp only [List.length_drop, List.length_take]; rfl)) ?_
            with_reducible refine (refAt.calls a0_0 _ _ l0_1 a1 t107 t108 _ ?side1 ?side2 A21.out).mono ?_
            (case side1 => repeat (first | exact (Kd.C_below HR0_1.out HB.out) | (with_reducible refine Kd.C_alloc ?_ _) | (with_reducible refine Kd.C_drewN ?_ _) | (with_reducible refine Kd.C_drew ?_)))
            (case side2 => exact HC0_1.out)
            rintro e w25 ⟨rfl, hb⟩
            refine ⟨_, rfl, ?_⟩
            have n0_ := Aside0.mk (blk_below (g := gb101) (o := .cells #[.int .i64 a0_0, .slice A0_1 l0_1.length c0_1] 24 (0, 0)) (by (with_reducible repeat (first | refine blk_drewN ?_ _ | refine blk_drew ?_ | refine blk_alloc ?_ _)); exact BK101.out) hb)
            have n1_ := Aside0.mk (blk_below (g := gb102) (o := .cells #[.bool a2_0, .string a2_1] 33 (0, 0)) (by (with_reducible repeat (first | refine blk_drewN ?_ _ | refine blk_drew ?_ | refine blk_alloc ?_ _)); exact BK102.out) hb)
            have n2_ := Aside0.mk (below_step (by repeat (first | (with_reducible first | exact HB.out | apply below_alloc | apply pw_below_drewN | apply below_drew1 | refine below_set ?_ GE101.out | refine below_set ?_ GE102.out) | exact HB.out)) hb)
            clear BK101
            clear BK102
            clear HB
            have BK101 := n0_
            have BK102 := n1_
            have HB := n2_
            clear n0_ n1_ n2_
            (try clear hb)
            (try clear hb2)
            (try clear hk)
            (try clear hi)
            refine hK.out _ _ ⟨(blk_cell BK101.out 0).trans rfl, (blk_cell BK101.out 1).trans rfl⟩ (fun hHeld => ?_)
            clear hK K
            refine norm_ (a' := ?_) ?_ ?_
            rotate_left
            · show Act.put _ (some 30) _ = _
              simp only [Act.put, List.setIfInBounds_toArray, List.set_cons_zero, List.set_cons_succ, i64_w, i32_w]
              rfl
            refine pure_ (i := 6) (N := some 31) (v := ?_) (a' := ?_) #[true, true, true, true, true, true, true] rfl rfl (by kernel_rfl) (fun _ _ _ h => h) (Or.inl ⟨by rfl, ?_⟩) ?_ ?_
            rotate_left
            · intro w'
              go_simp
              with_reducible rfl
            rotate_left
            · simp only [Act.put, List.setIfInBounds_toArray, List.set_cons_zero, List.set_cons_succ, i64_w, i32_w]
              rfl
            refine done_ (by kernel_rfl) ?_
            try go_wp2
            go_ret
            exact ⟨by first | rfl | (simp [errW_none, errW_some] <;> rfl) | (simp [*, errW_none, errW_some] <;> rfl), by repeat (first | (with_reducible first | exact HB.out | apply below_alloc | apply pw_below_drewN | apply below_drew1 | refine below_set ?_ GE101.out | refine below_set ?_ GE102.out) | exact HB.out)⟩
          · rw [if_neg c22] at H
            have c22b0 : (!(t105 == t107) || (!(t106.toList == t108.toList))) = false := by simpa using c22
            clear c22
            replace H := Option.bind_eq_some_iff.mp H
            obtain ⟨⟨t109, t110, t113⟩, A260, H⟩ := H
            replace H : ((refPut.f a0_0 l0_1 a1 a2_0 a2_1).bind fun bt115 => ((refSame.f t109 t110 bt115.1 bt115.2.1).bind fun t121 => (if t121 = true then (seneschallaw03_SlabPuts.j1 kj5 a1 (t113 != bt115.2.2) a0_0 l0_1) else (seneschallaw03_SlabPuts.j1 kj5 a1 true a0_0 l0_1)))) = some r := H
            have A26 := Aside0.mk A260
            clear A260
            replace H := Option.bind_eq_some_iff.mp H
            obtain ⟨⟨t115, t116, t119⟩, A270, H⟩ := H
            replace H : ((refSame.f t109 t110 t115 t116).bind fun t121 => (if t121 = true then (seneschallaw03_SlabPuts.j1 kj5 a1 (t113 != t119) a0_0 l0_1) else (seneschallaw03_SlabPuts.j1 kj5 a1 true a0_0 l0_1))) = some r := H
            have A27 := Aside0.mk A270
            clear A270
            have HC28 := Aside0.mk H
            clear H
            try go_wp2
            have n0_ := Aside0.mk (blk_drew BK101.out)
            have n1_ := Aside0.mk (blk_drew BK102.out)
            have n2_ := Aside0.mk (below_drew1 HB.out)
            clear BK101
            clear BK102
            clear HB
            have BK101 := n0_
            have BK102 := n1_
            have HB := n2_
            clear n0_ n1_ n2_
            refine start_ (n := 7) (S := fun w' => w'.cell? ⟨gb101, 0, none⟩ = some (.int .i64 a0_0) ∧ w'.cell? ⟨gb101, 1, none⟩ = some (.slice A0_1 l0_1.length c0_1)) (ds := []) #[false, false, false, false, false, false, false] (by kernel_rfl) rfl rfl ⟨(blk_cell BK101.out 0).trans rfl, (blk_cell BK101.out 1).trans rfl⟩ (fun hHeld => ?_)
            generalize wc.drew = w29 at BK101 BK102 HB hHeld ⊢
            refine pure_ (i := 1) (N := some 26) (v := ?_) (a' := ?_) #[false, true, false, false, false, false, false] rfl rfl (by kernel_rfl) (fun _ _ _ h => h) (Or.inl ⟨by rfl, ?_⟩) ?_ ?_
            rotate_left
            · intro w'
              go_simp
              with_reducible rfl
            rotate_left
            · simp only [Act.put, List.setIfInBounds_toArray, List.set_cons_zero, List.set_cons_succ, i64_w, i32_w]
              rfl
            refine pure_ (i := 4) (N := some 29) (v := ?_) (a' := ?_) #[false, true, false, false, true, false, false] rfl rfl (by kernel_rfl) (fun _ _ _ h => h) (Or.inl ⟨by rfl, ?_⟩) ?_ ?_
            rotate_left
            · intro w'
              go_simp
              with_reducible rfl
            rotate_left
            · simp only [Act.put, List.setIfInBounds_toArray, List.set_cons_zero, List.set_cons_succ, i64_w, i32_w]
              rfl
            refine take_ (i := 0) (N := some 25) (v := ?_) (a' := ?_) #[true, true, false, false, true, false, false] rfl rfl (by kernel_rfl) (fun _ _ _ h => h) (Or.inl ⟨by rfl, ?_⟩) hHeld ?_ ?_
            rotate_left
            · rintro w' ⟨s0, s1⟩
              go_simp
              with_reducible rfl
            rotate_left
            · simp only [Act.put, List.setIfInBounds_toArray, List.set_cons_zero, List.set_cons_succ, i64_w, i32_w]
              rfl
            refine take_ (i := 3) (N := some 28) (v := ?_) (a' := ?_) #[true, true, false, true, true, false, false] rfl rfl (by kernel_rfl) (fun _ _ _ h => h) (Or.inl ⟨by rfl, ?_⟩) hHeld ?_ ?_
            rotate_left
            · rintro w' ⟨s0, s1⟩
              go_simp
              with_reducible rfl
            rotate_left
            · simp only [Act.put, List.setIfInBounds_toArray, List.set_cons_zero, List.set_cons_succ, i64_w, i32_w]
              rfl
            refine one_ (i := 2) (N := some 27) #[true, true, true, true, true, false, false] rfl rfl (by kernel_rfl) (by decide) (fun K hK => ?_)
            refine goes_ Try.func39 (by kernel_rfl) rfl #[.agg #[.int .i64 a0_0, .slice A0_1 l0_1.length c0_1], .int .i64 a1] (by rfl) rfl rfl (by (try simp only [List.map_toArray, List.map_cons, List.map_nil]); first | done | rfl | (simp only [List.length_drop, List.length_take]; rfl)) ?_
            with_reducible refine (slabAt.calls a0_0 _ _ l0_1 a1 t105 t106 _ ?side1 ?side2 A20.out).mono ?_
            (case side1 => repeat (first | exact (Kd.C_below HR0_1.out HB.out) | (with_reducible refine Kd.C_alloc ?_ _) | (with_reducible refine Kd.C_drewN ?_ _) | (with_reducible refine Kd.C_drew ?_)))
            (case side2 => exact HC0_1.out)
            rintro e w30 ⟨rfl, hb⟩
            refine ⟨_, rfl, ?_⟩
            have n0_ := Aside0.mk (blk_below (g := gb101) (o := .cells #[.int .i64 a0_0, .slice A0_1 l0_1.length c0_1] 24 (0, 0)) (by (with_reducible repeat (first | refine blk_drewN ?_ _ | refine blk_drew ?_ | refine blk_alloc ?_ _)); exact BK101.out) hb)
            have n1_ := Aside0.mk (blk_below (g := gb102) (o := .cells #[.bool a2_0, .string a2_1] 33 (0, 0)) (by (with_reducible repeat (first | refine blk_drewN ?_ _ | refine blk_drew ?_ | refine blk_alloc ?_ _)); exact BK102.out) hb)
            have n2_ := Aside0.mk (below_step (by repeat (first | (with_reducible first | exact HB.out | apply below_alloc | apply pw_below_drewN | apply below_drew1 | refine below_set ?_ GE101.out | refine below_set ?_ GE102.out) | exact HB.out)) hb)
            clear BK101
            clear BK102
            clear HB
            have BK101 := n0_
            have BK102 := n1_
            have HB := n2_
            clear n0_ n1_ n2_
            (try clear hb)
            (try clear hb2)
            (try clear hk)
            (try clear hi)
            refine hK.out _ _ ⟨(blk_cell BK101.out 0).trans rfl, (blk_cell BK101.out 1).trans rfl⟩ (fun hHeld => ?_)
            clear hK K
            refine norm_ (a' := ?_) ?_ ?_
            rotate_left
            · show Act.put _ (some 27) _ = _
              simp only [Act.put, List.setIfInBounds_toArray, List.set_cons_zero, List.set_cons_succ, i64_w, i32_w]
              rfl
            refine one_ (i := 5) (N := some 30) #[true, true, true, true, true, true, false] rfl rfl (by kernel_rfl) (by decide) (fun K hK => ?_)
            refine goes_ Try.func40 (by kernel_rfl) rfl #[.agg #[.int .i64 a0_0, .slice A0_1 l0_1.length c0_1], .int .i64 a1] (by rfl) rfl rfl (by (try simp only [List.map_toArray, List.map_cons, List.map_nil]); first | done | rfl | (simp only [List.length_drop, List.length_take]; rfl)) ?_
            with_reducible refine (refAt.calls a0_0 _ _ l0_1 a1 t107 t108 _ ?side1 ?side2 A21.out).mono ?_
            (case side1 => repeat (first | exact (Kd.C_below HR0_1.out HB.out) | (with_reducible refine Kd.C_alloc ?_ _) | (with_reducible refine Kd.C_drewN ?_ _) | (with_reducible refine Kd.C_drew ?_)))
            (case side2 => exact HC0_1.out)
            rintro e w31 ⟨rfl, hb⟩
            refine ⟨_, rfl, ?_⟩
            have n0_ := Aside0.mk (blk_below (g := gb101) (o := .cells #[.int .i64 a0_0, .slice A0_1 l0_1.length c0_1] 24 (0, 0)) (by (with_reducible repeat (first | refine blk_drewN ?_ _ | refine blk_drew ?_ | refine blk_alloc ?_ _)); exact BK101.out) hb)
            have n1_ := Aside0.mk (blk_below (g := gb102) (o := .cells #[.bool a2_0, .string a2_1] 33 (0, 0)) (by (with_reducible repeat (first | refine blk_drewN ?_ _ | refine blk_drew ?_ | refine blk_alloc ?_ _)); exact BK102.out) hb)
            have n2_ := Aside0.mk (below_step (by repeat (first | (with_reducible first | exact HB.out | apply below_alloc | apply pw_below_drewN | apply below_drew1 | refine below_set ?_ GE101.out | refine below_set ?_ GE102.out) | exact HB.out)) hb)
            clear BK101
            clear BK102
            clear HB
            have BK101 := n0_
            have BK102 := n1_
            have HB := n2_
            clear n0_ n1_ n2_
            (try clear hb)
            (try clear hb2)
            (try clear hk)
            (try clear hi)
            refine hK.out _ _ ⟨(blk_cell BK101.out 0).trans rfl, (blk_cell BK101.out 1).trans rfl⟩ (fun hHeld => ?_)
            clear hK K
            refine norm_ (a' := ?_) ?_ ?_
            rotate_left
            · show Act.put _ (some 30) _ = _
              simp only [Act.put, List.setIfInBounds_toArray, List.set_cons_zero, List.set_cons_succ, i64_w, i32_w]
              rfl
            refine pure_ (i := 6) (N := some 31) (v := ?_) (a' := ?_) #[true, true, true, true, true, true, true] rfl rfl (by kernel_rfl) (fun _ _ _ h => h) (Or.inl ⟨by rfl, ?_⟩) ?_ ?_
            rotate_left
            · intro w'
              go_simp
              with_reducible rfl
            rotate_left
            · simp only [Act.put, List.setIfInBounds_toArray, List.set_cons_zero, List.set_cons_succ, i64_w, i32_w]
              rfl
            refine done_ (by kernel_rfl) ?_
            have hnb32 := NB101_102.out
            have hnc32 := NB102_101.out
            have hcz33_0 : w31.cell? ⟨gb101, 0, none⟩ = some (.int .i64 a0_0) := (blk_cell BK101.out 0).trans rfl
            have hcz33_1 : w31.cell? ⟨gb101, 1, none⟩ = some (.slice A0_1 l0_1.length c0_1) := (blk_cell BK101.out 1).trans rfl
            have hfz33_0 := blk_frozen BK101.out 0
            have hfz33_1 := blk_frozen BK101.out 1
            have hcz34_0 : w31.cell? ⟨gb102, 0, none⟩ = some (.bool a2_0) := (blk_cell BK102.out 0).trans rfl
            have hcz34_1 : w31.cell? ⟨gb102, 1, none⟩ = some (.string a2_1) := (blk_cell BK102.out 1).trans rfl
            have hfz34_0 := blk_frozen BK102.out 0
            have hfz34_1 := blk_frozen BK102.out 1
            go_upto_region 9 with (first | ((with_reducible refine gate_callee (f := 38) rfl ?_); refine goesL_ (some 36) rfl rfl Try.func38 (by kernel_rfl) rfl #[.agg #[.int .i64 a0_0, .slice A0_1 l0_1.length c0_1], .int .i64 a1, .agg #[.bool a2_0, .string a2_1]] rfl (by (try simp only [List.map_toArray, List.map_cons, List.map_nil]); first | done | rfl | (simp only [List.length_drop, List.length_take]; rfl)) ?_; (with_reducible refine (slabPut.calls a0_0 _ _ l0_1 a1 a2_0 a2_1 t109 t110 t113 _ ?side1 ?side2 A26.out).mono ?_); (case side1 => repeat (first | exact (Kd.C_below HR0_1.out HB.out) | (with_reducible refine Kd.C_alloc ?_ _) | (with_reducible refine Kd.C_drewN ?_ _) | (with_reducible refine Kd.C_drew ?_))); (case side2 => exact HC0_1.out); rintro e w35 ⟨v111, rfl, ho0, hb⟩; refine ⟨_, rfl, ?_⟩; have n0_ := Aside0.mk (Kd.R_lower (Kd.R_newB ho0 (g := gb102) (o := .cells #[.bool a2_0, .string a2_1] 33 (0, 0)) (by (with_reducible repeat (first | refine blk_drewN ?_ _ | refine blk_drew ?_ | refine blk_alloc ?_ _)); exact BK102.out)) (below_size (by repeat (first | (with_reducible first | exact HB.out | apply below_alloc | apply pw_below_drewN | apply below_drew1 | refine below_set ?_ GE101.out | refine below_set ?_ GE102.out) | exact HB.out)))); have n1_ := Aside0.mk (blk_below (g := gb101) (o := .cells #[.int .i64 a0_0, .slice A0_1 l0_1.length c0_1] 24 (0, 0)) (by (with_reducible repeat (first | refine blk_drewN ?_ _ | refine blk_drew ?_ | refine blk_alloc ?_ _)); exact BK101.out) hb); have n2_ := Aside0.mk (blk_below (g := gb102) (o := .cells #[.bool a2_0, .string a2_1] 33 (0, 0)) (by (with_reducible repeat (first | refine blk_drewN ?_ _ | refine blk_drew ?_ | refine blk_alloc ?_ _)); exact BK102.out) hb); have n3_ := Aside0.mk (below_step (by repeat (first | (with_reducible first | exact HB.out | apply below_alloc | apply pw_below_drewN | apply below_drew1 | refine below_set ?_ GE101.out | refine below_set ?_ GE102.out) | exact HB.out)) hb); clear BK101; clear BK102; clear HB; have HO112 := n0_; have BK101 := n1_; have BK102 := n2_; have HB := n3_; clear n0_ n1_ n2_ n3_; (try clear hb); (try clear hb2); (try clear hk); (try clear hi); (try clear ho0)) | ((with_reducible refine gate_dst (N := 7) rfl ?_); (try (refine gate_guard (by rfl) ?_; dsimp only)); refine box_event ?hg (N := 7) ?hd (cs := #[.int .i64 0, .slice none 0 0]) (t := 24) ?hr ?_; (case hd => rfl); (case hg => rfl); (case hr => first | (go_simp; done) | (go_simp; rfl)); intro gb114 hg w36 hbox hb; have n0_ := Aside0.mk (Kd.R_below (by (with_reducible repeat (first | apply Kd.R_alloc | apply Kd.R_drewN | apply Kd.R_drew)); exact HO112.out) hb); have n1_ := Aside0.mk (blk_below (g := gb101) (o := .cells #[.int .i64 a0_0, .slice A0_1 l0_1.length c0_1] 24 (0, 0)) (by (with_reducible repeat (first | refine blk_drewN ?_ _ | refine blk_drew ?_ | refine blk_alloc ?_ _)); exact BK101.out) hb); have n2_ := Aside0.mk (blk_below (g := gb102) (o := .cells #[.bool a2_0, .string a2_1] 33 (0, 0)) (by (with_reducible repeat (first | refine blk_drewN ?_ _ | refine blk_drew ?_ | refine blk_alloc ?_ _)); exact BK102.out) hb); have n3_ := Aside0.mk (below_step (by repeat (first | (with_reducible first | exact HB.out | apply below_alloc | apply pw_below_drewN | apply below_drew1 | refine below_set ?_ GE101.out | refine below_set ?_ GE102.out) | exact HB.out)) hb); have n4_ := Aside0.mk (hbox); have n5_ := Aside0.mk ((by rw [hg]; exact (below_size (by repeat (first | (with_reducible first | exact HB.out | apply below_alloc | apply pw_below_drewN | apply below_drew1 | refine below_set ?_ GE101.out | refine below_set ?_ GE102.out) | exact HB.out))) : w.heap.size ≤ gb114)); have n6_ := Aside0.mk ((by rw [hg]; exact (below_size (by repeat (first | (with_reducible first | exact HB.out | apply below_alloc | apply pw_below_drewN | apply below_drew1 | refine below_set ?_ GE101.out | refine below_set ?_ GE102.out) | exact HB.out))) : w.heap.size ≤ gb114)); have n7_ := Aside0.mk ((by rw [hg]; exact Nat.ne_of_lt (blk_lt (g := gb101) (o := .cells #[.int .i64 a0_0, .slice A0_1 l0_1.length c0_1] 24 (0, 0)) (by (with_reducible repeat (first | refine blk_drewN ?_ _ | refine blk_drew ?_ | refine blk_alloc ?_ _)); exact BK101.out)) : gb101 ≠ gb114)); have n8_ := Aside0.mk ((by rw [hg]; exact Nat.ne_of_gt (blk_lt (g := gb101) (o := .cells #[.int .i64 a0_0, .slice A0_1 l0_1.length c0_1] 24 (0, 0)) (by (with_reducible repeat (first | refine blk_drewN ?_ _ | refine blk_drew ?_ | refine blk_alloc ?_ _)); exact BK101.out)) : gb114 ≠ gb101)); have n9_ := Aside0.mk ((by rw [hg]; exact Nat.ne_of_lt (blk_lt (g := gb102) (o := .cells #[.bool a2_0, .string a2_1] 33 (0, 0)) (by (with_reducible repeat (first | refine blk_drewN ?_ _ | refine blk_drew ?_ | refine blk_alloc ?_ _)); exact BK102.out)) : gb102 ≠ gb114)); have n10_ := Aside0.mk ((by rw [hg]; exact Nat.ne_of_gt (blk_lt (g := gb102) (o := .cells #[.bool a2_0, .string a2_1] 33 (0, 0)) (by (with_reducible repeat (first | refine blk_drewN ?_ _ | refine blk_drew ?_ | refine blk_alloc ?_ _)); exact BK102.out)) : gb114 ≠ gb102)); clear HO112; clear BK101; clear BK102; clear HB; have HO112 := n0_; have BK101 := n1_; have BK102 := n2_; have HB := n3_; have BK114 := n4_; have GW114 := n5_; have GE114 := n6_; have NB101_114 := n7_; have NB114_101 := n8_; have NB102_114 := n9_; have NB114_102 := n10_; clear n0_ n1_ n2_ n3_ n4_ n5_ n6_ n7_ n8_ n9_ n10_; clear hb hbox hg; have hnb37 := NB114_101.out; have hnc37 := NB101_114.out; have hnb38 := NB114_102.out; have hnc38 := NB102_114.out; have hcz39_0 : w36.cell? ⟨gb114, 0, none⟩ = some (.int .i64 0) := (blk_cell BK114.out 0).trans rfl; have hcz39_1 : w36.cell? ⟨gb114, 1, none⟩ = some (.slice none 0 0) := (blk_cell BK114.out 1).trans rfl; have hfz39_0 := blk_frozen BK114.out 0; have hfz39_1 := blk_frozen BK114.out 1; obtain ⟨Ao40, co40, eo40⟩ := Kd.R_slice HO112.out; subst eo40; have hcz41_0 : w36.cell? ⟨gb101, 0, none⟩ = some (.int .i64 a0_0) := (blk_cell BK101.out 0).trans rfl; have hcz41_1 : w36.cell? ⟨gb101, 1, none⟩ = some (.slice A0_1 l0_1.length c0_1) := (blk_cell BK101.out 1).trans rfl; have hfz41_0 := blk_frozen BK101.out 0; have hfz41_1 := blk_frozen BK101.out 1; have hcz42_0 : w36.cell? ⟨gb102, 0, none⟩ = some (.bool a2_0) := (blk_cell BK102.out 0).trans rfl; have hcz42_1 : w36.cell? ⟨gb102, 1, none⟩ = some (.string a2_1) := (blk_cell BK102.out 1).trans rfl; have hfz42_0 := blk_frozen BK102.out 0; have hfz42_1 := blk_frozen BK102.out 1) | ((with_reducible refine gate_callee (f := 41) rfl ?_); refine goesL_ (some 43) rfl rfl Try.func41 (by kernel_rfl) rfl #[.agg #[.int .i64 a0_0, .slice A0_1 l0_1.length c0_1], .int .i64 a1, .agg #[.bool a2_0, .string a2_1]] rfl (by (try simp only [List.map_toArray, List.map_cons, List.map_nil]); first | done | rfl | (simp only [List.length_drop, List.length_take]; rfl)) ?_; (with_reducible refine (refPut.calls a0_0 _ _ l0_1 a1 a2_0 a2_1 t115 t116 t119 _ ?side1 ?side2 A27.out).mono ?_); (case side1 => exact Kd.C_below HR0_1.out (by repeat (first | (with_reducible first | exact HB.out | apply below_alloc | apply pw_below_drewN | apply below_drew1 | refine below_set ?_ GE101.out | refine below_set ?_ GE102.out | refine below_set ?_ GE114.out) | exact HB.out))); (case side2 => exact HC0_1.out); rintro e w43 ⟨v117, rfl, ho0, hb⟩; refine ⟨_, rfl, ?_⟩; have n0_ := Aside0.mk (Kd.R_elder' (by (with_reducible repeat (first | apply Kd.R_alloc | apply Kd.R_drewN | apply Kd.R_drew)); exact (Kd.R_mono (Kd.R_far (p := ⟨gb114, 1, none⟩) (Kd.R_far (p := ⟨gb114, 0, none⟩) (Kd.R_types HO112.out BK114.out (by decide)) (fun _ hk => hk.2) (.int .i64 t109)) (fun _ hk => hk.2) (.slice Ao40 t110.length co40)) (fun _ h_ => h_.1))) (Kd.R_base ho0) hb); have n1_ := Aside0.mk (Kd.R_lower (Kd.R_newB (Kd.R_new' ho0 (Kd.R_lt (by (with_reducible repeat (first | apply Kd.R_alloc | apply Kd.R_drewN | apply Kd.R_drew)); exact (Kd.R_mono (Kd.R_far (p := ⟨gb114, 1, none⟩) (Kd.R_far (p := ⟨gb114, 0, none⟩) (Kd.R_types HO112.out BK114.out (by decide)) (fun _ hk => hk.2) (.int .i64 t109)) (fun _ hk => hk.2) (.slice Ao40 t110.length co40)) (fun _ h_ => h_.1))))) (g := gb102) (o := .cells #[.bool a2_0, .string a2_1] 33 (0, 0)) (by (with_reducible repeat (first | refine blk_drewN ?_ _ | refine blk_drew ?_ | refine blk_alloc ?_ _)); refine blk_far ?_ NB102_114.out _; (with_reducible repeat (first | refine blk_drewN ?_ _ | refine blk_drew ?_ | refine blk_alloc ?_ _)); refine blk_far ?_ NB102_114.out _; (with_reducible repeat (first | refine blk_drewN ?_ _ | refine blk_drew ?_ | refine blk_alloc ?_ _)); exact BK102.out)) (below_size (by repeat (first | (with_reducible first | exact HB.out | apply below_alloc | apply pw_below_drewN | apply below_drew1 | refine below_set ?_ GE101.out | refine below_set ?_ GE102.out | refine below_set ?_ GE114.out) | exact HB.out)))); have n2_ := Aside0.mk (blk_below (g := gb101) (o := .cells #[.int .i64 a0_0, .slice A0_1 l0_1.length c0_1] 24 (0, 0)) (by (with_reducible repeat (first | refine blk_drewN ?_ _ | refine blk_drew ?_ | refine blk_alloc ?_ _)); refine blk_far ?_ NB101_114.out _; (with_reducible repeat (first | refine blk_drewN ?_ _ | refine blk_drew ?_ | refine blk_alloc ?_ _)); refine blk_far ?_ NB101_114.out _; (with_reducible repeat (first | refine blk_drewN ?_ _ | refine blk_drew ?_ | refine blk_alloc ?_ _)); exact BK101.out) hb); have n3_ := Aside0.mk (blk_below (g := gb102) (o := .cells #[.bool a2_0, .string a2_1] 33 (0, 0)) (by (with_reducible repeat (first | refine blk_drewN ?_ _ | refine blk_drew ?_ | refine blk_alloc ?_ _)); refine blk_far ?_ NB102_114.out _; (with_reducible repeat (first | refine blk_drewN ?_ _ | refine blk_drew ?_ | refine blk_alloc ?_ _)); refine blk_far ?_ NB102_114.out _; (with_reducible repeat (first | refine blk_drewN ?_ _ | refine blk_drew ?_ | refine blk_alloc ?_ _)); exact BK102.out) hb); have n4_ := Aside0.mk (blk_below (g := gb114) (o := .cells #[.int .i64 t109, .slice Ao40 t110.length co40] 24 (0, 0)) (by (with_reducible repeat (first | refine blk_drewN ?_ _ | refine blk_drew ?_ | refine blk_alloc ?_ _)); refine blk_put (cs := #[.int .i64 t109, .slice none 0 0]) ?_ 1 _ rfl; (with_reducible repeat (first | refine blk_drewN ?_ _ | refine blk_drew ?_ | refine blk_alloc ?_ _)); refine blk_put (cs := #[.int .i64 0, .slice none 0 0]) ?_ 0 _ rfl; (with_reducible repeat (first | refine blk_drewN ?_ _ | refine blk_drew ?_ | refine blk_alloc ?_ _)); exact BK114.out) hb); have n5_ := Aside0.mk (below_step (by repeat (first | (with_reducible first | exact HB.out | apply below_alloc | apply pw_below_drewN | apply below_drew1 | refine below_set ?_ GE101.out | refine below_set ?_ GE102.out | refine below_set ?_ GE114.out) | exact HB.out)) hb); clear HO112; clear BK101; clear BK102; clear BK114; clear HB; have HO112 := n0_; have HO118 := n1_; have BK101 := n2_; have BK102 := n3_; have BK114 := n4_; have HB := n5_; clear n0_ n1_ n2_ n3_ n4_ n5_; (try clear hb); (try clear hb2); (try clear hk); (try clear hi); (try clear ho0)) | ((with_reducible refine gate_dst (N := 9) rfl ?_); (try (refine gate_guard (by rfl) ?_; dsimp only)); refine box_event ?hg (N := 9) ?hd (cs := #[.int .i64 0, .slice none 0 0]) (t := 24) ?hr ?_; (case hd => rfl); (case hg => rfl); (case hr => first | (go_simp; done) | (go_simp; rfl)); intro gb120 hg w44 hbox hb; have n0_ := Aside0.mk (Kd.R_below (by (with_reducible repeat (first | apply Kd.R_alloc | apply Kd.R_drewN | apply Kd.R_drew)); exact HO112.out) hb); have n1_ := Aside0.mk (Kd.R_below (by (with_reducible repeat (first | apply Kd.R_alloc | apply Kd.R_drewN | apply Kd.R_drew)); exact HO118.out) hb); have n2_ := Aside0.mk (blk_below (g := gb101) (o := .cells #[.int .i64 a0_0, .slice A0_1 l0_1.length c0_1] 24 (0, 0)) (by (with_reducible repeat (first | refine blk_drewN ?_ _ | refine blk_drew ?_ | refine blk_alloc ?_ _)); exact BK101.out) hb); have n3_ := Aside0.mk (blk_below (g := gb102) (o := .cells #[.bool a2_0, .string a2_1] 33 (0, 0)) (by (with_reducible repeat (first | refine blk_drewN ?_ _ | refine blk_drew ?_ | refine blk_alloc ?_ _)); exact BK102.out) hb); have n4_ := Aside0.mk (blk_below (g := gb114) (o := .cells #[.int .i64 t109, .slice Ao40 t110.length co40] 24 (0, 0)) (by (with_reducible repeat (first | refine blk_drewN ?_ _ | refine blk_drew ?_ | refine blk_alloc ?_ _)); exact BK114.out) hb); have n5_ := Aside0.mk (below_step (by repeat (first | (with_reducible first | exact HB.out | apply below_alloc | apply pw_below_drewN | apply below_drew1 | refine below_set ?_ GE101.out | refine below_set ?_ GE102.out | refine below_set ?_ GE114.out) | exact HB.out)) hb); have n6_ := Aside0.mk (hbox); have n7_ := Aside0.mk ((by rw [hg]; exact (below_size (by repeat (first | (with_reducible first | exact HB.out | apply below_alloc | apply pw_below_drewN | apply below_drew1 | refine below_set ?_ GE101.out | refine below_set ?_ GE102.out | refine below_set ?_ GE114.out) | exact HB.out))) : w.heap.size ≤ gb120)); have n8_ := Aside0.mk ((by rw [hg]; exact (below_size (by repeat (first | (with_reducible first | exact HB.out | apply below_alloc | apply pw_below_drewN | apply below_drew1 | refine below_set ?_ GE101.out | refine below_set ?_ GE102.out | refine below_set ?_ GE114.out) | exact HB.out))) : w.heap.size ≤ gb120)); have n9_ := Aside0.mk ((by rw [hg]; exact Nat.ne_of_lt (blk_lt (g := gb101) (o := .cells #[.int .i64 a0_0, .slice A0_1 l0_1.length c0_1] 24 (0, 0)) (by (with_reducible repeat (first | refine blk_drewN ?_ _ | refine blk_drew ?_ | refine blk_alloc ?_ _)); exact BK101.out)) : gb101 ≠ gb120)); have n10_ := Aside0.mk ((by rw [hg]; exact Nat.ne_of_gt (blk_lt (g := gb101) (o := .cells #[.int .i64 a0_0, .slice A0_1 l0_1.length c0_1] 24 (0, 0)) (by (with_reducible repeat (first | refine blk_drewN ?_ _ | refine blk_drew ?_ | refine blk_alloc ?_ _)); exact BK101.out)) : gb120 ≠ gb101)); have n11_ := Aside0.mk ((by rw [hg]; exact Nat.ne_of_lt (blk_lt (g := gb102) (o := .cells #[.bool a2_0, .string a2_1] 33 (0, 0)) (by (with_reducible repeat (first | refine blk_drewN ?_ _ | refine blk_drew ?_ | refine blk_alloc ?_ _)); exact BK102.out)) : gb102 ≠ gb120)); have n12_ := Aside0.mk ((by rw [hg]; exact Nat.ne_of_gt (blk_lt (g := gb102) (o := .cells #[.bool a2_0, .string a2_1] 33 (0, 0)) (by (with_reducible repeat (first | refine blk_drewN ?_ _ | refine blk_drew ?_ | refine blk_alloc ?_ _)); exact BK102.out)) : gb120 ≠ gb102)); have n13_ := Aside0.mk ((by rw [hg]; exact Nat.ne_of_lt (blk_lt (g := gb114) (o := .cells #[.int .i64 t109, .slice Ao40 t110.length co40] 24 (0, 0)) (by (with_reducible repeat (first | refine blk_drewN ?_ _ | refine blk_drew ?_ | refine blk_alloc ?_ _)); exact BK114.out)) : gb114 ≠ gb120)); have n14_ := Aside0.mk ((by rw [hg]; exact Nat.ne_of_gt (blk_lt (g := gb114) (o := .cells #[.int .i64 t109, .slice Ao40 t110.length co40] 24 (0, 0)) (by (with_reducible repeat (first | refine blk_drewN ?_ _ | refine blk_drew ?_ | refine blk_alloc ?_ _)); exact BK114.out)) : gb120 ≠ gb114)); clear HO112; clear HO118; clear BK101; clear BK102; clear BK114; clear HB; have HO112 := n0_; have HO118 := n1_; have BK101 := n2_; have BK102 := n3_; have BK114 := n4_; have HB := n5_; have BK120 := n6_; have GW120 := n7_; have GE120 := n8_; have NB101_120 := n9_; have NB120_101 := n10_; have NB102_120 := n11_; have NB120_102 := n12_; have NB114_120 := n13_; have NB120_114 := n14_; clear n0_ n1_ n2_ n3_ n4_ n5_ n6_ n7_ n8_ n9_ n10_ n11_ n12_ n13_ n14_; clear hb hbox hg; have hnb45 := NB120_101.out; have hnc45 := NB101_120.out; have hnb46 := NB120_102.out; have hnc46 := NB102_120.out; have hnb47 := NB120_114.out; have hnc47 := NB114_120.out; have hcz48_0 : w44.cell? ⟨gb120, 0, none⟩ = some (.int .i64 0) := (blk_cell BK120.out 0).trans rfl; have hcz48_1 : w44.cell? ⟨gb120, 1, none⟩ = some (.slice none 0 0) := (blk_cell BK120.out 1).trans rfl; have hfz48_0 := blk_frozen BK120.out 0; have hfz48_1 := blk_frozen BK120.out 1; obtain ⟨Ao49, co49, eo49⟩ := Kd.R_slice HO118.out; subst eo49))
            (try simp only [Act.put, List.setIfInBounds_toArray, List.set_cons_zero, List.set_cons_succ])
            go_cut [54] (fun v54 wc => ∃ (kq : Nat) (x54_27 : Bool), v54 = .bool x54_27 ∧ Aside0 (seneschallaw03_SlabPuts.j1 kq a1 x54_27 a0_0 l0_1 = some r) ∧ Aside0 (kq ≤ kj5) ∧ Aside0 (Kd.R k33 33 wc w.heap.size (fun k_ => some k_ ≠ ((.slice Ao49 t116.length co49) : Value).ownBlock ∧ k_ ≠ gb102) (.slice Ao40 t110.length co40) t110) ∧ Aside0 (Kd.R k33 33 wc w.heap.size (fun k_ => some k_ ≠ ((.slice Ao40 t110.length co40) : Value).ownBlock ∧ k_ ≠ gb102) (.slice Ao49 t116.length co49) t116) ∧ Aside0 (wc.heap[gb101]? = some (.cells #[.int .i64 a0_0, (.slice A0_1 l0_1.length c0_1)] 24 (0, 0))) ∧ Aside0 (wc.heap[gb102]? = some (.cells #[.bool a2_0, .string a2_1] 33 (0, 0))) ∧ Aside0 (wc.heap[gb114]? = some (.cells #[.int .i64 t109, (.slice Ao40 t110.length co40)] 24 (0, 0))) ∧ Aside0 (wc.heap[gb120]? = some (.cells #[.int .i64 t115, (.slice Ao49 t116.length co49)] 24 (0, 0))) ∧ Aside0 (Below w.heap.size w wc))
            case first =>
              have H := HC28.out
              clear HC28
              replace H := Option.bind_eq_some_iff.mp H
              obtain ⟨t121, A500, H⟩ := H
              replace H : (if t121 = true then (seneschallaw03_SlabPuts.j1 kj5 a1 (t113 != t119) a0_0 l0_1) else (seneschallaw03_SlabPuts.j1 kj5 a1 true a0_0 l0_1)) = some r := H
              have A50 := Aside0.mk A500
              clear A500
              by_cases c51 : t121 = true
              · subst c51
                have H1 : (seneschallaw03_SlabPuts.j1 kj5 a1 (t113 != t119) a0_0 l0_1) = some r := by rw [if_pos rfl] at H; exact H
                clear H
                have H := H1
                clear H1
                have H' := Aside0.mk H
                clear H
                have hnb52 := NB114_101.out
                have hnc52 := NB101_114.out
                have hnb53 := NB114_102.out
                have hnc53 := NB102_114.out
                have hnb54 := NB114_120.out
                have hnc54 := NB120_114.out
                have hcz55_0 : w44.cell? ⟨gb114, 0, none⟩ = some (.int .i64 t109) := (blk_cell BK114.out 0).trans rfl
                have hcz55_1 : w44.cell? ⟨gb114, 1, none⟩ = some (.slice Ao40 t110.length co40) := (blk_cell BK114.out 1).trans rfl
                have hfz55_0 := blk_frozen BK114.out 0
                have hfz55_1 := blk_frozen BK114.out 1
                have hnb56 := NB120_101.out
                have hnc56 := NB101_120.out
                have hnb57 := NB120_102.out
                have hnc57 := NB102_120.out
                have hcz58_0 : w44.cell? ⟨gb120, 0, none⟩ = some (.int .i64 0) := (blk_cell BK120.out 0).trans rfl
                have hcz58_1 : w44.cell? ⟨gb120, 1, none⟩ = some (.slice none 0 0) := (blk_cell BK120.out 1).trans rfl
                have hfz58_0 := blk_frozen BK120.out 0
                have hfz58_1 := blk_frozen BK120.out 1
                go_wp2_with (first | ((with_reducible refine gate_callee (f := 42) rfl ?_); refine goesL_ (some 48) rfl rfl Try.func42 (by kernel_rfl) rfl #[.agg #[.int .i64 t109, .slice Ao40 t110.length co40], .agg #[.int .i64 t115, .slice Ao49 t116.length co49]] rfl (by (try simp only [List.map_toArray, List.map_cons, List.map_nil]); first | done | rfl | (simp only [List.length_drop, List.length_take]; rfl)) ?_; (with_reducible refine (refSame.calls t109 _ _ t110 t115 _ _ t116 true _ ?side1 ?side2 ?side3 ?side4 A50.out).mono ?_); (case side1 => refine (Kd.R_reads' (e := 33) (base := w.heap.size) (ok := fun k_ => ((True ∧ k_ ≠ gb102) ∧ some k_ ≠ (.slice Ao49 t116.length co49 : Value).ownBlock)) (n := t110.length) (c := co40) ?_).2.2; exact (by (with_reducible repeat (first | apply Kd.R_alloc | apply Kd.R_drewN | apply Kd.R_drew)); exact (Kd.R_mono (Kd.R_far (p := ⟨gb120, 1, none⟩) (Kd.R_far (p := ⟨gb120, 0, none⟩) (Kd.R_types HO112.out BK120.out (by decide)) (fun _ hk => hk.2) (.int .i64 t115)) (fun _ hk => hk.2) (.slice Ao49 t116.length co49)) (fun _ h_ => h_.1)))); (case side2 => exact (Kd.R_reads' HO112.out).2.1); (case side3 => refine (Kd.R_reads' (e := 33) (base := w.heap.size) (ok := fun k_ => ((True ∧ some k_ ≠ (.slice Ao40 t110.length co40 : Value).ownBlock) ∧ k_ ≠ gb102)) (n := t116.length) (c := co49) ?_).2.2; exact (by (with_reducible repeat (first | apply Kd.R_alloc | apply Kd.R_drewN | apply Kd.R_drew)); exact (Kd.R_mono (Kd.R_far (p := ⟨gb120, 1, none⟩) (Kd.R_far (p := ⟨gb120, 0, none⟩) (Kd.R_types HO118.out BK120.out (by decide)) (fun _ hk => hk.2) (.int .i64 t115)) (fun _ hk => hk.2) (.slice Ao49 t116.length co49)) (fun _ h_ => h_.1)))); (case side4 => exact (Kd.R_reads' HO118.out).2.1); rintro e w59 ⟨rfl, hb⟩; refine ⟨_, rfl, ?_⟩; have n0_ := Aside0.mk (Kd.R_below (by (with_reducible repeat (first | apply Kd.R_alloc | apply Kd.R_drewN | apply Kd.R_drew)); exact (Kd.R_mono (Kd.R_far (p := ⟨gb120, 1, none⟩) (Kd.R_far (p := ⟨gb120, 0, none⟩) (Kd.R_types HO112.out BK120.out (by decide)) (fun _ hk => hk.2) (.int .i64 t115)) (fun _ hk => hk.2) (.slice Ao49 t116.length co49)) (fun _ h_ => h_.1))) hb); have n1_ := Aside0.mk (Kd.R_below (by (with_reducible repeat (first | apply Kd.R_alloc | apply Kd.R_drewN | apply Kd.R_drew)); exact (Kd.R_mono (Kd.R_far (p := ⟨gb120, 1, none⟩) (Kd.R_far (p := ⟨gb120, 0, none⟩) (Kd.R_types HO118.out BK120.out (by decide)) (fun _ hk => hk.2) (.int .i64 t115)) (fun _ hk => hk.2) (.slice Ao49 t116.length co49)) (fun _ h_ => h_.1))) hb); have n2_ := Aside0.mk (blk_below (g := gb101) (o := .cells #[.int .i64 a0_0, .slice A0_1 l0_1.length c0_1] 24 (0, 0)) (by (with_reducible repeat (first | refine blk_drewN ?_ _ | refine blk_drew ?_ | refine blk_alloc ?_ _)); refine blk_far ?_ NB101_120.out _; (with_reducible repeat (first | refine blk_drewN ?_ _ | refine blk_drew ?_ | refine blk_alloc ?_ _)); refine blk_far ?_ NB101_120.out _; (with_reducible repeat (first | refine blk_drewN ?_ _ | refine blk_drew ?_ | refine blk_alloc ?_ _)); exact BK101.out) hb); have n3_ := Aside0.mk (blk_below (g := gb102) (o := .cells #[.bool a2_0, .string a2_1] 33 (0, 0)) (by (with_reducible repeat (first | refine blk_drewN ?_ _ | refine blk_drew ?_ | refine blk_alloc ?_ _)); refine blk_far ?_ NB102_120.out _; (with_reducible repeat (first | refine blk_drewN ?_ _ | refine blk_drew ?_ | refine blk_alloc ?_ _)); refine blk_far ?_ NB102_120.out _; (with_reducible repeat (first | refine blk_drewN ?_ _ | refine blk_drew ?_ | refine blk_alloc ?_ _)); exact BK102.out) hb); have n4_ := Aside0.mk (blk_below (g := gb114) (o := .cells #[.int .i64 t109, .slice Ao40 t110.length co40] 24 (0, 0)) (by (with_reducible repeat (first | refine blk_drewN ?_ _ | refine blk_drew ?_ | refine blk_alloc ?_ _)); refine blk_far ?_ NB114_120.out _; (with_reducible repeat (first | refine blk_drewN ?_ _ | refine blk_drew ?_ | refine blk_alloc ?_ _)); refine blk_far ?_ NB114_120.out _; (with_reducible repeat (first | refine blk_drewN ?_ _ | refine blk_drew ?_ | refine blk_alloc ?_ _)); exact BK114.out) hb); have n5_ := Aside0.mk (blk_below (g := gb120) (o := .cells #[.int .i64 t115, .slice Ao49 t116.length co49] 24 (0, 0)) (by (with_reducible repeat (first | refine blk_drewN ?_ _ | refine blk_drew ?_ | refine blk_alloc ?_ _)); refine blk_put (cs := #[.int .i64 t115, .slice none 0 0]) ?_ 1 _ rfl; (with_reducible repeat (first | refine blk_drewN ?_ _ | refine blk_drew ?_ | refine blk_alloc ?_ _)); refine blk_put (cs := #[.int .i64 0, .slice none 0 0]) ?_ 0 _ rfl; (with_reducible repeat (first | refine blk_drewN ?_ _ | refine blk_drew ?_ | refine blk_alloc ?_ _)); exact BK120.out) hb); have n6_ := Aside0.mk (below_step (by repeat (first | (with_reducible first | exact HB.out | apply below_alloc | apply pw_below_drewN | apply below_drew1 | refine below_set ?_ GE101.out | refine below_set ?_ GE102.out | refine below_set ?_ GE114.out | refine below_set ?_ GE120.out) | exact HB.out)) hb); clear HO112; clear HO118; clear BK101; clear BK102; clear BK114; clear BK120; clear HB; have HO112 := n0_; have HO118 := n1_; have BK101 := n2_; have BK102 := n3_; have BK114 := n4_; have BK120 := n5_; have HB := n6_; clear n0_ n1_ n2_ n3_ n4_ n5_ n6_; (try clear hb); (try clear hb2); (try clear hk); (try clear hi)))
                go_meet
                case rel => exact ⟨_, ((t113 != t119)), (by first | rfl | (simp; done) | (simp [*]; done)), H', ⟨by have := HJ5.out; first | omega | exact Nat.le_refl _⟩, ⟨by (with_reducible repeat (first | apply Kd.R_alloc | apply Kd.R_drewN | apply Kd.R_drew)); exact Kd.R_mono HO112.out (fun _ hk => ⟨hk.2, hk.1.2⟩)⟩, ⟨by (with_reducible repeat (first | apply Kd.R_alloc | apply Kd.R_drewN | apply Kd.R_drew)); exact Kd.R_mono HO118.out (fun _ hk => ⟨hk.1.2, hk.2⟩)⟩, ⟨by (with_reducible repeat (first | refine blk_drewN ?_ _ | refine blk_drew ?_ | refine blk_alloc ?_ _)); exact BK101.out⟩, ⟨by (with_reducible repeat (first | refine blk_drewN ?_ _ | refine blk_drew ?_ | refine blk_alloc ?_ _)); exact BK102.out⟩, ⟨by (with_reducible repeat (first | refine blk_drewN ?_ _ | refine blk_drew ?_ | refine blk_alloc ?_ _)); exact BK114.out⟩, ⟨by (with_reducible repeat (first | refine blk_drewN ?_ _ | refine blk_drew ?_ | refine blk_alloc ?_ _)); exact BK120.out⟩, ⟨by repeat (first | (with_reducible first | exact HB.out | apply below_alloc | apply pw_below_drewN | apply below_drew1 | refine below_set ?_ GE101.out | refine below_set ?_ GE102.out | refine below_set ?_ GE114.out | refine below_set ?_ GE120.out) | exact HB.out)⟩⟩
              · replace c51 := Bool.eq_false_iff.mpr c51
                subst c51
                have H1 : (seneschallaw03_SlabPuts.j1 kj5 a1 true a0_0 l0_1) = some r := by rw [if_neg (show ¬ (false = true) by decide)] at H; exact H
                clear H
                have H := H1
                clear H1
                have H' := Aside0.mk H
                clear H
                have hnb60 := NB114_101.out
                have hnc60 := NB101_114.out
                have hnb61 := NB114_102.out
                have hnc61 := NB102_114.out
                have hnb62 := NB114_120.out
                have hnc62 := NB120_114.out
                have hcz63_0 : w44.cell? ⟨gb114, 0, none⟩ = some (.int .i64 t109) := (blk_cell BK114.out 0).trans rfl
                have hcz63_1 : w44.cell? ⟨gb114, 1, none⟩ = some (.slice Ao40 t110.length co40) := (blk_cell BK114.out 1).trans rfl
                have hfz63_0 := blk_frozen BK114.out 0
                have hfz63_1 := blk_frozen BK114.out 1
                have hnb64 := NB120_101.out
                have hnc64 := NB101_120.out
                have hnb65 := NB120_102.out
                have hnc65 := NB102_120.out
                have hcz66_0 : w44.cell? ⟨gb120, 0, none⟩ = some (.int .i64 0) := (blk_cell BK120.out 0).trans rfl
                have hcz66_1 : w44.cell? ⟨gb120, 1, none⟩ = some (.slice none 0 0) := (blk_cell BK120.out 1).trans rfl
                have hfz66_0 := blk_frozen BK120.out 0
                have hfz66_1 := blk_frozen BK120.out 1
                go_wp2_with (first | ((with_reducible refine gate_callee (f := 42) rfl ?_); refine goesL_ (some 48) rfl rfl Try.func42 (by kernel_rfl) rfl #[.agg #[.int .i64 t109, .slice Ao40 t110.length co40], .agg #[.int .i64 t115, .slice Ao49 t116.length co49]] rfl (by (try simp only [List.map_toArray, List.map_cons, List.map_nil]); first | done | rfl | (simp only [List.length_drop, List.length_take]; rfl)) ?_; (with_reducible refine (refSame.calls t109 _ _ t110 t115 _ _ t116 false _ ?side1 ?side2 ?side3 ?side4 A50.out).mono ?_); (case side1 => refine (Kd.R_reads' (e := 33) (base := w.heap.size) (ok := fun k_ => ((True ∧ k_ ≠ gb102) ∧ some k_ ≠ (.slice Ao49 t116.length co49 : Value).ownBlock)) (n := t110.length) (c := co40) ?_).2.2; exact (by (with_reducible repeat (first | apply Kd.R_alloc | apply Kd.R_drewN | apply Kd.R_drew)); exact (Kd.R_mono (Kd.R_far (p := ⟨gb120, 1, none⟩) (Kd.R_far (p := ⟨gb120, 0, none⟩) (Kd.R_types HO112.out BK120.out (by decide)) (fun _ hk => hk.2) (.int .i64 t115)) (fun _ hk => hk.2) (.slice Ao49 t116.length co49)) (fun _ h_ => h_.1)))); (case side2 => exact (Kd.R_reads' HO112.out).2.1); (case side3 => refine (Kd.R_reads' (e := 33) (base := w.heap.size) (ok := fun k_ => ((True ∧ some k_ ≠ (.slice Ao40 t110.length co40 : Value).ownBlock) ∧ k_ ≠ gb102)) (n := t116.length) (c := co49) ?_).2.2; exact (by (with_reducible repeat (first | apply Kd.R_alloc | apply Kd.R_drewN | apply Kd.R_drew)); exact (Kd.R_mono (Kd.R_far (p := ⟨gb120, 1, none⟩) (Kd.R_far (p := ⟨gb120, 0, none⟩) (Kd.R_types HO118.out BK120.out (by decide)) (fun _ hk => hk.2) (.int .i64 t115)) (fun _ hk => hk.2) (.slice Ao49 t116.length co49)) (fun _ h_ => h_.1)))); (case side4 => exact (Kd.R_reads' HO118.out).2.1); rintro e w67 ⟨rfl, hb⟩; refine ⟨_, rfl, ?_⟩; have n0_ := Aside0.mk (Kd.R_below (by (with_reducible repeat (first | apply Kd.R_alloc | apply Kd.R_drewN | apply Kd.R_drew)); exact (Kd.R_mono (Kd.R_far (p := ⟨gb120, 1, none⟩) (Kd.R_far (p := ⟨gb120, 0, none⟩) (Kd.R_types HO112.out BK120.out (by decide)) (fun _ hk => hk.2) (.int .i64 t115)) (fun _ hk => hk.2) (.slice Ao49 t116.length co49)) (fun _ h_ => h_.1))) hb); have n1_ := Aside0.mk (Kd.R_below (by (with_reducible repeat (first | apply Kd.R_alloc | apply Kd.R_drewN | apply Kd.R_drew)); exact (Kd.R_mono (Kd.R_far (p := ⟨gb120, 1, none⟩) (Kd.R_far (p := ⟨gb120, 0, none⟩) (Kd.R_types HO118.out BK120.out (by decide)) (fun _ hk => hk.2) (.int .i64 t115)) (fun _ hk => hk.2) (.slice Ao49 t116.length co49)) (fun _ h_ => h_.1))) hb); have n2_ := Aside0.mk (blk_below (g := gb101) (o := .cells #[.int .i64 a0_0, .slice A0_1 l0_1.length c0_1] 24 (0, 0)) (by (with_reducible repeat (first | refine blk_drewN ?_ _ | refine blk_drew ?_ | refine blk_alloc ?_ _)); refine blk_far ?_ NB101_120.out _; (with_reducible repeat (first | refine blk_drewN ?_ _ | refine blk_drew ?_ | refine blk_alloc ?_ _)); refine blk_far ?_ NB101_120.out _; (with_reducible repeat (first | refine blk_drewN ?_ _ | refine blk_drew ?_ | refine blk_alloc ?_ _)); exact BK101.out) hb); have n3_ := Aside0.mk (blk_below (g := gb102) (o := .cells #[.bool a2_0, .string a2_1] 33 (0, 0)) (by (with_reducible repeat (first | refine blk_drewN ?_ _ | refine blk_drew ?_ | refine blk_alloc ?_ _)); refine blk_far ?_ NB102_120.out _; (with_reducible repeat (first | refine blk_drewN ?_ _ | refine blk_drew ?_ | refine blk_alloc ?_ _)); refine blk_far ?_ NB102_120.out _; (with_reducible repeat (first | refine blk_drewN ?_ _ | refine blk_drew ?_ | refine blk_alloc ?_ _)); exact BK102.out) hb); have n4_ := Aside0.mk (blk_below (g := gb114) (o := .cells #[.int .i64 t109, .slice Ao40 t110.length co40] 24 (0, 0)) (by (with_reducible repeat (first | refine blk_drewN ?_ _ | refine blk_drew ?_ | refine blk_alloc ?_ _)); refine blk_far ?_ NB114_120.out _; (with_reducible repeat (first | refine blk_drewN ?_ _ | refine blk_drew ?_ | refine blk_alloc ?_ _)); refine blk_far ?_ NB114_120.out _; (with_reducible repeat (first | refine blk_drewN ?_ _ | refine blk_drew ?_ | refine blk_alloc ?_ _)); exact BK114.out) hb); have n5_ := Aside0.mk (blk_below (g := gb120) (o := .cells #[.int .i64 t115, .slice Ao49 t116.length co49] 24 (0, 0)) (by (with_reducible repeat (first | refine blk_drewN ?_ _ | refine blk_drew ?_ | refine blk_alloc ?_ _)); refine blk_put (cs := #[.int .i64 t115, .slice none 0 0]) ?_ 1 _ rfl; (with_reducible repeat (first | refine blk_drewN ?_ _ | refine blk_drew ?_ | refine blk_alloc ?_ _)); refine blk_put (cs := #[.int .i64 0, .slice none 0 0]) ?_ 0 _ rfl; (with_reducible repeat (first | refine blk_drewN ?_ _ | refine blk_drew ?_ | refine blk_alloc ?_ _)); exact BK120.out) hb); have n6_ := Aside0.mk (below_step (by repeat (first | (with_reducible first | exact HB.out | apply below_alloc | apply pw_below_drewN | apply below_drew1 | refine below_set ?_ GE101.out | refine below_set ?_ GE102.out | refine below_set ?_ GE114.out | refine below_set ?_ GE120.out) | exact HB.out)) hb); clear HO112; clear HO118; clear BK101; clear BK102; clear BK114; clear BK120; clear HB; have HO112 := n0_; have HO118 := n1_; have BK101 := n2_; have BK102 := n3_; have BK114 := n4_; have BK120 := n5_; have HB := n6_; clear n0_ n1_ n2_ n3_ n4_ n5_ n6_; (try clear hb); (try clear hb2); (try clear hk); (try clear hi)))
                go_meet
                case rel => exact ⟨_, (true), (by first | rfl | (simp; done) | (simp [*]; done)), H', ⟨by have := HJ5.out; first | omega | exact Nat.le_refl _⟩, ⟨by (with_reducible repeat (first | apply Kd.R_alloc | apply Kd.R_drewN | apply Kd.R_drew)); exact Kd.R_mono HO112.out (fun _ hk => ⟨hk.2, hk.1.2⟩)⟩, ⟨by (with_reducible repeat (first | apply Kd.R_alloc | apply Kd.R_drewN | apply Kd.R_drew)); exact Kd.R_mono HO118.out (fun _ hk => ⟨hk.1.2, hk.2⟩)⟩, ⟨by (with_reducible repeat (first | refine blk_drewN ?_ _ | refine blk_drew ?_ | refine blk_alloc ?_ _)); exact BK101.out⟩, ⟨by (with_reducible repeat (first | refine blk_drewN ?_ _ | refine blk_drew ?_ | refine blk_alloc ?_ _)); exact BK102.out⟩, ⟨by (with_reducible repeat (first | refine blk_drewN ?_ _ | refine blk_drew ?_ | refine blk_alloc ?_ _)); exact BK114.out⟩, ⟨by (with_reducible repeat (first | refine blk_drewN ?_ _ | refine blk_drew ?_ | refine blk_alloc ?_ _)); exact BK120.out⟩, ⟨by repeat (first | (with_reducible first | exact HB.out | apply below_alloc | apply pw_below_drewN | apply below_drew1 | refine below_set ?_ GE101.out | refine below_set ?_ GE102.out | refine below_set ?_ GE114.out | refine below_set ?_ GE120.out) | exact HB.out)⟩⟩
            case rest =>
              clear HC28
              try clear c1
              try clear c2
              try clear p2
              try clear c3
              try clear c4
              try clear c5
              try clear c6
              try clear c11
              try clear c12
              try clear c15
              try clear c19
              try clear c22
              try clear c22b0
              try clear c30
              try clear c31
              try clear c32
              try clear c37
              try clear c38
              try clear c39
              try clear c40
              try clear c41
              try clear c42
              try clear c45
              try clear c46
              try clear c47
              try clear c51
              try clear c52
              try clear c53
              try clear c54
              try clear c56
              try clear c57
              try clear c60
              try clear c61
              try clear c62
              try clear c64
              try clear c65
              try clear hcz13_0
              try clear hcz13_1
              try clear hcz16_0
              try clear hcz16_1
              try clear hcz18_0
              try clear hcz18_1
              try clear hcz33_0
              try clear hcz33_1
              try clear hcz34_0
              try clear hcz34_1
              try clear hcz39_0
              try clear hcz39_1
              try clear hcz41_0
              try clear hcz41_1
              try clear hcz42_0
              try clear hcz42_1
              try clear hcz48_0
              try clear hcz48_1
              try clear hcz55_0
              try clear hcz55_1
              try clear hcz58_0
              try clear hcz58_1
              try clear hcz63_0
              try clear hcz63_1
              try clear hcz66_0
              try clear hcz66_1
              try clear hfz13_0
              try clear hfz13_1
              try clear hfz16_0
              try clear hfz16_1
              try clear hfz18_0
              try clear hfz18_1
              try clear hfz33_0
              try clear hfz33_1
              try clear hfz34_0
              try clear hfz34_1
              try clear hfz39_0
              try clear hfz39_1
              try clear hfz41_0
              try clear hfz41_1
              try clear hfz42_0
              try clear hfz42_1
              try clear hfz48_0
              try clear hfz48_1
              try clear hfz55_0
              try clear hfz55_1
              try clear hfz58_0
              try clear hfz58_1
              try clear hfz63_0
              try clear hfz63_1
              try clear hfz66_0
              try clear hfz66_1
              try clear p2
              obtain ⟨kq, x54_27, rfl, HA, HJ27, HO_115001, HO_121001, BK101, BK102, BK114, BK120, HB⟩ := hcut
              cases kq with
              | zero => exact absurd HA.out (by simp [seneschallaw03_SlabPuts.j1])
              | succ kj27 =>
                have H := HA.out
                clear HA
                simp only [seneschallaw03_SlabPuts.j1] at H
                by_cases c68 : x54_27 = true
                · subst c68
                  have H1 : (some false) = some r := by rw [if_pos rfl] at H; exact H
                  clear H
                  have H := H1
                  clear H1
                  obtain rfl := Option.some.inj H
                  go_wp2
                  go_ret
                  exact ⟨by first | rfl | (simp [errW_none, errW_some] <;> rfl) | (simp [*, errW_none, errW_some] <;> rfl), by repeat (first | (with_reducible first | exact HB.out | apply below_alloc | apply pw_below_drewN | apply below_drew1 | refine below_set ?_ GE101.out | refine below_set ?_ GE102.out | refine below_set ?_ GE114.out | refine below_set ?_ GE120.out) | exact HB.out)⟩
                · replace c68 := Bool.eq_false_iff.mpr c68
                  subst c68
                  have H1 : ((slabVac.f a0_0 l0_1 a1).bind fun bt122 => ((refVac.f a0_0 l0_1 a1).bind fun bt124 => (if bt122.1 = bt124.1 then (some (bt122.2 == bt124.2)) else (some false)))) = some r := by rw [if_neg (show ¬ (false = true) by decide)] at H; exact H
                  clear H
                  have H := H1
                  clear H1
                  replace H := Option.bind_eq_some_iff.mp H
                  obtain ⟨⟨t122, t123⟩, A690, H⟩ := H
                  replace H : ((refVac.f a0_0 l0_1 a1).bind fun bt124 => (if t122 = bt124.1 then (some (t123 == bt124.2)) else (some false))) = some r := H
                  have A69 := Aside0.mk A690
                  clear A690
                  replace H := Option.bind_eq_some_iff.mp H
                  obtain ⟨⟨t124, t125⟩, A700, H⟩ := H
                  replace H : (if t122 = t124 then (some (t123 == t125)) else (some false)) = some r := H
                  have A70 := Aside0.mk A700
                  clear A700
                  by_cases c71 : t122 = t124
                  · rw [if_pos c71] at H
                    have c71b0 : (t122 == t124) = true := beq_iff_eq.mpr c71
                    have c71b1 : (t122 != t124) = false := bne_eq_false_iff_eq.mpr c71
                    clear c71
                    obtain rfl := Option.some.inj H
                    have hnb72 := NB101_102.out
                    have hnc72 := NB102_101.out
                    have hnb73 := NB101_114.out
                    have hnc73 := NB114_101.out
                    have hnb74 := NB101_120.out
                    have hnc74 := NB120_101.out
                    have hcz75_0 : wc.cell? ⟨gb101, 0, none⟩ = some (.int .i64 a0_0) := (blk_cell BK101.out 0).trans rfl
                    have hcz75_1 : wc.cell? ⟨gb101, 1, none⟩ = some (.slice A0_1 l0_1.length c0_1) := (blk_cell BK101.out 1).trans rfl
                    have hfz75_0 := blk_frozen BK101.out 0
                    have hfz75_1 := blk_frozen BK101.out 1
                    go_wp2_with (first | ((with_reducible refine gate_callee (f := 43) rfl ?_); refine goesL_ (some 58) rfl rfl Try.func43 (by kernel_rfl) rfl #[.agg #[.int .i64 a0_0, .slice A0_1 l0_1.length c0_1], .int .i64 a1] rfl (by (try simp only [List.map_toArray, List.map_cons, List.map_nil]); first | done | rfl | (simp only [List.length_drop, List.length_take]; rfl)) ?_; (with_reducible refine (slabVac.calls a0_0 _ _ l0_1 a1 t122 t123 _ ?side1 ?side2 A69.out).mono ?_); (case side1 => repeat (first | exact (Kd.C_below HR0_1.out HB.out) | (with_reducible refine Kd.C_alloc ?_ _) | (with_reducible refine Kd.C_drewN ?_ _) | (with_reducible refine Kd.C_drew ?_))); (case side2 => exact HC0_1.out); rintro e w76 ⟨rfl, hb⟩; refine ⟨_, rfl, ?_⟩; have n0_ := Aside0.mk (Kd.R_below (by (with_reducible repeat (first | apply Kd.R_alloc | apply Kd.R_drewN | apply Kd.R_drew)); exact HO_115001.out) hb); have n1_ := Aside0.mk (Kd.R_below (by (with_reducible repeat (first | apply Kd.R_alloc | apply Kd.R_drewN | apply Kd.R_drew)); exact HO_121001.out) hb); have n2_ := Aside0.mk (blk_below (g := gb101) (o := .cells #[.int .i64 a0_0, .slice A0_1 l0_1.length c0_1] 24 (0, 0)) (by (with_reducible repeat (first | refine blk_drewN ?_ _ | refine blk_drew ?_ | refine blk_alloc ?_ _)); exact BK101.out) hb); have n3_ := Aside0.mk (blk_below (g := gb102) (o := .cells #[.bool a2_0, .string a2_1] 33 (0, 0)) (by (with_reducible repeat (first | refine blk_drewN ?_ _ | refine blk_drew ?_ | refine blk_alloc ?_ _)); exact BK102.out) hb); have n4_ := Aside0.mk (blk_below (g := gb114) (o := .cells #[.int .i64 t109, .slice Ao40 t110.length co40] 24 (0, 0)) (by (with_reducible repeat (first | refine blk_drewN ?_ _ | refine blk_drew ?_ | refine blk_alloc ?_ _)); exact BK114.out) hb); have n5_ := Aside0.mk (blk_below (g := gb120) (o := .cells #[.int .i64 t115, .slice Ao49 t116.length co49] 24 (0, 0)) (by (with_reducible repeat (first | refine blk_drewN ?_ _ | refine blk_drew ?_ | refine blk_alloc ?_ _)); exact BK120.out) hb); have n6_ := Aside0.mk (below_step (by repeat (first | (with_reducible first | exact HB.out | apply below_alloc | apply pw_below_drewN | apply below_drew1 | refine below_set ?_ GE101.out | refine below_set ?_ GE102.out | refine below_set ?_ GE114.out | refine below_set ?_ GE120.out) | exact HB.out)) hb); clear HO_115001; clear HO_121001; clear BK101; clear BK102; clear BK114; clear BK120; clear HB; have HO_115001 := n0_; have HO_121001 := n1_; have BK101 := n2_; have BK102 := n3_; have BK114 := n4_; have BK120 := n5_; have HB := n6_; clear n0_ n1_ n2_ n3_ n4_ n5_ n6_; (try clear hb); (try clear hb2); (try clear hk); (try clear hi); have hcz77_0 : w76.cell? ⟨gb101, 0, none⟩ = some (.int .i64 a0_0) := (blk_cell BK101.out 0).trans rfl; have hcz77_1 : w76.cell? ⟨gb101, 1, none⟩ = some (.slice A0_1 l0_1.length c0_1) := (blk_cell BK101.out 1).trans rfl; have hfz77_0 := blk_frozen BK101.out 0; have hfz77_1 := blk_frozen BK101.out 1) | ((with_reducible refine gate_callee (f := 44) rfl ?_); refine goesL_ (some 64) rfl rfl Try.func44 (by kernel_rfl) rfl #[.agg #[.int .i64 a0_0, .slice A0_1 l0_1.length c0_1], .int .i64 a1] rfl (by (try simp only [List.map_toArray, List.map_cons, List.map_nil]); first | done | rfl | (simp only [List.length_drop, List.length_take]; rfl)) ?_; (with_reducible refine (refVac.calls a0_0 _ _ l0_1 a1 t124 t125 _ ?side1 ?side2 A70.out).mono ?_); (case side1 => repeat (first | exact (Kd.C_below HR0_1.out HB.out) | (with_reducible refine Kd.C_alloc ?_ _) | (with_reducible refine Kd.C_drewN ?_ _) | (with_reducible refine Kd.C_drew ?_))); (case side2 => exact HC0_1.out); rintro e w78 ⟨rfl, hb⟩; refine ⟨_, rfl, ?_⟩; have n0_ := Aside0.mk (Kd.R_below (by (with_reducible repeat (first | apply Kd.R_alloc | apply Kd.R_drewN | apply Kd.R_drew)); exact HO_115001.out) hb); have n1_ := Aside0.mk (Kd.R_below (by (with_reducible repeat (first | apply Kd.R_alloc | apply Kd.R_drewN | apply Kd.R_drew)); exact HO_121001.out) hb); have n2_ := Aside0.mk (blk_below (g := gb101) (o := .cells #[.int .i64 a0_0, .slice A0_1 l0_1.length c0_1] 24 (0, 0)) (by (with_reducible repeat (first | refine blk_drewN ?_ _ | refine blk_drew ?_ | refine blk_alloc ?_ _)); exact BK101.out) hb); have n3_ := Aside0.mk (blk_below (g := gb102) (o := .cells #[.bool a2_0, .string a2_1] 33 (0, 0)) (by (with_reducible repeat (first | refine blk_drewN ?_ _ | refine blk_drew ?_ | refine blk_alloc ?_ _)); exact BK102.out) hb); have n4_ := Aside0.mk (blk_below (g := gb114) (o := .cells #[.int .i64 t109, .slice Ao40 t110.length co40] 24 (0, 0)) (by (with_reducible repeat (first | refine blk_drewN ?_ _ | refine blk_drew ?_ | refine blk_alloc ?_ _)); exact BK114.out) hb); have n5_ := Aside0.mk (blk_below (g := gb120) (o := .cells #[.int .i64 t115, .slice Ao49 t116.length co49] 24 (0, 0)) (by (with_reducible repeat (first | refine blk_drewN ?_ _ | refine blk_drew ?_ | refine blk_alloc ?_ _)); exact BK120.out) hb); have n6_ := Aside0.mk (below_step (by repeat (first | (with_reducible first | exact HB.out | apply below_alloc | apply pw_below_drewN | apply below_drew1 | refine below_set ?_ GE101.out | refine below_set ?_ GE102.out | refine below_set ?_ GE114.out | refine below_set ?_ GE120.out) | exact HB.out)) hb); clear HO_115001; clear HO_121001; clear BK101; clear BK102; clear BK114; clear BK120; clear HB; have HO_115001 := n0_; have HO_121001 := n1_; have BK101 := n2_; have BK102 := n3_; have BK114 := n4_; have BK120 := n5_; have HB := n6_; clear n0_ n1_ n2_ n3_ n4_ n5_ n6_; (try clear hb); (try clear hb2); (try clear hk); (try clear hi)))
                    go_ret
                    exact ⟨by first | rfl | (simp [errW_none, errW_some] <;> rfl) | (simp [*, errW_none, errW_some] <;> rfl), by repeat (first | (with_reducible first | exact HB.out | apply below_alloc | apply pw_below_drewN | apply below_drew1 | refine below_set ?_ GE101.out | refine below_set ?_ GE102.out | refine below_set ?_ GE114.out | refine below_set ?_ GE120.out) | exact HB.out)⟩
                  · rw [if_neg c71] at H
                    have c71b0 : (t122 == t124) = false := beq_eq_false_iff_ne.mpr c71
                    have c71b1 : (t122 != t124) = true := bne_iff_ne.mpr c71
                    obtain rfl := Option.some.inj H
                    have hnb79 := NB101_102.out
                    have hnc79 := NB102_101.out
                    have hnb80 := NB101_114.out
                    have hnc80 := NB114_101.out
                    have hnb81 := NB101_120.out
                    have hnc81 := NB120_101.out
                    have hcz82_0 : wc.cell? ⟨gb101, 0, none⟩ = some (.int .i64 a0_0) := (blk_cell BK101.out 0).trans rfl
                    have hcz82_1 : wc.cell? ⟨gb101, 1, none⟩ = some (.slice A0_1 l0_1.length c0_1) := (blk_cell BK101.out 1).trans rfl
                    have hfz82_0 := blk_frozen BK101.out 0
                    have hfz82_1 := blk_frozen BK101.out 1
                    go_wp2_with (first | ((with_reducible refine gate_callee (f := 43) rfl ?_); refine goesL_ (some 58) rfl rfl Try.func43 (by kernel_rfl) rfl #[.agg #[.int .i64 a0_0, .slice A0_1 l0_1.length c0_1], .int .i64 a1] rfl (by (try simp only [List.map_toArray, List.map_cons, List.map_nil]); first | done | rfl | (simp only [List.length_drop, List.length_take]; rfl)) ?_; (with_reducible refine (slabVac.calls a0_0 _ _ l0_1 a1 t122 t123 _ ?side1 ?side2 A69.out).mono ?_); (case side1 => repeat (first | exact (Kd.C_below HR0_1.out HB.out) | (with_reducible refine Kd.C_alloc ?_ _) | (with_reducible refine Kd.C_drewN ?_ _) | (with_reducible refine Kd.C_drew ?_))); (case side2 => exact HC0_1.out); rintro e w83 ⟨rfl, hb⟩; refine ⟨_, rfl, ?_⟩; have n0_ := Aside0.mk (Kd.R_below (by (with_reducible repeat (first | apply Kd.R_alloc | apply Kd.R_drewN | apply Kd.R_drew)); exact HO_115001.out) hb); have n1_ := Aside0.mk (Kd.R_below (by (with_reducible repeat (first | apply Kd.R_alloc | apply Kd.R_drewN | apply Kd.R_drew)); exact HO_121001.out) hb); have n2_ := Aside0.mk (blk_below (g := gb101) (o := .cells #[.int .i64 a0_0, .slice A0_1 l0_1.length c0_1] 24 (0, 0)) (by (with_reducible repeat (first | refine blk_drewN ?_ _ | refine blk_drew ?_ | refine blk_alloc ?_ _)); exact BK101.out) hb); have n3_ := Aside0.mk (blk_below (g := gb102) (o := .cells #[.bool a2_0, .string a2_1] 33 (0, 0)) (by (with_reducible repeat (first | refine blk_drewN ?_ _ | refine blk_drew ?_ | refine blk_alloc ?_ _)); exact BK102.out) hb); have n4_ := Aside0.mk (blk_below (g := gb114) (o := .cells #[.int .i64 t109, .slice Ao40 t110.length co40] 24 (0, 0)) (by (with_reducible repeat (first | refine blk_drewN ?_ _ | refine blk_drew ?_ | refine blk_alloc ?_ _)); exact BK114.out) hb); have n5_ := Aside0.mk (blk_below (g := gb120) (o := .cells #[.int .i64 t115, .slice Ao49 t116.length co49] 24 (0, 0)) (by (with_reducible repeat (first | refine blk_drewN ?_ _ | refine blk_drew ?_ | refine blk_alloc ?_ _)); exact BK120.out) hb); have n6_ := Aside0.mk (below_step (by repeat (first | (with_reducible first | exact HB.out | apply below_alloc | apply pw_below_drewN | apply below_drew1 | refine below_set ?_ GE101.out | refine below_set ?_ GE102.out | refine below_set ?_ GE114.out | refine below_set ?_ GE120.out) | exact HB.out)) hb); clear HO_115001; clear HO_121001; clear BK101; clear BK102; clear BK114; clear BK120; clear HB; have HO_115001 := n0_; have HO_121001 := n1_; have BK101 := n2_; have BK102 := n3_; have BK114 := n4_; have BK120 := n5_; have HB := n6_; clear n0_ n1_ n2_ n3_ n4_ n5_ n6_; (try clear hb); (try clear hb2); (try clear hk); (try clear hi); have hcz84_0 : w83.cell? ⟨gb101, 0, none⟩ = some (.int .i64 a0_0) := (blk_cell BK101.out 0).trans rfl; have hcz84_1 : w83.cell? ⟨gb101, 1, none⟩ = some (.slice A0_1 l0_1.length c0_1) := (blk_cell BK101.out 1).trans rfl; have hfz84_0 := blk_frozen BK101.out 0; have hfz84_1 := blk_frozen BK101.out 1) | ((with_reducible refine gate_callee (f := 44) rfl ?_); refine goesL_ (some 64) rfl rfl Try.func44 (by kernel_rfl) rfl #[.agg #[.int .i64 a0_0, .slice A0_1 l0_1.length c0_1], .int .i64 a1] rfl (by (try simp only [List.map_toArray, List.map_cons, List.map_nil]); first | done | rfl | (simp only [List.length_drop, List.length_take]; rfl)) ?_; (with_reducible refine (refVac.calls a0_0 _ _ l0_1 a1 t124 t125 _ ?side1 ?side2 A70.out).mono ?_); (case side1 => repeat (first | exact (Kd.C_below HR0_1.out HB.out) | (with_reducible refine Kd.C_alloc ?_ _) | (with_reducible refine Kd.C_drewN ?_ _) | (with_reducible refine Kd.C_drew ?_))); (case side2 => exact HC0_1.out); rintro e w85 ⟨rfl, hb⟩; refine ⟨_, rfl, ?_⟩; have n0_ := Aside0.mk (Kd.R_below (by (with_reducible repeat (first | apply Kd.R_alloc | apply Kd.R_drewN | apply Kd.R_drew)); exact HO_115001.out) hb); have n1_ := Aside0.mk (Kd.R_below (by (with_reducible repeat (first | apply Kd.R_alloc | apply Kd.R_drewN | apply Kd.R_drew)); exact HO_121001.out) hb); have n2_ := Aside0.mk (blk_below (g := gb101) (o := .cells #[.int .i64 a0_0, .slice A0_1 l0_1.length c0_1] 24 (0, 0)) (by (with_reducible repeat (first | refine blk_drewN ?_ _ | refine blk_drew ?_ | refine blk_alloc ?_ _)); exact BK101.out) hb); have n3_ := Aside0.mk (blk_below (g := gb102) (o := .cells #[.bool a2_0, .string a2_1] 33 (0, 0)) (by (with_reducible repeat (first | refine blk_drewN ?_ _ | refine blk_drew ?_ | refine blk_alloc ?_ _)); exact BK102.out) hb); have n4_ := Aside0.mk (blk_below (g := gb114) (o := .cells #[.int .i64 t109, .slice Ao40 t110.length co40] 24 (0, 0)) (by (with_reducible repeat (first | refine blk_drewN ?_ _ | refine blk_drew ?_ | refine blk_alloc ?_ _)); exact BK114.out) hb); have n5_ := Aside0.mk (blk_below (g := gb120) (o := .cells #[.int .i64 t115, .slice Ao49 t116.length co49] 24 (0, 0)) (by (with_reducible repeat (first | refine blk_drewN ?_ _ | refine blk_drew ?_ | refine blk_alloc ?_ _)); exact BK120.out) hb); have n6_ := Aside0.mk (below_step (by repeat (first | (with_reducible first | exact HB.out | apply below_alloc | apply pw_below_drewN | apply below_drew1 | refine below_set ?_ GE101.out | refine below_set ?_ GE102.out | refine below_set ?_ GE114.out | refine below_set ?_ GE120.out) | exact HB.out)) hb); clear HO_115001; clear HO_121001; clear BK101; clear BK102; clear BK114; clear BK120; clear HB; have HO_115001 := n0_; have HO_121001 := n1_; have BK101 := n2_; have BK102 := n3_; have BK114 := n4_; have BK120 := n5_; have HB := n6_; clear n0_ n1_ n2_ n3_ n4_ n5_ n6_; (try clear hb); (try clear hb2); (try clear hk); (try clear hi)))
                    go_ret
                    exact ⟨by first | rfl | (simp [errW_none, errW_some] <;> rfl) | (simp [*, errW_none, errW_some] <;> rfl), by repeat (first | (with_reducible first | exact HB.out | apply below_alloc | apply pw_below_drewN | apply below_drew1 | refine below_set ?_ GE101.out | refine below_set ?_ GE102.out | refine below_set ?_ GE114.out | refine below_set ?_ GE120.out) | exact HB.out)⟩
  · replace c5 := Bool.eq_false_iff.mpr c5
    subst c5
    have H1 : (some false) = some r := by rw [if_neg (show ¬ (false = true) by decide)] at H; exact H
    clear H
    have H := H1
    clear H1
    obtain rfl := Option.some.inj H
    go_enter Try.func5, Try.ntmps5
    go_wp2_with (first | ((with_reducible refine gate_dst (N := 3) rfl ?_); (try (refine gate_guard (by rfl) ?_; dsimp only)); refine box_event ?hg (N := 3) ?hd (cs := #[.int .i64 a0_0, .slice A0_1 l0_1.length c0_1]) (t := 24) ?hr ?_; (case hd => rfl); (case hg => rfl); (case hr => first | (go_simp; done) | (go_simp; rfl)); intro gb101 hg w86 hbox hb; have n0_ := Aside0.mk (below_step (by repeat (first | (with_reducible first | exact HB.out | apply below_alloc | apply pw_below_drewN | apply below_drew1) | exact HB.out)) hb); have n1_ := Aside0.mk (hbox); have n2_ := Aside0.mk ((by rw [hg]; exact (below_size (by repeat (first | (with_reducible first | exact HB.out | apply below_alloc | apply pw_below_drewN | apply below_drew1) | exact HB.out))) : w.heap.size ≤ gb101)); have n3_ := Aside0.mk ((by rw [hg]; exact (below_size (by repeat (first | (with_reducible first | exact HB.out | apply below_alloc | apply pw_below_drewN | apply below_drew1) | exact HB.out))) : w.heap.size ≤ gb101)); clear HB; have HB := n0_; have BK101 := n1_; have GW101 := n2_; have GE101 := n3_; clear n0_ n1_ n2_ n3_; clear hb hbox hg) | ((with_reducible refine gate_dst (N := 5) rfl ?_); (try (refine gate_guard (by rfl) ?_; dsimp only)); refine box_event ?hg (N := 5) ?hd (cs := #[.bool a2_0, .string a2_1]) (t := 33) ?hr ?_; (case hd => rfl); (case hg => rfl); (case hr => first | (go_simp; done) | (go_simp; rfl)); intro gb102 hg w87 hbox hb; have n0_ := Aside0.mk (blk_below (g := gb101) (o := .cells #[.int .i64 a0_0, .slice A0_1 l0_1.length c0_1] 24 (0, 0)) (by (with_reducible repeat (first | refine blk_drewN ?_ _ | refine blk_drew ?_ | refine blk_alloc ?_ _)); exact BK101.out) hb); have n1_ := Aside0.mk (below_step (by repeat (first | (with_reducible first | exact HB.out | apply below_alloc | apply pw_below_drewN | apply below_drew1 | refine below_set ?_ GE101.out) | exact HB.out)) hb); have n2_ := Aside0.mk (hbox); have n3_ := Aside0.mk ((by rw [hg]; exact (below_size (by repeat (first | (with_reducible first | exact HB.out | apply below_alloc | apply pw_below_drewN | apply below_drew1 | refine below_set ?_ GE101.out) | exact HB.out))) : w.heap.size ≤ gb102)); have n4_ := Aside0.mk ((by rw [hg]; exact (below_size (by repeat (first | (with_reducible first | exact HB.out | apply below_alloc | apply pw_below_drewN | apply below_drew1 | refine below_set ?_ GE101.out) | exact HB.out))) : w.heap.size ≤ gb102)); have n5_ := Aside0.mk ((by rw [hg]; exact Nat.ne_of_lt (blk_lt (g := gb101) (o := .cells #[.int .i64 a0_0, .slice A0_1 l0_1.length c0_1] 24 (0, 0)) (by (with_reducible repeat (first | refine blk_drewN ?_ _ | refine blk_drew ?_ | refine blk_alloc ?_ _)); exact BK101.out)) : gb101 ≠ gb102)); have n6_ := Aside0.mk ((by rw [hg]; exact Nat.ne_of_gt (blk_lt (g := gb101) (o := .cells #[.int .i64 a0_0, .slice A0_1 l0_1.length c0_1] 24 (0, 0)) (by (with_reducible repeat (first | refine blk_drewN ?_ _ | refine blk_drew ?_ | refine blk_alloc ?_ _)); exact BK101.out)) : gb102 ≠ gb101)); clear BK101; clear HB; have BK101 := n0_; have HB := n1_; have BK102 := n2_; have GW102 := n3_; have GE102 := n4_; have NB101_102 := n5_; have NB102_101 := n6_; clear n0_ n1_ n2_ n3_ n4_ n5_ n6_; clear hb hbox hg) | ((with_reducible refine gate_callee (f := 30) rfl ?_); refine goesL_ (some 15) rfl rfl Try.func30 (by kernel_rfl) rfl #[] rfl (by (try simp only [List.map_toArray, List.map_cons, List.map_nil]); first | done | rfl | (simp only [List.length_drop, List.length_take]; rfl)) ?_; (with_reducible refine (awake3.calls  false _ A4.out).mono ?_); rintro e w88 ⟨rfl, hb⟩; refine ⟨_, rfl, ?_⟩; have n0_ := Aside0.mk (blk_below (g := gb101) (o := .cells #[.int .i64 a0_0, .slice A0_1 l0_1.length c0_1] 24 (0, 0)) (by (with_reducible repeat (first | refine blk_drewN ?_ _ | refine blk_drew ?_ | refine blk_alloc ?_ _)); exact BK101.out) hb); have n1_ := Aside0.mk (blk_below (g := gb102) (o := .cells #[.bool a2_0, .string a2_1] 33 (0, 0)) (by (with_reducible repeat (first | refine blk_drewN ?_ _ | refine blk_drew ?_ | refine blk_alloc ?_ _)); exact BK102.out) hb); have n2_ := Aside0.mk (below_step (by repeat (first | (with_reducible first | exact HB.out | apply below_alloc | apply pw_below_drewN | apply below_drew1 | refine below_set ?_ GE101.out | refine below_set ?_ GE102.out) | exact HB.out)) hb); clear BK101; clear BK102; clear HB; have BK101 := n0_; have BK102 := n1_; have HB := n2_; clear n0_ n1_ n2_; (try clear hb); (try clear hb2); (try clear hk); (try clear hi)))
    go_ret
    exact ⟨by first | rfl | (simp [errW_none, errW_some] <;> rfl) | (simp [*, errW_none, errW_some] <;> rfl), by repeat (first | (with_reducible first | exact HB.out | apply below_alloc | apply pw_below_drewN | apply below_drew1 | refine below_set ?_ GE101.out | refine below_set ?_ GE102.out) | exact HB.out)⟩

end Go.Proofs.Ytfjmnaobfbmllaa.M

namespace Go.Proofs.Ytfjmnaobfbmllaa.M
open Go.RowKit Go.Proofs.YtfjmnaobfbmllaaW.PrintWords Go.Proofs.YtfjmnaobfbmllaaW.PrintLast Go.Proofs.YtfjmnaobfbmllaaW.PrintMore
set_option linter.unusedVariables false
set_option linter.unusedSimpArgs false
theorem put_small (a : Int) (l : List S33) (s : Int) (x : S33) : (putP a l s x).2.1.length ≤ 32 := by
  by_cases h : (putP a l s x).2.2 = 0
  · obtain ⟨hg, h0, h1, hf, hr, he⟩ := put_ok rfl h
    rw [he]
    exact put_len32 l _ x ((good_iff _ _).mp hg).2.2.1 (by omega)
  · rw [(put_fail rfl h).2]; simp
theorem puts_j0 (k : Nat) (s : Int) (b : Bool) (a : Int) (l : List S33) (u : Bool) (d : ByteArray) : seneschallaw03_SlabPuts.j0 (k + 2) s b a l u d = some true := by
  simp only [seneschallaw03_SlabPuts.j0]
  cases b with
  | true => rfl
  | false =>
    rw [if_neg Bool.false_ne_true]
    unfold slabAt.f refAt.f slabPut.f refPut.f refSame.f
    have := put_small a l s ⟨u, d⟩
    rw [Option.bind_some, Option.bind_some, if_neg (by simp), Option.bind_some, Option.bind_some, if_pos (by omega), Option.bind_some, if_pos (by simp [sameP])]
    simp only [seneschallaw03_SlabPuts.j1]
    unfold slabVac.f refVac.f
    rw [if_neg (by simp), Option.bind_some, Option.bind_some, if_pos rfl]
    simp
theorem pureSlabPuts (a : Int) (l : List S33) (s : Int) (x : S33) (w : (Lit.int .i64 a).wf = true) (w2 : (Lit.int .i64 s).wf = true) : ∃ k, seneschallaw03_SlabPuts.f k a l s x.f0 x.f1 = some true := by
  refine ⟨2, ?_⟩
  unfold seneschallaw03_SlabPuts.f awake3.f great3.f
  rw [Option.bind_some, if_pos rfl, Option.bind_some]
  split <;> exact puts_j0 0 _ _ _ _ _ _
end Go.Proofs.Ytfjmnaobfbmllaa.M

namespace Go.Proofs.Ytfjmnaobfbmllaa.slabPuts
open Go.ChangeShapes Go.WideShapes Go.ChangeAt Go.RowKit Go.Proofs.Ytfjmnaobfbmllaa.M
open Go.Proofs.YtfjmnaobfbmllaaW.PrintWords Go.Proofs.YtfjmnaobfbmllaaW.PrintLast Go.Proofs.YtfjmnaobfbmllaaW.PrintMore
open Go.ChangeMaps (open_string shut_string)
set_option linter.unusedVariables false
theorem own : ownKnob Try.prog.godebug = none := by kernel_rfl
theorem laidOut : laidOutB Try.prog = true := by kernel_rfl
set_option maxRecDepth 100000 in
theorem lifted (os : Os) (started : os.Started) (H : Type) (enc : TypeId × Value → H) :
    ReturnsInHanded {} Try.checked os 5 .any (Rows.slabPutsSpec.pre6 enc Try.prog Try.f5 Rows.slabPutsRow.domain false) (Rows.slabPutsSpec.post enc Try.prog Try.f5 false true false false) := by
  refine returnsInHanded_of_change_sized (C := Try.checked) own started (by kernel_rfl) Try.func5
    (ChangeSpec.witness6 (enc := enc) (C := Try.checked) false ⟨#[], #[.agg #[.int .i64 0, .slice none 0 0], .int .i64 0, .agg #[.bool false, .string ByteArray.empty]], []⟩ 8 (by kernel_rfl) (by kernel_rfl) (by kernel_rfl) (by kernel_rfl)) ?_
  intro W base args ds gs before hval0 hW hcnd hsz0 _
  have hsz : (DataW.weightsEach Try.prog (Try.f5.params.toList ++ Rows.slabPutsSpec.plain.varTypes Try.prog) (ds ++ gs)).all (· ≤ reachBytes) = true := hsz0
  have hval : ∀ (j : Nat) t v, Try.f5.params[j]? = some t → args[j]? = some v → Value.okWide Try.prog W .any base t v := hval0
  have hW' := hW
  obtain ⟨p, q, hA0, hV, rfl, hfz, hnd⟩ := hW
  have hA : DataW.TrodAll enc Try.prog W 0 (fun _ => true) true Try.f5.params.toList args.toList ds p := hA0
  rw [Try.params5] at hA hval hsz
  obtain ⟨v0, vs0, d0, ds0, p0, q0, hargs, rfl, rfl, h0, r0⟩ := trodAll_cons hA
  obtain ⟨v1, vs1, d1, ds1, p1, q1, rfl, rfl, rfl, h1, r1⟩ := trodAll_cons r0
  obtain ⟨v2, vs2, d2, ds2, p2, q2, rfl, rfl, rfl, h2, r2⟩ := trodAll_cons r1
  obtain ⟨rfl, rfl, rfl⟩ := trodAll_nil r2
  obtain rfl : args = #[v0, v1, v2] := by cases args; simp_all
  obtain ⟨rfl, rfl⟩ := trodVars_none hV
  have k0 := h0
  have lt0 : ∀ x ∈ p0, x.block < W.heap.size := by obtain ⟨m, hm⟩ := k0; exact DataW.trod_lt m _ _ _ hm
  obtain ⟨a0, A0, c0, l0, rfl, w0, hr0, hc0⟩ := V24 (hval 0 24 v0 rfl rfl) h0
  obtain ⟨a1, rfl, rfl, rfl, w1⟩ := open_int Try.underlying3 (hval 1 3 v1 rfl rfl) h1
  have k2 := h2
  have lt2 : ∀ x ∈ p2, x.block < W.heap.size := by obtain ⟨m, hm⟩ := k2; exact DataW.trod_lt m _ _ _ hm
  obtain ⟨x2, rfl⟩ := V33 (hval 2 33 v2 rfl rfl) h2
  clear hA0 hval0 hsz0 hsz hval
  obtain ⟨k, hp⟩ := pureSlabPuts a0 l0 a1 x2 w0 w1
  refine (seneschallaw03_SlabPuts.calls k a0 A0 c0 l0 a1 (x2.f0) (x2.f1) true W hr0 hc0 hp).mono fun e W' ⟨he, bel⟩ => ?_
  subst he
  exact ⟨_, rfl, _, _, _, [], _, [], hW', trodAll_mk1 (shut_bool Try.underlying4 _), (trodAll_cons_mk (Below.trod laidOut (by kernel_rfl) (of_decide_eq_true (by kernel_rfl)) k0 bel lt0) (trodAll_cons_mk (shut_int Try.underlying3 w1) (trodAll_cons_mk (Below.trod laidOut (by kernel_rfl) (of_decide_eq_true (by kernel_rfl)) k2 bel lt2) trodAll_mk0))), rfl, bel.frame _, fun h => by cases h⟩
theorem joined : joinedFacts Try.prog 5 Try.f5 Rows.slabPutsSpec Rows.slabPutsRow = true := by
  unfold joinedFacts
  rw [may_enter, lifts_final, make_is]
  kernel_rfl
theorem over : Rows.slabPutsRow.holds Try.pinned (OpenSpec.ofChange Rows.slabPutsSpec) :=
  OpenClaim.holds_of_wide 5 Try.f5 rfl rfl rfl rfl rfl rfl rfl ⟨rfl, rfl, rfl, rfl, rfl⟩ rfl rfl rfl rfl rfl (by kernel_rfl) Try.func5 joined
    (of_decide_eq_true (by kernel_rfl)) (by unfold Func.isWrapper; first | (rw [if_pos (by decide +kernel)]; kernel_rfl) | (rw [if_neg (by decide +kernel)]; exact ⟨rfl, rfl⟩))
    (fun os started H enc _ => lifted os started H enc)
theorem proved : Rows.SlabPutsSaid := over
#print axioms proved
end Go.Proofs.Ytfjmnaobfbmllaa.slabPuts
namespace Go.Proofs.Ytfjmnaobfbmllaa
/-- The row, under a short name, for the claim. -/
theorem slabPuts_holds : Rows.SlabPutsSaid := slabPuts.proved
end Go.Proofs.Ytfjmnaobfbmllaa
