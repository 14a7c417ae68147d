/- The law SlabBack: it returns true for every input, and its arguments read as they did. No condition. Part 3 of 3. -/
import Derived.Test.YtfjmnaobfbmllaaRows
import Derived.Below
import Derived.Carry
import Derived.ChangeOld
import Derived.OpenShut
import Derived.ProofKit
import Derived.ShutString
import Derived.SizedLaws
import Derived.WalkKit
import Derived.Test.YtfjmnaobfbmllaaSlabBackA0
import Derived.Test.YtfjmnaobfbmllaaSlabBackA1
namespace Go.Proofs.Ytfjmnaobfbmllaa.M
open Go.RowKit Go.Proofs.YtfjmnaobfbmllaaW.PrintWords Go.Proofs.YtfjmnaobfbmllaaW.PrintLast Go.Proofs.YtfjmnaobfbmllaaW.PrintMore
attribute [local go_sem] max2_int min2_int max_two min_two max_three min_three max_four min_four   -- for this text's walks alone
set_option linter.unusedVariables false
set_option linter.unusedSimpArgs false

/-! ### slab_At: function 39 -/
def slab_At.f (a0_0 : Int) (l0_1 : List (S33)) (a1 : Int) : Option (Bool × ByteArray) := (slabGood.f a0_0 l0_1).bind fun t103 => (if t103 = true then (if a1 < 0 then (some (false, (⟨#[]⟩ : ByteArray))) else (if a1 ≥ (l0_1.length : Int) then (some (false, (⟨#[]⟩ : ByteArray))) else (if 0 ≤ a1 then (if a1 < (l0_1.length : Int) then (some ((rd_T33 l0_1 a1).f0, (rd_T33 l0_1 a1).f1)) else (none)) else (none)))) else (some (false, (⟨#[]⟩ : ByteArray))))
set_option maxHeartbeats 8000000 in
set_option maxRecDepth 100000 in
theorem slab_At.calls (a0_0 : Int) (A0_1 : Option Addr) (c0_1 : Nat) (l0_1 : List (S33)) (a1 : Int) (r1 : Bool) (r2 : ByteArray) (w : World) (hr0_1 : Kd.C k33 w A0_1 l0_1.length l0_1) (hc0_1 : l0_1.length ≤ c0_1) (h : slab_At.f a0_0 l0_1 a1 = some (r1, r2)) :
    Calls Try.prog 39 #[.agg #[.int .i64 a0_0, .slice A0_1 l0_1.length c0_1], .int .i64 a1] w fun e w' => e = .returned (.agg #[.bool r1, .string r2]) ∧ Below w.heap.size w w' := by
  have hu24 := Try.underlying24
  have hu33 := Try.underlying33
  have HR0_1 := Aside0.mk hr0_1
  have HC0_1 := Aside0.mk hc0_1
  clear hr0_1 hc0_1
  have HB := Aside0.mk (Below.refl w.heap.size w)
  have H : ((slabGood.f a0_0 l0_1).bind fun t103 => (if t103 = true then (if a1 < 0 then (some (false, (⟨#[]⟩ : ByteArray))) else (if a1 ≥ (l0_1.length : Int) then (some (false, (⟨#[]⟩ : ByteArray))) else (if 0 ≤ a1 then (if a1 < (l0_1.length : Int) then (some ((rd_T33 l0_1 a1).f0, (rd_T33 l0_1 a1).f1)) else (none)) else (none)))) else (some (false, (⟨#[]⟩ : ByteArray))))) = some (r1, r2) := h
  clear h
  replace H := Option.bind_eq_some_iff.mp H
  obtain ⟨t103, A30, H⟩ := H
  replace H : (if t103 = true then (if a1 < 0 then (some (false, (⟨#[]⟩ : ByteArray))) else (if a1 ≥ (l0_1.length : Int) then (some (false, (⟨#[]⟩ : ByteArray))) else (if 0 ≤ a1 then (if a1 < (l0_1.length : Int) then (some ((rd_T33 l0_1 a1).f0, (rd_T33 l0_1 a1).f1)) else (none)) else (none)))) else (some (false, (⟨#[]⟩ : ByteArray)))) = some (r1, r2) := H
  have A3 := Aside0.mk A30
  clear A30
  by_cases c4 : t103 = true
  · subst c4
    have H1 : (if a1 < 0 then (some (false, (⟨#[]⟩ : ByteArray))) else (if a1 ≥ (l0_1.length : Int) then (some (false, (⟨#[]⟩ : ByteArray))) else (if 0 ≤ a1 then (if a1 < (l0_1.length : Int) then (some ((rd_T33 l0_1 a1).f0, (rd_T33 l0_1 a1).f1)) else (none)) else (none)))) = some (r1, r2) := by rw [if_pos rfl] at H; exact H
    clear H
    have H := H1
    clear H1
    by_cases c5 : a1 < 0
    · rw [if_pos c5] at H
      have c5b0 : decide (a1 < 0) = true := decide_eq_true c5
      clear c5
      simp only [Option.some.injEq, Prod.mk.injEq] at H
      obtain ⟨rfl, rfl⟩ := H
      go_enter Try.func39, Try.ntmps39
      go_wp2_with (first | ((with_reducible refine gate_dst (N := 2) rfl ?_); (try (refine gate_guard (by rfl) ?_; dsimp only)); refine box_event ?hg (N := 2) ?hd (cs := #[.int .i64 a0_0, .slice A0_1 l0_1.length c0_1]) (t := 24) ?hr ?_; (case hd => rfl); (case hg => rfl); (case hr => first | (go_simp; done) | (go_simp; rfl)); intro gb101 hg w6 hbox hb; have n0_ := Aside0.mk (below_step (by repeat (first | (with_reducible first | exact HB.out | apply below_alloc | apply pw_below_drewN | apply below_drew1) | exact HB.out)) hb); have n1_ := Aside0.mk (hbox); have n2_ := Aside0.mk ((by rw [hg]; exact (below_size (by repeat (first | (with_reducible first | exact HB.out | apply below_alloc | apply pw_below_drewN | apply below_drew1) | exact HB.out))) : w.heap.size ≤ gb101)); have n3_ := Aside0.mk ((by rw [hg]; exact (below_size (by repeat (first | (with_reducible first | exact HB.out | apply below_alloc | apply pw_below_drewN | apply below_drew1) | exact HB.out))) : w.heap.size ≤ gb101)); clear HB; have HB := n0_; have BK101 := n1_; have GW101 := n2_; have GE101 := n3_; clear n0_ n1_ n2_ n3_; clear hb hbox hg) | ((with_reducible refine gate_dst (N := 4) rfl ?_); (try (refine gate_guard (by rfl) ?_; dsimp only)); refine box_event ?hg (N := 4) ?hd (cs := #[.bool false, .string (⟨#[]⟩ : ByteArray)]) (t := 33) ?hr ?_; (case hd => rfl); (case hg => rfl); (case hr => first | (go_simp; done) | (go_simp; rfl)); intro gb102 hg w7 hbox hb; have n0_ := Aside0.mk (blk_below (g := gb101) (o := .cells #[.int .i64 a0_0, .slice A0_1 l0_1.length c0_1] 24 (0, 0)) (by (with_reducible repeat (first | refine blk_drewN ?_ _ | refine blk_drew ?_ | refine blk_alloc ?_ _)); exact BK101.out) hb); have n1_ := Aside0.mk (below_step (by repeat (first | (with_reducible first | exact HB.out | apply below_alloc | apply pw_below_drewN | apply below_drew1 | refine below_set ?_ GE101.out) | exact HB.out)) hb); have n2_ := Aside0.mk (hbox); have n3_ := Aside0.mk ((by rw [hg]; exact (below_size (by repeat (first | (with_reducible first | exact HB.out | apply below_alloc | apply pw_below_drewN | apply below_drew1 | refine below_set ?_ GE101.out) | exact HB.out))) : w.heap.size ≤ gb102)); have n4_ := Aside0.mk ((by rw [hg]; exact (below_size (by repeat (first | (with_reducible first | exact HB.out | apply below_alloc | apply pw_below_drewN | apply below_drew1 | refine below_set ?_ GE101.out) | exact HB.out))) : w.heap.size ≤ gb102)); have n5_ := Aside0.mk ((by rw [hg]; exact Nat.ne_of_lt (blk_lt (g := gb101) (o := .cells #[.int .i64 a0_0, .slice A0_1 l0_1.length c0_1] 24 (0, 0)) (by (with_reducible repeat (first | refine blk_drewN ?_ _ | refine blk_drew ?_ | refine blk_alloc ?_ _)); exact BK101.out)) : gb101 ≠ gb102)); have n6_ := Aside0.mk ((by rw [hg]; exact Nat.ne_of_gt (blk_lt (g := gb101) (o := .cells #[.int .i64 a0_0, .slice A0_1 l0_1.length c0_1] 24 (0, 0)) (by (with_reducible repeat (first | refine blk_drewN ?_ _ | refine blk_drew ?_ | refine blk_alloc ?_ _)); exact BK101.out)) : gb102 ≠ gb101)); clear BK101; clear HB; have BK101 := n0_; have HB := n1_; have BK102 := n2_; have GW102 := n3_; have GE102 := n4_; have NB101_102 := n5_; have NB102_101 := n6_; clear n0_ n1_ n2_ n3_ n4_ n5_ n6_; clear hb hbox hg; have hnb8 := NB101_102.out; have hnc8 := NB102_101.out; have hcz9_0 : w7.cell? ⟨gb101, 0, none⟩ = some (.int .i64 a0_0) := (blk_cell BK101.out 0).trans rfl; have hcz9_1 : w7.cell? ⟨gb101, 1, none⟩ = some (.slice A0_1 l0_1.length c0_1) := (blk_cell BK101.out 1).trans rfl; have hfz9_0 := blk_frozen BK101.out 0; have hfz9_1 := blk_frozen BK101.out 1) | ((with_reducible refine gate_callee (f := 34) rfl ?_); refine goesL_ (some 6) rfl rfl Try.func34 (by kernel_rfl) rfl #[.agg #[.int .i64 a0_0, .slice A0_1 l0_1.length c0_1]] rfl (by (try simp only [List.map_toArray, List.map_cons, List.map_nil]); first | done | rfl | (simp only [List.length_drop, List.length_take]; rfl)) ?_; (with_reducible refine (slabGood.calls a0_0 _ _ l0_1 true _ ?side1 ?side2 A3.out).mono ?_); (case side1 => repeat (first | exact (Kd.C_below HR0_1.out HB.out) | (with_reducible refine Kd.C_alloc ?_ _) | (with_reducible refine Kd.C_drewN ?_ _) | (with_reducible refine Kd.C_drew ?_))); (case side2 => exact HC0_1.out); rintro e w10 ⟨rfl, hb⟩; refine ⟨_, rfl, ?_⟩; have n0_ := Aside0.mk (blk_below (g := gb101) (o := .cells #[.int .i64 a0_0, .slice A0_1 l0_1.length c0_1] 24 (0, 0)) (by (with_reducible repeat (first | refine blk_drewN ?_ _ | refine blk_drew ?_ | refine blk_alloc ?_ _)); exact BK101.out) hb); have n1_ := Aside0.mk (blk_below (g := gb102) (o := .cells #[.bool false, .string (⟨#[]⟩ : ByteArray)] 33 (0, 0)) (by (with_reducible repeat (first | refine blk_drewN ?_ _ | refine blk_drew ?_ | refine blk_alloc ?_ _)); exact BK102.out) hb); have n2_ := Aside0.mk (below_step (by repeat (first | (with_reducible first | exact HB.out | apply below_alloc | apply pw_below_drewN | apply below_drew1 | refine below_set ?_ GE101.out | refine below_set ?_ GE102.out) | exact HB.out)) hb); clear BK101; clear BK102; clear HB; have BK101 := n0_; have BK102 := n1_; have HB := n2_; clear n0_ n1_ n2_; (try clear hb); (try clear hb2); (try clear hk); (try clear hi); have hcz11_0 : w10.cell? ⟨gb102, 0, none⟩ = some (.bool false) := (blk_cell BK102.out 0).trans rfl; have hcz11_1 : w10.cell? ⟨gb102, 1, none⟩ = some (.string (⟨#[]⟩ : ByteArray)) := (blk_cell BK102.out 1).trans rfl; have hfz11_0 := blk_frozen BK102.out 0; have hfz11_1 := blk_frozen BK102.out 1))
      refine bodyPost_ret (results_cell_row rfl _ _ gb102 33 #[.bool false, .string (⟨#[]⟩ : ByteArray)] (0, 0) _ rfl (by (with_reducible repeat (first | refine blk_drewN ?_ _ | refine blk_drew ?_ | refine blk_alloc ?_ _)); refine blk_put (cs := #[.bool false, .string (⟨#[]⟩ : ByteArray)]) ?_ 1 _ rfl; (with_reducible repeat (first | refine blk_drewN ?_ _ | refine blk_drew ?_ | refine blk_alloc ?_ _)); refine blk_put (cs := #[.bool false, .string (⟨#[]⟩ : ByteArray)]) ?_ 0 _ rfl; (with_reducible repeat (first | refine blk_drewN ?_ _ | refine blk_drew ?_ | refine blk_alloc ?_ _)); exact BK102.out) Try.underlying33 rfl (by kernel_rfl)) rfl ?_
      exact ⟨by first | rfl | (simp [errW_none, errW_some] <;> rfl) | (simp [*, errW_none, errW_some] <;> rfl), by repeat (first | (with_reducible first | exact HB.out | apply below_alloc | apply pw_below_drewN | apply below_drew1 | refine below_set ?_ GE101.out | refine below_set ?_ GE102.out) | exact HB.out)⟩
    · rw [if_neg c5] at H
      have c5b0 : decide (a1 < 0) = false := decide_eq_false c5
      clear c5
      by_cases c12 : a1 ≥ (l0_1.length : Int)
      · rw [if_pos c12] at H
        have c12b0 : decide ((l0_1.length : Int) ≤ a1) = true := decide_eq_true c12
        clear c12
        simp only [Option.some.injEq, Prod.mk.injEq] at H
        obtain ⟨rfl, rfl⟩ := H
        go_enter Try.func39, Try.ntmps39
        go_wp2_with (first | ((with_reducible refine gate_dst (N := 2) rfl ?_); (try (refine gate_guard (by rfl) ?_; dsimp only)); refine box_event ?hg (N := 2) ?hd (cs := #[.int .i64 a0_0, .slice A0_1 l0_1.length c0_1]) (t := 24) ?hr ?_; (case hd => rfl); (case hg => rfl); (case hr => first | (go_simp; done) | (go_simp; rfl)); intro gb101 hg w13 hbox hb; have n0_ := Aside0.mk (below_step (by repeat (first | (with_reducible first | exact HB.out | apply below_alloc | apply pw_below_drewN | apply below_drew1) | exact HB.out)) hb); have n1_ := Aside0.mk (hbox); have n2_ := Aside0.mk ((by rw [hg]; exact (below_size (by repeat (first | (with_reducible first | exact HB.out | apply below_alloc | apply pw_below_drewN | apply below_drew1) | exact HB.out))) : w.heap.size ≤ gb101)); have n3_ := Aside0.mk ((by rw [hg]; exact (below_size (by repeat (first | (with_reducible first | exact HB.out | apply below_alloc | apply pw_below_drewN | apply below_drew1) | exact HB.out))) : w.heap.size ≤ gb101)); clear HB; have HB := n0_; have BK101 := n1_; have GW101 := n2_; have GE101 := n3_; clear n0_ n1_ n2_ n3_; clear hb hbox hg) | ((with_reducible refine gate_dst (N := 4) rfl ?_); (try (refine gate_guard (by rfl) ?_; dsimp only)); refine box_event ?hg (N := 4) ?hd (cs := #[.bool false, .string (⟨#[]⟩ : ByteArray)]) (t := 33) ?hr ?_; (case hd => rfl); (case hg => rfl); (case hr => first | (go_simp; done) | (go_simp; rfl)); intro gb102 hg w14 hbox hb; have n0_ := Aside0.mk (blk_below (g := gb101) (o := .cells #[.int .i64 a0_0, .slice A0_1 l0_1.length c0_1] 24 (0, 0)) (by (with_reducible repeat (first | refine blk_drewN ?_ _ | refine blk_drew ?_ | refine blk_alloc ?_ _)); exact BK101.out) hb); have n1_ := Aside0.mk (below_step (by repeat (first | (with_reducible first | exact HB.out | apply below_alloc | apply pw_below_drewN | apply below_drew1 | refine below_set ?_ GE101.out) | exact HB.out)) hb); have n2_ := Aside0.mk (hbox); have n3_ := Aside0.mk ((by rw [hg]; exact (below_size (by repeat (first | (with_reducible first | exact HB.out | apply below_alloc | apply pw_below_drewN | apply below_drew1 | refine below_set ?_ GE101.out) | exact HB.out))) : w.heap.size ≤ gb102)); have n4_ := Aside0.mk ((by rw [hg]; exact (below_size (by repeat (first | (with_reducible first | exact HB.out | apply below_alloc | apply pw_below_drewN | apply below_drew1 | refine below_set ?_ GE101.out) | exact HB.out))) : w.heap.size ≤ gb102)); have n5_ := Aside0.mk ((by rw [hg]; exact Nat.ne_of_lt (blk_lt (g := gb101) (o := .cells #[.int .i64 a0_0, .slice A0_1 l0_1.length c0_1] 24 (0, 0)) (by (with_reducible repeat (first | refine blk_drewN ?_ _ | refine blk_drew ?_ | refine blk_alloc ?_ _)); exact BK101.out)) : gb101 ≠ gb102)); have n6_ := Aside0.mk ((by rw [hg]; exact Nat.ne_of_gt (blk_lt (g := gb101) (o := .cells #[.int .i64 a0_0, .slice A0_1 l0_1.length c0_1] 24 (0, 0)) (by (with_reducible repeat (first | refine blk_drewN ?_ _ | refine blk_drew ?_ | refine blk_alloc ?_ _)); exact BK101.out)) : gb102 ≠ gb101)); clear BK101; clear HB; have BK101 := n0_; have HB := n1_; have BK102 := n2_; have GW102 := n3_; have GE102 := n4_; have NB101_102 := n5_; have NB102_101 := n6_; clear n0_ n1_ n2_ n3_ n4_ n5_ n6_; clear hb hbox hg; have hnb15 := NB101_102.out; have hnc15 := NB102_101.out; have hcz16_0 : w14.cell? ⟨gb101, 0, none⟩ = some (.int .i64 a0_0) := (blk_cell BK101.out 0).trans rfl; have hcz16_1 : w14.cell? ⟨gb101, 1, none⟩ = some (.slice A0_1 l0_1.length c0_1) := (blk_cell BK101.out 1).trans rfl; have hfz16_0 := blk_frozen BK101.out 0; have hfz16_1 := blk_frozen BK101.out 1) | ((with_reducible refine gate_callee (f := 34) rfl ?_); refine goesL_ (some 6) rfl rfl Try.func34 (by kernel_rfl) rfl #[.agg #[.int .i64 a0_0, .slice A0_1 l0_1.length c0_1]] rfl (by (try simp only [List.map_toArray, List.map_cons, List.map_nil]); first | done | rfl | (simp only [List.length_drop, List.length_take]; rfl)) ?_; (with_reducible refine (slabGood.calls a0_0 _ _ l0_1 true _ ?side1 ?side2 A3.out).mono ?_); (case side1 => repeat (first | exact (Kd.C_below HR0_1.out HB.out) | (with_reducible refine Kd.C_alloc ?_ _) | (with_reducible refine Kd.C_drewN ?_ _) | (with_reducible refine Kd.C_drew ?_))); (case side2 => exact HC0_1.out); rintro e w17 ⟨rfl, hb⟩; refine ⟨_, rfl, ?_⟩; have n0_ := Aside0.mk (blk_below (g := gb101) (o := .cells #[.int .i64 a0_0, .slice A0_1 l0_1.length c0_1] 24 (0, 0)) (by (with_reducible repeat (first | refine blk_drewN ?_ _ | refine blk_drew ?_ | refine blk_alloc ?_ _)); exact BK101.out) hb); have n1_ := Aside0.mk (blk_below (g := gb102) (o := .cells #[.bool false, .string (⟨#[]⟩ : ByteArray)] 33 (0, 0)) (by (with_reducible repeat (first | refine blk_drewN ?_ _ | refine blk_drew ?_ | refine blk_alloc ?_ _)); exact BK102.out) hb); have n2_ := Aside0.mk (below_step (by repeat (first | (with_reducible first | exact HB.out | apply below_alloc | apply pw_below_drewN | apply below_drew1 | refine below_set ?_ GE101.out | refine below_set ?_ GE102.out) | exact HB.out)) hb); clear BK101; clear BK102; clear HB; have BK101 := n0_; have BK102 := n1_; have HB := n2_; clear n0_ n1_ n2_; (try clear hb); (try clear hb2); (try clear hk); (try clear hi); have hcz18_0 : w17.cell? ⟨gb101, 0, none⟩ = some (.int .i64 a0_0) := (blk_cell BK101.out 0).trans rfl; have hcz18_1 : w17.cell? ⟨gb101, 1, none⟩ = some (.slice A0_1 l0_1.length c0_1) := (blk_cell BK101.out 1).trans rfl; have hfz18_0 := blk_frozen BK101.out 0; have hfz18_1 := blk_frozen BK101.out 1; have hcz19_0 : w17.cell? ⟨gb102, 0, none⟩ = some (.bool false) := (blk_cell BK102.out 0).trans rfl; have hcz19_1 : w17.cell? ⟨gb102, 1, none⟩ = some (.string (⟨#[]⟩ : ByteArray)) := (blk_cell BK102.out 1).trans rfl; have hfz19_0 := blk_frozen BK102.out 0; have hfz19_1 := blk_frozen BK102.out 1))
        refine bodyPost_ret (results_cell_row rfl _ _ gb102 33 #[.bool false, .string (⟨#[]⟩ : ByteArray)] (0, 0) _ rfl (by (with_reducible repeat (first | refine blk_drewN ?_ _ | refine blk_drew ?_ | refine blk_alloc ?_ _)); refine blk_put (cs := #[.bool false, .string (⟨#[]⟩ : ByteArray)]) ?_ 1 _ rfl; (with_reducible repeat (first | refine blk_drewN ?_ _ | refine blk_drew ?_ | refine blk_alloc ?_ _)); refine blk_put (cs := #[.bool false, .string (⟨#[]⟩ : ByteArray)]) ?_ 0 _ rfl; (with_reducible repeat (first | refine blk_drewN ?_ _ | refine blk_drew ?_ | refine blk_alloc ?_ _)); exact BK102.out) Try.underlying33 rfl (by kernel_rfl)) rfl ?_
        exact ⟨by first | rfl | (simp [errW_none, errW_some] <;> rfl) | (simp [*, errW_none, errW_some] <;> rfl), by repeat (first | (with_reducible first | exact HB.out | apply below_alloc | apply pw_below_drewN | apply below_drew1 | refine below_set ?_ GE101.out | refine below_set ?_ GE102.out) | exact HB.out)⟩
      · rw [if_neg c12] at H
        have c12b0 : decide ((l0_1.length : Int) ≤ a1) = false := decide_eq_false c12
        clear c12
        by_cases c20 : 0 ≤ a1
        · rw [if_pos c20] at H
          have c20b0 : decide (0 ≤ a1) = true := decide_eq_true c20
          clear c20
          by_cases c21 : a1 < (l0_1.length : Int)
          · rw [if_pos c21] at H
            have c21b0 : decide (a1 < (l0_1.length : Int)) = true := decide_eq_true c21
            clear c21
            simp only [Option.some.injEq, Prod.mk.injEq] at H
            obtain ⟨rfl, rfl⟩ := H
            go_enter Try.func39, Try.ntmps39
            go_wp2_with (first | ((with_reducible refine gate_dst (N := 2) rfl ?_); (try (refine gate_guard (by rfl) ?_; dsimp only)); refine box_event ?hg (N := 2) ?hd (cs := #[.int .i64 a0_0, .slice A0_1 l0_1.length c0_1]) (t := 24) ?hr ?_; (case hd => rfl); (case hg => rfl); (case hr => first | (go_simp; done) | (go_simp; rfl)); intro gb101 hg w22 hbox hb; have n0_ := Aside0.mk (below_step (by repeat (first | (with_reducible first | exact HB.out | apply below_alloc | apply pw_below_drewN | apply below_drew1) | exact HB.out)) hb); have n1_ := Aside0.mk (hbox); have n2_ := Aside0.mk ((by rw [hg]; exact (below_size (by repeat (first | (with_reducible first | exact HB.out | apply below_alloc | apply pw_below_drewN | apply below_drew1) | exact HB.out))) : w.heap.size ≤ gb101)); have n3_ := Aside0.mk ((by rw [hg]; exact (below_size (by repeat (first | (with_reducible first | exact HB.out | apply below_alloc | apply pw_below_drewN | apply below_drew1) | exact HB.out))) : w.heap.size ≤ gb101)); clear HB; have HB := n0_; have BK101 := n1_; have GW101 := n2_; have GE101 := n3_; clear n0_ n1_ n2_ n3_; clear hb hbox hg) | ((with_reducible refine gate_dst (N := 4) rfl ?_); (try (refine gate_guard (by rfl) ?_; dsimp only)); refine box_event ?hg (N := 4) ?hd (cs := #[.bool false, .string (⟨#[]⟩ : ByteArray)]) (t := 33) ?hr ?_; (case hd => rfl); (case hg => rfl); (case hr => first | (go_simp; done) | (go_simp; rfl)); intro gb102 hg w23 hbox hb; have n0_ := Aside0.mk (blk_below (g := gb101) (o := .cells #[.int .i64 a0_0, .slice A0_1 l0_1.length c0_1] 24 (0, 0)) (by (with_reducible repeat (first | refine blk_drewN ?_ _ | refine blk_drew ?_ | refine blk_alloc ?_ _)); exact BK101.out) hb); have n1_ := Aside0.mk (below_step (by repeat (first | (with_reducible first | exact HB.out | apply below_alloc | apply pw_below_drewN | apply below_drew1 | refine below_set ?_ GE101.out) | exact HB.out)) hb); have n2_ := Aside0.mk (hbox); have n3_ := Aside0.mk ((by rw [hg]; exact (below_size (by repeat (first | (with_reducible first | exact HB.out | apply below_alloc | apply pw_below_drewN | apply below_drew1 | refine below_set ?_ GE101.out) | exact HB.out))) : w.heap.size ≤ gb102)); have n4_ := Aside0.mk ((by rw [hg]; exact (below_size (by repeat (first | (with_reducible first | exact HB.out | apply below_alloc | apply pw_below_drewN | apply below_drew1 | refine below_set ?_ GE101.out) | exact HB.out))) : w.heap.size ≤ gb102)); have n5_ := Aside0.mk ((by rw [hg]; exact Nat.ne_of_lt (blk_lt (g := gb101) (o := .cells #[.int .i64 a0_0, .slice A0_1 l0_1.length c0_1] 24 (0, 0)) (by (with_reducible repeat (first | refine blk_drewN ?_ _ | refine blk_drew ?_ | refine blk_alloc ?_ _)); exact BK101.out)) : gb101 ≠ gb102)); have n6_ := Aside0.mk ((by rw [hg]; exact Nat.ne_of_gt (blk_lt (g := gb101) (o := .cells #[.int .i64 a0_0, .slice A0_1 l0_1.length c0_1] 24 (0, 0)) (by (with_reducible repeat (first | refine blk_drewN ?_ _ | refine blk_drew ?_ | refine blk_alloc ?_ _)); exact BK101.out)) : gb102 ≠ gb101)); clear BK101; clear HB; have BK101 := n0_; have HB := n1_; have BK102 := n2_; have GW102 := n3_; have GE102 := n4_; have NB101_102 := n5_; have NB102_101 := n6_; clear n0_ n1_ n2_ n3_ n4_ n5_ n6_; clear hb hbox hg; have hnb24 := NB101_102.out; have hnc24 := NB102_101.out; have hcz25_0 : w23.cell? ⟨gb101, 0, none⟩ = some (.int .i64 a0_0) := (blk_cell BK101.out 0).trans rfl; have hcz25_1 : w23.cell? ⟨gb101, 1, none⟩ = some (.slice A0_1 l0_1.length c0_1) := (blk_cell BK101.out 1).trans rfl; have hfz25_0 := blk_frozen BK101.out 0; have hfz25_1 := blk_frozen BK101.out 1) | ((with_reducible refine gate_callee (f := 34) rfl ?_); refine goesL_ (some 6) rfl rfl Try.func34 (by kernel_rfl) rfl #[.agg #[.int .i64 a0_0, .slice A0_1 l0_1.length c0_1]] rfl (by (try simp only [List.map_toArray, List.map_cons, List.map_nil]); first | done | rfl | (simp only [List.length_drop, List.length_take]; rfl)) ?_; (with_reducible refine (slabGood.calls a0_0 _ _ l0_1 true _ ?side1 ?side2 A3.out).mono ?_); (case side1 => repeat (first | exact (Kd.C_below HR0_1.out HB.out) | (with_reducible refine Kd.C_alloc ?_ _) | (with_reducible refine Kd.C_drewN ?_ _) | (with_reducible refine Kd.C_drew ?_))); (case side2 => exact HC0_1.out); rintro e w26 ⟨rfl, hb⟩; refine ⟨_, rfl, ?_⟩; have n0_ := Aside0.mk (blk_below (g := gb101) (o := .cells #[.int .i64 a0_0, .slice A0_1 l0_1.length c0_1] 24 (0, 0)) (by (with_reducible repeat (first | refine blk_drewN ?_ _ | refine blk_drew ?_ | refine blk_alloc ?_ _)); exact BK101.out) hb); have n1_ := Aside0.mk (blk_below (g := gb102) (o := .cells #[.bool false, .string (⟨#[]⟩ : ByteArray)] 33 (0, 0)) (by (with_reducible repeat (first | refine blk_drewN ?_ _ | refine blk_drew ?_ | refine blk_alloc ?_ _)); exact BK102.out) hb); have n2_ := Aside0.mk (below_step (by repeat (first | (with_reducible first | exact HB.out | apply below_alloc | apply pw_below_drewN | apply below_drew1 | refine below_set ?_ GE101.out | refine below_set ?_ GE102.out) | exact HB.out)) hb); clear BK101; clear BK102; clear HB; have BK101 := n0_; have BK102 := n1_; have HB := n2_; clear n0_ n1_ n2_; (try clear hb); (try clear hb2); (try clear hk); (try clear hi); have hcz27_0 : w26.cell? ⟨gb101, 0, none⟩ = some (.int .i64 a0_0) := (blk_cell BK101.out 0).trans rfl; have hcz27_1 : w26.cell? ⟨gb101, 1, none⟩ = some (.slice A0_1 l0_1.length c0_1) := (blk_cell BK101.out 1).trans rfl; have hfz27_0 := blk_frozen BK101.out 0; have hfz27_1 := blk_frozen BK101.out 1; have p104 : 0 ≤ (a1 : Int) := of_decide_eq_true (by first | (with_reducible assumption) | assumption); have q104 : a1 < (l0_1.length : Int) := of_decide_eq_true (by first | (with_reducible assumption) | assumption); obtain ⟨ad104, e104, hx104_0, hx104_1⟩ := at_T33 HR0_1.out a1 p104 q104; cases e104; replace hx104_0 := (HB.out.cell (World.block_lt_of_cell? w _ hx104_0)).trans hx104_0; replace hx104_1 := (HB.out.cell (World.block_lt_of_cell? w _ hx104_1)).trans hx104_1; replace p104 := eq_true p104; replace q104 := eq_true q104; have hcz28_0 : w26.cell? ⟨gb102, 0, none⟩ = some (.bool false) := (blk_cell BK102.out 0).trans rfl; have hcz28_1 : w26.cell? ⟨gb102, 1, none⟩ = some (.string (⟨#[]⟩ : ByteArray)) := (blk_cell BK102.out 1).trans rfl; have hfz28_0 := blk_frozen BK102.out 0; have hfz28_1 := blk_frozen BK102.out 1))
            refine bodyPost_ret (results_cell_row rfl _ _ gb102 33 #[.bool ((rd_T33 l0_1 a1).f0), .string ((rd_T33 l0_1 a1).f1)] (0, 0) _ rfl (by (with_reducible repeat (first | refine blk_drewN ?_ _ | refine blk_drew ?_ | refine blk_alloc ?_ _)); refine blk_put (cs := #[.bool ((rd_T33 l0_1 a1).f0), .string (⟨#[]⟩ : ByteArray)]) ?_ 1 _ rfl; (with_reducible repeat (first | refine blk_drewN ?_ _ | refine blk_drew ?_ | refine blk_alloc ?_ _)); refine blk_put (cs := #[.bool false, .string (⟨#[]⟩ : ByteArray)]) ?_ 0 _ rfl; (with_reducible repeat (first | refine blk_drewN ?_ _ | refine blk_drew ?_ | refine blk_alloc ?_ _)); exact BK102.out) Try.underlying33 rfl (by kernel_rfl)) rfl ?_
            exact ⟨by first | rfl | (simp [errW_none, errW_some] <;> rfl) | (simp [*, errW_none, errW_some] <;> rfl), by repeat (first | (with_reducible first | exact HB.out | apply below_alloc | apply pw_below_drewN | apply below_drew1 | refine below_set ?_ GE101.out | refine below_set ?_ GE102.out) | exact HB.out)⟩
          · rw [if_neg c21] at H
            exact absurd H (by simp)
        · rw [if_neg c20] at H
          exact absurd H (by simp)
  · replace c4 := Bool.eq_false_iff.mpr c4
    subst c4
    have H1 : (some (false, (⟨#[]⟩ : ByteArray))) = some (r1, r2) := by rw [if_neg (show ¬ (false = true) by decide)] at H; exact H
    clear H
    have H := H1
    clear H1
    simp only [Option.some.injEq, Prod.mk.injEq] at H
    obtain ⟨rfl, rfl⟩ := H
    go_enter Try.func39, Try.ntmps39
    go_wp2_with (first | ((with_reducible refine gate_dst (N := 2) rfl ?_); (try (refine gate_guard (by rfl) ?_; dsimp only)); refine box_event ?hg (N := 2) ?hd (cs := #[.int .i64 a0_0, .slice A0_1 l0_1.length c0_1]) (t := 24) ?hr ?_; (case hd => rfl); (case hg => rfl); (case hr => first | (go_simp; done) | (go_simp; rfl)); intro gb101 hg w29 hbox hb; have n0_ := Aside0.mk (below_step (by repeat (first | (with_reducible first | exact HB.out | apply below_alloc | apply pw_below_drewN | apply below_drew1) | exact HB.out)) hb); have n1_ := Aside0.mk (hbox); have n2_ := Aside0.mk ((by rw [hg]; exact (below_size (by repeat (first | (with_reducible first | exact HB.out | apply below_alloc | apply pw_below_drewN | apply below_drew1) | exact HB.out))) : w.heap.size ≤ gb101)); have n3_ := Aside0.mk ((by rw [hg]; exact (below_size (by repeat (first | (with_reducible first | exact HB.out | apply below_alloc | apply pw_below_drewN | apply below_drew1) | exact HB.out))) : w.heap.size ≤ gb101)); clear HB; have HB := n0_; have BK101 := n1_; have GW101 := n2_; have GE101 := n3_; clear n0_ n1_ n2_ n3_; clear hb hbox hg) | ((with_reducible refine gate_dst (N := 4) rfl ?_); (try (refine gate_guard (by rfl) ?_; dsimp only)); refine box_event ?hg (N := 4) ?hd (cs := #[.bool false, .string (⟨#[]⟩ : ByteArray)]) (t := 33) ?hr ?_; (case hd => rfl); (case hg => rfl); (case hr => first | (go_simp; done) | (go_simp; rfl)); intro gb102 hg w30 hbox hb; have n0_ := Aside0.mk (blk_below (g := gb101) (o := .cells #[.int .i64 a0_0, .slice A0_1 l0_1.length c0_1] 24 (0, 0)) (by (with_reducible repeat (first | refine blk_drewN ?_ _ | refine blk_drew ?_ | refine blk_alloc ?_ _)); exact BK101.out) hb); have n1_ := Aside0.mk (below_step (by repeat (first | (with_reducible first | exact HB.out | apply below_alloc | apply pw_below_drewN | apply below_drew1 | refine below_set ?_ GE101.out) | exact HB.out)) hb); have n2_ := Aside0.mk (hbox); have n3_ := Aside0.mk ((by rw [hg]; exact (below_size (by repeat (first | (with_reducible first | exact HB.out | apply below_alloc | apply pw_below_drewN | apply below_drew1 | refine below_set ?_ GE101.out) | exact HB.out))) : w.heap.size ≤ gb102)); have n4_ := Aside0.mk ((by rw [hg]; exact (below_size (by repeat (first | (with_reducible first | exact HB.out | apply below_alloc | apply pw_below_drewN | apply below_drew1 | refine below_set ?_ GE101.out) | exact HB.out))) : w.heap.size ≤ gb102)); have n5_ := Aside0.mk ((by rw [hg]; exact Nat.ne_of_lt (blk_lt (g := gb101) (o := .cells #[.int .i64 a0_0, .slice A0_1 l0_1.length c0_1] 24 (0, 0)) (by (with_reducible repeat (first | refine blk_drewN ?_ _ | refine blk_drew ?_ | refine blk_alloc ?_ _)); exact BK101.out)) : gb101 ≠ gb102)); have n6_ := Aside0.mk ((by rw [hg]; exact Nat.ne_of_gt (blk_lt (g := gb101) (o := .cells #[.int .i64 a0_0, .slice A0_1 l0_1.length c0_1] 24 (0, 0)) (by (with_reducible repeat (first | refine blk_drewN ?_ _ | refine blk_drew ?_ | refine blk_alloc ?_ _)); exact BK101.out)) : gb102 ≠ gb101)); clear BK101; clear HB; have BK101 := n0_; have HB := n1_; have BK102 := n2_; have GW102 := n3_; have GE102 := n4_; have NB101_102 := n5_; have NB102_101 := n6_; clear n0_ n1_ n2_ n3_ n4_ n5_ n6_; clear hb hbox hg; have hnb31 := NB101_102.out; have hnc31 := NB102_101.out; have hcz32_0 : w30.cell? ⟨gb101, 0, none⟩ = some (.int .i64 a0_0) := (blk_cell BK101.out 0).trans rfl; have hcz32_1 : w30.cell? ⟨gb101, 1, none⟩ = some (.slice A0_1 l0_1.length c0_1) := (blk_cell BK101.out 1).trans rfl; have hfz32_0 := blk_frozen BK101.out 0; have hfz32_1 := blk_frozen BK101.out 1) | ((with_reducible refine gate_callee (f := 34) rfl ?_); refine goesL_ (some 6) rfl rfl Try.func34 (by kernel_rfl) rfl #[.agg #[.int .i64 a0_0, .slice A0_1 l0_1.length c0_1]] rfl (by (try simp only [List.map_toArray, List.map_cons, List.map_nil]); first | done | rfl | (simp only [List.length_drop, List.length_take]; rfl)) ?_; (with_reducible refine (slabGood.calls a0_0 _ _ l0_1 false _ ?side1 ?side2 A3.out).mono ?_); (case side1 => repeat (first | exact (Kd.C_below HR0_1.out HB.out) | (with_reducible refine Kd.C_alloc ?_ _) | (with_reducible refine Kd.C_drewN ?_ _) | (with_reducible refine Kd.C_drew ?_))); (case side2 => exact HC0_1.out); rintro e w33 ⟨rfl, hb⟩; refine ⟨_, rfl, ?_⟩; have n0_ := Aside0.mk (blk_below (g := gb101) (o := .cells #[.int .i64 a0_0, .slice A0_1 l0_1.length c0_1] 24 (0, 0)) (by (with_reducible repeat (first | refine blk_drewN ?_ _ | refine blk_drew ?_ | refine blk_alloc ?_ _)); exact BK101.out) hb); have n1_ := Aside0.mk (blk_below (g := gb102) (o := .cells #[.bool false, .string (⟨#[]⟩ : ByteArray)] 33 (0, 0)) (by (with_reducible repeat (first | refine blk_drewN ?_ _ | refine blk_drew ?_ | refine blk_alloc ?_ _)); exact BK102.out) hb); have n2_ := Aside0.mk (below_step (by repeat (first | (with_reducible first | exact HB.out | apply below_alloc | apply pw_below_drewN | apply below_drew1 | refine below_set ?_ GE101.out | refine below_set ?_ GE102.out) | exact HB.out)) hb); clear BK101; clear BK102; clear HB; have BK101 := n0_; have BK102 := n1_; have HB := n2_; clear n0_ n1_ n2_; (try clear hb); (try clear hb2); (try clear hk); (try clear hi); have hcz34_0 : w33.cell? ⟨gb102, 0, none⟩ = some (.bool false) := (blk_cell BK102.out 0).trans rfl; have hcz34_1 : w33.cell? ⟨gb102, 1, none⟩ = some (.string (⟨#[]⟩ : ByteArray)) := (blk_cell BK102.out 1).trans rfl; have hfz34_0 := blk_frozen BK102.out 0; have hfz34_1 := blk_frozen BK102.out 1))
    refine bodyPost_ret (results_cell_row rfl _ _ gb102 33 #[.bool false, .string (⟨#[]⟩ : ByteArray)] (0, 0) _ rfl (by (with_reducible repeat (first | refine blk_drewN ?_ _ | refine blk_drew ?_ | refine blk_alloc ?_ _)); refine blk_put (cs := #[.bool false, .string (⟨#[]⟩ : ByteArray)]) ?_ 1 _ rfl; (with_reducible repeat (first | refine blk_drewN ?_ _ | refine blk_drew ?_ | refine blk_alloc ?_ _)); refine blk_put (cs := #[.bool false, .string (⟨#[]⟩ : ByteArray)]) ?_ 0 _ rfl; (with_reducible repeat (first | refine blk_drewN ?_ _ | refine blk_drew ?_ | refine blk_alloc ?_ _)); exact BK102.out) Try.underlying33 rfl (by kernel_rfl)) rfl ?_
    exact ⟨by first | rfl | (simp [errW_none, errW_some] <;> rfl) | (simp [*, errW_none, errW_some] <;> rfl), by repeat (first | (with_reducible first | exact HB.out | apply below_alloc | apply pw_below_drewN | apply below_drew1 | refine below_set ?_ GE101.out | refine below_set ?_ GE102.out) | exact HB.out)⟩

end Go.Proofs.Ytfjmnaobfbmllaa.M

namespace Go.Proofs.Ytfjmnaobfbmllaa.M
open Go.RowKit Go.Proofs.YtfjmnaobfbmllaaW.PrintWords Go.Proofs.YtfjmnaobfbmllaaW.PrintLast Go.Proofs.YtfjmnaobfbmllaaW.PrintMore
set_option linter.unusedVariables false
set_option linter.unusedSimpArgs false

def vacS (x : S33) : Bool := !x.f0
theorem isVacant_any (x : S33) (w : World) : Calls Try.prog 84 #[.agg #[.bool x.f0, .string x.f1]] w fun e w' => e = .returned (.bool (vacS x)) ∧ Below w.heap.size w w' := by
  have hu33 := Try.underlying33
  unfold vacS
  go_enter Try.func84, Try.ntmps84
  go_wp2
  go_ret
  exact ⟨rfl, by first | exact Below.refl _ _ | exact below_alloc (Below.refl _ _) _⟩

set_option maxHeartbeats 2000000 in
theorem index_vacant (A : Option Addr) (c : Nat) (l : List S33) (w : World) (hr : Kd.C k33 w A l.length l) (hc : l.length ≤ c) :
    Calls Try.prog 83 #[.slice A l.length c, .func (.func 84) #[] #[]] w fun e w' => e = .returned (.int .i64 (idxOf vacS l)) ∧ Below w.heap.size w w' := by
  have hu33 := Try.underlying33
  have hmax := Kd.C_max hr
  have HR := Aside0.mk hr
  have HC := Aside0.mk hc
  clear hr hc
  have eg : ∀ args w, (callFunc 84 args).run Try.prog w = .ok (.enter 84 args) w := enters_ Try.func84 (by kernel_rfl) rfl
  go_enter Try.func83, Try.ntmps83
  go_wp2
  go_loopg [5, 8] l.length (fun gg _ s8 wr => ∃ kk : Nat, kk ≤ l.length ∧ l.length - kk ≤ gg ∧ s8 = .int .i64 kk ∧ Aside0 (Below w.heap.size w wr) ∧ Aside0 (∀ j (h : j < l.length), j < kk → vacS l[j] = false))
  case atStart => exact ⟨0, Nat.zero_le _, by omega, rfl, ⟨Below.refl _ w⟩, ⟨fun j _ hj => absurd hj (Nat.not_lt_zero _)⟩⟩
  case round =>
    obtain ⟨kk, hkk, hg, rfl, HB, HA⟩ := hrel
    by_cases hlt : kk < l.length
    · have p0 : 0 ≤ (kk : Int) := by omega
      have q0 : (kk : Int) < (l.length : Int) := by omega
      obtain ⟨ad, e0, hx0, hx1⟩ := at_T33 HR.out (kk : Int) p0 q0
      cases e0
      replace hx0 := (HB.out.cell (World.block_lt_of_cell? w _ hx0)).trans hx0
      replace hx1 := (HB.out.cell (World.block_lt_of_cell? w _ hx1)).trans hx1
      have HX : Aside0 (rd_T33 l (kk : Int) = l[kk]) := ⟨by simp [rd_T33, List.getD_eq_getElem?_getD, List.getElem?_eq_getElem hlt]⟩
      generalize rd_T33 l (kk : Int) = x at hx0 hx1 HX
      have hcall := isVacant_any x wr
      rw [Int.toNat_natCast] at hx0 hx1
      cases hq : vacS x with
      | true =>
        rw [hq] at hcall
        go_wp2_with (go_at_call 84; refine hcall.mono ?_; rintro e w' ⟨rfl, hb'⟩)
        go_ret
        refine ⟨?_, below_then HB.out HB.out.size hb'⟩
        rw [idxOf_hit vacS l kk hlt (by rw [← HX.out]; exact hq) (fun j h => HA.out j (by omega) h)]; rfl
      | false =>
        rw [hq] at hcall
        go_wp2_with (go_at_call 84; refine hcall.mono ?_; rintro e w' ⟨rfl, hb'⟩)
        go_roundg (l.length - (kk + 1))
        case measure => omega
        case rel =>
          refine ⟨kk + 1, by omega, by omega, by go_num, ⟨below_then HB.out HB.out.size hb'⟩, ⟨fun j h hj => ?_⟩⟩
          by_cases e : j = kk
          · subst e
            rw [← HX.out]; exact hq
          · exact HA.out j h (by omega)
    · have hltz : ¬ (kk : Int) < (l.length : Int) := by omega
      go_wp2
      go_ret
      refine ⟨?_, HB.out⟩
      rw [idxOf_miss vacS l (fun j h => HA.out j h (by omega))]; rfl


def slices_IndexVacant.f (l : List S33) : Option Int := some (idxOf vacS l)
theorem slices_IndexVacant.calls (A : Option Addr) (c : Nat) (l : List S33) (r : Int) (w : World) (hr : Kd.C k33 w A l.length l) (hc : l.length ≤ c) (h : slices_IndexVacant.f l = some r) :
    Calls Try.prog 83 #[.slice A l.length c, .func (.func 84) #[] #[]] w fun e w' => e = .returned (.int .i64 r) ∧ Below w.heap.size w w' := by
  obtain rfl := Option.some.inj h
  exact index_vacant A c l w hr hc
end Go.Proofs.Ytfjmnaobfbmllaa.M

namespace Go.Proofs.Ytfjmnaobfbmllaa.M
open Go.RowKit Go.Proofs.YtfjmnaobfbmllaaW.PrintWords Go.Proofs.YtfjmnaobfbmllaaW.PrintLast Go.Proofs.YtfjmnaobfbmllaaW.PrintMore
attribute [local go_sem] max2_int min2_int max_two min_two max_three min_three max_four min_four   -- for this text's walks alone
set_option linter.unusedVariables false
set_option linter.unusedSimpArgs false

/-! ### slab_Vacant: function 43 -/
mutual
def slab_Vacant.j0 : Nat → Int → Bool → Int → List (S33) → Option (Int × Int)
  | 0, _, _, _, _ => none
  | k + 1, x1, x8, x102000, x102001 => if x8 = true then (some (0, 1)) else (if x1 > 200 then (some (0, 5)) else ((slices_IndexVacant.f x102001).bind fun t103 => (if t103 < 0 then (slab_Vacant.j1 k x1 (x102001.length : Int) x102000 x102001) else (slab_Vacant.j1 k x1 t103 x102000 x102001))))
def slab_Vacant.j1 : Nat → Int → Int → Int → List (S33) → Option (Int × Int)
  | 0, _, _, _, _ => none
  | k + 1, x1, x6, x102000, x102001 => if x6 = (x102001.length : Int) then (if x6 ≥ 32 then (some (0, 22)) else ((slabSize0.f x102001).bind fun t104 => (if (wrap64 (t104 + (wrap64 (x1 + 1)))) > 240 then (some (0, 22)) else (some (x6, 0))))) else (if x6 ≥ 32 then (some (0, 22)) else ((slabSize0.f x102001).bind fun t105 => (if (wrap64 (t105 + x1)) > 240 then (some (0, 22)) else (some (x6, 0)))))
end
def slab_Vacant.f (k : Nat) (a0_0 : Int) (l0_1 : List (S33)) (a1 : Int) : Option (Int × Int) := (slabGood.f a0_0 l0_1).bind fun t102 => (if t102 = true then (slab_Vacant.j0 k a1 (decide (a1 < 0)) a0_0 l0_1) else (slab_Vacant.j0 k a1 true a0_0 l0_1))
set_option maxHeartbeats 8000000 in
set_option maxRecDepth 100000 in
theorem slab_Vacant.calls (k : Nat) (a0_0 : Int) (A0_1 : Option Addr) (c0_1 : Nat) (l0_1 : List (S33)) (a1 : Int) (r1 : Int) (r2 : Int) (w : World) (hr0_1 : Kd.C k33 w A0_1 l0_1.length l0_1) (hc0_1 : l0_1.length ≤ c0_1) (h : slab_Vacant.f k a0_0 l0_1 a1 = some (r1, r2)) :
    Calls Try.prog 43 #[.agg #[.int .i64 a0_0, .slice A0_1 l0_1.length c0_1], .int .i64 a1] w fun e w' => e = .returned (.tuple #[.int .i64 r1, .int .i64 r2]) ∧ Below w.heap.size w w' := by
  have hu24 := Try.underlying24
  have HR0_1 := Aside0.mk hr0_1
  have HC0_1 := Aside0.mk hc0_1
  clear hr0_1 hc0_1
  have HB := Aside0.mk (Below.refl w.heap.size w)
  have H : ((slabGood.f a0_0 l0_1).bind fun t102 => (if t102 = true then (slab_Vacant.j0 k a1 (decide (a1 < 0)) a0_0 l0_1) else (slab_Vacant.j0 k a1 true a0_0 l0_1))) = some (r1, r2) := h
  clear h
  have HC3 := Aside0.mk H
  clear H
  go_enter Try.func43, Try.ntmps43
  go_upto_region 1 with (first | ((with_reducible refine gate_dst (N := 2) rfl ?_); refine box_event ?hg (N := 2) ?hd (cs := #[.int .i64 a0_0, .slice A0_1 l0_1.length c0_1]) (t := 24) ?hr ?_; (case hd => rfl); (case hg => rfl); (case hr => first | (go_simp; done) | (go_simp; rfl)); intro gb101 hg w4 hbox hb; have n0_ := Aside0.mk (below_step (by repeat (first | (with_reducible first | exact HB.out | apply below_alloc | apply pw_below_drewN | apply below_drew1) | exact HB.out)) hb); have n1_ := Aside0.mk (hbox); have n2_ := Aside0.mk ((by rw [hg]; exact (below_size (by repeat (first | (with_reducible first | exact HB.out | apply below_alloc | apply pw_below_drewN | apply below_drew1) | exact HB.out))) : w.heap.size ≤ gb101)); have n3_ := Aside0.mk ((by rw [hg]; exact (below_size (by repeat (first | (with_reducible first | exact HB.out | apply below_alloc | apply pw_below_drewN | apply below_drew1) | exact HB.out))) : w.heap.size ≤ gb101)); clear HB; have HB := n0_; have BK101 := n1_; have GW101 := n2_; have GE101 := n3_; clear n0_ n1_ n2_ n3_; clear hb hbox hg))
  (try simp only [Act.put, List.setIfInBounds_toArray, List.set_cons_zero, List.set_cons_succ])
  go_cut [8] (fun v8 wc => ∃ (kq : Nat) (x8_2 : Bool), v8 = .bool x8_2 ∧ Aside0 (slab_Vacant.j0 kq a1 x8_2 a0_0 l0_1 = some (r1, r2)) ∧ Aside0 (kq ≤ k) ∧ Aside0 (wc.heap[gb101]? = some (.cells #[.int .i64 a0_0, (.slice A0_1 l0_1.length c0_1)] 24 (0, 0))) ∧ Aside0 (Below w.heap.size w wc))
  case first =>
    have H := HC3.out
    clear HC3
    replace H := Option.bind_eq_some_iff.mp H
    obtain ⟨t102, A50, H⟩ := H
    replace H : (if t102 = true then (slab_Vacant.j0 k a1 (decide (a1 < 0)) a0_0 l0_1) else (slab_Vacant.j0 k a1 true a0_0 l0_1)) = some (r1, r2) := H
    have A5 := Aside0.mk A50
    clear A50
    by_cases c6 : t102 = true
    · subst c6
      have H1 : (slab_Vacant.j0 k a1 (decide (a1 < 0)) a0_0 l0_1) = some (r1, r2) := by rw [if_pos rfl] at H; exact H
      clear H
      have H := H1
      clear H1
      have H' := Aside0.mk H
      clear H
      have hcz7_0 : w4.cell? ⟨gb101, 0, none⟩ = some (.int .i64 a0_0) := (blk_cell BK101.out 0).trans rfl
      have hcz7_1 : w4.cell? ⟨gb101, 1, none⟩ = some (.slice A0_1 l0_1.length c0_1) := (blk_cell BK101.out 1).trans rfl
      have hfz7_0 := blk_frozen BK101.out 0
      have hfz7_1 := blk_frozen BK101.out 1
      go_wp2_with (first | ((with_reducible refine gate_callee (f := 34) rfl ?_); refine goesL_ (some 10) rfl rfl Try.func34 (by kernel_rfl) rfl #[.agg #[.int .i64 a0_0, .slice A0_1 l0_1.length c0_1]] rfl (by (try simp only [List.map_toArray, List.map_cons, List.map_nil]); first | done | rfl | (simp only [List.length_drop, List.length_take]; rfl)) ?_; (with_reducible refine (slabGood.calls a0_0 _ _ l0_1 true _ ?side1 ?side2 A5.out).mono ?_); (case side1 => repeat (first | exact (Kd.C_below HR0_1.out HB.out) | (with_reducible refine Kd.C_alloc ?_ _) | (with_reducible refine Kd.C_drewN ?_ _) | (with_reducible refine Kd.C_drew ?_))); (case side2 => exact HC0_1.out); rintro e w8 ⟨rfl, hb⟩; refine ⟨_, rfl, ?_⟩; have n0_ := Aside0.mk (blk_below (g := gb101) (o := .cells #[.int .i64 a0_0, .slice A0_1 l0_1.length c0_1] 24 (0, 0)) (by (with_reducible repeat (first | refine blk_drewN ?_ _ | refine blk_drew ?_ | refine blk_alloc ?_ _)); exact BK101.out) hb); have n1_ := Aside0.mk (below_step (by repeat (first | (with_reducible first | exact HB.out | apply below_alloc | apply pw_below_drewN | apply below_drew1 | refine below_set ?_ GE101.out) | exact HB.out)) hb); clear BK101; clear HB; have BK101 := n0_; have HB := n1_; clear n0_ n1_; (try clear hb); (try clear hb2); (try clear hk); (try clear hi)))
      go_meet
      case rel => exact ⟨_, (decide (a1 < 0)), (by first | rfl | (simp; done) | (simp [*]; done)), H', ⟨by first | omega | exact Nat.le_refl _⟩, ⟨by (with_reducible repeat (first | refine blk_drewN ?_ _ | refine blk_drew ?_ | refine blk_alloc ?_ _)); exact BK101.out⟩, ⟨by repeat (first | (with_reducible first | exact HB.out | apply below_alloc | apply pw_below_drewN | apply below_drew1 | refine below_set ?_ GE101.out) | exact HB.out)⟩⟩
    · replace c6 := Bool.eq_false_iff.mpr c6
      subst c6
      have H1 : (slab_Vacant.j0 k a1 true a0_0 l0_1) = some (r1, r2) := by rw [if_neg (show ¬ (false = true) by decide)] at H; exact H
      clear H
      have H := H1
      clear H1
      have H' := Aside0.mk H
      clear H
      have hcz9_0 : w4.cell? ⟨gb101, 0, none⟩ = some (.int .i64 a0_0) := (blk_cell BK101.out 0).trans rfl
      have hcz9_1 : w4.cell? ⟨gb101, 1, none⟩ = some (.slice A0_1 l0_1.length c0_1) := (blk_cell BK101.out 1).trans rfl
      have hfz9_0 := blk_frozen BK101.out 0
      have hfz9_1 := blk_frozen BK101.out 1
      go_wp2_with (first | ((with_reducible refine gate_callee (f := 34) rfl ?_); refine goesL_ (some 10) rfl rfl Try.func34 (by kernel_rfl) rfl #[.agg #[.int .i64 a0_0, .slice A0_1 l0_1.length c0_1]] rfl (by (try simp only [List.map_toArray, List.map_cons, List.map_nil]); first | done | rfl | (simp only [List.length_drop, List.length_take]; rfl)) ?_; (with_reducible refine (slabGood.calls a0_0 _ _ l0_1 false _ ?side1 ?side2 A5.out).mono ?_); (case side1 => repeat (first | exact (Kd.C_below HR0_1.out HB.out) | (with_reducible refine Kd.C_alloc ?_ _) | (with_reducible refine Kd.C_drewN ?_ _) | (with_reducible refine Kd.C_drew ?_))); (case side2 => exact HC0_1.out); rintro e w10 ⟨rfl, hb⟩; refine ⟨_, rfl, ?_⟩; have n0_ := Aside0.mk (blk_below (g := gb101) (o := .cells #[.int .i64 a0_0, .slice A0_1 l0_1.length c0_1] 24 (0, 0)) (by (with_reducible repeat (first | refine blk_drewN ?_ _ | refine blk_drew ?_ | refine blk_alloc ?_ _)); exact BK101.out) hb); have n1_ := Aside0.mk (below_step (by repeat (first | (with_reducible first | exact HB.out | apply below_alloc | apply pw_below_drewN | apply below_drew1 | refine below_set ?_ GE101.out) | exact HB.out)) hb); clear BK101; clear HB; have BK101 := n0_; have HB := n1_; clear n0_ n1_; (try clear hb); (try clear hb2); (try clear hk); (try clear hi)))
      go_meet
      case rel => exact ⟨_, (true), (by first | rfl | (simp; done) | (simp [*]; done)), H', ⟨by first | omega | exact Nat.le_refl _⟩, ⟨by (with_reducible repeat (first | refine blk_drewN ?_ _ | refine blk_drew ?_ | refine blk_alloc ?_ _)); exact BK101.out⟩, ⟨by repeat (first | (with_reducible first | exact HB.out | apply below_alloc | apply pw_below_drewN | apply below_drew1 | refine below_set ?_ GE101.out) | exact HB.out)⟩⟩
  case rest =>
    clear HC3
    try clear p2
    try clear c3
    try clear c4
    try clear c6
    try clear hcz7_0
    try clear hcz7_1
    try clear hcz9_0
    try clear hcz9_1
    try clear hfz7_0
    try clear hfz7_1
    try clear hfz9_0
    try clear hfz9_1
    obtain ⟨kq, x8_2, rfl, HA, HJ2, BK101, HB⟩ := hcut
    cases kq with
    | zero => exact absurd HA.out (by simp [slab_Vacant.j0])
    | succ kj2 =>
      have H := HA.out
      clear HA
      simp only [slab_Vacant.j0] at H
      by_cases c11 : x8_2 = true
      · subst c11
        have H1 : (some (0, 1)) = some (r1, r2) := by rw [if_pos rfl] at H; exact H
        clear H
        have H := H1
        clear H1
        simp only [Option.some.injEq, Prod.mk.injEq] at H
        obtain ⟨rfl, rfl⟩ := H
        go_wp2
        go_ret2
        exact ⟨by first | rfl | (simp [errW_none, errW_some] <;> rfl) | (simp [*, errW_none, errW_some] <;> rfl), by repeat (first | (with_reducible first | exact HB.out | apply below_alloc | apply pw_below_drewN | apply below_drew1 | refine below_set ?_ GE101.out) | exact HB.out)⟩
      · replace c11 := Bool.eq_false_iff.mpr c11
        subst c11
        have H1 : (if a1 > 200 then (some (0, 5)) else ((slices_IndexVacant.f l0_1).bind fun t103 => (if t103 < 0 then (slab_Vacant.j1 kj2 a1 (l0_1.length : Int) a0_0 l0_1) else (slab_Vacant.j1 kj2 a1 t103 a0_0 l0_1)))) = some (r1, r2) := by rw [if_neg (show ¬ (false = true) by decide)] at H; exact H
        clear H
        have H := H1
        clear H1
        by_cases c12 : a1 > 200
        · rw [if_pos c12] at H
          have c12b0 : decide (200 < a1) = true := decide_eq_true c12
          clear c12
          simp only [Option.some.injEq, Prod.mk.injEq] at H
          obtain ⟨rfl, rfl⟩ := H
          go_wp2
          go_ret2
          exact ⟨by first | rfl | (simp [errW_none, errW_some] <;> rfl) | (simp [*, errW_none, errW_some] <;> rfl), by repeat (first | (with_reducible first | exact HB.out | apply below_alloc | apply pw_below_drewN | apply below_drew1 | refine below_set ?_ GE101.out) | exact HB.out)⟩
        · rw [if_neg c12] at H
          have c12b0 : decide (200 < a1) = false := decide_eq_false c12
          clear c12
          replace H := Option.bind_eq_some_iff.mp H
          obtain ⟨t103, A130, H⟩ := H
          replace H : (if t103 < 0 then (slab_Vacant.j1 kj2 a1 (l0_1.length : Int) a0_0 l0_1) else (slab_Vacant.j1 kj2 a1 t103 a0_0 l0_1)) = some (r1, r2) := H
          have A13 := Aside0.mk A130
          clear A130
          have HC14 := Aside0.mk H
          clear H
          have hcz15_0 : wc.cell? ⟨gb101, 0, none⟩ = some (.int .i64 a0_0) := (blk_cell BK101.out 0).trans rfl
          have hcz15_1 : wc.cell? ⟨gb101, 1, none⟩ = some (.slice A0_1 l0_1.length c0_1) := (blk_cell BK101.out 1).trans rfl
          have hfz15_0 := blk_frozen BK101.out 0
          have hfz15_1 := blk_frozen BK101.out 1
          go_upto_if 23 with (first | ((with_reducible refine gate_callee (f := 83) rfl ?_); refine goesL_ (some 21) rfl rfl Try.func83 (by kernel_rfl) rfl #[.slice A0_1 l0_1.length c0_1, .func (.func 84) #[] #[]] rfl (by (try simp only [List.map_toArray, List.map_cons, List.map_nil]); first | done | rfl | (simp only [List.length_drop, List.length_take]; rfl)) ?_; (with_reducible refine (slices_IndexVacant.calls _ _ l0_1 t103 _ ?side1 ?side2 A13.out).mono ?_); (case side1 => repeat (first | exact (Kd.C_below HR0_1.out HB.out) | (with_reducible refine Kd.C_alloc ?_ _) | (with_reducible refine Kd.C_drewN ?_ _) | (with_reducible refine Kd.C_drew ?_))); (case side2 => exact HC0_1.out); rintro e w16 ⟨rfl, hb⟩; refine ⟨_, rfl, ?_⟩; have n0_ := Aside0.mk (blk_below (g := gb101) (o := .cells #[.int .i64 a0_0, .slice A0_1 l0_1.length c0_1] 24 (0, 0)) (by (with_reducible repeat (first | refine blk_drewN ?_ _ | refine blk_drew ?_ | refine blk_alloc ?_ _)); exact BK101.out) hb); have n1_ := Aside0.mk (below_step (by repeat (first | (with_reducible first | exact HB.out | apply below_alloc | apply pw_below_drewN | apply below_drew1 | refine below_set ?_ GE101.out) | exact HB.out)) hb); clear BK101; clear HB; have BK101 := n0_; have HB := n1_; clear n0_ n1_; (try clear hb); (try clear hb2); (try clear hk); (try clear hi)))
          (try simp only [Act.put, List.setIfInBounds_toArray, List.set_cons_zero, List.set_cons_succ])
          go_cut [6] (fun v6 wc => ∃ (kq : Nat) (x6_13 : Int), v6 = .int .i64 x6_13 ∧ Aside0 (slab_Vacant.j1 kq a1 x6_13 a0_0 l0_1 = some (r1, r2)) ∧ Aside0 (kq ≤ kj2) ∧ Aside0 (wc.heap[gb101]? = some (.cells #[.int .i64 a0_0, (.slice A0_1 l0_1.length c0_1)] 24 (0, 0))) ∧ Aside0 (Below w.heap.size w wc))
          case first =>
            have H := HC14.out
            clear HC14
            by_cases c17 : t103 < 0
            · rw [if_pos c17] at H
              have c17b0 : decide (t103 < 0) = true := decide_eq_true c17
              clear c17
              (first | rw [c17b0] | (simp only [i64_w, i32_w]; rw [c17b0]) | skip)
              have H' := Aside0.mk H
              clear H
              have hcz18_0 : w16.cell? ⟨gb101, 0, none⟩ = some (.int .i64 a0_0) := (blk_cell BK101.out 0).trans rfl
              have hcz18_1 : w16.cell? ⟨gb101, 1, none⟩ = some (.slice A0_1 l0_1.length c0_1) := (blk_cell BK101.out 1).trans rfl
              have hfz18_0 := blk_frozen BK101.out 0
              have hfz18_1 := blk_frozen BK101.out 1
              go_wp2
              go_meet
              case rel => exact ⟨_, ((l0_1.length : Int)), (by first | rfl | (simp; done) | (simp [*]; done)), H', ⟨by have := HJ2.out; first | omega | exact Nat.le_refl _⟩, ⟨by (with_reducible repeat (first | refine blk_drewN ?_ _ | refine blk_drew ?_ | refine blk_alloc ?_ _)); exact BK101.out⟩, ⟨by repeat (first | (with_reducible first | exact HB.out | apply below_alloc | apply pw_below_drewN | apply below_drew1 | refine below_set ?_ GE101.out) | exact HB.out)⟩⟩
            · rw [if_neg c17] at H
              have c17b0 : decide (t103 < 0) = false := decide_eq_false c17
              clear c17
              (first | rw [c17b0] | (simp only [i64_w, i32_w]; rw [c17b0]) | skip)
              have H' := Aside0.mk H
              clear H
              go_wp2
              go_meet
              case rel => exact ⟨_, (t103), (by first | rfl | (simp; done) | (simp [*]; done)), H', ⟨by have := HJ2.out; first | omega | exact Nat.le_refl _⟩, ⟨by (with_reducible repeat (first | refine blk_drewN ?_ _ | refine blk_drew ?_ | refine blk_alloc ?_ _)); exact BK101.out⟩, ⟨by repeat (first | (with_reducible first | exact HB.out | apply below_alloc | apply pw_below_drewN | apply below_drew1 | refine below_set ?_ GE101.out) | exact HB.out)⟩⟩
          case rest =>
            clear HC14
            try clear c1
            try clear p2
            try clear c3
            try clear c4
            try clear c6
            try clear c8
            try clear c11
            try clear c12
            try clear c12b0
            try clear c17
            try clear c17b0
            try clear hcz15_0
            try clear hcz15_1
            try clear hcz18_0
            try clear hcz18_1
            try clear hcz7_0
            try clear hcz7_1
            try clear hcz9_0
            try clear hcz9_1
            try clear hfz15_0
            try clear hfz15_1
            try clear hfz18_0
            try clear hfz18_1
            try clear hfz7_0
            try clear hfz7_1
            try clear hfz9_0
            try clear hfz9_1
            try clear p2
            obtain ⟨kq, x6_13, rfl, HA, HJ13, BK101, HB⟩ := hcut
            cases kq with
            | zero => exact absurd HA.out (by simp [slab_Vacant.j1])
            | succ kj13 =>
              have H := HA.out
              clear HA
              simp only [slab_Vacant.j1] at H
              by_cases c19 : x6_13 = (l0_1.length : Int)
              · rw [if_pos c19] at H
                have c19b0 : (x6_13 == (l0_1.length : Int)) = true := beq_iff_eq.mpr c19
                have c19b1 : (x6_13 != (l0_1.length : Int)) = false := bne_eq_false_iff_eq.mpr c19
                clear c19
                by_cases c20 : x6_13 ≥ 32
                · rw [if_pos c20] at H
                  have c20b0 : decide (32 ≤ x6_13) = true := decide_eq_true c20
                  clear c20
                  simp only [Option.some.injEq, Prod.mk.injEq] at H
                  obtain ⟨rfl, rfl⟩ := H
                  have hcz21_0 : wc.cell? ⟨gb101, 0, none⟩ = some (.int .i64 a0_0) := (blk_cell BK101.out 0).trans rfl
                  have hcz21_1 : wc.cell? ⟨gb101, 1, none⟩ = some (.slice A0_1 l0_1.length c0_1) := (blk_cell BK101.out 1).trans rfl
                  have hfz21_0 := blk_frozen BK101.out 0
                  have hfz21_1 := blk_frozen BK101.out 1
                  go_wp2
                  go_ret2
                  exact ⟨by first | rfl | (simp [errW_none, errW_some] <;> rfl) | (simp [*, errW_none, errW_some] <;> rfl), by repeat (first | (with_reducible first | exact HB.out | apply below_alloc | apply pw_below_drewN | apply below_drew1 | refine below_set ?_ GE101.out) | exact HB.out)⟩
                · rw [if_neg c20] at H
                  have c20b0 : decide (32 ≤ x6_13) = false := decide_eq_false c20
                  clear c20
                  replace H := Option.bind_eq_some_iff.mp H
                  obtain ⟨t104, A220, H⟩ := H
                  replace H : (if (wrap64 (t104 + (wrap64 (a1 + 1)))) > 240 then (some (0, 22)) else (some (x6_13, 0))) = some (r1, r2) := H
                  have A22 := Aside0.mk A220
                  clear A220
                  by_cases c23 : (wrap64 (t104 + (wrap64 (a1 + 1)))) > 240
                  · rw [if_pos c23] at H
                    have c23b0 : decide (240 < (wrap64 (t104 + (wrap64 (a1 + 1))))) = true := decide_eq_true c23
                    clear c23
                    simp only [Option.some.injEq, Prod.mk.injEq] at H
                    obtain ⟨rfl, rfl⟩ := H
                    have hcz24_0 : wc.cell? ⟨gb101, 0, none⟩ = some (.int .i64 a0_0) := (blk_cell BK101.out 0).trans rfl
                    have hcz24_1 : wc.cell? ⟨gb101, 1, none⟩ = some (.slice A0_1 l0_1.length c0_1) := (blk_cell BK101.out 1).trans rfl
                    have hfz24_0 := blk_frozen BK101.out 0
                    have hfz24_1 := blk_frozen BK101.out 1
                    go_wp2_with (first | (go_at_call 81; (with_reducible refine (slabSize0.calls _ _ l0_1 t104 _ ?side1 ?side2 A22.out).mono ?_); (case side1 => repeat (first | exact (Kd.C_below HR0_1.out HB.out) | (with_reducible refine Kd.C_alloc ?_ _) | (with_reducible refine Kd.C_drewN ?_ _) | (with_reducible refine Kd.C_drew ?_))); (case side2 => exact HC0_1.out); rintro e w25 ⟨rfl, hb⟩; have n0_ := Aside0.mk (blk_below (g := gb101) (o := .cells #[.int .i64 a0_0, .slice A0_1 l0_1.length c0_1] 24 (0, 0)) (by (with_reducible repeat (first | refine blk_drewN ?_ _ | refine blk_drew ?_ | refine blk_alloc ?_ _)); exact BK101.out) hb); have n1_ := Aside0.mk (below_step (by repeat (first | (with_reducible first | exact HB.out | apply below_alloc | apply pw_below_drewN | apply below_drew1 | refine below_set ?_ GE101.out) | exact HB.out)) hb); clear BK101; clear HB; have BK101 := n0_; have HB := n1_; clear n0_ n1_; (try clear hb); (try clear hb2); (try clear hk); (try clear hi)))
                    go_ret2
                    exact ⟨by first | rfl | (simp [errW_none, errW_some] <;> rfl) | (simp [*, errW_none, errW_some] <;> rfl), by repeat (first | (with_reducible first | exact HB.out | apply below_alloc | apply pw_below_drewN | apply below_drew1 | refine below_set ?_ GE101.out) | exact HB.out)⟩
                  · rw [if_neg c23] at H
                    have c23b0 : decide (240 < (wrap64 (t104 + (wrap64 (a1 + 1))))) = false := decide_eq_false c23
                    clear c23
                    simp only [Option.some.injEq, Prod.mk.injEq] at H
                    obtain ⟨rfl, rfl⟩ := H
                    have hcz26_0 : wc.cell? ⟨gb101, 0, none⟩ = some (.int .i64 a0_0) := (blk_cell BK101.out 0).trans rfl
                    have hcz26_1 : wc.cell? ⟨gb101, 1, none⟩ = some (.slice A0_1 l0_1.length c0_1) := (blk_cell BK101.out 1).trans rfl
                    have hfz26_0 := blk_frozen BK101.out 0
                    have hfz26_1 := blk_frozen BK101.out 1
                    go_wp2_with (first | (go_at_call 81; (with_reducible refine (slabSize0.calls _ _ l0_1 t104 _ ?side1 ?side2 A22.out).mono ?_); (case side1 => repeat (first | exact (Kd.C_below HR0_1.out HB.out) | (with_reducible refine Kd.C_alloc ?_ _) | (with_reducible refine Kd.C_drewN ?_ _) | (with_reducible refine Kd.C_drew ?_))); (case side2 => exact HC0_1.out); rintro e w27 ⟨rfl, hb⟩; have n0_ := Aside0.mk (blk_below (g := gb101) (o := .cells #[.int .i64 a0_0, .slice A0_1 l0_1.length c0_1] 24 (0, 0)) (by (with_reducible repeat (first | refine blk_drewN ?_ _ | refine blk_drew ?_ | refine blk_alloc ?_ _)); exact BK101.out) hb); have n1_ := Aside0.mk (below_step (by repeat (first | (with_reducible first | exact HB.out | apply below_alloc | apply pw_below_drewN | apply below_drew1 | refine below_set ?_ GE101.out) | exact HB.out)) hb); clear BK101; clear HB; have BK101 := n0_; have HB := n1_; clear n0_ n1_; (try clear hb); (try clear hb2); (try clear hk); (try clear hi)))
                    go_ret2
                    exact ⟨by first | rfl | (simp [errW_none, errW_some] <;> rfl) | (simp [*, errW_none, errW_some] <;> rfl), by repeat (first | (with_reducible first | exact HB.out | apply below_alloc | apply pw_below_drewN | apply below_drew1 | refine below_set ?_ GE101.out) | exact HB.out)⟩
              · rw [if_neg c19] at H
                have c19b0 : (x6_13 == (l0_1.length : Int)) = false := beq_eq_false_iff_ne.mpr c19
                have c19b1 : (x6_13 != (l0_1.length : Int)) = true := bne_iff_ne.mpr c19
                by_cases c28 : x6_13 ≥ 32
                · rw [if_pos c28] at H
                  have c28b0 : decide (32 ≤ x6_13) = true := decide_eq_true c28
                  clear c28
                  simp only [Option.some.injEq, Prod.mk.injEq] at H
                  obtain ⟨rfl, rfl⟩ := H
                  have hcz29_0 : wc.cell? ⟨gb101, 0, none⟩ = some (.int .i64 a0_0) := (blk_cell BK101.out 0).trans rfl
                  have hcz29_1 : wc.cell? ⟨gb101, 1, none⟩ = some (.slice A0_1 l0_1.length c0_1) := (blk_cell BK101.out 1).trans rfl
                  have hfz29_0 := blk_frozen BK101.out 0
                  have hfz29_1 := blk_frozen BK101.out 1
                  go_wp2
                  go_ret2
                  exact ⟨by first | rfl | (simp [errW_none, errW_some] <;> rfl) | (simp [*, errW_none, errW_some] <;> rfl), by repeat (first | (with_reducible first | exact HB.out | apply below_alloc | apply pw_below_drewN | apply below_drew1 | refine below_set ?_ GE101.out) | exact HB.out)⟩
                · rw [if_neg c28] at H
                  have c28b0 : decide (32 ≤ x6_13) = false := decide_eq_false c28
                  clear c28
                  replace H := Option.bind_eq_some_iff.mp H
                  obtain ⟨t105, A300, H⟩ := H
                  replace H : (if (wrap64 (t105 + a1)) > 240 then (some (0, 22)) else (some (x6_13, 0))) = some (r1, r2) := H
                  have A30 := Aside0.mk A300
                  clear A300
                  by_cases c31 : (wrap64 (t105 + a1)) > 240
                  · rw [if_pos c31] at H
                    have c31b0 : decide (240 < (wrap64 (t105 + a1))) = true := decide_eq_true c31
                    clear c31
                    simp only [Option.some.injEq, Prod.mk.injEq] at H
                    obtain ⟨rfl, rfl⟩ := H
                    have hcz32_0 : wc.cell? ⟨gb101, 0, none⟩ = some (.int .i64 a0_0) := (blk_cell BK101.out 0).trans rfl
                    have hcz32_1 : wc.cell? ⟨gb101, 1, none⟩ = some (.slice A0_1 l0_1.length c0_1) := (blk_cell BK101.out 1).trans rfl
                    have hfz32_0 := blk_frozen BK101.out 0
                    have hfz32_1 := blk_frozen BK101.out 1
                    go_wp2_with (first | (go_at_call 81; (with_reducible refine (slabSize0.calls _ _ l0_1 t105 _ ?side1 ?side2 A30.out).mono ?_); (case side1 => repeat (first | exact (Kd.C_below HR0_1.out HB.out) | (with_reducible refine Kd.C_alloc ?_ _) | (with_reducible refine Kd.C_drewN ?_ _) | (with_reducible refine Kd.C_drew ?_))); (case side2 => exact HC0_1.out); rintro e w33 ⟨rfl, hb⟩; have n0_ := Aside0.mk (blk_below (g := gb101) (o := .cells #[.int .i64 a0_0, .slice A0_1 l0_1.length c0_1] 24 (0, 0)) (by (with_reducible repeat (first | refine blk_drewN ?_ _ | refine blk_drew ?_ | refine blk_alloc ?_ _)); exact BK101.out) hb); have n1_ := Aside0.mk (below_step (by repeat (first | (with_reducible first | exact HB.out | apply below_alloc | apply pw_below_drewN | apply below_drew1 | refine below_set ?_ GE101.out) | exact HB.out)) hb); clear BK101; clear HB; have BK101 := n0_; have HB := n1_; clear n0_ n1_; (try clear hb); (try clear hb2); (try clear hk); (try clear hi)))
                    go_ret2
                    exact ⟨by first | rfl | (simp [errW_none, errW_some] <;> rfl) | (simp [*, errW_none, errW_some] <;> rfl), by repeat (first | (with_reducible first | exact HB.out | apply below_alloc | apply pw_below_drewN | apply below_drew1 | refine below_set ?_ GE101.out) | exact HB.out)⟩
                  · rw [if_neg c31] at H
                    have c31b0 : decide (240 < (wrap64 (t105 + a1))) = false := decide_eq_false c31
                    clear c31
                    simp only [Option.some.injEq, Prod.mk.injEq] at H
                    obtain ⟨rfl, rfl⟩ := H
                    have hcz34_0 : wc.cell? ⟨gb101, 0, none⟩ = some (.int .i64 a0_0) := (blk_cell BK101.out 0).trans rfl
                    have hcz34_1 : wc.cell? ⟨gb101, 1, none⟩ = some (.slice A0_1 l0_1.length c0_1) := (blk_cell BK101.out 1).trans rfl
                    have hfz34_0 := blk_frozen BK101.out 0
                    have hfz34_1 := blk_frozen BK101.out 1
                    go_wp2_with (first | (go_at_call 81; (with_reducible refine (slabSize0.calls _ _ l0_1 t105 _ ?side1 ?side2 A30.out).mono ?_); (case side1 => repeat (first | exact (Kd.C_below HR0_1.out HB.out) | (with_reducible refine Kd.C_alloc ?_ _) | (with_reducible refine Kd.C_drewN ?_ _) | (with_reducible refine Kd.C_drew ?_))); (case side2 => exact HC0_1.out); rintro e w35 ⟨rfl, hb⟩; have n0_ := Aside0.mk (blk_below (g := gb101) (o := .cells #[.int .i64 a0_0, .slice A0_1 l0_1.length c0_1] 24 (0, 0)) (by (with_reducible repeat (first | refine blk_drewN ?_ _ | refine blk_drew ?_ | refine blk_alloc ?_ _)); exact BK101.out) hb); have n1_ := Aside0.mk (below_step (by repeat (first | (with_reducible first | exact HB.out | apply below_alloc | apply pw_below_drewN | apply below_drew1 | refine below_set ?_ GE101.out) | exact HB.out)) hb); clear BK101; clear HB; have BK101 := n0_; have HB := n1_; clear n0_ n1_; (try clear hb); (try clear hb2); (try clear hk); (try clear hi)))
                    go_ret2
                    exact ⟨by first | rfl | (simp [errW_none, errW_some] <;> rfl) | (simp [*, errW_none, errW_some] <;> rfl), by repeat (first | (with_reducible first | exact HB.out | apply below_alloc | apply pw_below_drewN | apply below_drew1 | refine below_set ?_ GE101.out) | exact HB.out)⟩

end Go.Proofs.Ytfjmnaobfbmllaa.M

namespace Go.Proofs.Ytfjmnaobfbmllaa.M
open Go.RowKit Go.Proofs.YtfjmnaobfbmllaaW.PrintWords Go.Proofs.YtfjmnaobfbmllaaW.PrintLast Go.Proofs.YtfjmnaobfbmllaaW.PrintMore
set_option linter.unusedVariables false
set_option linter.unusedSimpArgs false

theorem z33_eq : z33 = ⟨false, ⟨#[]⟩⟩ := rfl
theorem rd_slot (l : List S33) (i : Int) : rd_T33 l i = slotL l i.toNat := rfl
theorem at_pure (a : Int) (l : List S33) (i : Int) : slab_At.f a l i = some ((atP a l i).f0, (atP a l i).f1) := by
  unfold slab_At.f slabGood.f atP
  rw [Option.bind_some]
  cases goodP a l with
  | false => rw [if_neg (by simp), if_neg (by simp)]; rfl
  | true =>
    rw [if_pos rfl]
    by_cases h0 : i < 0
    · rw [if_pos h0, if_neg (by omega)]; rfl
    · have hc : true = true ∧ 0 ≤ i := ⟨rfl, by omega⟩
      rw [if_neg h0, if_pos hc]
      by_cases h1 : i ≥ (l.length : Int)
      · rw [if_pos h1, slot_ge l _ (by omega)]; rfl
      · rw [if_neg h1, if_pos (by omega), if_pos (by omega)]; rfl
/-- How many bytes a good image needs. -/
def sizeP (a : Int) (l : List S33) : Int := if goodP a l = true then (rawSize l : Int) else 0
theorem size0_good {a : Int} {l : List S33} (h : goodP a l = true) : slabSize0.f l = some (rawSize l : Int) := by
  have := (good_facts a l h).2.2.2.2.2
  unfold rawSize at this
  unfold slabSize0.f
  rw [if_pos (by omega)]
theorem size_at (a : Int) (l : List S33) : slab_Size.f a l = some (sizeP a l) := by
  unfold slab_Size.f slabGood.f sizeP
  rw [Option.bind_some]
  by_cases h : goodP a l = true
  · rw [if_pos h, if_pos h, size0_good h]; rfl
  · rw [if_neg h, if_neg h]
/-! ### great -/
def greatP (l : List S33) : Bool := decide (100 < l.length) || l.any fun x => decide (4096 < x.f1.size)
theorem great_loop (a : Int) (l : List S33) (hl : l.length ≤ 100) (d : Nat) : ∀ (k i : Nat), i + d = l.length → d < k →
    seneschallaw03_great.l0 k i a l = some ((l.drop i).any fun x => decide (4096 < x.f1.size)) := by
  induction d with
  | zero =>
    intro k i hi hk
    obtain ⟨k, rfl⟩ : ∃ m, k = m + 1 := ⟨k - 1, by omega⟩
    simp only [seneschallaw03_great.l0]
    rw [if_neg (by omega), List.drop_of_length_le (by omega)]; rfl
  | succ d ih =>
    intro k i hi hk
    obtain ⟨k, rfl⟩ : ∃ m, k = m + 1 := ⟨k - 1, by omega⟩
    have hlt : i < l.length := by omega
    simp only [seneschallaw03_great.l0]
    rw [if_pos (by omega), if_pos (by omega), rd33 l i hlt, List.drop_eq_getElem_cons hlt, List.any_cons, w64 ((i : Int) + 1) (by omega) (by omega)]
    have := ih k (i + 1) (by omega) (by omega)
    rw [show ((i + 1 : Nat) : Int) = (i : Int) + 1 by omega] at this
    by_cases h : ((l[i].f1).size : Int) > 4096
    · rw [if_pos h, decide_eq_true (by omega)]; rfl
    · rw [if_neg h, decide_eq_false (by omega), this]; rfl
theorem great_pure (a : Int) (l : List S33) (k : Nat) (hk : 101 < k) : seneschallaw03_great.f k a l = some (greatP l) := by
  unfold seneschallaw03_great.f greatP
  by_cases h : (l.length : Int) > 100
  · rw [if_pos h, decide_eq_true (by omega)]; rfl
  · rw [if_neg h, decide_eq_false (by omega)]
    have := great_loop a l (by omega) l.length k 0 (by omega) (by omega)
    simpa using this
/-! ### vacant -/
/-- The first slot that isn't used. -/
def vk (l : List S33) : Nat := l.findIdx vacS
theorem vk_le (l : List S33) : vk l ≤ l.length := List.findIdx_le_length
theorem vk_before (l : List S33) (i : Nat) (h : i < vk l) : (slotL l i).f0 = true := by
  have hi : i < l.length := Nat.lt_of_lt_of_le h (vk_le l)
  rw [slot_lt l i hi]
  have := List.not_of_lt_findIdx h
  unfold vacS at this
  simpa using this
theorem vk_at (l : List S33) : (slotL l (vk l)).f0 = false := by
  by_cases h : vk l < l.length
  · rw [slot_lt l _ h]
    have := List.findIdx_getElem (p := vacS) (w := h)
    have h2 : vacS l[vk l] = true := this
    unfold vacS at h2
    simpa using h2
  · rw [slot_ge l _ (by omega)]; rfl
theorem idx_vk (l : List S33) : idxOf vacS l = if vk l < l.length then (vk l : Int) else -1 := by
  by_cases h : vk l < l.length
  · rw [if_pos h]
    refine idxOf_hit vacS l (vk l) h (List.findIdx_getElem (w := h)) fun j hj => ?_
    have := vk_before l j hj
    rw [slot_lt l j (by omega)] at this
    unfold vacS; simp [this]
  · rw [if_neg h]
    refine idxOf_miss vacS l fun j hj => ?_
    have := vk_before l j (by omega)
    rw [slot_lt l j (by omega)] at this
    unfold vacS; simp [this]
def vacP (a : Int) (l : List S33) (n : Int) : Int × Int :=
  if goodP a l = false ∨ n < 0 then (0, 1) else if 200 < n then (0, 5)
  else if 32 ≤ vk l ∨ 240 < rawSize l + n.toNat + (if vk l = l.length then 1 else 0) then (0, 22) else (vk l, 0)
theorem vacP_good {a : Int} {l : List S33} {n : Int} (hg : goodP a l = true) (h0 : ¬ n < 0) : vacP a l n = if 200 < n then (0, 5) else if 32 ≤ vk l ∨ 240 < rawSize l + n.toNat + (if vk l = l.length then 1 else 0) then (0, 22) else ((vk l : Int), 0) := by
  unfold vacP
  rw [if_neg]
  rw [hg]; rintro (h | h)
  · cases h
  · exact h0 h
theorem vacP_bad {a : Int} {l : List S33} {n : Int} (h : goodP a l = false ∨ n < 0) : vacP a l n = (0, 1) := by
  unfold vacP
  rw [if_pos h]
theorem vac_j1 (a : Int) (l : List S33) (hg : goodP a l = true) (n : Int) (h0 : 0 ≤ n) (h1 : n ≤ 200) (k v : Nat) (hv : v ≤ l.length) :
    slab_Vacant.j1 (k + 1) n v a l = some (if 32 ≤ v ∨ 240 < rawSize l + n.toNat + (if v = l.length then 1 else 0) then (0, 22) else ((v : Int), 0)) := by
  have hsz := (good_facts a l hg).2.2.2.2.2
  have hlen := (good_facts a l hg).2.2.1
  simp only [slab_Vacant.j1]
  rw [size0_good hg, Option.bind_some, Option.bind_some, w64 (n + 1) (by omega) (by omega), w64 _ (by omega) (by omega), w64 _ (by omega) (by omega)]
  by_cases e : (v : Int) = l.length
  · have e2 : v = l.length := by omega
    rw [if_pos e, if_pos e2]
    by_cases h32 : (v : Int) ≥ 32
    · have hc : 32 ≤ v ∨ 240 < rawSize l + n.toNat + 1 := .inl (by omega)
      rw [if_pos h32, if_pos hc]
    · rw [if_neg h32]
      by_cases hb : (rawSize l : Int) + (n + 1) > 240
      · have hc : 32 ≤ v ∨ 240 < rawSize l + n.toNat + 1 := .inr (by omega)
        rw [if_pos hb, if_pos hc]
      · have hc : ¬ (32 ≤ v ∨ 240 < rawSize l + n.toNat + 1) := by omega
        rw [if_neg hb, if_neg hc]
  · have e2 : ¬ v = l.length := by omega
    rw [if_neg e, if_neg e2]
    by_cases h32 : (v : Int) ≥ 32
    · have hc : 32 ≤ v ∨ 240 < rawSize l + n.toNat + 0 := .inl (by omega)
      rw [if_pos h32, if_pos hc]
    · rw [if_neg h32]
      by_cases hb : (rawSize l : Int) + n > 240
      · have hc : 32 ≤ v ∨ 240 < rawSize l + n.toNat + 0 := .inr (by omega)
        rw [if_pos hb, if_pos hc]
      · have hc : ¬ (32 ≤ v ∨ 240 < rawSize l + n.toNat + 0) := by omega
        rw [if_neg hb, if_neg hc]
theorem vac_pure (a : Int) (l : List S33) (n : Int) (k : Nat) (hk : 4 < k) : slab_Vacant.f k a l n = some (vacP a l n) := by
  obtain ⟨k, rfl⟩ : ∃ m, k = m + 2 := ⟨k - 2, by omega⟩
  unfold slab_Vacant.f slabGood.f
  rw [Option.bind_some]
  cases hg : goodP a l with
  | false => rw [if_neg (by simp), vacP_bad (.inl hg)]; simp [slab_Vacant.j0]
  | true =>
    rw [if_pos rfl]
    simp only [slab_Vacant.j0]
    by_cases h0 : n < 0
    · rw [decide_eq_true h0, if_pos rfl, vacP_bad (.inr h0)]
    · rw [decide_eq_false h0, if_neg Bool.false_ne_true, vacP_good hg h0]
      by_cases h1 : n > 200
      · rw [if_pos h1, if_pos h1]
      · have h1' : ¬ 200 < n := h1
        rw [if_neg h1, if_neg h1']
        unfold slices_IndexVacant.f
        rw [Option.bind_some, idx_vk]
        have hv := vk_le l
        have hj := vac_j1 a l hg n (by omega) (by omega) k (vk l) hv
        by_cases hlt : vk l < l.length
        · have hc : ¬ ((vk l : Nat) : Int) < 0 := by omega
          rw [if_pos hlt, if_neg hc, hj]
        · have hc : (-1 : Int) < 0 := by omega
          rw [if_neg hlt, if_pos hc, show (l.length : Int) = ((vk l : Nat) : Int) by omega, hj]
theorem put_sum_vacant (a : Int) (l : List S33) (x : S33) (hg : goodP a l = true) (hx : x.f0 = true) : rawSize (putL l (vk l) x) = rawSize l + x.f1.size + (if vk l = l.length then 1 else 0) := by
  obtain ⟨_, _, _, hf, hl, _⟩ := (good_iff a l).mp hg
  have h := put_sum l (vk l) x hl hx
  have hz := (slot_fine l hf (vk l)).1 (vk_at l)
  rw [hz] at h
  have hv := vk_le l
  have e0 : z33.f1.size = 0 := rfl
  rw [e0] at h
  unfold rawSize
  by_cases e : vk l = l.length
  · rw [if_pos e]; omega
  · rw [if_neg e]; omega
theorem zeros_fine (n : Nat) (h : n ≤ 200) : fineS ⟨true, strOfNums (List.replicate n 0)⟩ := ⟨fun e => Bool.noConfusion e, Nat.le_trans (Nat.le_of_eq (strOfNums_size (List.replicate n 0))) (by simp; omega)⟩
/-! ### contracts in plain words -/
def slabAt.f (a : Int) (l : List S33) (i : Int) : Option (Bool × ByteArray) := some ((atP a l i).f0, (atP a l i).f1)
theorem slabAt.calls (a : Int) (A : Option Addr) (c : Nat) (l : List S33) (i : Int) (r1 : Bool) (r2 : ByteArray) (w : World) (hr : Kd.C k33 w A l.length l) (hc : l.length ≤ c) (h : slabAt.f a l i = some (r1, r2)) :
    Calls Try.prog 39 #[.agg #[.int .i64 a, .slice A l.length c], .int .i64 i] w fun e w' => e = .returned (.agg #[.bool r1, .string r2]) ∧ Below w.heap.size w w' :=
  slab_At.calls a A c l i r1 r2 w hr hc (by rw [at_pure]; exact h)
def slabSz.f (a : Int) (l : List S33) : Option Int := some (sizeP a l)
theorem slabSz.calls (a : Int) (A : Option Addr) (c : Nat) (l : List S33) (r : Int) (w : World) (hr : Kd.C k33 w A l.length l) (hc : l.length ≤ c) (h : slabSz.f a l = some r) :
    Calls Try.prog 36 #[.agg #[.int .i64 a, .slice A l.length c]] w fun e w' => e = .returned (.int .i64 r) ∧ Below w.heap.size w w' :=
  slab_Size.calls a A c l r w hr hc (by rw [size_at]; exact h)
def great3.f (a : Int) (l : List S33) : Option Bool := some (greatP l)
theorem great3.calls (a : Int) (A : Option Addr) (c : Nat) (l : List S33) (r : Bool) (w : World) (hr : Kd.C k33 w A l.length l) (hc : l.length ≤ c) (h : great3.f a l = some r) :
    Calls Try.prog 31 #[.agg #[.int .i64 a, .slice A l.length c]] w fun e w' => e = .returned (.bool r) ∧ Below w.heap.size w w' :=
  seneschallaw03_great.calls 102 a A c l r w hr hc (by rw [great_pure a l 102 (by omega)]; exact h)
def slabVac.f (a : Int) (l : List S33) (n : Int) : Option (Int × Int) := some (vacP a l n)
theorem slabVac.calls (a : Int) (A : Option Addr) (c : Nat) (l : List S33) (n : Int) (r1 r2 : Int) (w : World) (hr : Kd.C k33 w A l.length l) (hc : l.length ≤ c) (h : slabVac.f a l n = some (r1, r2)) :
    Calls Try.prog 43 #[.agg #[.int .i64 a, .slice A l.length c], .int .i64 n] w fun e w' => e = .returned (.tuple #[.int .i64 r1, .int .i64 r2]) ∧ Below w.heap.size w w' :=
  slab_Vacant.calls 41 a A c l n r1 r2 w hr hc (by rw [vac_pure a l n 41 (by omega)]; exact h)
end Go.Proofs.Ytfjmnaobfbmllaa.M

namespace Go.Proofs.Ytfjmnaobfbmllaa.M
open Go.RowKit Go.Proofs.YtfjmnaobfbmllaaW.PrintWords Go.Proofs.YtfjmnaobfbmllaaW.PrintLast Go.Proofs.YtfjmnaobfbmllaaW.PrintMore
attribute [local go_sem] max2_int min2_int max_two min_two max_three min_three max_four min_four   -- for this text's walks alone
set_option linter.unusedVariables false
set_option linter.unusedSimpArgs false

theorem eqA33 (d : Nat) (w : World) (x0 y0 : Bool) (x1 y1 : ByteArray) :
    (Op.equalIn (d + 2) 33 (.agg #[.bool x0, .string x1]) (.agg #[.bool y0, .string y1])).run Try.prog w = .ok (x0 == y0 && (x1.toList == y1.toList)) w := by
  refine eqA_of Try.underlying33 (by kernel_rfl) ?_
  refine eqf_cons (by rfl) (by go_simp; rfl) (by go_simp; rfl) (by go_simp) ?_
  exact eqf_last (by rfl) (by go_simp; rfl) (by go_simp; rfl) (by go_simp)
end Go.Proofs.Ytfjmnaobfbmllaa.M

namespace Go.Proofs.Ytfjmnaobfbmllaa.M
open Go.RowKit Go.Proofs.YtfjmnaobfbmllaaW.PrintWords Go.Proofs.YtfjmnaobfbmllaaW.PrintLast Go.Proofs.YtfjmnaobfbmllaaW.PrintMore
attribute [local go_sem] max2_int min2_int max_two min_two max_three min_three max_four min_four   -- for this text's walks alone
set_option linter.unusedVariables false
set_option linter.unusedSimpArgs false

attribute [local go_sem high] eqA33
/-! ### seneschalref03_Same: function 42 -/
mutual
def seneschalref03_Same.j0 : Nat → Bool → Int → List (S33) → Int → List (S33) → Option (Bool)
  | 0, _, _, _, _, _ => none
  | k + 1, x19, x102000, x102001, x103000, x103001 => if x19 = true then (some false) else (seneschalref03_Same.l0 k 0 x102000 x102001 x103000 x103001)
def seneschalref03_Same.l0 : Nat → Int → Int → List (S33) → Int → List (S33) → Option (Bool)
  | 0, _, _, _, _, _ => none
  | k + 1, x5, x102000, x102001, x103000, x103001 => if x5 < (x102001.length : Int) then (if 0 ≤ x5 then (if x5 < (x103001.length : Int) then (if (!(((rd_T33 x102001 x5).f0) == ((rd_T33 x103001 x5).f0)) || (!((((rd_T33 x102001 x5).f1).toList) == (((rd_T33 x103001 x5).f1).toList)))) = true then (some false) else (seneschalref03_Same.l0 k (wrap64 (x5 + 1)) x102000 x102001 x103000 x103001)) else (none)) else (none)) else (some true)
end
def seneschalref03_Same.f (k : Nat) (a0_0 : Int) (l0_1 : List (S33)) (a1_0 : Int) (l1_1 : List (S33)) : Option (Bool) := if a0_0 = a1_0 then (seneschalref03_Same.j0 k ((l0_1.length : Int) != (l1_1.length : Int)) a0_0 l0_1 a1_0 l1_1) else (seneschalref03_Same.j0 k true a0_0 l0_1 a1_0 l1_1)
set_option maxHeartbeats 8000000 in
set_option maxRecDepth 100000 in
theorem seneschalref03_Same.calls (k : Nat) (a0_0 : Int) (A0_1 : Option Addr) (c0_1 : Nat) (l0_1 : List (S33)) (a1_0 : Int) (A1_1 : Option Addr) (c1_1 : Nat) (l1_1 : List (S33)) (r : Bool) (w : World) (hr0_1 : Kd.C k33 w A0_1 l0_1.length l0_1) (hc0_1 : l0_1.length ≤ c0_1) (hr1_1 : Kd.C k33 w A1_1 l1_1.length l1_1) (hc1_1 : l1_1.length ≤ c1_1) (h : seneschalref03_Same.f k a0_0 l0_1 a1_0 l1_1 = some r) :
    Calls Try.prog 42 #[.agg #[.int .i64 a0_0, .slice A0_1 l0_1.length c0_1], .agg #[.int .i64 a1_0, .slice A1_1 l1_1.length c1_1]] w fun e w' => e = .returned (.bool r) ∧ Below w.heap.size w w' := by
  have hu24 := Try.underlying24
  have hu33 := Try.underlying33
  have HR0_1 := Aside0.mk hr0_1
  have HC0_1 := Aside0.mk hc0_1
  clear hr0_1 hc0_1
  have HR1_1 := Aside0.mk hr1_1
  have HC1_1 := Aside0.mk hc1_1
  clear hr1_1 hc1_1
  have HB := Aside0.mk (Below.refl w.heap.size w)
  have H : (if a0_0 = a1_0 then (seneschalref03_Same.j0 k ((l0_1.length : Int) != (l1_1.length : Int)) a0_0 l0_1 a1_0 l1_1) else (seneschalref03_Same.j0 k true a0_0 l0_1 a1_0 l1_1)) = some r := h
  clear h
  have HC3 := Aside0.mk H
  clear H
  go_enter Try.func42, Try.ntmps42
  go_upto_region 1 with (first | ((with_reducible refine gate_dst (N := 2) rfl ?_); (try (refine gate_guard (by rfl) ?_; dsimp only)); refine box_event ?hg (N := 2) ?hd (cs := #[.int .i64 a0_0, .slice A0_1 l0_1.length c0_1]) (t := 24) ?hr ?_; (case hd => rfl); (case hg => rfl); (case hr => first | (go_simp; done) | (go_simp; rfl)); intro gb101 hg w4 hbox hb; have n0_ := Aside0.mk (below_step (by repeat (first | (with_reducible first | exact HB.out | apply below_alloc | apply pw_below_drewN | apply below_drew1) | exact HB.out)) hb); have n1_ := Aside0.mk (hbox); have n2_ := Aside0.mk ((by rw [hg]; exact (below_size (by repeat (first | (with_reducible first | exact HB.out | apply below_alloc | apply pw_below_drewN | apply below_drew1) | exact HB.out))) : w.heap.size ≤ gb101)); have n3_ := Aside0.mk ((by rw [hg]; exact (below_size (by repeat (first | (with_reducible first | exact HB.out | apply below_alloc | apply pw_below_drewN | apply below_drew1) | exact HB.out))) : w.heap.size ≤ gb101)); clear HB; have HB := n0_; have BK101 := n1_; have GW101 := n2_; have GE101 := n3_; clear n0_ n1_ n2_ n3_; clear hb hbox hg) | ((with_reducible refine gate_dst (N := 3) rfl ?_); (try (refine gate_guard (by rfl) ?_; dsimp only)); refine box_event ?hg (N := 3) ?hd (cs := #[.int .i64 a1_0, .slice A1_1 l1_1.length c1_1]) (t := 24) ?hr ?_; (case hd => rfl); (case hg => rfl); (case hr => first | (go_simp; done) | (go_simp; rfl)); intro gb102 hg w5 hbox hb; have n0_ := Aside0.mk (blk_below (g := gb101) (o := .cells #[.int .i64 a0_0, .slice A0_1 l0_1.length c0_1] 24 (0, 0)) (by (with_reducible repeat (first | refine blk_drewN ?_ _ | refine blk_drew ?_ | refine blk_alloc ?_ _)); exact BK101.out) hb); have n1_ := Aside0.mk (below_step (by repeat (first | (with_reducible first | exact HB.out | apply below_alloc | apply pw_below_drewN | apply below_drew1 | refine below_set ?_ GE101.out) | exact HB.out)) hb); have n2_ := Aside0.mk (hbox); have n3_ := Aside0.mk ((by rw [hg]; exact (below_size (by repeat (first | (with_reducible first | exact HB.out | apply below_alloc | apply pw_below_drewN | apply below_drew1 | refine below_set ?_ GE101.out) | exact HB.out))) : w.heap.size ≤ gb102)); have n4_ := Aside0.mk ((by rw [hg]; exact (below_size (by repeat (first | (with_reducible first | exact HB.out | apply below_alloc | apply pw_below_drewN | apply below_drew1 | refine below_set ?_ GE101.out) | exact HB.out))) : w.heap.size ≤ gb102)); have n5_ := Aside0.mk ((by rw [hg]; exact Nat.ne_of_lt (blk_lt (g := gb101) (o := .cells #[.int .i64 a0_0, .slice A0_1 l0_1.length c0_1] 24 (0, 0)) (by (with_reducible repeat (first | refine blk_drewN ?_ _ | refine blk_drew ?_ | refine blk_alloc ?_ _)); exact BK101.out)) : gb101 ≠ gb102)); have n6_ := Aside0.mk ((by rw [hg]; exact Nat.ne_of_gt (blk_lt (g := gb101) (o := .cells #[.int .i64 a0_0, .slice A0_1 l0_1.length c0_1] 24 (0, 0)) (by (with_reducible repeat (first | refine blk_drewN ?_ _ | refine blk_drew ?_ | refine blk_alloc ?_ _)); exact BK101.out)) : gb102 ≠ gb101)); clear BK101; clear HB; have BK101 := n0_; have HB := n1_; have BK102 := n2_; have GW102 := n3_; have GE102 := n4_; have NB101_102 := n5_; have NB102_101 := n6_; clear n0_ n1_ n2_ n3_ n4_ n5_ n6_; clear hb hbox hg))
  repeat (go_quiet (first | ((with_reducible refine gate_dst (N := 2) rfl ?_); (try (refine gate_guard (by rfl) ?_; dsimp only)); refine box_event ?hg (N := 2) ?hd (cs := #[.int .i64 a0_0, .slice A0_1 l0_1.length c0_1]) (t := 24) ?hr ?_; (case hd => rfl); (case hg => rfl); (case hr => first | (go_simp; done) | (go_simp; rfl)); intro gb101 hg w4 hbox hb; have n0_ := Aside0.mk (below_step (by repeat (first | (with_reducible first | exact HB.out | apply below_alloc | apply pw_below_drewN | apply below_drew1) | exact HB.out)) hb); have n1_ := Aside0.mk (hbox); have n2_ := Aside0.mk ((by rw [hg]; exact (below_size (by repeat (first | (with_reducible first | exact HB.out | apply below_alloc | apply pw_below_drewN | apply below_drew1) | exact HB.out))) : w.heap.size ≤ gb101)); have n3_ := Aside0.mk ((by rw [hg]; exact (below_size (by repeat (first | (with_reducible first | exact HB.out | apply below_alloc | apply pw_below_drewN | apply below_drew1) | exact HB.out))) : w.heap.size ≤ gb101)); clear HB; have HB := n0_; have BK101 := n1_; have GW101 := n2_; have GE101 := n3_; clear n0_ n1_ n2_ n3_; clear hb hbox hg) | ((with_reducible refine gate_dst (N := 3) rfl ?_); (try (refine gate_guard (by rfl) ?_; dsimp only)); refine box_event ?hg (N := 3) ?hd (cs := #[.int .i64 a1_0, .slice A1_1 l1_1.length c1_1]) (t := 24) ?hr ?_; (case hd => rfl); (case hg => rfl); (case hr => first | (go_simp; done) | (go_simp; rfl)); intro gb102 hg w5 hbox hb; have n0_ := Aside0.mk (blk_below (g := gb101) (o := .cells #[.int .i64 a0_0, .slice A0_1 l0_1.length c0_1] 24 (0, 0)) (by (with_reducible repeat (first | refine blk_drewN ?_ _ | refine blk_drew ?_ | refine blk_alloc ?_ _)); exact BK101.out) hb); have n1_ := Aside0.mk (below_step (by repeat (first | (with_reducible first | exact HB.out | apply below_alloc | apply pw_below_drewN | apply below_drew1 | refine below_set ?_ GE101.out) | exact HB.out)) hb); have n2_ := Aside0.mk (hbox); have n3_ := Aside0.mk ((by rw [hg]; exact (below_size (by repeat (first | (with_reducible first | exact HB.out | apply below_alloc | apply pw_below_drewN | apply below_drew1 | refine below_set ?_ GE101.out) | exact HB.out))) : w.heap.size ≤ gb102)); have n4_ := Aside0.mk ((by rw [hg]; exact (below_size (by repeat (first | (with_reducible first | exact HB.out | apply below_alloc | apply pw_below_drewN | apply below_drew1 | refine below_set ?_ GE101.out) | exact HB.out))) : w.heap.size ≤ gb102)); have n5_ := Aside0.mk ((by rw [hg]; exact Nat.ne_of_lt (blk_lt (g := gb101) (o := .cells #[.int .i64 a0_0, .slice A0_1 l0_1.length c0_1] 24 (0, 0)) (by (with_reducible repeat (first | refine blk_drewN ?_ _ | refine blk_drew ?_ | refine blk_alloc ?_ _)); exact BK101.out)) : gb101 ≠ gb102)); have n6_ := Aside0.mk ((by rw [hg]; exact Nat.ne_of_gt (blk_lt (g := gb101) (o := .cells #[.int .i64 a0_0, .slice A0_1 l0_1.length c0_1] 24 (0, 0)) (by (with_reducible repeat (first | refine blk_drewN ?_ _ | refine blk_drew ?_ | refine blk_alloc ?_ _)); exact BK101.out)) : gb102 ≠ gb101)); clear BK101; clear HB; have BK101 := n0_; have HB := n1_; have BK102 := n2_; have GW102 := n3_; have GE102 := n4_; have NB101_102 := n5_; have NB102_101 := n6_; clear n0_ n1_ n2_ n3_ n4_ n5_ n6_; clear hb hbox hg)); go_upto_region 1 with (first | ((with_reducible refine gate_dst (N := 2) rfl ?_); (try (refine gate_guard (by rfl) ?_; dsimp only)); refine box_event ?hg (N := 2) ?hd (cs := #[.int .i64 a0_0, .slice A0_1 l0_1.length c0_1]) (t := 24) ?hr ?_; (case hd => rfl); (case hg => rfl); (case hr => first | (go_simp; done) | (go_simp; rfl)); intro gb101 hg w4 hbox hb; have n0_ := Aside0.mk (below_step (by repeat (first | (with_reducible first | exact HB.out | apply below_alloc | apply pw_below_drewN | apply below_drew1) | exact HB.out)) hb); have n1_ := Aside0.mk (hbox); have n2_ := Aside0.mk ((by rw [hg]; exact (below_size (by repeat (first | (with_reducible first | exact HB.out | apply below_alloc | apply pw_below_drewN | apply below_drew1) | exact HB.out))) : w.heap.size ≤ gb101)); have n3_ := Aside0.mk ((by rw [hg]; exact (below_size (by repeat (first | (with_reducible first | exact HB.out | apply below_alloc | apply pw_below_drewN | apply below_drew1) | exact HB.out))) : w.heap.size ≤ gb101)); clear HB; have HB := n0_; have BK101 := n1_; have GW101 := n2_; have GE101 := n3_; clear n0_ n1_ n2_ n3_; clear hb hbox hg) | ((with_reducible refine gate_dst (N := 3) rfl ?_); (try (refine gate_guard (by rfl) ?_; dsimp only)); refine box_event ?hg (N := 3) ?hd (cs := #[.int .i64 a1_0, .slice A1_1 l1_1.length c1_1]) (t := 24) ?hr ?_; (case hd => rfl); (case hg => rfl); (case hr => first | (go_simp; done) | (go_simp; rfl)); intro gb102 hg w5 hbox hb; have n0_ := Aside0.mk (blk_below (g := gb101) (o := .cells #[.int .i64 a0_0, .slice A0_1 l0_1.length c0_1] 24 (0, 0)) (by (with_reducible repeat (first | refine blk_drewN ?_ _ | refine blk_drew ?_ | refine blk_alloc ?_ _)); exact BK101.out) hb); have n1_ := Aside0.mk (below_step (by repeat (first | (with_reducible first | exact HB.out | apply below_alloc | apply pw_below_drewN | apply below_drew1 | refine below_set ?_ GE101.out) | exact HB.out)) hb); have n2_ := Aside0.mk (hbox); have n3_ := Aside0.mk ((by rw [hg]; exact (below_size (by repeat (first | (with_reducible first | exact HB.out | apply below_alloc | apply pw_below_drewN | apply below_drew1 | refine below_set ?_ GE101.out) | exact HB.out))) : w.heap.size ≤ gb102)); have n4_ := Aside0.mk ((by rw [hg]; exact (below_size (by repeat (first | (with_reducible first | exact HB.out | apply below_alloc | apply pw_below_drewN | apply below_drew1 | refine below_set ?_ GE101.out) | exact HB.out))) : w.heap.size ≤ gb102)); have n5_ := Aside0.mk ((by rw [hg]; exact Nat.ne_of_lt (blk_lt (g := gb101) (o := .cells #[.int .i64 a0_0, .slice A0_1 l0_1.length c0_1] 24 (0, 0)) (by (with_reducible repeat (first | refine blk_drewN ?_ _ | refine blk_drew ?_ | refine blk_alloc ?_ _)); exact BK101.out)) : gb101 ≠ gb102)); have n6_ := Aside0.mk ((by rw [hg]; exact Nat.ne_of_gt (blk_lt (g := gb101) (o := .cells #[.int .i64 a0_0, .slice A0_1 l0_1.length c0_1] 24 (0, 0)) (by (with_reducible repeat (first | refine blk_drewN ?_ _ | refine blk_drew ?_ | refine blk_alloc ?_ _)); exact BK101.out)) : gb102 ≠ gb101)); clear BK101; clear HB; have BK101 := n0_; have HB := n1_; have BK102 := n2_; have GW102 := n3_; have GE102 := n4_; have NB101_102 := n5_; have NB102_101 := n6_; clear n0_ n1_ n2_ n3_ n4_ n5_ n6_; clear hb hbox hg)))
  (try simp only [Act.put, List.setIfInBounds_toArray, List.set_cons_zero, List.set_cons_succ])
  go_cut [19] (fun v19 wc => ∃ (kq : Nat) (x19_2 : Bool), v19 = .bool x19_2 ∧ Aside0 (seneschalref03_Same.j0 kq x19_2 a0_0 l0_1 a1_0 l1_1 = some r) ∧ Aside0 (kq ≤ k) ∧ Aside0 (wc.heap[gb101]? = some (.cells #[.int .i64 a0_0, (.slice A0_1 l0_1.length c0_1)] 24 (0, 0))) ∧ Aside0 (wc.heap[gb102]? = some (.cells #[.int .i64 a1_0, (.slice A1_1 l1_1.length c1_1)] 24 (0, 0))) ∧ Aside0 (Below w.heap.size w wc))
  case first =>
    have H := HC3.out
    clear HC3
    by_cases c6 : a0_0 = a1_0
    · rw [if_pos c6] at H
      have c6b0 : (a0_0 == a1_0) = true := beq_iff_eq.mpr c6
      have c6b1 : (a0_0 != a1_0) = false := bne_eq_false_iff_eq.mpr c6
      clear c6
      (first | rw [c6b0] | (simp only [i64_w, i32_w]; rw [c6b0]) | skip)
      have H' := Aside0.mk H
      clear H
      have hnb7 := NB101_102.out
      have hnc7 := NB102_101.out
      have hcz8_0 : w5.cell? ⟨gb101, 0, none⟩ = some (.int .i64 a0_0) := (blk_cell BK101.out 0).trans rfl
      have hcz8_1 : w5.cell? ⟨gb101, 1, none⟩ = some (.slice A0_1 l0_1.length c0_1) := (blk_cell BK101.out 1).trans rfl
      have hfz8_0 := blk_frozen BK101.out 0
      have hfz8_1 := blk_frozen BK101.out 1
      have hcz9_0 : w5.cell? ⟨gb102, 0, none⟩ = some (.int .i64 a1_0) := (blk_cell BK102.out 0).trans rfl
      have hcz9_1 : w5.cell? ⟨gb102, 1, none⟩ = some (.slice A1_1 l1_1.length c1_1) := (blk_cell BK102.out 1).trans rfl
      have hfz9_0 := blk_frozen BK102.out 0
      have hfz9_1 := blk_frozen BK102.out 1
      go_wp2
      repeat (go_quiet (fail); try go_wp2)
      go_meet
      case rel => exact ⟨_, (((l0_1.length : Int) != (l1_1.length : Int))), (by first | rfl | (simp; done) | (simp [*]; done)), H', ⟨by first | omega | exact Nat.le_refl _⟩, ⟨by (with_reducible repeat (first | refine blk_drewN ?_ _ | refine blk_drew ?_ | refine blk_alloc ?_ _)); exact BK101.out⟩, ⟨by (with_reducible repeat (first | refine blk_drewN ?_ _ | refine blk_drew ?_ | refine blk_alloc ?_ _)); exact BK102.out⟩, ⟨by repeat (first | (with_reducible first | exact HB.out | apply below_alloc | apply pw_below_drewN | apply below_drew1 | refine below_set ?_ GE101.out | refine below_set ?_ GE102.out) | exact HB.out)⟩⟩
    · rw [if_neg c6] at H
      have c6b0 : (a0_0 == a1_0) = false := beq_eq_false_iff_ne.mpr c6
      have c6b1 : (a0_0 != a1_0) = true := bne_iff_ne.mpr c6
      (first | rw [c6b0] | (simp only [i64_w, i32_w]; rw [c6b0]) | skip)
      have H' := Aside0.mk H
      clear H
      have hnb10 := NB101_102.out
      have hnc10 := NB102_101.out
      have hcz11_0 : w5.cell? ⟨gb101, 0, none⟩ = some (.int .i64 a0_0) := (blk_cell BK101.out 0).trans rfl
      have hcz11_1 : w5.cell? ⟨gb101, 1, none⟩ = some (.slice A0_1 l0_1.length c0_1) := (blk_cell BK101.out 1).trans rfl
      have hfz11_0 := blk_frozen BK101.out 0
      have hfz11_1 := blk_frozen BK101.out 1
      have hcz12_0 : w5.cell? ⟨gb102, 0, none⟩ = some (.int .i64 a1_0) := (blk_cell BK102.out 0).trans rfl
      have hcz12_1 : w5.cell? ⟨gb102, 1, none⟩ = some (.slice A1_1 l1_1.length c1_1) := (blk_cell BK102.out 1).trans rfl
      have hfz12_0 := blk_frozen BK102.out 0
      have hfz12_1 := blk_frozen BK102.out 1
      go_wp2
      repeat (go_quiet (fail); try go_wp2)
      go_meet
      case rel => exact ⟨_, (true), (by first | rfl | (simp; done) | (simp [*]; done)), H', ⟨by first | omega | exact Nat.le_refl _⟩, ⟨by (with_reducible repeat (first | refine blk_drewN ?_ _ | refine blk_drew ?_ | refine blk_alloc ?_ _)); exact BK101.out⟩, ⟨by (with_reducible repeat (first | refine blk_drewN ?_ _ | refine blk_drew ?_ | refine blk_alloc ?_ _)); exact BK102.out⟩, ⟨by repeat (first | (with_reducible first | exact HB.out | apply below_alloc | apply pw_below_drewN | apply below_drew1 | refine below_set ?_ GE101.out | refine below_set ?_ GE102.out) | exact HB.out)⟩⟩
  case rest =>
    clear HC3
    try clear c1
    try clear p2
    try clear c4
    try clear c6
    try clear c6b0
    try clear c6b1
    try clear c7
    try clear c10
    try clear hcz11_0
    try clear hcz11_1
    try clear hcz12_0
    try clear hcz12_1
    try clear hcz8_0
    try clear hcz8_1
    try clear hcz9_0
    try clear hcz9_1
    try clear hfz11_0
    try clear hfz11_1
    try clear hfz12_0
    try clear hfz12_1
    try clear hfz8_0
    try clear hfz8_1
    try clear hfz9_0
    try clear hfz9_1
    obtain ⟨kq, x19_2, rfl, HA, HJ2, BK101, BK102, HB⟩ := hcut
    cases kq with
    | zero => exact absurd HA.out (by simp [seneschalref03_Same.j0])
    | succ kj2 =>
      have H := HA.out
      clear HA
      simp only [seneschalref03_Same.j0] at H
      by_cases c13 : x19_2 = true
      · subst c13
        have H1 : (some false) = some r := by rw [if_pos rfl] at H; exact H
        clear H
        have H := H1
        clear H1
        obtain rfl := Option.some.inj H
        go_wp2
        repeat (go_quiet (fail); try go_wp2)
        go_ret
        exact ⟨by first | rfl | (simp [errW_none, errW_some] <;> rfl) | (simp [*, errW_none, errW_some] <;> rfl), by repeat (first | (with_reducible first | exact HB.out | apply below_alloc | apply pw_below_drewN | apply below_drew1 | refine below_set ?_ GE101.out | refine below_set ?_ GE102.out) | exact HB.out)⟩
      · replace c13 := Bool.eq_false_iff.mpr c13
        subst c13
        have H1 : (seneschalref03_Same.l0 kj2 0 a0_0 l0_1 a1_0 l1_1) = some r := by rw [if_neg (show ¬ (false = true) by decide)] at H; exact H
        clear H
        have H := H1
        clear H1
        have H' := Aside0.mk H
        clear H
        go_wp2
        repeat (go_quiet (fail); try go_wp2)
        go_loopg [5] kj2 (fun kq v5 w' => ∃ (x5_2 : Int), v5 = .int .i64 x5_2 ∧ Aside0 (seneschalref03_Same.l0 kq x5_2 a0_0 l0_1 a1_0 l1_1 = some r) ∧ Aside0 (kq ≤ kj2) ∧ Aside0 (w'.heap[gb101]? = some (.cells #[.int .i64 a0_0, (.slice A0_1 l0_1.length c0_1)] 24 (0, 0))) ∧ Aside0 (w'.heap[gb102]? = some (.cells #[.int .i64 a1_0, (.slice A1_1 l1_1.length c1_1)] 24 (0, 0))) ∧ Aside0 (Below w.heap.size w w'))
        case atStart => exact ⟨(0), (by first | rfl | (simp; done) | (simp [*]; done)), H', ⟨Nat.le_refl _⟩, ⟨by (with_reducible repeat (first | refine blk_drewN ?_ _ | refine blk_drew ?_ | refine blk_alloc ?_ _)); exact BK101.out⟩, ⟨by (with_reducible repeat (first | refine blk_drewN ?_ _ | refine blk_drew ?_ | refine blk_alloc ?_ _)); exact BK102.out⟩, ⟨by repeat (first | (with_reducible first | exact HB.out | apply below_alloc | apply pw_below_drewN | apply below_drew1 | refine below_set ?_ GE101.out | refine below_set ?_ GE102.out) | exact HB.out)⟩⟩
        case round =>
          clear H'
          try clear c1
          try clear p2
          try clear c4
          try clear c6
          try clear c6b0
          try clear c6b1
          try clear c7
          try clear c10
          try clear c13
          try clear hcz11_0
          try clear hcz11_1
          try clear hcz12_0
          try clear hcz12_1
          try clear hcz8_0
          try clear hcz8_1
          try clear hcz9_0
          try clear hcz9_1
          try clear hfz11_0
          try clear hfz11_1
          try clear hfz12_0
          try clear hfz12_1
          try clear hfz8_0
          try clear hfz8_1
          try clear hfz9_0
          try clear hfz9_1
          try clear p2
          obtain ⟨x5_2, rfl, HA, HK2, BK101, BK102, HB⟩ := hrel
          cases gk with
          | zero => exact absurd HA.out (by simp [seneschalref03_Same.l0])
          | succ k2 =>
            have H := HA.out
            clear HA
            simp only [seneschalref03_Same.l0] at H
            by_cases c14 : x5_2 < (l0_1.length : Int)
            · rw [if_pos c14] at H
              have c14b0 : decide (x5_2 < (l0_1.length : Int)) = true := decide_eq_true c14
              clear c14
              by_cases c15 : 0 ≤ x5_2
              · rw [if_pos c15] at H
                have c15b0 : decide (0 ≤ x5_2) = true := decide_eq_true c15
                clear c15
                by_cases c16 : x5_2 < (l1_1.length : Int)
                · rw [if_pos c16] at H
                  have c16b0 : decide (x5_2 < (l1_1.length : Int)) = true := decide_eq_true c16
                  clear c16
                  by_cases c17 : (!(((rd_T33 l0_1 x5_2).f0) == ((rd_T33 l1_1 x5_2).f0)) || (!((((rd_T33 l0_1 x5_2).f1).toList) == (((rd_T33 l1_1 x5_2).f1).toList)))) = true
                  · rw [if_pos c17] at H
                    have c17b0 : (!(((rd_T33 l0_1 x5_2).f0) == ((rd_T33 l1_1 x5_2).f0)) || (!((((rd_T33 l0_1 x5_2).f1).toList) == (((rd_T33 l1_1 x5_2).f1).toList)))) = true := c17
                    clear c17
                    obtain rfl := Option.some.inj H
                    have hnb18 := NB101_102.out
                    have hnc18 := NB102_101.out
                    have hcz19_0 : wr.cell? ⟨gb101, 0, none⟩ = some (.int .i64 a0_0) := (blk_cell BK101.out 0).trans rfl
                    have hcz19_1 : wr.cell? ⟨gb101, 1, none⟩ = some (.slice A0_1 l0_1.length c0_1) := (blk_cell BK101.out 1).trans rfl
                    have hfz19_0 := blk_frozen BK101.out 0
                    have hfz19_1 := blk_frozen BK101.out 1
                    have p103 : 0 ≤ (x5_2 : Int) := of_decide_eq_true (by first | (with_reducible assumption) | assumption)
                    have q103 : x5_2 < (l0_1.length : Int) := of_decide_eq_true (by first | (with_reducible assumption) | assumption)
                    obtain ⟨ad103, e103, hx103_0, hx103_1⟩ := at_T33 HR0_1.out x5_2 p103 q103
                    cases e103
                    replace hx103_0 := (HB.out.cell (World.block_lt_of_cell? w _ hx103_0)).trans hx103_0
                    replace hx103_1 := (HB.out.cell (World.block_lt_of_cell? w _ hx103_1)).trans hx103_1
                    replace p103 := eq_true p103
                    replace q103 := eq_true q103
                    have hcz20_0 : wr.cell? ⟨gb102, 0, none⟩ = some (.int .i64 a1_0) := (blk_cell BK102.out 0).trans rfl
                    have hcz20_1 : wr.cell? ⟨gb102, 1, none⟩ = some (.slice A1_1 l1_1.length c1_1) := (blk_cell BK102.out 1).trans rfl
                    have hfz20_0 := blk_frozen BK102.out 0
                    have hfz20_1 := blk_frozen BK102.out 1
                    have p104 : 0 ≤ (x5_2 : Int) := of_decide_eq_true (by first | (with_reducible assumption) | assumption)
                    have q104 : x5_2 < (l1_1.length : Int) := of_decide_eq_true (by first | (with_reducible assumption) | assumption)
                    obtain ⟨ad104, e104, hx104_0, hx104_1⟩ := at_T33 HR1_1.out x5_2 p104 q104
                    cases e104
                    replace hx104_0 := (HB.out.cell (World.block_lt_of_cell? w _ hx104_0)).trans hx104_0
                    replace hx104_1 := (HB.out.cell (World.block_lt_of_cell? w _ hx104_1)).trans hx104_1
                    replace p104 := eq_true p104
                    replace q104 := eq_true q104
                    go_wp2
                    repeat (go_quiet (fail); try go_wp2)
                    go_ret
                    exact ⟨by first | rfl | (simp [errW_none, errW_some] <;> rfl) | (simp [*, errW_none, errW_some] <;> rfl), by repeat (first | (with_reducible first | exact HB.out | apply below_alloc | apply pw_below_drewN | apply below_drew1 | refine below_set ?_ GE101.out | refine below_set ?_ GE102.out) | exact HB.out)⟩
                  · rw [if_neg c17] at H
                    have c17b0 : (!(((rd_T33 l0_1 x5_2).f0) == ((rd_T33 l1_1 x5_2).f0)) || (!((((rd_T33 l0_1 x5_2).f1).toList) == (((rd_T33 l1_1 x5_2).f1).toList)))) = false := by simpa using c17
                    clear c17
                    have H' := Aside0.mk H
                    clear H
                    have hnb21 := NB101_102.out
                    have hnc21 := NB102_101.out
                    have hcz22_0 : wr.cell? ⟨gb101, 0, none⟩ = some (.int .i64 a0_0) := (blk_cell BK101.out 0).trans rfl
                    have hcz22_1 : wr.cell? ⟨gb101, 1, none⟩ = some (.slice A0_1 l0_1.length c0_1) := (blk_cell BK101.out 1).trans rfl
                    have hfz22_0 := blk_frozen BK101.out 0
                    have hfz22_1 := blk_frozen BK101.out 1
                    have p103 : 0 ≤ (x5_2 : Int) := of_decide_eq_true (by first | (with_reducible assumption) | assumption)
                    have q103 : x5_2 < (l0_1.length : Int) := of_decide_eq_true (by first | (with_reducible assumption) | assumption)
                    obtain ⟨ad103, e103, hx103_0, hx103_1⟩ := at_T33 HR0_1.out x5_2 p103 q103
                    cases e103
                    replace hx103_0 := (HB.out.cell (World.block_lt_of_cell? w _ hx103_0)).trans hx103_0
                    replace hx103_1 := (HB.out.cell (World.block_lt_of_cell? w _ hx103_1)).trans hx103_1
                    replace p103 := eq_true p103
                    replace q103 := eq_true q103
                    have hcz23_0 : wr.cell? ⟨gb102, 0, none⟩ = some (.int .i64 a1_0) := (blk_cell BK102.out 0).trans rfl
                    have hcz23_1 : wr.cell? ⟨gb102, 1, none⟩ = some (.slice A1_1 l1_1.length c1_1) := (blk_cell BK102.out 1).trans rfl
                    have hfz23_0 := blk_frozen BK102.out 0
                    have hfz23_1 := blk_frozen BK102.out 1
                    have p104 : 0 ≤ (x5_2 : Int) := of_decide_eq_true (by first | (with_reducible assumption) | assumption)
                    have q104 : x5_2 < (l1_1.length : Int) := of_decide_eq_true (by first | (with_reducible assumption) | assumption)
                    obtain ⟨ad104, e104, hx104_0, hx104_1⟩ := at_T33 HR1_1.out x5_2 p104 q104
                    cases e104
                    replace hx104_0 := (HB.out.cell (World.block_lt_of_cell? w _ hx104_0)).trans hx104_0
                    replace hx104_1 := (HB.out.cell (World.block_lt_of_cell? w _ hx104_1)).trans hx104_1
                    replace p104 := eq_true p104
                    replace q104 := eq_true q104
                    go_wp2
                    repeat (go_quiet (fail); try go_wp2)
                    go_roundg k2
                    case measure => have := HJ2.out; have := HK2.out; omega
                    case rel => exact ⟨(wrap64 (x5_2 + 1)), (by first | rfl | (simp; done) | (simp [*]; done)), H', ⟨by have := HJ2.out; have := HK2.out; omega⟩, ⟨by (with_reducible repeat (first | refine blk_drewN ?_ _ | refine blk_drew ?_ | refine blk_alloc ?_ _)); exact BK101.out⟩, ⟨by (with_reducible repeat (first | refine blk_drewN ?_ _ | refine blk_drew ?_ | refine blk_alloc ?_ _)); exact BK102.out⟩, ⟨by repeat (first | (with_reducible first | exact HB.out | apply below_alloc | apply pw_below_drewN | apply below_drew1 | refine below_set ?_ GE101.out | refine below_set ?_ GE102.out) | exact HB.out)⟩⟩
                · rw [if_neg c16] at H
                  exact absurd H (by simp)
              · rw [if_neg c15] at H
                exact absurd H (by simp)
            · rw [if_neg c14] at H
              have c14b0 : decide (x5_2 < (l0_1.length : Int)) = false := decide_eq_false c14
              clear c14
              obtain rfl := Option.some.inj H
              have hnb24 := NB101_102.out
              have hnc24 := NB102_101.out
              have hcz25_0 : wr.cell? ⟨gb101, 0, none⟩ = some (.int .i64 a0_0) := (blk_cell BK101.out 0).trans rfl
              have hcz25_1 : wr.cell? ⟨gb101, 1, none⟩ = some (.slice A0_1 l0_1.length c0_1) := (blk_cell BK101.out 1).trans rfl
              have hfz25_0 := blk_frozen BK101.out 0
              have hfz25_1 := blk_frozen BK101.out 1
              go_wp2
              repeat (go_quiet (fail); try go_wp2)
              go_ret
              exact ⟨by first | rfl | (simp [errW_none, errW_some] <;> rfl) | (simp [*, errW_none, errW_some] <;> rfl), by repeat (first | (with_reducible first | exact HB.out | apply below_alloc | apply pw_below_drewN | apply below_drew1 | refine below_set ?_ GE101.out | refine below_set ?_ GE102.out) | exact HB.out)⟩

end Go.Proofs.Ytfjmnaobfbmllaa.M

namespace Go.Proofs.Ytfjmnaobfbmllaa.M
open Go.RowKit Go.Proofs.YtfjmnaobfbmllaaW.PrintWords Go.Proofs.YtfjmnaobfbmllaaW.PrintLast Go.Proofs.YtfjmnaobfbmllaaW.PrintMore
set_option linter.unusedVariables false
set_option linter.unusedSimpArgs false

/-! ### same -/
def sameP (a : Int) (l : List S33) (b : Int) (m : List S33) : Bool := decide (a = b ∧ l = m)
theorem same_loop (a b : Int) (l m : List S33) (he : l.length = m.length) (hl : l.length ≤ 4611686018427387904) (d : Nat) : ∀ (k i : Nat), i + d = l.length → d < k →
    seneschalref03_Same.l0 k i a l b m = some (decide (l.drop i = m.drop i)) := by
  induction d with
  | zero =>
    intro k i hi hk
    obtain ⟨k, rfl⟩ : ∃ m, k = m + 1 := ⟨k - 1, by omega⟩
    simp only [seneschalref03_Same.l0]
    rw [if_neg (by omega), List.drop_of_length_le (by omega), List.drop_of_length_le (by omega)]; rfl
  | succ d ih =>
    intro k i hi hk
    obtain ⟨k, rfl⟩ : ∃ m, k = m + 1 := ⟨k - 1, by omega⟩
    have hlt : i < l.length := by omega
    simp only [seneschalref03_Same.l0]
    have := ih k (i + 1) (by omega) (by omega)
    rw [show ((i + 1 : Nat) : Int) = (i : Int) + 1 by omega] at this
    have hm : i < m.length := by omega
    have c1 : (i : Int) < (l.length : Int) := by omega
    have c2 : (0 : Int) ≤ (i : Int) := by omega
    have c3 : (i : Int) < (m.length : Int) := by omega
    rw [if_pos c1, if_pos c2, if_pos c3, rd33 l i hlt, rd33 m i hm, w64 ((i : Int) + 1) (by omega) (by omega), this,
      List.drop_eq_getElem_cons hlt, List.drop_eq_getElem_cons hm]
    have hs := s33_ne l[i] m[i]
    by_cases h : l[i] = m[i]
    · rw [if_neg (fun e => hs.mp e h)]
      exact congrArg some (decide_eq_decide.mpr ⟨fun e => by rw [h, e], fun e => (List.cons.inj e).2⟩)
    · rw [if_pos (hs.mpr h), decide_eq_false (fun e => h (List.cons.inj e).1)]
theorem same_pure (a b : Int) (l m : List S33) (k : Nat) (hl : l.length ≤ 4611686018427387904) (hk : l.length + 1 < k) : seneschalref03_Same.f k a l b m = some (sameP a l b m) := by
  obtain ⟨k, rfl⟩ : ∃ m, k = m + 1 := ⟨k - 1, by omega⟩
  unfold seneschalref03_Same.f sameP
  simp only [seneschalref03_Same.j0]
  by_cases h : a = b
  · rw [if_pos h]
    by_cases h2 : l.length = m.length
    · rw [if_neg (by simp; omega)]
      have := same_loop a b l m h2 hl l.length k 0 (by omega) (by omega)
      simpa [h] using this
    · rw [if_pos (by simp; omega)]
      have : l ≠ m := fun e => h2 (by rw [e])
      simp [this]
  · rw [if_neg h]; simp [h]
/-- Whether two images are the same (asked of short ones). -/
def refSame.f (a : Int) (l : List S33) (b : Int) (m : List S33) : Option Bool := if l.length ≤ 4611686018427387904 then some (sameP a l b m) else none
theorem refSame.calls (a : Int) (A : Option Addr) (c : Nat) (l : List S33) (b : Int) (B : Option Addr) (d : Nat) (m : List S33) (r : Bool) (w : World) (hr : Kd.C k33 w A l.length l) (hc : l.length ≤ c) (hr2 : Kd.C k33 w B m.length m) (hd : m.length ≤ d) (h : refSame.f a l b m = some r) :
    Calls Try.prog 42 #[.agg #[.int .i64 a, .slice A l.length c], .agg #[.int .i64 b, .slice B m.length d]] w fun e w' => e = .returned (.bool r) ∧ Below w.heap.size w w' := by
  unfold refSame.f at h
  split at h
  · rename_i hl
    exact seneschalref03_Same.calls (l.length + 2) a A c l b B d m r w hr hc hr2 hd (by rw [same_pure a b l m _ hl (by omega)]; exact h)
  · cases h
end Go.Proofs.Ytfjmnaobfbmllaa.M

namespace Go.Proofs.Ytfjmnaobfbmllaa.M
open Go.RowKit Go.Proofs.YtfjmnaobfbmllaaW.PrintWords Go.Proofs.YtfjmnaobfbmllaaW.PrintLast Go.Proofs.YtfjmnaobfbmllaaW.PrintMore
def va1 : List S33 := [z33, ⟨true, ⟨#[97, 98]⟩⟩]
theorem v30_1 : slabPut.f 0 [] 1 true ⟨#[97, 98]⟩ = some (0, va1, 0) := by decide +kernel
theorem v30_2 : slab_Encode.f 0 va1 = some (strOfNums (padL (encL 0 va1)), 0) := by decide +kernel
theorem v30_3 : slabPut.f 0 va1 1 false ⟨#[]⟩ = some (0, [], 0) := by decide +kernel
theorem v30_4 : slabVac.f 0 va1 5 = some (0, 0) := by decide +kernel
theorem v30_24 : slabSz.f 0 va1 = some 13 := by decide +kernel
end Go.Proofs.Ytfjmnaobfbmllaa.M

namespace Go.Proofs.Ytfjmnaobfbmllaa.M
open Go.RowKit Go.Proofs.YtfjmnaobfbmllaaW.PrintWords Go.Proofs.YtfjmnaobfbmllaaW.PrintLast Go.Proofs.YtfjmnaobfbmllaaW.PrintMore
attribute [local go_sem] max2_int min2_int max_two min_two max_three min_three max_four min_four   -- for this text's walks alone
set_option linter.unusedVariables false
set_option linter.unusedSimpArgs false

/-! ### seneschallaw03_awake: function 30 -/
def seneschallaw03_awake.f  : Option (Bool) := (slabPut.f 0 ([] : List (S33)) 1 true (⟨#[97, 98]⟩ : ByteArray)).bind fun bt101 => ((slab_Encode.f bt101.1 bt101.2.1).bind fun bt107 => ((slabPut.f bt101.1 bt101.2.1 1 false (⟨#[]⟩ : ByteArray)).bind fun bt109 => ((slabVac.f bt101.1 bt101.2.1 5).bind fun bt115 => (if bt101.2.2 = 0 then (if (bt101.2.1.length : Int) = 2 then (if 0 < (bt101.2.1.length : Int) then (if ((rd_T33 bt101.2.1 0).f0 = true) then (some false) else ((slabSz.f bt101.1 bt101.2.1).bind fun t118 => (if t118 = 13 then (if bt107.2 = 0 then (if (bt107.1.size : Int) = 240 then (if 8 ≤ 13 then (if 13 ≤ (bt107.1.size : Int) then (if (bt107.1.extract 8 13).toList = ([2, 255, 2, 97, 98] : List UInt8) then (if bt109.2.2 = 0 then (if (bt109.2.1.length : Int) = 0 then (if bt115.1 = 0 then (if bt115.2 = 0 then ((slabGood.f bt109.1 bt109.2.1).bind fun t119 => (some t119)) else (some false)) else (some false)) else (some false)) else (some false)) else (some false)) else (none)) else (none)) else (some false)) else (some false)) else (some false)))) else (none)) else (some false)) else (some false)))))
set_option maxHeartbeats 8000000 in
set_option maxRecDepth 100000 in
theorem seneschallaw03_awake.calls  (r : Bool) (w : World) (h : seneschallaw03_awake.f  = some r) :
    Calls Try.prog 30 #[] w fun e w' => e = .returned (.bool r) ∧ Below w.heap.size w w' := by
  have hu24 := Try.underlying24
  have hu33 := Try.underlying33
  have HB := Aside0.mk (Below.refl w.heap.size w)
  have H : ((slabPut.f 0 ([] : List (S33)) 1 true (⟨#[97, 98]⟩ : ByteArray)).bind fun bt101 => ((slab_Encode.f bt101.1 bt101.2.1).bind fun bt107 => ((slabPut.f bt101.1 bt101.2.1 1 false (⟨#[]⟩ : ByteArray)).bind fun bt109 => ((slabVac.f bt101.1 bt101.2.1 5).bind fun bt115 => (if bt101.2.2 = 0 then (if (bt101.2.1.length : Int) = 2 then (if 0 < (bt101.2.1.length : Int) then (if ((rd_T33 bt101.2.1 0).f0 = true) then (some false) else ((slabSz.f bt101.1 bt101.2.1).bind fun t118 => (if t118 = 13 then (if bt107.2 = 0 then (if (bt107.1.size : Int) = 240 then (if 8 ≤ 13 then (if 13 ≤ (bt107.1.size : Int) then (if (bt107.1.extract 8 13).toList = ([2, 255, 2, 97, 98] : List UInt8) then (if bt109.2.2 = 0 then (if (bt109.2.1.length : Int) = 0 then (if bt115.1 = 0 then (if bt115.2 = 0 then ((slabGood.f bt109.1 bt109.2.1).bind fun t119 => (some t119)) else (some false)) else (some false)) else (some false)) else (some false)) else (some false)) else (none)) else (none)) else (some false)) else (some false)) else (some false)))) else (none)) else (some false)) else (some false)))))) = some r := h
  clear h
  replace H := Option.bind_eq_some_iff.mp H
  obtain ⟨⟨t101, t102, t105⟩, A10, H⟩ := H
  replace H : ((slab_Encode.f t101 t102).bind fun bt107 => ((slabPut.f t101 t102 1 false (⟨#[]⟩ : ByteArray)).bind fun bt109 => ((slabVac.f t101 t102 5).bind fun bt115 => (if t105 = 0 then (if (t102.length : Int) = 2 then (if 0 < (t102.length : Int) then (if ((rd_T33 t102 0).f0 = true) then (some false) else ((slabSz.f t101 t102).bind fun t118 => (if t118 = 13 then (if bt107.2 = 0 then (if (bt107.1.size : Int) = 240 then (if 8 ≤ 13 then (if 13 ≤ (bt107.1.size : Int) then (if (bt107.1.extract 8 13).toList = ([2, 255, 2, 97, 98] : List UInt8) then (if bt109.2.2 = 0 then (if (bt109.2.1.length : Int) = 0 then (if bt115.1 = 0 then (if bt115.2 = 0 then ((slabGood.f bt109.1 bt109.2.1).bind fun t119 => (some t119)) else (some false)) else (some false)) else (some false)) else (some false)) else (some false)) else (none)) else (none)) else (some false)) else (some false)) else (some false)))) else (none)) else (some false)) else (some false))))) = some r := H
  have A1 := Aside0.mk A10
  clear A10
  replace H := Option.bind_eq_some_iff.mp H
  obtain ⟨⟨t107, t108⟩, A20, H⟩ := H
  replace H : ((slabPut.f t101 t102 1 false (⟨#[]⟩ : ByteArray)).bind fun bt109 => ((slabVac.f t101 t102 5).bind fun bt115 => (if t105 = 0 then (if (t102.length : Int) = 2 then (if 0 < (t102.length : Int) then (if ((rd_T33 t102 0).f0 = true) then (some false) else ((slabSz.f t101 t102).bind fun t118 => (if t118 = 13 then (if t108 = 0 then (if (t107.size : Int) = 240 then (if 8 ≤ 13 then (if 13 ≤ (t107.size : Int) then (if (t107.extract 8 13).toList = ([2, 255, 2, 97, 98] : List UInt8) then (if bt109.2.2 = 0 then (if (bt109.2.1.length : Int) = 0 then (if bt115.1 = 0 then (if bt115.2 = 0 then ((slabGood.f bt109.1 bt109.2.1).bind fun t119 => (some t119)) else (some false)) else (some false)) else (some false)) else (some false)) else (some false)) else (none)) else (none)) else (some false)) else (some false)) else (some false)))) else (none)) else (some false)) else (some false)))) = some r := H
  have A2 := Aside0.mk A20
  clear A20
  replace H := Option.bind_eq_some_iff.mp H
  obtain ⟨⟨t109, t110, t113⟩, A30, H⟩ := H
  replace H : ((slabVac.f t101 t102 5).bind fun bt115 => (if t105 = 0 then (if (t102.length : Int) = 2 then (if 0 < (t102.length : Int) then (if ((rd_T33 t102 0).f0 = true) then (some false) else ((slabSz.f t101 t102).bind fun t118 => (if t118 = 13 then (if t108 = 0 then (if (t107.size : Int) = 240 then (if 8 ≤ 13 then (if 13 ≤ (t107.size : Int) then (if (t107.extract 8 13).toList = ([2, 255, 2, 97, 98] : List UInt8) then (if t113 = 0 then (if (t110.length : Int) = 0 then (if bt115.1 = 0 then (if bt115.2 = 0 then ((slabGood.f t109 t110).bind fun t119 => (some t119)) else (some false)) else (some false)) else (some false)) else (some false)) else (some false)) else (none)) else (none)) else (some false)) else (some false)) else (some false)))) else (none)) else (some false)) else (some false))) = some r := H
  have A3 := Aside0.mk A30
  clear A30
  replace H := Option.bind_eq_some_iff.mp H
  obtain ⟨⟨t115, t116⟩, A40, H⟩ := H
  replace H : (if t105 = 0 then (if (t102.length : Int) = 2 then (if 0 < (t102.length : Int) then (if ((rd_T33 t102 0).f0 = true) then (some false) else ((slabSz.f t101 t102).bind fun t118 => (if t118 = 13 then (if t108 = 0 then (if (t107.size : Int) = 240 then (if 8 ≤ 13 then (if 13 ≤ (t107.size : Int) then (if (t107.extract 8 13).toList = ([2, 255, 2, 97, 98] : List UInt8) then (if t113 = 0 then (if (t110.length : Int) = 0 then (if t115 = 0 then (if t116 = 0 then ((slabGood.f t109 t110).bind fun t119 => (some t119)) else (some false)) else (some false)) else (some false)) else (some false)) else (some false)) else (none)) else (none)) else (some false)) else (some false)) else (some false)))) else (none)) else (some false)) else (some false)) = some r := H
  have A4 := Aside0.mk A40
  clear A40
  by_cases c5 : t105 = 0
  · rw [if_pos c5] at H
    have c5b0 : (t105 == 0) = true := beq_iff_eq.mpr c5
    have c5b1 : (t105 != 0) = false := bne_eq_false_iff_eq.mpr c5
    clear c5
    by_cases c6 : (t102.length : Int) = 2
    · rw [if_pos c6] at H
      have c6b0 : ((t102.length : Int) == 2) = true := beq_iff_eq.mpr c6
      have c6b1 : ((t102.length : Int) != 2) = false := bne_eq_false_iff_eq.mpr c6
      clear c6
      by_cases c7 : 0 < (t102.length : Int)
      · rw [if_pos c7] at H
        have c7b0 : decide (0 < (t102.length : Int)) = true := decide_eq_true c7
        have c7b1 : decide (0 < t102.length) = true := decide_eq_true (by omega)
        clear c7
        obtain ⟨bq8, hbq8⟩ : ∃ b_ : Bool, b_ = ((rd_T33 t102 0).f0) := ⟨_, rfl⟩
        replace H : (if (bq8 = true) then (some false) else ((slabSz.f t101 t102).bind fun t118 => (if t118 = 13 then (if t108 = 0 then (if (t107.size : Int) = 240 then (if 8 ≤ 13 then (if 13 ≤ (t107.size : Int) then (if (t107.extract 8 13).toList = ([2, 255, 2, 97, 98] : List UInt8) then (if t113 = 0 then (if (t110.length : Int) = 0 then (if t115 = 0 then (if t116 = 0 then ((slabGood.f t109 t110).bind fun t119 => (some t119)) else (some false)) else (some false)) else (some false)) else (some false)) else (some false)) else (none)) else (none)) else (some false)) else (some false)) else (some false)))) = some r := by rw [← hbq8] at H; exact H
        have Nbq8 := Aside0.mk hbq8
        clear hbq8
        by_cases c9 : (bq8 = true)
        · exfalso; subst c9; have q_ := Option.some.inj (A1.out.symm.trans v30_1); simp only [Prod.mk.injEq] at q_; obtain ⟨rfl, rfl, rfl⟩ := q_; have q_ := Option.some.inj (A2.out.symm.trans v30_2); simp only [Prod.mk.injEq] at q_; obtain ⟨rfl, rfl⟩ := q_; have q_ := Option.some.inj (A3.out.symm.trans v30_3); simp only [Prod.mk.injEq] at q_; obtain ⟨rfl, rfl, rfl⟩ := q_; have q_ := Option.some.inj (A4.out.symm.trans v30_4); simp only [Prod.mk.injEq] at q_; obtain ⟨rfl, rfl⟩ := q_; exact absurd Nbq8.out (by decide +kernel)
        · replace c9 := Bool.eq_false_iff.mpr c9
          subst c9
          have H1 : ((slabSz.f t101 t102).bind fun t118 => (if t118 = 13 then (if t108 = 0 then (if (t107.size : Int) = 240 then (if 8 ≤ 13 then (if 13 ≤ (t107.size : Int) then (if (t107.extract 8 13).toList = ([2, 255, 2, 97, 98] : List UInt8) then (if t113 = 0 then (if (t110.length : Int) = 0 then (if t115 = 0 then (if t116 = 0 then ((slabGood.f t109 t110).bind fun t119 => (some t119)) else (some false)) else (some false)) else (some false)) else (some false)) else (some false)) else (none)) else (none)) else (some false)) else (some false)) else (some false))) = some r := by rw [if_neg (show ¬ (false = true) by decide)] at H; exact H
          clear H
          have H := H1
          clear H1
          replace H := Option.bind_eq_some_iff.mp H
          obtain ⟨t118, A240, H⟩ := H
          replace H : (if t118 = 13 then (if t108 = 0 then (if (t107.size : Int) = 240 then (if 8 ≤ 13 then (if 13 ≤ (t107.size : Int) then (if (t107.extract 8 13).toList = ([2, 255, 2, 97, 98] : List UInt8) then (if t113 = 0 then (if (t110.length : Int) = 0 then (if t115 = 0 then (if t116 = 0 then ((slabGood.f t109 t110).bind fun t119 => (some t119)) else (some false)) else (some false)) else (some false)) else (some false)) else (some false)) else (none)) else (none)) else (some false)) else (some false)) else (some false)) = some r := H
          have A24 := Aside0.mk A240
          clear A240
          by_cases c25 : t118 = 13
          · rw [if_pos c25] at H
            have c25b0 : (t118 == 13) = true := beq_iff_eq.mpr c25
            have c25b1 : (t118 != 13) = false := bne_eq_false_iff_eq.mpr c25
            clear c25
            by_cases c26 : t108 = 0
            · rw [if_pos c26] at H
              have c26b0 : (t108 == 0) = true := beq_iff_eq.mpr c26
              have c26b1 : (t108 != 0) = false := bne_eq_false_iff_eq.mpr c26
              clear c26
              by_cases c27 : (t107.size : Int) = 240
              · rw [if_pos c27] at H
                have c27b0 : ((t107.size : Int) == 240) = true := beq_iff_eq.mpr c27
                have c27b1 : ((t107.size : Int) != 240) = false := bne_eq_false_iff_eq.mpr c27
                clear c27
                by_cases c28 : 8 ≤ 13
                · rw [if_pos c28] at H
                  have c28b0 := eq_true c28
                  have c28b1 : decide (8 ≤ 13) = true := decide_eq_true c28
                  clear c28
                  by_cases c29 : 13 ≤ (t107.size : Int)
                  · rw [if_pos c29] at H
                    have c29b0 := eq_true c29
                    have c29b1 : decide (13 ≤ (t107.size : Int)) = true := decide_eq_true c29
                    clear c29
                    by_cases c30 : (t107.extract 8 13).toList = ([2, 255, 2, 97, 98] : List UInt8)
                    · rw [if_pos c30] at H
                      have c30b0 : ((t107.extract 8 13).toList == ([2, 255, 2, 97, 98] : List UInt8)) = true := beq_iff_eq.mpr c30
                      have c30b1 : ((t107.extract 8 13).toList != ([2, 255, 2, 97, 98] : List UInt8)) = false := bne_eq_false_iff_eq.mpr c30
                      clear c30
                      by_cases c31 : t113 = 0
                      · rw [if_pos c31] at H
                        have c31b0 : (t113 == 0) = true := beq_iff_eq.mpr c31
                        have c31b1 : (t113 != 0) = false := bne_eq_false_iff_eq.mpr c31
                        clear c31
                        by_cases c32 : (t110.length : Int) = 0
                        · rw [if_pos c32] at H
                          have c32b0 : ((t110.length : Int) == 0) = true := beq_iff_eq.mpr c32
                          have c32b1 : ((t110.length : Int) != 0) = false := bne_eq_false_iff_eq.mpr c32
                          clear c32
                          by_cases c33 : t115 = 0
                          · rw [if_pos c33] at H
                            have c33b0 : (t115 == 0) = true := beq_iff_eq.mpr c33
                            have c33b1 : (t115 != 0) = false := bne_eq_false_iff_eq.mpr c33
                            clear c33
                            by_cases c34 : t116 = 0
                            · rw [if_pos c34] at H
                              have c34b0 : (t116 == 0) = true := beq_iff_eq.mpr c34
                              have c34b1 : (t116 != 0) = false := bne_eq_false_iff_eq.mpr c34
                              clear c34
                              replace H := Option.bind_eq_some_iff.mp H
                              obtain ⟨t119, A350, H⟩ := H
                              replace H : (some t119) = some r := H
                              have A35 := Aside0.mk A350
                              clear A350
                              obtain rfl := Option.some.inj H
                              go_enter Try.func30, Try.ntmps30
                              go_wp2_with (first | ((with_reducible refine gate_callee (f := 38) rfl ?_); refine goesL_ (some 12) rfl rfl Try.func38 (by kernel_rfl) rfl #[.agg #[.int .i64 0, .slice none 0 0], .int .i64 1, .agg #[.bool true, .string (⟨#[97, 98]⟩ : ByteArray)]] rfl (by (try simp only [List.map_toArray, List.map_cons, List.map_nil]); first | done | rfl | (simp only [List.length_drop, List.length_take]; rfl)) ?_; (refine (slabPut.calls 0 _ _ ([] : List (S33)) 1 true (⟨#[97, 98]⟩ : ByteArray) t101 t102 t105 _ ?side1 ?side2 A1.out).mono ?_); (case side1 => exact Kd.C_nil _ _); (case side2 => exact Nat.le_refl _); rintro e w36 ⟨v103, rfl, ho0, hb⟩; refine ⟨_, rfl, ?_⟩; have n0_ := Aside0.mk (Kd.R_lower ho0 (below_size (by repeat (first | (with_reducible first | exact HB.out | apply below_alloc | apply pw_below_drewN | apply below_drew1) | exact HB.out)))); have n1_ := Aside0.mk (below_step (by repeat (first | (with_reducible first | exact HB.out | apply below_alloc | apply pw_below_drewN | apply below_drew1) | exact HB.out)) hb); clear HB; have HO104 := n0_; have HB := n1_; clear n0_ n1_; (try clear hb); (try clear hb2); (try clear hk); (try clear hi); (try clear ho0)) | ((with_reducible refine gate_dst (N := 1) rfl ?_); (try (refine gate_guard (by rfl) ?_; dsimp only)); refine box_event ?hg (N := 1) ?hd (cs := #[.int .i64 0, .slice none 0 0]) (t := 24) ?hr ?_; (case hd => rfl); (case hg => rfl); (case hr => first | (go_simp; done) | (go_simp; rfl)); intro gb106 hg w37 hbox hb; have n0_ := Aside0.mk (Kd.R_below (by (with_reducible repeat (first | apply Kd.R_alloc | apply Kd.R_drewN | apply Kd.R_drew)); exact HO104.out) hb); have n1_ := Aside0.mk (below_step (by repeat (first | (with_reducible first | exact HB.out | apply below_alloc | apply pw_below_drewN | apply below_drew1) | exact HB.out)) hb); have n2_ := Aside0.mk (hbox); have n3_ := Aside0.mk ((by rw [hg]; exact (below_size (by repeat (first | (with_reducible first | exact HB.out | apply below_alloc | apply pw_below_drewN | apply below_drew1) | exact HB.out))) : w.heap.size ≤ gb106)); have n4_ := Aside0.mk ((by rw [hg]; exact (below_size (by repeat (first | (with_reducible first | exact HB.out | apply below_alloc | apply pw_below_drewN | apply below_drew1) | exact HB.out))) : w.heap.size ≤ gb106)); clear HO104; clear HB; have HO104 := n0_; have HB := n1_; have BK106 := n2_; have GW106 := n3_; have GE106 := n4_; clear n0_ n1_ n2_ n3_ n4_; clear hb hbox hg; have hcz38_0 : w37.cell? ⟨gb106, 0, none⟩ = some (.int .i64 0) := (blk_cell BK106.out 0).trans rfl; have hcz38_1 : w37.cell? ⟨gb106, 1, none⟩ = some (.slice none 0 0) := (blk_cell BK106.out 1).trans rfl; have hfz38_0 := blk_frozen BK106.out 0; have hfz38_1 := blk_frozen BK106.out 1; obtain ⟨Ao39, co39, eo39⟩ := Kd.R_slice HO104.out; subst eo39) | ((with_reducible refine gate_callee (f := 32) rfl ?_); refine goesL_ (some 17) rfl rfl Try.func32 (by kernel_rfl) rfl #[.agg #[.int .i64 t101, .slice Ao39 t102.length co39]] rfl (by (try simp only [List.map_toArray, List.map_cons, List.map_nil]); first | done | rfl | (simp only [List.length_drop, List.length_take]; rfl)) ?_; (with_reducible refine (slab_Encode.calls t101 _ _ t102 t107 t108 _ ?side1 ?side2 A2.out).mono ?_); (case side1 => refine (Kd.R_reads' (e := 33) (base := w.heap.size) (ok := fun k_ => True) (n := t102.length) (c := co39) ?_).2.2; exact (by (with_reducible repeat (first | apply Kd.R_alloc | apply Kd.R_drewN | apply Kd.R_drew)); exact (Kd.R_mono (Kd.R_far (p := ⟨gb106, 1, none⟩) (Kd.R_far (p := ⟨gb106, 0, none⟩) (Kd.R_types HO104.out BK106.out (by decide)) (fun _ hk => hk.2) (.int .i64 t101)) (fun _ hk => hk.2) (.slice Ao39 t102.length co39)) (fun _ h_ => h_.1)))); (case side2 => exact (Kd.R_reads' HO104.out).2.1); rintro e w40 ⟨rfl, hb⟩; refine ⟨_, rfl, ?_⟩; have n0_ := Aside0.mk (Kd.R_below (by (with_reducible repeat (first | apply Kd.R_alloc | apply Kd.R_drewN | apply Kd.R_drew)); exact (Kd.R_mono (Kd.R_far (p := ⟨gb106, 1, none⟩) (Kd.R_far (p := ⟨gb106, 0, none⟩) (Kd.R_types HO104.out BK106.out (by decide)) (fun _ hk => hk.2) (.int .i64 t101)) (fun _ hk => hk.2) (.slice Ao39 t102.length co39)) (fun _ h_ => h_.1))) hb); have n1_ := Aside0.mk (blk_below (g := gb106) (o := .cells #[.int .i64 t101, .slice Ao39 t102.length co39] 24 (0, 0)) (by (with_reducible repeat (first | refine blk_drewN ?_ _ | refine blk_drew ?_ | refine blk_alloc ?_ _)); refine blk_put (cs := #[.int .i64 t101, .slice none 0 0]) ?_ 1 _ rfl; (with_reducible repeat (first | refine blk_drewN ?_ _ | refine blk_drew ?_ | refine blk_alloc ?_ _)); refine blk_put (cs := #[.int .i64 0, .slice none 0 0]) ?_ 0 _ rfl; (with_reducible repeat (first | refine blk_drewN ?_ _ | refine blk_drew ?_ | refine blk_alloc ?_ _)); exact BK106.out) hb); have n2_ := Aside0.mk (below_step (by repeat (first | (with_reducible first | exact HB.out | apply below_alloc | apply pw_below_drewN | apply below_drew1 | refine below_set ?_ GE106.out) | exact HB.out)) hb); clear HO104; clear BK106; clear HB; have HO104 := n0_; have BK106 := n1_; have HB := n2_; clear n0_ n1_ n2_; (try clear hb); (try clear hb2); (try clear hk); (try clear hi); have hcz41_0 : w40.cell? ⟨gb106, 0, none⟩ = some (.int .i64 t101) := (blk_cell BK106.out 0).trans rfl; have hcz41_1 : w40.cell? ⟨gb106, 1, none⟩ = some (.slice Ao39 t102.length co39) := (blk_cell BK106.out 1).trans rfl; have hfz41_0 := blk_frozen BK106.out 0; have hfz41_1 := blk_frozen BK106.out 1) | ((with_reducible refine gate_callee (f := 38) rfl ?_); refine goesL_ (some 23) rfl rfl Try.func38 (by kernel_rfl) rfl #[.agg #[.int .i64 t101, .slice Ao39 t102.length co39], .int .i64 1, .agg #[.bool false, .string (⟨#[]⟩ : ByteArray)]] rfl (by (try simp only [List.map_toArray, List.map_cons, List.map_nil]); first | done | rfl | (simp only [List.length_drop, List.length_take]; rfl)) ?_; (with_reducible refine (slabPut.calls t101 _ _ t102 1 false (⟨#[]⟩ : ByteArray) t109 t110 t113 _ ?side1 ?side2 A3.out).mono ?_); (case side1 => repeat (first | exact (Kd.R_reads' HO104.out).2.2 | (with_reducible refine Kd.C_alloc ?_ _) | (with_reducible refine Kd.C_drewN ?_ _) | (with_reducible refine Kd.C_drew ?_))); (case side2 => exact (Kd.R_reads' HO104.out).2.1); rintro e w42 ⟨v111, rfl, ho0, hb⟩; refine ⟨_, rfl, ?_⟩; have n0_ := Aside0.mk (Kd.R_elder' (by (with_reducible repeat (first | apply Kd.R_alloc | apply Kd.R_drewN | apply Kd.R_drew)); exact HO104.out) (Kd.R_base ho0) hb); have n1_ := Aside0.mk (Kd.R_lower (Kd.R_new' ho0 (Kd.R_lt (by (with_reducible repeat (first | apply Kd.R_alloc | apply Kd.R_drewN | apply Kd.R_drew)); exact HO104.out))) (below_size (by repeat (first | (with_reducible first | exact HB.out | apply below_alloc | apply pw_below_drewN | apply below_drew1 | refine below_set ?_ GE106.out) | exact HB.out)))); have n2_ := Aside0.mk (blk_below (g := gb106) (o := .cells #[.int .i64 t101, .slice Ao39 t102.length co39] 24 (0, 0)) (by (with_reducible repeat (first | refine blk_drewN ?_ _ | refine blk_drew ?_ | refine blk_alloc ?_ _)); exact BK106.out) hb); have n3_ := Aside0.mk (below_step (by repeat (first | (with_reducible first | exact HB.out | apply below_alloc | apply pw_below_drewN | apply below_drew1 | refine below_set ?_ GE106.out) | exact HB.out)) hb); clear HO104; clear BK106; clear HB; have HO104 := n0_; have HO112 := n1_; have BK106 := n2_; have HB := n3_; clear n0_ n1_ n2_ n3_; (try clear hb); (try clear hb2); (try clear hk); (try clear hi); (try clear ho0)) | ((with_reducible refine gate_dst (N := 5) rfl ?_); (try (refine gate_guard (by rfl) ?_; dsimp only)); refine box_event ?hg (N := 5) ?hd (cs := #[.int .i64 0, .slice none 0 0]) (t := 24) ?hr ?_; (case hd => rfl); (case hg => rfl); (case hr => first | (go_simp; done) | (go_simp; rfl)); intro gb114 hg w43 hbox hb; have n0_ := Aside0.mk (Kd.R_below (by (with_reducible repeat (first | apply Kd.R_alloc | apply Kd.R_drewN | apply Kd.R_drew)); exact HO104.out) hb); have n1_ := Aside0.mk (Kd.R_below (by (with_reducible repeat (first | apply Kd.R_alloc | apply Kd.R_drewN | apply Kd.R_drew)); exact HO112.out) hb); have n2_ := Aside0.mk (blk_below (g := gb106) (o := .cells #[.int .i64 t101, .slice Ao39 t102.length co39] 24 (0, 0)) (by (with_reducible repeat (first | refine blk_drewN ?_ _ | refine blk_drew ?_ | refine blk_alloc ?_ _)); exact BK106.out) hb); have n3_ := Aside0.mk (below_step (by repeat (first | (with_reducible first | exact HB.out | apply below_alloc | apply pw_below_drewN | apply below_drew1 | refine below_set ?_ GE106.out) | exact HB.out)) hb); have n4_ := Aside0.mk (hbox); have n5_ := Aside0.mk ((by rw [hg]; exact (below_size (by repeat (first | (with_reducible first | exact HB.out | apply below_alloc | apply pw_below_drewN | apply below_drew1 | refine below_set ?_ GE106.out) | exact HB.out))) : w.heap.size ≤ gb114)); have n6_ := Aside0.mk ((by rw [hg]; exact (below_size (by repeat (first | (with_reducible first | exact HB.out | apply below_alloc | apply pw_below_drewN | apply below_drew1 | refine below_set ?_ GE106.out) | exact HB.out))) : w.heap.size ≤ gb114)); have n7_ := Aside0.mk ((by rw [hg]; exact Nat.ne_of_lt (blk_lt (g := gb106) (o := .cells #[.int .i64 t101, .slice Ao39 t102.length co39] 24 (0, 0)) (by (with_reducible repeat (first | refine blk_drewN ?_ _ | refine blk_drew ?_ | refine blk_alloc ?_ _)); exact BK106.out)) : gb106 ≠ gb114)); have n8_ := Aside0.mk ((by rw [hg]; exact Nat.ne_of_gt (blk_lt (g := gb106) (o := .cells #[.int .i64 t101, .slice Ao39 t102.length co39] 24 (0, 0)) (by (with_reducible repeat (first | refine blk_drewN ?_ _ | refine blk_drew ?_ | refine blk_alloc ?_ _)); exact BK106.out)) : gb114 ≠ gb106)); clear HO104; clear HO112; clear BK106; clear HB; have HO104 := n0_; have HO112 := n1_; have BK106 := n2_; have HB := n3_; have BK114 := n4_; have GW114 := n5_; have GE114 := n6_; have NB106_114 := n7_; have NB114_106 := n8_; clear n0_ n1_ n2_ n3_ n4_ n5_ n6_ n7_ n8_; clear hb hbox hg; have hnb44 := NB114_106.out; have hnc44 := NB106_114.out; have hcz45_0 : w43.cell? ⟨gb114, 0, none⟩ = some (.int .i64 0) := (blk_cell BK114.out 0).trans rfl; have hcz45_1 : w43.cell? ⟨gb114, 1, none⟩ = some (.slice none 0 0) := (blk_cell BK114.out 1).trans rfl; have hfz45_0 := blk_frozen BK114.out 0; have hfz45_1 := blk_frozen BK114.out 1; obtain ⟨Ao46, co46, eo46⟩ := Kd.R_slice HO112.out; subst eo46; have hcz47_0 : w43.cell? ⟨gb106, 0, none⟩ = some (.int .i64 t101) := (blk_cell BK106.out 0).trans rfl; have hcz47_1 : w43.cell? ⟨gb106, 1, none⟩ = some (.slice Ao39 t102.length co39) := (blk_cell BK106.out 1).trans rfl; have hfz47_0 := blk_frozen BK106.out 0; have hfz47_1 := blk_frozen BK106.out 1) | ((with_reducible refine gate_callee (f := 43) rfl ?_); refine goesL_ (some 28) rfl rfl Try.func43 (by kernel_rfl) rfl #[.agg #[.int .i64 t101, .slice Ao39 t102.length co39], .int .i64 5] rfl (by (try simp only [List.map_toArray, List.map_cons, List.map_nil]); first | done | rfl | (simp only [List.length_drop, List.length_take]; rfl)) ?_; (with_reducible refine (slabVac.calls t101 _ _ t102 5 t115 t116 _ ?side1 ?side2 A4.out).mono ?_); (case side1 => refine (Kd.R_reads' (e := 33) (base := w.heap.size) (ok := fun k_ => (True ∧ some k_ ≠ (.slice Ao46 t110.length co46 : Value).ownBlock)) (n := t102.length) (c := co39) ?_).2.2; exact (by (with_reducible repeat (first | apply Kd.R_alloc | apply Kd.R_drewN | apply Kd.R_drew)); exact (Kd.R_mono (Kd.R_far (p := ⟨gb114, 1, none⟩) (Kd.R_far (p := ⟨gb114, 0, none⟩) (Kd.R_types HO104.out BK114.out (by decide)) (fun _ hk => hk.2) (.int .i64 t109)) (fun _ hk => hk.2) (.slice Ao46 t110.length co46)) (fun _ h_ => h_.1)))); (case side2 => exact (Kd.R_reads' HO104.out).2.1); rintro e w48 ⟨rfl, hb⟩; refine ⟨_, rfl, ?_⟩; have n0_ := Aside0.mk (Kd.R_below (by (with_reducible repeat (first | apply Kd.R_alloc | apply Kd.R_drewN | apply Kd.R_drew)); exact (Kd.R_mono (Kd.R_far (p := ⟨gb114, 1, none⟩) (Kd.R_far (p := ⟨gb114, 0, none⟩) (Kd.R_types HO104.out BK114.out (by decide)) (fun _ hk => hk.2) (.int .i64 t109)) (fun _ hk => hk.2) (.slice Ao46 t110.length co46)) (fun _ h_ => h_.1))) hb); have n1_ := Aside0.mk (Kd.R_below (by (with_reducible repeat (first | apply Kd.R_alloc | apply Kd.R_drewN | apply Kd.R_drew)); exact (Kd.R_mono (Kd.R_far (p := ⟨gb114, 1, none⟩) (Kd.R_far (p := ⟨gb114, 0, none⟩) (Kd.R_types HO112.out BK114.out (by decide)) (fun _ hk => hk.2) (.int .i64 t109)) (fun _ hk => hk.2) (.slice Ao46 t110.length co46)) (fun _ h_ => h_.1))) hb); have n2_ := Aside0.mk (blk_below (g := gb106) (o := .cells #[.int .i64 t101, .slice Ao39 t102.length co39] 24 (0, 0)) (by (with_reducible repeat (first | refine blk_drewN ?_ _ | refine blk_drew ?_ | refine blk_alloc ?_ _)); refine blk_far ?_ NB106_114.out _; (with_reducible repeat (first | refine blk_drewN ?_ _ | refine blk_drew ?_ | refine blk_alloc ?_ _)); refine blk_far ?_ NB106_114.out _; (with_reducible repeat (first | refine blk_drewN ?_ _ | refine blk_drew ?_ | refine blk_alloc ?_ _)); exact BK106.out) hb); have n3_ := Aside0.mk (blk_below (g := gb114) (o := .cells #[.int .i64 t109, .slice Ao46 t110.length co46] 24 (0, 0)) (by (with_reducible repeat (first | refine blk_drewN ?_ _ | refine blk_drew ?_ | refine blk_alloc ?_ _)); refine blk_put (cs := #[.int .i64 t109, .slice none 0 0]) ?_ 1 _ rfl; (with_reducible repeat (first | refine blk_drewN ?_ _ | refine blk_drew ?_ | refine blk_alloc ?_ _)); refine blk_put (cs := #[.int .i64 0, .slice none 0 0]) ?_ 0 _ rfl; (with_reducible repeat (first | refine blk_drewN ?_ _ | refine blk_drew ?_ | refine blk_alloc ?_ _)); exact BK114.out) hb); have n4_ := Aside0.mk (below_step (by repeat (first | (with_reducible first | exact HB.out | apply below_alloc | apply pw_below_drewN | apply below_drew1 | refine below_set ?_ GE106.out | refine below_set ?_ GE114.out) | exact HB.out)) hb); clear HO104; clear HO112; clear BK106; clear BK114; clear HB; have HO104 := n0_; have HO112 := n1_; have BK106 := n2_; have BK114 := n3_; have HB := n4_; clear n0_ n1_ n2_ n3_ n4_; (try clear hb); (try clear hb2); (try clear hk); (try clear hi); have hcz49_0 : w48.cell? ⟨gb106, 0, none⟩ = some (.int .i64 t101) := (blk_cell BK106.out 0).trans rfl; have hcz49_1 : w48.cell? ⟨gb106, 1, none⟩ = some (.slice Ao39 t102.length co39) := (blk_cell BK106.out 1).trans rfl; have hfz49_0 := blk_frozen BK106.out 0; have hfz49_1 := blk_frozen BK106.out 1; have p117 : 0 ≤ (0 : Int) := (by omega); have q117 : 0 < (t102.length : Int) := of_decide_eq_true (by first | (with_reducible assumption) | assumption); obtain ⟨ad117, e117, hx117_0, hx117_1⟩ := at_T33 (Kd.R_reads' HO104.out).2.2 0 p117 q117; (try rw [← Nbq8.out] at hx117_0); cases e117; have qi117 : (0 < t102.length) = True := eq_true (by omega); (try rw [show ((0 : Int)).toNat = 0 from rfl] at hx117_0); (try rw [show 0 * 2 = 0 from rfl] at hx117_0); (try rw [Addr.add_zero'] at hx117_0); (try rw [show ((0 : Int)).toNat = 0 from rfl] at hx117_1); (try rw [show 0 * 2 = 0 from rfl] at hx117_1); (try rw [Addr.add_zero'] at hx117_1); replace p117 := eq_true p117; replace q117 := eq_true q117) | (go_at_call 36; (with_reducible refine (slabSz.calls t101 _ _ t102 t118 _ ?side1 ?side2 A24.out).mono ?_); (case side1 => repeat (first | exact (Kd.R_reads' HO104.out).2.2 | (with_reducible refine Kd.C_alloc ?_ _) | (with_reducible refine Kd.C_drewN ?_ _) | (with_reducible refine Kd.C_drew ?_))); (case side2 => exact (Kd.R_reads' HO104.out).2.1); rintro e w50 ⟨rfl, hb⟩; have n0_ := Aside0.mk (Kd.R_below (by (with_reducible repeat (first | apply Kd.R_alloc | apply Kd.R_drewN | apply Kd.R_drew)); exact HO104.out) hb); have n1_ := Aside0.mk (Kd.R_below (by (with_reducible repeat (first | apply Kd.R_alloc | apply Kd.R_drewN | apply Kd.R_drew)); exact HO112.out) hb); have n2_ := Aside0.mk (blk_below (g := gb106) (o := .cells #[.int .i64 t101, .slice (some ad117) t102.length co39] 24 (0, 0)) (by (with_reducible repeat (first | refine blk_drewN ?_ _ | refine blk_drew ?_ | refine blk_alloc ?_ _)); exact BK106.out) hb); have n3_ := Aside0.mk (blk_below (g := gb114) (o := .cells #[.int .i64 t109, .slice Ao46 t110.length co46] 24 (0, 0)) (by (with_reducible repeat (first | refine blk_drewN ?_ _ | refine blk_drew ?_ | refine blk_alloc ?_ _)); exact BK114.out) hb); have n4_ := Aside0.mk (below_step (by repeat (first | (with_reducible first | exact HB.out | apply below_alloc | apply pw_below_drewN | apply below_drew1 | refine below_set ?_ GE106.out | refine below_set ?_ GE114.out) | exact HB.out)) hb); clear HO104; clear HO112; clear BK106; clear BK114; clear HB; have HO104 := n0_; have HO112 := n1_; have BK106 := n2_; have BK114 := n3_; have HB := n4_; clear n0_ n1_ n2_ n3_ n4_; (try clear hb); (try clear hb2); (try clear hk); (try clear hi); have hcz51_0 : w50.cell? ⟨gb114, 0, none⟩ = some (.int .i64 t109) := (blk_cell BK114.out 0).trans rfl; have hcz51_1 : w50.cell? ⟨gb114, 1, none⟩ = some (.slice Ao46 t110.length co46) := (blk_cell BK114.out 1).trans rfl; have hfz51_0 := blk_frozen BK114.out 0; have hfz51_1 := blk_frozen BK114.out 1) | (go_at_call 34; (with_reducible refine (slabGood.calls t109 _ _ t110 t119 _ ?side1 ?side2 A35.out).mono ?_); (case side1 => repeat (first | exact (Kd.R_reads' HO112.out).2.2 | (with_reducible refine Kd.C_alloc ?_ _) | (with_reducible refine Kd.C_drewN ?_ _) | (with_reducible refine Kd.C_drew ?_))); (case side2 => exact (Kd.R_reads' HO112.out).2.1); rintro e w52 ⟨rfl, hb⟩; have n0_ := Aside0.mk (Kd.R_below (by (with_reducible repeat (first | apply Kd.R_alloc | apply Kd.R_drewN | apply Kd.R_drew)); exact HO104.out) hb); have n1_ := Aside0.mk (Kd.R_below (by (with_reducible repeat (first | apply Kd.R_alloc | apply Kd.R_drewN | apply Kd.R_drew)); exact HO112.out) hb); have n2_ := Aside0.mk (blk_below (g := gb106) (o := .cells #[.int .i64 t101, .slice (some ad117) t102.length co39] 24 (0, 0)) (by (with_reducible repeat (first | refine blk_drewN ?_ _ | refine blk_drew ?_ | refine blk_alloc ?_ _)); exact BK106.out) hb); have n3_ := Aside0.mk (blk_below (g := gb114) (o := .cells #[.int .i64 t109, .slice Ao46 t110.length co46] 24 (0, 0)) (by (with_reducible repeat (first | refine blk_drewN ?_ _ | refine blk_drew ?_ | refine blk_alloc ?_ _)); exact BK114.out) hb); have n4_ := Aside0.mk (below_step (by repeat (first | (with_reducible first | exact HB.out | apply below_alloc | apply pw_below_drewN | apply below_drew1 | refine below_set ?_ GE106.out | refine below_set ?_ GE114.out) | exact HB.out)) hb); clear HO104; clear HO112; clear BK106; clear BK114; clear HB; have HO104 := n0_; have HO112 := n1_; have BK106 := n2_; have BK114 := n3_; have HB := n4_; clear n0_ n1_ n2_ n3_ n4_; (try clear hb); (try clear hb2); (try clear hk); (try clear hi)))
                              go_ret
                              exact ⟨by first | rfl | (simp [errW_none, errW_some] <;> rfl) | (simp [*, errW_none, errW_some] <;> rfl), by repeat (first | (with_reducible first | exact HB.out | apply below_alloc | apply pw_below_drewN | apply below_drew1 | refine below_set ?_ GE106.out | refine below_set ?_ GE114.out) | exact HB.out)⟩
                            · exfalso; have q_ := Option.some.inj (A1.out.symm.trans v30_1); simp only [Prod.mk.injEq] at q_; obtain ⟨rfl, rfl, rfl⟩ := q_; have q_ := Option.some.inj (A2.out.symm.trans v30_2); simp only [Prod.mk.injEq] at q_; obtain ⟨rfl, rfl⟩ := q_; have q_ := Option.some.inj (A3.out.symm.trans v30_3); simp only [Prod.mk.injEq] at q_; obtain ⟨rfl, rfl, rfl⟩ := q_; have q_ := Option.some.inj (A4.out.symm.trans v30_4); simp only [Prod.mk.injEq] at q_; obtain ⟨rfl, rfl⟩ := q_; have q_ := Option.some.inj (A24.out.symm.trans v30_24); subst q_; exact c34 (by decide +kernel)
                          · exfalso; have q_ := Option.some.inj (A1.out.symm.trans v30_1); simp only [Prod.mk.injEq] at q_; obtain ⟨rfl, rfl, rfl⟩ := q_; have q_ := Option.some.inj (A2.out.symm.trans v30_2); simp only [Prod.mk.injEq] at q_; obtain ⟨rfl, rfl⟩ := q_; have q_ := Option.some.inj (A3.out.symm.trans v30_3); simp only [Prod.mk.injEq] at q_; obtain ⟨rfl, rfl, rfl⟩ := q_; have q_ := Option.some.inj (A4.out.symm.trans v30_4); simp only [Prod.mk.injEq] at q_; obtain ⟨rfl, rfl⟩ := q_; have q_ := Option.some.inj (A24.out.symm.trans v30_24); subst q_; exact c33 (by decide +kernel)
                        · exfalso; have q_ := Option.some.inj (A1.out.symm.trans v30_1); simp only [Prod.mk.injEq] at q_; obtain ⟨rfl, rfl, rfl⟩ := q_; have q_ := Option.some.inj (A2.out.symm.trans v30_2); simp only [Prod.mk.injEq] at q_; obtain ⟨rfl, rfl⟩ := q_; have q_ := Option.some.inj (A3.out.symm.trans v30_3); simp only [Prod.mk.injEq] at q_; obtain ⟨rfl, rfl, rfl⟩ := q_; have q_ := Option.some.inj (A4.out.symm.trans v30_4); simp only [Prod.mk.injEq] at q_; obtain ⟨rfl, rfl⟩ := q_; have q_ := Option.some.inj (A24.out.symm.trans v30_24); subst q_; exact c32 (by decide +kernel)
                      · exfalso; have q_ := Option.some.inj (A1.out.symm.trans v30_1); simp only [Prod.mk.injEq] at q_; obtain ⟨rfl, rfl, rfl⟩ := q_; have q_ := Option.some.inj (A2.out.symm.trans v30_2); simp only [Prod.mk.injEq] at q_; obtain ⟨rfl, rfl⟩ := q_; have q_ := Option.some.inj (A3.out.symm.trans v30_3); simp only [Prod.mk.injEq] at q_; obtain ⟨rfl, rfl, rfl⟩ := q_; have q_ := Option.some.inj (A4.out.symm.trans v30_4); simp only [Prod.mk.injEq] at q_; obtain ⟨rfl, rfl⟩ := q_; have q_ := Option.some.inj (A24.out.symm.trans v30_24); subst q_; exact c31 (by decide +kernel)
                    · exfalso; have q_ := Option.some.inj (A1.out.symm.trans v30_1); simp only [Prod.mk.injEq] at q_; obtain ⟨rfl, rfl, rfl⟩ := q_; have q_ := Option.some.inj (A2.out.symm.trans v30_2); simp only [Prod.mk.injEq] at q_; obtain ⟨rfl, rfl⟩ := q_; have q_ := Option.some.inj (A3.out.symm.trans v30_3); simp only [Prod.mk.injEq] at q_; obtain ⟨rfl, rfl, rfl⟩ := q_; have q_ := Option.some.inj (A4.out.symm.trans v30_4); simp only [Prod.mk.injEq] at q_; obtain ⟨rfl, rfl⟩ := q_; have q_ := Option.some.inj (A24.out.symm.trans v30_24); subst q_; exact c30 (by decide +kernel)
                  · exfalso; have q_ := Option.some.inj (A1.out.symm.trans v30_1); simp only [Prod.mk.injEq] at q_; obtain ⟨rfl, rfl, rfl⟩ := q_; have q_ := Option.some.inj (A2.out.symm.trans v30_2); simp only [Prod.mk.injEq] at q_; obtain ⟨rfl, rfl⟩ := q_; have q_ := Option.some.inj (A3.out.symm.trans v30_3); simp only [Prod.mk.injEq] at q_; obtain ⟨rfl, rfl, rfl⟩ := q_; have q_ := Option.some.inj (A4.out.symm.trans v30_4); simp only [Prod.mk.injEq] at q_; obtain ⟨rfl, rfl⟩ := q_; have q_ := Option.some.inj (A24.out.symm.trans v30_24); subst q_; exact c29 (by decide +kernel)
                · exfalso; have q_ := Option.some.inj (A1.out.symm.trans v30_1); simp only [Prod.mk.injEq] at q_; obtain ⟨rfl, rfl, rfl⟩ := q_; have q_ := Option.some.inj (A2.out.symm.trans v30_2); simp only [Prod.mk.injEq] at q_; obtain ⟨rfl, rfl⟩ := q_; have q_ := Option.some.inj (A3.out.symm.trans v30_3); simp only [Prod.mk.injEq] at q_; obtain ⟨rfl, rfl, rfl⟩ := q_; have q_ := Option.some.inj (A4.out.symm.trans v30_4); simp only [Prod.mk.injEq] at q_; obtain ⟨rfl, rfl⟩ := q_; have q_ := Option.some.inj (A24.out.symm.trans v30_24); subst q_; exact c28 (by decide +kernel)
              · exfalso; have q_ := Option.some.inj (A1.out.symm.trans v30_1); simp only [Prod.mk.injEq] at q_; obtain ⟨rfl, rfl, rfl⟩ := q_; have q_ := Option.some.inj (A2.out.symm.trans v30_2); simp only [Prod.mk.injEq] at q_; obtain ⟨rfl, rfl⟩ := q_; have q_ := Option.some.inj (A3.out.symm.trans v30_3); simp only [Prod.mk.injEq] at q_; obtain ⟨rfl, rfl, rfl⟩ := q_; have q_ := Option.some.inj (A4.out.symm.trans v30_4); simp only [Prod.mk.injEq] at q_; obtain ⟨rfl, rfl⟩ := q_; have q_ := Option.some.inj (A24.out.symm.trans v30_24); subst q_; exact c27 (by decide +kernel)
            · exfalso; have q_ := Option.some.inj (A1.out.symm.trans v30_1); simp only [Prod.mk.injEq] at q_; obtain ⟨rfl, rfl, rfl⟩ := q_; have q_ := Option.some.inj (A2.out.symm.trans v30_2); simp only [Prod.mk.injEq] at q_; obtain ⟨rfl, rfl⟩ := q_; have q_ := Option.some.inj (A3.out.symm.trans v30_3); simp only [Prod.mk.injEq] at q_; obtain ⟨rfl, rfl, rfl⟩ := q_; have q_ := Option.some.inj (A4.out.symm.trans v30_4); simp only [Prod.mk.injEq] at q_; obtain ⟨rfl, rfl⟩ := q_; have q_ := Option.some.inj (A24.out.symm.trans v30_24); subst q_; exact c26 (by decide +kernel)
          · exfalso; have q_ := Option.some.inj (A1.out.symm.trans v30_1); simp only [Prod.mk.injEq] at q_; obtain ⟨rfl, rfl, rfl⟩ := q_; have q_ := Option.some.inj (A2.out.symm.trans v30_2); simp only [Prod.mk.injEq] at q_; obtain ⟨rfl, rfl⟩ := q_; have q_ := Option.some.inj (A3.out.symm.trans v30_3); simp only [Prod.mk.injEq] at q_; obtain ⟨rfl, rfl, rfl⟩ := q_; have q_ := Option.some.inj (A4.out.symm.trans v30_4); simp only [Prod.mk.injEq] at q_; obtain ⟨rfl, rfl⟩ := q_; have q_ := Option.some.inj (A24.out.symm.trans v30_24); subst q_; exact c25 (by decide +kernel)
      · exfalso; have q_ := Option.some.inj (A1.out.symm.trans v30_1); simp only [Prod.mk.injEq] at q_; obtain ⟨rfl, rfl, rfl⟩ := q_; have q_ := Option.some.inj (A2.out.symm.trans v30_2); simp only [Prod.mk.injEq] at q_; obtain ⟨rfl, rfl⟩ := q_; have q_ := Option.some.inj (A3.out.symm.trans v30_3); simp only [Prod.mk.injEq] at q_; obtain ⟨rfl, rfl, rfl⟩ := q_; have q_ := Option.some.inj (A4.out.symm.trans v30_4); simp only [Prod.mk.injEq] at q_; obtain ⟨rfl, rfl⟩ := q_; exact c7 (by decide +kernel)
    · exfalso; have q_ := Option.some.inj (A1.out.symm.trans v30_1); simp only [Prod.mk.injEq] at q_; obtain ⟨rfl, rfl, rfl⟩ := q_; have q_ := Option.some.inj (A2.out.symm.trans v30_2); simp only [Prod.mk.injEq] at q_; obtain ⟨rfl, rfl⟩ := q_; have q_ := Option.some.inj (A3.out.symm.trans v30_3); simp only [Prod.mk.injEq] at q_; obtain ⟨rfl, rfl, rfl⟩ := q_; have q_ := Option.some.inj (A4.out.symm.trans v30_4); simp only [Prod.mk.injEq] at q_; obtain ⟨rfl, rfl⟩ := q_; exact c6 (by decide +kernel)
  · exfalso; have q_ := Option.some.inj (A1.out.symm.trans v30_1); simp only [Prod.mk.injEq] at q_; obtain ⟨rfl, rfl, rfl⟩ := q_; have q_ := Option.some.inj (A2.out.symm.trans v30_2); simp only [Prod.mk.injEq] at q_; obtain ⟨rfl, rfl⟩ := q_; have q_ := Option.some.inj (A3.out.symm.trans v30_3); simp only [Prod.mk.injEq] at q_; obtain ⟨rfl, rfl, rfl⟩ := q_; have q_ := Option.some.inj (A4.out.symm.trans v30_4); simp only [Prod.mk.injEq] at q_; obtain ⟨rfl, rfl⟩ := q_; exact c5 (by decide +kernel)
end Go.Proofs.Ytfjmnaobfbmllaa.M

namespace Go.Proofs.Ytfjmnaobfbmllaa.M
open Go.RowKit Go.Proofs.YtfjmnaobfbmllaaW.PrintWords Go.Proofs.YtfjmnaobfbmllaaW.PrintLast Go.Proofs.YtfjmnaobfbmllaaW.PrintMore
theorem awake3_pure : seneschallaw03_awake.f = some true := by decide +kernel
def awake3.f : Option Bool := some true
theorem awake3.calls (r : Bool) (w : World) (h : awake3.f = some r) : Calls Try.prog 30 #[] w fun e w' => e = .returned (.bool r) ∧ Below w.heap.size w w' :=
  seneschallaw03_awake.calls r w (by rw [awake3_pure]; exact h)
end Go.Proofs.Ytfjmnaobfbmllaa.M

namespace Go.Proofs.Ytfjmnaobfbmllaa.M
open Go.RowKit Go.Proofs.YtfjmnaobfbmllaaW.PrintWords Go.Proofs.YtfjmnaobfbmllaaW.PrintLast Go.Proofs.YtfjmnaobfbmllaaW.PrintMore
attribute [local go_sem] max2_int min2_int max_two min_two max_three min_three max_four min_four   -- for this text's walks alone
set_option linter.unusedVariables false
set_option linter.unusedSimpArgs false

/-! ### seneschallaw03_SlabBack: function 25 -/
mutual
def seneschallaw03_SlabBack.j0 : Nat → ByteArray → Bool → Int → List (S33) → Int → List (S33) → Option (Bool)
  | 0, _, _, _, _, _, _ => none
  | k + 1, x2, x24, x102000, x102001, x103000, x103001 => if x24 = true then (some true) else ((slab_Encode.f x102000 x102001).bind fun bt106 => ((slab_Encode.f x103000 x103001).bind fun bt108 => ((slabGood.f x102000 x102001).bind fun t110 => (if ((bt106.2 == 0) != t110) = true then (seneschallaw03_SlabBack.j1 k x2 bt106.1 bt106.2 true x102000 x102001) else (if bt106.2 = 0 then (if bt108.2 = 0 then ((refSame.f x102000 x102001 x103000 x103001).bind fun t111 => (seneschallaw03_SlabBack.j1 k x2 bt106.1 bt106.2 ((bt106.1.toList == bt108.1.toList) != t111) x102000 x102001)) else (seneschallaw03_SlabBack.j1 k x2 bt106.1 bt106.2 false x102000 x102001)) else (seneschallaw03_SlabBack.j1 k x2 bt106.1 bt106.2 false x102000 x102001))))))
def seneschallaw03_SlabBack.j1 : Nat → ByteArray → ByteArray → Int → Bool → Int → List (S33) → Option (Bool)
  | 0, _, _, _, _, _, _ => none
  | k + 1, x2, x7, x8, x56, x102000, x102001 => if x56 = true then (some false) else (if x8 = 0 then ((slabDec.f x7).bind fun bt112 => (if bt112.2.2 = 0 then ((refSame.f bt112.1 bt112.2.1 x102000 x102001).bind fun t118 => (if t118 = true then (seneschallaw03_SlabBack.j2 k x2) else (some false))) else (some false))) else (seneschallaw03_SlabBack.j2 k x2))
def seneschallaw03_SlabBack.j2 : Nat → ByteArray → Option (Bool)
  | 0, _ => none
  | k + 1, x2 => (slabDec.f x2).bind fun bt119 => (if bt119.2.2 = 0 then ((slab_Encode.f bt119.1 bt119.2.1).bind fun bt125 => (if bt125.1.toList = x2.toList then (some (bt125.2 == 0)) else (some false))) else (if bt119.2.2 = 4 then ((refSame.f bt119.1 bt119.2.1 0 ([] : List (S33))).bind fun t127 => (some t127)) else (some false)))
end
def seneschallaw03_SlabBack.f (k : Nat) (a0_0 : Int) (l0_1 : List (S33)) (a1_0 : Int) (l1_1 : List (S33)) (a2 : ByteArray) : Option (Bool) := (awake3.f).bind fun t103 => (if t103 = true then ((great3.f a0_0 l0_1).bind fun t104 => (if t104 = true then (seneschallaw03_SlabBack.j0 k a2 true a0_0 l0_1 a1_0 l1_1) else ((great3.f a1_0 l1_1).bind fun t105 => (seneschallaw03_SlabBack.j0 k a2 t105 a0_0 l0_1 a1_0 l1_1)))) else (some false))
set_option maxHeartbeats 8000000 in
set_option maxRecDepth 100000 in
theorem seneschallaw03_SlabBack.calls (k : Nat) (a0_0 : Int) (A0_1 : Option Addr) (c0_1 : Nat) (l0_1 : List (S33)) (a1_0 : Int) (A1_1 : Option Addr) (c1_1 : Nat) (l1_1 : List (S33)) (a2 : ByteArray) (r : Bool) (hrt : r = true) (w : World) (hr0_1 : Kd.C k33 w A0_1 l0_1.length l0_1) (hc0_1 : l0_1.length ≤ c0_1) (hr1_1 : Kd.C k33 w A1_1 l1_1.length l1_1) (hc1_1 : l1_1.length ≤ c1_1) (h : seneschallaw03_SlabBack.f k a0_0 l0_1 a1_0 l1_1 a2 = some r) :
    Calls Try.prog 25 #[.agg #[.int .i64 a0_0, .slice A0_1 l0_1.length c0_1], .agg #[.int .i64 a1_0, .slice A1_1 l1_1.length c1_1], .string a2] w fun e w' => e = .returned (.bool r) ∧ Below w.heap.size w w' := by
  have HRT := Aside0.mk hrt
  clear hrt
  have hu24 := Try.underlying24
  have HR0_1 := Aside0.mk hr0_1
  have HC0_1 := Aside0.mk hc0_1
  clear hr0_1 hc0_1
  have HR1_1 := Aside0.mk hr1_1
  have HC1_1 := Aside0.mk hc1_1
  clear hr1_1 hc1_1
  have HB := Aside0.mk (Below.refl w.heap.size w)
  have H : ((awake3.f).bind fun t103 => (if t103 = true then ((great3.f a0_0 l0_1).bind fun t104 => (if t104 = true then (seneschallaw03_SlabBack.j0 k a2 true a0_0 l0_1 a1_0 l1_1) else ((great3.f a1_0 l1_1).bind fun t105 => (seneschallaw03_SlabBack.j0 k a2 t105 a0_0 l0_1 a1_0 l1_1)))) else (some false))) = some r := h
  clear h
  replace H := Option.bind_eq_some_iff.mp H
  obtain ⟨t103, A40, H⟩ := H
  replace H : (if t103 = true then ((great3.f a0_0 l0_1).bind fun t104 => (if t104 = true then (seneschallaw03_SlabBack.j0 k a2 true a0_0 l0_1 a1_0 l1_1) else ((great3.f a1_0 l1_1).bind fun t105 => (seneschallaw03_SlabBack.j0 k a2 t105 a0_0 l0_1 a1_0 l1_1)))) else (some false)) = some r := H
  have A4 := Aside0.mk A40
  clear A40
  by_cases c5 : t103 = true
  · subst c5
    have H1 : ((great3.f a0_0 l0_1).bind fun t104 => (if t104 = true then (seneschallaw03_SlabBack.j0 k a2 true a0_0 l0_1 a1_0 l1_1) else ((great3.f a1_0 l1_1).bind fun t105 => (seneschallaw03_SlabBack.j0 k a2 t105 a0_0 l0_1 a1_0 l1_1)))) = some r := by rw [if_pos rfl] at H; exact H
    clear H
    have H := H1
    clear H1
    have HC6 := Aside0.mk H
    clear H
    go_enter Try.func25, Try.ntmps25
    go_upto_region 3 with (first | ((with_reducible refine gate_dst (N := 3) rfl ?_); refine box_event ?hg (N := 3) ?hd (cs := #[.int .i64 a0_0, .slice A0_1 l0_1.length c0_1]) (t := 24) ?hr ?_; (case hd => rfl); (case hg => rfl); (case hr => first | (go_simp; done) | (go_simp; rfl)); intro gb101 hg w7 hbox hb; have n0_ := Aside0.mk (below_step (by repeat (first | (with_reducible first | exact HB.out | apply below_alloc | apply pw_below_drewN | apply below_drew1) | exact HB.out)) hb); have n1_ := Aside0.mk (hbox); have n2_ := Aside0.mk ((by rw [hg]; exact (below_size (by repeat (first | (with_reducible first | exact HB.out | apply below_alloc | apply pw_below_drewN | apply below_drew1) | exact HB.out))) : w.heap.size ≤ gb101)); have n3_ := Aside0.mk ((by rw [hg]; exact (below_size (by repeat (first | (with_reducible first | exact HB.out | apply below_alloc | apply pw_below_drewN | apply below_drew1) | exact HB.out))) : w.heap.size ≤ gb101)); clear HB; have HB := n0_; have BK101 := n1_; have GW101 := n2_; have GE101 := n3_; clear n0_ n1_ n2_ n3_; clear hb hbox hg) | ((with_reducible refine gate_dst (N := 4) rfl ?_); refine box_event ?hg (N := 4) ?hd (cs := #[.int .i64 a1_0, .slice A1_1 l1_1.length c1_1]) (t := 24) ?hr ?_; (case hd => rfl); (case hg => rfl); (case hr => first | (go_simp; done) | (go_simp; rfl)); intro gb102 hg w8 hbox hb; have n0_ := Aside0.mk (blk_below (g := gb101) (o := .cells #[.int .i64 a0_0, .slice A0_1 l0_1.length c0_1] 24 (0, 0)) (by (with_reducible repeat (first | refine blk_drewN ?_ _ | refine blk_drew ?_ | refine blk_alloc ?_ _)); exact BK101.out) hb); have n1_ := Aside0.mk (below_step (by repeat (first | (with_reducible first | exact HB.out | apply below_alloc | apply pw_below_drewN | apply below_drew1 | refine below_set ?_ GE101.out) | exact HB.out)) hb); have n2_ := Aside0.mk (hbox); have n3_ := Aside0.mk ((by rw [hg]; exact (below_size (by repeat (first | (with_reducible first | exact HB.out | apply below_alloc | apply pw_below_drewN | apply below_drew1 | refine below_set ?_ GE101.out) | exact HB.out))) : w.heap.size ≤ gb102)); have n4_ := Aside0.mk ((by rw [hg]; exact (below_size (by repeat (first | (with_reducible first | exact HB.out | apply below_alloc | apply pw_below_drewN | apply below_drew1 | refine below_set ?_ GE101.out) | exact HB.out))) : w.heap.size ≤ gb102)); have n5_ := Aside0.mk ((by rw [hg]; exact Nat.ne_of_lt (blk_lt (g := gb101) (o := .cells #[.int .i64 a0_0, .slice A0_1 l0_1.length c0_1] 24 (0, 0)) (by (with_reducible repeat (first | refine blk_drewN ?_ _ | refine blk_drew ?_ | refine blk_alloc ?_ _)); exact BK101.out)) : gb101 ≠ gb102)); have n6_ := Aside0.mk ((by rw [hg]; exact Nat.ne_of_gt (blk_lt (g := gb101) (o := .cells #[.int .i64 a0_0, .slice A0_1 l0_1.length c0_1] 24 (0, 0)) (by (with_reducible repeat (first | refine blk_drewN ?_ _ | refine blk_drew ?_ | refine blk_alloc ?_ _)); exact BK101.out)) : gb102 ≠ gb101)); clear BK101; clear HB; have BK101 := n0_; have HB := n1_; have BK102 := n2_; have GW102 := n3_; have GE102 := n4_; have NB101_102 := n5_; have NB102_101 := n6_; clear n0_ n1_ n2_ n3_ n4_ n5_ n6_; clear hb hbox hg) | ((with_reducible refine gate_callee (f := 30) rfl ?_); refine goesL_ (some 17) rfl rfl Try.func30 (by kernel_rfl) rfl #[] rfl (by (try simp only [List.map_toArray, List.map_cons, List.map_nil]); first | done | rfl | (simp only [List.length_drop, List.length_take]; rfl)) ?_; (with_reducible refine (awake3.calls  true _ A4.out).mono ?_); rintro e w9 ⟨rfl, hb⟩; refine ⟨_, rfl, ?_⟩; have n0_ := Aside0.mk (blk_below (g := gb101) (o := .cells #[.int .i64 a0_0, .slice A0_1 l0_1.length c0_1] 24 (0, 0)) (by (with_reducible repeat (first | refine blk_drewN ?_ _ | refine blk_drew ?_ | refine blk_alloc ?_ _)); exact BK101.out) hb); have n1_ := Aside0.mk (blk_below (g := gb102) (o := .cells #[.int .i64 a1_0, .slice A1_1 l1_1.length c1_1] 24 (0, 0)) (by (with_reducible repeat (first | refine blk_drewN ?_ _ | refine blk_drew ?_ | refine blk_alloc ?_ _)); exact BK102.out) hb); have n2_ := Aside0.mk (below_step (by repeat (first | (with_reducible first | exact HB.out | apply below_alloc | apply pw_below_drewN | apply below_drew1 | refine below_set ?_ GE101.out | refine below_set ?_ GE102.out) | exact HB.out)) hb); clear BK101; clear BK102; clear HB; have BK101 := n0_; have BK102 := n1_; have HB := n2_; clear n0_ n1_ n2_; (try clear hb); (try clear hb2); (try clear hk); (try clear hi)))
    (try simp only [Act.put, List.setIfInBounds_toArray, List.set_cons_zero, List.set_cons_succ])
    go_cut [24] (fun v24 wc => ∃ (kq : Nat) (x24_5 : Bool), v24 = .bool x24_5 ∧ Aside0 (seneschallaw03_SlabBack.j0 kq a2 x24_5 a0_0 l0_1 a1_0 l1_1 = some r) ∧ Aside0 (kq ≤ k) ∧ Aside0 (wc.heap[gb101]? = some (.cells #[.int .i64 a0_0, (.slice A0_1 l0_1.length c0_1)] 24 (0, 0))) ∧ Aside0 (wc.heap[gb102]? = some (.cells #[.int .i64 a1_0, (.slice A1_1 l1_1.length c1_1)] 24 (0, 0))) ∧ Aside0 (Below w.heap.size w wc))
    case first =>
      have H := HC6.out
      clear HC6
      replace H := Option.bind_eq_some_iff.mp H
      obtain ⟨t104, A100, H⟩ := H
      replace H : (if t104 = true then (seneschallaw03_SlabBack.j0 k a2 true a0_0 l0_1 a1_0 l1_1) else ((great3.f a1_0 l1_1).bind fun t105 => (seneschallaw03_SlabBack.j0 k a2 t105 a0_0 l0_1 a1_0 l1_1))) = some r := H
      have A10 := Aside0.mk A100
      clear A100
      by_cases c11 : t104 = true
      · subst c11
        have H1 : (seneschallaw03_SlabBack.j0 k a2 true a0_0 l0_1 a1_0 l1_1) = some r := by rw [if_pos rfl] at H; exact H
        clear H
        have H := H1
        clear H1
        have H' := Aside0.mk H
        clear H
        have hnb12 := NB101_102.out
        have hnc12 := NB102_101.out
        have hcz13_0 : w9.cell? ⟨gb101, 0, none⟩ = some (.int .i64 a0_0) := (blk_cell BK101.out 0).trans rfl
        have hcz13_1 : w9.cell? ⟨gb101, 1, none⟩ = some (.slice A0_1 l0_1.length c0_1) := (blk_cell BK101.out 1).trans rfl
        have hfz13_0 := blk_frozen BK101.out 0
        have hfz13_1 := blk_frozen BK101.out 1
        go_wp2_with (first | ((with_reducible refine gate_callee (f := 31) rfl ?_); refine goesL_ (some 20) rfl rfl Try.func31 (by kernel_rfl) rfl #[.agg #[.int .i64 a0_0, .slice A0_1 l0_1.length c0_1]] rfl (by (try simp only [List.map_toArray, List.map_cons, List.map_nil]); first | done | rfl | (simp only [List.length_drop, List.length_take]; rfl)) ?_; (with_reducible refine (great3.calls a0_0 _ _ l0_1 true _ ?side1 ?side2 A10.out).mono ?_); (case side1 => repeat (first | exact (Kd.C_below HR0_1.out HB.out) | (with_reducible refine Kd.C_alloc ?_ _) | (with_reducible refine Kd.C_drewN ?_ _) | (with_reducible refine Kd.C_drew ?_))); (case side2 => exact HC0_1.out); rintro e w14 ⟨rfl, hb⟩; refine ⟨_, rfl, ?_⟩; have n0_ := Aside0.mk (blk_below (g := gb101) (o := .cells #[.int .i64 a0_0, .slice A0_1 l0_1.length c0_1] 24 (0, 0)) (by (with_reducible repeat (first | refine blk_drewN ?_ _ | refine blk_drew ?_ | refine blk_alloc ?_ _)); exact BK101.out) hb); have n1_ := Aside0.mk (blk_below (g := gb102) (o := .cells #[.int .i64 a1_0, .slice A1_1 l1_1.length c1_1] 24 (0, 0)) (by (with_reducible repeat (first | refine blk_drewN ?_ _ | refine blk_drew ?_ | refine blk_alloc ?_ _)); exact BK102.out) hb); have n2_ := Aside0.mk (below_step (by repeat (first | (with_reducible first | exact HB.out | apply below_alloc | apply pw_below_drewN | apply below_drew1 | refine below_set ?_ GE101.out | refine below_set ?_ GE102.out) | exact HB.out)) hb); clear BK101; clear BK102; clear HB; have BK101 := n0_; have BK102 := n1_; have HB := n2_; clear n0_ n1_ n2_; (try clear hb); (try clear hb2); (try clear hk); (try clear hi)))
        go_meet
        case rel => exact ⟨_, (true), (by first | rfl | (simp; done) | (simp [*]; done)), H', ⟨by first | omega | exact Nat.le_refl _⟩, ⟨by (with_reducible repeat (first | refine blk_drewN ?_ _ | refine blk_drew ?_ | refine blk_alloc ?_ _)); exact BK101.out⟩, ⟨by (with_reducible repeat (first | refine blk_drewN ?_ _ | refine blk_drew ?_ | refine blk_alloc ?_ _)); exact BK102.out⟩, ⟨by repeat (first | (with_reducible first | exact HB.out | apply below_alloc | apply pw_below_drewN | apply below_drew1 | refine below_set ?_ GE101.out | refine below_set ?_ GE102.out) | exact HB.out)⟩⟩
      · replace c11 := Bool.eq_false_iff.mpr c11
        subst c11
        have H1 : ((great3.f a1_0 l1_1).bind fun t105 => (seneschallaw03_SlabBack.j0 k a2 t105 a0_0 l0_1 a1_0 l1_1)) = some r := by rw [if_neg (show ¬ (false = true) by decide)] at H; exact H
        clear H
        have H := H1
        clear H1
        replace H := Option.bind_eq_some_iff.mp H
        obtain ⟨t105, A150, H⟩ := H
        replace H : (seneschallaw03_SlabBack.j0 k a2 t105 a0_0 l0_1 a1_0 l1_1) = some r := H
        have A15 := Aside0.mk A150
        clear A150
        have H' := Aside0.mk H
        clear H
        have hnb16 := NB101_102.out
        have hnc16 := NB102_101.out
        have hcz17_0 : w9.cell? ⟨gb101, 0, none⟩ = some (.int .i64 a0_0) := (blk_cell BK101.out 0).trans rfl
        have hcz17_1 : w9.cell? ⟨gb101, 1, none⟩ = some (.slice A0_1 l0_1.length c0_1) := (blk_cell BK101.out 1).trans rfl
        have hfz17_0 := blk_frozen BK101.out 0
        have hfz17_1 := blk_frozen BK101.out 1
        go_wp2_with (first | ((with_reducible refine gate_callee (f := 31) rfl ?_); refine goesL_ (some 20) rfl rfl Try.func31 (by kernel_rfl) rfl #[.agg #[.int .i64 a0_0, .slice A0_1 l0_1.length c0_1]] rfl (by (try simp only [List.map_toArray, List.map_cons, List.map_nil]); first | done | rfl | (simp only [List.length_drop, List.length_take]; rfl)) ?_; (with_reducible refine (great3.calls a0_0 _ _ l0_1 false _ ?side1 ?side2 A10.out).mono ?_); (case side1 => repeat (first | exact (Kd.C_below HR0_1.out HB.out) | (with_reducible refine Kd.C_alloc ?_ _) | (with_reducible refine Kd.C_drewN ?_ _) | (with_reducible refine Kd.C_drew ?_))); (case side2 => exact HC0_1.out); rintro e w18 ⟨rfl, hb⟩; refine ⟨_, rfl, ?_⟩; have n0_ := Aside0.mk (blk_below (g := gb101) (o := .cells #[.int .i64 a0_0, .slice A0_1 l0_1.length c0_1] 24 (0, 0)) (by (with_reducible repeat (first | refine blk_drewN ?_ _ | refine blk_drew ?_ | refine blk_alloc ?_ _)); exact BK101.out) hb); have n1_ := Aside0.mk (blk_below (g := gb102) (o := .cells #[.int .i64 a1_0, .slice A1_1 l1_1.length c1_1] 24 (0, 0)) (by (with_reducible repeat (first | refine blk_drewN ?_ _ | refine blk_drew ?_ | refine blk_alloc ?_ _)); exact BK102.out) hb); have n2_ := Aside0.mk (below_step (by repeat (first | (with_reducible first | exact HB.out | apply below_alloc | apply pw_below_drewN | apply below_drew1 | refine below_set ?_ GE101.out | refine below_set ?_ GE102.out) | exact HB.out)) hb); clear BK101; clear BK102; clear HB; have BK101 := n0_; have BK102 := n1_; have HB := n2_; clear n0_ n1_ n2_; (try clear hb); (try clear hb2); (try clear hk); (try clear hi); have hcz19_0 : w18.cell? ⟨gb102, 0, none⟩ = some (.int .i64 a1_0) := (blk_cell BK102.out 0).trans rfl; have hcz19_1 : w18.cell? ⟨gb102, 1, none⟩ = some (.slice A1_1 l1_1.length c1_1) := (blk_cell BK102.out 1).trans rfl; have hfz19_0 := blk_frozen BK102.out 0; have hfz19_1 := blk_frozen BK102.out 1) | (go_at_call 31; (with_reducible refine (great3.calls a1_0 _ _ l1_1 t105 _ ?side1 ?side2 A15.out).mono ?_); (case side1 => repeat (first | exact (Kd.C_below HR1_1.out HB.out) | (with_reducible refine Kd.C_alloc ?_ _) | (with_reducible refine Kd.C_drewN ?_ _) | (with_reducible refine Kd.C_drew ?_))); (case side2 => exact HC1_1.out); rintro e w20 ⟨rfl, hb⟩; have n0_ := Aside0.mk (blk_below (g := gb101) (o := .cells #[.int .i64 a0_0, .slice A0_1 l0_1.length c0_1] 24 (0, 0)) (by (with_reducible repeat (first | refine blk_drewN ?_ _ | refine blk_drew ?_ | refine blk_alloc ?_ _)); exact BK101.out) hb); have n1_ := Aside0.mk (blk_below (g := gb102) (o := .cells #[.int .i64 a1_0, .slice A1_1 l1_1.length c1_1] 24 (0, 0)) (by (with_reducible repeat (first | refine blk_drewN ?_ _ | refine blk_drew ?_ | refine blk_alloc ?_ _)); exact BK102.out) hb); have n2_ := Aside0.mk (below_step (by repeat (first | (with_reducible first | exact HB.out | apply below_alloc | apply pw_below_drewN | apply below_drew1 | refine below_set ?_ GE101.out | refine below_set ?_ GE102.out) | exact HB.out)) hb); clear BK101; clear BK102; clear HB; have BK101 := n0_; have BK102 := n1_; have HB := n2_; clear n0_ n1_ n2_; (try clear hb); (try clear hb2); (try clear hk); (try clear hi)))
        go_meet
        case rel => exact ⟨_, (t105), (by first | rfl | (simp; done) | (simp [*]; done)), H', ⟨by first | omega | exact Nat.le_refl _⟩, ⟨by (with_reducible repeat (first | refine blk_drewN ?_ _ | refine blk_drew ?_ | refine blk_alloc ?_ _)); exact BK101.out⟩, ⟨by (with_reducible repeat (first | refine blk_drewN ?_ _ | refine blk_drew ?_ | refine blk_alloc ?_ _)); exact BK102.out⟩, ⟨by repeat (first | (with_reducible first | exact HB.out | apply below_alloc | apply pw_below_drewN | apply below_drew1 | refine below_set ?_ GE101.out | refine below_set ?_ GE102.out) | exact HB.out)⟩⟩
    case rest =>
      clear HC6
      try clear c1
      try clear c2
      try clear p2
      try clear c3
      try clear c5
      try clear c11
      try clear c12
      try clear c16
      try clear hcz13_0
      try clear hcz13_1
      try clear hcz17_0
      try clear hcz17_1
      try clear hcz19_0
      try clear hcz19_1
      try clear hfz13_0
      try clear hfz13_1
      try clear hfz17_0
      try clear hfz17_1
      try clear hfz19_0
      try clear hfz19_1
      obtain ⟨kq, x24_5, rfl, HA, HJ5, BK101, BK102, HB⟩ := hcut
      cases kq with
      | zero => exact absurd HA.out (by simp [seneschallaw03_SlabBack.j0])
      | succ kj5 =>
        have H := HA.out
        clear HA
        simp only [seneschallaw03_SlabBack.j0] at H
        by_cases c21 : x24_5 = true
        · subst c21
          have H1 : (some true) = some r := by rw [if_pos rfl] at H; exact H
          clear H
          have H := H1
          clear H1
          obtain rfl := Option.some.inj H
          go_wp2
          go_ret
          exact ⟨by first | rfl | (simp [errW_none, errW_some] <;> rfl) | (simp [*, errW_none, errW_some] <;> rfl), by repeat (first | (with_reducible first | exact HB.out | apply below_alloc | apply pw_below_drewN | apply below_drew1 | refine below_set ?_ GE101.out | refine below_set ?_ GE102.out) | exact HB.out)⟩
        · replace c21 := Bool.eq_false_iff.mpr c21
          subst c21
          have H1 : ((slab_Encode.f a0_0 l0_1).bind fun bt106 => ((slab_Encode.f a1_0 l1_1).bind fun bt108 => ((slabGood.f a0_0 l0_1).bind fun t110 => (if ((bt106.2 == 0) != t110) = true then (seneschallaw03_SlabBack.j1 kj5 a2 bt106.1 bt106.2 true a0_0 l0_1) else (if bt106.2 = 0 then (if bt108.2 = 0 then ((refSame.f a0_0 l0_1 a1_0 l1_1).bind fun t111 => (seneschallaw03_SlabBack.j1 kj5 a2 bt106.1 bt106.2 ((bt106.1.toList == bt108.1.toList) != t111) a0_0 l0_1)) else (seneschallaw03_SlabBack.j1 kj5 a2 bt106.1 bt106.2 false a0_0 l0_1)) else (seneschallaw03_SlabBack.j1 kj5 a2 bt106.1 bt106.2 false a0_0 l0_1)))))) = some r := by rw [if_neg (show ¬ (false = true) by decide)] at H; exact H
          clear H
          have H := H1
          clear H1
          replace H := Option.bind_eq_some_iff.mp H
          obtain ⟨⟨t106, t107⟩, A220, H⟩ := H
          replace H : ((slab_Encode.f a1_0 l1_1).bind fun bt108 => ((slabGood.f a0_0 l0_1).bind fun t110 => (if ((t107 == 0) != t110) = true then (seneschallaw03_SlabBack.j1 kj5 a2 t106 t107 true a0_0 l0_1) else (if t107 = 0 then (if bt108.2 = 0 then ((refSame.f a0_0 l0_1 a1_0 l1_1).bind fun t111 => (seneschallaw03_SlabBack.j1 kj5 a2 t106 t107 ((t106.toList == bt108.1.toList) != t111) a0_0 l0_1)) else (seneschallaw03_SlabBack.j1 kj5 a2 t106 t107 false a0_0 l0_1)) else (seneschallaw03_SlabBack.j1 kj5 a2 t106 t107 false a0_0 l0_1))))) = some r := H
          have A22 := Aside0.mk A220
          clear A220
          replace H := Option.bind_eq_some_iff.mp H
          obtain ⟨⟨t108, t109⟩, A230, H⟩ := H
          replace H : ((slabGood.f a0_0 l0_1).bind fun t110 => (if ((t107 == 0) != t110) = true then (seneschallaw03_SlabBack.j1 kj5 a2 t106 t107 true a0_0 l0_1) else (if t107 = 0 then (if t109 = 0 then ((refSame.f a0_0 l0_1 a1_0 l1_1).bind fun t111 => (seneschallaw03_SlabBack.j1 kj5 a2 t106 t107 ((t106.toList == t108.toList) != t111) a0_0 l0_1)) else (seneschallaw03_SlabBack.j1 kj5 a2 t106 t107 false a0_0 l0_1)) else (seneschallaw03_SlabBack.j1 kj5 a2 t106 t107 false a0_0 l0_1)))) = some r := H
          have A23 := Aside0.mk A230
          clear A230
          have HC24 := Aside0.mk H
          clear H
          have hnb25 := NB101_102.out
          have hnc25 := NB102_101.out
          have hcz26_0 : wc.cell? ⟨gb101, 0, none⟩ = some (.int .i64 a0_0) := (blk_cell BK101.out 0).trans rfl
          have hcz26_1 : wc.cell? ⟨gb101, 1, none⟩ = some (.slice A0_1 l0_1.length c0_1) := (blk_cell BK101.out 1).trans rfl
          have hfz26_0 := blk_frozen BK101.out 0
          have hfz26_1 := blk_frozen BK101.out 1
          go_upto_region 7 with (first | ((with_reducible refine gate_callee (f := 32) rfl ?_); refine goesL_ (some 27) rfl rfl Try.func32 (by kernel_rfl) rfl #[.agg #[.int .i64 a0_0, .slice A0_1 l0_1.length c0_1]] rfl (by (try simp only [List.map_toArray, List.map_cons, List.map_nil]); first | done | rfl | (simp only [List.length_drop, List.length_take]; rfl)) ?_; (with_reducible refine (slab_Encode.calls a0_0 _ _ l0_1 t106 t107 _ ?side1 ?side2 A22.out).mono ?_); (case side1 => repeat (first | exact (Kd.C_below HR0_1.out HB.out) | (with_reducible refine Kd.C_alloc ?_ _) | (with_reducible refine Kd.C_drewN ?_ _) | (with_reducible refine Kd.C_drew ?_))); (case side2 => exact HC0_1.out); rintro e w27 ⟨rfl, hb⟩; refine ⟨_, rfl, ?_⟩; have n0_ := Aside0.mk (blk_below (g := gb101) (o := .cells #[.int .i64 a0_0, .slice A0_1 l0_1.length c0_1] 24 (0, 0)) (by (with_reducible repeat (first | refine blk_drewN ?_ _ | refine blk_drew ?_ | refine blk_alloc ?_ _)); exact BK101.out) hb); have n1_ := Aside0.mk (blk_below (g := gb102) (o := .cells #[.int .i64 a1_0, .slice A1_1 l1_1.length c1_1] 24 (0, 0)) (by (with_reducible repeat (first | refine blk_drewN ?_ _ | refine blk_drew ?_ | refine blk_alloc ?_ _)); exact BK102.out) hb); have n2_ := Aside0.mk (below_step (by repeat (first | (with_reducible first | exact HB.out | apply below_alloc | apply pw_below_drewN | apply below_drew1 | refine below_set ?_ GE101.out | refine below_set ?_ GE102.out) | exact HB.out)) hb); clear BK101; clear BK102; clear HB; have BK101 := n0_; have BK102 := n1_; have HB := n2_; clear n0_ n1_ n2_; (try clear hb); (try clear hb2); (try clear hk); (try clear hi); have hcz28_0 : w27.cell? ⟨gb102, 0, none⟩ = some (.int .i64 a1_0) := (blk_cell BK102.out 0).trans rfl; have hcz28_1 : w27.cell? ⟨gb102, 1, none⟩ = some (.slice A1_1 l1_1.length c1_1) := (blk_cell BK102.out 1).trans rfl; have hfz28_0 := blk_frozen BK102.out 0; have hfz28_1 := blk_frozen BK102.out 1) | ((with_reducible refine gate_callee (f := 32) rfl ?_); refine goesL_ (some 32) rfl rfl Try.func32 (by kernel_rfl) rfl #[.agg #[.int .i64 a1_0, .slice A1_1 l1_1.length c1_1]] rfl (by (try simp only [List.map_toArray, List.map_cons, List.map_nil]); first | done | rfl | (simp only [List.length_drop, List.length_take]; rfl)) ?_; (with_reducible refine (slab_Encode.calls a1_0 _ _ l1_1 t108 t109 _ ?side1 ?side2 A23.out).mono ?_); (case side1 => repeat (first | exact (Kd.C_below HR1_1.out HB.out) | (with_reducible refine Kd.C_alloc ?_ _) | (with_reducible refine Kd.C_drewN ?_ _) | (with_reducible refine Kd.C_drew ?_))); (case side2 => exact HC1_1.out); rintro e w29 ⟨rfl, hb⟩; refine ⟨_, rfl, ?_⟩; have n0_ := Aside0.mk (blk_below (g := gb101) (o := .cells #[.int .i64 a0_0, .slice A0_1 l0_1.length c0_1] 24 (0, 0)) (by (with_reducible repeat (first | refine blk_drewN ?_ _ | refine blk_drew ?_ | refine blk_alloc ?_ _)); exact BK101.out) hb); have n1_ := Aside0.mk (blk_below (g := gb102) (o := .cells #[.int .i64 a1_0, .slice A1_1 l1_1.length c1_1] 24 (0, 0)) (by (with_reducible repeat (first | refine blk_drewN ?_ _ | refine blk_drew ?_ | refine blk_alloc ?_ _)); exact BK102.out) hb); have n2_ := Aside0.mk (below_step (by repeat (first | (with_reducible first | exact HB.out | apply below_alloc | apply pw_below_drewN | apply below_drew1 | refine below_set ?_ GE101.out | refine below_set ?_ GE102.out) | exact HB.out)) hb); clear BK101; clear BK102; clear HB; have BK101 := n0_; have BK102 := n1_; have HB := n2_; clear n0_ n1_ n2_; (try clear hb); (try clear hb2); (try clear hk); (try clear hi)))
          (try simp only [Act.put, List.setIfInBounds_toArray, List.set_cons_zero, List.set_cons_succ])
          go_cut [56] (fun v56 wc => ∃ (kq : Nat) (x56_23 : Bool), v56 = .bool x56_23 ∧ Aside0 (seneschallaw03_SlabBack.j1 kq a2 t106 t107 x56_23 a0_0 l0_1 = some r) ∧ Aside0 (kq ≤ kj5) ∧ Aside0 (wc.heap[gb101]? = some (.cells #[.int .i64 a0_0, (.slice A0_1 l0_1.length c0_1)] 24 (0, 0))) ∧ Aside0 (wc.heap[gb102]? = some (.cells #[.int .i64 a1_0, (.slice A1_1 l1_1.length c1_1)] 24 (0, 0))) ∧ Aside0 (Below w.heap.size w wc))
          case first =>
            have H := HC24.out
            clear HC24
            replace H := Option.bind_eq_some_iff.mp H
            obtain ⟨t110, A300, H⟩ := H
            replace H : (if ((t107 == 0) != t110) = true then (seneschallaw03_SlabBack.j1 kj5 a2 t106 t107 true a0_0 l0_1) else (if t107 = 0 then (if t109 = 0 then ((refSame.f a0_0 l0_1 a1_0 l1_1).bind fun t111 => (seneschallaw03_SlabBack.j1 kj5 a2 t106 t107 ((t106.toList == t108.toList) != t111) a0_0 l0_1)) else (seneschallaw03_SlabBack.j1 kj5 a2 t106 t107 false a0_0 l0_1)) else (seneschallaw03_SlabBack.j1 kj5 a2 t106 t107 false a0_0 l0_1))) = some r := H
            have A30 := Aside0.mk A300
            clear A300
            by_cases c31 : ((t107 == 0) != t110) = true
            · rw [if_pos c31] at H
              have c31b0 : ((t107 == 0) != t110) = true := c31
              (try (have c31b1 : decide ((t107 == 0) = t110) = false := by simpa using c31))
              (try (have c31b2 : ((t107 == 0) == t110) = false := by simpa using c31))
              (try (have c31b3 : ¬ ((t107 == 0) = t110) := by simpa using c31))
              clear c31
              (first | rw [c31b0] | (simp only [i64_w, i32_w]; rw [c31b0]) | skip)
              have H' := Aside0.mk H
              clear H
              have hnb32 := NB101_102.out
              have hnc32 := NB102_101.out
              have hcz33_0 : w29.cell? ⟨gb101, 0, none⟩ = some (.int .i64 a0_0) := (blk_cell BK101.out 0).trans rfl
              have hcz33_1 : w29.cell? ⟨gb101, 1, none⟩ = some (.slice A0_1 l0_1.length c0_1) := (blk_cell BK101.out 1).trans rfl
              have hfz33_0 := blk_frozen BK101.out 0
              have hfz33_1 := blk_frozen BK101.out 1
              go_wp2_with (first | ((with_reducible refine gate_callee (f := 34) rfl ?_); refine goesL_ (some 38) rfl rfl Try.func34 (by kernel_rfl) rfl #[.agg #[.int .i64 a0_0, .slice A0_1 l0_1.length c0_1]] rfl (by (try simp only [List.map_toArray, List.map_cons, List.map_nil]); first | done | rfl | (simp only [List.length_drop, List.length_take]; rfl)) ?_; (with_reducible refine (slabGood.calls a0_0 _ _ l0_1 t110 _ ?side1 ?side2 A30.out).mono ?_); (case side1 => repeat (first | exact (Kd.C_below HR0_1.out HB.out) | (with_reducible refine Kd.C_alloc ?_ _) | (with_reducible refine Kd.C_drewN ?_ _) | (with_reducible refine Kd.C_drew ?_))); (case side2 => exact HC0_1.out); rintro e w34 ⟨rfl, hb⟩; refine ⟨_, rfl, ?_⟩; have n0_ := Aside0.mk (blk_below (g := gb101) (o := .cells #[.int .i64 a0_0, .slice A0_1 l0_1.length c0_1] 24 (0, 0)) (by (with_reducible repeat (first | refine blk_drewN ?_ _ | refine blk_drew ?_ | refine blk_alloc ?_ _)); exact BK101.out) hb); have n1_ := Aside0.mk (blk_below (g := gb102) (o := .cells #[.int .i64 a1_0, .slice A1_1 l1_1.length c1_1] 24 (0, 0)) (by (with_reducible repeat (first | refine blk_drewN ?_ _ | refine blk_drew ?_ | refine blk_alloc ?_ _)); exact BK102.out) hb); have n2_ := Aside0.mk (below_step (by repeat (first | (with_reducible first | exact HB.out | apply below_alloc | apply pw_below_drewN | apply below_drew1 | refine below_set ?_ GE101.out | refine below_set ?_ GE102.out) | exact HB.out)) hb); clear BK101; clear BK102; clear HB; have BK101 := n0_; have BK102 := n1_; have HB := n2_; clear n0_ n1_ n2_; (try clear hb); (try clear hb2); (try clear hk); (try clear hi)))
              go_meet
              case rel => exact ⟨_, (true), (by first | rfl | (simp; done) | (simp [*]; done)), H', ⟨by have := HJ5.out; first | omega | exact Nat.le_refl _⟩, ⟨by (with_reducible repeat (first | refine blk_drewN ?_ _ | refine blk_drew ?_ | refine blk_alloc ?_ _)); exact BK101.out⟩, ⟨by (with_reducible repeat (first | refine blk_drewN ?_ _ | refine blk_drew ?_ | refine blk_alloc ?_ _)); exact BK102.out⟩, ⟨by repeat (first | (with_reducible first | exact HB.out | apply below_alloc | apply pw_below_drewN | apply below_drew1 | refine below_set ?_ GE101.out | refine below_set ?_ GE102.out) | exact HB.out)⟩⟩
            · rw [if_neg c31] at H
              have c31b0 : ((t107 == 0) != t110) = false := by simpa using c31
              (try (have c31b1 : decide ((t107 == 0) = t110) = true := by simpa using c31))
              (try (have c31b2 : ((t107 == 0) == t110) = true := by simpa using c31))
              clear c31
              (first | rw [c31b0] | (simp only [i64_w, i32_w]; rw [c31b0]) | skip)
              by_cases c35 : t107 = 0
              · rw [if_pos c35] at H
                have c35b0 : (t107 == 0) = true := beq_iff_eq.mpr c35
                have c35b1 : (t107 != 0) = false := bne_eq_false_iff_eq.mpr c35; have c35t : t110 = true := (by simpa [c35b0] using c31b0)
                clear c35
                by_cases c36 : t109 = 0
                · rw [if_pos c36] at H
                  have c36b0 : (t109 == 0) = true := beq_iff_eq.mpr c36
                  have c36b1 : (t109 != 0) = false := bne_eq_false_iff_eq.mpr c36
                  clear c36
                  replace H := Option.bind_eq_some_iff.mp H
                  obtain ⟨t111, A370, H⟩ := H
                  replace H : (seneschallaw03_SlabBack.j1 kj5 a2 t106 t107 ((t106.toList == t108.toList) != t111) a0_0 l0_1) = some r := H
                  have A37 := Aside0.mk A370
                  clear A370
                  have H' := Aside0.mk H
                  clear H
                  have hnb38 := NB101_102.out
                  have hnc38 := NB102_101.out
                  have hcz39_0 : w29.cell? ⟨gb101, 0, none⟩ = some (.int .i64 a0_0) := (blk_cell BK101.out 0).trans rfl
                  have hcz39_1 : w29.cell? ⟨gb101, 1, none⟩ = some (.slice A0_1 l0_1.length c0_1) := (blk_cell BK101.out 1).trans rfl
                  have hfz39_0 := blk_frozen BK101.out 0
                  have hfz39_1 := blk_frozen BK101.out 1
                  go_wp2_with (first | ((with_reducible refine gate_callee (f := 34) rfl ?_); refine goesL_ (some 38) rfl rfl Try.func34 (by kernel_rfl) rfl #[.agg #[.int .i64 a0_0, .slice A0_1 l0_1.length c0_1]] rfl (by (try simp only [List.map_toArray, List.map_cons, List.map_nil]); first | done | rfl | (simp only [List.length_drop, List.length_take]; rfl)) ?_; (with_reducible refine (slabGood.calls a0_0 _ _ l0_1 t110 _ ?side1 ?side2 A30.out).mono ?_); (case side1 => repeat (first | exact (Kd.C_below HR0_1.out HB.out) | (with_reducible refine Kd.C_alloc ?_ _) | (with_reducible refine Kd.C_drewN ?_ _) | (with_reducible refine Kd.C_drew ?_))); (case side2 => exact HC0_1.out); rintro e w40 ⟨rfl, hb⟩; refine ⟨_, rfl, ?_⟩; have n0_ := Aside0.mk (blk_below (g := gb101) (o := .cells #[.int .i64 a0_0, .slice A0_1 l0_1.length c0_1] 24 (0, 0)) (by (with_reducible repeat (first | refine blk_drewN ?_ _ | refine blk_drew ?_ | refine blk_alloc ?_ _)); exact BK101.out) hb); have n1_ := Aside0.mk (blk_below (g := gb102) (o := .cells #[.int .i64 a1_0, .slice A1_1 l1_1.length c1_1] 24 (0, 0)) (by (with_reducible repeat (first | refine blk_drewN ?_ _ | refine blk_drew ?_ | refine blk_alloc ?_ _)); exact BK102.out) hb); have n2_ := Aside0.mk (below_step (by repeat (first | (with_reducible first | exact HB.out | apply below_alloc | apply pw_below_drewN | apply below_drew1 | refine below_set ?_ GE101.out | refine below_set ?_ GE102.out) | exact HB.out)) hb); clear BK101; clear BK102; clear HB; have BK101 := n0_; have BK102 := n1_; have HB := n2_; clear n0_ n1_ n2_; (try clear hb); (try clear hb2); (try clear hk); (try clear hi); have hcz41_0 : w40.cell? ⟨gb101, 0, none⟩ = some (.int .i64 a0_0) := (blk_cell BK101.out 0).trans rfl; have hcz41_1 : w40.cell? ⟨gb101, 1, none⟩ = some (.slice A0_1 l0_1.length c0_1) := (blk_cell BK101.out 1).trans rfl; have hfz41_0 := blk_frozen BK101.out 0; have hfz41_1 := blk_frozen BK101.out 1; have hcz42_0 : w40.cell? ⟨gb102, 0, none⟩ = some (.int .i64 a1_0) := (blk_cell BK102.out 0).trans rfl; have hcz42_1 : w40.cell? ⟨gb102, 1, none⟩ = some (.slice A1_1 l1_1.length c1_1) := (blk_cell BK102.out 1).trans rfl; have hfz42_0 := blk_frozen BK102.out 0; have hfz42_1 := blk_frozen BK102.out 1) | (go_at_call 42; (with_reducible refine (refSame.calls a0_0 _ _ l0_1 a1_0 _ _ l1_1 t111 _ ?side1 ?side2 ?side3 ?side4 A37.out).mono ?_); (case side1 => repeat (first | exact (Kd.C_below HR0_1.out HB.out) | (with_reducible refine Kd.C_alloc ?_ _) | (with_reducible refine Kd.C_drewN ?_ _) | (with_reducible refine Kd.C_drew ?_))); (case side2 => exact HC0_1.out); (case side3 => repeat (first | exact (Kd.C_below HR1_1.out HB.out) | (with_reducible refine Kd.C_alloc ?_ _) | (with_reducible refine Kd.C_drewN ?_ _) | (with_reducible refine Kd.C_drew ?_))); (case side4 => exact HC1_1.out); rintro e w43 ⟨rfl, hb⟩; have n0_ := Aside0.mk (blk_below (g := gb101) (o := .cells #[.int .i64 a0_0, .slice A0_1 l0_1.length c0_1] 24 (0, 0)) (by (with_reducible repeat (first | refine blk_drewN ?_ _ | refine blk_drew ?_ | refine blk_alloc ?_ _)); exact BK101.out) hb); have n1_ := Aside0.mk (blk_below (g := gb102) (o := .cells #[.int .i64 a1_0, .slice A1_1 l1_1.length c1_1] 24 (0, 0)) (by (with_reducible repeat (first | refine blk_drewN ?_ _ | refine blk_drew ?_ | refine blk_alloc ?_ _)); exact BK102.out) hb); have n2_ := Aside0.mk (below_step (by repeat (first | (with_reducible first | exact HB.out | apply below_alloc | apply pw_below_drewN | apply below_drew1 | refine below_set ?_ GE101.out | refine below_set ?_ GE102.out) | exact HB.out)) hb); clear BK101; clear BK102; clear HB; have BK101 := n0_; have BK102 := n1_; have HB := n2_; clear n0_ n1_ n2_; (try clear hb); (try clear hb2); (try clear hk); (try clear hi)))
                  go_meet
                  case rel => exact ⟨_, (((t106.toList == t108.toList) != t111)), (by first | rfl | (simp; done) | (simp [*]; done)), H', ⟨by have := HJ5.out; first | omega | exact Nat.le_refl _⟩, ⟨by (with_reducible repeat (first | refine blk_drewN ?_ _ | refine blk_drew ?_ | refine blk_alloc ?_ _)); exact BK101.out⟩, ⟨by (with_reducible repeat (first | refine blk_drewN ?_ _ | refine blk_drew ?_ | refine blk_alloc ?_ _)); exact BK102.out⟩, ⟨by repeat (first | (with_reducible first | exact HB.out | apply below_alloc | apply pw_below_drewN | apply below_drew1 | refine below_set ?_ GE101.out | refine below_set ?_ GE102.out) | exact HB.out)⟩⟩
                · rw [if_neg c36] at H
                  have c36b0 : (t109 == 0) = false := beq_eq_false_iff_ne.mpr c36
                  have c36b1 : (t109 != 0) = true := bne_iff_ne.mpr c36
                  have H' := Aside0.mk H
                  clear H
                  have hnb44 := NB101_102.out
                  have hnc44 := NB102_101.out
                  have hcz45_0 : w29.cell? ⟨gb101, 0, none⟩ = some (.int .i64 a0_0) := (blk_cell BK101.out 0).trans rfl
                  have hcz45_1 : w29.cell? ⟨gb101, 1, none⟩ = some (.slice A0_1 l0_1.length c0_1) := (blk_cell BK101.out 1).trans rfl
                  have hfz45_0 := blk_frozen BK101.out 0
                  have hfz45_1 := blk_frozen BK101.out 1
                  go_wp2_with (first | ((with_reducible refine gate_callee (f := 34) rfl ?_); refine goesL_ (some 38) rfl rfl Try.func34 (by kernel_rfl) rfl #[.agg #[.int .i64 a0_0, .slice A0_1 l0_1.length c0_1]] rfl (by (try simp only [List.map_toArray, List.map_cons, List.map_nil]); first | done | rfl | (simp only [List.length_drop, List.length_take]; rfl)) ?_; (with_reducible refine (slabGood.calls a0_0 _ _ l0_1 t110 _ ?side1 ?side2 A30.out).mono ?_); (case side1 => repeat (first | exact (Kd.C_below HR0_1.out HB.out) | (with_reducible refine Kd.C_alloc ?_ _) | (with_reducible refine Kd.C_drewN ?_ _) | (with_reducible refine Kd.C_drew ?_))); (case side2 => exact HC0_1.out); rintro e w46 ⟨rfl, hb⟩; refine ⟨_, rfl, ?_⟩; have n0_ := Aside0.mk (blk_below (g := gb101) (o := .cells #[.int .i64 a0_0, .slice A0_1 l0_1.length c0_1] 24 (0, 0)) (by (with_reducible repeat (first | refine blk_drewN ?_ _ | refine blk_drew ?_ | refine blk_alloc ?_ _)); exact BK101.out) hb); have n1_ := Aside0.mk (blk_below (g := gb102) (o := .cells #[.int .i64 a1_0, .slice A1_1 l1_1.length c1_1] 24 (0, 0)) (by (with_reducible repeat (first | refine blk_drewN ?_ _ | refine blk_drew ?_ | refine blk_alloc ?_ _)); exact BK102.out) hb); have n2_ := Aside0.mk (below_step (by repeat (first | (with_reducible first | exact HB.out | apply below_alloc | apply pw_below_drewN | apply below_drew1 | refine below_set ?_ GE101.out | refine below_set ?_ GE102.out) | exact HB.out)) hb); clear BK101; clear BK102; clear HB; have BK101 := n0_; have BK102 := n1_; have HB := n2_; clear n0_ n1_ n2_; (try clear hb); (try clear hb2); (try clear hk); (try clear hi)))
                  go_meet
                  case rel => exact ⟨_, (false), (by first | rfl | (simp; done) | (simp [*]; done)), H', ⟨by have := HJ5.out; first | omega | exact Nat.le_refl _⟩, ⟨by (with_reducible repeat (first | refine blk_drewN ?_ _ | refine blk_drew ?_ | refine blk_alloc ?_ _)); exact BK101.out⟩, ⟨by (with_reducible repeat (first | refine blk_drewN ?_ _ | refine blk_drew ?_ | refine blk_alloc ?_ _)); exact BK102.out⟩, ⟨by repeat (first | (with_reducible first | exact HB.out | apply below_alloc | apply pw_below_drewN | apply below_drew1 | refine below_set ?_ GE101.out | refine below_set ?_ GE102.out) | exact HB.out)⟩⟩
              · rw [if_neg c35] at H
                have c35b0 : (t107 == 0) = false := beq_eq_false_iff_ne.mpr c35
                have c35b1 : (t107 != 0) = true := bne_iff_ne.mpr c35; have c35t : t110 = false := (by simpa [c35b0] using c31b0)
                have H' := Aside0.mk H
                clear H
                have hnb47 := NB101_102.out
                have hnc47 := NB102_101.out
                have hcz48_0 : w29.cell? ⟨gb101, 0, none⟩ = some (.int .i64 a0_0) := (blk_cell BK101.out 0).trans rfl
                have hcz48_1 : w29.cell? ⟨gb101, 1, none⟩ = some (.slice A0_1 l0_1.length c0_1) := (blk_cell BK101.out 1).trans rfl
                have hfz48_0 := blk_frozen BK101.out 0
                have hfz48_1 := blk_frozen BK101.out 1
                go_wp2_with (first | ((with_reducible refine gate_callee (f := 34) rfl ?_); refine goesL_ (some 38) rfl rfl Try.func34 (by kernel_rfl) rfl #[.agg #[.int .i64 a0_0, .slice A0_1 l0_1.length c0_1]] rfl (by (try simp only [List.map_toArray, List.map_cons, List.map_nil]); first | done | rfl | (simp only [List.length_drop, List.length_take]; rfl)) ?_; (with_reducible refine (slabGood.calls a0_0 _ _ l0_1 t110 _ ?side1 ?side2 A30.out).mono ?_); (case side1 => repeat (first | exact (Kd.C_below HR0_1.out HB.out) | (with_reducible refine Kd.C_alloc ?_ _) | (with_reducible refine Kd.C_drewN ?_ _) | (with_reducible refine Kd.C_drew ?_))); (case side2 => exact HC0_1.out); rintro e w49 ⟨rfl, hb⟩; refine ⟨_, rfl, ?_⟩; have n0_ := Aside0.mk (blk_below (g := gb101) (o := .cells #[.int .i64 a0_0, .slice A0_1 l0_1.length c0_1] 24 (0, 0)) (by (with_reducible repeat (first | refine blk_drewN ?_ _ | refine blk_drew ?_ | refine blk_alloc ?_ _)); exact BK101.out) hb); have n1_ := Aside0.mk (blk_below (g := gb102) (o := .cells #[.int .i64 a1_0, .slice A1_1 l1_1.length c1_1] 24 (0, 0)) (by (with_reducible repeat (first | refine blk_drewN ?_ _ | refine blk_drew ?_ | refine blk_alloc ?_ _)); exact BK102.out) hb); have n2_ := Aside0.mk (below_step (by repeat (first | (with_reducible first | exact HB.out | apply below_alloc | apply pw_below_drewN | apply below_drew1 | refine below_set ?_ GE101.out | refine below_set ?_ GE102.out) | exact HB.out)) hb); clear BK101; clear BK102; clear HB; have BK101 := n0_; have BK102 := n1_; have HB := n2_; clear n0_ n1_ n2_; (try clear hb); (try clear hb2); (try clear hk); (try clear hi)))
                go_meet
                case rel => exact ⟨_, (false), (by first | rfl | (simp; done) | (simp [*]; done)), H', ⟨by have := HJ5.out; first | omega | exact Nat.le_refl _⟩, ⟨by (with_reducible repeat (first | refine blk_drewN ?_ _ | refine blk_drew ?_ | refine blk_alloc ?_ _)); exact BK101.out⟩, ⟨by (with_reducible repeat (first | refine blk_drewN ?_ _ | refine blk_drew ?_ | refine blk_alloc ?_ _)); exact BK102.out⟩, ⟨by repeat (first | (with_reducible first | exact HB.out | apply below_alloc | apply pw_below_drewN | apply below_drew1 | refine below_set ?_ GE101.out | refine below_set ?_ GE102.out) | exact HB.out)⟩⟩
          case rest =>
            clear HC24
            try clear c1
            try clear c2
            try clear p2
            try clear c3
            try clear c4
            try clear c5
            try clear c11
            try clear c12
            try clear c16
            try clear c21
            try clear c25
            try clear c30
            try clear c31
            try clear c31b0
            try clear c31b1
            try clear c31b2
            try clear c32
            try clear c34
            try clear c35
            try clear c35b0
            try clear c35b1
            try clear c36
            try clear c36b0
            try clear c36b1
            try clear c38
            try clear c44
            try clear c47
            try clear hcz13_0
            try clear hcz13_1
            try clear hcz17_0
            try clear hcz17_1
            try clear hcz19_0
            try clear hcz19_1
            try clear hcz26_0
            try clear hcz26_1
            try clear hcz28_0
            try clear hcz28_1
            try clear hcz33_0
            try clear hcz33_1
            try clear hcz39_0
            try clear hcz39_1
            try clear hcz41_0
            try clear hcz41_1
            try clear hcz42_0
            try clear hcz42_1
            try clear hcz45_0
            try clear hcz45_1
            try clear hcz48_0
            try clear hcz48_1
            try clear hfz13_0
            try clear hfz13_1
            try clear hfz17_0
            try clear hfz17_1
            try clear hfz19_0
            try clear hfz19_1
            try clear hfz26_0
            try clear hfz26_1
            try clear hfz28_0
            try clear hfz28_1
            try clear hfz33_0
            try clear hfz33_1
            try clear hfz39_0
            try clear hfz39_1
            try clear hfz41_0
            try clear hfz41_1
            try clear hfz42_0
            try clear hfz42_1
            try clear hfz45_0
            try clear hfz45_1
            try clear hfz48_0
            try clear hfz48_1
            try clear p2
            obtain ⟨kq, x56_23, rfl, HA, HJ23, BK101, BK102, HB⟩ := hcut
            cases kq with
            | zero => exact absurd HA.out (by simp [seneschallaw03_SlabBack.j1])
            | succ kj23 =>
              have H := HA.out
              clear HA
              simp only [seneschallaw03_SlabBack.j1] at H
              by_cases c50 : x56_23 = true
              · subst c50
                have H1 : (some false) = some r := by rw [if_pos rfl] at H; exact H
                clear H
                have H := H1
                clear H1
                obtain rfl := Option.some.inj H
                exact absurd HRT.out (by decide)
              · replace c50 := Bool.eq_false_iff.mpr c50
                subst c50
                have H1 : (if t107 = 0 then ((slabDec.f t106).bind fun bt112 => (if bt112.2.2 = 0 then ((refSame.f bt112.1 bt112.2.1 a0_0 l0_1).bind fun t118 => (if t118 = true then (seneschallaw03_SlabBack.j2 kj23 a2) else (some false))) else (some false))) else (seneschallaw03_SlabBack.j2 kj23 a2)) = some r := by rw [if_neg (show ¬ (false = true) by decide)] at H; exact H
                clear H
                have H := H1
                clear H1
                have HC51 := Aside0.mk H
                clear H
                go_upto_if 58 with (fail)
                go_cut [] (fun wc => ∃ (kq : Nat), Aside0 (seneschallaw03_SlabBack.j2 kq a2 = some r) ∧ Aside0 (kq ≤ kj23) ∧ Aside0 (wc.heap[gb101]? = some (.cells #[.int .i64 a0_0, (.slice A0_1 l0_1.length c0_1)] 24 (0, 0))) ∧ Aside0 (wc.heap[gb102]? = some (.cells #[.int .i64 a1_0, (.slice A1_1 l1_1.length c1_1)] 24 (0, 0))) ∧ Aside0 (Below w.heap.size w wc))
                case first =>
                  have H := HC51.out
                  clear HC51
                  by_cases c52 : t107 = 0
                  · rw [if_pos c52] at H
                    have c52b0 : (t107 == 0) = true := beq_iff_eq.mpr c52
                    have c52b1 : (t107 != 0) = false := bne_eq_false_iff_eq.mpr c52
                    clear c52
                    (first | rw [c52b0] | (simp only [i64_w, i32_w]; rw [c52b0]) | skip)
                    replace H := Option.bind_eq_some_iff.mp H
                    obtain ⟨⟨t112, t113, t116⟩, A530, H⟩ := H
                    replace H : (if t116 = 0 then ((refSame.f t112 t113 a0_0 l0_1).bind fun t118 => (if t118 = true then (seneschallaw03_SlabBack.j2 kj23 a2) else (some false))) else (some false)) = some r := H
                    have A53 := Aside0.mk A530
                    clear A530
                    by_cases c54 : t116 = 0
                    · rw [if_pos c54] at H
                      have c54b0 : (t116 == 0) = true := beq_iff_eq.mpr c54
                      have c54b1 : (t116 != 0) = false := bne_eq_false_iff_eq.mpr c54
                      clear c54
                      replace H := Option.bind_eq_some_iff.mp H
                      obtain ⟨t118, A550, H⟩ := H
                      replace H : (if t118 = true then (seneschallaw03_SlabBack.j2 kj23 a2) else (some false)) = some r := H
                      have A55 := Aside0.mk A550
                      clear A550
                      by_cases c56 : t118 = true
                      · subst c56
                        have H1 : (seneschallaw03_SlabBack.j2 kj23 a2) = some r := by rw [if_pos rfl] at H; exact H
                        clear H
                        have H := H1
                        clear H1
                        have H' := Aside0.mk H
                        clear H
                        go_wp2_with (first | ((with_reducible refine gate_callee (f := 73) rfl ?_); refine goesL_ (some 61) rfl rfl Try.func73 (by kernel_rfl) rfl #[.string t106] rfl (by (try simp only [List.map_toArray, List.map_cons, List.map_nil]); first | done | rfl | (simp only [List.length_drop, List.length_take]; rfl)) ?_; (with_reducible refine (slabDec.calls t106 t112 t113 t116 _ A53.out).mono ?_); rintro e w57 ⟨v114, rfl, ho0, hb⟩; refine ⟨_, rfl, ?_⟩; have n0_ := Aside0.mk (Kd.R_lower ho0 (below_size (by repeat (first | (with_reducible first | exact HB.out | apply below_alloc | apply pw_below_drewN | apply below_drew1 | refine below_set ?_ GE101.out | refine below_set ?_ GE102.out) | exact HB.out)))); have n1_ := Aside0.mk (blk_below (g := gb101) (o := .cells #[.int .i64 a0_0, .slice A0_1 l0_1.length c0_1] 24 (0, 0)) (by (with_reducible repeat (first | refine blk_drewN ?_ _ | refine blk_drew ?_ | refine blk_alloc ?_ _)); exact BK101.out) hb); have n2_ := Aside0.mk (blk_below (g := gb102) (o := .cells #[.int .i64 a1_0, .slice A1_1 l1_1.length c1_1] 24 (0, 0)) (by (with_reducible repeat (first | refine blk_drewN ?_ _ | refine blk_drew ?_ | refine blk_alloc ?_ _)); exact BK102.out) hb); have n3_ := Aside0.mk (below_step (by repeat (first | (with_reducible first | exact HB.out | apply below_alloc | apply pw_below_drewN | apply below_drew1 | refine below_set ?_ GE101.out | refine below_set ?_ GE102.out) | exact HB.out)) hb); clear BK101; clear BK102; clear HB; have HO115 := n0_; have BK101 := n1_; have BK102 := n2_; have HB := n3_; clear n0_ n1_ n2_ n3_; (try clear hb); (try clear hb2); (try clear hk); (try clear hi); (try clear ho0)) | ((with_reducible refine gate_dst (N := 11) rfl ?_); refine box_event ?hg (N := 11) ?hd (cs := #[.int .i64 0, .slice none 0 0]) (t := 24) ?hr ?_; (case hd => rfl); (case hg => rfl); (case hr => first | (go_simp; done) | (go_simp; rfl)); intro gb117 hg w58 hbox hb; have n0_ := Aside0.mk (Kd.R_below (by (with_reducible repeat (first | apply Kd.R_alloc | apply Kd.R_drewN | apply Kd.R_drew)); exact HO115.out) hb); have n1_ := Aside0.mk (blk_below (g := gb101) (o := .cells #[.int .i64 a0_0, .slice A0_1 l0_1.length c0_1] 24 (0, 0)) (by (with_reducible repeat (first | refine blk_drewN ?_ _ | refine blk_drew ?_ | refine blk_alloc ?_ _)); exact BK101.out) hb); have n2_ := Aside0.mk (blk_below (g := gb102) (o := .cells #[.int .i64 a1_0, .slice A1_1 l1_1.length c1_1] 24 (0, 0)) (by (with_reducible repeat (first | refine blk_drewN ?_ _ | refine blk_drew ?_ | refine blk_alloc ?_ _)); exact BK102.out) hb); have n3_ := Aside0.mk (below_step (by repeat (first | (with_reducible first | exact HB.out | apply below_alloc | apply pw_below_drewN | apply below_drew1 | refine below_set ?_ GE101.out | refine below_set ?_ GE102.out) | exact HB.out)) hb); have n4_ := Aside0.mk (hbox); have n5_ := Aside0.mk ((by rw [hg]; exact (below_size (by repeat (first | (with_reducible first | exact HB.out | apply below_alloc | apply pw_below_drewN | apply below_drew1 | refine below_set ?_ GE101.out | refine below_set ?_ GE102.out) | exact HB.out))) : w.heap.size ≤ gb117)); have n6_ := Aside0.mk ((by rw [hg]; exact (below_size (by repeat (first | (with_reducible first | exact HB.out | apply below_alloc | apply pw_below_drewN | apply below_drew1 | refine below_set ?_ GE101.out | refine below_set ?_ GE102.out) | exact HB.out))) : w.heap.size ≤ gb117)); have n7_ := Aside0.mk ((by rw [hg]; exact Nat.ne_of_lt (blk_lt (g := gb101) (o := .cells #[.int .i64 a0_0, .slice A0_1 l0_1.length c0_1] 24 (0, 0)) (by (with_reducible repeat (first | refine blk_drewN ?_ _ | refine blk_drew ?_ | refine blk_alloc ?_ _)); exact BK101.out)) : gb101 ≠ gb117)); have n8_ := Aside0.mk ((by rw [hg]; exact Nat.ne_of_gt (blk_lt (g := gb101) (o := .cells #[.int .i64 a0_0, .slice A0_1 l0_1.length c0_1] 24 (0, 0)) (by (with_reducible repeat (first | refine blk_drewN ?_ _ | refine blk_drew ?_ | refine blk_alloc ?_ _)); exact BK101.out)) : gb117 ≠ gb101)); have n9_ := Aside0.mk ((by rw [hg]; exact Nat.ne_of_lt (blk_lt (g := gb102) (o := .cells #[.int .i64 a1_0, .slice A1_1 l1_1.length c1_1] 24 (0, 0)) (by (with_reducible repeat (first | refine blk_drewN ?_ _ | refine blk_drew ?_ | refine blk_alloc ?_ _)); exact BK102.out)) : gb102 ≠ gb117)); have n10_ := Aside0.mk ((by rw [hg]; exact Nat.ne_of_gt (blk_lt (g := gb102) (o := .cells #[.int .i64 a1_0, .slice A1_1 l1_1.length c1_1] 24 (0, 0)) (by (with_reducible repeat (first | refine blk_drewN ?_ _ | refine blk_drew ?_ | refine blk_alloc ?_ _)); exact BK102.out)) : gb117 ≠ gb102)); clear HO115; clear BK101; clear BK102; clear HB; have HO115 := n0_; have BK101 := n1_; have BK102 := n2_; have HB := n3_; have BK117 := n4_; have GW117 := n5_; have GE117 := n6_; have NB101_117 := n7_; have NB117_101 := n8_; have NB102_117 := n9_; have NB117_102 := n10_; clear n0_ n1_ n2_ n3_ n4_ n5_ n6_ n7_ n8_ n9_ n10_; clear hb hbox hg; have hnb59 := NB117_101.out; have hnc59 := NB101_117.out; have hnb60 := NB117_102.out; have hnc60 := NB102_117.out; have hcz61_0 : w58.cell? ⟨gb117, 0, none⟩ = some (.int .i64 0) := (blk_cell BK117.out 0).trans rfl; have hcz61_1 : w58.cell? ⟨gb117, 1, none⟩ = some (.slice none 0 0) := (blk_cell BK117.out 1).trans rfl; have hfz61_0 := blk_frozen BK117.out 0; have hfz61_1 := blk_frozen BK117.out 1; obtain ⟨Ao62, co62, eo62⟩ := Kd.R_slice HO115.out; subst eo62; have hnb63 := NB101_102.out; have hnc63 := NB102_101.out; have hcz64_0 : w58.cell? ⟨gb101, 0, none⟩ = some (.int .i64 a0_0) := (blk_cell BK101.out 0).trans rfl; have hcz64_1 : w58.cell? ⟨gb101, 1, none⟩ = some (.slice A0_1 l0_1.length c0_1) := (blk_cell BK101.out 1).trans rfl; have hfz64_0 := blk_frozen BK101.out 0; have hfz64_1 := blk_frozen BK101.out 1) | (go_at_call 42; (with_reducible refine (refSame.calls t112 _ _ t113 a0_0 _ _ l0_1 true _ ?side1 ?side2 ?side3 ?side4 A55.out).mono ?_); (case side1 => refine (Kd.R_reads' (e := 33) (base := w.heap.size) (ok := fun k_ => True) (n := t113.length) (c := co62) ?_).2.2; exact (by (with_reducible repeat (first | apply Kd.R_alloc | apply Kd.R_drewN | apply Kd.R_drew)); exact (Kd.R_mono (Kd.R_far (p := ⟨gb117, 1, none⟩) (Kd.R_far (p := ⟨gb117, 0, none⟩) (Kd.R_types HO115.out BK117.out (by decide)) (fun _ hk => hk.2) (.int .i64 t112)) (fun _ hk => hk.2) (.slice Ao62 t113.length co62)) (fun _ h_ => h_.1)))); (case side2 => exact (Kd.R_reads' HO115.out).2.1); (case side3 => exact Kd.C_below HR0_1.out (by repeat (first | (with_reducible first | exact HB.out | apply below_alloc | apply pw_below_drewN | apply below_drew1 | refine below_set ?_ GE101.out | refine below_set ?_ GE102.out | refine below_set ?_ GE117.out) | exact HB.out))); (case side4 => exact HC0_1.out); rintro e w65 ⟨rfl, hb⟩; have n0_ := Aside0.mk (Kd.R_below (by (with_reducible repeat (first | apply Kd.R_alloc | apply Kd.R_drewN | apply Kd.R_drew)); exact (Kd.R_mono (Kd.R_far (p := ⟨gb117, 1, none⟩) (Kd.R_far (p := ⟨gb117, 0, none⟩) (Kd.R_types HO115.out BK117.out (by decide)) (fun _ hk => hk.2) (.int .i64 t112)) (fun _ hk => hk.2) (.slice Ao62 t113.length co62)) (fun _ h_ => h_.1))) hb); have n1_ := Aside0.mk (blk_below (g := gb101) (o := .cells #[.int .i64 a0_0, .slice A0_1 l0_1.length c0_1] 24 (0, 0)) (by (with_reducible repeat (first | refine blk_drewN ?_ _ | refine blk_drew ?_ | refine blk_alloc ?_ _)); refine blk_far ?_ NB101_117.out _; (with_reducible repeat (first | refine blk_drewN ?_ _ | refine blk_drew ?_ | refine blk_alloc ?_ _)); refine blk_far ?_ NB101_117.out _; (with_reducible repeat (first | refine blk_drewN ?_ _ | refine blk_drew ?_ | refine blk_alloc ?_ _)); exact BK101.out) hb); have n2_ := Aside0.mk (blk_below (g := gb102) (o := .cells #[.int .i64 a1_0, .slice A1_1 l1_1.length c1_1] 24 (0, 0)) (by (with_reducible repeat (first | refine blk_drewN ?_ _ | refine blk_drew ?_ | refine blk_alloc ?_ _)); refine blk_far ?_ NB102_117.out _; (with_reducible repeat (first | refine blk_drewN ?_ _ | refine blk_drew ?_ | refine blk_alloc ?_ _)); refine blk_far ?_ NB102_117.out _; (with_reducible repeat (first | refine blk_drewN ?_ _ | refine blk_drew ?_ | refine blk_alloc ?_ _)); exact BK102.out) hb); have n3_ := Aside0.mk (blk_below (g := gb117) (o := .cells #[.int .i64 t112, .slice Ao62 t113.length co62] 24 (0, 0)) (by (with_reducible repeat (first | refine blk_drewN ?_ _ | refine blk_drew ?_ | refine blk_alloc ?_ _)); refine blk_put (cs := #[.int .i64 t112, .slice none 0 0]) ?_ 1 _ rfl; (with_reducible repeat (first | refine blk_drewN ?_ _ | refine blk_drew ?_ | refine blk_alloc ?_ _)); refine blk_put (cs := #[.int .i64 0, .slice none 0 0]) ?_ 0 _ rfl; (with_reducible repeat (first | refine blk_drewN ?_ _ | refine blk_drew ?_ | refine blk_alloc ?_ _)); exact BK117.out) hb); have n4_ := Aside0.mk (below_step (by repeat (first | (with_reducible first | exact HB.out | apply below_alloc | apply pw_below_drewN | apply below_drew1 | refine below_set ?_ GE101.out | refine below_set ?_ GE102.out | refine below_set ?_ GE117.out) | exact HB.out)) hb); clear HO115; clear BK101; clear BK102; clear BK117; clear HB; have HO115 := n0_; have BK101 := n1_; have BK102 := n2_; have BK117 := n3_; have HB := n4_; clear n0_ n1_ n2_ n3_ n4_; (try clear hb); (try clear hb2); (try clear hk); (try clear hi)))
                        go_meet
                        case rel => exact ⟨_, H', ⟨by have := HJ5.out; have := HJ23.out; first | omega | exact Nat.le_refl _⟩, ⟨by (with_reducible repeat (first | refine blk_drewN ?_ _ | refine blk_drew ?_ | refine blk_alloc ?_ _)); exact BK101.out⟩, ⟨by (with_reducible repeat (first | refine blk_drewN ?_ _ | refine blk_drew ?_ | refine blk_alloc ?_ _)); exact BK102.out⟩, ⟨by repeat (first | (with_reducible first | exact HB.out | apply below_alloc | apply pw_below_drewN | apply below_drew1 | refine below_set ?_ GE101.out | refine below_set ?_ GE102.out | refine below_set ?_ GE117.out) | exact HB.out)⟩⟩
                      · replace c56 := Bool.eq_false_iff.mpr c56
                        subst c56
                        have H1 : (some false) = some r := by rw [if_neg (show ¬ (false = true) by decide)] at H; exact H
                        clear H
                        have H := H1
                        clear H1
                        obtain rfl := Option.some.inj H
                        exact absurd HRT.out (by decide)
                    · rw [if_neg c54] at H
                      have c54b0 : (t116 == 0) = false := beq_eq_false_iff_ne.mpr c54
                      have c54b1 : (t116 != 0) = true := bne_iff_ne.mpr c54
                      obtain rfl := Option.some.inj H
                      exact absurd HRT.out (by decide)
                  · rw [if_neg c52] at H
                    have c52b0 : (t107 == 0) = false := beq_eq_false_iff_ne.mpr c52
                    have c52b1 : (t107 != 0) = true := bne_iff_ne.mpr c52
                    (first | rw [c52b0] | (simp only [i64_w, i32_w]; rw [c52b0]) | skip)
                    have H' := Aside0.mk H
                    clear H
                    go_wp2
                    go_meet
                    case rel => exact ⟨_, H', ⟨by have := HJ5.out; have := HJ23.out; first | omega | exact Nat.le_refl _⟩, ⟨by (with_reducible repeat (first | refine blk_drewN ?_ _ | refine blk_drew ?_ | refine blk_alloc ?_ _)); exact BK101.out⟩, ⟨by (with_reducible repeat (first | refine blk_drewN ?_ _ | refine blk_drew ?_ | refine blk_alloc ?_ _)); exact BK102.out⟩, ⟨by repeat (first | (with_reducible first | exact HB.out | apply below_alloc | apply pw_below_drewN | apply below_drew1 | refine below_set ?_ GE101.out | refine below_set ?_ GE102.out) | exact HB.out)⟩⟩
                case rest =>
                  clear HC51
                  try clear c1
                  try clear c2
                  try clear p2
                  try clear c3
                  try clear c4
                  try clear c5
                  try clear c6
                  try clear c7
                  try clear c11
                  try clear c12
                  try clear c16
                  try clear c21
                  try clear c25
                  try clear c30
                  try clear c31
                  try clear c31b0
                  try clear c31b1
                  try clear c31b2
                  try clear c32
                  try clear c34
                  try clear c35
                  try clear c35b0
                  try clear c35b1
                  try clear c36
                  try clear c36b0
                  try clear c36b1
                  try clear c38
                  try clear c44
                  try clear c47
                  try clear c50
                  try clear c52
                  try clear c52b0
                  try clear c52b1
                  try clear c54
                  try clear c54b0
                  try clear c54b1
                  try clear c56
                  try clear c59
                  try clear c60
                  try clear c63
                  try clear hcz13_0
                  try clear hcz13_1
                  try clear hcz17_0
                  try clear hcz17_1
                  try clear hcz19_0
                  try clear hcz19_1
                  try clear hcz26_0
                  try clear hcz26_1
                  try clear hcz28_0
                  try clear hcz28_1
                  try clear hcz33_0
                  try clear hcz33_1
                  try clear hcz39_0
                  try clear hcz39_1
                  try clear hcz41_0
                  try clear hcz41_1
                  try clear hcz42_0
                  try clear hcz42_1
                  try clear hcz45_0
                  try clear hcz45_1
                  try clear hcz48_0
                  try clear hcz48_1
                  try clear hcz61_0
                  try clear hcz61_1
                  try clear hcz64_0
                  try clear hcz64_1
                  try clear hfz13_0
                  try clear hfz13_1
                  try clear hfz17_0
                  try clear hfz17_1
                  try clear hfz19_0
                  try clear hfz19_1
                  try clear hfz26_0
                  try clear hfz26_1
                  try clear hfz28_0
                  try clear hfz28_1
                  try clear hfz33_0
                  try clear hfz33_1
                  try clear hfz39_0
                  try clear hfz39_1
                  try clear hfz41_0
                  try clear hfz41_1
                  try clear hfz42_0
                  try clear hfz42_1
                  try clear hfz45_0
                  try clear hfz45_1
                  try clear hfz48_0
                  try clear hfz48_1
                  try clear hfz61_0
                  try clear hfz61_1
                  try clear hfz64_0
                  try clear hfz64_1
                  try clear p2
                  obtain ⟨kq, HA, HJ50, BK101, BK102, HB⟩ := hcut
                  cases kq with
                  | zero => exact absurd HA.out (by simp [seneschallaw03_SlabBack.j2])
                  | succ kj50 =>
                    have H := HA.out
                    clear HA
                    simp only [seneschallaw03_SlabBack.j2] at H
                    replace H := Option.bind_eq_some_iff.mp H
                    obtain ⟨⟨t119, t120, t123⟩, A660, H⟩ := H
                    replace H : (if t123 = 0 then ((slab_Encode.f t119 t120).bind fun bt125 => (if bt125.1.toList = a2.toList then (some (bt125.2 == 0)) else (some false))) else (if t123 = 4 then ((refSame.f t119 t120 0 ([] : List (S33))).bind fun t127 => (some t127)) else (some false))) = some r := H
                    have A66 := Aside0.mk A660
                    clear A660
                    by_cases c67 : t123 = 0
                    · rw [if_pos c67] at H
                      have c67b0 : (t123 == 0) = true := beq_iff_eq.mpr c67
                      have c67b1 : (t123 != 0) = false := bne_eq_false_iff_eq.mpr c67
                      clear c67
                      replace H := Option.bind_eq_some_iff.mp H
                      obtain ⟨⟨t125, t126⟩, A680, H⟩ := H
                      replace H : (if t125.toList = a2.toList then (some (t126 == 0)) else (some false)) = some r := H
                      have A68 := Aside0.mk A680
                      clear A680
                      by_cases c69 : t125.toList = a2.toList
                      · rw [if_pos c69] at H
                        have c69b0 : (t125.toList == a2.toList) = true := beq_iff_eq.mpr c69
                        have c69b1 : (t125.toList != a2.toList) = false := bne_eq_false_iff_eq.mpr c69
                        clear c69
                        obtain rfl := Option.some.inj H
                        go_wp2_with (first | ((with_reducible refine gate_callee (f := 73) rfl ?_); refine goesL_ (some 74) rfl rfl Try.func73 (by kernel_rfl) rfl #[.string a2] rfl (by (try simp only [List.map_toArray, List.map_cons, List.map_nil]); first | done | rfl | (simp only [List.length_drop, List.length_take]; rfl)) ?_; (with_reducible refine (slabDec.calls a2 t119 t120 t123 _ A66.out).mono ?_); rintro e w70 ⟨v121, rfl, ho0, hb⟩; refine ⟨_, rfl, ?_⟩; have n0_ := Aside0.mk (Kd.R_lower ho0 (below_size (by repeat (first | (with_reducible first | exact HB.out | apply below_alloc | apply pw_below_drewN | apply below_drew1 | refine below_set ?_ GE101.out | refine below_set ?_ GE102.out) | exact HB.out)))); have n1_ := Aside0.mk (blk_below (g := gb101) (o := .cells #[.int .i64 a0_0, .slice A0_1 l0_1.length c0_1] 24 (0, 0)) (by (with_reducible repeat (first | refine blk_drewN ?_ _ | refine blk_drew ?_ | refine blk_alloc ?_ _)); exact BK101.out) hb); have n2_ := Aside0.mk (blk_below (g := gb102) (o := .cells #[.int .i64 a1_0, .slice A1_1 l1_1.length c1_1] 24 (0, 0)) (by (with_reducible repeat (first | refine blk_drewN ?_ _ | refine blk_drew ?_ | refine blk_alloc ?_ _)); exact BK102.out) hb); have n3_ := Aside0.mk (below_step (by repeat (first | (with_reducible first | exact HB.out | apply below_alloc | apply pw_below_drewN | apply below_drew1 | refine below_set ?_ GE101.out | refine below_set ?_ GE102.out) | exact HB.out)) hb); clear BK101; clear BK102; clear HB; have HO122 := n0_; have BK101 := n1_; have BK102 := n2_; have HB := n3_; clear n0_ n1_ n2_ n3_; (try clear hb); (try clear hb2); (try clear hk); (try clear hi); (try clear ho0)) | ((with_reducible refine gate_dst (N := 13) rfl ?_); refine box_event ?hg (N := 13) ?hd (cs := #[.int .i64 0, .slice none 0 0]) (t := 24) ?hr ?_; (case hd => rfl); (case hg => rfl); (case hr => first | (go_simp; done) | (go_simp; rfl)); intro gb124 hg w71 hbox hb; have n0_ := Aside0.mk (Kd.R_below (by (with_reducible repeat (first | apply Kd.R_alloc | apply Kd.R_drewN | apply Kd.R_drew)); exact HO122.out) hb); have n1_ := Aside0.mk (blk_below (g := gb101) (o := .cells #[.int .i64 a0_0, .slice A0_1 l0_1.length c0_1] 24 (0, 0)) (by (with_reducible repeat (first | refine blk_drewN ?_ _ | refine blk_drew ?_ | refine blk_alloc ?_ _)); exact BK101.out) hb); have n2_ := Aside0.mk (blk_below (g := gb102) (o := .cells #[.int .i64 a1_0, .slice A1_1 l1_1.length c1_1] 24 (0, 0)) (by (with_reducible repeat (first | refine blk_drewN ?_ _ | refine blk_drew ?_ | refine blk_alloc ?_ _)); exact BK102.out) hb); have n3_ := Aside0.mk (below_step (by repeat (first | (with_reducible first | exact HB.out | apply below_alloc | apply pw_below_drewN | apply below_drew1 | refine below_set ?_ GE101.out | refine below_set ?_ GE102.out) | exact HB.out)) hb); have n4_ := Aside0.mk (hbox); have n5_ := Aside0.mk ((by rw [hg]; exact (below_size (by repeat (first | (with_reducible first | exact HB.out | apply below_alloc | apply pw_below_drewN | apply below_drew1 | refine below_set ?_ GE101.out | refine below_set ?_ GE102.out) | exact HB.out))) : w.heap.size ≤ gb124)); have n6_ := Aside0.mk ((by rw [hg]; exact (below_size (by repeat (first | (with_reducible first | exact HB.out | apply below_alloc | apply pw_below_drewN | apply below_drew1 | refine below_set ?_ GE101.out | refine below_set ?_ GE102.out) | exact HB.out))) : w.heap.size ≤ gb124)); have n7_ := Aside0.mk ((by rw [hg]; exact Nat.ne_of_lt (blk_lt (g := gb101) (o := .cells #[.int .i64 a0_0, .slice A0_1 l0_1.length c0_1] 24 (0, 0)) (by (with_reducible repeat (first | refine blk_drewN ?_ _ | refine blk_drew ?_ | refine blk_alloc ?_ _)); exact BK101.out)) : gb101 ≠ gb124)); have n8_ := Aside0.mk ((by rw [hg]; exact Nat.ne_of_gt (blk_lt (g := gb101) (o := .cells #[.int .i64 a0_0, .slice A0_1 l0_1.length c0_1] 24 (0, 0)) (by (with_reducible repeat (first | refine blk_drewN ?_ _ | refine blk_drew ?_ | refine blk_alloc ?_ _)); exact BK101.out)) : gb124 ≠ gb101)); have n9_ := Aside0.mk ((by rw [hg]; exact Nat.ne_of_lt (blk_lt (g := gb102) (o := .cells #[.int .i64 a1_0, .slice A1_1 l1_1.length c1_1] 24 (0, 0)) (by (with_reducible repeat (first | refine blk_drewN ?_ _ | refine blk_drew ?_ | refine blk_alloc ?_ _)); exact BK102.out)) : gb102 ≠ gb124)); have n10_ := Aside0.mk ((by rw [hg]; exact Nat.ne_of_gt (blk_lt (g := gb102) (o := .cells #[.int .i64 a1_0, .slice A1_1 l1_1.length c1_1] 24 (0, 0)) (by (with_reducible repeat (first | refine blk_drewN ?_ _ | refine blk_drew ?_ | refine blk_alloc ?_ _)); exact BK102.out)) : gb124 ≠ gb102)); clear HO122; clear BK101; clear BK102; clear HB; have HO122 := n0_; have BK101 := n1_; have BK102 := n2_; have HB := n3_; have BK124 := n4_; have GW124 := n5_; have GE124 := n6_; have NB101_124 := n7_; have NB124_101 := n8_; have NB102_124 := n9_; have NB124_102 := n10_; clear n0_ n1_ n2_ n3_ n4_ n5_ n6_ n7_ n8_ n9_ n10_; clear hb hbox hg; have hnb72 := NB124_101.out; have hnc72 := NB101_124.out; have hnb73 := NB124_102.out; have hnc73 := NB102_124.out; have hcz74_0 : w71.cell? ⟨gb124, 0, none⟩ = some (.int .i64 0) := (blk_cell BK124.out 0).trans rfl; have hcz74_1 : w71.cell? ⟨gb124, 1, none⟩ = some (.slice none 0 0) := (blk_cell BK124.out 1).trans rfl; have hfz74_0 := blk_frozen BK124.out 0; have hfz74_1 := blk_frozen BK124.out 1; obtain ⟨Ao75, co75, eo75⟩ := Kd.R_slice HO122.out; subst eo75) | ((with_reducible refine gate_callee (f := 32) rfl ?_); refine goesL_ (some 88) rfl rfl Try.func32 (by kernel_rfl) rfl #[.agg #[.int .i64 t119, .slice Ao75 t120.length co75]] rfl (by (try simp only [List.map_toArray, List.map_cons, List.map_nil]); first | done | rfl | (simp only [List.length_drop, List.length_take]; rfl)) ?_; (with_reducible refine (slab_Encode.calls t119 _ _ t120 t125 t126 _ ?side1 ?side2 A68.out).mono ?_); (case side1 => refine (Kd.R_reads' (e := 33) (base := w.heap.size) (ok := fun k_ => True) (n := t120.length) (c := co75) ?_).2.2; exact (by (with_reducible repeat (first | apply Kd.R_alloc | apply Kd.R_drewN | apply Kd.R_drew)); exact (Kd.R_mono (Kd.R_far (p := ⟨gb124, 1, none⟩) (Kd.R_far (p := ⟨gb124, 0, none⟩) (Kd.R_types HO122.out BK124.out (by decide)) (fun _ hk => hk.2) (.int .i64 t119)) (fun _ hk => hk.2) (.slice Ao75 t120.length co75)) (fun _ h_ => h_.1)))); (case side2 => exact (Kd.R_reads' HO122.out).2.1); rintro e w76 ⟨rfl, hb⟩; refine ⟨_, rfl, ?_⟩; have n0_ := Aside0.mk (Kd.R_below (by (with_reducible repeat (first | apply Kd.R_alloc | apply Kd.R_drewN | apply Kd.R_drew)); exact (Kd.R_mono (Kd.R_far (p := ⟨gb124, 1, none⟩) (Kd.R_far (p := ⟨gb124, 0, none⟩) (Kd.R_types HO122.out BK124.out (by decide)) (fun _ hk => hk.2) (.int .i64 t119)) (fun _ hk => hk.2) (.slice Ao75 t120.length co75)) (fun _ h_ => h_.1))) hb); have n1_ := Aside0.mk (blk_below (g := gb101) (o := .cells #[.int .i64 a0_0, .slice A0_1 l0_1.length c0_1] 24 (0, 0)) (by (with_reducible repeat (first | refine blk_drewN ?_ _ | refine blk_drew ?_ | refine blk_alloc ?_ _)); refine blk_far ?_ NB101_124.out _; (with_reducible repeat (first | refine blk_drewN ?_ _ | refine blk_drew ?_ | refine blk_alloc ?_ _)); refine blk_far ?_ NB101_124.out _; (with_reducible repeat (first | refine blk_drewN ?_ _ | refine blk_drew ?_ | refine blk_alloc ?_ _)); exact BK101.out) hb); have n2_ := Aside0.mk (blk_below (g := gb102) (o := .cells #[.int .i64 a1_0, .slice A1_1 l1_1.length c1_1] 24 (0, 0)) (by (with_reducible repeat (first | refine blk_drewN ?_ _ | refine blk_drew ?_ | refine blk_alloc ?_ _)); refine blk_far ?_ NB102_124.out _; (with_reducible repeat (first | refine blk_drewN ?_ _ | refine blk_drew ?_ | refine blk_alloc ?_ _)); refine blk_far ?_ NB102_124.out _; (with_reducible repeat (first | refine blk_drewN ?_ _ | refine blk_drew ?_ | refine blk_alloc ?_ _)); exact BK102.out) hb); have n3_ := Aside0.mk (blk_below (g := gb124) (o := .cells #[.int .i64 t119, .slice Ao75 t120.length co75] 24 (0, 0)) (by (with_reducible repeat (first | refine blk_drewN ?_ _ | refine blk_drew ?_ | refine blk_alloc ?_ _)); refine blk_put (cs := #[.int .i64 t119, .slice none 0 0]) ?_ 1 _ rfl; (with_reducible repeat (first | refine blk_drewN ?_ _ | refine blk_drew ?_ | refine blk_alloc ?_ _)); refine blk_put (cs := #[.int .i64 0, .slice none 0 0]) ?_ 0 _ rfl; (with_reducible repeat (first | refine blk_drewN ?_ _ | refine blk_drew ?_ | refine blk_alloc ?_ _)); exact BK124.out) hb); have n4_ := Aside0.mk (below_step (by repeat (first | (with_reducible first | exact HB.out | apply below_alloc | apply pw_below_drewN | apply below_drew1 | refine below_set ?_ GE101.out | refine below_set ?_ GE102.out | refine below_set ?_ GE124.out) | exact HB.out)) hb); clear HO122; clear BK101; clear BK102; clear BK124; clear HB; have HO122 := n0_; have BK101 := n1_; have BK102 := n2_; have BK124 := n3_; have HB := n4_; clear n0_ n1_ n2_ n3_ n4_; (try clear hb); (try clear hb2); (try clear hk); (try clear hi)))
                        go_ret
                        exact ⟨by first | rfl | (simp [errW_none, errW_some] <;> rfl) | (simp [*, errW_none, errW_some] <;> rfl), by repeat (first | (with_reducible first | exact HB.out | apply below_alloc | apply pw_below_drewN | apply below_drew1 | refine below_set ?_ GE101.out | refine below_set ?_ GE102.out | refine below_set ?_ GE124.out) | exact HB.out)⟩
                      · rw [if_neg c69] at H
                        have c69b0 : (t125.toList == a2.toList) = false := beq_eq_false_iff_ne.mpr c69
                        have c69b1 : (t125.toList != a2.toList) = true := bne_iff_ne.mpr c69
                        obtain rfl := Option.some.inj H
                        exact absurd HRT.out (by decide)
                    · rw [if_neg c67] at H
                      have c67b0 : (t123 == 0) = false := beq_eq_false_iff_ne.mpr c67
                      have c67b1 : (t123 != 0) = true := bne_iff_ne.mpr c67
                      by_cases c77 : t123 = 4
                      · rw [if_pos c77] at H
                        have c77b0 : (t123 == 4) = true := beq_iff_eq.mpr c77
                        have c77b1 : (t123 != 4) = false := bne_eq_false_iff_eq.mpr c77
                        clear c77
                        replace H := Option.bind_eq_some_iff.mp H
                        obtain ⟨t127, A780, H⟩ := H
                        replace H : (some t127) = some r := H
                        have A78 := Aside0.mk A780
                        clear A780
                        obtain rfl := Option.some.inj H
                        go_wp2_with (first | ((with_reducible refine gate_callee (f := 73) rfl ?_); refine goesL_ (some 74) rfl rfl Try.func73 (by kernel_rfl) rfl #[.string a2] rfl (by (try simp only [List.map_toArray, List.map_cons, List.map_nil]); first | done | rfl | (simp only [List.length_drop, List.length_take]; rfl)) ?_; (with_reducible refine (slabDec.calls a2 t119 t120 t123 _ A66.out).mono ?_); rintro e w79 ⟨v121, rfl, ho0, hb⟩; refine ⟨_, rfl, ?_⟩; have n0_ := Aside0.mk (Kd.R_lower ho0 (below_size (by repeat (first | (with_reducible first | exact HB.out | apply below_alloc | apply pw_below_drewN | apply below_drew1 | refine below_set ?_ GE101.out | refine below_set ?_ GE102.out) | exact HB.out)))); have n1_ := Aside0.mk (blk_below (g := gb101) (o := .cells #[.int .i64 a0_0, .slice A0_1 l0_1.length c0_1] 24 (0, 0)) (by (with_reducible repeat (first | refine blk_drewN ?_ _ | refine blk_drew ?_ | refine blk_alloc ?_ _)); exact BK101.out) hb); have n2_ := Aside0.mk (blk_below (g := gb102) (o := .cells #[.int .i64 a1_0, .slice A1_1 l1_1.length c1_1] 24 (0, 0)) (by (with_reducible repeat (first | refine blk_drewN ?_ _ | refine blk_drew ?_ | refine blk_alloc ?_ _)); exact BK102.out) hb); have n3_ := Aside0.mk (below_step (by repeat (first | (with_reducible first | exact HB.out | apply below_alloc | apply pw_below_drewN | apply below_drew1 | refine below_set ?_ GE101.out | refine below_set ?_ GE102.out) | exact HB.out)) hb); clear BK101; clear BK102; clear HB; have HO122 := n0_; have BK101 := n1_; have BK102 := n2_; have HB := n3_; clear n0_ n1_ n2_ n3_; (try clear hb); (try clear hb2); (try clear hk); (try clear hi); (try clear ho0)) | ((with_reducible refine gate_dst (N := 13) rfl ?_); refine box_event ?hg (N := 13) ?hd (cs := #[.int .i64 0, .slice none 0 0]) (t := 24) ?hr ?_; (case hd => rfl); (case hg => rfl); (case hr => first | (go_simp; done) | (go_simp; rfl)); intro gb124 hg w80 hbox hb; have n0_ := Aside0.mk (Kd.R_below (by (with_reducible repeat (first | apply Kd.R_alloc | apply Kd.R_drewN | apply Kd.R_drew)); exact HO122.out) hb); have n1_ := Aside0.mk (blk_below (g := gb101) (o := .cells #[.int .i64 a0_0, .slice A0_1 l0_1.length c0_1] 24 (0, 0)) (by (with_reducible repeat (first | refine blk_drewN ?_ _ | refine blk_drew ?_ | refine blk_alloc ?_ _)); exact BK101.out) hb); have n2_ := Aside0.mk (blk_below (g := gb102) (o := .cells #[.int .i64 a1_0, .slice A1_1 l1_1.length c1_1] 24 (0, 0)) (by (with_reducible repeat (first | refine blk_drewN ?_ _ | refine blk_drew ?_ | refine blk_alloc ?_ _)); exact BK102.out) hb); have n3_ := Aside0.mk (below_step (by repeat (first | (with_reducible first | exact HB.out | apply below_alloc | apply pw_below_drewN | apply below_drew1 | refine below_set ?_ GE101.out | refine below_set ?_ GE102.out) | exact HB.out)) hb); have n4_ := Aside0.mk (hbox); have n5_ := Aside0.mk ((by rw [hg]; exact (below_size (by repeat (first | (with_reducible first | exact HB.out | apply below_alloc | apply pw_below_drewN | apply below_drew1 | refine below_set ?_ GE101.out | refine below_set ?_ GE102.out) | exact HB.out))) : w.heap.size ≤ gb124)); have n6_ := Aside0.mk ((by rw [hg]; exact (below_size (by repeat (first | (with_reducible first | exact HB.out | apply below_alloc | apply pw_below_drewN | apply below_drew1 | refine below_set ?_ GE101.out | refine below_set ?_ GE102.out) | exact HB.out))) : w.heap.size ≤ gb124)); have n7_ := Aside0.mk ((by rw [hg]; exact Nat.ne_of_lt (blk_lt (g := gb101) (o := .cells #[.int .i64 a0_0, .slice A0_1 l0_1.length c0_1] 24 (0, 0)) (by (with_reducible repeat (first | refine blk_drewN ?_ _ | refine blk_drew ?_ | refine blk_alloc ?_ _)); exact BK101.out)) : gb101 ≠ gb124)); have n8_ := Aside0.mk ((by rw [hg]; exact Nat.ne_of_gt (blk_lt (g := gb101) (o := .cells #[.int .i64 a0_0, .slice A0_1 l0_1.length c0_1] 24 (0, 0)) (by (with_reducible repeat (first | refine blk_drewN ?_ _ | refine blk_drew ?_ | refine blk_alloc ?_ _)); exact BK101.out)) : gb124 ≠ gb101)); have n9_ := Aside0.mk ((by rw [hg]; exact Nat.ne_of_lt (blk_lt (g := gb102) (o := .cells #[.int .i64 a1_0, .slice A1_1 l1_1.length c1_1] 24 (0, 0)) (by (with_reducible repeat (first | refine blk_drewN ?_ _ | refine blk_drew ?_ | refine blk_alloc ?_ _)); exact BK102.out)) : gb102 ≠ gb124)); have n10_ := Aside0.mk ((by rw [hg]; exact Nat.ne_of_gt (blk_lt (g := gb102) (o := .cells #[.int .i64 a1_0, .slice A1_1 l1_1.length c1_1] 24 (0, 0)) (by (with_reducible repeat (first | refine blk_drewN ?_ _ | refine blk_drew ?_ | refine blk_alloc ?_ _)); exact BK102.out)) : gb124 ≠ gb102)); clear HO122; clear BK101; clear BK102; clear HB; have HO122 := n0_; have BK101 := n1_; have BK102 := n2_; have HB := n3_; have BK124 := n4_; have GW124 := n5_; have GE124 := n6_; have NB101_124 := n7_; have NB124_101 := n8_; have NB102_124 := n9_; have NB124_102 := n10_; clear n0_ n1_ n2_ n3_ n4_ n5_ n6_ n7_ n8_ n9_ n10_; clear hb hbox hg; have hnb81 := NB124_101.out; have hnc81 := NB101_124.out; have hnb82 := NB124_102.out; have hnc82 := NB102_124.out; have hcz83_0 : w80.cell? ⟨gb124, 0, none⟩ = some (.int .i64 0) := (blk_cell BK124.out 0).trans rfl; have hcz83_1 : w80.cell? ⟨gb124, 1, none⟩ = some (.slice none 0 0) := (blk_cell BK124.out 1).trans rfl; have hfz83_0 := blk_frozen BK124.out 0; have hfz83_1 := blk_frozen BK124.out 1; obtain ⟨Ao84, co84, eo84⟩ := Kd.R_slice HO122.out; subst eo84) | (go_at_call 42; (refine (refSame.calls t119 _ _ t120 0 _ _ ([] : List (S33)) t127 _ ?side1 ?side2 ?side3 ?side4 A78.out).mono ?_); (case side1 => refine (Kd.R_reads' (e := 33) (base := w.heap.size) (ok := fun k_ => True) (n := t120.length) (c := co84) ?_).2.2; exact (by (with_reducible repeat (first | apply Kd.R_alloc | apply Kd.R_drewN | apply Kd.R_drew)); exact (Kd.R_mono (Kd.R_far (p := ⟨gb124, 1, none⟩) (Kd.R_far (p := ⟨gb124, 0, none⟩) (Kd.R_types HO122.out BK124.out (by decide)) (fun _ hk => hk.2) (.int .i64 t119)) (fun _ hk => hk.2) (.slice Ao84 t120.length co84)) (fun _ h_ => h_.1)))); (case side2 => exact (Kd.R_reads' HO122.out).2.1); (case side3 => exact Kd.C_nil _ _); (case side4 => exact Nat.le_refl _); rintro e w85 ⟨rfl, hb⟩; have n0_ := Aside0.mk (Kd.R_below (by (with_reducible repeat (first | apply Kd.R_alloc | apply Kd.R_drewN | apply Kd.R_drew)); exact (Kd.R_mono (Kd.R_far (p := ⟨gb124, 1, none⟩) (Kd.R_far (p := ⟨gb124, 0, none⟩) (Kd.R_types HO122.out BK124.out (by decide)) (fun _ hk => hk.2) (.int .i64 t119)) (fun _ hk => hk.2) (.slice Ao84 t120.length co84)) (fun _ h_ => h_.1))) hb); have n1_ := Aside0.mk (blk_below (g := gb101) (o := .cells #[.int .i64 a0_0, .slice A0_1 l0_1.length c0_1] 24 (0, 0)) (by (with_reducible repeat (first | refine blk_drewN ?_ _ | refine blk_drew ?_ | refine blk_alloc ?_ _)); refine blk_far ?_ NB101_124.out _; (with_reducible repeat (first | refine blk_drewN ?_ _ | refine blk_drew ?_ | refine blk_alloc ?_ _)); refine blk_far ?_ NB101_124.out _; (with_reducible repeat (first | refine blk_drewN ?_ _ | refine blk_drew ?_ | refine blk_alloc ?_ _)); exact BK101.out) hb); have n2_ := Aside0.mk (blk_below (g := gb102) (o := .cells #[.int .i64 a1_0, .slice A1_1 l1_1.length c1_1] 24 (0, 0)) (by (with_reducible repeat (first | refine blk_drewN ?_ _ | refine blk_drew ?_ | refine blk_alloc ?_ _)); refine blk_far ?_ NB102_124.out _; (with_reducible repeat (first | refine blk_drewN ?_ _ | refine blk_drew ?_ | refine blk_alloc ?_ _)); refine blk_far ?_ NB102_124.out _; (with_reducible repeat (first | refine blk_drewN ?_ _ | refine blk_drew ?_ | refine blk_alloc ?_ _)); exact BK102.out) hb); have n3_ := Aside0.mk (blk_below (g := gb124) (o := .cells #[.int .i64 t119, .slice Ao84 t120.length co84] 24 (0, 0)) (by (with_reducible repeat (first | refine blk_drewN ?_ _ | refine blk_drew ?_ | refine blk_alloc ?_ _)); refine blk_put (cs := #[.int .i64 t119, .slice none 0 0]) ?_ 1 _ rfl; (with_reducible repeat (first | refine blk_drewN ?_ _ | refine blk_drew ?_ | refine blk_alloc ?_ _)); refine blk_put (cs := #[.int .i64 0, .slice none 0 0]) ?_ 0 _ rfl; (with_reducible repeat (first | refine blk_drewN ?_ _ | refine blk_drew ?_ | refine blk_alloc ?_ _)); exact BK124.out) hb); have n4_ := Aside0.mk (below_step (by repeat (first | (with_reducible first | exact HB.out | apply below_alloc | apply pw_below_drewN | apply below_drew1 | refine below_set ?_ GE101.out | refine below_set ?_ GE102.out | refine below_set ?_ GE124.out) | exact HB.out)) hb); clear HO122; clear BK101; clear BK102; clear BK124; clear HB; have HO122 := n0_; have BK101 := n1_; have BK102 := n2_; have BK124 := n3_; have HB := n4_; clear n0_ n1_ n2_ n3_ n4_; (try clear hb); (try clear hb2); (try clear hk); (try clear hi)))
                        go_ret
                        exact ⟨by first | rfl | (simp [errW_none, errW_some] <;> rfl) | (simp [*, errW_none, errW_some] <;> rfl), by repeat (first | (with_reducible first | exact HB.out | apply below_alloc | apply pw_below_drewN | apply below_drew1 | refine below_set ?_ GE101.out | refine below_set ?_ GE102.out | refine below_set ?_ GE124.out) | exact HB.out)⟩
                      · rw [if_neg c77] at H
                        have c77b0 : (t123 == 4) = false := beq_eq_false_iff_ne.mpr c77
                        have c77b1 : (t123 != 4) = true := bne_iff_ne.mpr c77
                        obtain rfl := Option.some.inj H
                        exact absurd HRT.out (by decide)
  · replace c5 := Bool.eq_false_iff.mpr c5
    subst c5
    have H1 : (some false) = some r := by rw [if_neg (show ¬ (false = true) by decide)] at H; exact H
    clear H
    have H := H1
    clear H1
    obtain rfl := Option.some.inj H
    exact absurd HRT.out (by decide)

end Go.Proofs.Ytfjmnaobfbmllaa.M

namespace Go.Proofs.Ytfjmnaobfbmllaa.M
open Go.RowKit Go.Proofs.YtfjmnaobfbmllaaW.PrintWords Go.Proofs.YtfjmnaobfbmllaaW.PrintLast Go.Proofs.YtfjmnaobfbmllaaW.PrintMore
set_option linter.unusedVariables false
set_option linter.unusedSimpArgs false
theorem dec_len32 (s : ByteArray) : (decP s).2.1.length ≤ 32 := by
  rcases decP_is s with ⟨h, _, _⟩ | ⟨_, h⟩
  · exact ((good_iff _ _).mp h).2.2.1
  · rw [h]; simp
theorem dec_enc {a : Int} {l : List S33} (hg : goodP a l = true) : decP (encB a l) = (a, l, 0) := isDec_one (decP_is _) (.inl ⟨hg, rfl, rfl⟩)
theorem enc_good {a : Int} {l : List S33} (hg : goodP a l = true) : slab_Encode.f a l = some (encB a l, 0) := by unfold slab_Encode.f; rw [if_pos hg]; rfl
theorem enc_bad {a : Int} {l : List S33} (hg : goodP a l = false) : slab_Encode.f a l = some (⟨#[]⟩, 1) := by unfold slab_Encode.f; rw [if_neg (by simp [hg])]
theorem back_j2 (k : Nat) (s : ByteArray) : seneschallaw03_SlabBack.j2 (k + 1) s = some true := by
  simp only [seneschallaw03_SlabBack.j2]
  unfold slabDec.f
  rw [Option.bind_some]
  have hd := decP_is s
  have hl := dec_len32 s
  generalize decP s = r at hd hl
  obtain ⟨b, m, e⟩ := r
  rcases hd with ⟨hg, he, h0⟩ | ⟨_, h⟩
  · simp only at hg he h0 ⊢
    rw [if_pos h0, enc_good hg, Option.bind_some, if_pos (ba_inj.mpr he)]; rfl
  · simp only [Prod.mk.injEq] at h
    obtain ⟨rfl, rfl, rfl⟩ := h
    rfl
theorem back_j1 (k : Nat) (s : ByteArray) (a : Int) (l : List S33) : (goodP a l = true → seneschallaw03_SlabBack.j1 (k + 2) s (encB a l) 0 false a l = some true) ∧ seneschallaw03_SlabBack.j1 (k + 2) s ⟨#[]⟩ 1 false a l = some true := by
  refine ⟨fun hg => ?_, ?_⟩
  · simp only [seneschallaw03_SlabBack.j1]
    unfold slabDec.f refSame.f
    have h3 := ((good_iff a l).mp hg).2.2.1
    rw [if_neg Bool.false_ne_true, if_pos trivial, Option.bind_some, dec_enc hg, if_pos rfl]
    simp only
    rw [if_pos (by omega), Option.bind_some, if_pos (by simp [sameP])]
    exact back_j2 k s
  · simp only [seneschallaw03_SlabBack.j1]
    rw [if_neg Bool.false_ne_true, if_neg (by decide)]
    exact back_j2 k s
theorem back_j0 (s : ByteArray) (x : Bool) (a : Int) (l : List S33) (b : Int) (m : List S33) (hl : greatP l = false) : seneschallaw03_SlabBack.j0 3 s x a l b m = some true := by
  simp only [seneschallaw03_SlabBack.j0]
  cases x with
  | true => rw [if_pos rfl]
  | false =>
    rw [if_neg Bool.false_ne_true]
    have hlen : l.length ≤ 100 := by
      unfold greatP at hl
      simp only [Bool.or_eq_false_iff, decide_eq_false_iff_not] at hl
      omega
    unfold slabGood.f
    cases hg : goodP a l with
    | false =>
      have hm : ∃ r, slab_Encode.f b m = some r := by unfold slab_Encode.f; split <;> exact ⟨_, rfl⟩
      obtain ⟨r, hm⟩ := hm
      rw [enc_bad hg, hm, Option.bind_some, Option.bind_some, Option.bind_some, if_neg (by decide), if_neg (by decide)]
      exact (back_j1 0 s a l).2
    | true =>
      rw [enc_good hg, Option.bind_some]
      cases hgm : goodP b m with
      | false =>
        rw [enc_bad hgm, Option.bind_some, Option.bind_some, if_neg (by simp), if_pos rfl, if_neg (by decide)]
        exact (back_j1 0 s a l).1 hg
      | true =>
        unfold refSame.f
        rw [enc_good hgm, Option.bind_some, Option.bind_some, if_neg (by simp), if_pos rfl, if_pos rfl, if_pos (by omega), Option.bind_some]
        have e : ((encB a l).toList == (encB b m).toList) = sameP a l b m := by
          rw [ba_beq]
          unfold sameP
          rw [decide_eq_decide]
          exact ⟨enc_inj hg hgm, fun h => by rw [h.1, h.2]⟩
        rw [e, bne_self_eq_false]
        exact (back_j1 0 s a l).1 hg
theorem pureSlabBack (a : Int) (l : List S33) (b : Int) (m : List S33) (s : ByteArray) (w : (Lit.int .i64 a).wf = true) (w1 : (Lit.int .i64 b).wf = true) (w2 : s.size ≤ 140737488351232) : ∃ k, seneschallaw03_SlabBack.f k a l b m s = some true := by
  refine ⟨3, ?_⟩
  unfold seneschallaw03_SlabBack.f awake3.f great3.f
  rw [Option.bind_some, if_pos rfl, Option.bind_some]
  cases hg : greatP l with
  | true =>
    rw [if_pos rfl]
    simp only [seneschallaw03_SlabBack.j0]
    exact if_pos trivial
  | false =>
    rw [if_neg Bool.false_ne_true, Option.bind_some]
    exact back_j0 s _ a l b m hg
end Go.Proofs.Ytfjmnaobfbmllaa.M

namespace Go.Proofs.Ytfjmnaobfbmllaa.slabBack
open Go.ChangeShapes Go.WideShapes Go.ChangeAt Go.RowKit Go.Proofs.Ytfjmnaobfbmllaa.M
open Go.Proofs.YtfjmnaobfbmllaaW.PrintWords Go.Proofs.YtfjmnaobfbmllaaW.PrintLast Go.Proofs.YtfjmnaobfbmllaaW.PrintMore
open Go.ChangeMaps (open_string shut_string)
set_option linter.unusedVariables false
theorem own : ownKnob Try.prog.godebug = none := by kernel_rfl
theorem laidOut : laidOutB Try.prog = true := by kernel_rfl
set_option maxRecDepth 100000 in
theorem lifted (os : Os) (started : os.Started) (H : Type) (enc : TypeId × Value → H) :
    ReturnsInHanded {} Try.checked os 25 .any (Rows.slabBackSpec.pre6 enc Try.prog Try.f25 Rows.slabBackRow.domain false) (Rows.slabBackSpec.post enc Try.prog Try.f25 false true false false) := by
  refine returnsInHanded_of_change_sized (C := Try.checked) own started (by kernel_rfl) Try.func25
    (ChangeSpec.witness6 (enc := enc) (C := Try.checked) false ⟨#[], #[.agg #[.int .i64 0, .slice none 0 0], .agg #[.int .i64 0, .slice none 0 0], .string ByteArray.empty], []⟩ 8 (by kernel_rfl) (by kernel_rfl) (by kernel_rfl) (by kernel_rfl)) ?_
  intro W base args ds gs before hval0 hW hcnd hsz0 _
  have hsz : (DataW.weightsEach Try.prog (Try.f25.params.toList ++ Rows.slabBackSpec.plain.varTypes Try.prog) (ds ++ gs)).all (· ≤ reachBytes) = true := hsz0
  have hval : ∀ (j : Nat) t v, Try.f25.params[j]? = some t → args[j]? = some v → Value.okWide Try.prog W .any base t v := hval0
  have hW' := hW
  obtain ⟨p, q, hA0, hV, rfl, hfz, hnd⟩ := hW
  have hA : DataW.TrodAll enc Try.prog W 0 (fun _ => true) true Try.f25.params.toList args.toList ds p := hA0
  rw [Try.params25] at hA hval hsz
  obtain ⟨v0, vs0, d0, ds0, p0, q0, hargs, rfl, rfl, h0, r0⟩ := trodAll_cons hA
  obtain ⟨v1, vs1, d1, ds1, p1, q1, rfl, rfl, rfl, h1, r1⟩ := trodAll_cons r0
  obtain ⟨v2, vs2, d2, ds2, p2, q2, rfl, rfl, rfl, h2, r2⟩ := trodAll_cons r1
  obtain ⟨rfl, rfl, rfl⟩ := trodAll_nil r2
  obtain rfl : args = #[v0, v1, v2] := by cases args; simp_all
  obtain ⟨rfl, rfl⟩ := trodVars_none hV
  have k0 := h0
  have lt0 : ∀ x ∈ p0, x.block < W.heap.size := by obtain ⟨m, hm⟩ := k0; exact DataW.trod_lt m _ _ _ hm
  obtain ⟨a0, A0, c0, l0, rfl, w0, hr0, hc0⟩ := V24 (hval 0 24 v0 rfl rfl) h0
  have k1 := h1
  have lt1 : ∀ x ∈ p1, x.block < W.heap.size := by obtain ⟨m, hm⟩ := k1; exact DataW.trod_lt m _ _ _ hm
  obtain ⟨a1, A1, c1, l1, rfl, w1, hr1, hc1⟩ := V24 (hval 1 24 v1 rfl rfl) h1
  obtain ⟨a2, rfl, rfl, rfl, y2⟩ := open_string Try.underlying9 (hval 2 9 v2 rfl rfl) h2
  have w2 : a2.size ≤ 140737488351232 := by
    have z := sized_string hsz (j := 2) (t := 9) rfl rfl
    rw [Array.length_toList] at z
    exact z
  clear hA0 hval0 hsz0 hsz hval
  obtain ⟨k, hp⟩ := pureSlabBack a0 l0 a1 l1 a2 w0 w1 w2
  refine (seneschallaw03_SlabBack.calls k a0 A0 c0 l0 a1 A1 c1 l1 a2 true rfl W hr0 hc0 hr1 hc1 hp).mono fun e W' ⟨he, bel⟩ => ?_
  subst he
  exact ⟨_, rfl, _, _, _, [], _, [], hW', trodAll_mk1 (shut_bool Try.underlying4 _), (trodAll_cons_mk (Below.trod laidOut (by kernel_rfl) (of_decide_eq_true (by kernel_rfl)) k0 bel lt0) (trodAll_cons_mk (Below.trod laidOut (by kernel_rfl) (of_decide_eq_true (by kernel_rfl)) k1 bel lt1) (trodAll_cons_mk (shut_string Try.underlying9 y2) trodAll_mk0))), rfl, bel.frame _, fun h => by cases h⟩
theorem joined : joinedFacts Try.prog 25 Try.f25 Rows.slabBackSpec Rows.slabBackRow = true := by
  unfold joinedFacts
  rw [may_enter, lifts_final, make_is]
  kernel_rfl
theorem over : Rows.slabBackRow.holds Try.pinned (OpenSpec.ofChange Rows.slabBackSpec) :=
  OpenClaim.holds_of_wide 25 Try.f25 rfl rfl rfl rfl rfl rfl rfl ⟨rfl, rfl, rfl, rfl, rfl⟩ rfl rfl rfl rfl rfl (by kernel_rfl) Try.func25 joined
    (of_decide_eq_true (by kernel_rfl)) (by unfold Func.isWrapper; first | (rw [if_pos (by decide +kernel)]; kernel_rfl) | (rw [if_neg (by decide +kernel)]; exact ⟨rfl, rfl⟩))
    (fun os started H enc _ => lifted os started H enc)
theorem proved : Rows.SlabBackSaid := over
#print axioms proved
end Go.Proofs.Ytfjmnaobfbmllaa.slabBack
namespace Go.Proofs.Ytfjmnaobfbmllaa
/-- The row, under a short name, for the claim. -/
theorem slabBack_holds : Rows.SlabBackSaid := slabBack.proved
end Go.Proofs.Ytfjmnaobfbmllaa
