/- The law SlabWrites: it returns true for every input, and its arguments read as they did. No condition. Part 2 of 3. -/
import Derived.Laws.BitsAllLaws
import Derived.Test.YtfjmnaobfbmllaaSlabWritesA0
namespace Go.Proofs.Ytfjmnaobfbmllaa.M
open Go.RowKit Go.Proofs.YtfjmnaobfbmllaaW.PrintWords Go.Proofs.YtfjmnaobfbmllaaW.PrintLast Go.Proofs.YtfjmnaobfbmllaaW.PrintMore
attribute [local go_sem] max2_int min2_int max_two min_two max_three min_three max_four min_four   -- for this text's walks alone
set_option linter.unusedVariables false
set_option linter.unusedSimpArgs false

/-! ### slab_Put: function 38 -/
mutual
def slab_Put.j0 : Nat → Int → Bool → Int → List (S33) → Bool → ByteArray → Option (Int × (List (S33)) × Int)
  | 0, _, _, _, _, _, _ => none
  | k + 1, x1, x9, x102000, x102001, x103000, x103001 => if x9 = true then (some (0, ([] : List (S33)), 1)) else (if (x103001.size : Int) > 200 then (some (0, ([] : List (S33)), 5)) else (if 0 ≤ (mx (x102001.length : Int) (wrap64 (x1 + 1))) then (if (mx (x102001.length : Int) (wrap64 (x1 + 1)) : Int).toNat ≤ 11728124029610 then ((some (copyIn (List.replicate (mx (x102001.length : Int) (wrap64 (x1 + 1)) : Int).toNat z33) x102001 : List (S33))).bind fun y105 => (if 0 ≤ x1 then (if x1 < (y105.length : Int) then (slab_Put.l0 k (y105.set (x1 : Int).toNat (⟨x103000, x103001⟩ : S33)) x102000 x102001) else (none)) else (none))) else (none)) else (none)))
def slab_Put.l0 : Nat → List (S33) → Int → List (S33) → Option (Int × (List (S33)) × Int)
  | 0, _, _, _ => none
  | k + 1, x8, x102000, x102001 => if (x8.length : Int) > 0 then (if 0 ≤ (wrap64 ((x8.length : Int) - 1)) then (if (wrap64 ((x8.length : Int) - 1)) < (x8.length : Int) then (if ((rd_T33 x8 (wrap64 ((x8.length : Int) - 1))).f0 = true) then ((slabSize0.f x8).bind fun t110 => (if t110 > 240 then (some (0, ([] : List (S33)), 22)) else (some (x102000, x8, 0)))) else (if (wrap64 ((x8.length : Int) - 1)) ≤ (x8.length : Int) then (slab_Put.l0 k (x8.take ((wrap64 ((x8.length : Int) - 1)) : Int).toNat) x102000 x102001) else (none))) else (none)) else (none)) else ((slabSize0.f x8).bind fun t114 => (if t114 > 240 then (some (0, ([] : List (S33)), 22)) else (some (x102000, x8, 0))))
end
def slab_Put.f (k : Nat) (a0_0 : Int) (l0_1 : List (S33)) (a1 : Int) (a2_0 : Bool) (a2_1 : ByteArray) : Option (Int × (List (S33)) × Int) := (slabGood.f a0_0 l0_1).bind fun t104 => (if t104 = true then (if a1 < 0 then (slab_Put.j0 k a1 true a0_0 l0_1 a2_0 a2_1) else (if a1 ≥ 32 then (slab_Put.j0 k a1 true a0_0 l0_1 a2_0 a2_1) else (if a2_0 = true then (slab_Put.j0 k a1 false a0_0 l0_1 a2_0 a2_1) else (slab_Put.j0 k a1 (a2_1.toList != ([] : List UInt8)) a0_0 l0_1 a2_0 a2_1)))) else (slab_Put.j0 k a1 true a0_0 l0_1 a2_0 a2_1))
set_option maxHeartbeats 8000000 in
set_option maxRecDepth 100000 in
theorem slab_Put.calls (k : Nat) (a0_0 : Int) (A0_1 : Option Addr) (c0_1 : Nat) (l0_1 : List (S33)) (a1 : Int) (a2_0 : Bool) (a2_1 : ByteArray) (r1 : Int) (r2 : List (S33)) (r3 : Int) (w : World) (hr0_1 : Kd.C k33 w A0_1 l0_1.length l0_1) (hc0_1 : l0_1.length ≤ c0_1) (h : slab_Put.f k a0_0 l0_1 a1 a2_0 a2_1 = some (r1, r2, r3)) :
    Calls Try.prog 38 #[.agg #[.int .i64 a0_0, .slice A0_1 l0_1.length c0_1], .int .i64 a1, .agg #[.bool a2_0, .string a2_1]] w fun e w' => ∃ v1_ : Value, e = .returned (.tuple #[.agg #[.int .i64 r1, v1_], .int .i64 r3]) ∧ Kd.R k33 33 w' w.heap.size (fun _ => True) v1_ r2 ∧ Below w.heap.size w w' := by
  have hu24 := Try.underlying24
  have hu33 := Try.underlying33
  have HR0_1 := Aside0.mk hr0_1
  have HC0_1 := Aside0.mk hc0_1
  clear hr0_1 hc0_1
  have HB := Aside0.mk (Below.refl w.heap.size w)
  have H : ((slabGood.f a0_0 l0_1).bind fun t104 => (if t104 = true then (if a1 < 0 then (slab_Put.j0 k a1 true a0_0 l0_1 a2_0 a2_1) else (if a1 ≥ 32 then (slab_Put.j0 k a1 true a0_0 l0_1 a2_0 a2_1) else (if a2_0 = true then (slab_Put.j0 k a1 false a0_0 l0_1 a2_0 a2_1) else (slab_Put.j0 k a1 (a2_1.toList != ([] : List UInt8)) a0_0 l0_1 a2_0 a2_1)))) else (slab_Put.j0 k a1 true a0_0 l0_1 a2_0 a2_1))) = some (r1, r2, r3) := h
  clear h
  have HC4 := Aside0.mk H
  clear H
  go_enter Try.func38, Try.ntmps38
  go_upto_region 1 with (first | ((with_reducible refine gate_dst (N := 3) rfl ?_); (try (refine gate_guard (by rfl) ?_; dsimp only)); refine box_event ?hg (N := 3) ?hd (cs := #[.int .i64 a0_0, .slice A0_1 l0_1.length c0_1]) (t := 24) ?hr ?_; (case hd => rfl); (case hg => rfl); (case hr => first | (go_simp; done) | (go_simp; rfl)); intro gb101 hg w5 hbox hb; have n0_ := Aside0.mk (below_step (by repeat (first | (with_reducible first | exact HB.out | apply below_alloc | apply pw_below_drewN | apply below_drew1) | exact HB.out)) hb); have n1_ := Aside0.mk (hbox); have n2_ := Aside0.mk ((by rw [hg]; exact (below_size (by repeat (first | (with_reducible first | exact HB.out | apply below_alloc | apply pw_below_drewN | apply below_drew1) | exact HB.out))) : w.heap.size ≤ gb101)); have n3_ := Aside0.mk ((by rw [hg]; exact (below_size (by repeat (first | (with_reducible first | exact HB.out | apply below_alloc | apply pw_below_drewN | apply below_drew1) | exact HB.out))) : w.heap.size ≤ gb101)); clear HB; have HB := n0_; have BK101 := n1_; have GW101 := n2_; have GE101 := n3_; clear n0_ n1_ n2_ n3_; clear hb hbox hg) | ((with_reducible refine gate_dst (N := 5) rfl ?_); (try (refine gate_guard (by rfl) ?_; dsimp only)); refine box_event ?hg (N := 5) ?hd (cs := #[.bool a2_0, .string a2_1]) (t := 33) ?hr ?_; (case hd => rfl); (case hg => rfl); (case hr => first | (go_simp; done) | (go_simp; rfl)); intro gb102 hg w6 hbox hb; have n0_ := Aside0.mk (blk_below (g := gb101) (o := .cells #[.int .i64 a0_0, .slice A0_1 l0_1.length c0_1] 24 (0, 0)) (by (with_reducible repeat (first | refine blk_drewN ?_ _ | refine blk_drew ?_ | refine blk_alloc ?_ _)); exact BK101.out) hb); have n1_ := Aside0.mk (below_step (by repeat (first | (with_reducible first | exact HB.out | apply below_alloc | apply pw_below_drewN | apply below_drew1 | refine below_set ?_ GE101.out) | exact HB.out)) hb); have n2_ := Aside0.mk (hbox); have n3_ := Aside0.mk ((by rw [hg]; exact (below_size (by repeat (first | (with_reducible first | exact HB.out | apply below_alloc | apply pw_below_drewN | apply below_drew1 | refine below_set ?_ GE101.out) | exact HB.out))) : w.heap.size ≤ gb102)); have n4_ := Aside0.mk ((by rw [hg]; exact (below_size (by repeat (first | (with_reducible first | exact HB.out | apply below_alloc | apply pw_below_drewN | apply below_drew1 | refine below_set ?_ GE101.out) | exact HB.out))) : w.heap.size ≤ gb102)); have n5_ := Aside0.mk ((by rw [hg]; exact Nat.ne_of_lt (blk_lt (g := gb101) (o := .cells #[.int .i64 a0_0, .slice A0_1 l0_1.length c0_1] 24 (0, 0)) (by (with_reducible repeat (first | refine blk_drewN ?_ _ | refine blk_drew ?_ | refine blk_alloc ?_ _)); exact BK101.out)) : gb101 ≠ gb102)); have n6_ := Aside0.mk ((by rw [hg]; exact Nat.ne_of_gt (blk_lt (g := gb101) (o := .cells #[.int .i64 a0_0, .slice A0_1 l0_1.length c0_1] 24 (0, 0)) (by (with_reducible repeat (first | refine blk_drewN ?_ _ | refine blk_drew ?_ | refine blk_alloc ?_ _)); exact BK101.out)) : gb102 ≠ gb101)); clear BK101; clear HB; have BK101 := n0_; have HB := n1_; have BK102 := n2_; have GW102 := n3_; have GE102 := n4_; have NB101_102 := n5_; have NB102_101 := n6_; clear n0_ n1_ n2_ n3_ n4_ n5_ n6_; clear hb hbox hg) | ((with_reducible refine gate_dst (N := 6) rfl ?_); (try (refine gate_guard (by rfl) ?_; dsimp only)); refine box_event ?hg (N := 6) ?hd (cs := #[.int .i64 0, .slice none 0 0]) (t := 24) ?hr ?_; (case hd => rfl); (case hg => rfl); (case hr => first | (go_simp; done) | (go_simp; rfl)); intro gb103 hg w7 hbox hb; have n0_ := Aside0.mk (blk_below (g := gb101) (o := .cells #[.int .i64 a0_0, .slice A0_1 l0_1.length c0_1] 24 (0, 0)) (by (with_reducible repeat (first | refine blk_drewN ?_ _ | refine blk_drew ?_ | refine blk_alloc ?_ _)); exact BK101.out) hb); have n1_ := Aside0.mk (blk_below (g := gb102) (o := .cells #[.bool a2_0, .string a2_1] 33 (0, 0)) (by (with_reducible repeat (first | refine blk_drewN ?_ _ | refine blk_drew ?_ | refine blk_alloc ?_ _)); exact BK102.out) hb); have n2_ := Aside0.mk (below_step (by repeat (first | (with_reducible first | exact HB.out | apply below_alloc | apply pw_below_drewN | apply below_drew1 | refine below_set ?_ GE101.out | refine below_set ?_ GE102.out) | exact HB.out)) hb); have n3_ := Aside0.mk (hbox); have n4_ := Aside0.mk ((by rw [hg]; exact (below_size (by repeat (first | (with_reducible first | exact HB.out | apply below_alloc | apply pw_below_drewN | apply below_drew1 | refine below_set ?_ GE101.out | refine below_set ?_ GE102.out) | exact HB.out))) : w.heap.size ≤ gb103)); have n5_ := Aside0.mk ((by rw [hg]; exact (below_size (by repeat (first | (with_reducible first | exact HB.out | apply below_alloc | apply pw_below_drewN | apply below_drew1 | refine below_set ?_ GE101.out | refine below_set ?_ GE102.out) | exact HB.out))) : w.heap.size ≤ gb103)); have n6_ := Aside0.mk ((by rw [hg]; exact Nat.ne_of_lt (blk_lt (g := gb101) (o := .cells #[.int .i64 a0_0, .slice A0_1 l0_1.length c0_1] 24 (0, 0)) (by (with_reducible repeat (first | refine blk_drewN ?_ _ | refine blk_drew ?_ | refine blk_alloc ?_ _)); exact BK101.out)) : gb101 ≠ gb103)); have n7_ := Aside0.mk ((by rw [hg]; exact Nat.ne_of_gt (blk_lt (g := gb101) (o := .cells #[.int .i64 a0_0, .slice A0_1 l0_1.length c0_1] 24 (0, 0)) (by (with_reducible repeat (first | refine blk_drewN ?_ _ | refine blk_drew ?_ | refine blk_alloc ?_ _)); exact BK101.out)) : gb103 ≠ gb101)); have n8_ := Aside0.mk ((by rw [hg]; exact Nat.ne_of_lt (blk_lt (g := gb102) (o := .cells #[.bool a2_0, .string a2_1] 33 (0, 0)) (by (with_reducible repeat (first | refine blk_drewN ?_ _ | refine blk_drew ?_ | refine blk_alloc ?_ _)); exact BK102.out)) : gb102 ≠ gb103)); have n9_ := Aside0.mk ((by rw [hg]; exact Nat.ne_of_gt (blk_lt (g := gb102) (o := .cells #[.bool a2_0, .string a2_1] 33 (0, 0)) (by (with_reducible repeat (first | refine blk_drewN ?_ _ | refine blk_drew ?_ | refine blk_alloc ?_ _)); exact BK102.out)) : gb103 ≠ gb102)); clear BK101; clear BK102; clear HB; have BK101 := n0_; have BK102 := n1_; have HB := n2_; have BK103 := n3_; have GW103 := n4_; have GE103 := n5_; have NB101_103 := n6_; have NB103_101 := n7_; have NB102_103 := n8_; have NB103_102 := n9_; clear n0_ n1_ n2_ n3_ n4_ n5_ n6_ n7_ n8_ n9_; clear hb hbox hg))
  (try simp only [Act.put, List.setIfInBounds_toArray, List.set_cons_zero, List.set_cons_succ])
  go_cut [9] (fun v9 wc => ∃ (kq : Nat) (x9_3 : Bool), v9 = .bool x9_3 ∧ Aside0 (slab_Put.j0 kq a1 x9_3 a0_0 l0_1 a2_0 a2_1 = some (r1, r2, r3)) ∧ Aside0 (kq ≤ k) ∧ Aside0 (wc.heap[gb101]? = some (.cells #[.int .i64 a0_0, (.slice A0_1 l0_1.length c0_1)] 24 (0, 0))) ∧ Aside0 (wc.heap[gb102]? = some (.cells #[.bool a2_0, .string a2_1] 33 (0, 0))) ∧ Aside0 (wc.heap[gb103]? = some (.cells #[.int .i64 0, (.slice none 0 0)] 24 (0, 0))) ∧ Aside0 (Below w.heap.size w wc))
  case first =>
    have H := HC4.out
    clear HC4
    replace H := Option.bind_eq_some_iff.mp H
    obtain ⟨t104, A80, H⟩ := H
    replace H : (if t104 = true then (if a1 < 0 then (slab_Put.j0 k a1 true a0_0 l0_1 a2_0 a2_1) else (if a1 ≥ 32 then (slab_Put.j0 k a1 true a0_0 l0_1 a2_0 a2_1) else (if a2_0 = true then (slab_Put.j0 k a1 false a0_0 l0_1 a2_0 a2_1) else (slab_Put.j0 k a1 (a2_1.toList != ([] : List UInt8)) a0_0 l0_1 a2_0 a2_1)))) else (slab_Put.j0 k a1 true a0_0 l0_1 a2_0 a2_1)) = some (r1, r2, r3) := H
    have A8 := Aside0.mk A80
    clear A80
    by_cases c9 : t104 = true
    · subst c9
      have H1 : (if a1 < 0 then (slab_Put.j0 k a1 true a0_0 l0_1 a2_0 a2_1) else (if a1 ≥ 32 then (slab_Put.j0 k a1 true a0_0 l0_1 a2_0 a2_1) else (if a2_0 = true then (slab_Put.j0 k a1 false a0_0 l0_1 a2_0 a2_1) else (slab_Put.j0 k a1 (a2_1.toList != ([] : List UInt8)) a0_0 l0_1 a2_0 a2_1)))) = some (r1, r2, r3) := by rw [if_pos rfl] at H; exact H
      clear H
      have H := H1
      clear H1
      by_cases c10 : a1 < 0
      · rw [if_pos c10] at H
        have c10b0 : decide (a1 < 0) = true := decide_eq_true c10
        clear c10
        (first | rw [c10b0] | (simp only [i64_w, i32_w]; rw [c10b0]) | skip)
        have H' := Aside0.mk H
        clear H
        have hnb11 := NB101_102.out
        have hnc11 := NB102_101.out
        have hnb12 := NB101_103.out
        have hnc12 := NB103_101.out
        have hcz13_0 : w7.cell? ⟨gb101, 0, none⟩ = some (.int .i64 a0_0) := (blk_cell BK101.out 0).trans rfl
        have hcz13_1 : w7.cell? ⟨gb101, 1, none⟩ = some (.slice A0_1 l0_1.length c0_1) := (blk_cell BK101.out 1).trans rfl
        have hfz13_0 := blk_frozen BK101.out 0
        have hfz13_1 := blk_frozen BK101.out 1
        go_wp2_with (first | ((with_reducible refine gate_callee (f := 34) rfl ?_); refine goesL_ (some 11) rfl rfl Try.func34 (by kernel_rfl) rfl #[.agg #[.int .i64 a0_0, .slice A0_1 l0_1.length c0_1]] rfl (by (try simp only [List.map_toArray, List.map_cons, List.map_nil]); first | done | rfl | (simp only [List.length_drop, List.length_take]; rfl)) ?_; (with_reducible refine (slabGood.calls a0_0 _ _ l0_1 true _ ?side1 ?side2 A8.out).mono ?_); (case side1 => repeat (first | exact (Kd.C_below HR0_1.out HB.out) | (with_reducible refine Kd.C_alloc ?_ _) | (with_reducible refine Kd.C_drewN ?_ _) | (with_reducible refine Kd.C_drew ?_))); (case side2 => exact HC0_1.out); rintro e w14 ⟨rfl, hb⟩; refine ⟨_, rfl, ?_⟩; have n0_ := Aside0.mk (blk_below (g := gb101) (o := .cells #[.int .i64 a0_0, .slice A0_1 l0_1.length c0_1] 24 (0, 0)) (by (with_reducible repeat (first | refine blk_drewN ?_ _ | refine blk_drew ?_ | refine blk_alloc ?_ _)); exact BK101.out) hb); have n1_ := Aside0.mk (blk_below (g := gb102) (o := .cells #[.bool a2_0, .string a2_1] 33 (0, 0)) (by (with_reducible repeat (first | refine blk_drewN ?_ _ | refine blk_drew ?_ | refine blk_alloc ?_ _)); exact BK102.out) hb); have n2_ := Aside0.mk (blk_below (g := gb103) (o := .cells #[.int .i64 0, .slice none 0 0] 24 (0, 0)) (by (with_reducible repeat (first | refine blk_drewN ?_ _ | refine blk_drew ?_ | refine blk_alloc ?_ _)); exact BK103.out) hb); have n3_ := Aside0.mk (below_step (by repeat (first | (with_reducible first | exact HB.out | apply below_alloc | apply pw_below_drewN | apply below_drew1 | refine below_set ?_ GE101.out | refine below_set ?_ GE102.out | refine below_set ?_ GE103.out) | exact HB.out)) hb); clear BK101; clear BK102; clear BK103; clear HB; have BK101 := n0_; have BK102 := n1_; have BK103 := n2_; have HB := n3_; clear n0_ n1_ n2_ n3_; (try clear hb); (try clear hb2); (try clear hk); (try clear hi)))
        go_meet
        case rel => exact ⟨_, (true), (by first | rfl | (simp; done) | (simp [*]; done) | exact isEmpty_ne _ | (simp; exact isEmpty_ne _) | (simp [*]; exact isEmpty_ne _)), H', ⟨by first | omega | exact Nat.le_refl _⟩, ⟨by (with_reducible repeat (first | refine blk_drewN ?_ _ | refine blk_drew ?_ | refine blk_alloc ?_ _)); exact BK101.out⟩, ⟨by (with_reducible repeat (first | refine blk_drewN ?_ _ | refine blk_drew ?_ | refine blk_alloc ?_ _)); exact BK102.out⟩, ⟨by (with_reducible repeat (first | refine blk_drewN ?_ _ | refine blk_drew ?_ | refine blk_alloc ?_ _)); exact BK103.out⟩, ⟨by repeat (first | (with_reducible first | exact HB.out | apply below_alloc | apply pw_below_drewN | apply below_drew1 | refine below_set ?_ GE101.out | refine below_set ?_ GE102.out | refine below_set ?_ GE103.out) | exact HB.out)⟩⟩
      · rw [if_neg c10] at H
        have c10b0 : decide (a1 < 0) = false := decide_eq_false c10
        clear c10
        (first | rw [c10b0] | (simp only [i64_w, i32_w]; rw [c10b0]) | skip)
        by_cases c15 : a1 ≥ 32
        · rw [if_pos c15] at H
          have c15b0 : decide (32 ≤ a1) = true := decide_eq_true c15
          clear c15
          have H' := Aside0.mk H
          clear H
          have hnb16 := NB101_102.out
          have hnc16 := NB102_101.out
          have hnb17 := NB101_103.out
          have hnc17 := NB103_101.out
          have hcz18_0 : w7.cell? ⟨gb101, 0, none⟩ = some (.int .i64 a0_0) := (blk_cell BK101.out 0).trans rfl
          have hcz18_1 : w7.cell? ⟨gb101, 1, none⟩ = some (.slice A0_1 l0_1.length c0_1) := (blk_cell BK101.out 1).trans rfl
          have hfz18_0 := blk_frozen BK101.out 0
          have hfz18_1 := blk_frozen BK101.out 1
          go_wp2_with (first | ((with_reducible refine gate_callee (f := 34) rfl ?_); refine goesL_ (some 11) rfl rfl Try.func34 (by kernel_rfl) rfl #[.agg #[.int .i64 a0_0, .slice A0_1 l0_1.length c0_1]] rfl (by (try simp only [List.map_toArray, List.map_cons, List.map_nil]); first | done | rfl | (simp only [List.length_drop, List.length_take]; rfl)) ?_; (with_reducible refine (slabGood.calls a0_0 _ _ l0_1 true _ ?side1 ?side2 A8.out).mono ?_); (case side1 => repeat (first | exact (Kd.C_below HR0_1.out HB.out) | (with_reducible refine Kd.C_alloc ?_ _) | (with_reducible refine Kd.C_drewN ?_ _) | (with_reducible refine Kd.C_drew ?_))); (case side2 => exact HC0_1.out); rintro e w19 ⟨rfl, hb⟩; refine ⟨_, rfl, ?_⟩; have n0_ := Aside0.mk (blk_below (g := gb101) (o := .cells #[.int .i64 a0_0, .slice A0_1 l0_1.length c0_1] 24 (0, 0)) (by (with_reducible repeat (first | refine blk_drewN ?_ _ | refine blk_drew ?_ | refine blk_alloc ?_ _)); exact BK101.out) hb); have n1_ := Aside0.mk (blk_below (g := gb102) (o := .cells #[.bool a2_0, .string a2_1] 33 (0, 0)) (by (with_reducible repeat (first | refine blk_drewN ?_ _ | refine blk_drew ?_ | refine blk_alloc ?_ _)); exact BK102.out) hb); have n2_ := Aside0.mk (blk_below (g := gb103) (o := .cells #[.int .i64 0, .slice none 0 0] 24 (0, 0)) (by (with_reducible repeat (first | refine blk_drewN ?_ _ | refine blk_drew ?_ | refine blk_alloc ?_ _)); exact BK103.out) hb); have n3_ := Aside0.mk (below_step (by repeat (first | (with_reducible first | exact HB.out | apply below_alloc | apply pw_below_drewN | apply below_drew1 | refine below_set ?_ GE101.out | refine below_set ?_ GE102.out | refine below_set ?_ GE103.out) | exact HB.out)) hb); clear BK101; clear BK102; clear BK103; clear HB; have BK101 := n0_; have BK102 := n1_; have BK103 := n2_; have HB := n3_; clear n0_ n1_ n2_ n3_; (try clear hb); (try clear hb2); (try clear hk); (try clear hi)))
          go_meet
          case rel => exact ⟨_, (true), (by first | rfl | (simp; done) | (simp [*]; done) | exact isEmpty_ne _ | (simp; exact isEmpty_ne _) | (simp [*]; exact isEmpty_ne _)), H', ⟨by first | omega | exact Nat.le_refl _⟩, ⟨by (with_reducible repeat (first | refine blk_drewN ?_ _ | refine blk_drew ?_ | refine blk_alloc ?_ _)); exact BK101.out⟩, ⟨by (with_reducible repeat (first | refine blk_drewN ?_ _ | refine blk_drew ?_ | refine blk_alloc ?_ _)); exact BK102.out⟩, ⟨by (with_reducible repeat (first | refine blk_drewN ?_ _ | refine blk_drew ?_ | refine blk_alloc ?_ _)); exact BK103.out⟩, ⟨by repeat (first | (with_reducible first | exact HB.out | apply below_alloc | apply pw_below_drewN | apply below_drew1 | refine below_set ?_ GE101.out | refine below_set ?_ GE102.out | refine below_set ?_ GE103.out) | exact HB.out)⟩⟩
        · rw [if_neg c15] at H
          have c15b0 : decide (32 ≤ a1) = false := decide_eq_false c15
          clear c15
          by_cases c20 : a2_0 = true
          · subst c20
            have H1 : (slab_Put.j0 k a1 false a0_0 l0_1 true a2_1) = some (r1, r2, r3) := by rw [if_pos rfl] at H; exact H
            clear H
            have H := H1
            clear H1
            have H' := Aside0.mk H
            clear H
            have hnb21 := NB101_102.out
            have hnc21 := NB102_101.out
            have hnb22 := NB101_103.out
            have hnc22 := NB103_101.out
            have hcz23_0 : w7.cell? ⟨gb101, 0, none⟩ = some (.int .i64 a0_0) := (blk_cell BK101.out 0).trans rfl
            have hcz23_1 : w7.cell? ⟨gb101, 1, none⟩ = some (.slice A0_1 l0_1.length c0_1) := (blk_cell BK101.out 1).trans rfl
            have hfz23_0 := blk_frozen BK101.out 0
            have hfz23_1 := blk_frozen BK101.out 1
            go_wp2_with (first | ((with_reducible refine gate_callee (f := 34) rfl ?_); refine goesL_ (some 11) rfl rfl Try.func34 (by kernel_rfl) rfl #[.agg #[.int .i64 a0_0, .slice A0_1 l0_1.length c0_1]] rfl (by (try simp only [List.map_toArray, List.map_cons, List.map_nil]); first | done | rfl | (simp only [List.length_drop, List.length_take]; rfl)) ?_; (with_reducible refine (slabGood.calls a0_0 _ _ l0_1 true _ ?side1 ?side2 A8.out).mono ?_); (case side1 => repeat (first | exact (Kd.C_below HR0_1.out HB.out) | (with_reducible refine Kd.C_alloc ?_ _) | (with_reducible refine Kd.C_drewN ?_ _) | (with_reducible refine Kd.C_drew ?_))); (case side2 => exact HC0_1.out); rintro e w24 ⟨rfl, hb⟩; refine ⟨_, rfl, ?_⟩; have n0_ := Aside0.mk (blk_below (g := gb101) (o := .cells #[.int .i64 a0_0, .slice A0_1 l0_1.length c0_1] 24 (0, 0)) (by (with_reducible repeat (first | refine blk_drewN ?_ _ | refine blk_drew ?_ | refine blk_alloc ?_ _)); exact BK101.out) hb); have n1_ := Aside0.mk (blk_below (g := gb102) (o := .cells #[.bool true, .string a2_1] 33 (0, 0)) (by (with_reducible repeat (first | refine blk_drewN ?_ _ | refine blk_drew ?_ | refine blk_alloc ?_ _)); exact BK102.out) hb); have n2_ := Aside0.mk (blk_below (g := gb103) (o := .cells #[.int .i64 0, .slice none 0 0] 24 (0, 0)) (by (with_reducible repeat (first | refine blk_drewN ?_ _ | refine blk_drew ?_ | refine blk_alloc ?_ _)); exact BK103.out) hb); have n3_ := Aside0.mk (below_step (by repeat (first | (with_reducible first | exact HB.out | apply below_alloc | apply pw_below_drewN | apply below_drew1 | refine below_set ?_ GE101.out | refine below_set ?_ GE102.out | refine below_set ?_ GE103.out) | exact HB.out)) hb); clear BK101; clear BK102; clear BK103; clear HB; have BK101 := n0_; have BK102 := n1_; have BK103 := n2_; have HB := n3_; clear n0_ n1_ n2_ n3_; (try clear hb); (try clear hb2); (try clear hk); (try clear hi); have hnb25 := NB102_103.out; have hnc25 := NB103_102.out; have hcz26_0 : w24.cell? ⟨gb102, 0, none⟩ = some (.bool true) := (blk_cell BK102.out 0).trans rfl; have hcz26_1 : w24.cell? ⟨gb102, 1, none⟩ = some (.string a2_1) := (blk_cell BK102.out 1).trans rfl; have hfz26_0 := blk_frozen BK102.out 0; have hfz26_1 := blk_frozen BK102.out 1))
            go_meet
            case rel => exact ⟨_, (false), (by first | rfl | (simp; done) | (simp [*]; done) | exact isEmpty_ne _ | (simp; exact isEmpty_ne _) | (simp [*]; exact isEmpty_ne _)), H', ⟨by first | omega | exact Nat.le_refl _⟩, ⟨by (with_reducible repeat (first | refine blk_drewN ?_ _ | refine blk_drew ?_ | refine blk_alloc ?_ _)); exact BK101.out⟩, ⟨by (with_reducible repeat (first | refine blk_drewN ?_ _ | refine blk_drew ?_ | refine blk_alloc ?_ _)); exact BK102.out⟩, ⟨by (with_reducible repeat (first | refine blk_drewN ?_ _ | refine blk_drew ?_ | refine blk_alloc ?_ _)); exact BK103.out⟩, ⟨by repeat (first | (with_reducible first | exact HB.out | apply below_alloc | apply pw_below_drewN | apply below_drew1 | refine below_set ?_ GE101.out | refine below_set ?_ GE102.out | refine below_set ?_ GE103.out) | exact HB.out)⟩⟩
          · replace c20 := Bool.eq_false_iff.mpr c20
            subst c20
            have H1 : (slab_Put.j0 k a1 (a2_1.toList != ([] : List UInt8)) a0_0 l0_1 false a2_1) = some (r1, r2, r3) := by rw [if_neg (show ¬ (false = true) by decide)] at H; exact H
            clear H
            have H := H1
            clear H1
            have H' := Aside0.mk H
            clear H
            have hnb27 := NB101_102.out
            have hnc27 := NB102_101.out
            have hnb28 := NB101_103.out
            have hnc28 := NB103_101.out
            have hcz29_0 : w7.cell? ⟨gb101, 0, none⟩ = some (.int .i64 a0_0) := (blk_cell BK101.out 0).trans rfl
            have hcz29_1 : w7.cell? ⟨gb101, 1, none⟩ = some (.slice A0_1 l0_1.length c0_1) := (blk_cell BK101.out 1).trans rfl
            have hfz29_0 := blk_frozen BK101.out 0
            have hfz29_1 := blk_frozen BK101.out 1
            go_wp2_with (first | ((with_reducible refine gate_callee (f := 34) rfl ?_); refine goesL_ (some 11) rfl rfl Try.func34 (by kernel_rfl) rfl #[.agg #[.int .i64 a0_0, .slice A0_1 l0_1.length c0_1]] rfl (by (try simp only [List.map_toArray, List.map_cons, List.map_nil]); first | done | rfl | (simp only [List.length_drop, List.length_take]; rfl)) ?_; (with_reducible refine (slabGood.calls a0_0 _ _ l0_1 true _ ?side1 ?side2 A8.out).mono ?_); (case side1 => repeat (first | exact (Kd.C_below HR0_1.out HB.out) | (with_reducible refine Kd.C_alloc ?_ _) | (with_reducible refine Kd.C_drewN ?_ _) | (with_reducible refine Kd.C_drew ?_))); (case side2 => exact HC0_1.out); rintro e w30 ⟨rfl, hb⟩; refine ⟨_, rfl, ?_⟩; have n0_ := Aside0.mk (blk_below (g := gb101) (o := .cells #[.int .i64 a0_0, .slice A0_1 l0_1.length c0_1] 24 (0, 0)) (by (with_reducible repeat (first | refine blk_drewN ?_ _ | refine blk_drew ?_ | refine blk_alloc ?_ _)); exact BK101.out) hb); have n1_ := Aside0.mk (blk_below (g := gb102) (o := .cells #[.bool false, .string a2_1] 33 (0, 0)) (by (with_reducible repeat (first | refine blk_drewN ?_ _ | refine blk_drew ?_ | refine blk_alloc ?_ _)); exact BK102.out) hb); have n2_ := Aside0.mk (blk_below (g := gb103) (o := .cells #[.int .i64 0, .slice none 0 0] 24 (0, 0)) (by (with_reducible repeat (first | refine blk_drewN ?_ _ | refine blk_drew ?_ | refine blk_alloc ?_ _)); exact BK103.out) hb); have n3_ := Aside0.mk (below_step (by repeat (first | (with_reducible first | exact HB.out | apply below_alloc | apply pw_below_drewN | apply below_drew1 | refine below_set ?_ GE101.out | refine below_set ?_ GE102.out | refine below_set ?_ GE103.out) | exact HB.out)) hb); clear BK101; clear BK102; clear BK103; clear HB; have BK101 := n0_; have BK102 := n1_; have BK103 := n2_; have HB := n3_; clear n0_ n1_ n2_ n3_; (try clear hb); (try clear hb2); (try clear hk); (try clear hi); have hnb31 := NB102_103.out; have hnc31 := NB103_102.out; have hcz32_0 : w30.cell? ⟨gb102, 0, none⟩ = some (.bool false) := (blk_cell BK102.out 0).trans rfl; have hcz32_1 : w30.cell? ⟨gb102, 1, none⟩ = some (.string a2_1) := (blk_cell BK102.out 1).trans rfl; have hfz32_0 := blk_frozen BK102.out 0; have hfz32_1 := blk_frozen BK102.out 1))
            go_meet
            case rel => exact ⟨_, ((a2_1.toList != ([] : List UInt8))), (by first | rfl | (simp; done) | (simp [*]; done) | exact isEmpty_ne _ | (simp; exact isEmpty_ne _) | (simp [*]; exact isEmpty_ne _)), H', ⟨by first | omega | exact Nat.le_refl _⟩, ⟨by (with_reducible repeat (first | refine blk_drewN ?_ _ | refine blk_drew ?_ | refine blk_alloc ?_ _)); exact BK101.out⟩, ⟨by (with_reducible repeat (first | refine blk_drewN ?_ _ | refine blk_drew ?_ | refine blk_alloc ?_ _)); exact BK102.out⟩, ⟨by (with_reducible repeat (first | refine blk_drewN ?_ _ | refine blk_drew ?_ | refine blk_alloc ?_ _)); exact BK103.out⟩, ⟨by repeat (first | (with_reducible first | exact HB.out | apply below_alloc | apply pw_below_drewN | apply below_drew1 | refine below_set ?_ GE101.out | refine below_set ?_ GE102.out | refine below_set ?_ GE103.out) | exact HB.out)⟩⟩
    · replace c9 := Bool.eq_false_iff.mpr c9
      subst c9
      have H1 : (slab_Put.j0 k a1 true a0_0 l0_1 a2_0 a2_1) = some (r1, r2, r3) := by rw [if_neg (show ¬ (false = true) by decide)] at H; exact H
      clear H
      have H := H1
      clear H1
      have H' := Aside0.mk H
      clear H
      have hnb33 := NB101_102.out
      have hnc33 := NB102_101.out
      have hnb34 := NB101_103.out
      have hnc34 := NB103_101.out
      have hcz35_0 : w7.cell? ⟨gb101, 0, none⟩ = some (.int .i64 a0_0) := (blk_cell BK101.out 0).trans rfl
      have hcz35_1 : w7.cell? ⟨gb101, 1, none⟩ = some (.slice A0_1 l0_1.length c0_1) := (blk_cell BK101.out 1).trans rfl
      have hfz35_0 := blk_frozen BK101.out 0
      have hfz35_1 := blk_frozen BK101.out 1
      go_wp2_with (first | ((with_reducible refine gate_callee (f := 34) rfl ?_); refine goesL_ (some 11) rfl rfl Try.func34 (by kernel_rfl) rfl #[.agg #[.int .i64 a0_0, .slice A0_1 l0_1.length c0_1]] rfl (by (try simp only [List.map_toArray, List.map_cons, List.map_nil]); first | done | rfl | (simp only [List.length_drop, List.length_take]; rfl)) ?_; (with_reducible refine (slabGood.calls a0_0 _ _ l0_1 false _ ?side1 ?side2 A8.out).mono ?_); (case side1 => repeat (first | exact (Kd.C_below HR0_1.out HB.out) | (with_reducible refine Kd.C_alloc ?_ _) | (with_reducible refine Kd.C_drewN ?_ _) | (with_reducible refine Kd.C_drew ?_))); (case side2 => exact HC0_1.out); rintro e w36 ⟨rfl, hb⟩; refine ⟨_, rfl, ?_⟩; have n0_ := Aside0.mk (blk_below (g := gb101) (o := .cells #[.int .i64 a0_0, .slice A0_1 l0_1.length c0_1] 24 (0, 0)) (by (with_reducible repeat (first | refine blk_drewN ?_ _ | refine blk_drew ?_ | refine blk_alloc ?_ _)); exact BK101.out) hb); have n1_ := Aside0.mk (blk_below (g := gb102) (o := .cells #[.bool a2_0, .string a2_1] 33 (0, 0)) (by (with_reducible repeat (first | refine blk_drewN ?_ _ | refine blk_drew ?_ | refine blk_alloc ?_ _)); exact BK102.out) hb); have n2_ := Aside0.mk (blk_below (g := gb103) (o := .cells #[.int .i64 0, .slice none 0 0] 24 (0, 0)) (by (with_reducible repeat (first | refine blk_drewN ?_ _ | refine blk_drew ?_ | refine blk_alloc ?_ _)); exact BK103.out) hb); have n3_ := Aside0.mk (below_step (by repeat (first | (with_reducible first | exact HB.out | apply below_alloc | apply pw_below_drewN | apply below_drew1 | refine below_set ?_ GE101.out | refine below_set ?_ GE102.out | refine below_set ?_ GE103.out) | exact HB.out)) hb); clear BK101; clear BK102; clear BK103; clear HB; have BK101 := n0_; have BK102 := n1_; have BK103 := n2_; have HB := n3_; clear n0_ n1_ n2_ n3_; (try clear hb); (try clear hb2); (try clear hk); (try clear hi)))
      go_meet
      case rel => exact ⟨_, (true), (by first | rfl | (simp; done) | (simp [*]; done) | exact isEmpty_ne _ | (simp; exact isEmpty_ne _) | (simp [*]; exact isEmpty_ne _)), H', ⟨by first | omega | exact Nat.le_refl _⟩, ⟨by (with_reducible repeat (first | refine blk_drewN ?_ _ | refine blk_drew ?_ | refine blk_alloc ?_ _)); exact BK101.out⟩, ⟨by (with_reducible repeat (first | refine blk_drewN ?_ _ | refine blk_drew ?_ | refine blk_alloc ?_ _)); exact BK102.out⟩, ⟨by (with_reducible repeat (first | refine blk_drewN ?_ _ | refine blk_drew ?_ | refine blk_alloc ?_ _)); exact BK103.out⟩, ⟨by repeat (first | (with_reducible first | exact HB.out | apply below_alloc | apply pw_below_drewN | apply below_drew1 | refine below_set ?_ GE101.out | refine below_set ?_ GE102.out | refine below_set ?_ GE103.out) | exact HB.out)⟩⟩
  case rest =>
    clear HC4
    try clear c1
    try clear c2
    try clear p2
    try clear c3
    try clear c9
    try clear c10
    try clear c10b0
    try clear c11
    try clear c12
    try clear c15
    try clear c15b0
    try clear c16
    try clear c17
    try clear c20
    try clear c21
    try clear c22
    try clear c25
    try clear c27
    try clear c28
    try clear c31
    try clear c33
    try clear c34
    try clear hcz13_0
    try clear hcz13_1
    try clear hcz18_0
    try clear hcz18_1
    try clear hcz23_0
    try clear hcz23_1
    try clear hcz26_0
    try clear hcz26_1
    try clear hcz29_0
    try clear hcz29_1
    try clear hcz32_0
    try clear hcz32_1
    try clear hcz35_0
    try clear hcz35_1
    try clear hfz13_0
    try clear hfz13_1
    try clear hfz18_0
    try clear hfz18_1
    try clear hfz23_0
    try clear hfz23_1
    try clear hfz26_0
    try clear hfz26_1
    try clear hfz29_0
    try clear hfz29_1
    try clear hfz32_0
    try clear hfz32_1
    try clear hfz35_0
    try clear hfz35_1
    obtain ⟨kq, x9_3, rfl, HA, HJ3, BK101, BK102, BK103, HB⟩ := hcut
    cases kq with
    | zero => exact absurd HA.out (by simp [slab_Put.j0])
    | succ kj3 =>
      have H := HA.out
      clear HA
      simp only [slab_Put.j0] at H
      by_cases c37 : x9_3 = true
      · subst c37
        have H1 : (some (0, ([] : List (S33)), 1)) = some (r1, r2, r3) := by rw [if_pos rfl] at H; exact H
        clear H
        have H := H1
        clear H1
        simp only [Option.some.injEq, Prod.mk.injEq] at H
        obtain ⟨rfl, rfl, rfl⟩ := H
        have hnb38 := NB103_101.out
        have hnc38 := NB101_103.out
        have hnb39 := NB103_102.out
        have hnc39 := NB102_103.out
        have hcz40_0 : wc.cell? ⟨gb103, 0, none⟩ = some (.int .i64 0) := (blk_cell BK103.out 0).trans rfl
        have hcz40_1 : wc.cell? ⟨gb103, 1, none⟩ = some (.slice none 0 0) := (blk_cell BK103.out 1).trans rfl
        have hfz40_0 := blk_frozen BK103.out 0
        have hfz40_1 := blk_frozen BK103.out 1
        go_wp2
        refine bodyPost_ret (results_ct rfl _ _ gb103 24 #[.int .i64 0, .slice none 0 0] (0, 0) _ rfl (by (with_reducible repeat (first | refine blk_drewN ?_ _ | refine blk_drew ?_ | refine blk_alloc ?_ _)); refine blk_put (cs := #[.int .i64 0, .slice none 0 0]) ?_ 1 _ rfl; (with_reducible repeat (first | refine blk_drewN ?_ _ | refine blk_drew ?_ | refine blk_alloc ?_ _)); refine blk_put (cs := #[.int .i64 0, .slice none 0 0]) ?_ 0 _ rfl; (with_reducible repeat (first | refine blk_drewN ?_ _ | refine blk_drew ?_ | refine blk_alloc ?_ _)); exact BK103.out) Try.underlying24 rfl (by kernel_rfl)) rfl ?_
        exact ⟨_, by first | rfl | (simp [errW_none, errW_some] <;> rfl) | (simp [*, errW_none, errW_some] <;> rfl), by first | exact Kd.R_nil _ _ _ _ _ | exact Kd.N_nil _ _ _ _ _ | exact Kd.V_nil _ _ _ _ _ | exact Kd.Q_nil _ _ _ _ _ | exact Kd.S_nil _ _ _ _ _, by repeat (first | (with_reducible first | exact HB.out | apply below_alloc | apply pw_below_drewN | apply below_drew1 | refine below_set ?_ GE101.out | refine below_set ?_ GE102.out | refine below_set ?_ GE103.out) | exact HB.out)⟩
      · replace c37 := Bool.eq_false_iff.mpr c37
        subst c37
        have H1 : (if (a2_1.size : Int) > 200 then (some (0, ([] : List (S33)), 5)) else (if 0 ≤ (mx (l0_1.length : Int) (wrap64 (a1 + 1))) then (if (mx (l0_1.length : Int) (wrap64 (a1 + 1)) : Int).toNat ≤ 11728124029610 then ((some (copyIn (List.replicate (mx (l0_1.length : Int) (wrap64 (a1 + 1)) : Int).toNat z33) l0_1 : List (S33))).bind fun y105 => (if 0 ≤ a1 then (if a1 < (y105.length : Int) then (slab_Put.l0 kj3 (y105.set (a1 : Int).toNat (⟨a2_0, a2_1⟩ : S33)) a0_0 l0_1) else (none)) else (none))) else (none)) else (none))) = some (r1, r2, r3) := by rw [if_neg (show ¬ (false = true) by decide)] at H; exact H
        clear H
        have H := H1
        clear H1
        by_cases c41 : (a2_1.size : Int) > 200
        · rw [if_pos c41] at H
          have c41b0 : decide (200 < (a2_1.size : Int)) = true := decide_eq_true c41
          have c41b1 : decide (200 < a2_1.size) = true := decide_eq_true (by omega)
          clear c41
          simp only [Option.some.injEq, Prod.mk.injEq] at H
          obtain ⟨rfl, rfl, rfl⟩ := H
          have hnb42 := NB102_101.out
          have hnc42 := NB101_102.out
          have hnb43 := NB102_103.out
          have hnc43 := NB103_102.out
          have hcz44_0 : wc.cell? ⟨gb102, 0, none⟩ = some (.bool a2_0) := (blk_cell BK102.out 0).trans rfl
          have hcz44_1 : wc.cell? ⟨gb102, 1, none⟩ = some (.string a2_1) := (blk_cell BK102.out 1).trans rfl
          have hfz44_0 := blk_frozen BK102.out 0
          have hfz44_1 := blk_frozen BK102.out 1
          have hnb45 := NB103_101.out
          have hnc45 := NB101_103.out
          have hcz46_0 : wc.cell? ⟨gb103, 0, none⟩ = some (.int .i64 0) := (blk_cell BK103.out 0).trans rfl
          have hcz46_1 : wc.cell? ⟨gb103, 1, none⟩ = some (.slice none 0 0) := (blk_cell BK103.out 1).trans rfl
          have hfz46_0 := blk_frozen BK103.out 0
          have hfz46_1 := blk_frozen BK103.out 1
          go_wp2
          refine bodyPost_ret (results_ct rfl _ _ gb103 24 #[.int .i64 0, .slice none 0 0] (0, 0) _ rfl (by (with_reducible repeat (first | refine blk_drewN ?_ _ | refine blk_drew ?_ | refine blk_alloc ?_ _)); refine blk_put (cs := #[.int .i64 0, .slice none 0 0]) ?_ 1 _ rfl; (with_reducible repeat (first | refine blk_drewN ?_ _ | refine blk_drew ?_ | refine blk_alloc ?_ _)); refine blk_put (cs := #[.int .i64 0, .slice none 0 0]) ?_ 0 _ rfl; (with_reducible repeat (first | refine blk_drewN ?_ _ | refine blk_drew ?_ | refine blk_alloc ?_ _)); exact BK103.out) Try.underlying24 rfl (by kernel_rfl)) rfl ?_
          exact ⟨_, by first | rfl | (simp [errW_none, errW_some] <;> rfl) | (simp [*, errW_none, errW_some] <;> rfl), by first | exact Kd.R_nil _ _ _ _ _ | exact Kd.N_nil _ _ _ _ _ | exact Kd.V_nil _ _ _ _ _ | exact Kd.Q_nil _ _ _ _ _ | exact Kd.S_nil _ _ _ _ _, by repeat (first | (with_reducible first | exact HB.out | apply below_alloc | apply pw_below_drewN | apply below_drew1 | refine below_set ?_ GE101.out | refine below_set ?_ GE102.out | refine below_set ?_ GE103.out) | exact HB.out)⟩
        · rw [if_neg c41] at H
          have c41b0 : decide (200 < (a2_1.size : Int)) = false := decide_eq_false c41
          have c41b1 : decide (200 < a2_1.size) = false := decide_eq_false (by omega)
          clear c41
          obtain ⟨ji47, hji47⟩ : ∃ j_ : Int, (mx (l0_1.length : Int) (wrap64 (a1 + 1))) = j_ := ⟨_, rfl⟩
          replace H : (if 0 ≤ (ji47) then (if (ji47 : Int).toNat ≤ 11728124029610 then ((some (copyIn (List.replicate (ji47 : Int).toNat z33) l0_1 : List (S33))).bind fun y105 => (if 0 ≤ a1 then (if a1 < (y105.length : Int) then (slab_Put.l0 kj3 (y105.set (a1 : Int).toNat (⟨a2_0, a2_1⟩ : S33)) a0_0 l0_1) else (none)) else (none))) else (none)) else (none)) = some (r1, r2, r3) := by first | (rw [hji47] at H; exact H) | (simp only [hji47] at H ⊢; exact H)
          have hji47_ : (if (l0_1.length : Int) < (wrap64 (a1 + 1)) then (wrap64 (a1 + 1)) else (l0_1.length : Int)) = ji47 := hji47
          by_cases c48 : 0 ≤ (ji47)
          · rw [if_pos c48] at H
            have c48b0 := eq_true c48
            have c48b1 : decide (0 ≤ (ji47)) = true := decide_eq_true c48
            clear c48
            by_cases c49 : (ji47 : Int).toNat ≤ 11728124029610
            · rw [if_pos c49] at H
              have c49b0 := eq_true c49
              have c49b1 : decide ((ji47 : Int).toNat ≤ 11728124029610) = true := decide_eq_true c49
              clear c49
              obtain ⟨yb, hyb⟩ : ∃ y_ : List (S33), y_ = (List.replicate (ji47 : Int).toNat z33) := ⟨_, rfl⟩
              obtain ⟨y105, hy105⟩ : ∃ y_ : List (S33), y_ = copyIn yb l0_1 := ⟨_, rfl⟩
              replace H : (if 0 ≤ a1 then (if a1 < (y105.length : Int) then (slab_Put.l0 kj3 (y105.set (a1 : Int).toNat (⟨a2_0, a2_1⟩ : S33)) a0_0 l0_1) else (none)) else (none)) = some (r1, r2, r3) := by rw [hy105, hyb]; exact H
              have hleb : l0_1.length ≤ yb.length := by
                rw [hyb, List.length_replicate, ← hji47]
                unfold mx
                split <;> omega
              have HLEB := Aside0.mk hleb
              have HLB : Aside0 (yb.length = y105.length) := ⟨by rw [hy105, copyIn_length yb l0_1 hleb]⟩
              have Nyb := Aside0.mk hyb
              clear hyb hleb
              have Ny105 := Aside0.mk hy105
              clear hy105
              by_cases c50 : 0 ≤ a1
              · rw [if_pos c50] at H
                have c50b0 : decide (0 ≤ a1) = true := decide_eq_true c50
                clear c50
                by_cases c51 : a1 < (y105.length : Int)
                · rw [if_pos c51] at H
                  have c51b0 : decide (a1 < (y105.length : Int)) = true := decide_eq_true c51
                  clear c51
                  obtain ⟨y108, hy108⟩ : ∃ y_ : List (S33), y_ = (y105.set (a1 : Int).toNat (⟨a2_0, a2_1⟩ : S33)) := ⟨_, rfl⟩
                  replace H : (slab_Put.l0 kj3 y108 a0_0 l0_1) = some (r1, r2, r3) := by first | (rw [hy108]; with_reducible exact H) | (have H2_ := (Option.bind_some _ _).symm.trans H; rw [hy108]; with_reducible exact H2_) | (have H2_ := (Option.bind_some _ _).symm.trans H; with_reducible exact H2_) | with_reducible exact H | (rw [hy108]; exact H) | exact H
                  have Ny108 := Aside0.mk hy108
                  clear hy108
                  have H' := Aside0.mk H
                  clear H
                  have hnb53 := NB102_101.out
                  have hnc53 := NB101_102.out
                  have hnb54 := NB102_103.out
                  have hnc54 := NB103_102.out
                  have hcz55_0 : wc.cell? ⟨gb102, 0, none⟩ = some (.bool a2_0) := (blk_cell BK102.out 0).trans rfl
                  have hcz55_1 : wc.cell? ⟨gb102, 1, none⟩ = some (.string a2_1) := (blk_cell BK102.out 1).trans rfl
                  have hfz55_0 := blk_frozen BK102.out 0
                  have hfz55_1 := blk_frozen BK102.out 1
                  have hnb56 := NB101_103.out
                  have hnc56 := NB103_101.out
                  have hcz57_0 : wc.cell? ⟨gb101, 0, none⟩ = some (.int .i64 a0_0) := (blk_cell BK101.out 0).trans rfl
                  have hcz57_1 : wc.cell? ⟨gb101, 1, none⟩ = some (.slice A0_1 l0_1.length c0_1) := (blk_cell BK101.out 1).trans rfl
                  have hfz57_0 := blk_frozen BK101.out 0
                  have hfz57_1 := blk_frozen BK101.out 1
                  go_wp2_with (first | ((with_reducible refine gate_dst (N := 44) rfl ?_); (try (refine gate_guard (by rfl) ?_; dsimp only)); refine Kd.R_make k33 _ 33 rfl (N := 44) rfl 22 _ _ rfl ji47 rfl rfl Try.underlying22 (.agg #[(.bool false), (.string ⟨#[]⟩)]) 24 info33 rfl (by decide) (by omega) z33 (ok := fun _ => True) (okp := fun _ => True) (k33_mkM _ _ _ z33 ) (fun _ hk => hk) trivial (of_decide_eq_true (by first | (with_reducible assumption) | assumption)) (Nat.le_trans (Nat.mul_le_mul_right _ (of_decide_eq_true (by first | (with_reducible assumption) | assumption) : ji47.toNat ≤ 11728124029610)) (by omega)) (Below.refl _ _) (Nat.le_refl _) ?_; intro v106 w58 ho59 hb hg_ hnew_; clear hg_ hnew_; (first | rw [← Nyb.out] at ho59 | (simp only [Int.reduceToNat] at ho59; rw [← Nyb.out] at ho59)); have n0_ := Aside0.mk (Kd.R_lower (Kd.R_newB ho59 (g := gb102) (o := .cells #[.bool a2_0, .string a2_1] 33 (0, 0)) (by (with_reducible repeat (first | refine blk_drewN ?_ _ | refine blk_drew ?_ | refine blk_alloc ?_ _)); exact BK102.out)) (below_size (by repeat (first | (with_reducible first | exact HB.out | apply below_alloc | apply pw_below_drewN | apply below_drew1 | refine below_set ?_ GE101.out | refine below_set ?_ GE102.out | refine below_set ?_ GE103.out) | exact HB.out)))); have n1_ := Aside0.mk (blk_below (g := gb101) (o := .cells #[.int .i64 a0_0, .slice A0_1 l0_1.length c0_1] 24 (0, 0)) (by (with_reducible repeat (first | refine blk_drewN ?_ _ | refine blk_drew ?_ | refine blk_alloc ?_ _)); exact BK101.out) hb); have n2_ := Aside0.mk (blk_below (g := gb102) (o := .cells #[.bool a2_0, .string a2_1] 33 (0, 0)) (by (with_reducible repeat (first | refine blk_drewN ?_ _ | refine blk_drew ?_ | refine blk_alloc ?_ _)); exact BK102.out) hb); have n3_ := Aside0.mk (blk_below (g := gb103) (o := .cells #[.int .i64 0, .slice none 0 0] 24 (0, 0)) (by (with_reducible repeat (first | refine blk_drewN ?_ _ | refine blk_drew ?_ | refine blk_alloc ?_ _)); exact BK103.out) hb); have n4_ := Aside0.mk (below_step (by repeat (first | (with_reducible first | exact HB.out | apply below_alloc | apply pw_below_drewN | apply below_drew1 | refine below_set ?_ GE101.out | refine below_set ?_ GE102.out | refine below_set ?_ GE103.out) | exact HB.out)) hb); clear BK101; clear BK102; clear BK103; clear HB; have HO107 := n0_; have BK101 := n1_; have BK102 := n2_; have BK103 := n3_; have HB := n4_; clear n0_ n1_ n2_ n3_ n4_; clear hb ho59; have hcz60_0 : w58.cell? ⟨gb101, 0, none⟩ = some (.int .i64 a0_0) := (blk_cell BK101.out 0).trans rfl; have hcz60_1 : w58.cell? ⟨gb101, 1, none⟩ = some (.slice A0_1 l0_1.length c0_1) := (blk_cell BK101.out 1).trans rfl; have hfz60_0 := blk_frozen BK101.out 0; have hfz60_1 := blk_frozen BK101.out 1; have hcz61_0 : w58.cell? ⟨gb102, 0, none⟩ = some (.bool a2_0) := (blk_cell BK102.out 0).trans rfl; have hcz61_1 : w58.cell? ⟨gb102, 1, none⟩ = some (.string a2_1) := (blk_cell BK102.out 1).trans rfl; have hfz61_0 := blk_frozen BK102.out 0; have hfz61_1 := blk_frozen BK102.out 1; have q52b : 0 < yb.length := (by have h1_ := HLB.out; have h2_ : a1 < (y105.length : Int) := of_decide_eq_true (by first | (with_reducible assumption) | assumption); have h3_ : 0 ≤ a1 := of_decide_eq_true (by first | (with_reducible assumption) | assumption); omega); obtain ⟨go52, co52, eo52, gb52, gl52, cl52, HG52⟩ := Kd.R_form HO107.out q52b; clear q52b; rw [HLB.out] at eo52; (first | cases eo52 | (injection eo52 with ea_ en_ ec_; (first | subst ea_ | (injection ea_ with ea_; subst ea_)); subst ec_; clear en_)); have GB52 := Aside0.mk gb52; have GG52 := Aside0.mk HG52; clear gb52 gl52 HG52; have n_ := Aside0.mk (Kd.R_mono (ok' := (fun k_ => k_ ≠ gb102)) HO107.out (fun k_ hk => hk.2)); clear HO107; have HO107 := n_; clear n_) | ((with_reducible refine gate_dst (N := 48) rfl ?_); refine copy33_event rfl (N := 48) rfl _ _ rfl (xs := yb) (ys := l0_1) rfl rfl (by (with_reducible repeat (first | apply Kd.R_alloc | apply Kd.R_drewN | apply Kd.R_drew)); exact HO107.out) (by repeat (first | exact (Kd.C_below HR0_1.out HB.out) | (with_reducible refine Kd.C_alloc ?_ _) | (with_reducible refine Kd.C_drewN ?_ _) | (with_reducible refine Kd.C_drew ?_))) HLEB.out ?_; intro w59 hR59 hg hb59; rw [← Ny105.out] at hR59; have n0_ := Aside0.mk (blk_grown (g := gb101) (o := .cells #[.int .i64 a0_0, .slice A0_1 l0_1.length c0_1] 24 (0, 0)) (by (with_reducible repeat (first | refine blk_drewN ?_ _ | refine blk_drew ?_ | refine blk_alloc ?_ _)); exact BK101.out) hg (Kd.R_ne HO107.out BK101.out (by decide))); have n1_ := Aside0.mk (blk_grown (g := gb102) (o := .cells #[.bool a2_0, .string a2_1] 33 (0, 0)) (by (with_reducible repeat (first | refine blk_drewN ?_ _ | refine blk_drew ?_ | refine blk_alloc ?_ _)); exact BK102.out) hg (Kd.R_away HO107.out (fun _ hk => hk))); have n2_ := Aside0.mk (blk_grown (g := gb103) (o := .cells #[.int .i64 0, .slice none 0 0] 24 (0, 0)) (by (with_reducible repeat (first | refine blk_drewN ?_ _ | refine blk_drew ?_ | refine blk_alloc ?_ _)); exact BK103.out) hg (Kd.R_ne HO107.out BK103.out (by decide))); have n3_ := Aside0.mk hR59; have n4_ := Aside0.mk (HB.out.trans hb59); clear BK101 BK102 BK103 HO107 HB; have BK101 := n0_; have BK102 := n1_; have BK103 := n2_; have HO107 := n3_; have HB := n4_; clear n0_ n1_ n2_ n3_ n4_ hg hb59 hR59; have hcz70_0 : w59.cell? ⟨gb102, 0, none⟩ = some (.bool a2_0) := (blk_cell BK102.out 0).trans rfl; have hcz70_1 : w59.cell? ⟨gb102, 1, none⟩ = some (.string a2_1) := (blk_cell BK102.out 1).trans rfl; have hfz70_0 := blk_frozen BK102.out 0; have hfz70_1 := blk_frozen BK102.out 1; have p52 : 0 ≤ (a1 : Int) := of_decide_eq_true (by first | (with_reducible assumption) | assumption); have q52 : (a1 : Int) < ((y105.length : Int) : Int) := of_decide_eq_true (by first | (with_reducible assumption) | assumption); obtain ⟨ce52, hcl52, hM52, hcc52, hfr52⟩ := Kd.R_elem HO107.out z33 (a1 : Int) p52 q52; obtain rfl := k33_openM hM52; have hx52_0 : w59.cell? ⟨go52, (a1 : Int).toNat * 2, none⟩ = some (.bool ((rd_T33 y105 a1).f0)) := hcc52 0 _ rfl; have hx52_1 : w59.cell? ⟨go52, (a1 : Int).toNat * 2 + 1, none⟩ = some (.string ((rd_T33 y105 a1).f1)) := hcc52 1 _ rfl; have hf52_0 : w59.frozen? ⟨go52, (a1 : Int).toNat * 2, none⟩ = false := hfr52 0; have hf52_1 : w59.frozen? ⟨go52, (a1 : Int).toNat * 2 + 1, none⟩ = false := hfr52 1; clear hcl52 hcc52 hfr52 hM52; replace p52 := eq_true p52; replace q52 := eq_true q52; have HX62 := Aside0.mk (show Kd.R k33 33 w59 w.heap.size (fun k_ => k_ ≠ gb102) (.slice (some ⟨go52, 0, none⟩) y105.length co52) y105 from (by (with_reducible repeat (first | apply Kd.R_alloc | apply Kd.R_drewN | apply Kd.R_drew)); exact HO107.out)); obtain ⟨ce62, hcl62, hM62, hcc62, hfr62⟩ := Kd.R_elem HX62.out z33 (a1 : Int) (of_decide_eq_true (by first | (with_reducible assumption) | assumption)) (by have h_ : (a1 : Int) < ((y105.length : Int) : Int) := of_decide_eq_true (by first | (with_reducible assumption) | assumption); first | exact h_ | (have e_ := (Kd.R_reads' HO107.out).1; omega) | simpa using h_); obtain rfl := k33_openM hM62; have HP62 := Kd.R_seg HX62.out (a1 : Int) (of_decide_eq_true (by first | (with_reducible assumption) | assumption)) (by have h_ : (a1 : Int) < ((y105.length : Int) : Int) := of_decide_eq_true (by first | (with_reducible assumption) | assumption); first | exact h_ | (have e_ := (Kd.R_reads' HO107.out).1; omega) | simpa using h_) (seg := [.bool a2_0, .string a2_1]) (j := 0) hcl62 hcc62 (show 2 ≤ 2 from by decide) (x' := (⟨a2_0, a2_1⟩ : S33)) (k33_mkM _ _ _ (⟨a2_0, a2_1⟩ : S33) ) (fun _ hk => hk); have hx62_0 := hcc62 0 _ rfl; (try simp only [show (k33).sz = 2 from rfl, Nat.mul_one, Nat.add_zero] at hx62_0); have hf62_0 := hfr62 0; (try simp only [show (k33).sz = 2 from rfl, Nat.mul_one, Nat.add_zero] at hf62_0); have hx62_1 := hcc62 1 _ rfl; (try simp only [show (k33).sz = 2 from rfl, Nat.mul_one, Nat.add_zero] at hx62_1); have hf62_1 := hfr62 1; (try simp only [show (k33).sz = 2 from rfl, Nat.mul_one, Nat.add_zero] at hf62_1); clear hcl62 hcc62 hfr62 hM62) | ((with_reducible refine gate_store (t := 33) (p := 52) rfl ?_); refine store_event (t := 33) (p := 52) (v := ?vo_w63) (w1 := ((w59.setCell ⟨go52, (a1 : Int).toNat * 2, none⟩ (.bool a2_0)).setCell ⟨go52, (a1 : Int).toNat * 2 + 1, none⟩ (.string a2_1))) ?hg ?ho ?hn ?hr ?_; (case ho => rfl); (case hg => rfl); (case hn => rfl); (case hr => first | (go_simp; done) | (go_simp; rfl)); intro w63 hw; have hg : w59.grownBy w63 (some go52) := (by rw [hw]; exact HP62.2); have hp_ : Kd.R k33 33 w63 w.heap.size (fun k_ => k_ ≠ gb102) (.slice (some ⟨go52, 0, none⟩) y105.length co52) y108 := (by rw [hw, Ny108.out]; exact HP62.1); clear HP62; have n0_ := Aside0.mk (blk_grown (g := gb101) (o := .cells #[.int .i64 a0_0, .slice A0_1 l0_1.length c0_1] 24 (0, 0)) (by (with_reducible repeat (first | refine blk_drewN ?_ _ | refine blk_drew ?_ | refine blk_alloc ?_ _)); exact BK101.out) hg (Kd.R_ne HO107.out BK101.out (by decide))); have n1_ := Aside0.mk (blk_grown (g := gb102) (o := .cells #[.bool a2_0, .string a2_1] 33 (0, 0)) (by (with_reducible repeat (first | refine blk_drewN ?_ _ | refine blk_drew ?_ | refine blk_alloc ?_ _)); exact BK102.out) hg (Kd.R_away HO107.out (fun _ hk => hk))); have n2_ := Aside0.mk (blk_grown (g := gb103) (o := .cells #[.int .i64 0, .slice none 0 0] 24 (0, 0)) (by (with_reducible repeat (first | refine blk_drewN ?_ _ | refine blk_drew ?_ | refine blk_alloc ?_ _)); exact BK103.out) hg (Kd.R_ne HO107.out BK103.out (by decide))); have n3_ := Aside0.mk (hp_); have n4_ := Aside0.mk ((by rw [hw]; exact below_set (below_set (HB.out) GB52.out) GB52.out : Below w.heap.size w w63)); clear BK101; clear BK102; clear BK103; clear HO107; clear HB; have BK101 := n0_; have BK102 := n1_; have BK103 := n2_; have HO107 := n3_; have HB := n4_; clear n0_ n1_ n2_ n3_ n4_; clear hg hw hp_))
                  go_loopg [8] kj3 (fun kq v8 w' => ∃ (x8_2 : List (S33)), Aside0 (slab_Put.l0 kq x8_2 a0_0 l0_1 = some (r1, r2, r3)) ∧ Aside0 (kq ≤ kj3) ∧ Aside0 (Kd.R k33 33 w' w.heap.size (fun k_ => k_ ≠ gb102) v8 x8_2) ∧ Aside0 (w'.heap[gb101]? = some (.cells #[.int .i64 a0_0, (.slice A0_1 l0_1.length c0_1)] 24 (0, 0))) ∧ Aside0 (w'.heap[gb102]? = some (.cells #[.bool a2_0, .string a2_1] 33 (0, 0))) ∧ Aside0 (w'.heap[gb103]? = some (.cells #[.int .i64 0, (.slice none 0 0)] 24 (0, 0))) ∧ Aside0 (Below w.heap.size w w'))
                  case atStart => exact ⟨(y108), H', ⟨Nat.le_refl _⟩, ⟨by (with_reducible repeat (first | apply Kd.R_alloc | apply Kd.R_drewN | apply Kd.R_drew)); exact HO107.out⟩, ⟨by (with_reducible repeat (first | refine blk_drewN ?_ _ | refine blk_drew ?_ | refine blk_alloc ?_ _)); exact BK101.out⟩, ⟨by (with_reducible repeat (first | refine blk_drewN ?_ _ | refine blk_drew ?_ | refine blk_alloc ?_ _)); exact BK102.out⟩, ⟨by (with_reducible repeat (first | refine blk_drewN ?_ _ | refine blk_drew ?_ | refine blk_alloc ?_ _)); exact BK103.out⟩, ⟨by repeat (first | (with_reducible first | exact HB.out | apply below_alloc | apply pw_below_drewN | apply below_drew1 | refine below_set ?_ GE101.out | refine below_set ?_ GE102.out | refine below_set ?_ GE103.out) | exact HB.out)⟩⟩
                  case round =>
                    clear H'
                    try clear c1
                    try clear c2
                    try clear p2
                    try clear c3
                    try clear c4
                    try clear c5
                    try clear p5
                    try clear q5
                    try clear hx5
                    try clear hf5
                    try clear c6
                    try clear p6
                    try clear hx6
                    try clear hf6
                    try clear c9
                    try clear c10
                    try clear c10b0
                    try clear c11
                    try clear c12
                    try clear c15
                    try clear c15b0
                    try clear c16
                    try clear c17
                    try clear c20
                    try clear c21
                    try clear c22
                    try clear c25
                    try clear c27
                    try clear c28
                    try clear c31
                    try clear c33
                    try clear c34
                    try clear c37
                    try clear c38
                    try clear c39
                    try clear c41
                    try clear c41b0
                    try clear c41b1
                    try clear c42
                    try clear c43
                    try clear c45
                    try clear c48
                    try clear c48b0
                    try clear c48b1
                    try clear c49
                    try clear c49b0
                    try clear c49b1
                    try clear c50
                    try clear c50b0
                    try clear c51
                    try clear c51b0
                    try clear c52
                    try clear p52
                    try clear q52
                    try clear hx52
                    try clear hf52
                    try clear c53
                    try clear c54
                    try clear c56
                    try clear c62
                    try clear hx62
                    try clear hf62
                    try clear hcz13_0
                    try clear hcz13_1
                    try clear hcz18_0
                    try clear hcz18_1
                    try clear hcz23_0
                    try clear hcz23_1
                    try clear hcz26_0
                    try clear hcz26_1
                    try clear hcz29_0
                    try clear hcz29_1
                    try clear hcz32_0
                    try clear hcz32_1
                    try clear hcz35_0
                    try clear hcz35_1
                    try clear hcz40_0
                    try clear hcz40_1
                    try clear hcz44_0
                    try clear hcz44_1
                    try clear hcz46_0
                    try clear hcz46_1
                    try clear hcz55_0
                    try clear hcz55_1
                    try clear hcz57_0
                    try clear hcz57_1
                    try clear hcz60_0
                    try clear hcz60_1
                    try clear hcz61_0
                    try clear hcz61_1
                    try clear hfz13_0
                    try clear hfz13_1
                    try clear hfz18_0
                    try clear hfz18_1
                    try clear hfz23_0
                    try clear hfz23_1
                    try clear hfz26_0
                    try clear hfz26_1
                    try clear hfz29_0
                    try clear hfz29_1
                    try clear hfz32_0
                    try clear hfz32_1
                    try clear hfz35_0
                    try clear hfz35_1
                    try clear hfz40_0
                    try clear hfz40_1
                    try clear hfz44_0
                    try clear hfz44_1
                    try clear hfz46_0
                    try clear hfz46_1
                    try clear hfz55_0
                    try clear hfz55_1
                    try clear hfz57_0
                    try clear hfz57_1
                    try clear hfz60_0
                    try clear hfz60_1
                    try clear hfz61_0
                    try clear hfz61_1
                    try clear hx52_0
                    try clear hx52_1
                    try clear hx62_0
                    try clear hx62_1
                    try clear p2
                    try clear p52
                    try clear q52
                    obtain ⟨x8_2, HA, HK2, HO_8, BK101, BK102, BK103, HB⟩ := hrel
                    cases gk with
                    | zero => exact absurd HA.out (by simp [slab_Put.l0])
                    | succ k2 =>
                      have H := HA.out
                      clear HA
                      simp only [slab_Put.l0] at H
                      by_cases c64 : (x8_2.length : Int) > 0
                      · rw [if_pos c64] at H
                        have c64b0 : decide (0 < (x8_2.length : Int)) = true := decide_eq_true c64
                        have c64b1 : decide (0 < x8_2.length) = true := decide_eq_true (by omega)
                        clear c64
                        obtain ⟨ji65, hji65⟩ : ∃ j_ : Int, (wrap64 ((x8_2.length : Int) - 1)) = j_ := ⟨_, rfl⟩
                        replace H : (if 0 ≤ (ji65) then (if (ji65) < (x8_2.length : Int) then (if ((rd_T33 x8_2 (ji65)).f0 = true) then ((slabSize0.f x8_2).bind fun t110 => (if t110 > 240 then (some (0, ([] : List (S33)), 22)) else (some (a0_0, x8_2, 0)))) else (if (ji65) ≤ (x8_2.length : Int) then (slab_Put.l0 k2 (x8_2.take ((ji65) : Int).toNat) a0_0 l0_1) else (none))) else (none)) else (none)) = some (r1, r2, r3) := by first | (rw [hji65] at H; exact H) | (simp only [hji65] at H ⊢; exact H)
                        have hji65w : (IntKind.i64.wrap ((x8_2.length : Int) - 1)) = ji65 := (i64_w _).trans hji65
                        by_cases c66 : 0 ≤ (ji65)
                        · rw [if_pos c66] at H
                          have c66b0 : decide (0 ≤ (ji65)) = true := decide_eq_true c66
                          clear c66
                          by_cases c67 : (ji65) < (x8_2.length : Int)
                          · rw [if_pos c67] at H
                            have c67b0 : decide ((ji65) < (x8_2.length : Int)) = true := decide_eq_true c67
                            clear c67
                            obtain ⟨bq68, hbq68⟩ : ∃ b_ : Bool, b_ = ((rd_T33 x8_2 (ji65)).f0) := ⟨_, rfl⟩
                            replace H : (if (bq68 = true) then ((slabSize0.f x8_2).bind fun t110 => (if t110 > 240 then (some (0, ([] : List (S33)), 22)) else (some (a0_0, x8_2, 0)))) else (if (ji65) ≤ (x8_2.length : Int) then (slab_Put.l0 k2 (x8_2.take ((ji65) : Int).toNat) a0_0 l0_1) else (none))) = some (r1, r2, r3) := by rw [← hbq68] at H; exact H
                            have Nbq68 := Aside0.mk hbq68
                            clear hbq68
                            by_cases c69 : (bq68 = true)
                            · subst c69
                              have H1 : ((slabSize0.f x8_2).bind fun t110 => (if t110 > 240 then (some (0, ([] : List (S33)), 22)) else (some (a0_0, x8_2, 0)))) = some (r1, r2, r3) := by rw [if_pos rfl] at H; exact H
                              clear H
                              have H := H1
                              clear H1
                              replace H := Option.bind_eq_some_iff.mp H
                              obtain ⟨t110, A700, H⟩ := H
                              replace H : (if t110 > 240 then (some (0, ([] : List (S33)), 22)) else (some (a0_0, x8_2, 0))) = some (r1, r2, r3) := H
                              have A70 := Aside0.mk A700
                              clear A700
                              by_cases c71 : t110 > 240
                              · rw [if_pos c71] at H
                                have c71b0 : decide (240 < t110) = true := decide_eq_true c71
                                clear c71
                                simp only [Option.some.injEq, Prod.mk.injEq] at H
                                obtain ⟨rfl, rfl, rfl⟩ := H
                                obtain ⟨Ao72, co72, eo72⟩ := Kd.R_slice HO_8.out
                                subst eo72
                                have p109 : 0 ≤ ((ji65) : Int) := of_decide_eq_true (by first | (with_reducible assumption) | assumption)
                                have q109 : (ji65) < (x8_2.length : Int) := of_decide_eq_true (by first | (with_reducible assumption) | assumption)
                                obtain ⟨ad109, e109, hx109_0, hx109_1⟩ := at_T33 (Kd.R_reads' HO_8.out).2.2 (ji65) p109 q109
                                (try rw [← Nbq68.out] at hx109_0)
                                cases e109
                                replace p109 := eq_true p109
                                replace q109 := eq_true q109
                                go_wp2_with (first | ((with_reducible refine gate_callee (f := 81) rfl ?_); refine goesL_ (some 72) rfl rfl Try.func81 (by kernel_rfl) rfl #[.slice (some ad109) x8_2.length co72] rfl (by (try simp only [List.map_toArray, List.map_cons, List.map_nil]); first | done | rfl | (simp only [List.length_drop, List.length_take]; rfl)) ?_; (with_reducible refine (slabSize0.calls _ _ x8_2 t110 _ ?side1 ?side2 A70.out).mono ?_); (case side1 => repeat (first | exact (Kd.R_reads' HO_8.out).2.2 | (with_reducible refine Kd.C_alloc ?_ _) | (with_reducible refine Kd.C_drewN ?_ _) | (with_reducible refine Kd.C_drew ?_))); (case side2 => exact (Kd.R_reads' HO_8.out).2.1); rintro e w73 ⟨rfl, hb⟩; refine ⟨_, rfl, ?_⟩; have n0_ := Aside0.mk (Kd.R_below (by (with_reducible repeat (first | apply Kd.R_alloc | apply Kd.R_drewN | apply Kd.R_drew)); exact HO_8.out) hb); have n1_ := Aside0.mk (blk_below (g := gb101) (o := .cells #[.int .i64 a0_0, .slice A0_1 l0_1.length c0_1] 24 (0, 0)) (by (with_reducible repeat (first | refine blk_drewN ?_ _ | refine blk_drew ?_ | refine blk_alloc ?_ _)); exact BK101.out) hb); have n2_ := Aside0.mk (blk_below (g := gb102) (o := .cells #[.bool a2_0, .string a2_1] 33 (0, 0)) (by (with_reducible repeat (first | refine blk_drewN ?_ _ | refine blk_drew ?_ | refine blk_alloc ?_ _)); exact BK102.out) hb); have n3_ := Aside0.mk (blk_below (g := gb103) (o := .cells #[.int .i64 0, .slice none 0 0] 24 (0, 0)) (by (with_reducible repeat (first | refine blk_drewN ?_ _ | refine blk_drew ?_ | refine blk_alloc ?_ _)); exact BK103.out) hb); have n4_ := Aside0.mk (below_step (by repeat (first | (with_reducible first | exact HB.out | apply below_alloc | apply pw_below_drewN | apply below_drew1 | refine below_set ?_ GE101.out | refine below_set ?_ GE102.out | refine below_set ?_ GE103.out) | exact HB.out)) hb); clear HO_8; clear BK101; clear BK102; clear BK103; clear HB; have HO_8 := n0_; have BK101 := n1_; have BK102 := n2_; have BK103 := n3_; have HB := n4_; clear n0_ n1_ n2_ n3_ n4_; (try clear hb); (try clear hb2); (try clear hk); (try clear hi); have hnb74 := NB103_101.out; have hnc74 := NB101_103.out; have hnb75 := NB103_102.out; have hnc75 := NB102_103.out; have hcz76_0 : w73.cell? ⟨gb103, 0, none⟩ = some (.int .i64 0) := (blk_cell BK103.out 0).trans rfl; have hcz76_1 : w73.cell? ⟨gb103, 1, none⟩ = some (.slice none 0 0) := (blk_cell BK103.out 1).trans rfl; have hfz76_0 := blk_frozen BK103.out 0; have hfz76_1 := blk_frozen BK103.out 1))
                                refine bodyPost_ret (results_ct rfl _ _ gb103 24 #[.int .i64 0, .slice none 0 0] (0, 0) _ rfl (by (with_reducible repeat (first | refine blk_drewN ?_ _ | refine blk_drew ?_ | refine blk_alloc ?_ _)); refine blk_put (cs := #[.int .i64 0, .slice none 0 0]) ?_ 1 _ rfl; (with_reducible repeat (first | refine blk_drewN ?_ _ | refine blk_drew ?_ | refine blk_alloc ?_ _)); refine blk_put (cs := #[.int .i64 0, .slice none 0 0]) ?_ 0 _ rfl; (with_reducible repeat (first | refine blk_drewN ?_ _ | refine blk_drew ?_ | refine blk_alloc ?_ _)); exact BK103.out) Try.underlying24 rfl (by kernel_rfl)) rfl ?_
                                exact ⟨_, by first | rfl | (simp [errW_none, errW_some] <;> rfl) | (simp only [← hji47, ← hji65]; first | rfl | (simp [errW_none, errW_some] <;> rfl)) | (simp [*, errW_none, errW_some] <;> rfl), by first | exact Kd.R_nil _ _ _ _ _ | exact Kd.N_nil _ _ _ _ _ | exact Kd.V_nil _ _ _ _ _ | exact Kd.Q_nil _ _ _ _ _ | exact Kd.S_nil _ _ _ _ _, by repeat (first | (with_reducible first | exact HB.out | apply below_alloc | apply pw_below_drewN | apply below_drew1 | refine below_set ?_ GE101.out | refine below_set ?_ GE102.out | refine below_set ?_ GE103.out) | exact HB.out)⟩
                              · rw [if_neg c71] at H
                                have c71b0 : decide (240 < t110) = false := decide_eq_false c71
                                clear c71
                                simp only [Option.some.injEq, Prod.mk.injEq] at H
                                obtain ⟨rfl, rfl, rfl⟩ := H
                                obtain ⟨Ao77, co77, eo77⟩ := Kd.R_slice HO_8.out
                                subst eo77
                                have p109 : 0 ≤ ((ji65) : Int) := of_decide_eq_true (by first | (with_reducible assumption) | assumption)
                                have q109 : (ji65) < (x8_2.length : Int) := of_decide_eq_true (by first | (with_reducible assumption) | assumption)
                                obtain ⟨ad109, e109, hx109_0, hx109_1⟩ := at_T33 (Kd.R_reads' HO_8.out).2.2 (ji65) p109 q109
                                (try rw [← Nbq68.out] at hx109_0)
                                cases e109
                                replace p109 := eq_true p109
                                replace q109 := eq_true q109
                                go_wp2_with (first | ((with_reducible refine gate_callee (f := 81) rfl ?_); refine goesL_ (some 72) rfl rfl Try.func81 (by kernel_rfl) rfl #[.slice (some ad109) x8_2.length co77] rfl (by (try simp only [List.map_toArray, List.map_cons, List.map_nil]); first | done | rfl | (simp only [List.length_drop, List.length_take]; rfl)) ?_; (with_reducible refine (slabSize0.calls _ _ x8_2 t110 _ ?side1 ?side2 A70.out).mono ?_); (case side1 => repeat (first | exact (Kd.R_reads' HO_8.out).2.2 | (with_reducible refine Kd.C_alloc ?_ _) | (with_reducible refine Kd.C_drewN ?_ _) | (with_reducible refine Kd.C_drew ?_))); (case side2 => exact (Kd.R_reads' HO_8.out).2.1); rintro e w78 ⟨rfl, hb⟩; refine ⟨_, rfl, ?_⟩; have n0_ := Aside0.mk (Kd.R_below (by (with_reducible repeat (first | apply Kd.R_alloc | apply Kd.R_drewN | apply Kd.R_drew)); exact HO_8.out) hb); have n1_ := Aside0.mk (blk_below (g := gb101) (o := .cells #[.int .i64 a0_0, .slice A0_1 l0_1.length c0_1] 24 (0, 0)) (by (with_reducible repeat (first | refine blk_drewN ?_ _ | refine blk_drew ?_ | refine blk_alloc ?_ _)); exact BK101.out) hb); have n2_ := Aside0.mk (blk_below (g := gb102) (o := .cells #[.bool a2_0, .string a2_1] 33 (0, 0)) (by (with_reducible repeat (first | refine blk_drewN ?_ _ | refine blk_drew ?_ | refine blk_alloc ?_ _)); exact BK102.out) hb); have n3_ := Aside0.mk (blk_below (g := gb103) (o := .cells #[.int .i64 0, .slice none 0 0] 24 (0, 0)) (by (with_reducible repeat (first | refine blk_drewN ?_ _ | refine blk_drew ?_ | refine blk_alloc ?_ _)); exact BK103.out) hb); have n4_ := Aside0.mk (below_step (by repeat (first | (with_reducible first | exact HB.out | apply below_alloc | apply pw_below_drewN | apply below_drew1 | refine below_set ?_ GE101.out | refine below_set ?_ GE102.out | refine below_set ?_ GE103.out) | exact HB.out)) hb); clear HO_8; clear BK101; clear BK102; clear BK103; clear HB; have HO_8 := n0_; have BK101 := n1_; have BK102 := n2_; have BK103 := n3_; have HB := n4_; clear n0_ n1_ n2_ n3_ n4_; (try clear hb); (try clear hb2); (try clear hk); (try clear hi); have hnb79 := NB101_102.out; have hnc79 := NB102_101.out; have hnb80 := NB101_103.out; have hnc80 := NB103_101.out; have hcz81_0 : w78.cell? ⟨gb101, 0, none⟩ = some (.int .i64 a0_0) := (blk_cell BK101.out 0).trans rfl; have hcz81_1 : w78.cell? ⟨gb101, 1, none⟩ = some (.slice A0_1 l0_1.length c0_1) := (blk_cell BK101.out 1).trans rfl; have hfz81_0 := blk_frozen BK101.out 0; have hfz81_1 := blk_frozen BK101.out 1; have hnb82 := NB103_102.out; have hnc82 := NB102_103.out; have hcz83_0 : w78.cell? ⟨gb103, 0, none⟩ = some (.int .i64 0) := (blk_cell BK103.out 0).trans rfl; have hcz83_1 : w78.cell? ⟨gb103, 1, none⟩ = some (.slice none 0 0) := (blk_cell BK103.out 1).trans rfl; have hfz83_0 := blk_frozen BK103.out 0; have hfz83_1 := blk_frozen BK103.out 1))
                                refine bodyPost_ret (results_ct rfl _ _ gb103 24 #[.int .i64 a0_0, .slice (some ad109) x8_2.length co77] (0, 0) _ rfl (by (with_reducible repeat (first | refine blk_drewN ?_ _ | refine blk_drew ?_ | refine blk_alloc ?_ _)); refine blk_put (cs := #[.int .i64 a0_0, .slice none 0 0]) ?_ 1 _ rfl; (with_reducible repeat (first | refine blk_drewN ?_ _ | refine blk_drew ?_ | refine blk_alloc ?_ _)); refine blk_put (cs := #[.int .i64 0, .slice none 0 0]) ?_ 0 _ rfl; (with_reducible repeat (first | refine blk_drewN ?_ _ | refine blk_drew ?_ | refine blk_alloc ?_ _)); exact BK103.out) Try.underlying24 rfl (by kernel_rfl)) rfl ?_
                                exact ⟨_, by first | rfl | (simp [errW_none, errW_some] <;> rfl) | (simp only [← hji47, ← hji65]; first | rfl | (simp [errW_none, errW_some] <;> rfl)) | (simp [*, errW_none, errW_some] <;> rfl), by (with_reducible repeat (first | apply Kd.R_alloc | apply Kd.R_drewN | apply Kd.R_drew)); exact Kd.R_mono (Kd.R_far (p := ⟨gb103, 1, none⟩) (Kd.R_far (p := ⟨gb103, 0, none⟩) (Kd.R_types HO_8.out BK103.out (by decide)) (fun _ hk => hk.2) (.int .i64 a0_0)) (fun _ hk => hk.2) (.slice (some ad109) x8_2.length co77)) (fun _ hk => trivial), by repeat (first | (with_reducible first | exact HB.out | apply below_alloc | apply pw_below_drewN | apply below_drew1 | refine below_set ?_ GE101.out | refine below_set ?_ GE102.out | refine below_set ?_ GE103.out) | exact HB.out)⟩
                            · replace c69 := Bool.eq_false_iff.mpr c69
                              subst c69
                              have H1 : (if (ji65) ≤ (x8_2.length : Int) then (slab_Put.l0 k2 (x8_2.take ((ji65) : Int).toNat) a0_0 l0_1) else (none)) = some (r1, r2, r3) := by rw [if_neg (show ¬ (false = true) by decide)] at H; exact H
                              clear H
                              have H := H1
                              clear H1
                              by_cases c84 : (ji65) ≤ (x8_2.length : Int)
                              · rw [if_pos c84] at H
                                have c84b0 := eq_true c84
                                have c84b1 : decide ((ji65) ≤ (x8_2.length : Int)) = true := decide_eq_true c84
                                clear c84
                                obtain ⟨y111, hy111⟩ : ∃ y_ : List (S33), y_ = (x8_2.take ((ji65) : Int).toNat) := ⟨_, rfl⟩
                                replace H : (slab_Put.l0 k2 y111 a0_0 l0_1) = some (r1, r2, r3) := by first | (rw [hy111]; with_reducible exact H) | (have H2_ := (Option.bind_some _ _).symm.trans H; rw [hy111]; with_reducible exact H2_) | (have H2_ := (Option.bind_some _ _).symm.trans H; with_reducible exact H2_) | with_reducible exact H | (rw [hy111]; exact H) | exact H
                                have Ny111 := Aside0.mk hy111
                                clear hy111
                                have H' := Aside0.mk H
                                clear H
                                obtain ⟨Ao85, co85, eo85⟩ := Kd.R_slice HO_8.out
                                subst eo85
                                have p109 : 0 ≤ ((ji65) : Int) := of_decide_eq_true (by first | (with_reducible assumption) | assumption)
                                have q109 : (ji65) < (x8_2.length : Int) := of_decide_eq_true (by first | (with_reducible assumption) | assumption)
                                obtain ⟨ad109, e109, hx109_0, hx109_1⟩ := at_T33 (Kd.R_reads' HO_8.out).2.2 (ji65) p109 q109
                                (try rw [← Nbq68.out] at hx109_0)
                                cases e109
                                replace p109 := eq_true p109
                                replace q109 := eq_true q109
                                have q86 : ((ji65) : Int) ≤ ((x8_2.length : Int) : Int) := of_decide_eq_true (by first | (with_reducible assumption) | assumption)
                                obtain ⟨i086, hi086, _, hsz86, _⟩ := info_parts info33
                                have hcut86 := cut_to (P := Try.prog) 22 33 .i64 Try.underlying22 hi086 (some ad109) x8_2.length co85 (ji65) (of_decide_eq_true (by first | (with_reducible assumption) | assumption)) q86 (Kd.R_reads' HO_8.out).2.1
                                have hr86 := Kd.R_take (m := ((ji65) : Int).toNat) HO_8.out (by omega)
                                have hy86 : y111.length = ((ji65) : Int).toNat := (by rw [Ny111.out, List.length_take]; omega)
                                rw [← Ny111.out] at hr86
                                rw [← hy86] at hr86 hcut86
                                clear hy86 hi086 hsz86 HO_8
                                have HO113 := Aside0.mk hr86
                                clear hr86
                                replace q86 := eq_true q86
                                go_wp2
                                go_roundg k2
                                case measure => have := HJ3.out; have := HK2.out; omega
                                case rel => exact ⟨(y111), H', ⟨by have := HJ3.out; have := HK2.out; omega⟩, ⟨by (with_reducible repeat (first | apply Kd.R_alloc | apply Kd.R_drewN | apply Kd.R_drew)); exact HO113.out⟩, ⟨by (with_reducible repeat (first | refine blk_drewN ?_ _ | refine blk_drew ?_ | refine blk_alloc ?_ _)); exact BK101.out⟩, ⟨by (with_reducible repeat (first | refine blk_drewN ?_ _ | refine blk_drew ?_ | refine blk_alloc ?_ _)); exact BK102.out⟩, ⟨by (with_reducible repeat (first | refine blk_drewN ?_ _ | refine blk_drew ?_ | refine blk_alloc ?_ _)); exact BK103.out⟩, ⟨by repeat (first | (with_reducible first | exact HB.out | apply below_alloc | apply pw_below_drewN | apply below_drew1 | refine below_set ?_ GE101.out | refine below_set ?_ GE102.out | refine below_set ?_ GE103.out) | exact HB.out)⟩⟩
                              · rw [if_neg c84] at H
                                exact absurd H (by simp)
                          · rw [if_neg c67] at H
                            exact absurd H (by simp)
                        · rw [if_neg c66] at H
                          exact absurd H (by simp)
                      · rw [if_neg c64] at H
                        have c64b0 : decide (0 < (x8_2.length : Int)) = false := decide_eq_false c64
                        have c64b1 : decide (0 < x8_2.length) = false := decide_eq_false (by omega)
                        clear c64
                        replace H := Option.bind_eq_some_iff.mp H
                        obtain ⟨t114, A870, H⟩ := H
                        replace H : (if t114 > 240 then (some (0, ([] : List (S33)), 22)) else (some (a0_0, x8_2, 0))) = some (r1, r2, r3) := H
                        have A87 := Aside0.mk A870
                        clear A870
                        by_cases c88 : t114 > 240
                        · rw [if_pos c88] at H
                          have c88b0 : decide (240 < t114) = true := decide_eq_true c88
                          clear c88
                          simp only [Option.some.injEq, Prod.mk.injEq] at H
                          obtain ⟨rfl, rfl, rfl⟩ := H
                          obtain ⟨Ao89, co89, eo89⟩ := Kd.R_slice HO_8.out
                          subst eo89
                          go_wp2_with (first | ((with_reducible refine gate_callee (f := 81) rfl ?_); refine goesL_ (some 72) rfl rfl Try.func81 (by kernel_rfl) rfl #[.slice Ao89 x8_2.length co89] rfl (by (try simp only [List.map_toArray, List.map_cons, List.map_nil]); first | done | rfl | (simp only [List.length_drop, List.length_take]; rfl)) ?_; (with_reducible refine (slabSize0.calls _ _ x8_2 t114 _ ?side1 ?side2 A87.out).mono ?_); (case side1 => repeat (first | exact (Kd.R_reads' HO_8.out).2.2 | (with_reducible refine Kd.C_alloc ?_ _) | (with_reducible refine Kd.C_drewN ?_ _) | (with_reducible refine Kd.C_drew ?_))); (case side2 => exact (Kd.R_reads' HO_8.out).2.1); rintro e w90 ⟨rfl, hb⟩; refine ⟨_, rfl, ?_⟩; have n0_ := Aside0.mk (Kd.R_below (by (with_reducible repeat (first | apply Kd.R_alloc | apply Kd.R_drewN | apply Kd.R_drew)); exact HO_8.out) hb); have n1_ := Aside0.mk (blk_below (g := gb101) (o := .cells #[.int .i64 a0_0, .slice A0_1 l0_1.length c0_1] 24 (0, 0)) (by (with_reducible repeat (first | refine blk_drewN ?_ _ | refine blk_drew ?_ | refine blk_alloc ?_ _)); exact BK101.out) hb); have n2_ := Aside0.mk (blk_below (g := gb102) (o := .cells #[.bool a2_0, .string a2_1] 33 (0, 0)) (by (with_reducible repeat (first | refine blk_drewN ?_ _ | refine blk_drew ?_ | refine blk_alloc ?_ _)); exact BK102.out) hb); have n3_ := Aside0.mk (blk_below (g := gb103) (o := .cells #[.int .i64 0, .slice none 0 0] 24 (0, 0)) (by (with_reducible repeat (first | refine blk_drewN ?_ _ | refine blk_drew ?_ | refine blk_alloc ?_ _)); exact BK103.out) hb); have n4_ := Aside0.mk (below_step (by repeat (first | (with_reducible first | exact HB.out | apply below_alloc | apply pw_below_drewN | apply below_drew1 | refine below_set ?_ GE101.out | refine below_set ?_ GE102.out | refine below_set ?_ GE103.out) | exact HB.out)) hb); clear HO_8; clear BK101; clear BK102; clear BK103; clear HB; have HO_8 := n0_; have BK101 := n1_; have BK102 := n2_; have BK103 := n3_; have HB := n4_; clear n0_ n1_ n2_ n3_ n4_; (try clear hb); (try clear hb2); (try clear hk); (try clear hi); have hnb91 := NB103_101.out; have hnc91 := NB101_103.out; have hnb92 := NB103_102.out; have hnc92 := NB102_103.out; have hcz93_0 : w90.cell? ⟨gb103, 0, none⟩ = some (.int .i64 0) := (blk_cell BK103.out 0).trans rfl; have hcz93_1 : w90.cell? ⟨gb103, 1, none⟩ = some (.slice none 0 0) := (blk_cell BK103.out 1).trans rfl; have hfz93_0 := blk_frozen BK103.out 0; have hfz93_1 := blk_frozen BK103.out 1))
                          refine bodyPost_ret (results_ct rfl _ _ gb103 24 #[.int .i64 0, .slice none 0 0] (0, 0) _ rfl (by (with_reducible repeat (first | refine blk_drewN ?_ _ | refine blk_drew ?_ | refine blk_alloc ?_ _)); refine blk_put (cs := #[.int .i64 0, .slice none 0 0]) ?_ 1 _ rfl; (with_reducible repeat (first | refine blk_drewN ?_ _ | refine blk_drew ?_ | refine blk_alloc ?_ _)); refine blk_put (cs := #[.int .i64 0, .slice none 0 0]) ?_ 0 _ rfl; (with_reducible repeat (first | refine blk_drewN ?_ _ | refine blk_drew ?_ | refine blk_alloc ?_ _)); exact BK103.out) Try.underlying24 rfl (by kernel_rfl)) rfl ?_
                          exact ⟨_, by first | rfl | (simp [errW_none, errW_some] <;> rfl) | (simp only [← hji47]; first | rfl | (simp [errW_none, errW_some] <;> rfl)) | (simp [*, errW_none, errW_some] <;> rfl), by first | exact Kd.R_nil _ _ _ _ _ | exact Kd.N_nil _ _ _ _ _ | exact Kd.V_nil _ _ _ _ _ | exact Kd.Q_nil _ _ _ _ _ | exact Kd.S_nil _ _ _ _ _, by repeat (first | (with_reducible first | exact HB.out | apply below_alloc | apply pw_below_drewN | apply below_drew1 | refine below_set ?_ GE101.out | refine below_set ?_ GE102.out | refine below_set ?_ GE103.out) | exact HB.out)⟩
                        · rw [if_neg c88] at H
                          have c88b0 : decide (240 < t114) = false := decide_eq_false c88
                          clear c88
                          simp only [Option.some.injEq, Prod.mk.injEq] at H
                          obtain ⟨rfl, rfl, rfl⟩ := H
                          obtain ⟨Ao94, co94, eo94⟩ := Kd.R_slice HO_8.out
                          subst eo94
                          go_wp2_with (first | ((with_reducible refine gate_callee (f := 81) rfl ?_); refine goesL_ (some 72) rfl rfl Try.func81 (by kernel_rfl) rfl #[.slice Ao94 x8_2.length co94] rfl (by (try simp only [List.map_toArray, List.map_cons, List.map_nil]); first | done | rfl | (simp only [List.length_drop, List.length_take]; rfl)) ?_; (with_reducible refine (slabSize0.calls _ _ x8_2 t114 _ ?side1 ?side2 A87.out).mono ?_); (case side1 => repeat (first | exact (Kd.R_reads' HO_8.out).2.2 | (with_reducible refine Kd.C_alloc ?_ _) | (with_reducible refine Kd.C_drewN ?_ _) | (with_reducible refine Kd.C_drew ?_))); (case side2 => exact (Kd.R_reads' HO_8.out).2.1); rintro e w95 ⟨rfl, hb⟩; refine ⟨_, rfl, ?_⟩; have n0_ := Aside0.mk (Kd.R_below (by (with_reducible repeat (first | apply Kd.R_alloc | apply Kd.R_drewN | apply Kd.R_drew)); exact HO_8.out) hb); have n1_ := Aside0.mk (blk_below (g := gb101) (o := .cells #[.int .i64 a0_0, .slice A0_1 l0_1.length c0_1] 24 (0, 0)) (by (with_reducible repeat (first | refine blk_drewN ?_ _ | refine blk_drew ?_ | refine blk_alloc ?_ _)); exact BK101.out) hb); have n2_ := Aside0.mk (blk_below (g := gb102) (o := .cells #[.bool a2_0, .string a2_1] 33 (0, 0)) (by (with_reducible repeat (first | refine blk_drewN ?_ _ | refine blk_drew ?_ | refine blk_alloc ?_ _)); exact BK102.out) hb); have n3_ := Aside0.mk (blk_below (g := gb103) (o := .cells #[.int .i64 0, .slice none 0 0] 24 (0, 0)) (by (with_reducible repeat (first | refine blk_drewN ?_ _ | refine blk_drew ?_ | refine blk_alloc ?_ _)); exact BK103.out) hb); have n4_ := Aside0.mk (below_step (by repeat (first | (with_reducible first | exact HB.out | apply below_alloc | apply pw_below_drewN | apply below_drew1 | refine below_set ?_ GE101.out | refine below_set ?_ GE102.out | refine below_set ?_ GE103.out) | exact HB.out)) hb); clear HO_8; clear BK101; clear BK102; clear BK103; clear HB; have HO_8 := n0_; have BK101 := n1_; have BK102 := n2_; have BK103 := n3_; have HB := n4_; clear n0_ n1_ n2_ n3_ n4_; (try clear hb); (try clear hb2); (try clear hk); (try clear hi); have hnb96 := NB101_102.out; have hnc96 := NB102_101.out; have hnb97 := NB101_103.out; have hnc97 := NB103_101.out; have hcz98_0 : w95.cell? ⟨gb101, 0, none⟩ = some (.int .i64 a0_0) := (blk_cell BK101.out 0).trans rfl; have hcz98_1 : w95.cell? ⟨gb101, 1, none⟩ = some (.slice A0_1 l0_1.length c0_1) := (blk_cell BK101.out 1).trans rfl; have hfz98_0 := blk_frozen BK101.out 0; have hfz98_1 := blk_frozen BK101.out 1; have hnb99 := NB103_102.out; have hnc99 := NB102_103.out; have hcz100_0 : w95.cell? ⟨gb103, 0, none⟩ = some (.int .i64 0) := (blk_cell BK103.out 0).trans rfl; have hcz100_1 : w95.cell? ⟨gb103, 1, none⟩ = some (.slice none 0 0) := (blk_cell BK103.out 1).trans rfl; have hfz100_0 := blk_frozen BK103.out 0; have hfz100_1 := blk_frozen BK103.out 1))
                          refine bodyPost_ret (results_ct rfl _ _ gb103 24 #[.int .i64 a0_0, .slice Ao94 x8_2.length co94] (0, 0) _ rfl (by (with_reducible repeat (first | refine blk_drewN ?_ _ | refine blk_drew ?_ | refine blk_alloc ?_ _)); refine blk_put (cs := #[.int .i64 a0_0, .slice none 0 0]) ?_ 1 _ rfl; (with_reducible repeat (first | refine blk_drewN ?_ _ | refine blk_drew ?_ | refine blk_alloc ?_ _)); refine blk_put (cs := #[.int .i64 0, .slice none 0 0]) ?_ 0 _ rfl; (with_reducible repeat (first | refine blk_drewN ?_ _ | refine blk_drew ?_ | refine blk_alloc ?_ _)); exact BK103.out) Try.underlying24 rfl (by kernel_rfl)) rfl ?_
                          exact ⟨_, by first | rfl | (simp [errW_none, errW_some] <;> rfl) | (simp only [← hji47]; first | rfl | (simp [errW_none, errW_some] <;> rfl)) | (simp [*, errW_none, errW_some] <;> rfl), by (with_reducible repeat (first | apply Kd.R_alloc | apply Kd.R_drewN | apply Kd.R_drew)); exact Kd.R_mono (Kd.R_far (p := ⟨gb103, 1, none⟩) (Kd.R_far (p := ⟨gb103, 0, none⟩) (Kd.R_types HO_8.out BK103.out (by decide)) (fun _ hk => hk.2) (.int .i64 a0_0)) (fun _ hk => hk.2) (.slice Ao94 x8_2.length co94)) (fun _ hk => trivial), by repeat (first | (with_reducible first | exact HB.out | apply below_alloc | apply pw_below_drewN | apply below_drew1 | refine below_set ?_ GE101.out | refine below_set ?_ GE102.out | refine below_set ?_ GE103.out) | exact HB.out)⟩
                · rw [if_neg c51] at H
                  exact absurd H (by simp)
              · rw [if_neg c50] at H
                exact absurd H (by simp)
            · rw [if_neg c49] at H
              exact absurd H (by simp)
          · rw [if_neg c48] at H
            exact absurd H (by simp)

end Go.Proofs.Ytfjmnaobfbmllaa.M

namespace Go.Proofs.Ytfjmnaobfbmllaa.M
open Go.RowKit Go.Proofs.YtfjmnaobfbmllaaW.PrintWords Go.Proofs.YtfjmnaobfbmllaaW.PrintLast Go.Proofs.YtfjmnaobfbmllaaW.PrintMore
set_option linter.unusedVariables false
set_option linter.unusedSimpArgs false

/-- Without the slots behind the last one that is used. -/
def trimS (xs : List S33) : List S33 := (xs.reverse.dropWhile (fun x => !x.f0)).reverse
def extS (l : List S33) (n : Nat) : List S33 := l ++ List.replicate (n - l.length) z33
def putL (l : List S33) (s : Nat) (x : S33) : List S33 := trimS ((extS l (s + 1)).set s x)
/-- A slot that isn't used and has data. -/
def badS (x : S33) : Bool := !x.f0 && !x.f1.toList.isEmpty
def putP (a : Int) (l : List S33) (s : Int) (x : S33) : Int × List S33 × Int :=
  if goodP a l = false ∨ s < 0 ∨ 32 ≤ s ∨ badS x = true then (0, [], 1)
  else if 200 < x.f1.size then (0, [], 5)
  else if 240 < rawSize (putL l s.toNat x) then (0, [], 22) else (a, putL l s.toNat x, 0)

theorem trim_snoc_used (ys : List S33) (y : S33) (h : y.f0 = true) : trimS (ys ++ [y]) = ys ++ [y] := by
  unfold trimS; simp [h]
theorem trim_snoc_free (ys : List S33) (y : S33) (h : y.f0 = false) : trimS (ys ++ [y]) = trimS ys := by
  unfold trimS; simp [h]
theorem trim_nil : trimS [] = [] := rfl
theorem snoc_of (xs : List S33) (h : 0 < xs.length) : ∃ ys y, xs = ys ++ [y] ∧ xs.take (xs.length - 1) = ys ∧ rd_T33 xs ((xs.length : Int) - 1) = y ∧ ys.length + 1 = xs.length := by
  rcases List.eq_nil_or_concat xs with rfl | ⟨ys, y, rfl⟩
  · simp at h
  · refine ⟨ys, y, by simp, by simp, ?_, by simp⟩
    have : ((ys.concat y).length : Int) - 1 = (ys.length : Int) := by simp
    rw [this, rd33 _ _ (by simp)]
    simp
theorem trim_length (xs : List S33) : (trimS xs).length ≤ xs.length := by
  unfold trimS
  rw [List.length_reverse]
  have := (List.dropWhile_sublist (fun x : S33 => !x.f0) (l := xs.reverse)).length_le
  simpa using this
theorem trim_sub (xs : List S33) : ∀ x ∈ trimS xs, x ∈ xs := by
  intro x hx
  unfold trimS at hx
  rw [List.mem_reverse] at hx
  have := (List.dropWhile_sublist (fun x : S33 => !x.f0) (l := xs.reverse)).subset hx
  simpa using this
theorem trim_last (xs : List S33) : lastUsed (trimS xs) = true := by
  have h : ∀ n (xs : List S33), xs.length = n → lastUsed (trimS xs) = true := by
    intro n
    induction n with
    | zero => intro xs h; rw [List.eq_nil_of_length_eq_zero h]; rfl
    | succ n ih =>
      intro xs h
      obtain ⟨ys, y, rfl, _, _, hl⟩ := snoc_of xs (by omega)
      cases hy : y.f0 with
      | true => rw [trim_snoc_used ys y hy]; simp [lastUsed, hy]
      | false => rw [trim_snoc_free ys y hy]; exact ih ys (by omega)
  exact h _ xs rfl

theorem sumS_mem (xs : List S33) (h : ∀ x ∈ xs, x.f1.size ≤ 200) : sumS xs ≤ 201 * xs.length := by
  induction xs with
  | nil => simp [sumS]
  | cons x xs ih =>
    have h1 := h x (by simp)
    have h2 := ih (fun y hy => h y (by simp [hy]))
    simp only [sumS, List.length_cons]; omega

def finP (a : Int) (q : List S33) : Int × List S33 × Int := if 240 < rawSize q then (0, [], 22) else (a, q, 0)
theorem put_trim (a : Int) (l : List S33) (n : Nat) : ∀ (k : Nat) (xs : List S33), xs.length = n → n ≤ 32 → (∀ x ∈ xs, x.f1.size ≤ 200) → n < k →
    slab_Put.l0 k xs a l = some (finP a (trimS xs)) := by
  have fin : ∀ xs : List S33, xs.length ≤ 32 → (∀ x ∈ xs, x.f1.size ≤ 200) → ((slabSize0.f xs).bind fun t => if t > 240 then some (0, ([] : List S33), 22) else some (a, xs, (0 : Int))) = some (finP a xs) := by
    intro xs hl hb
    have := sumS_mem xs hb
    unfold slabSize0.f finP
    rw [if_pos (by omega), Option.bind_some]
    by_cases h : 240 < rawSize xs
    · rw [if_pos (by omega), if_pos h]
    · rw [if_neg (by omega), if_neg h]
  induction n with
  | zero =>
    intro k xs hx _ hb hk
    obtain ⟨k, rfl⟩ : ∃ m, k = m + 1 := ⟨k - 1, by omega⟩
    obtain rfl := List.eq_nil_of_length_eq_zero hx
    simp only [slab_Put.l0]
    rw [if_neg (by simp)]
    exact fin [] (by simp) (by simp)
  | succ n ih =>
    intro k xs hx h32 hb hk
    obtain ⟨k, rfl⟩ : ∃ m, k = m + 1 := ⟨k - 1, by omega⟩
    obtain ⟨ys, y, rfl, h1, h2, h3⟩ := snoc_of xs (by omega)
    simp only [slab_Put.l0]
    rw [if_pos (by omega), w64 _ (by omega) (by omega), if_pos (by omega), if_pos (by omega), h2]
    have e : (((ys ++ [y]).length : Int) - 1).toNat = (ys ++ [y]).length - 1 := by omega
    cases hy : y.f0 with
    | true =>
      rw [if_pos rfl, trim_snoc_used ys y hy]
      exact fin _ (by omega) hb
    | false =>
      rw [if_neg (by simp), if_pos (by omega), e, h1, trim_snoc_free ys y hy]
      exact ih k ys (by omega) (by omega) (fun x hx => hb x (by simp [hx])) (by omega)
theorem good_facts (a : Int) (l : List S33) (h : goodP a l = true) : 0 ≤ a ∧ a ≤ 1099511627776 ∧ l.length ≤ 32 ∧ l.any oddS = false ∧ lastUsed l = true ∧ rawSize l ≤ 240 := by
  unfold goodP at h
  simp only [Bool.and_eq_true, decide_eq_true_eq, Bool.not_eq_true'] at h
  obtain ⟨⟨⟨⟨⟨h1, h2⟩, h3⟩, h4⟩, h5⟩, h6⟩ := h
  exact ⟨h1, h2, h3, h4, h5, h6⟩
theorem odd_small (x : S33) (h : oddS x = false) : x.f1.size ≤ 200 := by
  unfold oddS at h; simp at h; omega
theorem bad_ne (x : S33) (h : x.f0 = false) : badS x = (x.f1.toList != []) := by
  unfold badS; rw [h]; cases x.f1.toList <;> rfl
theorem putP_bad (a : Int) (l : List S33) (s : Int) (x : S33) (h : badS x = true) : putP a l s x = (0, [], 1) := by
  unfold putP; rw [if_pos (by simp [h])]
theorem putP_ok (a : Int) (l : List S33) (n : Nat) (x : S33) (hg : goodP a l = true) (h2 : ¬ ((n : Int) ≥ 32)) (hb : badS x = false) :
    putP a l n x = if 200 < x.f1.size then (0, [], 5) else finP a (putL l n x) := by
  unfold putP
  rw [if_neg (by rw [hg, hb]; rintro (h | h | h | h) <;> first | omega | exact absurd h (by decide)), Int.toNat_natCast]
  rfl
theorem sput_pure (a : Int) (l : List S33) (s : Int) (x : S33) (k : Nat) (hk : 100 < k) : slab_Put.f k a l s x.f0 x.f1 = some (putP a l s x) := by
  obtain ⟨k, rfl⟩ : ∃ m, k = m + 1 := ⟨k - 1, by omega⟩
  have hbad : slab_Put.j0 (k + 1) s true a l x.f0 x.f1 = some (0, [], 1) := by simp [slab_Put.j0]
  unfold slab_Put.f slabGood.f
  rw [Option.bind_some]
  cases hg : goodP a l with
  | false => rw [if_neg (by simp), hbad]; simp [putP, hg]
  | true =>
    obtain ⟨ha0, ha1, hl, hodd, hlast, hsz⟩ := good_facts a l hg
    rw [if_pos rfl]
    by_cases h1 : s < 0
    · rw [if_pos h1, hbad]; simp [putP, h1]
    rw [if_neg h1]
    by_cases h2 : s ≥ 32
    · rw [if_pos h2, hbad]; simp [putP, show 32 ≤ s from h2]
    rw [if_neg h2]
    obtain ⟨n, rfl⟩ := Int.eq_ofNat_of_zero_le (show 0 ≤ s by omega)
    have main : slab_Put.j0 (k + 1) n false a l x.f0 x.f1 = some (if 200 < x.f1.size then (0, [], 5) else finP a (putL l n x)) := by
      simp only [slab_Put.j0]
      rw [if_neg (by simp)]
      by_cases h3 : (x.f1.size : Int) > 200
      · rw [if_pos h3, if_pos (by omega)]
      · have hR : (if 200 < x.f1.size then ((0 : Int), ([] : List S33), (5 : Int)) else finP a (putL l n x)) = finP a (putL l n x) := if_neg (by omega)
        rw [hR, if_neg h3, w64 _ (by omega) (by omega)]
        have hm : mx (l.length : Int) ((n : Int) + 1) = ((max l.length (n + 1) : Nat) : Int) := by unfold mx; split <;> omega
        rw [hm, if_pos (by omega), if_pos (by omega), Option.bind_some, Int.toNat_natCast]
        have hc : copyIn (List.replicate (max l.length (n + 1)) z33) l = extS l (n + 1) := by
          unfold copyIn extS
          rw [List.drop_replicate]
          congr 2
          omega
        have hlen : (extS l (n + 1)).length = max l.length (n + 1) := by unfold extS; simp; omega
        rw [hc, if_pos (by omega), if_pos (by omega), Int.toNat_natCast]
        refine put_trim a l _ k _ rfl (by simp [hlen]; omega) ?_ (by simp [hlen]; omega)
        intro y hy
        have hy2 := List.mem_or_eq_of_mem_set hy
        rcases hy2 with hy2 | rfl
        · unfold extS at hy2
          rw [List.mem_append] at hy2
          rcases hy2 with hy2 | hy2
          · rw [List.any_eq_false] at hodd
            exact odd_small y (by simpa using hodd y hy2)
          · rw [List.mem_replicate] at hy2; rw [hy2.2]; show ByteArray.size ⟨#[]⟩ ≤ 200; simp [ByteArray.size]
        · show x.f1.size ≤ 200; omega
    by_cases hu : x.f0 = true
    · rw [if_pos hu, main, putP_ok a l n x hg (by omega) (by simp [badS, hu])]
    · have hu' : x.f0 = false := by simpa using hu
      have hbn := bad_ne x hu'
      rw [if_neg hu]
      by_cases hb : badS x = true
      · rw [← hbn, hb, hbad, putP_bad a l n x hb]
      · rw [← hbn, Bool.eq_false_iff.mpr hb, main, putP_ok a l n x hg (by omega) (by simpa using hb)]
/-! ### contracts in plain words -/
def slabPut.f (a : Int) (l : List S33) (s : Int) (u : Bool) (d : ByteArray) : Option (Int × List S33 × Int) := some (putP a l s ⟨u, d⟩)
theorem slabPut.calls (a : Int) (A : Option Addr) (c : Nat) (l : List S33) (s : Int) (u : Bool) (d : ByteArray) (r1 : Int) (r2 : List S33) (r3 : Int) (w : World) (hr : Kd.C k33 w A l.length l) (hc : l.length ≤ c) (h : slabPut.f a l s u d = some (r1, r2, r3)) :
    Calls Try.prog 38 #[.agg #[.int .i64 a, .slice A l.length c], .int .i64 s, .agg #[.bool u, .string d]] w fun e w' => ∃ v1_ : Value, e = .returned (.tuple #[.agg #[.int .i64 r1, v1_], .int .i64 r3]) ∧ Kd.R k33 33 w' w.heap.size (fun _ => True) v1_ r2 ∧ Below w.heap.size w w' :=
  slab_Put.calls 101 a A c l s u d r1 r2 r3 w hr hc (by rw [← h]; exact sput_pure a l s ⟨u, d⟩ 101 (by omega))
end Go.Proofs.Ytfjmnaobfbmllaa.M

namespace Go.Proofs.Ytfjmnaobfbmllaa.M
open Go.RowKit Go.Proofs.YtfjmnaobfbmllaaW.PrintWords Go.Proofs.YtfjmnaobfbmllaaW.PrintLast Go.Proofs.YtfjmnaobfbmllaaW.PrintMore
set_option linter.unusedVariables false
set_option linter.unusedSimpArgs false

theorem ba_inj {x y : ByteArray} : x.toList = y.toList ↔ x = y := by
  constructor
  · intro h
    rw [ByteArray.toList_eq, ByteArray.toList_eq] at h
    cases x; cases y
    congr
    exact Array.toList_inj.mp h
  · rintro rfl; rfl
theorem ba_beq (x y : ByteArray) : (x.toList == y.toList) = decide (x = y) := by
  rw [Bool.eq_iff_iff]; simp [ba_inj]
theorem ba_nil (x : ByteArray) : x.toList = [] ↔ x = ⟨#[]⟩ := by
  rw [← ba_inj (y := ⟨#[]⟩)]; simp [ByteArray.toList_eq]
theorem s33_ext (x y : S33) : x = y ↔ x.f0 = y.f0 ∧ x.f1 = y.f1 := by cases x; cases y; simp
instance decS33 : DecidableEq S33 := fun x y => decidable_of_iff (x.f0 = y.f0 ∧ x.f1 = y.f1) (s33_ext x y).symm
theorem s33_beq (x y : S33) : (x.f0 == y.f0 && (x.f1.toList == y.f1.toList)) = decide (x = y) := by
  rw [Bool.eq_iff_iff]; simp [ba_inj, s33_ext]
theorem s33_ne (x y : S33) : ((!(x.f0 == y.f0) || (!(x.f1.toList == y.f1.toList))) = true) ↔ x ≠ y := by
  have := s33_beq x y
  rw [← Bool.not_and, this]; simp

/-! ### an image's slot -/
def slotL (l : List S33) (i : Nat) : S33 := l.getD i z33
def atP (a : Int) (l : List S33) (i : Int) : S33 := if goodP a l = true ∧ 0 ≤ i then slotL l i.toNat else z33
theorem slot_lt (l : List S33) (i : Nat) (h : i < l.length) : slotL l i = l[i] := by
  simp [slotL, List.getD_eq_getElem?_getD, List.getElem?_eq_getElem h]
theorem slot_ge (l : List S33) (i : Nat) (h : l.length ≤ i) : slotL l i = z33 := by
  simp [slotL, List.getD_eq_getElem?_getD, List.getElem?_eq_none h]
/-- A slot that can be. -/
def fineS (x : S33) : Prop := (x.f0 = false → x = z33) ∧ x.f1.size ≤ 200
theorem odd_fine (x : S33) : oddS x = false ↔ fineS x := by
  unfold oddS fineS
  rw [Bool.or_eq_false_iff, Bool.and_eq_false_iff, decide_eq_false_iff_not, Nat.not_lt]
  refine and_congr ?_ Iff.rfl
  rw [s33_ext]
  cases hx : x.f0 with
  | true => simp
  | false => simp [z33, ba_nil]
theorem fine_z : fineS z33 := ⟨fun _ => rfl, by simp [z33, ByteArray.size]⟩
theorem any_fine (l : List S33) : l.any oddS = false ↔ ∀ x ∈ l, fineS x := by
  rw [List.any_eq_false]
  exact forall_congr' fun x => imp_congr_right fun _ => by rw [← odd_fine]; simp
theorem slot_fine (l : List S33) (h : ∀ x ∈ l, fineS x) (i : Nat) : fineS (slotL l i) := by
  by_cases hi : i < l.length
  · rw [slot_lt l i hi]; exact h _ (List.getElem_mem hi)
  · rw [slot_ge l i (by omega)]; exact fine_z

/-! ### canonical images -/
theorem slot_trim (xs : List S33) (h : ∀ x ∈ xs, fineS x) (i : Nat) : slotL (trimS xs) i = slotL xs i := by
  have H : ∀ n (xs : List S33), xs.length = n → (∀ x ∈ xs, fineS x) → slotL (trimS xs) i = slotL xs i := by
    intro n
    induction n with
    | zero => intro xs h _; rw [List.eq_nil_of_length_eq_zero h]; rfl
    | succ n ih =>
      intro xs h hf
      obtain ⟨ys, y, rfl, _, _, hl⟩ := snoc_of xs (by omega)
      cases hy : y.f0 with
      | true => rw [trim_snoc_used ys y hy]
      | false =>
        rw [trim_snoc_free ys y hy, ih ys (by omega) (fun x hx => hf x (by simp [hx]))]
        have hz := (hf y (by simp)).1 hy
        subst hz
        by_cases hi : i < ys.length
        · rw [slot_lt _ _ hi, slot_lt _ _ (by simp; omega), List.getElem_append_left hi]
        · rw [slot_ge _ _ (by omega)]
          by_cases hi2 : i = ys.length
          · subst hi2; rw [slot_lt _ _ (by simp)]; simp
          · rw [slot_ge _ _ (by simp; omega)]
  exact H _ xs rfl h
theorem lastUsed_get (l : List S33) (h : lastUsed l = true) (hl : 0 < l.length) : (slotL l (l.length - 1)).f0 = true := by
  rw [slot_lt l _ (by omega), ← last33 l hl]; exact h
theorem canon (l m : List S33) (hl : lastUsed l = true) (hm : lastUsed m = true) (h : ∀ i, slotL l i = slotL m i) : l = m := by
  have key : ∀ (l m : List S33), lastUsed l = true → (∀ i, slotL l i = slotL m i) → l.length ≤ m.length := by
    intro l m hl h
    rcases Nat.lt_or_ge m.length l.length with hlt | hge
    · have h1 := lastUsed_get l hl (by omega)
      rw [h, slot_ge m _ (by omega)] at h1
      cases h1
    · exact hge
  have e : l.length = m.length := Nat.le_antisymm (key l m hl h) (key m l hm (fun i => (h i).symm))
  refine List.ext_getElem e fun i h1 h2 => ?_
  have := h i
  rwa [slot_lt l i h1, slot_lt m i h2] at this

/-! ### puts -/
theorem ext_len (l : List S33) (n : Nat) : (extS l n).length = max l.length n := by unfold extS; simp; omega
theorem slot_ext (l : List S33) (n i : Nat) : slotL (extS l n) i = slotL l i := by
  unfold extS
  by_cases hi : i < l.length
  · rw [slot_lt _ _ (by simp; omega), slot_lt _ _ hi, List.getElem_append_left hi]
  · rw [slot_ge l i (by omega)]
    by_cases hi2 : i < (l ++ List.replicate (n - l.length) z33).length
    · rw [slot_lt _ _ hi2, List.getElem_append_right (by omega)]; simp
    · rw [slot_ge _ _ (by omega)]
theorem slot_set (l : List S33) (s i : Nat) (x : S33) (h : s < l.length) : slotL (l.set s x) i = if i = s then x else slotL l i := by
  unfold slotL
  rw [List.getD_eq_getElem?_getD, List.getElem?_set]
  by_cases e : s = i
  · subst e; simp [h]
  · rw [if_neg e, if_neg (fun he => e he.symm), List.getD_eq_getElem?_getD]
theorem ext_fine (l : List S33) (n : Nat) (h : ∀ x ∈ l, fineS x) : ∀ x ∈ extS l n, fineS x := by
  intro x hx
  unfold extS at hx
  rw [List.mem_append, List.mem_replicate] at hx
  rcases hx with hx | hx
  · exact h x hx
  · rw [hx.2]; exact fine_z
theorem set_fine (l : List S33) (s : Nat) (x : S33) (h : ∀ y ∈ l, fineS y) (hx : fineS x) : ∀ y ∈ l.set s x, fineS y := by
  intro y hy
  rcases List.mem_or_eq_of_mem_set hy with hy | rfl
  · exact h y hy
  · exact hx
theorem put_fine (l : List S33) (s : Nat) (x : S33) (h : ∀ y ∈ l, fineS y) (hx : fineS x) : ∀ y ∈ putL l s x, fineS y := fun y hy => set_fine _ _ _ (ext_fine l _ h) hx y (trim_sub _ y hy)
theorem put_slot (l : List S33) (s i : Nat) (x : S33) (h : ∀ y ∈ l, fineS y) (hx : fineS x) : slotL (putL l s x) i = if i = s then x else slotL l i := by
  unfold putL
  rw [slot_trim _ (set_fine _ _ _ (ext_fine l _ h) hx), slot_set _ _ _ _ (by rw [ext_len]; omega), slot_ext]
theorem put_len (l : List S33) (s : Nat) (x : S33) : (putL l s x).length ≤ max l.length (s + 1) := by
  unfold putL
  refine Nat.le_trans (trim_length _) ?_
  rw [List.length_set, ext_len]; omega
theorem put_last (l : List S33) (s : Nat) (x : S33) : lastUsed (putL l s x) = true := trim_last _
theorem put_put (l : List S33) (s : Nat) (x y : S33) (h : ∀ y ∈ l, fineS y) (hx : fineS x) (hy : fineS y) (hl : lastUsed l = true) (he : y = slotL l s) : putL (putL l s x) s y = l := by
  refine canon _ _ (put_last _ _ _) hl fun i => ?_
  rw [put_slot _ _ _ _ (put_fine l s x h hx) hy, put_slot _ _ _ _ h hx]
  by_cases e : i = s
  · rw [if_pos e, he, e]
  · rw [if_neg e, if_neg e]

theorem trim_id (xs : List S33) (h : lastUsed xs = true) : trimS xs = xs := by
  rcases List.eq_nil_or_concat xs with rfl | ⟨ys, y, rfl⟩
  · rfl
  · rw [List.concat_eq_append] at h ⊢
    exact trim_snoc_used ys y (by simpa [lastUsed] using h)
/-- What is put, used, leaves nothing to trim. -/
theorem put_used (l : List S33) (s : Nat) (x : S33) (hl : lastUsed l = true) (hx : x.f0 = true) : putL l s x = (extS l (s + 1)).set s x := by
  unfold putL
  refine trim_id _ ?_
  have hs : s < (extS l (s + 1)).length := by rw [ext_len]; omega
  have hp : 0 < ((extS l (s + 1)).set s x).length := by rw [List.length_set]; omega
  rw [last33 _ hp]
  have e : ((extS l (s + 1)).set s x)[((extS l (s + 1)).set s x).length - 1] = slotL ((extS l (s + 1)).set s x) (((extS l (s + 1)).set s x).length - 1) := (slot_lt _ _ (by omega)).symm
  rw [e, slot_set _ _ _ _ hs, List.length_set, ext_len, slot_ext]
  split
  · exact hx
  · rename_i hne
    have : max l.length (s + 1) - 1 = l.length - 1 := by omega
    rw [this]
    exact lastUsed_get l hl (by omega)
theorem sumS_append (l m : List S33) : sumS (l ++ m) = sumS l + sumS m := by
  induction l with
  | nil => simp [sumS]
  | cons x l ih => simp only [List.cons_append, sumS, ih]; omega
theorem sumS_zeros (n : Nat) : sumS (List.replicate n z33) = n := by
  induction n with
  | zero => rfl
  | succ n ih => rw [List.replicate_succ]; show 1 + 0 + sumS (List.replicate n z33) = n + 1; omega
theorem sumS_set (l : List S33) (s : Nat) (x : S33) (h : s < l.length) : sumS (l.set s x) + l[s].f1.size = sumS l + x.f1.size := by
  induction l generalizing s with
  | nil => simp at h
  | cons y l ih =>
    cases s with
    | zero => simp [sumS]; omega
    | succ s =>
      have := ih s (by simpa using h)
      simp only [List.set_cons_succ, sumS, List.getElem_cons_succ]
      omega
theorem sumS_ext (l : List S33) (n : Nat) : sumS (extS l n) = sumS l + (n - l.length) := by
  unfold extS; rw [sumS_append, sumS_zeros]
theorem put_sum (l : List S33) (s : Nat) (x : S33) (hl : lastUsed l = true) (hx : x.f0 = true) : sumS (putL l s x) + (slotL l s).f1.size = sumS l + (s + 1 - l.length) + x.f1.size := by
  have hs : s < (extS l (s + 1)).length := by rw [ext_len]; omega
  have := sumS_set (extS l (s + 1)) s x hs
  rw [sumS_ext] at this
  rw [put_used l s x hl hx, ← slot_ext l (s + 1) s, slot_lt _ _ hs]
  exact this
theorem good_iff (a : Int) (l : List S33) : goodP a l = true ↔ 0 ≤ a ∧ a ≤ 1099511627776 ∧ l.length ≤ 32 ∧ (∀ x ∈ l, fineS x) ∧ lastUsed l = true ∧ rawSize l ≤ 240 := by
  unfold goodP
  rw [← any_fine]
  simp [and_assoc]
theorem put_len32 (l : List S33) (s : Nat) (x : S33) (hl : l.length ≤ 32) (hs : s < 32) : (putL l s x).length ≤ 32 := by
  have := put_len l s x; omega
theorem bad_fine (x : S33) (hb : badS x = false) (hs : x.f1.size ≤ 200) : fineS x := by
  rw [← odd_fine]; unfold oddS; unfold badS at hb; rw [hb]; simp; omega
theorem fine_bad (x : S33) (h : fineS x) : badS x = false := by
  rw [← odd_fine] at h; unfold oddS at h; unfold badS; simp only [Bool.or_eq_false_iff] at h; exact h.1
/-- What a put that is done tells. -/
theorem put_ok {a : Int} {l : List S33} {s : Int} {x : S33} {q : Int × List S33 × Int} (h : putP a l s x = q) (h0 : q.2.2 = 0) :
    goodP a l = true ∧ 0 ≤ s ∧ s < 32 ∧ fineS x ∧ rawSize (putL l s.toNat x) ≤ 240 ∧ q = (a, putL l s.toNat x, 0) := by
  unfold putP at h
  split at h
  · subst h; cases h0
  · rename_i hn
    split at h
    · subst h; cases h0
    · split at h
      · subst h; cases h0
      · rename_i h2 h3
        simp only [not_or] at hn
        have hb : badS x = false := by simpa using hn.2.2.2
        exact ⟨by simpa using hn.1, by omega, by omega, bad_fine x hb (by omega), by omega, h.symm⟩
theorem put_done {a : Int} {l : List S33} {s : Nat} {x : S33} (hg : goodP a l = true) (hs : s < 32) (hx : fineS x) :
    putP a l s x = if 240 < rawSize (putL l s x) then (0, [], 22) else (a, putL l s x, 0) := by
  rw [putP_ok a l s x hg (by omega) (fine_bad x hx), if_neg (by have := hx.2; omega)]
  rfl
theorem put_good {a : Int} {l : List S33} {s : Nat} {x : S33} (hg : goodP a l = true) (hs : s < 32) (hx : fineS x) (h : rawSize (putL l s x) ≤ 240) : goodP a (putL l s x) = true := by
  rw [good_iff] at hg ⊢
  exact ⟨hg.1, hg.2.1, put_len32 l s x hg.2.2.1 hs, put_fine l s x hg.2.2.2.1 hx, put_last l s x, h⟩
theorem put_fail {a : Int} {l : List S33} {s : Int} {x : S33} {q : Int × List S33 × Int} (h : putP a l s x = q) (h0 : q.2.2 ≠ 0) : q.1 = 0 ∧ q.2.1 = [] := by
  unfold putP at h
  split at h
  · subst h; exact ⟨rfl, rfl⟩
  · split at h
    · subst h; exact ⟨rfl, rfl⟩
    · split at h
      · subst h; exact ⟨rfl, rfl⟩
      · subst h; exact absurd rfl h0
end Go.Proofs.Ytfjmnaobfbmllaa.M

namespace Go.Proofs.Ytfjmnaobfbmllaa.M
open Go.RowKit Go.Proofs.YtfjmnaobfbmllaaW.PrintWords Go.Proofs.YtfjmnaobfbmllaaW.PrintLast Go.Proofs.YtfjmnaobfbmllaaW.PrintMore
set_option linter.unusedVariables false
set_option linter.unusedSimpArgs false

/-- The number of bytes, the highest first. -/
def getN (bs : List Int) : Int := bs.foldl (fun n b => n * 256 + b) 0
theorem getN_snoc (bs : List Int) (b : Int) : getN (bs ++ [b]) = getN bs * 256 + b := by simp [getN]
theorem getN_take (bs : List Int) (h : ∀ b ∈ bs, 0 ≤ b ∧ b ≤ 255) (i : Nat) (hi : i ≤ bs.length) : 0 ≤ getN (bs.take i) ∧ getN (bs.take i) < 256 ^ i := by
  induction i with
  | zero => simp [getN]
  | succ i ih =>
    have hlt : i < bs.length := by omega
    rw [List.take_succ_eq_append_getElem hlt, getN_snoc]
    have h1 := ih (by omega)
    have h2 := h bs[i] (List.getElem_mem hlt)
    rw [Int.pow_succ]
    omega
theorem bytesOf_range (s : ByteArray) : ∀ b ∈ bytesOf s, 0 ≤ b ∧ b ≤ 255 := by
  intro b hb
  simp only [bytesOf, List.mem_map] at hb
  obtain ⟨x, _, rfl⟩ := hb
  have := x.toNat_lt
  omega
theorem or_low (n b : Nat) (hb : b < 256) : (n * 256) ||| b = n * 256 + b := by
  have := Nat.two_pow_add_eq_or_of_lt (i := 8) (b := b) hb n
  rw [show n * 256 = 2 ^ 8 * n by omega]
  exact this.symm
theorem or_u64 (n b : Int) (h0 : 0 ≤ n) (h1 : n < 72057594037927936) (h2 : 0 ≤ b) (h3 : b ≤ 255) : Go.bits .or .u64 (n * 256) b = n * 256 + b := by
  rw [u64_or _ _ (by omega) (by omega) (by omega) (by omega)]
  obtain ⟨m, rfl⟩ := Int.eq_ofNat_of_zero_le h0
  obtain ⟨c, rfl⟩ := Int.eq_ofNat_of_zero_le h2
  have := or_low m c (by omega)
  rw [show ((m : Int) * 256).toNat = m * 256 by omega, Int.toNat_natCast, this]
  omega
def high_Get.f (s : ByteArray) : Option Int := if s.size ≤ 8 then some (getN (bytesOf s)) else none
set_option maxHeartbeats 2000000 in
theorem high_Get.small (s : ByteArray) (w : World) (hs : s.size ≤ 8) :
    Calls Try.prog 86 #[.string s] w fun e w' => e = .returned (.int .u64 (getN (bytesOf s))) ∧ Below w.heap.size w w' := by
  have kb := fun (W : World) => print_bytes (P := Try.prog) 9 36 5 Try.underlying9 Try.underlying36 Try.underlying5 s W
  have hrd := bytes_reads w 5 s (by omega)
  have hbl := bytes_below (Below.refl w.heap.size w) (Nat.le_refl _) 5 s
  have hlen := bytesOf_length s
  have HRD := Aside0.mk hrd
  have HBL := Aside0.mk hbl
  have HLN := Aside0.mk hlen
  clear hrd hbl hlen
  go_enter Try.func86, Try.ntmps86
  go_wp2
  generalize Lib.bytesWorld w 5 s = w1 at HRD HBL ⊢
  clear kb
  go_loopg [3, 9] s.size (fun gg v3 v9 wr => ∃ k : Nat, k ≤ s.size ∧ s.size - k ≤ gg ∧ v9 = .int .i64 k ∧ v3 = .int .u64 (getN ((bytesOf s).take k)) ∧ Aside0 (wr = w1))
  case atStart => exact ⟨0, Nat.zero_le _, by omega, rfl, rfl, ⟨rfl⟩⟩
  case round =>
    obtain ⟨k, hk, hg, rfl, rfl, HW⟩ := hrel
    obtain rfl := HW.out
    by_cases hlt : k < s.size
    · have q0 : (k : Int) < (s.size : Int) := by omega
      obtain ⟨ad, e0, hx0⟩ := HRD.out.at_ (k : Int) (by omega) q0
      cases e0
      rw [Int.toNat_natCast, add_plain] at hx0
      have hkl : k < (bytesOf s).length := by rw [HLN.out]; exact hlt
      have hrdk : rd (bytesOf s) (k : Int) = (bytesOf s)[k] := by simp [rd, List.getD_eq_getElem?_getD, List.getElem?_eq_getElem hkl]
      rw [hrdk] at hx0
      have hr1 := bytesOf_range s _ (List.getElem_mem hkl)
      have hn1 := getN_take (bytesOf s) (bytesOf_range s) k (by omega)
      have hpow : (256 : Int) ^ k ≤ 72057594037927936 := by
        have : k ≤ 7 := by omega
        have h8 : 256 ^ k ≤ 256 ^ 7 := Nat.pow_le_pow_right (by omega) this
        have e7 : (256 : Nat) ^ 7 = 72057594037927936 := by decide
        have e : (256 : Int) ^ k = ((256 ^ k : Nat) : Int) := by simp
        rw [e]
        omega
      have hn2 : getN ((bytesOf s).take k) < 72057594037927936 := by omega
      have hn0 := hn1.1
      clear hpow hn1
      have hor := or_u64 (getN ((bytesOf s).take k)) ((bytesOf s)[k]) hn0 hn2 hr1.1 hr1.2
      have HSN : Aside0 (getN ((bytesOf s).take (k + 1)) = getN ((bytesOf s).take k) * 256 + (bytesOf s)[k]) := ⟨by rw [List.take_succ_eq_append_getElem hkl, getN_snoc]⟩
      have hr10 := hr1.1
      have hr11 := hr1.2
      clear hr1 hrdk
      generalize (bytesOf s)[k] = b at hx0 hor HSN hr10 hr11
      generalize getN ((bytesOf s).take k) = n at hor HSN hn0 hn2 ⊢
      go_wp2
      go_roundg (s.size - (k + 1))
      case measure => omega
      case rel => exact ⟨k + 1, by omega, by omega, by go_num, by rw [HSN.out], ⟨rfl⟩⟩
    · have hltz : ¬ (k : Int) < (s.size : Int) := by omega
      have HT : Aside0 (getN ((bytesOf s).take k) = getN (bytesOf s)) := ⟨by rw [List.take_of_length_le (by rw [HLN.out]; omega)]⟩
      go_wp2
      go_ret
      exact ⟨by rw [← HT.out]; rfl, HBL.out⟩
theorem high_Get.calls (s : ByteArray) (r : Int) (w : World) (h : high_Get.f s = some r) :
    Calls Try.prog 86 #[.string s] w fun e w' => e = .returned (.int .u64 r) ∧ Below w.heap.size w w' := by
  unfold high_Get.f at h
  split at h
  · rename_i hs
    obtain rfl := Option.some.inj h
    exact high_Get.small s w hs
  · cases h
end Go.Proofs.Ytfjmnaobfbmllaa.M

namespace Go.Proofs.Ytfjmnaobfbmllaa.M
open Go.RowKit Go.Proofs.YtfjmnaobfbmllaaW.PrintWords Go.Proofs.YtfjmnaobfbmllaaW.PrintLast Go.Proofs.YtfjmnaobfbmllaaW.PrintMore
set_option linter.unusedVariables false
set_option linter.unusedSimpArgs false

theorem bt_get (s : ByteArray) (i : Nat) (h : i < s.size) : bt s i = (bytesOf s)[i]'(by rw [bytesOf_length]; exact h) := by
  rw [← rd_bytesOf]
  unfold rd
  rw [Int.toNat_natCast, List.getD_eq_getElem?_getD, List.getElem?_eq_getElem (by rw [bytesOf_length]; exact h)]
  rfl
theorem str_bytes (s : ByteArray) : strOfNums (bytesOf s) = s := by
  cases s with
  | mk d =>
    unfold strOfNums bytesOf
    congr 1
    apply Array.toList_inj.mp
    simp only [List.map_map, List.toList_toArray]
    conv => rhs; rw [← List.map_id d.toList]
    apply List.map_congr_left
    intro x _
    simp
theorem bytes_inj {s t : ByteArray} (h : bytesOf s = bytesOf t) : s = t := by rw [← str_bytes s, h, str_bytes]
theorem bytes_extract (s : ByteArray) (i j : Nat) : bytesOf (s.extract i j) = ((bytesOf s).drop i).take (j - i) := by
  unfold bytesOf
  simp [ByteArray.data_extract, Array.toList_extract, List.map_drop, List.map_take, List.extract]
theorem bytes_drop (s : ByteArray) (i : Nat) : bytesOf (s.extract i s.size) = (bytesOf s).drop i := by
  rw [bytes_extract, List.take_of_length_le (by rw [List.length_drop, bytesOf_length]; omega)]
theorem bytes_nil : bytesOf ⟨#[]⟩ = [] := rfl
theorem drop_step (s : ByteArray) (i : Nat) (h : i < s.size) : (bytesOf s).drop i = bt s i :: (bytesOf s).drop (i + 1) := by
  rw [List.drop_eq_getElem_cons (by rw [bytesOf_length]; exact h), bt_get s i h]
/-! ### eight bytes -/
theorem hiL_succ (n : Nat) (a : Int) : hiL (n + 1) a = hiL n (a / 256) ++ [a % 256] := by
  unfold hiL
  rw [List.range_succ, List.map_append]
  congr 1
  · apply List.map_congr_left
    intro i hi
    rw [List.mem_range] at hi
    have e : 8 * (n + 1 - 1 - i) = 8 + 8 * (n - 1 - i) := by omega
    rw [e, Int.pow_add, ← Int.ediv_ediv_of_nonneg (by decide)]
    rfl
  · simp
theorem hiL_getN (bs : List Int) : ∀ n, bs.length = n → (∀ b ∈ bs, 0 ≤ b ∧ b ≤ 255) → hiL n (getN bs) = bs := by
  intro n
  induction n generalizing bs with
  | zero => intro h _; rw [List.eq_nil_of_length_eq_zero h]; rfl
  | succ n ih =>
    intro h hr
    rcases List.eq_nil_or_concat bs with rfl | ⟨ys, y, rfl⟩
    · simp at h
    · rw [List.concat_eq_append] at h hr ⊢
      have hy := hr y (by simp)
      rw [hiL_succ, getN_snoc, show (getN ys * 256 + y) / 256 = getN ys by omega, show (getN ys * 256 + y) % 256 = y by omega,
        ih ys (by simpa using h) (fun b hb => hr b (by simp [hb]))]
theorem getN_hiL (n : Nat) (a : Int) : getN (hiL n a) = a % 256 ^ n := by
  induction n generalizing a with
  | zero => simp [hiL, getN, Int.emod_one]
  | succ n ih =>
    rw [hiL_succ, getN_snoc, ih, Int.pow_succ]
    have hM : (0 : Int) < 256 ^ n := Int.pow_pos (by decide)
    generalize (256 : Int) ^ n = M at *
    have h1 := Int.emod_add_mul_ediv (a / 256) M
    have h2 := Int.emod_nonneg (a / 256) (by omega : M ≠ 0)
    have h3 := Int.emod_lt_of_pos (a / 256) hM
    generalize a / 256 % M = t at *
    generalize a / 256 / M = k at *
    have e : a = (t * 256 + a % 256) + M * 256 * k := by
      rw [Int.mul_assoc, Int.mul_comm 256 k, ← Int.mul_assoc]; omega
    have h4 : a % (M * 256) = (t * 256 + a % 256 + M * 256 * k) % (M * 256) := congrArg (· % (M * 256)) e
    rw [h4, Int.add_mul_emod_self_left]
    exact (Int.emod_eq_of_lt (by omega) (by omega)).symm
end Go.Proofs.Ytfjmnaobfbmllaa.M

namespace Go.Proofs.Ytfjmnaobfbmllaa.M
open Go.RowKit Go.Proofs.YtfjmnaobfbmllaaW.PrintWords Go.Proofs.YtfjmnaobfbmllaaW.PrintLast Go.Proofs.YtfjmnaobfbmllaaW.PrintMore
attribute [local go_sem] max2_int min2_int max_two min_two max_three min_three max_four min_four   -- for this text's walks alone
set_option linter.unusedVariables false
set_option linter.unusedSimpArgs false

/-! ### seneschalref03_Encode: function 33 -/
set_option maxRecDepth 100000
mutual
def seneschalref03_Encode.l0 : Nat → List Int → Int → Int → List (S33) → Option (ByteArray × Int)
  | 0, _, _, _, _ => none
  | k + 1, x4, x5, x102000, x102001 => if x5 ≥ 0 then (if 0 ≤ x5 then (if x4.length < 140737488355328 then (seneschalref03_Encode.l0 k (x4 ++ [(shr .i64 x102000 x5) % 256]) (wrap64 (x5 - 8)) x102000 x102001) else (none)) else (none)) else (if x4.length < 140737488355328 then (seneschalref03_Encode.l1 k (x4 ++ [((x102001.length : Int)) % 256]) 0 x102000 x102001) else (none))
def seneschalref03_Encode.l1 : Nat → List Int → Int → Int → List (S33) → Option (ByteArray × Int)
  | 0, _, _, _, _ => none
  | k + 1, x4, x6, x102000, x102001 => if x6 < (x102001.length : Int) then (if 0 ≤ x6 then (if ((rd_T33 x102001 x6).f0 = true) then (if x4.length < 140737488355328 then (seneschalref03_Encode.l2 k (x4 ++ [((((rd_T33 x102001 x6).f1).size : Int)) % 256]) x6 0 x102000 x102001) else (none)) else (if x4.length < 140737488355328 then (seneschalref03_Encode.l1 k (x4 ++ [255]) (wrap64 (x6 + 1)) x102000 x102001) else (none))) else (none)) else (seneschalref03_Encode.l3 k x4)
def seneschalref03_Encode.l2 : Nat → List Int → Int → Int → Int → List (S33) → Option (ByteArray × Int)
  | 0, _, _, _, _, _ => none
  | k + 1, x4, x6, x7, x102000, x102001 => if 0 ≤ x6 then (if x6 < (x102001.length : Int) then (if x7 < (((rd_T33 x102001 x6).f1).size : Int) then (if 0 ≤ x7 then (if x4.length < 140737488355328 then (seneschalref03_Encode.l2 k (x4 ++ [bt ((rd_T33 x102001 x6).f1) x7]) x6 (wrap64 (x7 + 1)) x102000 x102001) else (none)) else (none)) else (seneschalref03_Encode.l1 k x4 (wrap64 (x6 + 1)) x102000 x102001)) else (none)) else (none)
def seneschalref03_Encode.l3 : Nat → List Int → Option (ByteArray × Int)
  | 0, _ => none
  | k + 1, x4 => if (x4.length : Int) < 240 then (if x4.length < 140737488355328 then (seneschalref03_Encode.l3 k (x4 ++ [0])) else (none)) else (some (strOfNums x4, 0))
end
def seneschalref03_Encode.f (k : Nat) (a0_0 : Int) (l0_1 : List (S33)) : Option (ByteArray × Int) := (refGood3.f a0_0 l0_1).bind fun t102 => (if t102 = true then (seneschalref03_Encode.l0 k (([] : List Int)) 56 a0_0 l0_1) else (some ((⟨#[]⟩ : ByteArray), 1)))
set_option maxHeartbeats 8000000 in
set_option maxRecDepth 100000 in
theorem seneschalref03_Encode.calls (k : Nat) (a0_0 : Int) (A0_1 : Option Addr) (c0_1 : Nat) (l0_1 : List (S33)) (r1 : ByteArray) (r2 : Int) (w : World) (hr0_1 : Kd.C k33 w A0_1 l0_1.length l0_1) (hc0_1 : l0_1.length ≤ c0_1) (h : seneschalref03_Encode.f k a0_0 l0_1 = some (r1, r2)) :
    Calls Try.prog 33 #[.agg #[.int .i64 a0_0, .slice A0_1 l0_1.length c0_1]] w fun e w' => e = .returned (.tuple #[.string r1, .int .i64 r2]) ∧ Below w.heap.size w w' := by
  have hu24 := Try.underlying24
  have HR0_1 := Aside0.mk hr0_1
  have HC0_1 := Aside0.mk hc0_1
  clear hr0_1 hc0_1
  have HB := Aside0.mk (Below.refl w.heap.size w)
  have H : ((refGood3.f a0_0 l0_1).bind fun t102 => (if t102 = true then (seneschalref03_Encode.l0 k (([] : List Int)) 56 a0_0 l0_1) else (some ((⟨#[]⟩ : ByteArray), 1)))) = some (r1, r2) := h
  clear h
  replace H := Option.bind_eq_some_iff.mp H
  obtain ⟨t102, A20, H⟩ := H
  replace H : (if t102 = true then (seneschalref03_Encode.l0 k (([] : List Int)) 56 a0_0 l0_1) else (some ((⟨#[]⟩ : ByteArray), 1))) = some (r1, r2) := H
  have A2 := Aside0.mk A20
  clear A20
  by_cases c3 : t102 = true
  · subst c3
    have H1 : (seneschalref03_Encode.l0 k (([] : List Int)) 56 a0_0 l0_1) = some (r1, r2) := by rw [if_pos rfl] at H; exact H
    clear H
    have H := H1
    clear H1
    obtain ⟨y103, hy103⟩ : ∃ y_ : List Int, y_ = (([] : List Int)) := ⟨_, rfl⟩
    replace H : (seneschalref03_Encode.l0 k y103 56 a0_0 l0_1) = some (r1, r2) := by first | (rw [hy103]; with_reducible exact H) | (have H2_ := (Option.bind_some _ _).symm.trans H; rw [hy103]; with_reducible exact H2_) | (have H2_ := (Option.bind_some _ _).symm.trans H; with_reducible exact H2_) | with_reducible exact H | (rw [hy103]; exact H) | exact H
    have Ny103 := Aside0.mk hy103
    clear hy103
    have H' := Aside0.mk H
    clear H
    go_enter Try.func33, Try.ntmps33
    go_wp2_with (first | ((with_reducible refine gate_dst (N := 1) rfl ?_); refine box_event ?hg (N := 1) ?hd (cs := #[.int .i64 a0_0, .slice A0_1 l0_1.length c0_1]) (t := 24) ?hr ?_; (case hd => rfl); (case hg => rfl); (case hr => first | (go_simp; done) | (go_simp; rfl)); intro gb101 hg w4 hbox hb; have n0_ := Aside0.mk (below_step (by repeat (first | (with_reducible first | exact HB.out | apply below_alloc | apply pw_below_drewN | apply below_drew1) | exact HB.out)) hb); have n1_ := Aside0.mk (hbox); have n2_ := Aside0.mk ((by rw [hg]; exact (below_size (by repeat (first | (with_reducible first | exact HB.out | apply below_alloc | apply pw_below_drewN | apply below_drew1) | exact HB.out))) : w.heap.size ≤ gb101)); have n3_ := Aside0.mk ((by rw [hg]; exact (below_size (by repeat (first | (with_reducible first | exact HB.out | apply below_alloc | apply pw_below_drewN | apply below_drew1) | exact HB.out))) : w.heap.size ≤ gb101)); clear HB; have HB := n0_; have BK101 := n1_; have GW101 := n2_; have GE101 := n3_; clear n0_ n1_ n2_ n3_; clear hb hbox hg; have hcz5_0 : w4.cell? ⟨gb101, 0, none⟩ = some (.int .i64 a0_0) := (blk_cell BK101.out 0).trans rfl; have hcz5_1 : w4.cell? ⟨gb101, 1, none⟩ = some (.slice A0_1 l0_1.length c0_1) := (blk_cell BK101.out 1).trans rfl; have hfz5_0 := blk_frozen BK101.out 0; have hfz5_1 := blk_frozen BK101.out 1) | ((with_reducible refine gate_callee (f := 35) rfl ?_); refine goesL_ (some 9) rfl rfl Try.func35 (by kernel_rfl) rfl #[.agg #[.int .i64 a0_0, .slice A0_1 l0_1.length c0_1]] rfl (by (try simp only [List.map_toArray, List.map_cons, List.map_nil]); first | done | rfl | (simp only [List.length_drop, List.length_take]; rfl)) ?_; (with_reducible refine (refGood3.calls a0_0 _ _ l0_1 true _ ?side1 ?side2 A2.out).mono ?_); (case side1 => repeat (first | exact (Kd.C_below HR0_1.out HB.out) | (with_reducible refine Kd.C_alloc ?_ _) | (with_reducible refine Kd.C_drewN ?_ _) | (with_reducible refine Kd.C_drew ?_))); (case side2 => exact HC0_1.out); rintro e w6 ⟨rfl, hb⟩; refine ⟨_, rfl, ?_⟩; have n0_ := Aside0.mk (blk_below (g := gb101) (o := .cells #[.int .i64 a0_0, .slice A0_1 l0_1.length c0_1] 24 (0, 0)) (by (with_reducible repeat (first | refine blk_drewN ?_ _ | refine blk_drew ?_ | refine blk_alloc ?_ _)); exact BK101.out) hb); have n1_ := Aside0.mk (below_step (by repeat (first | (with_reducible first | exact HB.out | apply below_alloc | apply pw_below_drewN | apply below_drew1 | refine below_set ?_ GE101.out) | exact HB.out)) hb); clear BK101; clear HB; have BK101 := n0_; have HB := n1_; clear n0_ n1_; (try clear hb); (try clear hb2); (try clear hk); (try clear hi)) | ((with_reducible refine gate_dst (N := 11) rfl ?_); refine Kd.R_lit (Kd.int .u8) _ 5 ?hg (N := 11) ?hd (xs := ([] : List Int)) (inner := []) (ok := fun _ => True) (okp := fun _ => True) ?hr ?hp (fun _ hk => hk) trivial (Below.refl _ _) (Nat.le_refl _) (by simp) ?_; (case hd => rfl); (case hg => rfl); (case hr => first | (go_simp; done) | (go_simp; rfl)); (case hp => exact (Reps.none _ _)); intro v104 w7 ho8 hb hg_ hnew_; clear hg_ hnew_; (first | rw [← Ny103.out] at ho8 | (simp only [Int.reduceToNat] at ho8; rw [← Ny103.out] at ho8)); have n0_ := Aside0.mk (Kd.R_lower ho8 (below_size (by repeat (first | (with_reducible first | exact HB.out | apply below_alloc | apply pw_below_drewN | apply below_drew1 | refine below_set ?_ GE101.out) | exact HB.out)))); have n1_ := Aside0.mk (blk_below (g := gb101) (o := .cells #[.int .i64 a0_0, .slice A0_1 l0_1.length c0_1] 24 (0, 0)) (by (with_reducible repeat (first | refine blk_drewN ?_ _ | refine blk_drew ?_ | refine blk_alloc ?_ _)); exact BK101.out) hb); have n2_ := Aside0.mk (below_step (by repeat (first | (with_reducible first | exact HB.out | apply below_alloc | apply pw_below_drewN | apply below_drew1 | refine below_set ?_ GE101.out) | exact HB.out)) hb); clear BK101; clear HB; have HO105 := n0_; have BK101 := n1_; have HB := n2_; clear n0_ n1_ n2_; clear hb ho8))
    go_loopg [4, 5] k (fun kq v4 v5 w' => ∃ (x4_1 : List Int) (x5_1 : Int), v5 = .int .i64 x5_1 ∧ Aside0 (seneschalref03_Encode.l0 kq x4_1 x5_1 a0_0 l0_1 = some (r1, r2)) ∧ Aside0 (kq ≤ k) ∧ Aside0 (Kd.R (Kd.int .u8) 5 w' w.heap.size (fun _ => True) v4 x4_1) ∧ Aside0 (w'.heap[gb101]? = some (.cells #[.int .i64 a0_0, (.slice A0_1 l0_1.length c0_1)] 24 (0, 0))) ∧ Aside0 (Below w.heap.size w w'))
    case atStart => exact ⟨(y103), (56), (by first | rfl | (simp; done) | (simp [*]; done)), H', ⟨Nat.le_refl _⟩, ⟨by (with_reducible repeat (first | apply Kd.R_alloc | apply Kd.R_drewN | apply Kd.R_drew)); exact HO105.out⟩, ⟨by (with_reducible repeat (first | refine blk_drewN ?_ _ | refine blk_drew ?_ | refine blk_alloc ?_ _)); exact BK101.out⟩, ⟨by repeat (first | (with_reducible first | exact HB.out | apply below_alloc | apply pw_below_drewN | apply below_drew1 | refine below_set ?_ GE101.out) | exact HB.out)⟩⟩
    case round =>
      clear H'
      try clear p2
      try clear c3
      try clear hcz5_0
      try clear hcz5_1
      try clear hfz5_0
      try clear hfz5_1
      obtain ⟨x4_1, x5_1, rfl, HA, HK1, HO_4, BK101, HB⟩ := hrel
      cases gk with
      | zero => exact absurd HA.out (by simp [seneschalref03_Encode.l0])
      | succ k1 =>
        have H := HA.out
        clear HA
        simp only [seneschalref03_Encode.l0] at H
        by_cases c9 : x5_1 ≥ 0
        · rw [if_pos c9] at H
          have c9b0 : decide (0 ≤ x5_1) = true := decide_eq_true c9
          clear c9
          by_cases c10 : 0 ≤ x5_1
          · rw [if_pos c10] at H
            have c10b0 := eq_true c10
            have c10b1 : decide (0 ≤ x5_1) = true := decide_eq_true c10
            clear c10
            obtain ⟨ji11, hji11⟩ : ∃ j_ : Int, (shr .i64 a0_0 x5_1) = j_ := ⟨_, rfl⟩
            replace H : (if x4_1.length < 140737488355328 then (seneschalref03_Encode.l0 k1 (x4_1 ++ [(ji11) % 256]) (wrap64 (x5_1 - 8)) a0_0 l0_1) else (none)) = some (r1, r2) := by first | (rw [hji11] at H; exact H) | (simp only [hji11] at H ⊢; exact H)
            have hji11_ : (a0_0 / 2 ^ min x5_1.toNat 64) = ji11 := hji11
            have hji11z : x5_1 ≤ 64 → (a0_0 / 2 ^ x5_1.toNat) = ji11 := shr_small hji11
            by_cases c12 : x4_1.length < 140737488355328
            · rw [if_pos c12] at H
              have LMc12 := Aside0.mk c12
              clear c12
              obtain ⟨y106, hy106⟩ : ∃ y_ : List Int, y_ = (x4_1 ++ [(ji11) % 256]) := ⟨_, rfl⟩
              replace H : (seneschalref03_Encode.l0 k1 y106 (wrap64 (x5_1 - 8)) a0_0 l0_1) = some (r1, r2) := by first | (rw [hy106]; with_reducible exact H) | (have H2_ := (Option.bind_some _ _).symm.trans H; rw [hy106]; with_reducible exact H2_) | (have H2_ := (Option.bind_some _ _).symm.trans H; with_reducible exact H2_) | with_reducible exact H | (rw [hy106]; exact H) | exact H
              have Ny106 := Aside0.mk hy106
              clear hy106
              have H' := Aside0.mk H
              clear H
              have hcz13_0 : wr.cell? ⟨gb101, 0, none⟩ = some (.int .i64 a0_0) := (blk_cell BK101.out 0).trans rfl
              have hcz13_1 : wr.cell? ⟨gb101, 1, none⟩ = some (.slice A0_1 l0_1.length c0_1) := (blk_cell BK101.out 1).trans rfl
              have hfz13_0 := blk_frozen BK101.out 0
              have hfz13_1 := blk_frozen BK101.out 1
              go_wp2_with (first | ((with_reducible refine gate_builtin (b := .append) (xs := #[.tmp 16, .tmp 22]) rfl ?_); at_builtin; refine Kd.R_append (Kd.int .u8) (w0 := w) w.heap.size rfl (.tmp 16) (.tmp 22) 36 5 (.int .u8 0) 1 rfl Try.underlying36 info5 rfl (by decide) (by omega) u4 x4_1 ((ji11) % 256) [.int .u8 ((ji11) % 256)] (fun _ => True) (fun _ => False) rfl rfl ?aP (fun _ hk => hk.elim) ?aF ?aO ?aB ?aS ?aL ?_; (case aP => exact rfl); (case aB => exact (by repeat (first | (with_reducible first | exact HB.out | apply below_alloc | apply pw_below_drewN | apply below_drew1 | refine below_set ?_ GE101.out) | exact HB.out))); (case aF => exact (fun _ _ => trivial)); (case aO => exact (by (with_reducible repeat (first | apply Kd.R_alloc | apply Kd.R_drewN | apply Kd.R_drew)); exact HO_4.out)); (case aS => exact (below_size (by repeat (first | (with_reducible first | exact HB.out | apply below_alloc | apply pw_below_drewN | apply below_drew1 | refine below_set ?_ GE101.out) | exact HB.out)))); (case aL => have := LMc12.out; omega); intro v107 w14 ho hb hg hat; rw [← Ny106.out] at ho; have n0_ := Aside0.mk (blk_grown (g := gb101) (o := .cells #[.int .i64 a0_0, .slice A0_1 l0_1.length c0_1] 24 (0, 0)) (by (with_reducible repeat (first | refine blk_drewN ?_ _ | refine blk_drew ?_ | refine blk_alloc ?_ _)); exact BK101.out) hg (Kd.R_ne HO_4.out BK101.out (by decide))); have n1_ := Aside0.mk (hb); have n2_ := Aside0.mk (ho); clear BK101; clear HB; clear HO_4; have BK101 := n0_; have HB := n1_; have HO108 := n2_; clear n0_ n1_ n2_; clear ho hb hg hat))
              go_roundg k1
              case measure => have := HK1.out; omega
              case rel => exact ⟨(y106), (wrap64 (x5_1 - 8)), (by first | rfl | (simp; done) | (simp [*]; done)), H', ⟨by have := HK1.out; omega⟩, ⟨by (with_reducible repeat (first | apply Kd.R_alloc | apply Kd.R_drewN | apply Kd.R_drew)); exact HO108.out⟩, ⟨by (with_reducible repeat (first | refine blk_drewN ?_ _ | refine blk_drew ?_ | refine blk_alloc ?_ _)); exact BK101.out⟩, ⟨by repeat (first | (with_reducible first | exact HB.out | apply below_alloc | apply pw_below_drewN | apply below_drew1 | refine below_set ?_ GE101.out) | exact HB.out)⟩⟩
            · rw [if_neg c12] at H
              exact absurd H (by simp)
          · rw [if_neg c10] at H
            exact absurd H (by simp)
        · rw [if_neg c9] at H
          have c9b0 : decide (0 ≤ x5_1) = false := decide_eq_false c9
          clear c9
          by_cases c15 : x4_1.length < 140737488355328
          · rw [if_pos c15] at H
            have LMc15 := Aside0.mk c15
            clear c15
            obtain ⟨y109, hy109⟩ : ∃ y_ : List Int, y_ = (x4_1 ++ [((l0_1.length : Int)) % 256]) := ⟨_, rfl⟩
            replace H : (seneschalref03_Encode.l1 k1 y109 0 a0_0 l0_1) = some (r1, r2) := by first | (rw [hy109]; with_reducible exact H) | (have H2_ := (Option.bind_some _ _).symm.trans H; rw [hy109]; with_reducible exact H2_) | (have H2_ := (Option.bind_some _ _).symm.trans H; with_reducible exact H2_) | with_reducible exact H | (rw [hy109]; exact H) | exact H
            have Ny109 := Aside0.mk hy109
            clear hy109
            have H' := Aside0.mk H
            clear H
            have hcz16_0 : wr.cell? ⟨gb101, 0, none⟩ = some (.int .i64 a0_0) := (blk_cell BK101.out 0).trans rfl
            have hcz16_1 : wr.cell? ⟨gb101, 1, none⟩ = some (.slice A0_1 l0_1.length c0_1) := (blk_cell BK101.out 1).trans rfl
            have hfz16_0 := blk_frozen BK101.out 0
            have hfz16_1 := blk_frozen BK101.out 1
            go_wp2_with (first | ((with_reducible refine gate_builtin (b := .append) (xs := #[.tmp 24, .tmp 29]) rfl ?_); at_builtin; refine Kd.R_append (Kd.int .u8) (w0 := w) w.heap.size rfl (.tmp 24) (.tmp 29) 36 5 (.int .u8 0) 1 rfl Try.underlying36 info5 rfl (by decide) (by omega) u4 x4_1 (((l0_1.length : Int)) % 256) [.int .u8 (((l0_1.length : Int)) % 256)] (fun _ => True) (fun _ => False) rfl rfl ?aP (fun _ hk => hk.elim) ?aF ?aO ?aB ?aS ?aL ?_; (case aP => exact rfl); (case aB => exact (by repeat (first | (with_reducible first | exact HB.out | apply below_alloc | apply pw_below_drewN | apply below_drew1 | refine below_set ?_ GE101.out) | exact HB.out))); (case aF => exact (fun _ _ => trivial)); (case aO => exact (by (with_reducible repeat (first | apply Kd.R_alloc | apply Kd.R_drewN | apply Kd.R_drew)); exact HO_4.out)); (case aS => exact (below_size (by repeat (first | (with_reducible first | exact HB.out | apply below_alloc | apply pw_below_drewN | apply below_drew1 | refine below_set ?_ GE101.out) | exact HB.out)))); (case aL => have := LMc15.out; omega); intro v110 w17 ho hb hg hat; rw [← Ny109.out] at ho; have n0_ := Aside0.mk (blk_grown (g := gb101) (o := .cells #[.int .i64 a0_0, .slice A0_1 l0_1.length c0_1] 24 (0, 0)) (by (with_reducible repeat (first | refine blk_drewN ?_ _ | refine blk_drew ?_ | refine blk_alloc ?_ _)); exact BK101.out) hg (Kd.R_ne HO_4.out BK101.out (by decide))); have n1_ := Aside0.mk (hb); have n2_ := Aside0.mk (ho); clear BK101; clear HB; clear HO_4; have BK101 := n0_; have HB := n1_; have HO111 := n2_; clear n0_ n1_ n2_; clear ho hb hg hat))
            go_loopg [4, 6] k1 (fun kq v4 v6 w' => ∃ (x4_2 : List Int) (x6_2 : Int), v6 = .int .i64 x6_2 ∧ Aside0 (seneschalref03_Encode.l1 kq x4_2 x6_2 a0_0 l0_1 = some (r1, r2)) ∧ Aside0 (kq ≤ k1) ∧ Aside0 (Kd.R (Kd.int .u8) 5 w' w.heap.size (fun _ => True) v4 x4_2) ∧ Aside0 (w'.heap[gb101]? = some (.cells #[.int .i64 a0_0, (.slice A0_1 l0_1.length c0_1)] 24 (0, 0))) ∧ Aside0 (Below w.heap.size w w'))
            case atStart => exact ⟨(y109), (0), (by first | rfl | (simp; done) | (simp [*]; done)), H', ⟨Nat.le_refl _⟩, ⟨by (with_reducible repeat (first | apply Kd.R_alloc | apply Kd.R_drewN | apply Kd.R_drew)); exact HO111.out⟩, ⟨by (with_reducible repeat (first | refine blk_drewN ?_ _ | refine blk_drew ?_ | refine blk_alloc ?_ _)); exact BK101.out⟩, ⟨by repeat (first | (with_reducible first | exact HB.out | apply below_alloc | apply pw_below_drewN | apply below_drew1 | refine below_set ?_ GE101.out) | exact HB.out)⟩⟩
            case round =>
              clear H'
              try clear c1
              try clear p2
              try clear c3
              try clear p6
              try clear c9
              try clear c9b0
              try clear c10
              try clear c10b0
              try clear c10b1
              try clear c12
              try clear c15
              try clear hcz13_0
              try clear hcz13_1
              try clear hcz16_0
              try clear hcz16_1
              try clear hcz5_0
              try clear hcz5_1
              try clear hfz13_0
              try clear hfz13_1
              try clear hfz16_0
              try clear hfz16_1
              try clear hfz5_0
              try clear hfz5_1
              try clear p2
              obtain ⟨x4_2, x6_2, rfl, HA, HK2, HO_4, BK101, HB⟩ := hrel
              cases gk with
              | zero => exact absurd HA.out (by simp [seneschalref03_Encode.l1])
              | succ k2 =>
                have H := HA.out
                clear HA
                simp only [seneschalref03_Encode.l1] at H
                by_cases c18 : x6_2 < (l0_1.length : Int)
                · rw [if_pos c18] at H
                  have c18b0 : decide (x6_2 < (l0_1.length : Int)) = true := decide_eq_true c18
                  clear c18
                  by_cases c19 : 0 ≤ x6_2
                  · rw [if_pos c19] at H
                    have c19b0 : decide (0 ≤ x6_2) = true := decide_eq_true c19
                    clear c19
                    obtain ⟨bq20, hbq20⟩ : ∃ b_ : Bool, b_ = ((rd_T33 l0_1 x6_2).f0) := ⟨_, rfl⟩
                    replace H : (if (bq20 = true) then (if x4_2.length < 140737488355328 then (seneschalref03_Encode.l2 k2 (x4_2 ++ [((((rd_T33 l0_1 x6_2).f1).size : Int)) % 256]) x6_2 0 a0_0 l0_1) else (none)) else (if x4_2.length < 140737488355328 then (seneschalref03_Encode.l1 k2 (x4_2 ++ [255]) (wrap64 (x6_2 + 1)) a0_0 l0_1) else (none))) = some (r1, r2) := by rw [← hbq20] at H; exact H
                    have Nbq20 := Aside0.mk hbq20
                    clear hbq20
                    by_cases c21 : (bq20 = true)
                    · subst c21
                      have H1 : (if x4_2.length < 140737488355328 then (seneschalref03_Encode.l2 k2 (x4_2 ++ [((((rd_T33 l0_1 x6_2).f1).size : Int)) % 256]) x6_2 0 a0_0 l0_1) else (none)) = some (r1, r2) := by rw [if_pos rfl] at H; exact H
                      clear H
                      have H := H1
                      clear H1
                      by_cases c22 : x4_2.length < 140737488355328
                      · rw [if_pos c22] at H
                        have LMc22 := Aside0.mk c22
                        clear c22
                        obtain ⟨y117, hy117⟩ : ∃ y_ : List Int, y_ = (x4_2 ++ [((((rd_T33 l0_1 x6_2).f1).size : Int)) % 256]) := ⟨_, rfl⟩
                        replace H : (seneschalref03_Encode.l2 k2 y117 x6_2 0 a0_0 l0_1) = some (r1, r2) := by first | (rw [hy117]; with_reducible exact H) | (have H2_ := (Option.bind_some _ _).symm.trans H; rw [hy117]; with_reducible exact H2_) | (have H2_ := (Option.bind_some _ _).symm.trans H; with_reducible exact H2_) | with_reducible exact H | (rw [hy117]; exact H) | exact H
                        have Ny117 := Aside0.mk hy117
                        clear hy117
                        have H' := Aside0.mk H
                        clear H
                        have hcz23_0 : wr.cell? ⟨gb101, 0, none⟩ = some (.int .i64 a0_0) := (blk_cell BK101.out 0).trans rfl
                        have hcz23_1 : wr.cell? ⟨gb101, 1, none⟩ = some (.slice A0_1 l0_1.length c0_1) := (blk_cell BK101.out 1).trans rfl
                        have hfz23_0 := blk_frozen BK101.out 0
                        have hfz23_1 := blk_frozen BK101.out 1
                        have p112 : 0 ≤ (x6_2 : Int) := of_decide_eq_true (by first | (with_reducible assumption) | assumption)
                        have q112 : x6_2 < (l0_1.length : Int) := of_decide_eq_true (by first | (with_reducible assumption) | assumption)
                        obtain ⟨ad112, e112, hx112_0, hx112_1⟩ := at_T33 HR0_1.out x6_2 p112 q112
                        (try rw [← Nbq20.out] at hx112_0)
                        cases e112
                        replace hx112_0 := (HB.out.cell (World.block_lt_of_cell? w _ hx112_0)).trans hx112_0
                        replace hx112_1 := (HB.out.cell (World.block_lt_of_cell? w _ hx112_1)).trans hx112_1
                        replace p112 := eq_true p112
                        replace q112 := eq_true q112
                        have p116 : 0 ≤ (x6_2 : Int) := of_decide_eq_true (by first | (with_reducible assumption) | assumption)
                        have q116 : x6_2 < (l0_1.length : Int) := of_decide_eq_true (by first | (with_reducible assumption) | assumption)
                        obtain ⟨ad116, e116, hx116_0, hx116_1⟩ := at_T33 HR0_1.out x6_2 p116 q116
                        (try rw [← Nbq20.out] at hx116_0)
                        obtain rfl : ad112 = ad116 := (by injection e116)
                        replace hx116_0 := (HB.out.cell (World.block_lt_of_cell? w _ hx116_0)).trans hx116_0
                        replace hx116_1 := (HB.out.cell (World.block_lt_of_cell? w _ hx116_1)).trans hx116_1
                        replace p116 := eq_true p116
                        replace q116 := eq_true q116
                        go_wp2_with (first | ((with_reducible refine gate_builtin (b := .append) (xs := #[.tmp 48, .tmp 57]) rfl ?_); at_builtin; refine Kd.R_append (Kd.int .u8) (w0 := w) w.heap.size rfl (.tmp 48) (.tmp 57) 36 5 (.int .u8 0) 1 rfl Try.underlying36 info5 rfl (by decide) (by omega) u4 x4_2 (((((rd_T33 l0_1 x6_2).f1).size : Int)) % 256) [.int .u8 (((((rd_T33 l0_1 x6_2).f1).size : Int)) % 256)] (fun _ => True) (fun _ => False) rfl rfl ?aP (fun _ hk => hk.elim) ?aF ?aO ?aB ?aS ?aL ?_; (case aP => exact rfl); (case aB => exact (by repeat (first | (with_reducible first | exact HB.out | apply below_alloc | apply pw_below_drewN | apply below_drew1 | refine below_set ?_ GE101.out) | exact HB.out))); (case aF => exact (fun _ _ => trivial)); (case aO => exact (by (with_reducible repeat (first | apply Kd.R_alloc | apply Kd.R_drewN | apply Kd.R_drew)); exact HO_4.out)); (case aS => exact (below_size (by repeat (first | (with_reducible first | exact HB.out | apply below_alloc | apply pw_below_drewN | apply below_drew1 | refine below_set ?_ GE101.out) | exact HB.out)))); (case aL => have := LMc22.out; omega); intro v118 w24 ho hb hg hat; rw [← Ny117.out] at ho; have n0_ := Aside0.mk (blk_grown (g := gb101) (o := .cells #[.int .i64 a0_0, .slice (some ad112) l0_1.length c0_1] 24 (0, 0)) (by (with_reducible repeat (first | refine blk_drewN ?_ _ | refine blk_drew ?_ | refine blk_alloc ?_ _)); exact BK101.out) hg (Kd.R_ne HO_4.out BK101.out (by decide))); have n1_ := Aside0.mk (hb); have n2_ := Aside0.mk (ho); clear BK101; clear HB; clear HO_4; have BK101 := n0_; have HB := n1_; have HO119 := n2_; clear n0_ n1_ n2_; clear ho hb hg hat))
                        go_loopg [4, 7] k2 (fun kq v4 v7 w' => ∃ (x4_3 : List Int) (x7_3 : Int), v7 = .int .i64 x7_3 ∧ Aside0 (seneschalref03_Encode.l2 kq x4_3 x6_2 x7_3 a0_0 l0_1 = some (r1, r2)) ∧ Aside0 (kq ≤ k2) ∧ Aside0 (Kd.R (Kd.int .u8) 5 w' w.heap.size (fun _ => True) v4 x4_3) ∧ Aside0 (w'.heap[gb101]? = some (.cells #[.int .i64 a0_0, (.slice (some ad112) l0_1.length c0_1)] 24 (0, 0))) ∧ Aside0 (Below w.heap.size w w'))
                        case atStart => exact ⟨(y117), (0), (by first | rfl | (simp; done) | (simp [*]; done)), H', ⟨Nat.le_refl _⟩, ⟨by (with_reducible repeat (first | apply Kd.R_alloc | apply Kd.R_drewN | apply Kd.R_drew)); exact HO119.out⟩, ⟨by (with_reducible repeat (first | refine blk_drewN ?_ _ | refine blk_drew ?_ | refine blk_alloc ?_ _)); exact BK101.out⟩, ⟨by repeat (first | (with_reducible first | exact HB.out | apply below_alloc | apply pw_below_drewN | apply below_drew1 | refine below_set ?_ GE101.out) | exact HB.out)⟩⟩
                        case round =>
                          clear H'
                          try clear c1
                          try clear p1
                          try clear q1
                          try clear hx1
                          try clear c2
                          try clear p2
                          try clear q2
                          try clear c3
                          try clear p6
                          try clear c9
                          try clear c9b0
                          try clear c10
                          try clear c10b0
                          try clear c10b1
                          try clear p11
                          try clear q11
                          try clear hx11
                          try clear c12
                          try clear c15
                          try clear c18
                          try clear c18b0
                          try clear c19
                          try clear c19b0
                          try clear q20
                          try clear c21
                          try clear c22
                          try clear hcz13_0
                          try clear hcz13_1
                          try clear hcz16_0
                          try clear hcz16_1
                          try clear hcz23_0
                          try clear hcz23_1
                          try clear hcz5_0
                          try clear hcz5_1
                          try clear hfz13_0
                          try clear hfz13_1
                          try clear hfz16_0
                          try clear hfz16_1
                          try clear hfz23_0
                          try clear hfz23_1
                          try clear hfz5_0
                          try clear hfz5_1
                          try clear hx112_0
                          try clear hx112_1
                          try clear hx116_0
                          try clear hx116_1
                          try clear p112
                          try clear p116
                          try clear p2
                          try clear p6
                          try clear q112
                          try clear q116
                          obtain ⟨x4_3, x7_3, rfl, HA, HK3, HO_4, BK101, HB⟩ := hrel
                          cases gk with
                          | zero => exact absurd HA.out (by simp [seneschalref03_Encode.l2])
                          | succ k3 =>
                            have H := HA.out
                            clear HA
                            simp only [seneschalref03_Encode.l2] at H
                            by_cases c25 : 0 ≤ x6_2
                            · rw [if_pos c25] at H
                              have c25b0 : decide (0 ≤ x6_2) = true := decide_eq_true c25
                              clear c25
                              by_cases c26 : x6_2 < (l0_1.length : Int)
                              · rw [if_pos c26] at H
                                have c26b0 : decide (x6_2 < (l0_1.length : Int)) = true := decide_eq_true c26
                                clear c26
                                by_cases c27 : x7_3 < (((rd_T33 l0_1 x6_2).f1).size : Int)
                                · rw [if_pos c27] at H
                                  have c27b0 : decide (x7_3 < (((rd_T33 l0_1 x6_2).f1).size : Int)) = true := decide_eq_true c27
                                  clear c27
                                  by_cases c28 : 0 ≤ x7_3
                                  · rw [if_pos c28] at H
                                    have c28b0 : decide (0 ≤ x7_3) = true := decide_eq_true c28
                                    clear c28
                                    by_cases c30 : x4_3.length < 140737488355328
                                    · rw [if_pos c30] at H
                                      have LMc30 := Aside0.mk c30
                                      clear c30
                                      obtain ⟨y122, hy122⟩ : ∃ y_ : List Int, y_ = (x4_3 ++ [bt ((rd_T33 l0_1 x6_2).f1) x7_3]) := ⟨_, rfl⟩
                                      replace H : (seneschalref03_Encode.l2 k3 y122 x6_2 (wrap64 (x7_3 + 1)) a0_0 l0_1) = some (r1, r2) := by first | (rw [hy122]; with_reducible exact H) | (have H2_ := (Option.bind_some _ _).symm.trans H; rw [hy122]; with_reducible exact H2_) | (have H2_ := (Option.bind_some _ _).symm.trans H; with_reducible exact H2_) | with_reducible exact H | (rw [hy122]; exact H) | exact H
                                      have Ny122 := Aside0.mk hy122
                                      clear hy122
                                      have H' := Aside0.mk H
                                      clear H
                                      have hcz31_0 : wr.cell? ⟨gb101, 0, none⟩ = some (.int .i64 a0_0) := (blk_cell BK101.out 0).trans rfl
                                      have hcz31_1 : wr.cell? ⟨gb101, 1, none⟩ = some (.slice (some ad112) l0_1.length c0_1) := (blk_cell BK101.out 1).trans rfl
                                      have hfz31_0 := blk_frozen BK101.out 0
                                      have hfz31_1 := blk_frozen BK101.out 1
                                      have p120 : 0 ≤ (x6_2 : Int) := of_decide_eq_true (by first | (with_reducible assumption) | assumption)
                                      have q120 : x6_2 < (l0_1.length : Int) := of_decide_eq_true (by first | (with_reducible assumption) | assumption)
                                      obtain ⟨ad120, e120, hx120_0, hx120_1⟩ := at_T33 HR0_1.out x6_2 p120 q120
                                      (try rw [← Nbq20.out] at hx120_0)
                                      obtain rfl : ad112 = ad120 := (by injection e120)
                                      replace hx120_0 := (HB.out.cell (World.block_lt_of_cell? w _ hx120_0)).trans hx120_0
                                      replace hx120_1 := (HB.out.cell (World.block_lt_of_cell? w _ hx120_1)).trans hx120_1
                                      replace p120 := eq_true p120
                                      replace q120 := eq_true q120
                                      have p121 : 0 ≤ (x6_2 : Int) := of_decide_eq_true (by first | (with_reducible assumption) | assumption)
                                      have q121 : x6_2 < (l0_1.length : Int) := of_decide_eq_true (by first | (with_reducible assumption) | assumption)
                                      obtain ⟨ad121, e121, hx121_0, hx121_1⟩ := at_T33 HR0_1.out x6_2 p121 q121
                                      (try rw [← Nbq20.out] at hx121_0)
                                      obtain rfl : ad112 = ad121 := (by injection e121)
                                      replace hx121_0 := (HB.out.cell (World.block_lt_of_cell? w _ hx121_0)).trans hx121_0
                                      replace hx121_1 := (HB.out.cell (World.block_lt_of_cell? w _ hx121_1)).trans hx121_1
                                      replace p121 := eq_true p121
                                      replace q121 := eq_true q121
                                      have p29 : 0 ≤ (x7_3 : Int) := of_decide_eq_true (by first | (with_reducible assumption) | assumption)
                                      have q29 : x7_3 < (((rd_T33 l0_1 x6_2).f1).size : Int) := of_decide_eq_true (by first | (with_reducible assumption) | assumption)
                                      have hx29 := bt_at ((rd_T33 l0_1 x6_2).f1) x7_3
                                      replace p29 := eq_true p29
                                      replace q29 := eq_true q29
                                      go_wp2_with (first | ((with_reducible refine gate_builtin (b := .append) (xs := #[.tmp 70, .tmp 79]) rfl ?_); at_builtin; refine Kd.R_append (Kd.int .u8) (w0 := w) w.heap.size rfl (.tmp 70) (.tmp 79) 36 5 (.int .u8 0) 1 rfl Try.underlying36 info5 rfl (by decide) (by omega) u4 x4_3 (bt ((rd_T33 l0_1 x6_2).f1) x7_3) [.int .u8 (bt ((rd_T33 l0_1 x6_2).f1) x7_3)] (fun _ => True) (fun _ => False) rfl rfl ?aP (fun _ hk => hk.elim) ?aF ?aO ?aB ?aS ?aL ?_; (case aP => exact rfl); (case aB => exact (by repeat (first | (with_reducible first | exact HB.out | apply below_alloc | apply pw_below_drewN | apply below_drew1 | refine below_set ?_ GE101.out) | exact HB.out))); (case aF => exact (fun _ _ => trivial)); (case aO => exact (by (with_reducible repeat (first | apply Kd.R_alloc | apply Kd.R_drewN | apply Kd.R_drew)); exact HO_4.out)); (case aS => exact (below_size (by repeat (first | (with_reducible first | exact HB.out | apply below_alloc | apply pw_below_drewN | apply below_drew1 | refine below_set ?_ GE101.out) | exact HB.out)))); (case aL => have := LMc30.out; omega); intro v123 w32 ho hb hg hat; rw [← Ny122.out] at ho; have n0_ := Aside0.mk (blk_grown (g := gb101) (o := .cells #[.int .i64 a0_0, .slice (some ad112) l0_1.length c0_1] 24 (0, 0)) (by (with_reducible repeat (first | refine blk_drewN ?_ _ | refine blk_drew ?_ | refine blk_alloc ?_ _)); exact BK101.out) hg (Kd.R_ne HO_4.out BK101.out (by decide))); have n1_ := Aside0.mk (hb); have n2_ := Aside0.mk (ho); clear BK101; clear HB; clear HO_4; have BK101 := n0_; have HB := n1_; have HO124 := n2_; clear n0_ n1_ n2_; clear ho hb hg hat))
                                      go_roundg k3
                                      case measure => have := HK1.out; have := HK2.out; have := HK3.out; omega
                                      case rel => exact ⟨(y122), (wrap64 (x7_3 + 1)), (by first | rfl | (simp; done) | (simp [*]; done)), H', ⟨by have := HK1.out; have := HK2.out; have := HK3.out; omega⟩, ⟨by (with_reducible repeat (first | apply Kd.R_alloc | apply Kd.R_drewN | apply Kd.R_drew)); exact HO124.out⟩, ⟨by (with_reducible repeat (first | refine blk_drewN ?_ _ | refine blk_drew ?_ | refine blk_alloc ?_ _)); exact BK101.out⟩, ⟨by repeat (first | (with_reducible first | exact HB.out | apply below_alloc | apply pw_below_drewN | apply below_drew1 | refine below_set ?_ GE101.out) | exact HB.out)⟩⟩
                                    · rw [if_neg c30] at H
                                      exact absurd H (by simp)
                                  · rw [if_neg c28] at H
                                    exact absurd H (by simp)
                                · rw [if_neg c27] at H
                                  have c27b0 : decide (x7_3 < (((rd_T33 l0_1 x6_2).f1).size : Int)) = false := decide_eq_false c27
                                  clear c27
                                  have H' := Aside0.mk H
                                  clear H
                                  have hcz33_0 : wr.cell? ⟨gb101, 0, none⟩ = some (.int .i64 a0_0) := (blk_cell BK101.out 0).trans rfl
                                  have hcz33_1 : wr.cell? ⟨gb101, 1, none⟩ = some (.slice (some ad112) l0_1.length c0_1) := (blk_cell BK101.out 1).trans rfl
                                  have hfz33_0 := blk_frozen BK101.out 0
                                  have hfz33_1 := blk_frozen BK101.out 1
                                  have p120 : 0 ≤ (x6_2 : Int) := of_decide_eq_true (by first | (with_reducible assumption) | assumption)
                                  have q120 : x6_2 < (l0_1.length : Int) := of_decide_eq_true (by first | (with_reducible assumption) | assumption)
                                  obtain ⟨ad120, e120, hx120_0, hx120_1⟩ := at_T33 HR0_1.out x6_2 p120 q120
                                  (try rw [← Nbq20.out] at hx120_0)
                                  obtain rfl : ad112 = ad120 := (by injection e120)
                                  replace hx120_0 := (HB.out.cell (World.block_lt_of_cell? w _ hx120_0)).trans hx120_0
                                  replace hx120_1 := (HB.out.cell (World.block_lt_of_cell? w _ hx120_1)).trans hx120_1
                                  replace p120 := eq_true p120
                                  replace q120 := eq_true q120
                                  go_wp2
                                  go_roundg k3
                                  case measure => have := HK1.out; have := HK2.out; have := HK3.out; omega
                                  case rel => exact ⟨(x4_3), (wrap64 (x6_2 + 1)), (by first | rfl | (simp; done) | (simp [*]; done)), H', ⟨by have := HK1.out; have := HK2.out; have := HK3.out; omega⟩, ⟨by (with_reducible repeat (first | apply Kd.R_alloc | apply Kd.R_drewN | apply Kd.R_drew)); exact HO_4.out⟩, ⟨by (with_reducible repeat (first | refine blk_drewN ?_ _ | refine blk_drew ?_ | refine blk_alloc ?_ _)); exact BK101.out⟩, ⟨by repeat (first | (with_reducible first | exact HB.out | apply below_alloc | apply pw_below_drewN | apply below_drew1 | refine below_set ?_ GE101.out) | exact HB.out)⟩⟩
                              · rw [if_neg c26] at H
                                exact absurd H (by simp)
                            · rw [if_neg c25] at H
                              exact absurd H (by simp)
                      · rw [if_neg c22] at H
                        exact absurd H (by simp)
                    · replace c21 := Bool.eq_false_iff.mpr c21
                      subst c21
                      have H1 : (if x4_2.length < 140737488355328 then (seneschalref03_Encode.l1 k2 (x4_2 ++ [255]) (wrap64 (x6_2 + 1)) a0_0 l0_1) else (none)) = some (r1, r2) := by rw [if_neg (show ¬ (false = true) by decide)] at H; exact H
                      clear H
                      have H := H1
                      clear H1
                      by_cases c34 : x4_2.length < 140737488355328
                      · rw [if_pos c34] at H
                        have LMc34 := Aside0.mk c34
                        clear c34
                        obtain ⟨y113, hy113⟩ : ∃ y_ : List Int, y_ = (x4_2 ++ [255]) := ⟨_, rfl⟩
                        replace H : (seneschalref03_Encode.l1 k2 y113 (wrap64 (x6_2 + 1)) a0_0 l0_1) = some (r1, r2) := by first | (rw [hy113]; with_reducible exact H) | (have H2_ := (Option.bind_some _ _).symm.trans H; rw [hy113]; with_reducible exact H2_) | (have H2_ := (Option.bind_some _ _).symm.trans H; with_reducible exact H2_) | with_reducible exact H | (rw [hy113]; exact H) | exact H
                        have Ny113 := Aside0.mk hy113
                        clear hy113
                        have H' := Aside0.mk H
                        clear H
                        have hcz35_0 : wr.cell? ⟨gb101, 0, none⟩ = some (.int .i64 a0_0) := (blk_cell BK101.out 0).trans rfl
                        have hcz35_1 : wr.cell? ⟨gb101, 1, none⟩ = some (.slice A0_1 l0_1.length c0_1) := (blk_cell BK101.out 1).trans rfl
                        have hfz35_0 := blk_frozen BK101.out 0
                        have hfz35_1 := blk_frozen BK101.out 1
                        have p112 : 0 ≤ (x6_2 : Int) := of_decide_eq_true (by first | (with_reducible assumption) | assumption)
                        have q112 : x6_2 < (l0_1.length : Int) := of_decide_eq_true (by first | (with_reducible assumption) | assumption)
                        obtain ⟨ad112, e112, hx112_0, hx112_1⟩ := at_T33 HR0_1.out x6_2 p112 q112
                        (try rw [← Nbq20.out] at hx112_0)
                        cases e112
                        replace hx112_0 := (HB.out.cell (World.block_lt_of_cell? w _ hx112_0)).trans hx112_0
                        replace hx112_1 := (HB.out.cell (World.block_lt_of_cell? w _ hx112_1)).trans hx112_1
                        replace p112 := eq_true p112
                        replace q112 := eq_true q112
                        go_wp2_with (first | ((with_reducible refine gate_builtin (b := .append) (xs := #[.tmp 45, .tmp 46]) rfl ?_); at_builtin; refine Kd.R_append (Kd.int .u8) (w0 := w) w.heap.size rfl (.tmp 45) (.tmp 46) 36 5 (.int .u8 0) 1 rfl Try.underlying36 info5 rfl (by decide) (by omega) u4 x4_2 255 [.int .u8 255] (fun _ => True) (fun _ => False) rfl rfl ?aP (fun _ hk => hk.elim) ?aF ?aO ?aB ?aS ?aL ?_; (case aP => exact rfl); (case aB => exact (by repeat (first | (with_reducible first | exact HB.out | apply below_alloc | apply pw_below_drewN | apply below_drew1 | refine below_set ?_ GE101.out) | exact HB.out))); (case aF => exact (fun _ _ => trivial)); (case aO => exact (by (with_reducible repeat (first | apply Kd.R_alloc | apply Kd.R_drewN | apply Kd.R_drew)); exact HO_4.out)); (case aS => exact (below_size (by repeat (first | (with_reducible first | exact HB.out | apply below_alloc | apply pw_below_drewN | apply below_drew1 | refine below_set ?_ GE101.out) | exact HB.out)))); (case aL => have := LMc34.out; omega); intro v114 w36 ho hb hg hat; rw [← Ny113.out] at ho; have n0_ := Aside0.mk (blk_grown (g := gb101) (o := .cells #[.int .i64 a0_0, .slice (some ad112) l0_1.length c0_1] 24 (0, 0)) (by (with_reducible repeat (first | refine blk_drewN ?_ _ | refine blk_drew ?_ | refine blk_alloc ?_ _)); exact BK101.out) hg (Kd.R_ne HO_4.out BK101.out (by decide))); have n1_ := Aside0.mk (hb); have n2_ := Aside0.mk (ho); clear BK101; clear HB; clear HO_4; have BK101 := n0_; have HB := n1_; have HO115 := n2_; clear n0_ n1_ n2_; clear ho hb hg hat))
                        go_roundg k2
                        case measure => have := HK1.out; have := HK2.out; omega
                        case rel => exact ⟨(y113), (wrap64 (x6_2 + 1)), (by first | rfl | (simp; done) | (simp [*]; done)), H', ⟨by have := HK1.out; have := HK2.out; omega⟩, ⟨by (with_reducible repeat (first | apply Kd.R_alloc | apply Kd.R_drewN | apply Kd.R_drew)); exact HO115.out⟩, ⟨by (with_reducible repeat (first | refine blk_drewN ?_ _ | refine blk_drew ?_ | refine blk_alloc ?_ _)); exact BK101.out⟩, ⟨by repeat (first | (with_reducible first | exact HB.out | apply below_alloc | apply pw_below_drewN | apply below_drew1 | refine below_set ?_ GE101.out) | exact HB.out)⟩⟩
                      · rw [if_neg c34] at H
                        exact absurd H (by simp)
                  · rw [if_neg c19] at H
                    exact absurd H (by simp)
                · rw [if_neg c18] at H
                  have c18b0 : decide (x6_2 < (l0_1.length : Int)) = false := decide_eq_false c18
                  clear c18
                  have H' := Aside0.mk H
                  clear H
                  have hcz37_0 : wr.cell? ⟨gb101, 0, none⟩ = some (.int .i64 a0_0) := (blk_cell BK101.out 0).trans rfl
                  have hcz37_1 : wr.cell? ⟨gb101, 1, none⟩ = some (.slice A0_1 l0_1.length c0_1) := (blk_cell BK101.out 1).trans rfl
                  have hfz37_0 := blk_frozen BK101.out 0
                  have hfz37_1 := blk_frozen BK101.out 1
                  go_wp2
                  go_loopg [4] k2 (fun kq v4 w' => ∃ (x4_3 : List Int), Aside0 (seneschalref03_Encode.l3 kq x4_3 = some (r1, r2)) ∧ Aside0 (kq ≤ k2) ∧ Aside0 (Kd.R (Kd.int .u8) 5 w' w.heap.size (fun _ => True) v4 x4_3) ∧ Aside0 (w'.heap[gb101]? = some (.cells #[.int .i64 a0_0, (.slice A0_1 l0_1.length c0_1)] 24 (0, 0))) ∧ Aside0 (Below w.heap.size w w'))
                  case atStart => exact ⟨(x4_2), H', ⟨Nat.le_refl _⟩, ⟨by (with_reducible repeat (first | apply Kd.R_alloc | apply Kd.R_drewN | apply Kd.R_drew)); exact HO_4.out⟩, ⟨by (with_reducible repeat (first | refine blk_drewN ?_ _ | refine blk_drew ?_ | refine blk_alloc ?_ _)); exact BK101.out⟩, ⟨by repeat (first | (with_reducible first | exact HB.out | apply below_alloc | apply pw_below_drewN | apply below_drew1 | refine below_set ?_ GE101.out) | exact HB.out)⟩⟩
                  case round =>
                    clear H'
                    try clear c1
                    try clear p1
                    try clear q1
                    try clear hx1
                    try clear c2
                    try clear p2
                    try clear q2
                    try clear hx2
                    try clear c3
                    try clear p6
                    try clear c9
                    try clear c9b0
                    try clear c10
                    try clear c10b0
                    try clear c10b1
                    try clear p11
                    try clear q11
                    try clear hx11
                    try clear c12
                    try clear p12
                    try clear q12
                    try clear hx12
                    try clear c15
                    try clear c18
                    try clear c18b0
                    try clear c19
                    try clear c19b0
                    try clear q20
                    try clear c21
                    try clear c22
                    try clear c25
                    try clear c25b0
                    try clear c26
                    try clear c26b0
                    try clear c27
                    try clear c27b0
                    try clear c28
                    try clear c28b0
                    try clear p29
                    try clear q29
                    try clear hx29
                    try clear c30
                    try clear c33
                    try clear c34
                    try clear c35
                    try clear hcz13_0
                    try clear hcz13_1
                    try clear hcz16_0
                    try clear hcz16_1
                    try clear hcz23_0
                    try clear hcz23_1
                    try clear hcz31_0
                    try clear hcz31_1
                    try clear hcz33_0
                    try clear hcz33_1
                    try clear hcz35_0
                    try clear hcz35_1
                    try clear hcz37_0
                    try clear hcz37_1
                    try clear hcz5_0
                    try clear hcz5_1
                    try clear hfz13_0
                    try clear hfz13_1
                    try clear hfz16_0
                    try clear hfz16_1
                    try clear hfz23_0
                    try clear hfz23_1
                    try clear hfz31_0
                    try clear hfz31_1
                    try clear hfz33_0
                    try clear hfz33_1
                    try clear hfz35_0
                    try clear hfz35_1
                    try clear hfz37_0
                    try clear hfz37_1
                    try clear hfz5_0
                    try clear hfz5_1
                    try clear hx112_0
                    try clear hx112_1
                    try clear hx116_0
                    try clear hx116_1
                    try clear hx120_0
                    try clear hx120_1
                    try clear hx121_0
                    try clear hx121_1
                    try clear p1
                    try clear p11
                    try clear p112
                    try clear p116
                    try clear p120
                    try clear p121
                    try clear p2
                    try clear p29
                    try clear p6
                    try clear q1
                    try clear q11
                    try clear q112
                    try clear q116
                    try clear q120
                    try clear q121
                    try clear q2
                    try clear q20
                    try clear q29
                    obtain ⟨x4_3, HA, HK3, HO_4, BK101, HB⟩ := hrel
                    cases gk with
                    | zero => exact absurd HA.out (by simp [seneschalref03_Encode.l3])
                    | succ k3 =>
                      have H := HA.out
                      clear HA
                      simp only [seneschalref03_Encode.l3] at H
                      by_cases c38 : (x4_3.length : Int) < 240
                      · rw [if_pos c38] at H
                        have c38b0 : decide ((x4_3.length : Int) < 240) = true := decide_eq_true c38
                        have c38b1 : decide (x4_3.length < 240) = true := decide_eq_true (by omega)
                        clear c38
                        by_cases c39 : x4_3.length < 140737488355328
                        · rw [if_pos c39] at H
                          have LMc39 := Aside0.mk c39
                          clear c39
                          obtain ⟨y125, hy125⟩ : ∃ y_ : List Int, y_ = (x4_3 ++ [0]) := ⟨_, rfl⟩
                          replace H : (seneschalref03_Encode.l3 k3 y125) = some (r1, r2) := by first | (rw [hy125]; with_reducible exact H) | (have H2_ := (Option.bind_some _ _).symm.trans H; rw [hy125]; with_reducible exact H2_) | (have H2_ := (Option.bind_some _ _).symm.trans H; with_reducible exact H2_) | with_reducible exact H | (rw [hy125]; exact H) | exact H
                          have Ny125 := Aside0.mk hy125
                          clear hy125
                          have H' := Aside0.mk H
                          clear H
                          obtain ⟨Ao40, co40, eo40⟩ := Kd.R_slice HO_4.out
                          subst eo40
                          go_wp2_with (first | ((with_reducible refine gate_builtin (b := .append) (xs := #[.tmp 84, .tmp 85]) rfl ?_); at_builtin; refine Kd.R_append (Kd.int .u8) (w0 := w) w.heap.size rfl (.tmp 84) (.tmp 85) 36 5 (.int .u8 0) 1 rfl Try.underlying36 info5 rfl (by decide) (by omega) (.slice Ao40 x4_3.length co40) x4_3 0 [.int .u8 0] (fun _ => True) (fun _ => False) rfl rfl ?aP (fun _ hk => hk.elim) ?aF ?aO ?aB ?aS ?aL ?_; (case aP => exact rfl); (case aB => exact (by repeat (first | (with_reducible first | exact HB.out | apply below_alloc | apply pw_below_drewN | apply below_drew1 | refine below_set ?_ GE101.out) | exact HB.out))); (case aF => exact (fun _ _ => trivial)); (case aO => exact (by (with_reducible repeat (first | apply Kd.R_alloc | apply Kd.R_drewN | apply Kd.R_drew)); exact HO_4.out)); (case aS => exact (below_size (by repeat (first | (with_reducible first | exact HB.out | apply below_alloc | apply pw_below_drewN | apply below_drew1 | refine below_set ?_ GE101.out) | exact HB.out)))); (case aL => have := LMc39.out; omega); intro v126 w41 ho hb hg hat; rw [← Ny125.out] at ho; have n0_ := Aside0.mk (blk_grown (g := gb101) (o := .cells #[.int .i64 a0_0, .slice A0_1 l0_1.length c0_1] 24 (0, 0)) (by (with_reducible repeat (first | refine blk_drewN ?_ _ | refine blk_drew ?_ | refine blk_alloc ?_ _)); exact BK101.out) hg (Kd.R_ne HO_4.out BK101.out (by decide))); have n1_ := Aside0.mk (hb); have n2_ := Aside0.mk (ho); clear BK101; clear HB; clear HO_4; have BK101 := n0_; have HB := n1_; have HO127 := n2_; clear n0_ n1_ n2_; clear ho hb hg hat))
                          go_roundg k3
                          case measure => have := HK1.out; have := HK2.out; have := HK3.out; omega
                          case rel => exact ⟨(y125), H', ⟨by have := HK1.out; have := HK2.out; have := HK3.out; omega⟩, ⟨by (with_reducible repeat (first | apply Kd.R_alloc | apply Kd.R_drewN | apply Kd.R_drew)); exact HO127.out⟩, ⟨by (with_reducible repeat (first | refine blk_drewN ?_ _ | refine blk_drew ?_ | refine blk_alloc ?_ _)); exact BK101.out⟩, ⟨by repeat (first | (with_reducible first | exact HB.out | apply below_alloc | apply pw_below_drewN | apply below_drew1 | refine below_set ?_ GE101.out) | exact HB.out)⟩⟩
                        · rw [if_neg c39] at H
                          exact absurd H (by simp)
                      · rw [if_neg c38] at H
                        have c38b0 : decide ((x4_3.length : Int) < 240) = false := decide_eq_false c38
                        have c38b1 : decide (x4_3.length < 240) = false := decide_eq_false (by omega)
                        clear c38
                        simp only [Option.some.injEq, Prod.mk.injEq] at H
                        obtain ⟨rfl, rfl⟩ := H
                        obtain ⟨Ao42, co42, eo42⟩ := Kd.R_slice HO_4.out
                        subst eo42
                        have hcv43 := own_string (P := Try.prog) Try.underlying36 Try.underlying5 Try.underlying9 (Kd.own_of_R HO_4.out)
                        go_wp2
                        go_ret2
                        exact ⟨by first | rfl | (simp [errW_none, errW_some] <;> rfl) | (simp [*, errW_none, errW_some] <;> rfl), by repeat (first | (with_reducible first | exact HB.out | apply below_alloc | apply pw_below_drewN | apply below_drew1 | refine below_set ?_ GE101.out) | exact HB.out)⟩
          · rw [if_neg c15] at H
            exact absurd H (by simp)
  · replace c3 := Bool.eq_false_iff.mpr c3
    subst c3
    have H1 : (some ((⟨#[]⟩ : ByteArray), 1)) = some (r1, r2) := by rw [if_neg (show ¬ (false = true) by decide)] at H; exact H
    clear H
    have H := H1
    clear H1
    simp only [Option.some.injEq, Prod.mk.injEq] at H
    obtain ⟨rfl, rfl⟩ := H
    go_enter Try.func33, Try.ntmps33
    go_wp2_with (first | ((with_reducible refine gate_dst (N := 1) rfl ?_); refine box_event ?hg (N := 1) ?hd (cs := #[.int .i64 a0_0, .slice A0_1 l0_1.length c0_1]) (t := 24) ?hr ?_; (case hd => rfl); (case hg => rfl); (case hr => first | (go_simp; done) | (go_simp; rfl)); intro gb101 hg w44 hbox hb; have n0_ := Aside0.mk (below_step (by repeat (first | (with_reducible first | exact HB.out | apply below_alloc | apply pw_below_drewN | apply below_drew1) | exact HB.out)) hb); have n1_ := Aside0.mk (hbox); have n2_ := Aside0.mk ((by rw [hg]; exact (below_size (by repeat (first | (with_reducible first | exact HB.out | apply below_alloc | apply pw_below_drewN | apply below_drew1) | exact HB.out))) : w.heap.size ≤ gb101)); have n3_ := Aside0.mk ((by rw [hg]; exact (below_size (by repeat (first | (with_reducible first | exact HB.out | apply below_alloc | apply pw_below_drewN | apply below_drew1) | exact HB.out))) : w.heap.size ≤ gb101)); clear HB; have HB := n0_; have BK101 := n1_; have GW101 := n2_; have GE101 := n3_; clear n0_ n1_ n2_ n3_; clear hb hbox hg; have hcz45_0 : w44.cell? ⟨gb101, 0, none⟩ = some (.int .i64 a0_0) := (blk_cell BK101.out 0).trans rfl; have hcz45_1 : w44.cell? ⟨gb101, 1, none⟩ = some (.slice A0_1 l0_1.length c0_1) := (blk_cell BK101.out 1).trans rfl; have hfz45_0 := blk_frozen BK101.out 0; have hfz45_1 := blk_frozen BK101.out 1) | ((with_reducible refine gate_callee (f := 35) rfl ?_); refine goesL_ (some 9) rfl rfl Try.func35 (by kernel_rfl) rfl #[.agg #[.int .i64 a0_0, .slice A0_1 l0_1.length c0_1]] rfl (by (try simp only [List.map_toArray, List.map_cons, List.map_nil]); first | done | rfl | (simp only [List.length_drop, List.length_take]; rfl)) ?_; (with_reducible refine (refGood3.calls a0_0 _ _ l0_1 false _ ?side1 ?side2 A2.out).mono ?_); (case side1 => repeat (first | exact (Kd.C_below HR0_1.out HB.out) | (with_reducible refine Kd.C_alloc ?_ _) | (with_reducible refine Kd.C_drewN ?_ _) | (with_reducible refine Kd.C_drew ?_))); (case side2 => exact HC0_1.out); rintro e w46 ⟨rfl, hb⟩; refine ⟨_, rfl, ?_⟩; have n0_ := Aside0.mk (blk_below (g := gb101) (o := .cells #[.int .i64 a0_0, .slice A0_1 l0_1.length c0_1] 24 (0, 0)) (by (with_reducible repeat (first | refine blk_drewN ?_ _ | refine blk_drew ?_ | refine blk_alloc ?_ _)); exact BK101.out) hb); have n1_ := Aside0.mk (below_step (by repeat (first | (with_reducible first | exact HB.out | apply below_alloc | apply pw_below_drewN | apply below_drew1 | refine below_set ?_ GE101.out) | exact HB.out)) hb); clear BK101; clear HB; have BK101 := n0_; have HB := n1_; clear n0_ n1_; (try clear hb); (try clear hb2); (try clear hk); (try clear hi)))
    go_ret2
    exact ⟨by first | rfl | (simp [errW_none, errW_some] <;> rfl) | (simp [*, errW_none, errW_some] <;> rfl), by repeat (first | (with_reducible first | exact HB.out | apply below_alloc | apply pw_below_drewN | apply below_drew1 | refine below_set ?_ GE101.out) | exact HB.out)⟩

end Go.Proofs.Ytfjmnaobfbmllaa.M

namespace Go.Proofs.Ytfjmnaobfbmllaa.M
open Go.RowKit Go.Proofs.YtfjmnaobfbmllaaW.PrintWords Go.Proofs.YtfjmnaobfbmllaaW.PrintLast Go.Proofs.YtfjmnaobfbmllaaW.PrintMore
set_option linter.unusedVariables false
set_option linter.unusedSimpArgs false

def encB (a : Int) (l : List S33) : ByteArray := strOfNums (padL (encL a l))
theorem renc_pad (d : Nat) : ∀ (k : Nat) (acc : List Int), acc.length + d = 240 → d < k → seneschalref03_Encode.l3 k acc = some (strOfNums (padL acc), 0) := by
  induction d with
  | zero =>
    intro k acc h hk
    obtain ⟨k, rfl⟩ : ∃ m, k = m + 1 := ⟨k - 1, by omega⟩
    simp only [seneschalref03_Encode.l3]
    rw [if_neg (by omega)]
    unfold padL
    rw [show 240 - acc.length = 0 by omega]
    simp
  | succ d ih =>
    intro k acc h hk
    obtain ⟨k, rfl⟩ : ∃ m, k = m + 1 := ⟨k - 1, by omega⟩
    simp only [seneschalref03_Encode.l3]
    have c1 : (acc.length : Int) < 240 := by omega
    have c2 : acc.length < 140737488355328 := by omega
    rw [if_pos c1, if_pos c2, ih k _ (by simp; omega) (by omega)]
    unfold padL
    rw [List.append_assoc, List.length_append]
    have : 240 - acc.length = (240 - (acc.length + 1)) + 1 := by omega
    rw [this, List.replicate_succ]
    rfl
theorem slotsB_cons (x : S33) (l : List S33) : slotsB (x :: l) = slotB x ++ slotsB l := by simp [slotsB]
theorem renc_bytes (a : Int) (l : List S33) (hl : l.length ≤ 32) (i : Nat) (hi : i < l.length) (hs : l[i].f1.size ≤ 200) (F : Nat) (rest : List Int)
    (hQ : ∀ k acc, F < k → acc.length + rest.length ≤ 240 → seneschalref03_Encode.l1 k acc ((i : Int) + 1) a l = some (strOfNums (padL (acc ++ rest)), 0)) (e : Nat) :
    ∀ (k j : Nat) (acc : List Int), j + e = l[i].f1.size → F + e + 1 < k → acc.length + e + rest.length ≤ 240 →
    seneschalref03_Encode.l2 k acc i j a l = some (strOfNums (padL (acc ++ ((bytesOf l[i].f1).drop j ++ rest))), 0) := by
  have c1 : (0 : Int) ≤ (i : Int) := by omega
  have c2 : (i : Int) < (l.length : Int) := by omega
  induction e with
  | zero =>
    intro k j acc hj hk hb
    obtain ⟨k, rfl⟩ : ∃ m, k = m + 1 := ⟨k - 1, by omega⟩
    have c3 : ¬ (j : Int) < (l[i].f1.size : Int) := by omega
    simp only [seneschalref03_Encode.l2]
    rw [if_pos c1, if_pos c2, rd33 l i hi, if_neg c3, w64 ((i : Int) + 1) (by omega) (by omega), hQ k acc (by omega) (by omega), List.drop_of_length_le (by rw [bytesOf_length]; omega), List.nil_append]
  | succ e ih =>
    intro k j acc hj hk hb
    obtain ⟨k, rfl⟩ : ∃ m, k = m + 1 := ⟨k - 1, by omega⟩
    have c3 : (j : Int) < (l[i].f1.size : Int) := by omega
    have c4 : (0 : Int) ≤ (j : Int) := by omega
    have c5 : acc.length < 140737488355328 := by omega
    have h := ih k (j + 1) (acc ++ [bt l[i].f1 j]) (by omega) (by omega) (by simp; omega)
    rw [show ((j + 1 : Nat) : Int) = (j : Int) + 1 by omega] at h
    simp only [seneschalref03_Encode.l2]
    rw [if_pos c1, if_pos c2, rd33 l i hi, if_pos c3, if_pos c4, if_pos c5, w64 ((j : Int) + 1) (by omega) (by omega), h, drop_step _ j (by omega), List.append_assoc]
    rfl
theorem renc_slots (a : Int) (l : List S33) (hl : l.length ≤ 32) (hf : ∀ x ∈ l, fineS x) (d : Nat) : ∀ (k i : Nat) (acc : List Int), i + d = l.length → 203 * d + 242 < k → acc.length + (slotsB (l.drop i)).length ≤ 240 →
    seneschalref03_Encode.l1 k acc i a l = some (strOfNums (padL (acc ++ slotsB (l.drop i))), 0) := by
  induction d with
  | zero =>
    intro k i acc hi hk hb
    obtain ⟨k, rfl⟩ : ∃ m, k = m + 1 := ⟨k - 1, by omega⟩
    have c1 : ¬ (i : Int) < (l.length : Int) := by omega
    simp only [seneschalref03_Encode.l1]
    rw [if_neg c1, List.drop_of_length_le (by omega)]
    rw [renc_pad (240 - acc.length) k acc (by omega) (by omega)]
    simp [slotsB]
  | succ d ih =>
    intro k i acc hi hk hb
    obtain ⟨k, rfl⟩ : ∃ m, k = m + 1 := ⟨k - 1, by omega⟩
    have hlt : i < l.length := by omega
    have c1 : (i : Int) < (l.length : Int) := by omega
    have c2 : (0 : Int) ≤ (i : Int) := by omega
    have c3 : acc.length < 140737488355328 := by omega
    have hx := hf l[i] (List.getElem_mem hlt)
    have e1 : ((i + 1 : Nat) : Int) = (i : Int) + 1 := by omega
    rw [List.drop_eq_getElem_cons hlt, slotsB_cons] at hb ⊢
    rw [List.length_append] at hb
    simp only [seneschalref03_Encode.l1]
    rw [if_pos c1, if_pos c2, rd33 l i hlt]
    cases hu : l[i].f0 with
    | false =>
      have hsb : slotB l[i] = [255] := by unfold slotB; simp [hu]
      rw [hsb] at hb ⊢
      have h := ih k (i + 1) (acc ++ [255]) (by omega) (by omega) (by simp at hb ⊢; omega)
      rw [e1] at h
      rw [if_neg Bool.false_ne_true, if_pos c3, w64 ((i : Int) + 1) (by omega) (by omega), h, List.append_assoc]
    | true =>
      have hsb : slotB l[i] = (l[i].f1.size : Int) :: bytesOf l[i].f1 := by unfold slotB; simp [hu]
      rw [hsb] at hb ⊢
      rw [List.length_cons, bytesOf_length] at hb
      have c4 : (l[i].f1.size : Int) % 256 = l[i].f1.size := by have := hx.2; omega
      rw [if_pos rfl, if_pos c3, c4]
      have h := renc_bytes a l hl i hlt hx.2 (203 * d + 242) (slotsB (l.drop (i + 1))) (fun k acc hk hb => by
        have := ih k (i + 1) acc (by omega) hk hb
        rwa [e1] at this) l[i].f1.size k 0 (acc ++ [(l[i].f1.size : Int)]) (by omega) (by have := hx.2; omega) (by simp at hb ⊢; omega)
      rw [Int.natCast_zero, List.drop_zero, List.append_assoc] at h
      exact h
theorem shr8 (a : Int) (i : Nat) (h : i ≤ 7) : shr .i64 a (8 * (i : Int)) = a / 2 ^ (8 * i) := by
  unfold shr
  have e : min (8 * (i : Int)).toNat IntKind.i64.bits = 8 * i := by
    have : IntKind.i64.bits = 64 := rfl
    omega
  rw [e]
theorem renc_head (a : Int) (l : List S33) (F : Nat) (r : Option (ByteArray × Int)) (hQ : ∀ k, F < k → seneschalref03_Encode.l1 k (hiL 8 a ++ [(l.length : Int) % 256]) 0 a l = r) (k : Nat) (hk : F + 9 < k) :
    seneschalref03_Encode.l0 k [] 56 a l = r := by
  have step : ∀ (d : Nat), d ≤ 8 → ∀ k acc, acc.length + d = 8 → F + d + 1 < k → acc = (hiL 8 a).take (8 - d) →
      seneschalref03_Encode.l0 k acc (8 * ((d : Int) - 1)) a l = r := by
    intro d
    induction d with
    | zero =>
      intro _ k acc hb hk he
      obtain ⟨k, rfl⟩ : ∃ m, k = m + 1 := ⟨k - 1, by omega⟩
      have c1 : ¬ (8 * (((0 : Nat) : Int) - 1) ≥ 0) := by omega
      have c2 : acc.length < 140737488355328 := by omega
      simp only [seneschalref03_Encode.l0]
      rw [if_neg c1, if_pos c2, he, Nat.sub_zero, List.take_of_length_le (by rw [hiL_length]; omega)]
      exact hQ k (by omega)
    | succ d ih =>
      intro hd k acc hb hk he
      obtain ⟨k, rfl⟩ : ∃ m, k = m + 1 := ⟨k - 1, by omega⟩
      have e1 : 8 * (((d + 1 : Nat) : Int) - 1) = 8 * (d : Int) := by omega
      have c1 : 8 * (d : Int) ≥ 0 := by omega
      have c2 : acc.length < 140737488355328 := by omega
      simp only [seneschalref03_Encode.l0]
      rw [e1, if_pos c1, if_pos c1, if_pos c2, shr8 a d (by omega), w64 (8 * (d : Int) - 8) (by omega) (by omega), show 8 * (d : Int) - 8 = 8 * ((d : Int) - 1) by omega]
      refine ih (by omega) k _ (by simp; omega) (by omega) ?_
      rw [he]
      have e2 : 8 - d = (8 - (d + 1)) + 1 := by omega
      rw [e2, List.take_succ_eq_append_getElem (by rw [hiL_length]; omega)]
      congr 2
      simp only [hiL, List.getElem_map, List.getElem_range]
      rw [show 8 - 1 - (8 - (d + 1)) = d by omega]
  have := step 8 (by omega) k [] rfl (by omega) rfl
  simpa using this
theorem enc_len {a : Int} {l : List S33} (hg : goodP a l = true) : (encL a l).length = rawSize l := by
  obtain ⟨_, _, _, h4, _, _⟩ := good_facts a l hg
  have := slotsB_length l h4 l.length (by omega)
  rw [List.drop_length, List.take_length] at this
  unfold encL rawSize
  rw [List.length_append, hiL_length, List.length_cons]
  simp only [sumS] at this
  omega
theorem renc_pure (a : Int) (l : List S33) (k : Nat) (hk : 7000 < k) : seneschalref03_Encode.f k a l = slab_Encode.f a l := by
  unfold seneschalref03_Encode.f slab_Encode.f refGood3.f
  rw [Option.bind_some]
  by_cases hg : goodP a l = true
  · rw [if_pos hg, if_pos hg]
    obtain ⟨h1, h2, h3, h4, _, h6⟩ := good_facts a l hg
    have hlen := enc_len hg
    have e : (l.length : Int) % 256 = l.length := by omega
    refine renc_head a l (203 * 32 + 242) _ (fun k hk => ?_) k (by omega)
    rw [e]
    have := renc_slots a l h3 ((any_fine l).mp h4) l.length k 0 (hiL 8 a ++ [(l.length : Int)]) (by omega) (by omega) (by
      unfold encL at hlen
      rw [List.drop_zero]
      simp at hlen ⊢
      omega)
    rw [Int.natCast_zero, List.drop_zero, List.append_assoc] at this
    exact this
  · rw [if_neg hg, if_neg hg]
def refEnc.f (a : Int) (l : List S33) : Option (ByteArray × Int) := slab_Encode.f a l
theorem refEnc.calls (a : Int) (A : Option Addr) (c : Nat) (l : List S33) (r1 : ByteArray) (r2 : Int) (w : World) (hr : Kd.C k33 w A l.length l) (hc : l.length ≤ c) (h : refEnc.f a l = some (r1, r2)) :
    Calls Try.prog 33 #[.agg #[.int .i64 a, .slice A l.length c]] w fun e w' => e = .returned (.tuple #[.string r1, .int .i64 r2]) ∧ Below w.heap.size w w' :=
  seneschalref03_Encode.calls 7001 a A c l r1 r2 w hr hc (by rw [renc_pure a l 7001 (by omega)]; exact h)
end Go.Proofs.Ytfjmnaobfbmllaa.M

namespace Go.Proofs.Ytfjmnaobfbmllaa.M
open Go.RowKit Go.Proofs.YtfjmnaobfbmllaaW.PrintWords Go.Proofs.YtfjmnaobfbmllaaW.PrintLast Go.Proofs.YtfjmnaobfbmllaaW.PrintMore
attribute [local go_sem] max2_int min2_int max_two min_two max_three min_three max_four min_four   -- for this text's walks alone
set_option linter.unusedVariables false
set_option linter.unusedSimpArgs false

/-! ### seneschallaw03_great: function 31 -/
def seneschallaw03_great.l0 : Nat → Int → Int → List (S33) → Option (Bool)
  | 0, _, _, _ => none
  | k + 1, x3, x102000, x102001 => if x3 < (x102001.length : Int) then (if 0 ≤ x3 then (if (((rd_T33 x102001 x3).f1).size : Int) > 4096 then (some true) else (seneschallaw03_great.l0 k (wrap64 (x3 + 1)) x102000 x102001)) else (none)) else (some false)
def seneschallaw03_great.f (k : Nat) (a0_0 : Int) (l0_1 : List (S33)) : Option (Bool) := if (l0_1.length : Int) > 100 then (some true) else (seneschallaw03_great.l0 k 0 a0_0 l0_1)
set_option maxHeartbeats 8000000 in
set_option maxRecDepth 100000 in
theorem seneschallaw03_great.calls (k : Nat) (a0_0 : Int) (A0_1 : Option Addr) (c0_1 : Nat) (l0_1 : List (S33)) (r : Bool) (w : World) (hr0_1 : Kd.C k33 w A0_1 l0_1.length l0_1) (hc0_1 : l0_1.length ≤ c0_1) (h : seneschallaw03_great.f k a0_0 l0_1 = some r) :
    Calls Try.prog 31 #[.agg #[.int .i64 a0_0, .slice A0_1 l0_1.length c0_1]] w fun e w' => e = .returned (.bool r) ∧ Below w.heap.size w w' := by
  have hu24 := Try.underlying24
  have HR0_1 := Aside0.mk hr0_1
  have HC0_1 := Aside0.mk hc0_1
  clear hr0_1 hc0_1
  have HB := Aside0.mk (Below.refl w.heap.size w)
  have H : (if (l0_1.length : Int) > 100 then (some true) else (seneschallaw03_great.l0 k 0 a0_0 l0_1)) = some r := h
  clear h
  by_cases c2 : (l0_1.length : Int) > 100
  · rw [if_pos c2] at H
    have c2b0 : decide (100 < (l0_1.length : Int)) = true := decide_eq_true c2
    have c2b1 : decide (100 < l0_1.length) = true := decide_eq_true (by omega)
    clear c2
    obtain rfl := Option.some.inj H
    go_enter Try.func31, Try.ntmps31
    go_wp2_with (first | ((with_reducible refine gate_dst (N := 1) rfl ?_); refine box_event ?hg (N := 1) ?hd (cs := #[.int .i64 a0_0, .slice A0_1 l0_1.length c0_1]) (t := 24) ?hr ?_; (case hd => rfl); (case hg => rfl); (case hr => first | (go_simp; done) | (go_simp; rfl)); intro gb101 hg w3 hbox hb; have n0_ := Aside0.mk (below_step (by repeat (first | (with_reducible first | exact HB.out | apply below_alloc | apply pw_below_drewN | apply below_drew1) | exact HB.out)) hb); have n1_ := Aside0.mk (hbox); have n2_ := Aside0.mk ((by rw [hg]; exact (below_size (by repeat (first | (with_reducible first | exact HB.out | apply below_alloc | apply pw_below_drewN | apply below_drew1) | exact HB.out))) : w.heap.size ≤ gb101)); have n3_ := Aside0.mk ((by rw [hg]; exact (below_size (by repeat (first | (with_reducible first | exact HB.out | apply below_alloc | apply pw_below_drewN | apply below_drew1) | exact HB.out))) : w.heap.size ≤ gb101)); clear HB; have HB := n0_; have BK101 := n1_; have GW101 := n2_; have GE101 := n3_; clear n0_ n1_ n2_ n3_; clear hb hbox hg; have hcz4_0 : w3.cell? ⟨gb101, 0, none⟩ = some (.int .i64 a0_0) := (blk_cell BK101.out 0).trans rfl; have hcz4_1 : w3.cell? ⟨gb101, 1, none⟩ = some (.slice A0_1 l0_1.length c0_1) := (blk_cell BK101.out 1).trans rfl; have hfz4_0 := blk_frozen BK101.out 0; have hfz4_1 := blk_frozen BK101.out 1))
    go_ret
    exact ⟨by first | rfl | (simp [errW_none, errW_some] <;> rfl) | (simp [*, errW_none, errW_some] <;> rfl), by repeat (first | (with_reducible first | exact HB.out | apply below_alloc | apply pw_below_drewN | apply below_drew1 | refine below_set ?_ GE101.out) | exact HB.out)⟩
  · rw [if_neg c2] at H
    have c2b0 : decide (100 < (l0_1.length : Int)) = false := decide_eq_false c2
    have c2b1 : decide (100 < l0_1.length) = false := decide_eq_false (by omega)
    clear c2
    have H' := Aside0.mk H
    clear H
    go_enter Try.func31, Try.ntmps31
    go_wp2_with (first | ((with_reducible refine gate_dst (N := 1) rfl ?_); refine box_event ?hg (N := 1) ?hd (cs := #[.int .i64 a0_0, .slice A0_1 l0_1.length c0_1]) (t := 24) ?hr ?_; (case hd => rfl); (case hg => rfl); (case hr => first | (go_simp; done) | (go_simp; rfl)); intro gb101 hg w5 hbox hb; have n0_ := Aside0.mk (below_step (by repeat (first | (with_reducible first | exact HB.out | apply below_alloc | apply pw_below_drewN | apply below_drew1) | exact HB.out)) hb); have n1_ := Aside0.mk (hbox); have n2_ := Aside0.mk ((by rw [hg]; exact (below_size (by repeat (first | (with_reducible first | exact HB.out | apply below_alloc | apply pw_below_drewN | apply below_drew1) | exact HB.out))) : w.heap.size ≤ gb101)); have n3_ := Aside0.mk ((by rw [hg]; exact (below_size (by repeat (first | (with_reducible first | exact HB.out | apply below_alloc | apply pw_below_drewN | apply below_drew1) | exact HB.out))) : w.heap.size ≤ gb101)); clear HB; have HB := n0_; have BK101 := n1_; have GW101 := n2_; have GE101 := n3_; clear n0_ n1_ n2_ n3_; clear hb hbox hg; have hcz6_0 : w5.cell? ⟨gb101, 0, none⟩ = some (.int .i64 a0_0) := (blk_cell BK101.out 0).trans rfl; have hcz6_1 : w5.cell? ⟨gb101, 1, none⟩ = some (.slice A0_1 l0_1.length c0_1) := (blk_cell BK101.out 1).trans rfl; have hfz6_0 := blk_frozen BK101.out 0; have hfz6_1 := blk_frozen BK101.out 1))
    go_loopg [3] k (fun kq v3 w' => ∃ (x3_1 : Int), v3 = .int .i64 x3_1 ∧ Aside0 (seneschallaw03_great.l0 kq x3_1 a0_0 l0_1 = some r) ∧ Aside0 (kq ≤ k) ∧ Aside0 (w'.heap[gb101]? = some (.cells #[.int .i64 a0_0, (.slice A0_1 l0_1.length c0_1)] 24 (0, 0))) ∧ Aside0 (Below w.heap.size w w'))
    case atStart => exact ⟨(0), (by first | rfl | (simp; done) | (simp [*]; done)), H', ⟨Nat.le_refl _⟩, ⟨by (with_reducible repeat (first | refine blk_drewN ?_ _ | refine blk_drew ?_ | refine blk_alloc ?_ _)); exact BK101.out⟩, ⟨by repeat (first | (with_reducible first | exact HB.out | apply below_alloc | apply pw_below_drewN | apply below_drew1 | refine below_set ?_ GE101.out) | exact HB.out)⟩⟩
    case round =>
      clear H'
      try clear c2
      try clear c2b0
      try clear c2b1
      try clear p2
      try clear c3
      try clear hcz4_0
      try clear hcz4_1
      try clear hcz6_0
      try clear hcz6_1
      try clear hfz4_0
      try clear hfz4_1
      try clear hfz6_0
      try clear hfz6_1
      obtain ⟨x3_1, rfl, HA, HK1, BK101, HB⟩ := hrel
      cases gk with
      | zero => exact absurd HA.out (by simp [seneschallaw03_great.l0])
      | succ k1 =>
        have H := HA.out
        clear HA
        simp only [seneschallaw03_great.l0] at H
        by_cases c7 : x3_1 < (l0_1.length : Int)
        · rw [if_pos c7] at H
          have c7b0 : decide (x3_1 < (l0_1.length : Int)) = true := decide_eq_true c7
          clear c7
          by_cases c8 : 0 ≤ x3_1
          · rw [if_pos c8] at H
            have c8b0 : decide (0 ≤ x3_1) = true := decide_eq_true c8
            clear c8
            by_cases c9 : (((rd_T33 l0_1 x3_1).f1).size : Int) > 4096
            · rw [if_pos c9] at H
              have c9b0 : decide (4096 < (((rd_T33 l0_1 x3_1).f1).size : Int)) = true := decide_eq_true c9
              have c9b1 : decide (4096 < ((rd_T33 l0_1 x3_1).f1).size) = true := decide_eq_true (by omega)
              clear c9
              obtain rfl := Option.some.inj H
              have hcz10_0 : wr.cell? ⟨gb101, 0, none⟩ = some (.int .i64 a0_0) := (blk_cell BK101.out 0).trans rfl
              have hcz10_1 : wr.cell? ⟨gb101, 1, none⟩ = some (.slice A0_1 l0_1.length c0_1) := (blk_cell BK101.out 1).trans rfl
              have hfz10_0 := blk_frozen BK101.out 0
              have hfz10_1 := blk_frozen BK101.out 1
              have p102 : 0 ≤ (x3_1 : Int) := of_decide_eq_true (by first | (with_reducible assumption) | assumption)
              have q102 : x3_1 < (l0_1.length : Int) := of_decide_eq_true (by first | (with_reducible assumption) | assumption)
              obtain ⟨ad102, e102, hx102_0, hx102_1⟩ := at_T33 HR0_1.out x3_1 p102 q102
              cases e102
              replace hx102_0 := (HB.out.cell (World.block_lt_of_cell? w _ hx102_0)).trans hx102_0
              replace hx102_1 := (HB.out.cell (World.block_lt_of_cell? w _ hx102_1)).trans hx102_1
              replace p102 := eq_true p102
              replace q102 := eq_true q102
              go_wp2
              go_ret
              exact ⟨by first | rfl | (simp [errW_none, errW_some] <;> rfl) | (simp [*, errW_none, errW_some] <;> rfl), by repeat (first | (with_reducible first | exact HB.out | apply below_alloc | apply pw_below_drewN | apply below_drew1 | refine below_set ?_ GE101.out) | exact HB.out)⟩
            · rw [if_neg c9] at H
              have c9b0 : decide (4096 < (((rd_T33 l0_1 x3_1).f1).size : Int)) = false := decide_eq_false c9
              have c9b1 : decide (4096 < ((rd_T33 l0_1 x3_1).f1).size) = false := decide_eq_false (by omega)
              clear c9
              have H' := Aside0.mk H
              clear H
              have hcz11_0 : wr.cell? ⟨gb101, 0, none⟩ = some (.int .i64 a0_0) := (blk_cell BK101.out 0).trans rfl
              have hcz11_1 : wr.cell? ⟨gb101, 1, none⟩ = some (.slice A0_1 l0_1.length c0_1) := (blk_cell BK101.out 1).trans rfl
              have hfz11_0 := blk_frozen BK101.out 0
              have hfz11_1 := blk_frozen BK101.out 1
              have p102 : 0 ≤ (x3_1 : Int) := of_decide_eq_true (by first | (with_reducible assumption) | assumption)
              have q102 : x3_1 < (l0_1.length : Int) := of_decide_eq_true (by first | (with_reducible assumption) | assumption)
              obtain ⟨ad102, e102, hx102_0, hx102_1⟩ := at_T33 HR0_1.out x3_1 p102 q102
              cases e102
              replace hx102_0 := (HB.out.cell (World.block_lt_of_cell? w _ hx102_0)).trans hx102_0
              replace hx102_1 := (HB.out.cell (World.block_lt_of_cell? w _ hx102_1)).trans hx102_1
              replace p102 := eq_true p102
              replace q102 := eq_true q102
              go_wp2
              go_roundg k1
              case measure => have := HK1.out; omega
              case rel => exact ⟨(wrap64 (x3_1 + 1)), (by first | rfl | (simp; done) | (simp [*]; done)), H', ⟨by have := HK1.out; omega⟩, ⟨by (with_reducible repeat (first | refine blk_drewN ?_ _ | refine blk_drew ?_ | refine blk_alloc ?_ _)); exact BK101.out⟩, ⟨by repeat (first | (with_reducible first | exact HB.out | apply below_alloc | apply pw_below_drewN | apply below_drew1 | refine below_set ?_ GE101.out) | exact HB.out)⟩⟩
          · rw [if_neg c8] at H
            exact absurd H (by simp)
        · rw [if_neg c7] at H
          have c7b0 : decide (x3_1 < (l0_1.length : Int)) = false := decide_eq_false c7
          clear c7
          obtain rfl := Option.some.inj H
          have hcz12_0 : wr.cell? ⟨gb101, 0, none⟩ = some (.int .i64 a0_0) := (blk_cell BK101.out 0).trans rfl
          have hcz12_1 : wr.cell? ⟨gb101, 1, none⟩ = some (.slice A0_1 l0_1.length c0_1) := (blk_cell BK101.out 1).trans rfl
          have hfz12_0 := blk_frozen BK101.out 0
          have hfz12_1 := blk_frozen BK101.out 1
          go_wp2
          go_ret
          exact ⟨by first | rfl | (simp [errW_none, errW_some] <;> rfl) | (simp [*, errW_none, errW_some] <;> rfl), by repeat (first | (with_reducible first | exact HB.out | apply below_alloc | apply pw_below_drewN | apply below_drew1 | refine below_set ?_ GE101.out) | exact HB.out)⟩

end Go.Proofs.Ytfjmnaobfbmllaa.M

namespace Go.Proofs.Ytfjmnaobfbmllaa.M
open Go.RowKit Go.Proofs.YtfjmnaobfbmllaaW.PrintWords Go.Proofs.YtfjmnaobfbmllaaW.PrintLast Go.Proofs.YtfjmnaobfbmllaaW.PrintMore
attribute [local go_sem] max2_int min2_int max_two min_two max_three min_three max_four min_four   -- for this text's walks alone
set_option linter.unusedVariables false
set_option linter.unusedSimpArgs false

/-! ### slab_Size: function 36 -/
def slab_Size.f (a0_0 : Int) (l0_1 : List (S33)) : Option (Int) := (slabGood.f a0_0 l0_1).bind fun t102 => (if t102 = true then ((slabSize0.f l0_1).bind fun t103 => (some t103)) else (some 0))
set_option maxHeartbeats 8000000 in
set_option maxRecDepth 100000 in
theorem slab_Size.calls (a0_0 : Int) (A0_1 : Option Addr) (c0_1 : Nat) (l0_1 : List (S33)) (r : Int) (w : World) (hr0_1 : Kd.C k33 w A0_1 l0_1.length l0_1) (hc0_1 : l0_1.length ≤ c0_1) (h : slab_Size.f a0_0 l0_1 = some r) :
    Calls Try.prog 36 #[.agg #[.int .i64 a0_0, .slice A0_1 l0_1.length c0_1]] w fun e w' => e = .returned (.int .i64 r) ∧ Below w.heap.size w w' := by
  have hu24 := Try.underlying24
  have HR0_1 := Aside0.mk hr0_1
  have HC0_1 := Aside0.mk hc0_1
  clear hr0_1 hc0_1
  have HB := Aside0.mk (Below.refl w.heap.size w)
  have H : ((slabGood.f a0_0 l0_1).bind fun t102 => (if t102 = true then ((slabSize0.f l0_1).bind fun t103 => (some t103)) else (some 0))) = some r := h
  clear h
  replace H := Option.bind_eq_some_iff.mp H
  obtain ⟨t102, A20, H⟩ := H
  replace H : (if t102 = true then ((slabSize0.f l0_1).bind fun t103 => (some t103)) else (some 0)) = some r := H
  have A2 := Aside0.mk A20
  clear A20
  by_cases c3 : t102 = true
  · subst c3
    have H1 : ((slabSize0.f l0_1).bind fun t103 => (some t103)) = some r := by rw [if_pos rfl] at H; exact H
    clear H
    have H := H1
    clear H1
    replace H := Option.bind_eq_some_iff.mp H
    obtain ⟨t103, A40, H⟩ := H
    replace H : (some t103) = some r := H
    have A4 := Aside0.mk A40
    clear A40
    obtain rfl := Option.some.inj H
    go_enter Try.func36, Try.ntmps36
    go_wp2_with (first | ((with_reducible refine gate_dst (N := 1) rfl ?_); refine box_event ?hg (N := 1) ?hd (cs := #[.int .i64 a0_0, .slice A0_1 l0_1.length c0_1]) (t := 24) ?hr ?_; (case hd => rfl); (case hg => rfl); (case hr => first | (go_simp; done) | (go_simp; rfl)); intro gb101 hg w5 hbox hb; have n0_ := Aside0.mk (below_step (by repeat (first | (with_reducible first | exact HB.out | apply below_alloc | apply pw_below_drewN | apply below_drew1) | exact HB.out)) hb); have n1_ := Aside0.mk (hbox); have n2_ := Aside0.mk ((by rw [hg]; exact (below_size (by repeat (first | (with_reducible first | exact HB.out | apply below_alloc | apply pw_below_drewN | apply below_drew1) | exact HB.out))) : w.heap.size ≤ gb101)); have n3_ := Aside0.mk ((by rw [hg]; exact (below_size (by repeat (first | (with_reducible first | exact HB.out | apply below_alloc | apply pw_below_drewN | apply below_drew1) | exact HB.out))) : w.heap.size ≤ gb101)); clear HB; have HB := n0_; have BK101 := n1_; have GW101 := n2_; have GE101 := n3_; clear n0_ n1_ n2_ n3_; clear hb hbox hg; have hcz6_0 : w5.cell? ⟨gb101, 0, none⟩ = some (.int .i64 a0_0) := (blk_cell BK101.out 0).trans rfl; have hcz6_1 : w5.cell? ⟨gb101, 1, none⟩ = some (.slice A0_1 l0_1.length c0_1) := (blk_cell BK101.out 1).trans rfl; have hfz6_0 := blk_frozen BK101.out 0; have hfz6_1 := blk_frozen BK101.out 1) | ((with_reducible refine gate_callee (f := 34) rfl ?_); refine goesL_ (some 4) rfl rfl Try.func34 (by kernel_rfl) rfl #[.agg #[.int .i64 a0_0, .slice A0_1 l0_1.length c0_1]] rfl (by (try simp only [List.map_toArray, List.map_cons, List.map_nil]); first | done | rfl | (simp only [List.length_drop, List.length_take]; rfl)) ?_; (with_reducible refine (slabGood.calls a0_0 _ _ l0_1 true _ ?side1 ?side2 A2.out).mono ?_); (case side1 => repeat (first | exact (Kd.C_below HR0_1.out HB.out) | (with_reducible refine Kd.C_alloc ?_ _) | (with_reducible refine Kd.C_drewN ?_ _) | (with_reducible refine Kd.C_drew ?_))); (case side2 => exact HC0_1.out); rintro e w7 ⟨rfl, hb⟩; refine ⟨_, rfl, ?_⟩; have n0_ := Aside0.mk (blk_below (g := gb101) (o := .cells #[.int .i64 a0_0, .slice A0_1 l0_1.length c0_1] 24 (0, 0)) (by (with_reducible repeat (first | refine blk_drewN ?_ _ | refine blk_drew ?_ | refine blk_alloc ?_ _)); exact BK101.out) hb); have n1_ := Aside0.mk (below_step (by repeat (first | (with_reducible first | exact HB.out | apply below_alloc | apply pw_below_drewN | apply below_drew1 | refine below_set ?_ GE101.out) | exact HB.out)) hb); clear BK101; clear HB; have BK101 := n0_; have HB := n1_; clear n0_ n1_; (try clear hb); (try clear hb2); (try clear hk); (try clear hi); have hcz8_0 : w7.cell? ⟨gb101, 0, none⟩ = some (.int .i64 a0_0) := (blk_cell BK101.out 0).trans rfl; have hcz8_1 : w7.cell? ⟨gb101, 1, none⟩ = some (.slice A0_1 l0_1.length c0_1) := (blk_cell BK101.out 1).trans rfl; have hfz8_0 := blk_frozen BK101.out 0; have hfz8_1 := blk_frozen BK101.out 1) | ((with_reducible refine gate_callee (f := 81) rfl ?_); refine goesL_ (some 8) rfl rfl Try.func81 (by kernel_rfl) rfl #[.slice A0_1 l0_1.length c0_1] rfl (by (try simp only [List.map_toArray, List.map_cons, List.map_nil]); first | done | rfl | (simp only [List.length_drop, List.length_take]; rfl)) ?_; (with_reducible refine (slabSize0.calls _ _ l0_1 t103 _ ?side1 ?side2 A4.out).mono ?_); (case side1 => repeat (first | exact (Kd.C_below HR0_1.out HB.out) | (with_reducible refine Kd.C_alloc ?_ _) | (with_reducible refine Kd.C_drewN ?_ _) | (with_reducible refine Kd.C_drew ?_))); (case side2 => exact HC0_1.out); rintro e w9 ⟨rfl, hb⟩; refine ⟨_, rfl, ?_⟩; have n0_ := Aside0.mk (blk_below (g := gb101) (o := .cells #[.int .i64 a0_0, .slice A0_1 l0_1.length c0_1] 24 (0, 0)) (by (with_reducible repeat (first | refine blk_drewN ?_ _ | refine blk_drew ?_ | refine blk_alloc ?_ _)); exact BK101.out) hb); have n1_ := Aside0.mk (below_step (by repeat (first | (with_reducible first | exact HB.out | apply below_alloc | apply pw_below_drewN | apply below_drew1 | refine below_set ?_ GE101.out) | exact HB.out)) hb); clear BK101; clear HB; have BK101 := n0_; have HB := n1_; clear n0_ n1_; (try clear hb); (try clear hb2); (try clear hk); (try clear hi)))
    go_ret
    exact ⟨by first | rfl | (simp [errW_none, errW_some] <;> rfl) | (simp [*, errW_none, errW_some] <;> rfl), by repeat (first | (with_reducible first | exact HB.out | apply below_alloc | apply pw_below_drewN | apply below_drew1 | refine below_set ?_ GE101.out) | exact HB.out)⟩
  · replace c3 := Bool.eq_false_iff.mpr c3
    subst c3
    have H1 : (some 0) = some r := by rw [if_neg (show ¬ (false = true) by decide)] at H; exact H
    clear H
    have H := H1
    clear H1
    obtain rfl := Option.some.inj H
    go_enter Try.func36, Try.ntmps36
    go_wp2_with (first | ((with_reducible refine gate_dst (N := 1) rfl ?_); refine box_event ?hg (N := 1) ?hd (cs := #[.int .i64 a0_0, .slice A0_1 l0_1.length c0_1]) (t := 24) ?hr ?_; (case hd => rfl); (case hg => rfl); (case hr => first | (go_simp; done) | (go_simp; rfl)); intro gb101 hg w10 hbox hb; have n0_ := Aside0.mk (below_step (by repeat (first | (with_reducible first | exact HB.out | apply below_alloc | apply pw_below_drewN | apply below_drew1) | exact HB.out)) hb); have n1_ := Aside0.mk (hbox); have n2_ := Aside0.mk ((by rw [hg]; exact (below_size (by repeat (first | (with_reducible first | exact HB.out | apply below_alloc | apply pw_below_drewN | apply below_drew1) | exact HB.out))) : w.heap.size ≤ gb101)); have n3_ := Aside0.mk ((by rw [hg]; exact (below_size (by repeat (first | (with_reducible first | exact HB.out | apply below_alloc | apply pw_below_drewN | apply below_drew1) | exact HB.out))) : w.heap.size ≤ gb101)); clear HB; have HB := n0_; have BK101 := n1_; have GW101 := n2_; have GE101 := n3_; clear n0_ n1_ n2_ n3_; clear hb hbox hg; have hcz11_0 : w10.cell? ⟨gb101, 0, none⟩ = some (.int .i64 a0_0) := (blk_cell BK101.out 0).trans rfl; have hcz11_1 : w10.cell? ⟨gb101, 1, none⟩ = some (.slice A0_1 l0_1.length c0_1) := (blk_cell BK101.out 1).trans rfl; have hfz11_0 := blk_frozen BK101.out 0; have hfz11_1 := blk_frozen BK101.out 1) | ((with_reducible refine gate_callee (f := 34) rfl ?_); refine goesL_ (some 4) rfl rfl Try.func34 (by kernel_rfl) rfl #[.agg #[.int .i64 a0_0, .slice A0_1 l0_1.length c0_1]] rfl (by (try simp only [List.map_toArray, List.map_cons, List.map_nil]); first | done | rfl | (simp only [List.length_drop, List.length_take]; rfl)) ?_; (with_reducible refine (slabGood.calls a0_0 _ _ l0_1 false _ ?side1 ?side2 A2.out).mono ?_); (case side1 => repeat (first | exact (Kd.C_below HR0_1.out HB.out) | (with_reducible refine Kd.C_alloc ?_ _) | (with_reducible refine Kd.C_drewN ?_ _) | (with_reducible refine Kd.C_drew ?_))); (case side2 => exact HC0_1.out); rintro e w12 ⟨rfl, hb⟩; refine ⟨_, rfl, ?_⟩; have n0_ := Aside0.mk (blk_below (g := gb101) (o := .cells #[.int .i64 a0_0, .slice A0_1 l0_1.length c0_1] 24 (0, 0)) (by (with_reducible repeat (first | refine blk_drewN ?_ _ | refine blk_drew ?_ | refine blk_alloc ?_ _)); exact BK101.out) hb); have n1_ := Aside0.mk (below_step (by repeat (first | (with_reducible first | exact HB.out | apply below_alloc | apply pw_below_drewN | apply below_drew1 | refine below_set ?_ GE101.out) | exact HB.out)) hb); clear BK101; clear HB; have BK101 := n0_; have HB := n1_; clear n0_ n1_; (try clear hb); (try clear hb2); (try clear hk); (try clear hi)))
    go_ret
    exact ⟨by first | rfl | (simp [errW_none, errW_some] <;> rfl) | (simp [*, errW_none, errW_some] <;> rfl), by repeat (first | (with_reducible first | exact HB.out | apply below_alloc | apply pw_below_drewN | apply below_drew1 | refine below_set ?_ GE101.out) | exact HB.out)⟩

end Go.Proofs.Ytfjmnaobfbmllaa.M

namespace Go.Proofs.Ytfjmnaobfbmllaa.M
open Go.RowKit Go.Proofs.YtfjmnaobfbmllaaW.PrintWords Go.Proofs.YtfjmnaobfbmllaaW.PrintLast Go.Proofs.YtfjmnaobfbmllaaW.PrintMore
attribute [local go_sem] max2_int min2_int max_two min_two max_three min_three max_four min_four   -- for this text's walks alone
set_option linter.unusedVariables false
set_option linter.unusedSimpArgs false

/-! ### slab_At: function 39 -/
def slab_At.f (a0_0 : Int) (l0_1 : List (S33)) (a1 : Int) : Option (Bool × ByteArray) := (slabGood.f a0_0 l0_1).bind fun t103 => (if t103 = true then (if a1 < 0 then (some (false, (⟨#[]⟩ : ByteArray))) else (if a1 ≥ (l0_1.length : Int) then (some (false, (⟨#[]⟩ : ByteArray))) else (if 0 ≤ a1 then (if a1 < (l0_1.length : Int) then (some ((rd_T33 l0_1 a1).f0, (rd_T33 l0_1 a1).f1)) else (none)) else (none)))) else (some (false, (⟨#[]⟩ : ByteArray))))
set_option maxHeartbeats 8000000 in
set_option maxRecDepth 100000 in
theorem slab_At.calls (a0_0 : Int) (A0_1 : Option Addr) (c0_1 : Nat) (l0_1 : List (S33)) (a1 : Int) (r1 : Bool) (r2 : ByteArray) (w : World) (hr0_1 : Kd.C k33 w A0_1 l0_1.length l0_1) (hc0_1 : l0_1.length ≤ c0_1) (h : slab_At.f a0_0 l0_1 a1 = some (r1, r2)) :
    Calls Try.prog 39 #[.agg #[.int .i64 a0_0, .slice A0_1 l0_1.length c0_1], .int .i64 a1] w fun e w' => e = .returned (.agg #[.bool r1, .string r2]) ∧ Below w.heap.size w w' := by
  have hu24 := Try.underlying24
  have hu33 := Try.underlying33
  have HR0_1 := Aside0.mk hr0_1
  have HC0_1 := Aside0.mk hc0_1
  clear hr0_1 hc0_1
  have HB := Aside0.mk (Below.refl w.heap.size w)
  have H : ((slabGood.f a0_0 l0_1).bind fun t103 => (if t103 = true then (if a1 < 0 then (some (false, (⟨#[]⟩ : ByteArray))) else (if a1 ≥ (l0_1.length : Int) then (some (false, (⟨#[]⟩ : ByteArray))) else (if 0 ≤ a1 then (if a1 < (l0_1.length : Int) then (some ((rd_T33 l0_1 a1).f0, (rd_T33 l0_1 a1).f1)) else (none)) else (none)))) else (some (false, (⟨#[]⟩ : ByteArray))))) = some (r1, r2) := h
  clear h
  replace H := Option.bind_eq_some_iff.mp H
  obtain ⟨t103, A30, H⟩ := H
  replace H : (if t103 = true then (if a1 < 0 then (some (false, (⟨#[]⟩ : ByteArray))) else (if a1 ≥ (l0_1.length : Int) then (some (false, (⟨#[]⟩ : ByteArray))) else (if 0 ≤ a1 then (if a1 < (l0_1.length : Int) then (some ((rd_T33 l0_1 a1).f0, (rd_T33 l0_1 a1).f1)) else (none)) else (none)))) else (some (false, (⟨#[]⟩ : ByteArray)))) = some (r1, r2) := H
  have A3 := Aside0.mk A30
  clear A30
  by_cases c4 : t103 = true
  · subst c4
    have H1 : (if a1 < 0 then (some (false, (⟨#[]⟩ : ByteArray))) else (if a1 ≥ (l0_1.length : Int) then (some (false, (⟨#[]⟩ : ByteArray))) else (if 0 ≤ a1 then (if a1 < (l0_1.length : Int) then (some ((rd_T33 l0_1 a1).f0, (rd_T33 l0_1 a1).f1)) else (none)) else (none)))) = some (r1, r2) := by rw [if_pos rfl] at H; exact H
    clear H
    have H := H1
    clear H1
    by_cases c5 : a1 < 0
    · rw [if_pos c5] at H
      have c5b0 : decide (a1 < 0) = true := decide_eq_true c5
      clear c5
      simp only [Option.some.injEq, Prod.mk.injEq] at H
      obtain ⟨rfl, rfl⟩ := H
      go_enter Try.func39, Try.ntmps39
      go_wp2_with (first | ((with_reducible refine gate_dst (N := 2) rfl ?_); (try (refine gate_guard (by rfl) ?_; dsimp only)); refine box_event ?hg (N := 2) ?hd (cs := #[.int .i64 a0_0, .slice A0_1 l0_1.length c0_1]) (t := 24) ?hr ?_; (case hd => rfl); (case hg => rfl); (case hr => first | (go_simp; done) | (go_simp; rfl)); intro gb101 hg w6 hbox hb; have n0_ := Aside0.mk (below_step (by repeat (first | (with_reducible first | exact HB.out | apply below_alloc | apply pw_below_drewN | apply below_drew1) | exact HB.out)) hb); have n1_ := Aside0.mk (hbox); have n2_ := Aside0.mk ((by rw [hg]; exact (below_size (by repeat (first | (with_reducible first | exact HB.out | apply below_alloc | apply pw_below_drewN | apply below_drew1) | exact HB.out))) : w.heap.size ≤ gb101)); have n3_ := Aside0.mk ((by rw [hg]; exact (below_size (by repeat (first | (with_reducible first | exact HB.out | apply below_alloc | apply pw_below_drewN | apply below_drew1) | exact HB.out))) : w.heap.size ≤ gb101)); clear HB; have HB := n0_; have BK101 := n1_; have GW101 := n2_; have GE101 := n3_; clear n0_ n1_ n2_ n3_; clear hb hbox hg) | ((with_reducible refine gate_dst (N := 4) rfl ?_); (try (refine gate_guard (by rfl) ?_; dsimp only)); refine box_event ?hg (N := 4) ?hd (cs := #[.bool false, .string (⟨#[]⟩ : ByteArray)]) (t := 33) ?hr ?_; (case hd => rfl); (case hg => rfl); (case hr => first | (go_simp; done) | (go_simp; rfl)); intro gb102 hg w7 hbox hb; have n0_ := Aside0.mk (blk_below (g := gb101) (o := .cells #[.int .i64 a0_0, .slice A0_1 l0_1.length c0_1] 24 (0, 0)) (by (with_reducible repeat (first | refine blk_drewN ?_ _ | refine blk_drew ?_ | refine blk_alloc ?_ _)); exact BK101.out) hb); have n1_ := Aside0.mk (below_step (by repeat (first | (with_reducible first | exact HB.out | apply below_alloc | apply pw_below_drewN | apply below_drew1 | refine below_set ?_ GE101.out) | exact HB.out)) hb); have n2_ := Aside0.mk (hbox); have n3_ := Aside0.mk ((by rw [hg]; exact (below_size (by repeat (first | (with_reducible first | exact HB.out | apply below_alloc | apply pw_below_drewN | apply below_drew1 | refine below_set ?_ GE101.out) | exact HB.out))) : w.heap.size ≤ gb102)); have n4_ := Aside0.mk ((by rw [hg]; exact (below_size (by repeat (first | (with_reducible first | exact HB.out | apply below_alloc | apply pw_below_drewN | apply below_drew1 | refine below_set ?_ GE101.out) | exact HB.out))) : w.heap.size ≤ gb102)); have n5_ := Aside0.mk ((by rw [hg]; exact Nat.ne_of_lt (blk_lt (g := gb101) (o := .cells #[.int .i64 a0_0, .slice A0_1 l0_1.length c0_1] 24 (0, 0)) (by (with_reducible repeat (first | refine blk_drewN ?_ _ | refine blk_drew ?_ | refine blk_alloc ?_ _)); exact BK101.out)) : gb101 ≠ gb102)); have n6_ := Aside0.mk ((by rw [hg]; exact Nat.ne_of_gt (blk_lt (g := gb101) (o := .cells #[.int .i64 a0_0, .slice A0_1 l0_1.length c0_1] 24 (0, 0)) (by (with_reducible repeat (first | refine blk_drewN ?_ _ | refine blk_drew ?_ | refine blk_alloc ?_ _)); exact BK101.out)) : gb102 ≠ gb101)); clear BK101; clear HB; have BK101 := n0_; have HB := n1_; have BK102 := n2_; have GW102 := n3_; have GE102 := n4_; have NB101_102 := n5_; have NB102_101 := n6_; clear n0_ n1_ n2_ n3_ n4_ n5_ n6_; clear hb hbox hg; have hnb8 := NB101_102.out; have hnc8 := NB102_101.out; have hcz9_0 : w7.cell? ⟨gb101, 0, none⟩ = some (.int .i64 a0_0) := (blk_cell BK101.out 0).trans rfl; have hcz9_1 : w7.cell? ⟨gb101, 1, none⟩ = some (.slice A0_1 l0_1.length c0_1) := (blk_cell BK101.out 1).trans rfl; have hfz9_0 := blk_frozen BK101.out 0; have hfz9_1 := blk_frozen BK101.out 1) | ((with_reducible refine gate_callee (f := 34) rfl ?_); refine goesL_ (some 6) rfl rfl Try.func34 (by kernel_rfl) rfl #[.agg #[.int .i64 a0_0, .slice A0_1 l0_1.length c0_1]] rfl (by (try simp only [List.map_toArray, List.map_cons, List.map_nil]); first | done | rfl | (simp only [List.length_drop, List.length_take]; rfl)) ?_; (with_reducible refine (slabGood.calls a0_0 _ _ l0_1 true _ ?side1 ?side2 A3.out).mono ?_); (case side1 => repeat (first | exact (Kd.C_below HR0_1.out HB.out) | (with_reducible refine Kd.C_alloc ?_ _) | (with_reducible refine Kd.C_drewN ?_ _) | (with_reducible refine Kd.C_drew ?_))); (case side2 => exact HC0_1.out); rintro e w10 ⟨rfl, hb⟩; refine ⟨_, rfl, ?_⟩; have n0_ := Aside0.mk (blk_below (g := gb101) (o := .cells #[.int .i64 a0_0, .slice A0_1 l0_1.length c0_1] 24 (0, 0)) (by (with_reducible repeat (first | refine blk_drewN ?_ _ | refine blk_drew ?_ | refine blk_alloc ?_ _)); exact BK101.out) hb); have n1_ := Aside0.mk (blk_below (g := gb102) (o := .cells #[.bool false, .string (⟨#[]⟩ : ByteArray)] 33 (0, 0)) (by (with_reducible repeat (first | refine blk_drewN ?_ _ | refine blk_drew ?_ | refine blk_alloc ?_ _)); exact BK102.out) hb); have n2_ := Aside0.mk (below_step (by repeat (first | (with_reducible first | exact HB.out | apply below_alloc | apply pw_below_drewN | apply below_drew1 | refine below_set ?_ GE101.out | refine below_set ?_ GE102.out) | exact HB.out)) hb); clear BK101; clear BK102; clear HB; have BK101 := n0_; have BK102 := n1_; have HB := n2_; clear n0_ n1_ n2_; (try clear hb); (try clear hb2); (try clear hk); (try clear hi); have hcz11_0 : w10.cell? ⟨gb102, 0, none⟩ = some (.bool false) := (blk_cell BK102.out 0).trans rfl; have hcz11_1 : w10.cell? ⟨gb102, 1, none⟩ = some (.string (⟨#[]⟩ : ByteArray)) := (blk_cell BK102.out 1).trans rfl; have hfz11_0 := blk_frozen BK102.out 0; have hfz11_1 := blk_frozen BK102.out 1))
      refine bodyPost_ret (results_cell_row rfl _ _ gb102 33 #[.bool false, .string (⟨#[]⟩ : ByteArray)] (0, 0) _ rfl (by (with_reducible repeat (first | refine blk_drewN ?_ _ | refine blk_drew ?_ | refine blk_alloc ?_ _)); refine blk_put (cs := #[.bool false, .string (⟨#[]⟩ : ByteArray)]) ?_ 1 _ rfl; (with_reducible repeat (first | refine blk_drewN ?_ _ | refine blk_drew ?_ | refine blk_alloc ?_ _)); refine blk_put (cs := #[.bool false, .string (⟨#[]⟩ : ByteArray)]) ?_ 0 _ rfl; (with_reducible repeat (first | refine blk_drewN ?_ _ | refine blk_drew ?_ | refine blk_alloc ?_ _)); exact BK102.out) Try.underlying33 rfl (by kernel_rfl)) rfl ?_
      exact ⟨by first | rfl | (simp [errW_none, errW_some] <;> rfl) | (simp [*, errW_none, errW_some] <;> rfl), by repeat (first | (with_reducible first | exact HB.out | apply below_alloc | apply pw_below_drewN | apply below_drew1 | refine below_set ?_ GE101.out | refine below_set ?_ GE102.out) | exact HB.out)⟩
    · rw [if_neg c5] at H
      have c5b0 : decide (a1 < 0) = false := decide_eq_false c5
      clear c5
      by_cases c12 : a1 ≥ (l0_1.length : Int)
      · rw [if_pos c12] at H
        have c12b0 : decide ((l0_1.length : Int) ≤ a1) = true := decide_eq_true c12
        clear c12
        simp only [Option.some.injEq, Prod.mk.injEq] at H
        obtain ⟨rfl, rfl⟩ := H
        go_enter Try.func39, Try.ntmps39
        go_wp2_with (first | ((with_reducible refine gate_dst (N := 2) rfl ?_); (try (refine gate_guard (by rfl) ?_; dsimp only)); refine box_event ?hg (N := 2) ?hd (cs := #[.int .i64 a0_0, .slice A0_1 l0_1.length c0_1]) (t := 24) ?hr ?_; (case hd => rfl); (case hg => rfl); (case hr => first | (go_simp; done) | (go_simp; rfl)); intro gb101 hg w13 hbox hb; have n0_ := Aside0.mk (below_step (by repeat (first | (with_reducible first | exact HB.out | apply below_alloc | apply pw_below_drewN | apply below_drew1) | exact HB.out)) hb); have n1_ := Aside0.mk (hbox); have n2_ := Aside0.mk ((by rw [hg]; exact (below_size (by repeat (first | (with_reducible first | exact HB.out | apply below_alloc | apply pw_below_drewN | apply below_drew1) | exact HB.out))) : w.heap.size ≤ gb101)); have n3_ := Aside0.mk ((by rw [hg]; exact (below_size (by repeat (first | (with_reducible first | exact HB.out | apply below_alloc | apply pw_below_drewN | apply below_drew1) | exact HB.out))) : w.heap.size ≤ gb101)); clear HB; have HB := n0_; have BK101 := n1_; have GW101 := n2_; have GE101 := n3_; clear n0_ n1_ n2_ n3_; clear hb hbox hg) | ((with_reducible refine gate_dst (N := 4) rfl ?_); (try (refine gate_guard (by rfl) ?_; dsimp only)); refine box_event ?hg (N := 4) ?hd (cs := #[.bool false, .string (⟨#[]⟩ : ByteArray)]) (t := 33) ?hr ?_; (case hd => rfl); (case hg => rfl); (case hr => first | (go_simp; done) | (go_simp; rfl)); intro gb102 hg w14 hbox hb; have n0_ := Aside0.mk (blk_below (g := gb101) (o := .cells #[.int .i64 a0_0, .slice A0_1 l0_1.length c0_1] 24 (0, 0)) (by (with_reducible repeat (first | refine blk_drewN ?_ _ | refine blk_drew ?_ | refine blk_alloc ?_ _)); exact BK101.out) hb); have n1_ := Aside0.mk (below_step (by repeat (first | (with_reducible first | exact HB.out | apply below_alloc | apply pw_below_drewN | apply below_drew1 | refine below_set ?_ GE101.out) | exact HB.out)) hb); have n2_ := Aside0.mk (hbox); have n3_ := Aside0.mk ((by rw [hg]; exact (below_size (by repeat (first | (with_reducible first | exact HB.out | apply below_alloc | apply pw_below_drewN | apply below_drew1 | refine below_set ?_ GE101.out) | exact HB.out))) : w.heap.size ≤ gb102)); have n4_ := Aside0.mk ((by rw [hg]; exact (below_size (by repeat (first | (with_reducible first | exact HB.out | apply below_alloc | apply pw_below_drewN | apply below_drew1 | refine below_set ?_ GE101.out) | exact HB.out))) : w.heap.size ≤ gb102)); have n5_ := Aside0.mk ((by rw [hg]; exact Nat.ne_of_lt (blk_lt (g := gb101) (o := .cells #[.int .i64 a0_0, .slice A0_1 l0_1.length c0_1] 24 (0, 0)) (by (with_reducible repeat (first | refine blk_drewN ?_ _ | refine blk_drew ?_ | refine blk_alloc ?_ _)); exact BK101.out)) : gb101 ≠ gb102)); have n6_ := Aside0.mk ((by rw [hg]; exact Nat.ne_of_gt (blk_lt (g := gb101) (o := .cells #[.int .i64 a0_0, .slice A0_1 l0_1.length c0_1] 24 (0, 0)) (by (with_reducible repeat (first | refine blk_drewN ?_ _ | refine blk_drew ?_ | refine blk_alloc ?_ _)); exact BK101.out)) : gb102 ≠ gb101)); clear BK101; clear HB; have BK101 := n0_; have HB := n1_; have BK102 := n2_; have GW102 := n3_; have GE102 := n4_; have NB101_102 := n5_; have NB102_101 := n6_; clear n0_ n1_ n2_ n3_ n4_ n5_ n6_; clear hb hbox hg; have hnb15 := NB101_102.out; have hnc15 := NB102_101.out; have hcz16_0 : w14.cell? ⟨gb101, 0, none⟩ = some (.int .i64 a0_0) := (blk_cell BK101.out 0).trans rfl; have hcz16_1 : w14.cell? ⟨gb101, 1, none⟩ = some (.slice A0_1 l0_1.length c0_1) := (blk_cell BK101.out 1).trans rfl; have hfz16_0 := blk_frozen BK101.out 0; have hfz16_1 := blk_frozen BK101.out 1) | ((with_reducible refine gate_callee (f := 34) rfl ?_); refine goesL_ (some 6) rfl rfl Try.func34 (by kernel_rfl) rfl #[.agg #[.int .i64 a0_0, .slice A0_1 l0_1.length c0_1]] rfl (by (try simp only [List.map_toArray, List.map_cons, List.map_nil]); first | done | rfl | (simp only [List.length_drop, List.length_take]; rfl)) ?_; (with_reducible refine (slabGood.calls a0_0 _ _ l0_1 true _ ?side1 ?side2 A3.out).mono ?_); (case side1 => repeat (first | exact (Kd.C_below HR0_1.out HB.out) | (with_reducible refine Kd.C_alloc ?_ _) | (with_reducible refine Kd.C_drewN ?_ _) | (with_reducible refine Kd.C_drew ?_))); (case side2 => exact HC0_1.out); rintro e w17 ⟨rfl, hb⟩; refine ⟨_, rfl, ?_⟩; have n0_ := Aside0.mk (blk_below (g := gb101) (o := .cells #[.int .i64 a0_0, .slice A0_1 l0_1.length c0_1] 24 (0, 0)) (by (with_reducible repeat (first | refine blk_drewN ?_ _ | refine blk_drew ?_ | refine blk_alloc ?_ _)); exact BK101.out) hb); have n1_ := Aside0.mk (blk_below (g := gb102) (o := .cells #[.bool false, .string (⟨#[]⟩ : ByteArray)] 33 (0, 0)) (by (with_reducible repeat (first | refine blk_drewN ?_ _ | refine blk_drew ?_ | refine blk_alloc ?_ _)); exact BK102.out) hb); have n2_ := Aside0.mk (below_step (by repeat (first | (with_reducible first | exact HB.out | apply below_alloc | apply pw_below_drewN | apply below_drew1 | refine below_set ?_ GE101.out | refine below_set ?_ GE102.out) | exact HB.out)) hb); clear BK101; clear BK102; clear HB; have BK101 := n0_; have BK102 := n1_; have HB := n2_; clear n0_ n1_ n2_; (try clear hb); (try clear hb2); (try clear hk); (try clear hi); have hcz18_0 : w17.cell? ⟨gb101, 0, none⟩ = some (.int .i64 a0_0) := (blk_cell BK101.out 0).trans rfl; have hcz18_1 : w17.cell? ⟨gb101, 1, none⟩ = some (.slice A0_1 l0_1.length c0_1) := (blk_cell BK101.out 1).trans rfl; have hfz18_0 := blk_frozen BK101.out 0; have hfz18_1 := blk_frozen BK101.out 1; have hcz19_0 : w17.cell? ⟨gb102, 0, none⟩ = some (.bool false) := (blk_cell BK102.out 0).trans rfl; have hcz19_1 : w17.cell? ⟨gb102, 1, none⟩ = some (.string (⟨#[]⟩ : ByteArray)) := (blk_cell BK102.out 1).trans rfl; have hfz19_0 := blk_frozen BK102.out 0; have hfz19_1 := blk_frozen BK102.out 1))
        refine bodyPost_ret (results_cell_row rfl _ _ gb102 33 #[.bool false, .string (⟨#[]⟩ : ByteArray)] (0, 0) _ rfl (by (with_reducible repeat (first | refine blk_drewN ?_ _ | refine blk_drew ?_ | refine blk_alloc ?_ _)); refine blk_put (cs := #[.bool false, .string (⟨#[]⟩ : ByteArray)]) ?_ 1 _ rfl; (with_reducible repeat (first | refine blk_drewN ?_ _ | refine blk_drew ?_ | refine blk_alloc ?_ _)); refine blk_put (cs := #[.bool false, .string (⟨#[]⟩ : ByteArray)]) ?_ 0 _ rfl; (with_reducible repeat (first | refine blk_drewN ?_ _ | refine blk_drew ?_ | refine blk_alloc ?_ _)); exact BK102.out) Try.underlying33 rfl (by kernel_rfl)) rfl ?_
        exact ⟨by first | rfl | (simp [errW_none, errW_some] <;> rfl) | (simp [*, errW_none, errW_some] <;> rfl), by repeat (first | (with_reducible first | exact HB.out | apply below_alloc | apply pw_below_drewN | apply below_drew1 | refine below_set ?_ GE101.out | refine below_set ?_ GE102.out) | exact HB.out)⟩
      · rw [if_neg c12] at H
        have c12b0 : decide ((l0_1.length : Int) ≤ a1) = false := decide_eq_false c12
        clear c12
        by_cases c20 : 0 ≤ a1
        · rw [if_pos c20] at H
          have c20b0 : decide (0 ≤ a1) = true := decide_eq_true c20
          clear c20
          by_cases c21 : a1 < (l0_1.length : Int)
          · rw [if_pos c21] at H
            have c21b0 : decide (a1 < (l0_1.length : Int)) = true := decide_eq_true c21
            clear c21
            simp only [Option.some.injEq, Prod.mk.injEq] at H
            obtain ⟨rfl, rfl⟩ := H
            go_enter Try.func39, Try.ntmps39
            go_wp2_with (first | ((with_reducible refine gate_dst (N := 2) rfl ?_); (try (refine gate_guard (by rfl) ?_; dsimp only)); refine box_event ?hg (N := 2) ?hd (cs := #[.int .i64 a0_0, .slice A0_1 l0_1.length c0_1]) (t := 24) ?hr ?_; (case hd => rfl); (case hg => rfl); (case hr => first | (go_simp; done) | (go_simp; rfl)); intro gb101 hg w22 hbox hb; have n0_ := Aside0.mk (below_step (by repeat (first | (with_reducible first | exact HB.out | apply below_alloc | apply pw_below_drewN | apply below_drew1) | exact HB.out)) hb); have n1_ := Aside0.mk (hbox); have n2_ := Aside0.mk ((by rw [hg]; exact (below_size (by repeat (first | (with_reducible first | exact HB.out | apply below_alloc | apply pw_below_drewN | apply below_drew1) | exact HB.out))) : w.heap.size ≤ gb101)); have n3_ := Aside0.mk ((by rw [hg]; exact (below_size (by repeat (first | (with_reducible first | exact HB.out | apply below_alloc | apply pw_below_drewN | apply below_drew1) | exact HB.out))) : w.heap.size ≤ gb101)); clear HB; have HB := n0_; have BK101 := n1_; have GW101 := n2_; have GE101 := n3_; clear n0_ n1_ n2_ n3_; clear hb hbox hg) | ((with_reducible refine gate_dst (N := 4) rfl ?_); (try (refine gate_guard (by rfl) ?_; dsimp only)); refine box_event ?hg (N := 4) ?hd (cs := #[.bool false, .string (⟨#[]⟩ : ByteArray)]) (t := 33) ?hr ?_; (case hd => rfl); (case hg => rfl); (case hr => first | (go_simp; done) | (go_simp; rfl)); intro gb102 hg w23 hbox hb; have n0_ := Aside0.mk (blk_below (g := gb101) (o := .cells #[.int .i64 a0_0, .slice A0_1 l0_1.length c0_1] 24 (0, 0)) (by (with_reducible repeat (first | refine blk_drewN ?_ _ | refine blk_drew ?_ | refine blk_alloc ?_ _)); exact BK101.out) hb); have n1_ := Aside0.mk (below_step (by repeat (first | (with_reducible first | exact HB.out | apply below_alloc | apply pw_below_drewN | apply below_drew1 | refine below_set ?_ GE101.out) | exact HB.out)) hb); have n2_ := Aside0.mk (hbox); have n3_ := Aside0.mk ((by rw [hg]; exact (below_size (by repeat (first | (with_reducible first | exact HB.out | apply below_alloc | apply pw_below_drewN | apply below_drew1 | refine below_set ?_ GE101.out) | exact HB.out))) : w.heap.size ≤ gb102)); have n4_ := Aside0.mk ((by rw [hg]; exact (below_size (by repeat (first | (with_reducible first | exact HB.out | apply below_alloc | apply pw_below_drewN | apply below_drew1 | refine below_set ?_ GE101.out) | exact HB.out))) : w.heap.size ≤ gb102)); have n5_ := Aside0.mk ((by rw [hg]; exact Nat.ne_of_lt (blk_lt (g := gb101) (o := .cells #[.int .i64 a0_0, .slice A0_1 l0_1.length c0_1] 24 (0, 0)) (by (with_reducible repeat (first | refine blk_drewN ?_ _ | refine blk_drew ?_ | refine blk_alloc ?_ _)); exact BK101.out)) : gb101 ≠ gb102)); have n6_ := Aside0.mk ((by rw [hg]; exact Nat.ne_of_gt (blk_lt (g := gb101) (o := .cells #[.int .i64 a0_0, .slice A0_1 l0_1.length c0_1] 24 (0, 0)) (by (with_reducible repeat (first | refine blk_drewN ?_ _ | refine blk_drew ?_ | refine blk_alloc ?_ _)); exact BK101.out)) : gb102 ≠ gb101)); clear BK101; clear HB; have BK101 := n0_; have HB := n1_; have BK102 := n2_; have GW102 := n3_; have GE102 := n4_; have NB101_102 := n5_; have NB102_101 := n6_; clear n0_ n1_ n2_ n3_ n4_ n5_ n6_; clear hb hbox hg; have hnb24 := NB101_102.out; have hnc24 := NB102_101.out; have hcz25_0 : w23.cell? ⟨gb101, 0, none⟩ = some (.int .i64 a0_0) := (blk_cell BK101.out 0).trans rfl; have hcz25_1 : w23.cell? ⟨gb101, 1, none⟩ = some (.slice A0_1 l0_1.length c0_1) := (blk_cell BK101.out 1).trans rfl; have hfz25_0 := blk_frozen BK101.out 0; have hfz25_1 := blk_frozen BK101.out 1) | ((with_reducible refine gate_callee (f := 34) rfl ?_); refine goesL_ (some 6) rfl rfl Try.func34 (by kernel_rfl) rfl #[.agg #[.int .i64 a0_0, .slice A0_1 l0_1.length c0_1]] rfl (by (try simp only [List.map_toArray, List.map_cons, List.map_nil]); first | done | rfl | (simp only [List.length_drop, List.length_take]; rfl)) ?_; (with_reducible refine (slabGood.calls a0_0 _ _ l0_1 true _ ?side1 ?side2 A3.out).mono ?_); (case side1 => repeat (first | exact (Kd.C_below HR0_1.out HB.out) | (with_reducible refine Kd.C_alloc ?_ _) | (with_reducible refine Kd.C_drewN ?_ _) | (with_reducible refine Kd.C_drew ?_))); (case side2 => exact HC0_1.out); rintro e w26 ⟨rfl, hb⟩; refine ⟨_, rfl, ?_⟩; have n0_ := Aside0.mk (blk_below (g := gb101) (o := .cells #[.int .i64 a0_0, .slice A0_1 l0_1.length c0_1] 24 (0, 0)) (by (with_reducible repeat (first | refine blk_drewN ?_ _ | refine blk_drew ?_ | refine blk_alloc ?_ _)); exact BK101.out) hb); have n1_ := Aside0.mk (blk_below (g := gb102) (o := .cells #[.bool false, .string (⟨#[]⟩ : ByteArray)] 33 (0, 0)) (by (with_reducible repeat (first | refine blk_drewN ?_ _ | refine blk_drew ?_ | refine blk_alloc ?_ _)); exact BK102.out) hb); have n2_ := Aside0.mk (below_step (by repeat (first | (with_reducible first | exact HB.out | apply below_alloc | apply pw_below_drewN | apply below_drew1 | refine below_set ?_ GE101.out | refine below_set ?_ GE102.out) | exact HB.out)) hb); clear BK101; clear BK102; clear HB; have BK101 := n0_; have BK102 := n1_; have HB := n2_; clear n0_ n1_ n2_; (try clear hb); (try clear hb2); (try clear hk); (try clear hi); have hcz27_0 : w26.cell? ⟨gb101, 0, none⟩ = some (.int .i64 a0_0) := (blk_cell BK101.out 0).trans rfl; have hcz27_1 : w26.cell? ⟨gb101, 1, none⟩ = some (.slice A0_1 l0_1.length c0_1) := (blk_cell BK101.out 1).trans rfl; have hfz27_0 := blk_frozen BK101.out 0; have hfz27_1 := blk_frozen BK101.out 1; have p104 : 0 ≤ (a1 : Int) := of_decide_eq_true (by first | (with_reducible assumption) | assumption); have q104 : a1 < (l0_1.length : Int) := of_decide_eq_true (by first | (with_reducible assumption) | assumption); obtain ⟨ad104, e104, hx104_0, hx104_1⟩ := at_T33 HR0_1.out a1 p104 q104; cases e104; replace hx104_0 := (HB.out.cell (World.block_lt_of_cell? w _ hx104_0)).trans hx104_0; replace hx104_1 := (HB.out.cell (World.block_lt_of_cell? w _ hx104_1)).trans hx104_1; replace p104 := eq_true p104; replace q104 := eq_true q104; have hcz28_0 : w26.cell? ⟨gb102, 0, none⟩ = some (.bool false) := (blk_cell BK102.out 0).trans rfl; have hcz28_1 : w26.cell? ⟨gb102, 1, none⟩ = some (.string (⟨#[]⟩ : ByteArray)) := (blk_cell BK102.out 1).trans rfl; have hfz28_0 := blk_frozen BK102.out 0; have hfz28_1 := blk_frozen BK102.out 1))
            refine bodyPost_ret (results_cell_row rfl _ _ gb102 33 #[.bool ((rd_T33 l0_1 a1).f0), .string ((rd_T33 l0_1 a1).f1)] (0, 0) _ rfl (by (with_reducible repeat (first | refine blk_drewN ?_ _ | refine blk_drew ?_ | refine blk_alloc ?_ _)); refine blk_put (cs := #[.bool ((rd_T33 l0_1 a1).f0), .string (⟨#[]⟩ : ByteArray)]) ?_ 1 _ rfl; (with_reducible repeat (first | refine blk_drewN ?_ _ | refine blk_drew ?_ | refine blk_alloc ?_ _)); refine blk_put (cs := #[.bool false, .string (⟨#[]⟩ : ByteArray)]) ?_ 0 _ rfl; (with_reducible repeat (first | refine blk_drewN ?_ _ | refine blk_drew ?_ | refine blk_alloc ?_ _)); exact BK102.out) Try.underlying33 rfl (by kernel_rfl)) rfl ?_
            exact ⟨by first | rfl | (simp [errW_none, errW_some] <;> rfl) | (simp [*, errW_none, errW_some] <;> rfl), by repeat (first | (with_reducible first | exact HB.out | apply below_alloc | apply pw_below_drewN | apply below_drew1 | refine below_set ?_ GE101.out | refine below_set ?_ GE102.out) | exact HB.out)⟩
          · rw [if_neg c21] at H
            exact absurd H (by simp)
        · rw [if_neg c20] at H
          exact absurd H (by simp)
  · replace c4 := Bool.eq_false_iff.mpr c4
    subst c4
    have H1 : (some (false, (⟨#[]⟩ : ByteArray))) = some (r1, r2) := by rw [if_neg (show ¬ (false = true) by decide)] at H; exact H
    clear H
    have H := H1
    clear H1
    simp only [Option.some.injEq, Prod.mk.injEq] at H
    obtain ⟨rfl, rfl⟩ := H
    go_enter Try.func39, Try.ntmps39
    go_wp2_with (first | ((with_reducible refine gate_dst (N := 2) rfl ?_); (try (refine gate_guard (by rfl) ?_; dsimp only)); refine box_event ?hg (N := 2) ?hd (cs := #[.int .i64 a0_0, .slice A0_1 l0_1.length c0_1]) (t := 24) ?hr ?_; (case hd => rfl); (case hg => rfl); (case hr => first | (go_simp; done) | (go_simp; rfl)); intro gb101 hg w29 hbox hb; have n0_ := Aside0.mk (below_step (by repeat (first | (with_reducible first | exact HB.out | apply below_alloc | apply pw_below_drewN | apply below_drew1) | exact HB.out)) hb); have n1_ := Aside0.mk (hbox); have n2_ := Aside0.mk ((by rw [hg]; exact (below_size (by repeat (first | (with_reducible first | exact HB.out | apply below_alloc | apply pw_below_drewN | apply below_drew1) | exact HB.out))) : w.heap.size ≤ gb101)); have n3_ := Aside0.mk ((by rw [hg]; exact (below_size (by repeat (first | (with_reducible first | exact HB.out | apply below_alloc | apply pw_below_drewN | apply below_drew1) | exact HB.out))) : w.heap.size ≤ gb101)); clear HB; have HB := n0_; have BK101 := n1_; have GW101 := n2_; have GE101 := n3_; clear n0_ n1_ n2_ n3_; clear hb hbox hg) | ((with_reducible refine gate_dst (N := 4) rfl ?_); (try (refine gate_guard (by rfl) ?_; dsimp only)); refine box_event ?hg (N := 4) ?hd (cs := #[.bool false, .string (⟨#[]⟩ : ByteArray)]) (t := 33) ?hr ?_; (case hd => rfl); (case hg => rfl); (case hr => first | (go_simp; done) | (go_simp; rfl)); intro gb102 hg w30 hbox hb; have n0_ := Aside0.mk (blk_below (g := gb101) (o := .cells #[.int .i64 a0_0, .slice A0_1 l0_1.length c0_1] 24 (0, 0)) (by (with_reducible repeat (first | refine blk_drewN ?_ _ | refine blk_drew ?_ | refine blk_alloc ?_ _)); exact BK101.out) hb); have n1_ := Aside0.mk (below_step (by repeat (first | (with_reducible first | exact HB.out | apply below_alloc | apply pw_below_drewN | apply below_drew1 | refine below_set ?_ GE101.out) | exact HB.out)) hb); have n2_ := Aside0.mk (hbox); have n3_ := Aside0.mk ((by rw [hg]; exact (below_size (by repeat (first | (with_reducible first | exact HB.out | apply below_alloc | apply pw_below_drewN | apply below_drew1 | refine below_set ?_ GE101.out) | exact HB.out))) : w.heap.size ≤ gb102)); have n4_ := Aside0.mk ((by rw [hg]; exact (below_size (by repeat (first | (with_reducible first | exact HB.out | apply below_alloc | apply pw_below_drewN | apply below_drew1 | refine below_set ?_ GE101.out) | exact HB.out))) : w.heap.size ≤ gb102)); have n5_ := Aside0.mk ((by rw [hg]; exact Nat.ne_of_lt (blk_lt (g := gb101) (o := .cells #[.int .i64 a0_0, .slice A0_1 l0_1.length c0_1] 24 (0, 0)) (by (with_reducible repeat (first | refine blk_drewN ?_ _ | refine blk_drew ?_ | refine blk_alloc ?_ _)); exact BK101.out)) : gb101 ≠ gb102)); have n6_ := Aside0.mk ((by rw [hg]; exact Nat.ne_of_gt (blk_lt (g := gb101) (o := .cells #[.int .i64 a0_0, .slice A0_1 l0_1.length c0_1] 24 (0, 0)) (by (with_reducible repeat (first | refine blk_drewN ?_ _ | refine blk_drew ?_ | refine blk_alloc ?_ _)); exact BK101.out)) : gb102 ≠ gb101)); clear BK101; clear HB; have BK101 := n0_; have HB := n1_; have BK102 := n2_; have GW102 := n3_; have GE102 := n4_; have NB101_102 := n5_; have NB102_101 := n6_; clear n0_ n1_ n2_ n3_ n4_ n5_ n6_; clear hb hbox hg; have hnb31 := NB101_102.out; have hnc31 := NB102_101.out; have hcz32_0 : w30.cell? ⟨gb101, 0, none⟩ = some (.int .i64 a0_0) := (blk_cell BK101.out 0).trans rfl; have hcz32_1 : w30.cell? ⟨gb101, 1, none⟩ = some (.slice A0_1 l0_1.length c0_1) := (blk_cell BK101.out 1).trans rfl; have hfz32_0 := blk_frozen BK101.out 0; have hfz32_1 := blk_frozen BK101.out 1) | ((with_reducible refine gate_callee (f := 34) rfl ?_); refine goesL_ (some 6) rfl rfl Try.func34 (by kernel_rfl) rfl #[.agg #[.int .i64 a0_0, .slice A0_1 l0_1.length c0_1]] rfl (by (try simp only [List.map_toArray, List.map_cons, List.map_nil]); first | done | rfl | (simp only [List.length_drop, List.length_take]; rfl)) ?_; (with_reducible refine (slabGood.calls a0_0 _ _ l0_1 false _ ?side1 ?side2 A3.out).mono ?_); (case side1 => repeat (first | exact (Kd.C_below HR0_1.out HB.out) | (with_reducible refine Kd.C_alloc ?_ _) | (with_reducible refine Kd.C_drewN ?_ _) | (with_reducible refine Kd.C_drew ?_))); (case side2 => exact HC0_1.out); rintro e w33 ⟨rfl, hb⟩; refine ⟨_, rfl, ?_⟩; have n0_ := Aside0.mk (blk_below (g := gb101) (o := .cells #[.int .i64 a0_0, .slice A0_1 l0_1.length c0_1] 24 (0, 0)) (by (with_reducible repeat (first | refine blk_drewN ?_ _ | refine blk_drew ?_ | refine blk_alloc ?_ _)); exact BK101.out) hb); have n1_ := Aside0.mk (blk_below (g := gb102) (o := .cells #[.bool false, .string (⟨#[]⟩ : ByteArray)] 33 (0, 0)) (by (with_reducible repeat (first | refine blk_drewN ?_ _ | refine blk_drew ?_ | refine blk_alloc ?_ _)); exact BK102.out) hb); have n2_ := Aside0.mk (below_step (by repeat (first | (with_reducible first | exact HB.out | apply below_alloc | apply pw_below_drewN | apply below_drew1 | refine below_set ?_ GE101.out | refine below_set ?_ GE102.out) | exact HB.out)) hb); clear BK101; clear BK102; clear HB; have BK101 := n0_; have BK102 := n1_; have HB := n2_; clear n0_ n1_ n2_; (try clear hb); (try clear hb2); (try clear hk); (try clear hi); have hcz34_0 : w33.cell? ⟨gb102, 0, none⟩ = some (.bool false) := (blk_cell BK102.out 0).trans rfl; have hcz34_1 : w33.cell? ⟨gb102, 1, none⟩ = some (.string (⟨#[]⟩ : ByteArray)) := (blk_cell BK102.out 1).trans rfl; have hfz34_0 := blk_frozen BK102.out 0; have hfz34_1 := blk_frozen BK102.out 1))
    refine bodyPost_ret (results_cell_row rfl _ _ gb102 33 #[.bool false, .string (⟨#[]⟩ : ByteArray)] (0, 0) _ rfl (by (with_reducible repeat (first | refine blk_drewN ?_ _ | refine blk_drew ?_ | refine blk_alloc ?_ _)); refine blk_put (cs := #[.bool false, .string (⟨#[]⟩ : ByteArray)]) ?_ 1 _ rfl; (with_reducible repeat (first | refine blk_drewN ?_ _ | refine blk_drew ?_ | refine blk_alloc ?_ _)); refine blk_put (cs := #[.bool false, .string (⟨#[]⟩ : ByteArray)]) ?_ 0 _ rfl; (with_reducible repeat (first | refine blk_drewN ?_ _ | refine blk_drew ?_ | refine blk_alloc ?_ _)); exact BK102.out) Try.underlying33 rfl (by kernel_rfl)) rfl ?_
    exact ⟨by first | rfl | (simp [errW_none, errW_some] <;> rfl) | (simp [*, errW_none, errW_some] <;> rfl), by repeat (first | (with_reducible first | exact HB.out | apply below_alloc | apply pw_below_drewN | apply below_drew1 | refine below_set ?_ GE101.out | refine below_set ?_ GE102.out) | exact HB.out)⟩

end Go.Proofs.Ytfjmnaobfbmllaa.M

namespace Go.Proofs.Ytfjmnaobfbmllaa.M
open Go.RowKit Go.Proofs.YtfjmnaobfbmllaaW.PrintWords Go.Proofs.YtfjmnaobfbmllaaW.PrintLast Go.Proofs.YtfjmnaobfbmllaaW.PrintMore
set_option linter.unusedVariables false
set_option linter.unusedSimpArgs false

def vacS (x : S33) : Bool := !x.f0
theorem isVacant_any (x : S33) (w : World) : Calls Try.prog 84 #[.agg #[.bool x.f0, .string x.f1]] w fun e w' => e = .returned (.bool (vacS x)) ∧ Below w.heap.size w w' := by
  have hu33 := Try.underlying33
  unfold vacS
  go_enter Try.func84, Try.ntmps84
  go_wp2
  go_ret
  exact ⟨rfl, by first | exact Below.refl _ _ | exact below_alloc (Below.refl _ _) _⟩

set_option maxHeartbeats 2000000 in
theorem index_vacant (A : Option Addr) (c : Nat) (l : List S33) (w : World) (hr : Kd.C k33 w A l.length l) (hc : l.length ≤ c) :
    Calls Try.prog 83 #[.slice A l.length c, .func (.func 84) #[] #[]] w fun e w' => e = .returned (.int .i64 (idxOf vacS l)) ∧ Below w.heap.size w w' := by
  have hu33 := Try.underlying33
  have hmax := Kd.C_max hr
  have HR := Aside0.mk hr
  have HC := Aside0.mk hc
  clear hr hc
  have eg : ∀ args w, (callFunc 84 args).run Try.prog w = .ok (.enter 84 args) w := enters_ Try.func84 (by kernel_rfl) rfl
  go_enter Try.func83, Try.ntmps83
  go_wp2
  go_loopg [5, 8] l.length (fun gg _ s8 wr => ∃ kk : Nat, kk ≤ l.length ∧ l.length - kk ≤ gg ∧ s8 = .int .i64 kk ∧ Aside0 (Below w.heap.size w wr) ∧ Aside0 (∀ j (h : j < l.length), j < kk → vacS l[j] = false))
  case atStart => exact ⟨0, Nat.zero_le _, by omega, rfl, ⟨Below.refl _ w⟩, ⟨fun j _ hj => absurd hj (Nat.not_lt_zero _)⟩⟩
  case round =>
    obtain ⟨kk, hkk, hg, rfl, HB, HA⟩ := hrel
    by_cases hlt : kk < l.length
    · have p0 : 0 ≤ (kk : Int) := by omega
      have q0 : (kk : Int) < (l.length : Int) := by omega
      obtain ⟨ad, e0, hx0, hx1⟩ := at_T33 HR.out (kk : Int) p0 q0
      cases e0
      replace hx0 := (HB.out.cell (World.block_lt_of_cell? w _ hx0)).trans hx0
      replace hx1 := (HB.out.cell (World.block_lt_of_cell? w _ hx1)).trans hx1
      have HX : Aside0 (rd_T33 l (kk : Int) = l[kk]) := ⟨by simp [rd_T33, List.getD_eq_getElem?_getD, List.getElem?_eq_getElem hlt]⟩
      generalize rd_T33 l (kk : Int) = x at hx0 hx1 HX
      have hcall := isVacant_any x wr
      rw [Int.toNat_natCast] at hx0 hx1
      cases hq : vacS x with
      | true =>
        rw [hq] at hcall
        go_wp2_with (go_at_call 84; refine hcall.mono ?_; rintro e w' ⟨rfl, hb'⟩)
        go_ret
        refine ⟨?_, below_then HB.out HB.out.size hb'⟩
        rw [idxOf_hit vacS l kk hlt (by rw [← HX.out]; exact hq) (fun j h => HA.out j (by omega) h)]; rfl
      | false =>
        rw [hq] at hcall
        go_wp2_with (go_at_call 84; refine hcall.mono ?_; rintro e w' ⟨rfl, hb'⟩)
        go_roundg (l.length - (kk + 1))
        case measure => omega
        case rel =>
          refine ⟨kk + 1, by omega, by omega, by go_num, ⟨below_then HB.out HB.out.size hb'⟩, ⟨fun j h hj => ?_⟩⟩
          by_cases e : j = kk
          · subst e
            rw [← HX.out]; exact hq
          · exact HA.out j h (by omega)
    · have hltz : ¬ (kk : Int) < (l.length : Int) := by omega
      go_wp2
      go_ret
      refine ⟨?_, HB.out⟩
      rw [idxOf_miss vacS l (fun j h => HA.out j h (by omega))]; rfl


def slices_IndexVacant.f (l : List S33) : Option Int := some (idxOf vacS l)
theorem slices_IndexVacant.calls (A : Option Addr) (c : Nat) (l : List S33) (r : Int) (w : World) (hr : Kd.C k33 w A l.length l) (hc : l.length ≤ c) (h : slices_IndexVacant.f l = some r) :
    Calls Try.prog 83 #[.slice A l.length c, .func (.func 84) #[] #[]] w fun e w' => e = .returned (.int .i64 r) ∧ Below w.heap.size w w' := by
  obtain rfl := Option.some.inj h
  exact index_vacant A c l w hr hc
end Go.Proofs.Ytfjmnaobfbmllaa.M

namespace Go.Proofs.Ytfjmnaobfbmllaa.M
open Go.RowKit Go.Proofs.YtfjmnaobfbmllaaW.PrintWords Go.Proofs.YtfjmnaobfbmllaaW.PrintLast Go.Proofs.YtfjmnaobfbmllaaW.PrintMore
attribute [local go_sem] max2_int min2_int max_two min_two max_three min_three max_four min_four   -- for this text's walks alone
set_option linter.unusedVariables false
set_option linter.unusedSimpArgs false

/-! ### slab_Vacant: function 43 -/
mutual
def slab_Vacant.j0 : Nat → Int → Bool → Int → List (S33) → Option (Int × Int)
  | 0, _, _, _, _ => none
  | k + 1, x1, x8, x102000, x102001 => if x8 = true then (some (0, 1)) else (if x1 > 200 then (some (0, 5)) else ((slices_IndexVacant.f x102001).bind fun t103 => (if t103 < 0 then (slab_Vacant.j1 k x1 (x102001.length : Int) x102000 x102001) else (slab_Vacant.j1 k x1 t103 x102000 x102001))))
def slab_Vacant.j1 : Nat → Int → Int → Int → List (S33) → Option (Int × Int)
  | 0, _, _, _, _ => none
  | k + 1, x1, x6, x102000, x102001 => if x6 = (x102001.length : Int) then (if x6 ≥ 32 then (some (0, 22)) else ((slabSize0.f x102001).bind fun t104 => (if (wrap64 (t104 + (wrap64 (x1 + 1)))) > 240 then (some (0, 22)) else (some (x6, 0))))) else (if x6 ≥ 32 then (some (0, 22)) else ((slabSize0.f x102001).bind fun t105 => (if (wrap64 (t105 + x1)) > 240 then (some (0, 22)) else (some (x6, 0)))))
end
def slab_Vacant.f (k : Nat) (a0_0 : Int) (l0_1 : List (S33)) (a1 : Int) : Option (Int × Int) := (slabGood.f a0_0 l0_1).bind fun t102 => (if t102 = true then (slab_Vacant.j0 k a1 (decide (a1 < 0)) a0_0 l0_1) else (slab_Vacant.j0 k a1 true a0_0 l0_1))
set_option maxHeartbeats 8000000 in
set_option maxRecDepth 100000 in
theorem slab_Vacant.calls (k : Nat) (a0_0 : Int) (A0_1 : Option Addr) (c0_1 : Nat) (l0_1 : List (S33)) (a1 : Int) (r1 : Int) (r2 : Int) (w : World) (hr0_1 : Kd.C k33 w A0_1 l0_1.length l0_1) (hc0_1 : l0_1.length ≤ c0_1) (h : slab_Vacant.f k a0_0 l0_1 a1 = some (r1, r2)) :
    Calls Try.prog 43 #[.agg #[.int .i64 a0_0, .slice A0_1 l0_1.length c0_1], .int .i64 a1] w fun e w' => e = .returned (.tuple #[.int .i64 r1, .int .i64 r2]) ∧ Below w.heap.size w w' := by
  have hu24 := Try.underlying24
  have HR0_1 := Aside0.mk hr0_1
  have HC0_1 := Aside0.mk hc0_1
  clear hr0_1 hc0_1
  have HB := Aside0.mk (Below.refl w.heap.size w)
  have H : ((slabGood.f a0_0 l0_1).bind fun t102 => (if t102 = true then (slab_Vacant.j0 k a1 (decide (a1 < 0)) a0_0 l0_1) else (slab_Vacant.j0 k a1 true a0_0 l0_1))) = some (r1, r2) := h
  clear h
  have HC3 := Aside0.mk H
  clear H
  go_enter Try.func43, Try.ntmps43
  go_upto_region 1 with (first | ((with_reducible refine gate_dst (N := 2) rfl ?_); refine box_event ?hg (N := 2) ?hd (cs := #[.int .i64 a0_0, .slice A0_1 l0_1.length c0_1]) (t := 24) ?hr ?_; (case hd => rfl); (case hg => rfl); (case hr => first | (go_simp; done) | (go_simp; rfl)); intro gb101 hg w4 hbox hb; have n0_ := Aside0.mk (below_step (by repeat (first | (with_reducible first | exact HB.out | apply below_alloc | apply pw_below_drewN | apply below_drew1) | exact HB.out)) hb); have n1_ := Aside0.mk (hbox); have n2_ := Aside0.mk ((by rw [hg]; exact (below_size (by repeat (first | (with_reducible first | exact HB.out | apply below_alloc | apply pw_below_drewN | apply below_drew1) | exact HB.out))) : w.heap.size ≤ gb101)); have n3_ := Aside0.mk ((by rw [hg]; exact (below_size (by repeat (first | (with_reducible first | exact HB.out | apply below_alloc | apply pw_below_drewN | apply below_drew1) | exact HB.out))) : w.heap.size ≤ gb101)); clear HB; have HB := n0_; have BK101 := n1_; have GW101 := n2_; have GE101 := n3_; clear n0_ n1_ n2_ n3_; clear hb hbox hg))
  (try simp only [Act.put, List.setIfInBounds_toArray, List.set_cons_zero, List.set_cons_succ])
  go_cut [8] (fun v8 wc => ∃ (kq : Nat) (x8_2 : Bool), v8 = .bool x8_2 ∧ Aside0 (slab_Vacant.j0 kq a1 x8_2 a0_0 l0_1 = some (r1, r2)) ∧ Aside0 (kq ≤ k) ∧ Aside0 (wc.heap[gb101]? = some (.cells #[.int .i64 a0_0, (.slice A0_1 l0_1.length c0_1)] 24 (0, 0))) ∧ Aside0 (Below w.heap.size w wc))
  case first =>
    have H := HC3.out
    clear HC3
    replace H := Option.bind_eq_some_iff.mp H
    obtain ⟨t102, A50, H⟩ := H
    replace H : (if t102 = true then (slab_Vacant.j0 k a1 (decide (a1 < 0)) a0_0 l0_1) else (slab_Vacant.j0 k a1 true a0_0 l0_1)) = some (r1, r2) := H
    have A5 := Aside0.mk A50
    clear A50
    by_cases c6 : t102 = true
    · subst c6
      have H1 : (slab_Vacant.j0 k a1 (decide (a1 < 0)) a0_0 l0_1) = some (r1, r2) := by rw [if_pos rfl] at H; exact H
      clear H
      have H := H1
      clear H1
      have H' := Aside0.mk H
      clear H
      have hcz7_0 : w4.cell? ⟨gb101, 0, none⟩ = some (.int .i64 a0_0) := (blk_cell BK101.out 0).trans rfl
      have hcz7_1 : w4.cell? ⟨gb101, 1, none⟩ = some (.slice A0_1 l0_1.length c0_1) := (blk_cell BK101.out 1).trans rfl
      have hfz7_0 := blk_frozen BK101.out 0
      have hfz7_1 := blk_frozen BK101.out 1
      go_wp2_with (first | ((with_reducible refine gate_callee (f := 34) rfl ?_); refine goesL_ (some 10) rfl rfl Try.func34 (by kernel_rfl) rfl #[.agg #[.int .i64 a0_0, .slice A0_1 l0_1.length c0_1]] rfl (by (try simp only [List.map_toArray, List.map_cons, List.map_nil]); first | done | rfl | (simp only [List.length_drop, List.length_take]; rfl)) ?_; (with_reducible refine (slabGood.calls a0_0 _ _ l0_1 true _ ?side1 ?side2 A5.out).mono ?_); (case side1 => repeat (first | exact (Kd.C_below HR0_1.out HB.out) | (with_reducible refine Kd.C_alloc ?_ _) | (with_reducible refine Kd.C_drewN ?_ _) | (with_reducible refine Kd.C_drew ?_))); (case side2 => exact HC0_1.out); rintro e w8 ⟨rfl, hb⟩; refine ⟨_, rfl, ?_⟩; have n0_ := Aside0.mk (blk_below (g := gb101) (o := .cells #[.int .i64 a0_0, .slice A0_1 l0_1.length c0_1] 24 (0, 0)) (by (with_reducible repeat (first | refine blk_drewN ?_ _ | refine blk_drew ?_ | refine blk_alloc ?_ _)); exact BK101.out) hb); have n1_ := Aside0.mk (below_step (by repeat (first | (with_reducible first | exact HB.out | apply below_alloc | apply pw_below_drewN | apply below_drew1 | refine below_set ?_ GE101.out) | exact HB.out)) hb); clear BK101; clear HB; have BK101 := n0_; have HB := n1_; clear n0_ n1_; (try clear hb); (try clear hb2); (try clear hk); (try clear hi)))
      go_meet
      case rel => exact ⟨_, (decide (a1 < 0)), (by first | rfl | (simp; done) | (simp [*]; done)), H', ⟨by first | omega | exact Nat.le_refl _⟩, ⟨by (with_reducible repeat (first | refine blk_drewN ?_ _ | refine blk_drew ?_ | refine blk_alloc ?_ _)); exact BK101.out⟩, ⟨by repeat (first | (with_reducible first | exact HB.out | apply below_alloc | apply pw_below_drewN | apply below_drew1 | refine below_set ?_ GE101.out) | exact HB.out)⟩⟩
    · replace c6 := Bool.eq_false_iff.mpr c6
      subst c6
      have H1 : (slab_Vacant.j0 k a1 true a0_0 l0_1) = some (r1, r2) := by rw [if_neg (show ¬ (false = true) by decide)] at H; exact H
      clear H
      have H := H1
      clear H1
      have H' := Aside0.mk H
      clear H
      have hcz9_0 : w4.cell? ⟨gb101, 0, none⟩ = some (.int .i64 a0_0) := (blk_cell BK101.out 0).trans rfl
      have hcz9_1 : w4.cell? ⟨gb101, 1, none⟩ = some (.slice A0_1 l0_1.length c0_1) := (blk_cell BK101.out 1).trans rfl
      have hfz9_0 := blk_frozen BK101.out 0
      have hfz9_1 := blk_frozen BK101.out 1
      go_wp2_with (first | ((with_reducible refine gate_callee (f := 34) rfl ?_); refine goesL_ (some 10) rfl rfl Try.func34 (by kernel_rfl) rfl #[.agg #[.int .i64 a0_0, .slice A0_1 l0_1.length c0_1]] rfl (by (try simp only [List.map_toArray, List.map_cons, List.map_nil]); first | done | rfl | (simp only [List.length_drop, List.length_take]; rfl)) ?_; (with_reducible refine (slabGood.calls a0_0 _ _ l0_1 false _ ?side1 ?side2 A5.out).mono ?_); (case side1 => repeat (first | exact (Kd.C_below HR0_1.out HB.out) | (with_reducible refine Kd.C_alloc ?_ _) | (with_reducible refine Kd.C_drewN ?_ _) | (with_reducible refine Kd.C_drew ?_))); (case side2 => exact HC0_1.out); rintro e w10 ⟨rfl, hb⟩; refine ⟨_, rfl, ?_⟩; have n0_ := Aside0.mk (blk_below (g := gb101) (o := .cells #[.int .i64 a0_0, .slice A0_1 l0_1.length c0_1] 24 (0, 0)) (by (with_reducible repeat (first | refine blk_drewN ?_ _ | refine blk_drew ?_ | refine blk_alloc ?_ _)); exact BK101.out) hb); have n1_ := Aside0.mk (below_step (by repeat (first | (with_reducible first | exact HB.out | apply below_alloc | apply pw_below_drewN | apply below_drew1 | refine below_set ?_ GE101.out) | exact HB.out)) hb); clear BK101; clear HB; have BK101 := n0_; have HB := n1_; clear n0_ n1_; (try clear hb); (try clear hb2); (try clear hk); (try clear hi)))
      go_meet
      case rel => exact ⟨_, (true), (by first | rfl | (simp; done) | (simp [*]; done)), H', ⟨by first | omega | exact Nat.le_refl _⟩, ⟨by (with_reducible repeat (first | refine blk_drewN ?_ _ | refine blk_drew ?_ | refine blk_alloc ?_ _)); exact BK101.out⟩, ⟨by repeat (first | (with_reducible first | exact HB.out | apply below_alloc | apply pw_below_drewN | apply below_drew1 | refine below_set ?_ GE101.out) | exact HB.out)⟩⟩
  case rest =>
    clear HC3
    try clear p2
    try clear c3
    try clear c4
    try clear c6
    try clear hcz7_0
    try clear hcz7_1
    try clear hcz9_0
    try clear hcz9_1
    try clear hfz7_0
    try clear hfz7_1
    try clear hfz9_0
    try clear hfz9_1
    obtain ⟨kq, x8_2, rfl, HA, HJ2, BK101, HB⟩ := hcut
    cases kq with
    | zero => exact absurd HA.out (by simp [slab_Vacant.j0])
    | succ kj2 =>
      have H := HA.out
      clear HA
      simp only [slab_Vacant.j0] at H
      by_cases c11 : x8_2 = true
      · subst c11
        have H1 : (some (0, 1)) = some (r1, r2) := by rw [if_pos rfl] at H; exact H
        clear H
        have H := H1
        clear H1
        simp only [Option.some.injEq, Prod.mk.injEq] at H
        obtain ⟨rfl, rfl⟩ := H
        go_wp2
        go_ret2
        exact ⟨by first | rfl | (simp [errW_none, errW_some] <;> rfl) | (simp [*, errW_none, errW_some] <;> rfl), by repeat (first | (with_reducible first | exact HB.out | apply below_alloc | apply pw_below_drewN | apply below_drew1 | refine below_set ?_ GE101.out) | exact HB.out)⟩
      · replace c11 := Bool.eq_false_iff.mpr c11
        subst c11
        have H1 : (if a1 > 200 then (some (0, 5)) else ((slices_IndexVacant.f l0_1).bind fun t103 => (if t103 < 0 then (slab_Vacant.j1 kj2 a1 (l0_1.length : Int) a0_0 l0_1) else (slab_Vacant.j1 kj2 a1 t103 a0_0 l0_1)))) = some (r1, r2) := by rw [if_neg (show ¬ (false = true) by decide)] at H; exact H
        clear H
        have H := H1
        clear H1
        by_cases c12 : a1 > 200
        · rw [if_pos c12] at H
          have c12b0 : decide (200 < a1) = true := decide_eq_true c12
          clear c12
          simp only [Option.some.injEq, Prod.mk.injEq] at H
          obtain ⟨rfl, rfl⟩ := H
          go_wp2
          go_ret2
          exact ⟨by first | rfl | (simp [errW_none, errW_some] <;> rfl) | (simp [*, errW_none, errW_some] <;> rfl), by repeat (first | (with_reducible first | exact HB.out | apply below_alloc | apply pw_below_drewN | apply below_drew1 | refine below_set ?_ GE101.out) | exact HB.out)⟩
        · rw [if_neg c12] at H
          have c12b0 : decide (200 < a1) = false := decide_eq_false c12
          clear c12
          replace H := Option.bind_eq_some_iff.mp H
          obtain ⟨t103, A130, H⟩ := H
          replace H : (if t103 < 0 then (slab_Vacant.j1 kj2 a1 (l0_1.length : Int) a0_0 l0_1) else (slab_Vacant.j1 kj2 a1 t103 a0_0 l0_1)) = some (r1, r2) := H
          have A13 := Aside0.mk A130
          clear A130
          have HC14 := Aside0.mk H
          clear H
          have hcz15_0 : wc.cell? ⟨gb101, 0, none⟩ = some (.int .i64 a0_0) := (blk_cell BK101.out 0).trans rfl
          have hcz15_1 : wc.cell? ⟨gb101, 1, none⟩ = some (.slice A0_1 l0_1.length c0_1) := (blk_cell BK101.out 1).trans rfl
          have hfz15_0 := blk_frozen BK101.out 0
          have hfz15_1 := blk_frozen BK101.out 1
          go_upto_if 23 with (first | ((with_reducible refine gate_callee (f := 83) rfl ?_); refine goesL_ (some 21) rfl rfl Try.func83 (by kernel_rfl) rfl #[.slice A0_1 l0_1.length c0_1, .func (.func 84) #[] #[]] rfl (by (try simp only [List.map_toArray, List.map_cons, List.map_nil]); first | done | rfl | (simp only [List.length_drop, List.length_take]; rfl)) ?_; (with_reducible refine (slices_IndexVacant.calls _ _ l0_1 t103 _ ?side1 ?side2 A13.out).mono ?_); (case side1 => repeat (first | exact (Kd.C_below HR0_1.out HB.out) | (with_reducible refine Kd.C_alloc ?_ _) | (with_reducible refine Kd.C_drewN ?_ _) | (with_reducible refine Kd.C_drew ?_))); (case side2 => exact HC0_1.out); rintro e w16 ⟨rfl, hb⟩; refine ⟨_, rfl, ?_⟩; have n0_ := Aside0.mk (blk_below (g := gb101) (o := .cells #[.int .i64 a0_0, .slice A0_1 l0_1.length c0_1] 24 (0, 0)) (by (with_reducible repeat (first | refine blk_drewN ?_ _ | refine blk_drew ?_ | refine blk_alloc ?_ _)); exact BK101.out) hb); have n1_ := Aside0.mk (below_step (by repeat (first | (with_reducible first | exact HB.out | apply below_alloc | apply pw_below_drewN | apply below_drew1 | refine below_set ?_ GE101.out) | exact HB.out)) hb); clear BK101; clear HB; have BK101 := n0_; have HB := n1_; clear n0_ n1_; (try clear hb); (try clear hb2); (try clear hk); (try clear hi)))
          (try simp only [Act.put, List.setIfInBounds_toArray, List.set_cons_zero, List.set_cons_succ])
          go_cut [6] (fun v6 wc => ∃ (kq : Nat) (x6_13 : Int), v6 = .int .i64 x6_13 ∧ Aside0 (slab_Vacant.j1 kq a1 x6_13 a0_0 l0_1 = some (r1, r2)) ∧ Aside0 (kq ≤ kj2) ∧ Aside0 (wc.heap[gb101]? = some (.cells #[.int .i64 a0_0, (.slice A0_1 l0_1.length c0_1)] 24 (0, 0))) ∧ Aside0 (Below w.heap.size w wc))
          case first =>
            have H := HC14.out
            clear HC14
            by_cases c17 : t103 < 0
            · rw [if_pos c17] at H
              have c17b0 : decide (t103 < 0) = true := decide_eq_true c17
              clear c17
              (first | rw [c17b0] | (simp only [i64_w, i32_w]; rw [c17b0]) | skip)
              have H' := Aside0.mk H
              clear H
              have hcz18_0 : w16.cell? ⟨gb101, 0, none⟩ = some (.int .i64 a0_0) := (blk_cell BK101.out 0).trans rfl
              have hcz18_1 : w16.cell? ⟨gb101, 1, none⟩ = some (.slice A0_1 l0_1.length c0_1) := (blk_cell BK101.out 1).trans rfl
              have hfz18_0 := blk_frozen BK101.out 0
              have hfz18_1 := blk_frozen BK101.out 1
              go_wp2
              go_meet
              case rel => exact ⟨_, ((l0_1.length : Int)), (by first | rfl | (simp; done) | (simp [*]; done)), H', ⟨by have := HJ2.out; first | omega | exact Nat.le_refl _⟩, ⟨by (with_reducible repeat (first | refine blk_drewN ?_ _ | refine blk_drew ?_ | refine blk_alloc ?_ _)); exact BK101.out⟩, ⟨by repeat (first | (with_reducible first | exact HB.out | apply below_alloc | apply pw_below_drewN | apply below_drew1 | refine below_set ?_ GE101.out) | exact HB.out)⟩⟩
            · rw [if_neg c17] at H
              have c17b0 : decide (t103 < 0) = false := decide_eq_false c17
              clear c17
              (first | rw [c17b0] | (simp only [i64_w, i32_w]; rw [c17b0]) | skip)
              have H' := Aside0.mk H
              clear H
              go_wp2
              go_meet
              case rel => exact ⟨_, (t103), (by first | rfl | (simp; done) | (simp [*]; done)), H', ⟨by have := HJ2.out; first | omega | exact Nat.le_refl _⟩, ⟨by (with_reducible repeat (first | refine blk_drewN ?_ _ | refine blk_drew ?_ | refine blk_alloc ?_ _)); exact BK101.out⟩, ⟨by repeat (first | (with_reducible first | exact HB.out | apply below_alloc | apply pw_below_drewN | apply below_drew1 | refine below_set ?_ GE101.out) | exact HB.out)⟩⟩
          case rest =>
            clear HC14
            try clear c1
            try clear p2
            try clear c3
            try clear c4
            try clear c6
            try clear c8
            try clear c11
            try clear c12
            try clear c12b0
            try clear c17
            try clear c17b0
            try clear hcz15_0
            try clear hcz15_1
            try clear hcz18_0
            try clear hcz18_1
            try clear hcz7_0
            try clear hcz7_1
            try clear hcz9_0
            try clear hcz9_1
            try clear hfz15_0
            try clear hfz15_1
            try clear hfz18_0
            try clear hfz18_1
            try clear hfz7_0
            try clear hfz7_1
            try clear hfz9_0
            try clear hfz9_1
            try clear p2
            obtain ⟨kq, x6_13, rfl, HA, HJ13, BK101, HB⟩ := hcut
            cases kq with
            | zero => exact absurd HA.out (by simp [slab_Vacant.j1])
            | succ kj13 =>
              have H := HA.out
              clear HA
              simp only [slab_Vacant.j1] at H
              by_cases c19 : x6_13 = (l0_1.length : Int)
              · rw [if_pos c19] at H
                have c19b0 : (x6_13 == (l0_1.length : Int)) = true := beq_iff_eq.mpr c19
                have c19b1 : (x6_13 != (l0_1.length : Int)) = false := bne_eq_false_iff_eq.mpr c19
                clear c19
                by_cases c20 : x6_13 ≥ 32
                · rw [if_pos c20] at H
                  have c20b0 : decide (32 ≤ x6_13) = true := decide_eq_true c20
                  clear c20
                  simp only [Option.some.injEq, Prod.mk.injEq] at H
                  obtain ⟨rfl, rfl⟩ := H
                  have hcz21_0 : wc.cell? ⟨gb101, 0, none⟩ = some (.int .i64 a0_0) := (blk_cell BK101.out 0).trans rfl
                  have hcz21_1 : wc.cell? ⟨gb101, 1, none⟩ = some (.slice A0_1 l0_1.length c0_1) := (blk_cell BK101.out 1).trans rfl
                  have hfz21_0 := blk_frozen BK101.out 0
                  have hfz21_1 := blk_frozen BK101.out 1
                  go_wp2
                  go_ret2
                  exact ⟨by first | rfl | (simp [errW_none, errW_some] <;> rfl) | (simp [*, errW_none, errW_some] <;> rfl), by repeat (first | (with_reducible first | exact HB.out | apply below_alloc | apply pw_below_drewN | apply below_drew1 | refine below_set ?_ GE101.out) | exact HB.out)⟩
                · rw [if_neg c20] at H
                  have c20b0 : decide (32 ≤ x6_13) = false := decide_eq_false c20
                  clear c20
                  replace H := Option.bind_eq_some_iff.mp H
                  obtain ⟨t104, A220, H⟩ := H
                  replace H : (if (wrap64 (t104 + (wrap64 (a1 + 1)))) > 240 then (some (0, 22)) else (some (x6_13, 0))) = some (r1, r2) := H
                  have A22 := Aside0.mk A220
                  clear A220
                  by_cases c23 : (wrap64 (t104 + (wrap64 (a1 + 1)))) > 240
                  · rw [if_pos c23] at H
                    have c23b0 : decide (240 < (wrap64 (t104 + (wrap64 (a1 + 1))))) = true := decide_eq_true c23
                    clear c23
                    simp only [Option.some.injEq, Prod.mk.injEq] at H
                    obtain ⟨rfl, rfl⟩ := H
                    have hcz24_0 : wc.cell? ⟨gb101, 0, none⟩ = some (.int .i64 a0_0) := (blk_cell BK101.out 0).trans rfl
                    have hcz24_1 : wc.cell? ⟨gb101, 1, none⟩ = some (.slice A0_1 l0_1.length c0_1) := (blk_cell BK101.out 1).trans rfl
                    have hfz24_0 := blk_frozen BK101.out 0
                    have hfz24_1 := blk_frozen BK101.out 1
                    go_wp2_with (first | (go_at_call 81; (with_reducible refine (slabSize0.calls _ _ l0_1 t104 _ ?side1 ?side2 A22.out).mono ?_); (case side1 => repeat (first | exact (Kd.C_below HR0_1.out HB.out) | (with_reducible refine Kd.C_alloc ?_ _) | (with_reducible refine Kd.C_drewN ?_ _) | (with_reducible refine Kd.C_drew ?_))); (case side2 => exact HC0_1.out); rintro e w25 ⟨rfl, hb⟩; have n0_ := Aside0.mk (blk_below (g := gb101) (o := .cells #[.int .i64 a0_0, .slice A0_1 l0_1.length c0_1] 24 (0, 0)) (by (with_reducible repeat (first | refine blk_drewN ?_ _ | refine blk_drew ?_ | refine blk_alloc ?_ _)); exact BK101.out) hb); have n1_ := Aside0.mk (below_step (by repeat (first | (with_reducible first | exact HB.out | apply below_alloc | apply pw_below_drewN | apply below_drew1 | refine below_set ?_ GE101.out) | exact HB.out)) hb); clear BK101; clear HB; have BK101 := n0_; have HB := n1_; clear n0_ n1_; (try clear hb); (try clear hb2); (try clear hk); (try clear hi)))
                    go_ret2
                    exact ⟨by first | rfl | (simp [errW_none, errW_some] <;> rfl) | (simp [*, errW_none, errW_some] <;> rfl), by repeat (first | (with_reducible first | exact HB.out | apply below_alloc | apply pw_below_drewN | apply below_drew1 | refine below_set ?_ GE101.out) | exact HB.out)⟩
                  · rw [if_neg c23] at H
                    have c23b0 : decide (240 < (wrap64 (t104 + (wrap64 (a1 + 1))))) = false := decide_eq_false c23
                    clear c23
                    simp only [Option.some.injEq, Prod.mk.injEq] at H
                    obtain ⟨rfl, rfl⟩ := H
                    have hcz26_0 : wc.cell? ⟨gb101, 0, none⟩ = some (.int .i64 a0_0) := (blk_cell BK101.out 0).trans rfl
                    have hcz26_1 : wc.cell? ⟨gb101, 1, none⟩ = some (.slice A0_1 l0_1.length c0_1) := (blk_cell BK101.out 1).trans rfl
                    have hfz26_0 := blk_frozen BK101.out 0
                    have hfz26_1 := blk_frozen BK101.out 1
                    go_wp2_with (first | (go_at_call 81; (with_reducible refine (slabSize0.calls _ _ l0_1 t104 _ ?side1 ?side2 A22.out).mono ?_); (case side1 => repeat (first | exact (Kd.C_below HR0_1.out HB.out) | (with_reducible refine Kd.C_alloc ?_ _) | (with_reducible refine Kd.C_drewN ?_ _) | (with_reducible refine Kd.C_drew ?_))); (case side2 => exact HC0_1.out); rintro e w27 ⟨rfl, hb⟩; have n0_ := Aside0.mk (blk_below (g := gb101) (o := .cells #[.int .i64 a0_0, .slice A0_1 l0_1.length c0_1] 24 (0, 0)) (by (with_reducible repeat (first | refine blk_drewN ?_ _ | refine blk_drew ?_ | refine blk_alloc ?_ _)); exact BK101.out) hb); have n1_ := Aside0.mk (below_step (by repeat (first | (with_reducible first | exact HB.out | apply below_alloc | apply pw_below_drewN | apply below_drew1 | refine below_set ?_ GE101.out) | exact HB.out)) hb); clear BK101; clear HB; have BK101 := n0_; have HB := n1_; clear n0_ n1_; (try clear hb); (try clear hb2); (try clear hk); (try clear hi)))
                    go_ret2
                    exact ⟨by first | rfl | (simp [errW_none, errW_some] <;> rfl) | (simp [*, errW_none, errW_some] <;> rfl), by repeat (first | (with_reducible first | exact HB.out | apply below_alloc | apply pw_below_drewN | apply below_drew1 | refine below_set ?_ GE101.out) | exact HB.out)⟩
              · rw [if_neg c19] at H
                have c19b0 : (x6_13 == (l0_1.length : Int)) = false := beq_eq_false_iff_ne.mpr c19
                have c19b1 : (x6_13 != (l0_1.length : Int)) = true := bne_iff_ne.mpr c19
                by_cases c28 : x6_13 ≥ 32
                · rw [if_pos c28] at H
                  have c28b0 : decide (32 ≤ x6_13) = true := decide_eq_true c28
                  clear c28
                  simp only [Option.some.injEq, Prod.mk.injEq] at H
                  obtain ⟨rfl, rfl⟩ := H
                  have hcz29_0 : wc.cell? ⟨gb101, 0, none⟩ = some (.int .i64 a0_0) := (blk_cell BK101.out 0).trans rfl
                  have hcz29_1 : wc.cell? ⟨gb101, 1, none⟩ = some (.slice A0_1 l0_1.length c0_1) := (blk_cell BK101.out 1).trans rfl
                  have hfz29_0 := blk_frozen BK101.out 0
                  have hfz29_1 := blk_frozen BK101.out 1
                  go_wp2
                  go_ret2
                  exact ⟨by first | rfl | (simp [errW_none, errW_some] <;> rfl) | (simp [*, errW_none, errW_some] <;> rfl), by repeat (first | (with_reducible first | exact HB.out | apply below_alloc | apply pw_below_drewN | apply below_drew1 | refine below_set ?_ GE101.out) | exact HB.out)⟩
                · rw [if_neg c28] at H
                  have c28b0 : decide (32 ≤ x6_13) = false := decide_eq_false c28
                  clear c28
                  replace H := Option.bind_eq_some_iff.mp H
                  obtain ⟨t105, A300, H⟩ := H
                  replace H : (if (wrap64 (t105 + a1)) > 240 then (some (0, 22)) else (some (x6_13, 0))) = some (r1, r2) := H
                  have A30 := Aside0.mk A300
                  clear A300
                  by_cases c31 : (wrap64 (t105 + a1)) > 240
                  · rw [if_pos c31] at H
                    have c31b0 : decide (240 < (wrap64 (t105 + a1))) = true := decide_eq_true c31
                    clear c31
                    simp only [Option.some.injEq, Prod.mk.injEq] at H
                    obtain ⟨rfl, rfl⟩ := H
                    have hcz32_0 : wc.cell? ⟨gb101, 0, none⟩ = some (.int .i64 a0_0) := (blk_cell BK101.out 0).trans rfl
                    have hcz32_1 : wc.cell? ⟨gb101, 1, none⟩ = some (.slice A0_1 l0_1.length c0_1) := (blk_cell BK101.out 1).trans rfl
                    have hfz32_0 := blk_frozen BK101.out 0
                    have hfz32_1 := blk_frozen BK101.out 1
                    go_wp2_with (first | (go_at_call 81; (with_reducible refine (slabSize0.calls _ _ l0_1 t105 _ ?side1 ?side2 A30.out).mono ?_); (case side1 => repeat (first | exact (Kd.C_below HR0_1.out HB.out) | (with_reducible refine Kd.C_alloc ?_ _) | (with_reducible refine Kd.C_drewN ?_ _) | (with_reducible refine Kd.C_drew ?_))); (case side2 => exact HC0_1.out); rintro e w33 ⟨rfl, hb⟩; have n0_ := Aside0.mk (blk_below (g := gb101) (o := .cells #[.int .i64 a0_0, .slice A0_1 l0_1.length c0_1] 24 (0, 0)) (by (with_reducible repeat (first | refine blk_drewN ?_ _ | refine blk_drew ?_ | refine blk_alloc ?_ _)); exact BK101.out) hb); have n1_ := Aside0.mk (below_step (by repeat (first | (with_reducible first | exact HB.out | apply below_alloc | apply pw_below_drewN | apply below_drew1 | refine below_set ?_ GE101.out) | exact HB.out)) hb); clear BK101; clear HB; have BK101 := n0_; have HB := n1_; clear n0_ n1_; (try clear hb); (try clear hb2); (try clear hk); (try clear hi)))
                    go_ret2
                    exact ⟨by first | rfl | (simp [errW_none, errW_some] <;> rfl) | (simp [*, errW_none, errW_some] <;> rfl), by repeat (first | (with_reducible first | exact HB.out | apply below_alloc | apply pw_below_drewN | apply below_drew1 | refine below_set ?_ GE101.out) | exact HB.out)⟩
                  · rw [if_neg c31] at H
                    have c31b0 : decide (240 < (wrap64 (t105 + a1))) = false := decide_eq_false c31
                    clear c31
                    simp only [Option.some.injEq, Prod.mk.injEq] at H
                    obtain ⟨rfl, rfl⟩ := H
                    have hcz34_0 : wc.cell? ⟨gb101, 0, none⟩ = some (.int .i64 a0_0) := (blk_cell BK101.out 0).trans rfl
                    have hcz34_1 : wc.cell? ⟨gb101, 1, none⟩ = some (.slice A0_1 l0_1.length c0_1) := (blk_cell BK101.out 1).trans rfl
                    have hfz34_0 := blk_frozen BK101.out 0
                    have hfz34_1 := blk_frozen BK101.out 1
                    go_wp2_with (first | (go_at_call 81; (with_reducible refine (slabSize0.calls _ _ l0_1 t105 _ ?side1 ?side2 A30.out).mono ?_); (case side1 => repeat (first | exact (Kd.C_below HR0_1.out HB.out) | (with_reducible refine Kd.C_alloc ?_ _) | (with_reducible refine Kd.C_drewN ?_ _) | (with_reducible refine Kd.C_drew ?_))); (case side2 => exact HC0_1.out); rintro e w35 ⟨rfl, hb⟩; have n0_ := Aside0.mk (blk_below (g := gb101) (o := .cells #[.int .i64 a0_0, .slice A0_1 l0_1.length c0_1] 24 (0, 0)) (by (with_reducible repeat (first | refine blk_drewN ?_ _ | refine blk_drew ?_ | refine blk_alloc ?_ _)); exact BK101.out) hb); have n1_ := Aside0.mk (below_step (by repeat (first | (with_reducible first | exact HB.out | apply below_alloc | apply pw_below_drewN | apply below_drew1 | refine below_set ?_ GE101.out) | exact HB.out)) hb); clear BK101; clear HB; have BK101 := n0_; have HB := n1_; clear n0_ n1_; (try clear hb); (try clear hb2); (try clear hk); (try clear hi)))
                    go_ret2
                    exact ⟨by first | rfl | (simp [errW_none, errW_some] <;> rfl) | (simp [*, errW_none, errW_some] <;> rfl), by repeat (first | (with_reducible first | exact HB.out | apply below_alloc | apply pw_below_drewN | apply below_drew1 | refine below_set ?_ GE101.out) | exact HB.out)⟩

end Go.Proofs.Ytfjmnaobfbmllaa.M

namespace Go.Proofs.Ytfjmnaobfbmllaa.M
open Go.RowKit Go.Proofs.YtfjmnaobfbmllaaW.PrintWords Go.Proofs.YtfjmnaobfbmllaaW.PrintLast Go.Proofs.YtfjmnaobfbmllaaW.PrintMore
set_option linter.unusedVariables false
set_option linter.unusedSimpArgs false

theorem z33_eq : z33 = ⟨false, ⟨#[]⟩⟩ := rfl
theorem rd_slot (l : List S33) (i : Int) : rd_T33 l i = slotL l i.toNat := rfl
theorem at_pure (a : Int) (l : List S33) (i : Int) : slab_At.f a l i = some ((atP a l i).f0, (atP a l i).f1) := by
  unfold slab_At.f slabGood.f atP
  rw [Option.bind_some]
  cases goodP a l with
  | false => rw [if_neg (by simp), if_neg (by simp)]; rfl
  | true =>
    rw [if_pos rfl]
    by_cases h0 : i < 0
    · rw [if_pos h0, if_neg (by omega)]; rfl
    · have hc : true = true ∧ 0 ≤ i := ⟨rfl, by omega⟩
      rw [if_neg h0, if_pos hc]
      by_cases h1 : i ≥ (l.length : Int)
      · rw [if_pos h1, slot_ge l _ (by omega)]; rfl
      · rw [if_neg h1, if_pos (by omega), if_pos (by omega)]; rfl
/-- How many bytes a good image needs. -/
def sizeP (a : Int) (l : List S33) : Int := if goodP a l = true then (rawSize l : Int) else 0
theorem size0_good {a : Int} {l : List S33} (h : goodP a l = true) : slabSize0.f l = some (rawSize l : Int) := by
  have := (good_facts a l h).2.2.2.2.2
  unfold rawSize at this
  unfold slabSize0.f
  rw [if_pos (by omega)]
theorem size_at (a : Int) (l : List S33) : slab_Size.f a l = some (sizeP a l) := by
  unfold slab_Size.f slabGood.f sizeP
  rw [Option.bind_some]
  by_cases h : goodP a l = true
  · rw [if_pos h, if_pos h, size0_good h]; rfl
  · rw [if_neg h, if_neg h]
/-! ### great -/
def greatP (l : List S33) : Bool := decide (100 < l.length) || l.any fun x => decide (4096 < x.f1.size)
theorem great_loop (a : Int) (l : List S33) (hl : l.length ≤ 100) (d : Nat) : ∀ (k i : Nat), i + d = l.length → d < k →
    seneschallaw03_great.l0 k i a l = some ((l.drop i).any fun x => decide (4096 < x.f1.size)) := by
  induction d with
  | zero =>
    intro k i hi hk
    obtain ⟨k, rfl⟩ : ∃ m, k = m + 1 := ⟨k - 1, by omega⟩
    simp only [seneschallaw03_great.l0]
    rw [if_neg (by omega), List.drop_of_length_le (by omega)]; rfl
  | succ d ih =>
    intro k i hi hk
    obtain ⟨k, rfl⟩ : ∃ m, k = m + 1 := ⟨k - 1, by omega⟩
    have hlt : i < l.length := by omega
    simp only [seneschallaw03_great.l0]
    rw [if_pos (by omega), if_pos (by omega), rd33 l i hlt, List.drop_eq_getElem_cons hlt, List.any_cons, w64 ((i : Int) + 1) (by omega) (by omega)]
    have := ih k (i + 1) (by omega) (by omega)
    rw [show ((i + 1 : Nat) : Int) = (i : Int) + 1 by omega] at this
    by_cases h : ((l[i].f1).size : Int) > 4096
    · rw [if_pos h, decide_eq_true (by omega)]; rfl
    · rw [if_neg h, decide_eq_false (by omega), this]; rfl
theorem great_pure (a : Int) (l : List S33) (k : Nat) (hk : 101 < k) : seneschallaw03_great.f k a l = some (greatP l) := by
  unfold seneschallaw03_great.f greatP
  by_cases h : (l.length : Int) > 100
  · rw [if_pos h, decide_eq_true (by omega)]; rfl
  · rw [if_neg h, decide_eq_false (by omega)]
    have := great_loop a l (by omega) l.length k 0 (by omega) (by omega)
    simpa using this
/-! ### vacant -/
/-- The first slot that isn't used. -/
def vk (l : List S33) : Nat := l.findIdx vacS
theorem vk_le (l : List S33) : vk l ≤ l.length := List.findIdx_le_length
theorem vk_before (l : List S33) (i : Nat) (h : i < vk l) : (slotL l i).f0 = true := by
  have hi : i < l.length := Nat.lt_of_lt_of_le h (vk_le l)
  rw [slot_lt l i hi]
  have := List.not_of_lt_findIdx h
  unfold vacS at this
  simpa using this
theorem vk_at (l : List S33) : (slotL l (vk l)).f0 = false := by
  by_cases h : vk l < l.length
  · rw [slot_lt l _ h]
    have := List.findIdx_getElem (p := vacS) (w := h)
    have h2 : vacS l[vk l] = true := this
    unfold vacS at h2
    simpa using h2
  · rw [slot_ge l _ (by omega)]; rfl
theorem idx_vk (l : List S33) : idxOf vacS l = if vk l < l.length then (vk l : Int) else -1 := by
  by_cases h : vk l < l.length
  · rw [if_pos h]
    refine idxOf_hit vacS l (vk l) h (List.findIdx_getElem (w := h)) fun j hj => ?_
    have := vk_before l j hj
    rw [slot_lt l j (by omega)] at this
    unfold vacS; simp [this]
  · rw [if_neg h]
    refine idxOf_miss vacS l fun j hj => ?_
    have := vk_before l j (by omega)
    rw [slot_lt l j (by omega)] at this
    unfold vacS; simp [this]
def vacP (a : Int) (l : List S33) (n : Int) : Int × Int :=
  if goodP a l = false ∨ n < 0 then (0, 1) else if 200 < n then (0, 5)
  else if 32 ≤ vk l ∨ 240 < rawSize l + n.toNat + (if vk l = l.length then 1 else 0) then (0, 22) else (vk l, 0)
theorem vacP_good {a : Int} {l : List S33} {n : Int} (hg : goodP a l = true) (h0 : ¬ n < 0) : vacP a l n = if 200 < n then (0, 5) else if 32 ≤ vk l ∨ 240 < rawSize l + n.toNat + (if vk l = l.length then 1 else 0) then (0, 22) else ((vk l : Int), 0) := by
  unfold vacP
  rw [if_neg]
  rw [hg]; rintro (h | h)
  · cases h
  · exact h0 h
theorem vacP_bad {a : Int} {l : List S33} {n : Int} (h : goodP a l = false ∨ n < 0) : vacP a l n = (0, 1) := by
  unfold vacP
  rw [if_pos h]
theorem vac_j1 (a : Int) (l : List S33) (hg : goodP a l = true) (n : Int) (h0 : 0 ≤ n) (h1 : n ≤ 200) (k v : Nat) (hv : v ≤ l.length) :
    slab_Vacant.j1 (k + 1) n v a l = some (if 32 ≤ v ∨ 240 < rawSize l + n.toNat + (if v = l.length then 1 else 0) then (0, 22) else ((v : Int), 0)) := by
  have hsz := (good_facts a l hg).2.2.2.2.2
  have hlen := (good_facts a l hg).2.2.1
  simp only [slab_Vacant.j1]
  rw [size0_good hg, Option.bind_some, Option.bind_some, w64 (n + 1) (by omega) (by omega), w64 _ (by omega) (by omega), w64 _ (by omega) (by omega)]
  by_cases e : (v : Int) = l.length
  · have e2 : v = l.length := by omega
    rw [if_pos e, if_pos e2]
    by_cases h32 : (v : Int) ≥ 32
    · have hc : 32 ≤ v ∨ 240 < rawSize l + n.toNat + 1 := .inl (by omega)
      rw [if_pos h32, if_pos hc]
    · rw [if_neg h32]
      by_cases hb : (rawSize l : Int) + (n + 1) > 240
      · have hc : 32 ≤ v ∨ 240 < rawSize l + n.toNat + 1 := .inr (by omega)
        rw [if_pos hb, if_pos hc]
      · have hc : ¬ (32 ≤ v ∨ 240 < rawSize l + n.toNat + 1) := by omega
        rw [if_neg hb, if_neg hc]
  · have e2 : ¬ v = l.length := by omega
    rw [if_neg e, if_neg e2]
    by_cases h32 : (v : Int) ≥ 32
    · have hc : 32 ≤ v ∨ 240 < rawSize l + n.toNat + 0 := .inl (by omega)
      rw [if_pos h32, if_pos hc]
    · rw [if_neg h32]
      by_cases hb : (rawSize l : Int) + n > 240
      · have hc : 32 ≤ v ∨ 240 < rawSize l + n.toNat + 0 := .inr (by omega)
        rw [if_pos hb, if_pos hc]
      · have hc : ¬ (32 ≤ v ∨ 240 < rawSize l + n.toNat + 0) := by omega
        rw [if_neg hb, if_neg hc]
theorem vac_pure (a : Int) (l : List S33) (n : Int) (k : Nat) (hk : 4 < k) : slab_Vacant.f k a l n = some (vacP a l n) := by
  obtain ⟨k, rfl⟩ : ∃ m, k = m + 2 := ⟨k - 2, by omega⟩
  unfold slab_Vacant.f slabGood.f
  rw [Option.bind_some]
  cases hg : goodP a l with
  | false => rw [if_neg (by simp), vacP_bad (.inl hg)]; simp [slab_Vacant.j0]
  | true =>
    rw [if_pos rfl]
    simp only [slab_Vacant.j0]
    by_cases h0 : n < 0
    · rw [decide_eq_true h0, if_pos rfl, vacP_bad (.inr h0)]
    · rw [decide_eq_false h0, if_neg Bool.false_ne_true, vacP_good hg h0]
      by_cases h1 : n > 200
      · rw [if_pos h1, if_pos h1]
      · have h1' : ¬ 200 < n := h1
        rw [if_neg h1, if_neg h1']
        unfold slices_IndexVacant.f
        rw [Option.bind_some, idx_vk]
        have hv := vk_le l
        have hj := vac_j1 a l hg n (by omega) (by omega) k (vk l) hv
        by_cases hlt : vk l < l.length
        · have hc : ¬ ((vk l : Nat) : Int) < 0 := by omega
          rw [if_pos hlt, if_neg hc, hj]
        · have hc : (-1 : Int) < 0 := by omega
          rw [if_neg hlt, if_pos hc, show (l.length : Int) = ((vk l : Nat) : Int) by omega, hj]
theorem put_sum_vacant (a : Int) (l : List S33) (x : S33) (hg : goodP a l = true) (hx : x.f0 = true) : rawSize (putL l (vk l) x) = rawSize l + x.f1.size + (if vk l = l.length then 1 else 0) := by
  obtain ⟨_, _, _, hf, hl, _⟩ := (good_iff a l).mp hg
  have h := put_sum l (vk l) x hl hx
  have hz := (slot_fine l hf (vk l)).1 (vk_at l)
  rw [hz] at h
  have hv := vk_le l
  have e0 : z33.f1.size = 0 := rfl
  rw [e0] at h
  unfold rawSize
  by_cases e : vk l = l.length
  · rw [if_pos e]; omega
  · rw [if_neg e]; omega
theorem zeros_fine (n : Nat) (h : n ≤ 200) : fineS ⟨true, strOfNums (List.replicate n 0)⟩ := ⟨fun e => Bool.noConfusion e, Nat.le_trans (Nat.le_of_eq (strOfNums_size (List.replicate n 0))) (by simp; omega)⟩
/-! ### contracts in plain words -/
def slabAt.f (a : Int) (l : List S33) (i : Int) : Option (Bool × ByteArray) := some ((atP a l i).f0, (atP a l i).f1)
theorem slabAt.calls (a : Int) (A : Option Addr) (c : Nat) (l : List S33) (i : Int) (r1 : Bool) (r2 : ByteArray) (w : World) (hr : Kd.C k33 w A l.length l) (hc : l.length ≤ c) (h : slabAt.f a l i = some (r1, r2)) :
    Calls Try.prog 39 #[.agg #[.int .i64 a, .slice A l.length c], .int .i64 i] w fun e w' => e = .returned (.agg #[.bool r1, .string r2]) ∧ Below w.heap.size w w' :=
  slab_At.calls a A c l i r1 r2 w hr hc (by rw [at_pure]; exact h)
def slabSz.f (a : Int) (l : List S33) : Option Int := some (sizeP a l)
theorem slabSz.calls (a : Int) (A : Option Addr) (c : Nat) (l : List S33) (r : Int) (w : World) (hr : Kd.C k33 w A l.length l) (hc : l.length ≤ c) (h : slabSz.f a l = some r) :
    Calls Try.prog 36 #[.agg #[.int .i64 a, .slice A l.length c]] w fun e w' => e = .returned (.int .i64 r) ∧ Below w.heap.size w w' :=
  slab_Size.calls a A c l r w hr hc (by rw [size_at]; exact h)
def great3.f (a : Int) (l : List S33) : Option Bool := some (greatP l)
theorem great3.calls (a : Int) (A : Option Addr) (c : Nat) (l : List S33) (r : Bool) (w : World) (hr : Kd.C k33 w A l.length l) (hc : l.length ≤ c) (h : great3.f a l = some r) :
    Calls Try.prog 31 #[.agg #[.int .i64 a, .slice A l.length c]] w fun e w' => e = .returned (.bool r) ∧ Below w.heap.size w w' :=
  seneschallaw03_great.calls 102 a A c l r w hr hc (by rw [great_pure a l 102 (by omega)]; exact h)
def slabVac.f (a : Int) (l : List S33) (n : Int) : Option (Int × Int) := some (vacP a l n)
theorem slabVac.calls (a : Int) (A : Option Addr) (c : Nat) (l : List S33) (n : Int) (r1 r2 : Int) (w : World) (hr : Kd.C k33 w A l.length l) (hc : l.length ≤ c) (h : slabVac.f a l n = some (r1, r2)) :
    Calls Try.prog 43 #[.agg #[.int .i64 a, .slice A l.length c], .int .i64 n] w fun e w' => e = .returned (.tuple #[.int .i64 r1, .int .i64 r2]) ∧ Below w.heap.size w w' :=
  slab_Vacant.calls 41 a A c l n r1 r2 w hr hc (by rw [vac_pure a l n 41 (by omega)]; exact h)
end Go.Proofs.Ytfjmnaobfbmllaa.M
