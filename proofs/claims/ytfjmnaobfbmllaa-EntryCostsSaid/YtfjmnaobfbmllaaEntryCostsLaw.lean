/- The law EntryCosts: it returns true for every input, and its arguments read as they did. No condition. Part 3 of 3. -/
import Derived.Test.YtfjmnaobfbmllaaProg
import Derived.Test.YtfjmnaobfbmllaaRows
import Derived.Test.YtfjmnaobfbmllaaUApart
import Derived.Test.YtfjmnaobfbmllaaUEqStruct
import Derived.Test.YtfjmnaobfbmllaaUFoot
import Derived.Test.YtfjmnaobfbmllaaUGuard
import Derived.Test.YtfjmnaobfbmllaaUKept
import Derived.Test.YtfjmnaobfbmllaaULast
import Derived.Test.YtfjmnaobfbmllaaUMore
import Derived.Test.YtfjmnaobfbmllaaUN
import Derived.Test.YtfjmnaobfbmllaaURepsOne
import Derived.Test.YtfjmnaobfbmllaaUShare
import Derived.Test.YtfjmnaobfbmllaaUTab
import Derived.Test.YtfjmnaobfbmllaaUWords
import Derived.ArgAppend
import Derived.Below
import Derived.BigQuiet
import Derived.Carry
import Derived.ChangeArms
import Derived.ChangeMaps
import Derived.ChangeOld
import Derived.Deep.AppendLies
import Derived.Deep.CutBlock
import Derived.Deep.DeepCutAuto
import Derived.Deep.Draws
import Derived.Deep.LoopGhost
import Derived.Deep.OwnRows
import Derived.Deep.QuietTactic
import Derived.Deep.RegionHeld3
import Derived.Deep.Slices
import Derived.KernelRfl
import Derived.Laws.Bits64
import Derived.Laws.Bits64b
import Derived.Laws.BitsAllLaws
import Derived.Laws.BitsLemmas
import Derived.Laws.BytesArg
import Derived.Laws.CopyOwn
import Derived.Laws.IdiomCopy
import Derived.Laws.MakeOwn
import Derived.Laws.OwnMore
import Derived.Laws.Rows
import Derived.Laws.Slices
import Derived.Lib.AppendStr
import Derived.Lib.ConvBytes
import Derived.Maps.AppendAt
import Derived.OpenShut
import Derived.OrdersHeld
import Derived.OwnWalk
import Derived.ProofKit
import Derived.RowKit
import Derived.RowKit3
import Derived.ShutString
import Derived.SizedLaws
import Derived.Tactics
import Derived.WalkKit
import Derived.WideLaws
import Derived.Test.YtfjmnaobfbmllaaEntryCostsA0
import Derived.Test.YtfjmnaobfbmllaaEntryCostsA1
namespace Go.Proofs.Ytfjmnaobfbmllaa.M
open Go.RowKit Go.Proofs.YtfjmnaobfbmllaaW.PrintWords Go.Proofs.YtfjmnaobfbmllaaW.PrintLast Go.Proofs.YtfjmnaobfbmllaaW.PrintMore
attribute [local go_sem] max2_int min2_int max_two min_two max_three min_three max_four min_four   -- for this text's walks alone
set_option linter.unusedVariables false
set_option linter.unusedSimpArgs false
set_option maxHeartbeats 8000000 in
set_option maxRecDepth 100000 in
theorem seneschallaw04_EntryCosts.calls (k : Nat) (a0_0 : Int) (a0_1 : Int) (a0_2 : Int) (a0_3 : Int) (a0_4 : Int) (a0_5 : Int) (a0_6 : Int) (a0_7 : Int) (a0_8 : Bool) (a0_9 : ByteArray) (a0_10 : Bool) (a0_11 : ByteArray) (a0_12 : Int) (r : Bool) (hrt : r = true) (w : World) (h : seneschallaw04_EntryCosts.f k a0_0 a0_1 a0_2 a0_3 a0_4 a0_5 a0_6 a0_7 a0_8 a0_9 a0_10 a0_11 a0_12 = some r) :
    Calls Try.prog 16 #[.agg #[.int .i64 a0_0, .int .i64 a0_1, .int .i64 a0_2, .int .i64 a0_3, .int .i64 a0_4, .int .i64 a0_5, .int .i64 a0_6, .int .i64 a0_7, .bool a0_8, .string a0_9, .bool a0_10, .string a0_11, .int .i64 a0_12]] w fun e w' => e = .returned (.bool r) ∧ Below w.heap.size w w' := by
  have HRT := Aside0.mk hrt
  clear hrt
  have hu65 := Try.underlying65
  have hu33 := Try.underlying33
  have HB := Aside0.mk (Below.refl w.heap.size w)
  have H : ((awake4.f).bind fun t102 => (if t102 = true then ((seneschallaw04_great.f a0_0 a0_1 a0_2 a0_3 a0_4 a0_5 a0_6 a0_7 a0_8 a0_9 a0_10 a0_11 a0_12).bind fun t103 => (if t103 = true then (seneschallaw04_EntryCosts.j0 k true a0_0 a0_1 a0_2 a0_3 a0_4 a0_5 a0_6 a0_7 a0_8 a0_9 a0_10 a0_11 a0_12) else ((entGood.f a0_0 a0_1 a0_2 a0_3 a0_4 a0_5 a0_6 a0_7 a0_8 a0_9 a0_10 a0_11 a0_12).bind fun t104 => (seneschallaw04_EntryCosts.j0 k (!t104) a0_0 a0_1 a0_2 a0_3 a0_4 a0_5 a0_6 a0_7 a0_8 a0_9 a0_10 a0_11 a0_12)))) else (some false))) = some r := h
  clear h
  replace H := Option.bind_eq_some_iff.mp H
  obtain ⟨t102, A20, H⟩ := H
  replace H : (if t102 = true then ((seneschallaw04_great.f a0_0 a0_1 a0_2 a0_3 a0_4 a0_5 a0_6 a0_7 a0_8 a0_9 a0_10 a0_11 a0_12).bind fun t103 => (if t103 = true then (seneschallaw04_EntryCosts.j0 k true a0_0 a0_1 a0_2 a0_3 a0_4 a0_5 a0_6 a0_7 a0_8 a0_9 a0_10 a0_11 a0_12) else ((entGood.f a0_0 a0_1 a0_2 a0_3 a0_4 a0_5 a0_6 a0_7 a0_8 a0_9 a0_10 a0_11 a0_12).bind fun t104 => (seneschallaw04_EntryCosts.j0 k (!t104) a0_0 a0_1 a0_2 a0_3 a0_4 a0_5 a0_6 a0_7 a0_8 a0_9 a0_10 a0_11 a0_12)))) else (some false)) = some r := H
  have A2 := Aside0.mk A20
  clear A20
  by_cases c3 : t102 = true
  · subst c3
    have H1 : ((seneschallaw04_great.f a0_0 a0_1 a0_2 a0_3 a0_4 a0_5 a0_6 a0_7 a0_8 a0_9 a0_10 a0_11 a0_12).bind fun t103 => (if t103 = true then (seneschallaw04_EntryCosts.j0 k true a0_0 a0_1 a0_2 a0_3 a0_4 a0_5 a0_6 a0_7 a0_8 a0_9 a0_10 a0_11 a0_12) else ((entGood.f a0_0 a0_1 a0_2 a0_3 a0_4 a0_5 a0_6 a0_7 a0_8 a0_9 a0_10 a0_11 a0_12).bind fun t104 => (seneschallaw04_EntryCosts.j0 k (!t104) a0_0 a0_1 a0_2 a0_3 a0_4 a0_5 a0_6 a0_7 a0_8 a0_9 a0_10 a0_11 a0_12)))) = some r := by rw [if_pos rfl] at H; exact H
    clear H
    have H := H1
    clear H1
    have HC4 := Aside0.mk H
    clear H
    go_enter Try.func16, Try.ntmps16
    go_upto_region 3 with (first | ((with_reducible refine gate_dst (N := 1) rfl ?_); refine box_event ?hg (N := 1) ?hd (cs := #[.int .i64 a0_0, .int .i64 a0_1, .int .i64 a0_2, .int .i64 a0_3, .int .i64 a0_4, .int .i64 a0_5, .int .i64 a0_6, .int .i64 a0_7, .bool a0_8, .string a0_9, .bool a0_10, .string a0_11, .int .i64 a0_12]) (t := 65) ?hr ?_; (case hd => rfl); (case hg => rfl); (case hr => first | (go_simp; done) | (go_simp; rfl)); intro gb101 hg w5 hbox hb; have n0_ := Aside0.mk (below_step (by repeat (first | (with_reducible first | exact HB.out | apply below_alloc | apply pw_below_drewN | apply below_drew1) | exact HB.out)) hb); have n1_ := Aside0.mk (hbox); have n2_ := Aside0.mk ((by rw [hg]; exact (below_size (by repeat (first | (with_reducible first | exact HB.out | apply below_alloc | apply pw_below_drewN | apply below_drew1) | exact HB.out))) : w.heap.size ≤ gb101)); have n3_ := Aside0.mk ((by rw [hg]; exact (below_size (by repeat (first | (with_reducible first | exact HB.out | apply below_alloc | apply pw_below_drewN | apply below_drew1) | exact HB.out))) : w.heap.size ≤ gb101)); clear HB; have HB := n0_; have BK101 := n1_; have GW101 := n2_; have GE101 := n3_; clear n0_ n1_ n2_ n3_; clear hb hbox hg) | ((with_reducible refine gate_callee (f := 51) rfl ?_); refine goesL_ (some 6) rfl rfl Try.func51 (by kernel_rfl) rfl #[] rfl (by (try simp only [List.map_toArray, List.map_cons, List.map_nil]); first | done | rfl | (simp only [List.length_drop, List.length_take]; rfl)) ?_; (with_reducible refine (awake4.calls  true _ A2.out).mono ?_); rintro e w6 ⟨rfl, hb⟩; refine ⟨_, rfl, ?_⟩; have n0_ := Aside0.mk (blk_below (g := gb101) (o := .cells #[.int .i64 a0_0, .int .i64 a0_1, .int .i64 a0_2, .int .i64 a0_3, .int .i64 a0_4, .int .i64 a0_5, .int .i64 a0_6, .int .i64 a0_7, .bool a0_8, .string a0_9, .bool a0_10, .string a0_11, .int .i64 a0_12] 65 (0, 0)) (by (with_reducible repeat (first | refine blk_drewN ?_ _ | refine blk_drew ?_ | refine blk_alloc ?_ _)); exact BK101.out) hb); have n1_ := Aside0.mk (below_step (by repeat (first | (with_reducible first | exact HB.out | apply below_alloc | apply pw_below_drewN | apply below_drew1 | refine below_set ?_ GE101.out) | exact HB.out)) hb); clear BK101; clear HB; have BK101 := n0_; have HB := n1_; clear n0_ n1_; (try clear hb); (try clear hb2); (try clear hk); (try clear hi)))
    (try simp only [Act.put, List.setIfInBounds_toArray, List.set_cons_zero, List.set_cons_succ])
    go_cut [14] (fun v14 wc => ∃ (kq : Nat) (x14_3 : Bool), v14 = .bool x14_3 ∧ Aside0 (seneschallaw04_EntryCosts.j0 kq x14_3 a0_0 a0_1 a0_2 a0_3 a0_4 a0_5 a0_6 a0_7 a0_8 a0_9 a0_10 a0_11 a0_12 = some r) ∧ Aside0 (kq ≤ k) ∧ Aside0 (wc.heap[gb101]? = some (.cells #[.int .i64 a0_0, .int .i64 a0_1, .int .i64 a0_2, .int .i64 a0_3, .int .i64 a0_4, .int .i64 a0_5, .int .i64 a0_6, .int .i64 a0_7, .bool a0_8, .string a0_9, .bool a0_10, .string a0_11, .int .i64 a0_12] 65 (0, 0))) ∧ Aside0 (Below w.heap.size w wc))
    case first =>
      have H := HC4.out
      clear HC4
      replace H := Option.bind_eq_some_iff.mp H
      obtain ⟨t103, A70, H⟩ := H
      replace H : (if t103 = true then (seneschallaw04_EntryCosts.j0 k true a0_0 a0_1 a0_2 a0_3 a0_4 a0_5 a0_6 a0_7 a0_8 a0_9 a0_10 a0_11 a0_12) else ((entGood.f a0_0 a0_1 a0_2 a0_3 a0_4 a0_5 a0_6 a0_7 a0_8 a0_9 a0_10 a0_11 a0_12).bind fun t104 => (seneschallaw04_EntryCosts.j0 k (!t104) a0_0 a0_1 a0_2 a0_3 a0_4 a0_5 a0_6 a0_7 a0_8 a0_9 a0_10 a0_11 a0_12))) = some r := H
      have A7 := Aside0.mk A70
      clear A70
      by_cases c8 : t103 = true
      · subst c8
        have H1 : (seneschallaw04_EntryCosts.j0 k true a0_0 a0_1 a0_2 a0_3 a0_4 a0_5 a0_6 a0_7 a0_8 a0_9 a0_10 a0_11 a0_12) = some r := by rw [if_pos rfl] at H; exact H
        clear H
        have H := H1
        clear H1
        have H' := Aside0.mk H
        clear H
        have hcz9_0 : w6.cell? ⟨gb101, 0, none⟩ = some (.int .i64 a0_0) := (blk_cell BK101.out 0).trans rfl
        have hcz9_1 : w6.cell? ⟨gb101, 1, none⟩ = some (.int .i64 a0_1) := (blk_cell BK101.out 1).trans rfl
        have hcz9_2 : w6.cell? ⟨gb101, 2, none⟩ = some (.int .i64 a0_2) := (blk_cell BK101.out 2).trans rfl
        have hcz9_3 : w6.cell? ⟨gb101, 3, none⟩ = some (.int .i64 a0_3) := (blk_cell BK101.out 3).trans rfl
        have hcz9_4 : w6.cell? ⟨gb101, 4, none⟩ = some (.int .i64 a0_4) := (blk_cell BK101.out 4).trans rfl
        have hcz9_5 : w6.cell? ⟨gb101, 5, none⟩ = some (.int .i64 a0_5) := (blk_cell BK101.out 5).trans rfl
        have hcz9_6 : w6.cell? ⟨gb101, 6, none⟩ = some (.int .i64 a0_6) := (blk_cell BK101.out 6).trans rfl
        have hcz9_7 : w6.cell? ⟨gb101, 7, none⟩ = some (.int .i64 a0_7) := (blk_cell BK101.out 7).trans rfl
        have hcz9_8 : w6.cell? ⟨gb101, 8, none⟩ = some (.bool a0_8) := (blk_cell BK101.out 8).trans rfl
        have hcz9_9 : w6.cell? ⟨gb101, 9, none⟩ = some (.string a0_9) := (blk_cell BK101.out 9).trans rfl
        have hcz9_10 : w6.cell? ⟨gb101, 10, none⟩ = some (.bool a0_10) := (blk_cell BK101.out 10).trans rfl
        have hcz9_11 : w6.cell? ⟨gb101, 11, none⟩ = some (.string a0_11) := (blk_cell BK101.out 11).trans rfl
        have hcz9_12 : w6.cell? ⟨gb101, 12, none⟩ = some (.int .i64 a0_12) := (blk_cell BK101.out 12).trans rfl
        have hfz9_0 := blk_frozen BK101.out 0
        have hfz9_1 := blk_frozen BK101.out 1
        have hfz9_2 := blk_frozen BK101.out 2
        have hfz9_3 := blk_frozen BK101.out 3
        have hfz9_4 := blk_frozen BK101.out 4
        have hfz9_5 := blk_frozen BK101.out 5
        have hfz9_6 := blk_frozen BK101.out 6
        have hfz9_7 := blk_frozen BK101.out 7
        have hfz9_8 := blk_frozen BK101.out 8
        have hfz9_9 := blk_frozen BK101.out 9
        have hfz9_10 := blk_frozen BK101.out 10
        have hfz9_11 := blk_frozen BK101.out 11
        have hfz9_12 := blk_frozen BK101.out 12
        go_wp2_with (first | ((with_reducible refine gate_callee (f := 52) rfl ?_); refine goesL_ (some 9) rfl rfl Try.func52 (by kernel_rfl) rfl #[.agg #[.int .i64 a0_0, .int .i64 a0_1, .int .i64 a0_2, .int .i64 a0_3, .int .i64 a0_4, .int .i64 a0_5, .int .i64 a0_6, .int .i64 a0_7, .bool a0_8, .string a0_9, .bool a0_10, .string a0_11, .int .i64 a0_12]] rfl (by (try simp only [List.map_toArray, List.map_cons, List.map_nil]); first | done | rfl | (simp only [List.length_drop, List.length_take]; rfl)) ?_; (with_reducible refine (seneschallaw04_great.calls a0_0 a0_1 a0_2 a0_3 a0_4 a0_5 a0_6 a0_7 a0_8 a0_9 a0_10 a0_11 a0_12 true _ A7.out).mono ?_); rintro e w10 ⟨rfl, hb⟩; refine ⟨_, rfl, ?_⟩; have n0_ := Aside0.mk (blk_below (g := gb101) (o := .cells #[.int .i64 a0_0, .int .i64 a0_1, .int .i64 a0_2, .int .i64 a0_3, .int .i64 a0_4, .int .i64 a0_5, .int .i64 a0_6, .int .i64 a0_7, .bool a0_8, .string a0_9, .bool a0_10, .string a0_11, .int .i64 a0_12] 65 (0, 0)) (by (with_reducible repeat (first | refine blk_drewN ?_ _ | refine blk_drew ?_ | refine blk_alloc ?_ _)); exact BK101.out) hb); have n1_ := Aside0.mk (below_step (by repeat (first | (with_reducible first | exact HB.out | apply below_alloc | apply pw_below_drewN | apply below_drew1 | refine below_set ?_ GE101.out) | exact HB.out)) hb); clear BK101; clear HB; have BK101 := n0_; have HB := n1_; clear n0_ n1_; (try clear hb); (try clear hb2); (try clear hk); (try clear hi)))
        go_meet
        case rel => exact ⟨_, (true), (by first | rfl | (simp; done) | (simp [*]; done)), H', ⟨by first | omega | exact Nat.le_refl _⟩, ⟨by (with_reducible repeat (first | refine blk_drewN ?_ _ | refine blk_drew ?_ | refine blk_alloc ?_ _)); exact BK101.out⟩, ⟨by repeat (first | (with_reducible first | exact HB.out | apply below_alloc | apply pw_below_drewN | apply below_drew1 | refine below_set ?_ GE101.out) | exact HB.out)⟩⟩
      · replace c8 := Bool.eq_false_iff.mpr c8
        subst c8
        have H1 : ((entGood.f a0_0 a0_1 a0_2 a0_3 a0_4 a0_5 a0_6 a0_7 a0_8 a0_9 a0_10 a0_11 a0_12).bind fun t104 => (seneschallaw04_EntryCosts.j0 k (!t104) a0_0 a0_1 a0_2 a0_3 a0_4 a0_5 a0_6 a0_7 a0_8 a0_9 a0_10 a0_11 a0_12)) = some r := by rw [if_neg (show ¬ (false = true) by decide)] at H; exact H
        clear H
        have H := H1
        clear H1
        replace H := Option.bind_eq_some_iff.mp H
        obtain ⟨t104, A110, H⟩ := H
        replace H : (seneschallaw04_EntryCosts.j0 k (!t104) a0_0 a0_1 a0_2 a0_3 a0_4 a0_5 a0_6 a0_7 a0_8 a0_9 a0_10 a0_11 a0_12) = some r := H
        have A11 := Aside0.mk A110
        clear A110
        have H' := Aside0.mk H
        clear H
        have hcz12_0 : w6.cell? ⟨gb101, 0, none⟩ = some (.int .i64 a0_0) := (blk_cell BK101.out 0).trans rfl
        have hcz12_1 : w6.cell? ⟨gb101, 1, none⟩ = some (.int .i64 a0_1) := (blk_cell BK101.out 1).trans rfl
        have hcz12_2 : w6.cell? ⟨gb101, 2, none⟩ = some (.int .i64 a0_2) := (blk_cell BK101.out 2).trans rfl
        have hcz12_3 : w6.cell? ⟨gb101, 3, none⟩ = some (.int .i64 a0_3) := (blk_cell BK101.out 3).trans rfl
        have hcz12_4 : w6.cell? ⟨gb101, 4, none⟩ = some (.int .i64 a0_4) := (blk_cell BK101.out 4).trans rfl
        have hcz12_5 : w6.cell? ⟨gb101, 5, none⟩ = some (.int .i64 a0_5) := (blk_cell BK101.out 5).trans rfl
        have hcz12_6 : w6.cell? ⟨gb101, 6, none⟩ = some (.int .i64 a0_6) := (blk_cell BK101.out 6).trans rfl
        have hcz12_7 : w6.cell? ⟨gb101, 7, none⟩ = some (.int .i64 a0_7) := (blk_cell BK101.out 7).trans rfl
        have hcz12_8 : w6.cell? ⟨gb101, 8, none⟩ = some (.bool a0_8) := (blk_cell BK101.out 8).trans rfl
        have hcz12_9 : w6.cell? ⟨gb101, 9, none⟩ = some (.string a0_9) := (blk_cell BK101.out 9).trans rfl
        have hcz12_10 : w6.cell? ⟨gb101, 10, none⟩ = some (.bool a0_10) := (blk_cell BK101.out 10).trans rfl
        have hcz12_11 : w6.cell? ⟨gb101, 11, none⟩ = some (.string a0_11) := (blk_cell BK101.out 11).trans rfl
        have hcz12_12 : w6.cell? ⟨gb101, 12, none⟩ = some (.int .i64 a0_12) := (blk_cell BK101.out 12).trans rfl
        have hfz12_0 := blk_frozen BK101.out 0
        have hfz12_1 := blk_frozen BK101.out 1
        have hfz12_2 := blk_frozen BK101.out 2
        have hfz12_3 := blk_frozen BK101.out 3
        have hfz12_4 := blk_frozen BK101.out 4
        have hfz12_5 := blk_frozen BK101.out 5
        have hfz12_6 := blk_frozen BK101.out 6
        have hfz12_7 := blk_frozen BK101.out 7
        have hfz12_8 := blk_frozen BK101.out 8
        have hfz12_9 := blk_frozen BK101.out 9
        have hfz12_10 := blk_frozen BK101.out 10
        have hfz12_11 := blk_frozen BK101.out 11
        have hfz12_12 := blk_frozen BK101.out 12
        go_wp2_with (first | ((with_reducible refine gate_callee (f := 52) rfl ?_); refine goesL_ (some 9) rfl rfl Try.func52 (by kernel_rfl) rfl #[.agg #[.int .i64 a0_0, .int .i64 a0_1, .int .i64 a0_2, .int .i64 a0_3, .int .i64 a0_4, .int .i64 a0_5, .int .i64 a0_6, .int .i64 a0_7, .bool a0_8, .string a0_9, .bool a0_10, .string a0_11, .int .i64 a0_12]] rfl (by (try simp only [List.map_toArray, List.map_cons, List.map_nil]); first | done | rfl | (simp only [List.length_drop, List.length_take]; rfl)) ?_; (with_reducible refine (seneschallaw04_great.calls a0_0 a0_1 a0_2 a0_3 a0_4 a0_5 a0_6 a0_7 a0_8 a0_9 a0_10 a0_11 a0_12 false _ A7.out).mono ?_); rintro e w13 ⟨rfl, hb⟩; refine ⟨_, rfl, ?_⟩; have n0_ := Aside0.mk (blk_below (g := gb101) (o := .cells #[.int .i64 a0_0, .int .i64 a0_1, .int .i64 a0_2, .int .i64 a0_3, .int .i64 a0_4, .int .i64 a0_5, .int .i64 a0_6, .int .i64 a0_7, .bool a0_8, .string a0_9, .bool a0_10, .string a0_11, .int .i64 a0_12] 65 (0, 0)) (by (with_reducible repeat (first | refine blk_drewN ?_ _ | refine blk_drew ?_ | refine blk_alloc ?_ _)); exact BK101.out) hb); have n1_ := Aside0.mk (below_step (by repeat (first | (with_reducible first | exact HB.out | apply below_alloc | apply pw_below_drewN | apply below_drew1 | refine below_set ?_ GE101.out) | exact HB.out)) hb); clear BK101; clear HB; have BK101 := n0_; have HB := n1_; clear n0_ n1_; (try clear hb); (try clear hb2); (try clear hk); (try clear hi); have hcz14_0 : w13.cell? ⟨gb101, 0, none⟩ = some (.int .i64 a0_0) := (blk_cell BK101.out 0).trans rfl; have hcz14_1 : w13.cell? ⟨gb101, 1, none⟩ = some (.int .i64 a0_1) := (blk_cell BK101.out 1).trans rfl; have hcz14_2 : w13.cell? ⟨gb101, 2, none⟩ = some (.int .i64 a0_2) := (blk_cell BK101.out 2).trans rfl; have hcz14_3 : w13.cell? ⟨gb101, 3, none⟩ = some (.int .i64 a0_3) := (blk_cell BK101.out 3).trans rfl; have hcz14_4 : w13.cell? ⟨gb101, 4, none⟩ = some (.int .i64 a0_4) := (blk_cell BK101.out 4).trans rfl; have hcz14_5 : w13.cell? ⟨gb101, 5, none⟩ = some (.int .i64 a0_5) := (blk_cell BK101.out 5).trans rfl; have hcz14_6 : w13.cell? ⟨gb101, 6, none⟩ = some (.int .i64 a0_6) := (blk_cell BK101.out 6).trans rfl; have hcz14_7 : w13.cell? ⟨gb101, 7, none⟩ = some (.int .i64 a0_7) := (blk_cell BK101.out 7).trans rfl; have hcz14_8 : w13.cell? ⟨gb101, 8, none⟩ = some (.bool a0_8) := (blk_cell BK101.out 8).trans rfl; have hcz14_9 : w13.cell? ⟨gb101, 9, none⟩ = some (.string a0_9) := (blk_cell BK101.out 9).trans rfl; have hcz14_10 : w13.cell? ⟨gb101, 10, none⟩ = some (.bool a0_10) := (blk_cell BK101.out 10).trans rfl; have hcz14_11 : w13.cell? ⟨gb101, 11, none⟩ = some (.string a0_11) := (blk_cell BK101.out 11).trans rfl; have hcz14_12 : w13.cell? ⟨gb101, 12, none⟩ = some (.int .i64 a0_12) := (blk_cell BK101.out 12).trans rfl; have hfz14_0 := blk_frozen BK101.out 0; have hfz14_1 := blk_frozen BK101.out 1; have hfz14_2 := blk_frozen BK101.out 2; have hfz14_3 := blk_frozen BK101.out 3; have hfz14_4 := blk_frozen BK101.out 4; have hfz14_5 := blk_frozen BK101.out 5; have hfz14_6 := blk_frozen BK101.out 6; have hfz14_7 := blk_frozen BK101.out 7; have hfz14_8 := blk_frozen BK101.out 8; have hfz14_9 := blk_frozen BK101.out 9; have hfz14_10 := blk_frozen BK101.out 10; have hfz14_11 := blk_frozen BK101.out 11; have hfz14_12 := blk_frozen BK101.out 12) | (go_at_call 55; (with_reducible refine (entGood.calls a0_0 a0_1 a0_2 a0_3 a0_4 a0_5 a0_6 a0_7 a0_8 a0_9 a0_10 a0_11 a0_12 t104 _ A11.out).mono ?_); rintro e w15 ⟨rfl, hb⟩; have n0_ := Aside0.mk (blk_below (g := gb101) (o := .cells #[.int .i64 a0_0, .int .i64 a0_1, .int .i64 a0_2, .int .i64 a0_3, .int .i64 a0_4, .int .i64 a0_5, .int .i64 a0_6, .int .i64 a0_7, .bool a0_8, .string a0_9, .bool a0_10, .string a0_11, .int .i64 a0_12] 65 (0, 0)) (by (with_reducible repeat (first | refine blk_drewN ?_ _ | refine blk_drew ?_ | refine blk_alloc ?_ _)); exact BK101.out) hb); have n1_ := Aside0.mk (below_step (by repeat (first | (with_reducible first | exact HB.out | apply below_alloc | apply pw_below_drewN | apply below_drew1 | refine below_set ?_ GE101.out) | exact HB.out)) hb); clear BK101; clear HB; have BK101 := n0_; have HB := n1_; clear n0_ n1_; (try clear hb); (try clear hb2); (try clear hk); (try clear hi)))
        go_meet
        case rel => exact ⟨_, (!t104), (by first | rfl | (simp; done) | (simp [*]; done)), H', ⟨by first | omega | exact Nat.le_refl _⟩, ⟨by (with_reducible repeat (first | refine blk_drewN ?_ _ | refine blk_drew ?_ | refine blk_alloc ?_ _)); exact BK101.out⟩, ⟨by repeat (first | (with_reducible first | exact HB.out | apply below_alloc | apply pw_below_drewN | apply below_drew1 | refine below_set ?_ GE101.out) | exact HB.out)⟩⟩
    case rest =>
      clear HC4
      try clear c1
      try clear p2
      try clear c3
      try clear c5
      try clear c8
      try clear hcz12_0
      try clear hcz12_1
      try clear hcz12_10
      try clear hcz12_11
      try clear hcz12_12
      try clear hcz12_2
      try clear hcz12_3
      try clear hcz12_4
      try clear hcz12_5
      try clear hcz12_6
      try clear hcz12_7
      try clear hcz12_8
      try clear hcz12_9
      try clear hcz14_0
      try clear hcz14_1
      try clear hcz14_10
      try clear hcz14_11
      try clear hcz14_12
      try clear hcz14_2
      try clear hcz14_3
      try clear hcz14_4
      try clear hcz14_5
      try clear hcz14_6
      try clear hcz14_7
      try clear hcz14_8
      try clear hcz14_9
      try clear hcz9_0
      try clear hcz9_1
      try clear hcz9_10
      try clear hcz9_11
      try clear hcz9_12
      try clear hcz9_2
      try clear hcz9_3
      try clear hcz9_4
      try clear hcz9_5
      try clear hcz9_6
      try clear hcz9_7
      try clear hcz9_8
      try clear hcz9_9
      try clear hfz12_0
      try clear hfz12_1
      try clear hfz12_10
      try clear hfz12_11
      try clear hfz12_12
      try clear hfz12_2
      try clear hfz12_3
      try clear hfz12_4
      try clear hfz12_5
      try clear hfz12_6
      try clear hfz12_7
      try clear hfz12_8
      try clear hfz12_9
      try clear hfz14_0
      try clear hfz14_1
      try clear hfz14_10
      try clear hfz14_11
      try clear hfz14_12
      try clear hfz14_2
      try clear hfz14_3
      try clear hfz14_4
      try clear hfz14_5
      try clear hfz14_6
      try clear hfz14_7
      try clear hfz14_8
      try clear hfz14_9
      try clear hfz9_0
      try clear hfz9_1
      try clear hfz9_10
      try clear hfz9_11
      try clear hfz9_12
      try clear hfz9_2
      try clear hfz9_3
      try clear hfz9_4
      try clear hfz9_5
      try clear hfz9_6
      try clear hfz9_7
      try clear hfz9_8
      try clear hfz9_9
      obtain ⟨kq, x14_3, rfl, HA, HJ3, BK101, HB⟩ := hcut
      cases kq with
      | zero => exact absurd HA.out (by simp [seneschallaw04_EntryCosts.j0])
      | succ kj3 =>
        have H := HA.out
        clear HA
        simp only [seneschallaw04_EntryCosts.j0] at H
        by_cases c16 : x14_3 = true
        · subst c16
          have H1 : (some true) = some r := by rw [if_pos rfl] at H; exact H
          clear H
          have H := H1
          clear H1
          obtain rfl := Option.some.inj H
          go_wp2
          go_ret
          exact ⟨by first | rfl | (simp [errW_none, errW_some] <;> rfl) | (simp [*, errW_none, errW_some] <;> rfl), by repeat (first | (with_reducible first | exact HB.out | apply below_alloc | apply pw_below_drewN | apply below_drew1 | refine below_set ?_ GE101.out) | exact HB.out)⟩
        · replace c16 := Bool.eq_false_iff.mpr c16
          subst c16
          have H1 : ((entCost.f a0_0 a0_1 a0_2 a0_3 a0_4 a0_5 a0_6 a0_7 a0_8 a0_9 a0_10 a0_11 a0_12).bind fun t105 => (if t105 < 2 then (seneschallaw04_EntryCosts.j1 kj3 t105 true a0_0 a0_1 a0_2 a0_3 a0_4 a0_5 a0_6 a0_7 a0_8 a0_9 a0_10 a0_11 a0_12) else (seneschallaw04_EntryCosts.j1 kj3 t105 (decide (t105 > 3)) a0_0 a0_1 a0_2 a0_3 a0_4 a0_5 a0_6 a0_7 a0_8 a0_9 a0_10 a0_11 a0_12))) = some r := by rw [if_neg (show ¬ (false = true) by decide)] at H; exact H
          clear H
          have H := H1
          clear H1
          replace H := Option.bind_eq_some_iff.mp H
          obtain ⟨t105, A170, H⟩ := H
          replace H : (if t105 < 2 then (seneschallaw04_EntryCosts.j1 kj3 t105 true a0_0 a0_1 a0_2 a0_3 a0_4 a0_5 a0_6 a0_7 a0_8 a0_9 a0_10 a0_11 a0_12) else (seneschallaw04_EntryCosts.j1 kj3 t105 (decide (t105 > 3)) a0_0 a0_1 a0_2 a0_3 a0_4 a0_5 a0_6 a0_7 a0_8 a0_9 a0_10 a0_11 a0_12)) = some r := H
          have A17 := Aside0.mk A170
          clear A170
          have HC18 := Aside0.mk H
          clear H
          have hcz19_0 : wc.cell? ⟨gb101, 0, none⟩ = some (.int .i64 a0_0) := (blk_cell BK101.out 0).trans rfl
          have hcz19_1 : wc.cell? ⟨gb101, 1, none⟩ = some (.int .i64 a0_1) := (blk_cell BK101.out 1).trans rfl
          have hcz19_2 : wc.cell? ⟨gb101, 2, none⟩ = some (.int .i64 a0_2) := (blk_cell BK101.out 2).trans rfl
          have hcz19_3 : wc.cell? ⟨gb101, 3, none⟩ = some (.int .i64 a0_3) := (blk_cell BK101.out 3).trans rfl
          have hcz19_4 : wc.cell? ⟨gb101, 4, none⟩ = some (.int .i64 a0_4) := (blk_cell BK101.out 4).trans rfl
          have hcz19_5 : wc.cell? ⟨gb101, 5, none⟩ = some (.int .i64 a0_5) := (blk_cell BK101.out 5).trans rfl
          have hcz19_6 : wc.cell? ⟨gb101, 6, none⟩ = some (.int .i64 a0_6) := (blk_cell BK101.out 6).trans rfl
          have hcz19_7 : wc.cell? ⟨gb101, 7, none⟩ = some (.int .i64 a0_7) := (blk_cell BK101.out 7).trans rfl
          have hcz19_8 : wc.cell? ⟨gb101, 8, none⟩ = some (.bool a0_8) := (blk_cell BK101.out 8).trans rfl
          have hcz19_9 : wc.cell? ⟨gb101, 9, none⟩ = some (.string a0_9) := (blk_cell BK101.out 9).trans rfl
          have hcz19_10 : wc.cell? ⟨gb101, 10, none⟩ = some (.bool a0_10) := (blk_cell BK101.out 10).trans rfl
          have hcz19_11 : wc.cell? ⟨gb101, 11, none⟩ = some (.string a0_11) := (blk_cell BK101.out 11).trans rfl
          have hcz19_12 : wc.cell? ⟨gb101, 12, none⟩ = some (.int .i64 a0_12) := (blk_cell BK101.out 12).trans rfl
          have hfz19_0 := blk_frozen BK101.out 0
          have hfz19_1 := blk_frozen BK101.out 1
          have hfz19_2 := blk_frozen BK101.out 2
          have hfz19_3 := blk_frozen BK101.out 3
          have hfz19_4 := blk_frozen BK101.out 4
          have hfz19_5 := blk_frozen BK101.out 5
          have hfz19_6 := blk_frozen BK101.out 6
          have hfz19_7 := blk_frozen BK101.out 7
          have hfz19_8 := blk_frozen BK101.out 8
          have hfz19_9 := blk_frozen BK101.out 9
          have hfz19_10 := blk_frozen BK101.out 10
          have hfz19_11 := blk_frozen BK101.out 11
          have hfz19_12 := blk_frozen BK101.out 12
          go_upto_region 6 with (first | ((with_reducible refine gate_callee (f := 57) rfl ?_); refine goesL_ (some 16) rfl rfl Try.func57 (by kernel_rfl) rfl #[.agg #[.int .i64 a0_0, .int .i64 a0_1, .int .i64 a0_2, .int .i64 a0_3, .int .i64 a0_4, .int .i64 a0_5, .int .i64 a0_6, .int .i64 a0_7, .bool a0_8, .string a0_9, .bool a0_10, .string a0_11, .int .i64 a0_12]] rfl (by (try simp only [List.map_toArray, List.map_cons, List.map_nil]); first | done | rfl | (simp only [List.length_drop, List.length_take]; rfl)) ?_; (with_reducible refine (entCost.calls a0_0 a0_1 a0_2 a0_3 a0_4 a0_5 a0_6 a0_7 a0_8 a0_9 a0_10 a0_11 a0_12 t105 _ A17.out).mono ?_); rintro e w20 ⟨rfl, hb⟩; refine ⟨_, rfl, ?_⟩; have n0_ := Aside0.mk (blk_below (g := gb101) (o := .cells #[.int .i64 a0_0, .int .i64 a0_1, .int .i64 a0_2, .int .i64 a0_3, .int .i64 a0_4, .int .i64 a0_5, .int .i64 a0_6, .int .i64 a0_7, .bool a0_8, .string a0_9, .bool a0_10, .string a0_11, .int .i64 a0_12] 65 (0, 0)) (by (with_reducible repeat (first | refine blk_drewN ?_ _ | refine blk_drew ?_ | refine blk_alloc ?_ _)); exact BK101.out) hb); have n1_ := Aside0.mk (below_step (by repeat (first | (with_reducible first | exact HB.out | apply below_alloc | apply pw_below_drewN | apply below_drew1 | refine below_set ?_ GE101.out) | exact HB.out)) hb); clear BK101; clear HB; have BK101 := n0_; have HB := n1_; clear n0_ n1_; (try clear hb); (try clear hb2); (try clear hk); (try clear hi)))
          (try simp only [Act.put, List.setIfInBounds_toArray, List.set_cons_zero, List.set_cons_succ])
          go_cut [22] (fun v22 wc => ∃ (kq : Nat) (x22_17 : Bool), v22 = .bool x22_17 ∧ Aside0 (seneschallaw04_EntryCosts.j1 kq t105 x22_17 a0_0 a0_1 a0_2 a0_3 a0_4 a0_5 a0_6 a0_7 a0_8 a0_9 a0_10 a0_11 a0_12 = some r) ∧ Aside0 (kq ≤ kj3) ∧ Aside0 (wc.heap[gb101]? = some (.cells #[.int .i64 a0_0, .int .i64 a0_1, .int .i64 a0_2, .int .i64 a0_3, .int .i64 a0_4, .int .i64 a0_5, .int .i64 a0_6, .int .i64 a0_7, .bool a0_8, .string a0_9, .bool a0_10, .string a0_11, .int .i64 a0_12] 65 (0, 0))) ∧ Aside0 (Below w.heap.size w wc))
          case first =>
            have H := HC18.out
            clear HC18
            by_cases c21 : t105 < 2
            · rw [if_pos c21] at H
              have c21b0 : decide (t105 < 2) = true := decide_eq_true c21
              clear c21
              (first | rw [c21b0] | (simp only [i64_w, i32_w]; rw [c21b0]) | skip)
              have H' := Aside0.mk H
              clear H
              go_wp2
              go_meet
              case rel => exact ⟨_, (true), (by first | rfl | (simp; done) | (simp [*]; done)), H', ⟨by have := HJ3.out; first | omega | exact Nat.le_refl _⟩, ⟨by (with_reducible repeat (first | refine blk_drewN ?_ _ | refine blk_drew ?_ | refine blk_alloc ?_ _)); exact BK101.out⟩, ⟨by repeat (first | (with_reducible first | exact HB.out | apply below_alloc | apply pw_below_drewN | apply below_drew1 | refine below_set ?_ GE101.out) | exact HB.out)⟩⟩
            · rw [if_neg c21] at H
              have c21b0 : decide (t105 < 2) = false := decide_eq_false c21
              clear c21
              (first | rw [c21b0] | (simp only [i64_w, i32_w]; rw [c21b0]) | skip)
              have H' := Aside0.mk H
              clear H
              go_wp2
              go_meet
              case rel => exact ⟨_, (decide (t105 > 3)), (by first | rfl | (simp; done) | (simp [*]; done)), H', ⟨by have := HJ3.out; first | omega | exact Nat.le_refl _⟩, ⟨by (with_reducible repeat (first | refine blk_drewN ?_ _ | refine blk_drew ?_ | refine blk_alloc ?_ _)); exact BK101.out⟩, ⟨by repeat (first | (with_reducible first | exact HB.out | apply below_alloc | apply pw_below_drewN | apply below_drew1 | refine below_set ?_ GE101.out) | exact HB.out)⟩⟩
          case rest =>
            clear HC18
            try clear c1
            try clear c2
            try clear p2
            try clear c3
            try clear c5
            try clear c8
            try clear c16
            try clear c21
            try clear c21b0
            try clear hcz12_0
            try clear hcz12_1
            try clear hcz12_10
            try clear hcz12_11
            try clear hcz12_12
            try clear hcz12_2
            try clear hcz12_3
            try clear hcz12_4
            try clear hcz12_5
            try clear hcz12_6
            try clear hcz12_7
            try clear hcz12_8
            try clear hcz12_9
            try clear hcz14_0
            try clear hcz14_1
            try clear hcz14_10
            try clear hcz14_11
            try clear hcz14_12
            try clear hcz14_2
            try clear hcz14_3
            try clear hcz14_4
            try clear hcz14_5
            try clear hcz14_6
            try clear hcz14_7
            try clear hcz14_8
            try clear hcz14_9
            try clear hcz19_0
            try clear hcz19_1
            try clear hcz19_10
            try clear hcz19_11
            try clear hcz19_12
            try clear hcz19_2
            try clear hcz19_3
            try clear hcz19_4
            try clear hcz19_5
            try clear hcz19_6
            try clear hcz19_7
            try clear hcz19_8
            try clear hcz19_9
            try clear hcz9_0
            try clear hcz9_1
            try clear hcz9_10
            try clear hcz9_11
            try clear hcz9_12
            try clear hcz9_2
            try clear hcz9_3
            try clear hcz9_4
            try clear hcz9_5
            try clear hcz9_6
            try clear hcz9_7
            try clear hcz9_8
            try clear hcz9_9
            try clear hfz12_0
            try clear hfz12_1
            try clear hfz12_10
            try clear hfz12_11
            try clear hfz12_12
            try clear hfz12_2
            try clear hfz12_3
            try clear hfz12_4
            try clear hfz12_5
            try clear hfz12_6
            try clear hfz12_7
            try clear hfz12_8
            try clear hfz12_9
            try clear hfz14_0
            try clear hfz14_1
            try clear hfz14_10
            try clear hfz14_11
            try clear hfz14_12
            try clear hfz14_2
            try clear hfz14_3
            try clear hfz14_4
            try clear hfz14_5
            try clear hfz14_6
            try clear hfz14_7
            try clear hfz14_8
            try clear hfz14_9
            try clear hfz19_0
            try clear hfz19_1
            try clear hfz19_10
            try clear hfz19_11
            try clear hfz19_12
            try clear hfz19_2
            try clear hfz19_3
            try clear hfz19_4
            try clear hfz19_5
            try clear hfz19_6
            try clear hfz19_7
            try clear hfz19_8
            try clear hfz19_9
            try clear hfz9_0
            try clear hfz9_1
            try clear hfz9_10
            try clear hfz9_11
            try clear hfz9_12
            try clear hfz9_2
            try clear hfz9_3
            try clear hfz9_4
            try clear hfz9_5
            try clear hfz9_6
            try clear hfz9_7
            try clear hfz9_8
            try clear hfz9_9
            try clear p2
            obtain ⟨kq, x22_17, rfl, HA, HJ17, BK101, HB⟩ := hcut
            cases kq with
            | zero => exact absurd HA.out (by simp [seneschallaw04_EntryCosts.j1])
            | succ kj17 =>
              have H := HA.out
              clear HA
              simp only [seneschallaw04_EntryCosts.j1] at H
              by_cases c22 : x22_17 = true
              · subst c22
                have H1 : (some false) = some r := by rw [if_pos rfl] at H; exact H
                clear H
                have H := H1
                clear H1
                obtain rfl := Option.some.inj H
                exact absurd HRT.out (by decide)
              · replace c22 := Bool.eq_false_iff.mpr c22
                subst c22
                have H1 : (if a0_0 = 1 then (seneschallaw04_EntryCosts.j2 kj17 t105 (a0_4 == 1099511627776) a0_0 a0_1 a0_2 a0_3 a0_4 a0_5 a0_6 a0_7 a0_8 a0_9 a0_10 a0_11 a0_12) else (seneschallaw04_EntryCosts.j2 kj17 t105 true a0_0 a0_1 a0_2 a0_3 a0_4 a0_5 a0_6 a0_7 a0_8 a0_9 a0_10 a0_11 a0_12)) = some r := by rw [if_neg (show ¬ (false = true) by decide)] at H; exact H
                clear H
                have H := H1
                clear H1
                have HC23 := Aside0.mk H
                clear H
                go_upto_region 8 with (fail)
                go_cut [30] (fun v30 wc => ∃ (kq : Nat) (x30_22 : Bool), v30 = .bool x30_22 ∧ Aside0 (seneschallaw04_EntryCosts.j2 kq t105 x30_22 a0_0 a0_1 a0_2 a0_3 a0_4 a0_5 a0_6 a0_7 a0_8 a0_9 a0_10 a0_11 a0_12 = some r) ∧ Aside0 (kq ≤ kj17) ∧ Aside0 (wc.heap[gb101]? = some (.cells #[.int .i64 a0_0, .int .i64 a0_1, .int .i64 a0_2, .int .i64 a0_3, .int .i64 a0_4, .int .i64 a0_5, .int .i64 a0_6, .int .i64 a0_7, .bool a0_8, .string a0_9, .bool a0_10, .string a0_11, .int .i64 a0_12] 65 (0, 0))) ∧ Aside0 (Below w.heap.size w wc))
                case first =>
                  have H := HC23.out
                  clear HC23
                  by_cases c24 : a0_0 = 1
                  · rw [if_pos c24] at H
                    have c24b0 : (a0_0 == 1) = true := beq_iff_eq.mpr c24
                    have c24b1 : (a0_0 != 1) = false := bne_eq_false_iff_eq.mpr c24
                    clear c24
                    (first | rw [c24b0] | (simp only [i64_w, i32_w]; rw [c24b0]) | skip)
                    have H' := Aside0.mk H
                    clear H
                    have hcz25_0 : wc.cell? ⟨gb101, 0, none⟩ = some (.int .i64 a0_0) := (blk_cell BK101.out 0).trans rfl
                    have hcz25_1 : wc.cell? ⟨gb101, 1, none⟩ = some (.int .i64 a0_1) := (blk_cell BK101.out 1).trans rfl
                    have hcz25_2 : wc.cell? ⟨gb101, 2, none⟩ = some (.int .i64 a0_2) := (blk_cell BK101.out 2).trans rfl
                    have hcz25_3 : wc.cell? ⟨gb101, 3, none⟩ = some (.int .i64 a0_3) := (blk_cell BK101.out 3).trans rfl
                    have hcz25_4 : wc.cell? ⟨gb101, 4, none⟩ = some (.int .i64 a0_4) := (blk_cell BK101.out 4).trans rfl
                    have hcz25_5 : wc.cell? ⟨gb101, 5, none⟩ = some (.int .i64 a0_5) := (blk_cell BK101.out 5).trans rfl
                    have hcz25_6 : wc.cell? ⟨gb101, 6, none⟩ = some (.int .i64 a0_6) := (blk_cell BK101.out 6).trans rfl
                    have hcz25_7 : wc.cell? ⟨gb101, 7, none⟩ = some (.int .i64 a0_7) := (blk_cell BK101.out 7).trans rfl
                    have hcz25_8 : wc.cell? ⟨gb101, 8, none⟩ = some (.bool a0_8) := (blk_cell BK101.out 8).trans rfl
                    have hcz25_9 : wc.cell? ⟨gb101, 9, none⟩ = some (.string a0_9) := (blk_cell BK101.out 9).trans rfl
                    have hcz25_10 : wc.cell? ⟨gb101, 10, none⟩ = some (.bool a0_10) := (blk_cell BK101.out 10).trans rfl
                    have hcz25_11 : wc.cell? ⟨gb101, 11, none⟩ = some (.string a0_11) := (blk_cell BK101.out 11).trans rfl
                    have hcz25_12 : wc.cell? ⟨gb101, 12, none⟩ = some (.int .i64 a0_12) := (blk_cell BK101.out 12).trans rfl
                    have hfz25_0 := blk_frozen BK101.out 0
                    have hfz25_1 := blk_frozen BK101.out 1
                    have hfz25_2 := blk_frozen BK101.out 2
                    have hfz25_3 := blk_frozen BK101.out 3
                    have hfz25_4 := blk_frozen BK101.out 4
                    have hfz25_5 := blk_frozen BK101.out 5
                    have hfz25_6 := blk_frozen BK101.out 6
                    have hfz25_7 := blk_frozen BK101.out 7
                    have hfz25_8 := blk_frozen BK101.out 8
                    have hfz25_9 := blk_frozen BK101.out 9
                    have hfz25_10 := blk_frozen BK101.out 10
                    have hfz25_11 := blk_frozen BK101.out 11
                    have hfz25_12 := blk_frozen BK101.out 12
                    go_wp2
                    go_meet
                    case rel => exact ⟨_, ((a0_4 == 1099511627776)), (by first | rfl | (simp; done) | (simp [*]; done)), H', ⟨by have := HJ3.out; have := HJ17.out; first | omega | exact Nat.le_refl _⟩, ⟨by (with_reducible repeat (first | refine blk_drewN ?_ _ | refine blk_drew ?_ | refine blk_alloc ?_ _)); exact BK101.out⟩, ⟨by repeat (first | (with_reducible first | exact HB.out | apply below_alloc | apply pw_below_drewN | apply below_drew1 | refine below_set ?_ GE101.out) | exact HB.out)⟩⟩
                  · rw [if_neg c24] at H
                    have c24b0 : (a0_0 == 1) = false := beq_eq_false_iff_ne.mpr c24
                    have c24b1 : (a0_0 != 1) = true := bne_iff_ne.mpr c24
                    (first | rw [c24b0] | (simp only [i64_w, i32_w]; rw [c24b0]) | skip)
                    have H' := Aside0.mk H
                    clear H
                    have hcz26_0 : wc.cell? ⟨gb101, 0, none⟩ = some (.int .i64 a0_0) := (blk_cell BK101.out 0).trans rfl
                    have hcz26_1 : wc.cell? ⟨gb101, 1, none⟩ = some (.int .i64 a0_1) := (blk_cell BK101.out 1).trans rfl
                    have hcz26_2 : wc.cell? ⟨gb101, 2, none⟩ = some (.int .i64 a0_2) := (blk_cell BK101.out 2).trans rfl
                    have hcz26_3 : wc.cell? ⟨gb101, 3, none⟩ = some (.int .i64 a0_3) := (blk_cell BK101.out 3).trans rfl
                    have hcz26_4 : wc.cell? ⟨gb101, 4, none⟩ = some (.int .i64 a0_4) := (blk_cell BK101.out 4).trans rfl
                    have hcz26_5 : wc.cell? ⟨gb101, 5, none⟩ = some (.int .i64 a0_5) := (blk_cell BK101.out 5).trans rfl
                    have hcz26_6 : wc.cell? ⟨gb101, 6, none⟩ = some (.int .i64 a0_6) := (blk_cell BK101.out 6).trans rfl
                    have hcz26_7 : wc.cell? ⟨gb101, 7, none⟩ = some (.int .i64 a0_7) := (blk_cell BK101.out 7).trans rfl
                    have hcz26_8 : wc.cell? ⟨gb101, 8, none⟩ = some (.bool a0_8) := (blk_cell BK101.out 8).trans rfl
                    have hcz26_9 : wc.cell? ⟨gb101, 9, none⟩ = some (.string a0_9) := (blk_cell BK101.out 9).trans rfl
                    have hcz26_10 : wc.cell? ⟨gb101, 10, none⟩ = some (.bool a0_10) := (blk_cell BK101.out 10).trans rfl
                    have hcz26_11 : wc.cell? ⟨gb101, 11, none⟩ = some (.string a0_11) := (blk_cell BK101.out 11).trans rfl
                    have hcz26_12 : wc.cell? ⟨gb101, 12, none⟩ = some (.int .i64 a0_12) := (blk_cell BK101.out 12).trans rfl
                    have hfz26_0 := blk_frozen BK101.out 0
                    have hfz26_1 := blk_frozen BK101.out 1
                    have hfz26_2 := blk_frozen BK101.out 2
                    have hfz26_3 := blk_frozen BK101.out 3
                    have hfz26_4 := blk_frozen BK101.out 4
                    have hfz26_5 := blk_frozen BK101.out 5
                    have hfz26_6 := blk_frozen BK101.out 6
                    have hfz26_7 := blk_frozen BK101.out 7
                    have hfz26_8 := blk_frozen BK101.out 8
                    have hfz26_9 := blk_frozen BK101.out 9
                    have hfz26_10 := blk_frozen BK101.out 10
                    have hfz26_11 := blk_frozen BK101.out 11
                    have hfz26_12 := blk_frozen BK101.out 12
                    go_wp2
                    go_meet
                    case rel => exact ⟨_, (true), (by first | rfl | (simp; done) | (simp [*]; done)), H', ⟨by have := HJ3.out; have := HJ17.out; first | omega | exact Nat.le_refl _⟩, ⟨by (with_reducible repeat (first | refine blk_drewN ?_ _ | refine blk_drew ?_ | refine blk_alloc ?_ _)); exact BK101.out⟩, ⟨by repeat (first | (with_reducible first | exact HB.out | apply below_alloc | apply pw_below_drewN | apply below_drew1 | refine below_set ?_ GE101.out) | exact HB.out)⟩⟩
                case rest =>
                  clear HC23
                  try clear c1
                  try clear c2
                  try clear p2
                  try clear c3
                  try clear c5
                  try clear c8
                  try clear c16
                  try clear c21
                  try clear c21b0
                  try clear c22
                  try clear c24
                  try clear c24b0
                  try clear c24b1
                  try clear hcz12_0
                  try clear hcz12_1
                  try clear hcz12_10
                  try clear hcz12_11
                  try clear hcz12_12
                  try clear hcz12_2
                  try clear hcz12_3
                  try clear hcz12_4
                  try clear hcz12_5
                  try clear hcz12_6
                  try clear hcz12_7
                  try clear hcz12_8
                  try clear hcz12_9
                  try clear hcz14_0
                  try clear hcz14_1
                  try clear hcz14_10
                  try clear hcz14_11
                  try clear hcz14_12
                  try clear hcz14_2
                  try clear hcz14_3
                  try clear hcz14_4
                  try clear hcz14_5
                  try clear hcz14_6
                  try clear hcz14_7
                  try clear hcz14_8
                  try clear hcz14_9
                  try clear hcz19_0
                  try clear hcz19_1
                  try clear hcz19_10
                  try clear hcz19_11
                  try clear hcz19_12
                  try clear hcz19_2
                  try clear hcz19_3
                  try clear hcz19_4
                  try clear hcz19_5
                  try clear hcz19_6
                  try clear hcz19_7
                  try clear hcz19_8
                  try clear hcz19_9
                  try clear hcz25_0
                  try clear hcz25_1
                  try clear hcz25_10
                  try clear hcz25_11
                  try clear hcz25_12
                  try clear hcz25_2
                  try clear hcz25_3
                  try clear hcz25_4
                  try clear hcz25_5
                  try clear hcz25_6
                  try clear hcz25_7
                  try clear hcz25_8
                  try clear hcz25_9
                  try clear hcz26_0
                  try clear hcz26_1
                  try clear hcz26_10
                  try clear hcz26_11
                  try clear hcz26_12
                  try clear hcz26_2
                  try clear hcz26_3
                  try clear hcz26_4
                  try clear hcz26_5
                  try clear hcz26_6
                  try clear hcz26_7
                  try clear hcz26_8
                  try clear hcz26_9
                  try clear hcz9_0
                  try clear hcz9_1
                  try clear hcz9_10
                  try clear hcz9_11
                  try clear hcz9_12
                  try clear hcz9_2
                  try clear hcz9_3
                  try clear hcz9_4
                  try clear hcz9_5
                  try clear hcz9_6
                  try clear hcz9_7
                  try clear hcz9_8
                  try clear hcz9_9
                  try clear hfz12_0
                  try clear hfz12_1
                  try clear hfz12_10
                  try clear hfz12_11
                  try clear hfz12_12
                  try clear hfz12_2
                  try clear hfz12_3
                  try clear hfz12_4
                  try clear hfz12_5
                  try clear hfz12_6
                  try clear hfz12_7
                  try clear hfz12_8
                  try clear hfz12_9
                  try clear hfz14_0
                  try clear hfz14_1
                  try clear hfz14_10
                  try clear hfz14_11
                  try clear hfz14_12
                  try clear hfz14_2
                  try clear hfz14_3
                  try clear hfz14_4
                  try clear hfz14_5
                  try clear hfz14_6
                  try clear hfz14_7
                  try clear hfz14_8
                  try clear hfz14_9
                  try clear hfz19_0
                  try clear hfz19_1
                  try clear hfz19_10
                  try clear hfz19_11
                  try clear hfz19_12
                  try clear hfz19_2
                  try clear hfz19_3
                  try clear hfz19_4
                  try clear hfz19_5
                  try clear hfz19_6
                  try clear hfz19_7
                  try clear hfz19_8
                  try clear hfz19_9
                  try clear hfz25_0
                  try clear hfz25_1
                  try clear hfz25_10
                  try clear hfz25_11
                  try clear hfz25_12
                  try clear hfz25_2
                  try clear hfz25_3
                  try clear hfz25_4
                  try clear hfz25_5
                  try clear hfz25_6
                  try clear hfz25_7
                  try clear hfz25_8
                  try clear hfz25_9
                  try clear hfz26_0
                  try clear hfz26_1
                  try clear hfz26_10
                  try clear hfz26_11
                  try clear hfz26_12
                  try clear hfz26_2
                  try clear hfz26_3
                  try clear hfz26_4
                  try clear hfz26_5
                  try clear hfz26_6
                  try clear hfz26_7
                  try clear hfz26_8
                  try clear hfz26_9
                  try clear hfz9_0
                  try clear hfz9_1
                  try clear hfz9_10
                  try clear hfz9_11
                  try clear hfz9_12
                  try clear hfz9_2
                  try clear hfz9_3
                  try clear hfz9_4
                  try clear hfz9_5
                  try clear hfz9_6
                  try clear hfz9_7
                  try clear hfz9_8
                  try clear hfz9_9
                  try clear p2
                  obtain ⟨kq, x30_22, rfl, HA, HJ22, BK101, HB⟩ := hcut
                  cases kq with
                  | zero => exact absurd HA.out (by simp [seneschallaw04_EntryCosts.j2])
                  | succ kj22 =>
                    have H := HA.out
                    clear HA
                    simp only [seneschallaw04_EntryCosts.j2] at H
                    by_cases c27 : x30_22 = true
                    · subst c27
                      have H1 : (some true) = some r := by rw [if_pos rfl] at H; exact H
                      clear H
                      have H := H1
                      clear H1
                      obtain rfl := Option.some.inj H
                      go_wp2
                      go_ret
                      exact ⟨by first | rfl | (simp [errW_none, errW_some] <;> rfl) | (simp [*, errW_none, errW_some] <;> rfl), by repeat (first | (with_reducible first | exact HB.out | apply below_alloc | apply pw_below_drewN | apply below_drew1 | refine below_set ?_ GE101.out) | exact HB.out)⟩
                    · replace c27 := Bool.eq_false_iff.mpr c27
                      subst c27
                      have H1 : ((entCost.f 2 a0_1 a0_2 a0_3 (wrap64 (a0_4 + 1)) a0_4 a0_6 a0_7 a0_10 a0_11 a0_8 a0_9 a0_5).bind fun t107 => ((entGood.f 2 a0_1 a0_2 a0_3 (wrap64 (a0_4 + 1)) a0_4 a0_6 a0_7 a0_10 a0_11 a0_8 a0_9 a0_5).bind fun t108 => (if t108 = true then (if t107 ≥ 2 then (some (decide (t107 ≤ (wrap64 (t105 + 1))))) else (some false)) else (some false)))) = some r := by rw [if_neg (show ¬ (false = true) by decide)] at H; exact H
                      clear H
                      have H := H1
                      clear H1
                      replace H := Option.bind_eq_some_iff.mp H
                      obtain ⟨t107, A280, H⟩ := H
                      replace H : ((entGood.f 2 a0_1 a0_2 a0_3 (wrap64 (a0_4 + 1)) a0_4 a0_6 a0_7 a0_10 a0_11 a0_8 a0_9 a0_5).bind fun t108 => (if t108 = true then (if t107 ≥ 2 then (some (decide (t107 ≤ (wrap64 (t105 + 1))))) else (some false)) else (some false))) = some r := H
                      have A28 := Aside0.mk A280
                      clear A280
                      replace H := Option.bind_eq_some_iff.mp H
                      obtain ⟨t108, A290, H⟩ := H
                      replace H : (if t108 = true then (if t107 ≥ 2 then (some (decide (t107 ≤ (wrap64 (t105 + 1))))) else (some false)) else (some false)) = some r := H
                      have A29 := Aside0.mk A290
                      clear A290
                      by_cases c30 : t108 = true
                      · subst c30
                        have H1 : (if t107 ≥ 2 then (some (decide (t107 ≤ (wrap64 (t105 + 1))))) else (some false)) = some r := by rw [if_pos rfl] at H; exact H
                        clear H
                        have H := H1
                        clear H1
                        by_cases c31 : t107 ≥ 2
                        · rw [if_pos c31] at H
                          have c31b0 : decide (2 ≤ t107) = true := decide_eq_true c31
                          clear c31
                          obtain rfl := Option.some.inj H
                          have hcz32_0 : wc.cell? ⟨gb101, 0, none⟩ = some (.int .i64 a0_0) := (blk_cell BK101.out 0).trans rfl
                          have hcz32_1 : wc.cell? ⟨gb101, 1, none⟩ = some (.int .i64 a0_1) := (blk_cell BK101.out 1).trans rfl
                          have hcz32_2 : wc.cell? ⟨gb101, 2, none⟩ = some (.int .i64 a0_2) := (blk_cell BK101.out 2).trans rfl
                          have hcz32_3 : wc.cell? ⟨gb101, 3, none⟩ = some (.int .i64 a0_3) := (blk_cell BK101.out 3).trans rfl
                          have hcz32_4 : wc.cell? ⟨gb101, 4, none⟩ = some (.int .i64 a0_4) := (blk_cell BK101.out 4).trans rfl
                          have hcz32_5 : wc.cell? ⟨gb101, 5, none⟩ = some (.int .i64 a0_5) := (blk_cell BK101.out 5).trans rfl
                          have hcz32_6 : wc.cell? ⟨gb101, 6, none⟩ = some (.int .i64 a0_6) := (blk_cell BK101.out 6).trans rfl
                          have hcz32_7 : wc.cell? ⟨gb101, 7, none⟩ = some (.int .i64 a0_7) := (blk_cell BK101.out 7).trans rfl
                          have hcz32_8 : wc.cell? ⟨gb101, 8, none⟩ = some (.bool a0_8) := (blk_cell BK101.out 8).trans rfl
                          have hcz32_9 : wc.cell? ⟨gb101, 9, none⟩ = some (.string a0_9) := (blk_cell BK101.out 9).trans rfl
                          have hcz32_10 : wc.cell? ⟨gb101, 10, none⟩ = some (.bool a0_10) := (blk_cell BK101.out 10).trans rfl
                          have hcz32_11 : wc.cell? ⟨gb101, 11, none⟩ = some (.string a0_11) := (blk_cell BK101.out 11).trans rfl
                          have hcz32_12 : wc.cell? ⟨gb101, 12, none⟩ = some (.int .i64 a0_12) := (blk_cell BK101.out 12).trans rfl
                          have hfz32_0 := blk_frozen BK101.out 0
                          have hfz32_1 := blk_frozen BK101.out 1
                          have hfz32_2 := blk_frozen BK101.out 2
                          have hfz32_3 := blk_frozen BK101.out 3
                          have hfz32_4 := blk_frozen BK101.out 4
                          have hfz32_5 := blk_frozen BK101.out 5
                          have hfz32_6 := blk_frozen BK101.out 6
                          have hfz32_7 := blk_frozen BK101.out 7
                          have hfz32_8 := blk_frozen BK101.out 8
                          have hfz32_9 := blk_frozen BK101.out 9
                          have hfz32_10 := blk_frozen BK101.out 10
                          have hfz32_11 := blk_frozen BK101.out 11
                          have hfz32_12 := blk_frozen BK101.out 12
                          go_upto_region 11 with (first | ((with_reducible refine gate_dst (N := 4) rfl ?_); refine box_event ?hg (N := 4) ?hd (cs := #[.int .i64 0, .int .i64 0, .int .i64 0, .int .i64 0, .int .i64 0, .int .i64 0, .int .i64 0, .int .i64 0, .bool false, .string (⟨#[]⟩ : ByteArray), .bool false, .string (⟨#[]⟩ : ByteArray), .int .i64 0]) (t := 65) ?hr ?_; (case hd => rfl); (case hg => rfl); (case hr => first | (go_simp; done) | (go_simp; rfl)); intro gb106 hg w33 hbox hb; have n0_ := Aside0.mk (blk_below (g := gb101) (o := .cells #[.int .i64 a0_0, .int .i64 a0_1, .int .i64 a0_2, .int .i64 a0_3, .int .i64 a0_4, .int .i64 a0_5, .int .i64 a0_6, .int .i64 a0_7, .bool a0_8, .string a0_9, .bool a0_10, .string a0_11, .int .i64 a0_12] 65 (0, 0)) (by (with_reducible repeat (first | refine blk_drewN ?_ _ | refine blk_drew ?_ | refine blk_alloc ?_ _)); exact BK101.out) hb); have n1_ := Aside0.mk (below_step (by repeat (first | (with_reducible first | exact HB.out | apply below_alloc | apply pw_below_drewN | apply below_drew1 | refine below_set ?_ GE101.out) | exact HB.out)) hb); have n2_ := Aside0.mk (hbox); have n3_ := Aside0.mk ((by rw [hg]; exact (below_size (by repeat (first | (with_reducible first | exact HB.out | apply below_alloc | apply pw_below_drewN | apply below_drew1 | refine below_set ?_ GE101.out) | exact HB.out))) : w.heap.size ≤ gb106)); have n4_ := Aside0.mk ((by rw [hg]; exact (below_size (by repeat (first | (with_reducible first | exact HB.out | apply below_alloc | apply pw_below_drewN | apply below_drew1 | refine below_set ?_ GE101.out) | exact HB.out))) : w.heap.size ≤ gb106)); have n5_ := Aside0.mk ((by rw [hg]; exact Nat.ne_of_lt (blk_lt (g := gb101) (o := .cells #[.int .i64 a0_0, .int .i64 a0_1, .int .i64 a0_2, .int .i64 a0_3, .int .i64 a0_4, .int .i64 a0_5, .int .i64 a0_6, .int .i64 a0_7, .bool a0_8, .string a0_9, .bool a0_10, .string a0_11, .int .i64 a0_12] 65 (0, 0)) (by (with_reducible repeat (first | refine blk_drewN ?_ _ | refine blk_drew ?_ | refine blk_alloc ?_ _)); exact BK101.out)) : gb101 ≠ gb106)); have n6_ := Aside0.mk ((by rw [hg]; exact Nat.ne_of_gt (blk_lt (g := gb101) (o := .cells #[.int .i64 a0_0, .int .i64 a0_1, .int .i64 a0_2, .int .i64 a0_3, .int .i64 a0_4, .int .i64 a0_5, .int .i64 a0_6, .int .i64 a0_7, .bool a0_8, .string a0_9, .bool a0_10, .string a0_11, .int .i64 a0_12] 65 (0, 0)) (by (with_reducible repeat (first | refine blk_drewN ?_ _ | refine blk_drew ?_ | refine blk_alloc ?_ _)); exact BK101.out)) : gb106 ≠ gb101)); clear BK101; clear HB; have BK101 := n0_; have HB := n1_; have BK106 := n2_; have GW106 := n3_; have GE106 := n4_; have NB101_106 := n5_; have NB106_101 := n6_; clear n0_ n1_ n2_ n3_ n4_ n5_ n6_; clear hb hbox hg; have hnb34 := NB106_101.out; have hnc34 := NB101_106.out; have hcz35_0 : w33.cell? ⟨gb106, 0, none⟩ = some (.int .i64 0) := (blk_cell BK106.out 0).trans rfl; have hcz35_1 : w33.cell? ⟨gb106, 1, none⟩ = some (.int .i64 0) := (blk_cell BK106.out 1).trans rfl; have hcz35_2 : w33.cell? ⟨gb106, 2, none⟩ = some (.int .i64 0) := (blk_cell BK106.out 2).trans rfl; have hcz35_3 : w33.cell? ⟨gb106, 3, none⟩ = some (.int .i64 0) := (blk_cell BK106.out 3).trans rfl; have hcz35_4 : w33.cell? ⟨gb106, 4, none⟩ = some (.int .i64 0) := (blk_cell BK106.out 4).trans rfl; have hcz35_5 : w33.cell? ⟨gb106, 5, none⟩ = some (.int .i64 0) := (blk_cell BK106.out 5).trans rfl; have hcz35_6 : w33.cell? ⟨gb106, 6, none⟩ = some (.int .i64 0) := (blk_cell BK106.out 6).trans rfl; have hcz35_7 : w33.cell? ⟨gb106, 7, none⟩ = some (.int .i64 0) := (blk_cell BK106.out 7).trans rfl; have hcz35_8 : w33.cell? ⟨gb106, 8, none⟩ = some (.bool false) := (blk_cell BK106.out 8).trans rfl; have hcz35_9 : w33.cell? ⟨gb106, 9, none⟩ = some (.string (⟨#[]⟩ : ByteArray)) := (blk_cell BK106.out 9).trans rfl; have hcz35_10 : w33.cell? ⟨gb106, 10, none⟩ = some (.bool false) := (blk_cell BK106.out 10).trans rfl; have hcz35_11 : w33.cell? ⟨gb106, 11, none⟩ = some (.string (⟨#[]⟩ : ByteArray)) := (blk_cell BK106.out 11).trans rfl; have hcz35_12 : w33.cell? ⟨gb106, 12, none⟩ = some (.int .i64 0) := (blk_cell BK106.out 12).trans rfl; have hfz35_0 := blk_frozen BK106.out 0; have hfz35_1 := blk_frozen BK106.out 1; have hfz35_2 := blk_frozen BK106.out 2; have hfz35_3 := blk_frozen BK106.out 3; have hfz35_4 := blk_frozen BK106.out 4; have hfz35_5 := blk_frozen BK106.out 5; have hfz35_6 := blk_frozen BK106.out 6; have hfz35_7 := blk_frozen BK106.out 7; have hfz35_8 := blk_frozen BK106.out 8; have hfz35_9 := blk_frozen BK106.out 9; have hfz35_10 := blk_frozen BK106.out 10; have hfz35_11 := blk_frozen BK106.out 11; have hfz35_12 := blk_frozen BK106.out 12; have hcz36_0 : w33.cell? ⟨gb101, 0, none⟩ = some (.int .i64 a0_0) := (blk_cell BK101.out 0).trans rfl; have hcz36_1 : w33.cell? ⟨gb101, 1, none⟩ = some (.int .i64 a0_1) := (blk_cell BK101.out 1).trans rfl; have hcz36_2 : w33.cell? ⟨gb101, 2, none⟩ = some (.int .i64 a0_2) := (blk_cell BK101.out 2).trans rfl; have hcz36_3 : w33.cell? ⟨gb101, 3, none⟩ = some (.int .i64 a0_3) := (blk_cell BK101.out 3).trans rfl; have hcz36_4 : w33.cell? ⟨gb101, 4, none⟩ = some (.int .i64 a0_4) := (blk_cell BK101.out 4).trans rfl; have hcz36_5 : w33.cell? ⟨gb101, 5, none⟩ = some (.int .i64 a0_5) := (blk_cell BK101.out 5).trans rfl; have hcz36_6 : w33.cell? ⟨gb101, 6, none⟩ = some (.int .i64 a0_6) := (blk_cell BK101.out 6).trans rfl; have hcz36_7 : w33.cell? ⟨gb101, 7, none⟩ = some (.int .i64 a0_7) := (blk_cell BK101.out 7).trans rfl; have hcz36_8 : w33.cell? ⟨gb101, 8, none⟩ = some (.bool a0_8) := (blk_cell BK101.out 8).trans rfl; have hcz36_9 : w33.cell? ⟨gb101, 9, none⟩ = some (.string a0_9) := (blk_cell BK101.out 9).trans rfl; have hcz36_10 : w33.cell? ⟨gb101, 10, none⟩ = some (.bool a0_10) := (blk_cell BK101.out 10).trans rfl; have hcz36_11 : w33.cell? ⟨gb101, 11, none⟩ = some (.string a0_11) := (blk_cell BK101.out 11).trans rfl; have hcz36_12 : w33.cell? ⟨gb101, 12, none⟩ = some (.int .i64 a0_12) := (blk_cell BK101.out 12).trans rfl; have hfz36_0 := blk_frozen BK101.out 0; have hfz36_1 := blk_frozen BK101.out 1; have hfz36_2 := blk_frozen BK101.out 2; have hfz36_3 := blk_frozen BK101.out 3; have hfz36_4 := blk_frozen BK101.out 4; have hfz36_5 := blk_frozen BK101.out 5; have hfz36_6 := blk_frozen BK101.out 6; have hfz36_7 := blk_frozen BK101.out 7; have hfz36_8 := blk_frozen BK101.out 8; have hfz36_9 := blk_frozen BK101.out 9; have hfz36_10 := blk_frozen BK101.out 10; have hfz36_11 := blk_frozen BK101.out 11; have hfz36_12 := blk_frozen BK101.out 12))
                          have n0_ := Aside0.mk (p13 w33 gb106 a0_0 a0_1 a0_2 a0_3 a0_4 a0_5 a0_6 a0_7 a0_8 a0_9 a0_10 a0_11 a0_12 BK106.out).1
                          have n1_ := Aside0.mk ((p13 w33 gb106 a0_0 a0_1 a0_2 a0_3 a0_4 a0_5 a0_6 a0_7 a0_8 a0_9 a0_10 a0_11 a0_12 BK106.out).2.1 gb101 _ BK101.out NB101_106.out)
                          have n2_ := Aside0.mk ((p13 w33 gb106 a0_0 a0_1 a0_2 a0_3 a0_4 a0_5 a0_6 a0_7 a0_8 a0_9 a0_10 a0_11 a0_12 BK106.out).2.2 w HB.out GE106.out)
                          clear BK101 BK106 HB
                          try clear hcz35_0
                          try clear hcz35_1
                          try clear hcz35_2
                          try clear hcz35_3
                          try clear hcz35_4
                          try clear hcz35_5
                          try clear hcz35_6
                          try clear hcz35_7
                          try clear hcz35_8
                          try clear hcz35_9
                          try clear hcz35_10
                          try clear hcz35_11
                          try clear hcz35_12
                          try clear hfz35_0
                          try clear hfz35_1
                          try clear hfz35_2
                          try clear hfz35_3
                          try clear hfz35_4
                          try clear hfz35_5
                          try clear hfz35_6
                          try clear hfz35_7
                          try clear hfz35_8
                          try clear hfz35_9
                          try clear hfz35_10
                          try clear hfz35_11
                          try clear hfz35_12
                          try clear hcz36_0
                          try clear hcz36_1
                          try clear hcz36_2
                          try clear hcz36_3
                          try clear hcz36_4
                          try clear hcz36_5
                          try clear hcz36_6
                          try clear hcz36_7
                          try clear hcz36_8
                          try clear hcz36_9
                          try clear hcz36_10
                          try clear hcz36_11
                          try clear hcz36_12
                          try clear hfz36_0
                          try clear hfz36_1
                          try clear hfz36_2
                          try clear hfz36_3
                          try clear hfz36_4
                          try clear hfz36_5
                          try clear hfz36_6
                          try clear hfz36_7
                          try clear hfz36_8
                          try clear hfz36_9
                          try clear hfz36_10
                          try clear hfz36_11
                          try clear hfz36_12
                          try clear hcz32_0
                          try clear hcz32_1
                          try clear hcz32_2
                          try clear hcz32_3
                          try clear hcz32_4
                          try clear hcz32_5
                          try clear hcz32_6
                          try clear hcz32_7
                          try clear hcz32_8
                          try clear hcz32_9
                          try clear hcz32_10
                          try clear hcz32_11
                          try clear hcz32_12
                          try clear hfz32_0
                          try clear hfz32_1
                          try clear hfz32_2
                          try clear hfz32_3
                          try clear hfz32_4
                          try clear hfz32_5
                          try clear hfz32_6
                          try clear hfz32_7
                          try clear hfz32_8
                          try clear hfz32_9
                          try clear hfz32_10
                          try clear hfz32_11
                          try clear hfz32_12
                          have BK101 := n1_
                          have BK106 := n0_
                          have HB := n2_
                          clear n0_ n1_ n2_
                          generalize (((((((((((((w33.setCell ⟨gb106, 0, none⟩ (.int .i64 a0_0)).setCell ⟨gb106, 1, none⟩ (.int .i64 a0_1)).setCell ⟨gb106, 2, none⟩ (.int .i64 a0_2)).setCell ⟨gb106, 3, none⟩ (.int .i64 a0_3)).setCell ⟨gb106, 4, none⟩ (.int .i64 a0_4)).setCell ⟨gb106, 5, none⟩ (.int .i64 a0_5)).setCell ⟨gb106, 6, none⟩ (.int .i64 a0_6)).setCell ⟨gb106, 7, none⟩ (.int .i64 a0_7)).setCell ⟨gb106, 8, none⟩ (.bool a0_8)).setCell ⟨gb106, 9, none⟩ (.string a0_9)).setCell ⟨gb106, 10, none⟩ (.bool a0_10)).setCell ⟨gb106, 11, none⟩ (.string a0_11)).setCell ⟨gb106, 12, none⟩ (.int .i64 a0_12)) = w70 at BK101 BK106 HB ⊢
                          have hcx0 : w70.cell? ⟨gb101, 0, none⟩ = some (.int .i64 a0_0) := (blk_cell BK101.out 0).trans rfl
                          have hfx0 := blk_frozen BK101.out 0
                          have hcx1 : w70.cell? ⟨gb101, 1, none⟩ = some (.int .i64 a0_1) := (blk_cell BK101.out 1).trans rfl
                          have hfx1 := blk_frozen BK101.out 1
                          have hcx2 : w70.cell? ⟨gb101, 2, none⟩ = some (.int .i64 a0_2) := (blk_cell BK101.out 2).trans rfl
                          have hfx2 := blk_frozen BK101.out 2
                          have hcx3 : w70.cell? ⟨gb101, 3, none⟩ = some (.int .i64 a0_3) := (blk_cell BK101.out 3).trans rfl
                          have hfx3 := blk_frozen BK101.out 3
                          have hcx4 : w70.cell? ⟨gb101, 4, none⟩ = some (.int .i64 a0_4) := (blk_cell BK101.out 4).trans rfl
                          have hfx4 := blk_frozen BK101.out 4
                          have hcx5 : w70.cell? ⟨gb101, 5, none⟩ = some (.int .i64 a0_5) := (blk_cell BK101.out 5).trans rfl
                          have hfx5 := blk_frozen BK101.out 5
                          have hcx6 : w70.cell? ⟨gb101, 6, none⟩ = some (.int .i64 a0_6) := (blk_cell BK101.out 6).trans rfl
                          have hfx6 := blk_frozen BK101.out 6
                          have hcx7 : w70.cell? ⟨gb101, 7, none⟩ = some (.int .i64 a0_7) := (blk_cell BK101.out 7).trans rfl
                          have hfx7 := blk_frozen BK101.out 7
                          have hcx8 : w70.cell? ⟨gb101, 8, none⟩ = some (.bool a0_8) := (blk_cell BK101.out 8).trans rfl
                          have hfx8 := blk_frozen BK101.out 8
                          have hcx9 : w70.cell? ⟨gb101, 9, none⟩ = some (.string a0_9) := (blk_cell BK101.out 9).trans rfl
                          have hfx9 := blk_frozen BK101.out 9
                          have hcx10 : w70.cell? ⟨gb101, 10, none⟩ = some (.bool a0_10) := (blk_cell BK101.out 10).trans rfl
                          have hfx10 := blk_frozen BK101.out 10
                          have hcx11 : w70.cell? ⟨gb101, 11, none⟩ = some (.string a0_11) := (blk_cell BK101.out 11).trans rfl
                          have hfx11 := blk_frozen BK101.out 11
                          have hcx12 : w70.cell? ⟨gb101, 12, none⟩ = some (.int .i64 a0_12) := (blk_cell BK101.out 12).trans rfl
                          have hfx12 := blk_frozen BK101.out 12
                          have hcy0 : w70.cell? ⟨gb106, 0, none⟩ = some (.int .i64 a0_0) := (blk_cell BK106.out 0).trans rfl
                          have hfy0 := blk_frozen BK106.out 0
                          have hcy1 : w70.cell? ⟨gb106, 1, none⟩ = some (.int .i64 a0_1) := (blk_cell BK106.out 1).trans rfl
                          have hfy1 := blk_frozen BK106.out 1
                          have hcy2 : w70.cell? ⟨gb106, 2, none⟩ = some (.int .i64 a0_2) := (blk_cell BK106.out 2).trans rfl
                          have hfy2 := blk_frozen BK106.out 2
                          have hcy3 : w70.cell? ⟨gb106, 3, none⟩ = some (.int .i64 a0_3) := (blk_cell BK106.out 3).trans rfl
                          have hfy3 := blk_frozen BK106.out 3
                          have hcy4 : w70.cell? ⟨gb106, 4, none⟩ = some (.int .i64 a0_4) := (blk_cell BK106.out 4).trans rfl
                          have hfy4 := blk_frozen BK106.out 4
                          have hcy5 : w70.cell? ⟨gb106, 5, none⟩ = some (.int .i64 a0_5) := (blk_cell BK106.out 5).trans rfl
                          have hfy5 := blk_frozen BK106.out 5
                          have hcy6 : w70.cell? ⟨gb106, 6, none⟩ = some (.int .i64 a0_6) := (blk_cell BK106.out 6).trans rfl
                          have hfy6 := blk_frozen BK106.out 6
                          have hcy7 : w70.cell? ⟨gb106, 7, none⟩ = some (.int .i64 a0_7) := (blk_cell BK106.out 7).trans rfl
                          have hfy7 := blk_frozen BK106.out 7
                          have hcy8 : w70.cell? ⟨gb106, 8, none⟩ = some (.bool a0_8) := (blk_cell BK106.out 8).trans rfl
                          have hfy8 := blk_frozen BK106.out 8
                          have hcy9 : w70.cell? ⟨gb106, 9, none⟩ = some (.string a0_9) := (blk_cell BK106.out 9).trans rfl
                          have hfy9 := blk_frozen BK106.out 9
                          have hcy10 : w70.cell? ⟨gb106, 10, none⟩ = some (.bool a0_10) := (blk_cell BK106.out 10).trans rfl
                          have hfy10 := blk_frozen BK106.out 10
                          have hcy11 : w70.cell? ⟨gb106, 11, none⟩ = some (.string a0_11) := (blk_cell BK106.out 11).trans rfl
                          have hfy11 := blk_frozen BK106.out 11
                          have hcy12 : w70.cell? ⟨gb106, 12, none⟩ = some (.int .i64 a0_12) := (blk_cell BK106.out 12).trans rfl
                          have hfy12 := blk_frozen BK106.out 12
                          have hnx := NB101_106.out
                          have hny := NB101_106.out.symm
                          go_upto_region 17 with fail
                          have h0_ := BK106.out
                          have h1_ := blk_set h0_ 0 (.int .i64 2)
                          have h2_ := blk_set h1_ 8 (.bool a0_10)
                          have h3_ := blk_set h2_ 9 (.string a0_11)
                          have h4_ := blk_set h3_ 10 (.bool a0_8)
                          have h5_ := blk_set h4_ 11 (.string a0_9)
                          have h6_ := blk_set h5_ 4 (.int .i64 (wrap64 (a0_4 + 1)))
                          have h7_ := blk_set h6_ 5 (.int .i64 a0_4)
                          have h8_ := blk_set h7_ 12 (.int .i64 a0_5)
                          simp only [List.setIfInBounds_toArray, List.set_cons_zero, List.set_cons_succ] at h8_
                          have n0_ := Aside0.mk h8_
                          clear h0_ h1_ h2_ h3_ h4_ h5_ h6_ h7_ h8_
                          have n2_ : Aside0 (Below w.heap.size w ((((((((w70.setCell ⟨gb106, 0, none⟩ (.int .i64 2)).setCell ⟨gb106, 8, none⟩ (.bool a0_10)).setCell ⟨gb106, 9, none⟩ (.string a0_11)).setCell ⟨gb106, 10, none⟩ (.bool a0_8)).setCell ⟨gb106, 11, none⟩ (.string a0_9)).setCell ⟨gb106, 4, none⟩ (.int .i64 (wrap64 (a0_4 + 1)))).setCell ⟨gb106, 5, none⟩ (.int .i64 a0_4)).setCell ⟨gb106, 12, none⟩ (.int .i64 a0_5))) := ⟨below_set (below_set (below_set (below_set (below_set (below_set (below_set (below_set (HB.out) GE106.out) GE106.out) GE106.out) GE106.out) GE106.out) GE106.out) GE106.out) GE106.out⟩
                          clear BK101 BK106 HB hnx hny
                          clear hcx0 hfx0 hcx1 hfx1 hcx2 hfx2 hcx3 hfx3 hcx4 hfx4 hcx5 hfx5 hcx6 hfx6 hcx7 hfx7 hcx8 hfx8 hcx9 hfx9 hcx10 hfx10 hcx11 hfx11 hcx12 hfx12
                          clear hcy0 hfy0 hcy1 hfy1 hcy2 hfy2 hcy3 hfy3 hcy4 hfy4 hcy5 hfy5 hcy6 hfy6 hcy7 hfy7 hcy8 hfy8 hcy9 hfy9 hcy10 hfy10 hcy11 hfy11 hcy12 hfy12
                          have BK106 : Aside0 (((((((((w70.setCell ⟨gb106, 0, none⟩ (.int .i64 2)).setCell ⟨gb106, 8, none⟩ (.bool a0_10)).setCell ⟨gb106, 9, none⟩ (.string a0_11)).setCell ⟨gb106, 10, none⟩ (.bool a0_8)).setCell ⟨gb106, 11, none⟩ (.string a0_9)).setCell ⟨gb106, 4, none⟩ (.int .i64 (wrap64 (a0_4 + 1)))).setCell ⟨gb106, 5, none⟩ (.int .i64 a0_4)).setCell ⟨gb106, 12, none⟩ (.int .i64 a0_5)).heap[gb106]? = some (.cells #[.int .i64 2, .int .i64 a0_1, .int .i64 a0_2, .int .i64 a0_3, .int .i64 (wrap64 (a0_4 + 1)), .int .i64 a0_4, .int .i64 a0_6, .int .i64 a0_7, .bool a0_10, .string a0_11, .bool a0_8, .string a0_9, .int .i64 a0_5] 65 (0, 0))) := ⟨n0_.out⟩
                          have HB : Aside0 (Below w.heap.size w ((((((((w70.setCell ⟨gb106, 0, none⟩ (.int .i64 2)).setCell ⟨gb106, 8, none⟩ (.bool a0_10)).setCell ⟨gb106, 9, none⟩ (.string a0_11)).setCell ⟨gb106, 10, none⟩ (.bool a0_8)).setCell ⟨gb106, 11, none⟩ (.string a0_9)).setCell ⟨gb106, 4, none⟩ (.int .i64 (wrap64 (a0_4 + 1)))).setCell ⟨gb106, 5, none⟩ (.int .i64 a0_4)).setCell ⟨gb106, 12, none⟩ (.int .i64 a0_5))) := ⟨n2_.out⟩
                          clear n0_ n2_
                          generalize ((((((((w70.setCell ⟨gb106, 0, none⟩ (.int .i64 2)).setCell ⟨gb106, 8, none⟩ (.bool a0_10)).setCell ⟨gb106, 9, none⟩ (.string a0_11)).setCell ⟨gb106, 10, none⟩ (.bool a0_8)).setCell ⟨gb106, 11, none⟩ (.string a0_9)).setCell ⟨gb106, 4, none⟩ (.int .i64 (wrap64 (a0_4 + 1)))).setCell ⟨gb106, 5, none⟩ (.int .i64 a0_4)).setCell ⟨gb106, 12, none⟩ (.int .i64 a0_5)) = w71 at BK106 HB ⊢
                          have hcz0 : w71.cell? ⟨gb106, 0, none⟩ = some (.int .i64 2) := (blk_cell BK106.out 0).trans rfl
                          have hfz0 := blk_frozen BK106.out 0
                          have hcz1 : w71.cell? ⟨gb106, 1, none⟩ = some (.int .i64 a0_1) := (blk_cell BK106.out 1).trans rfl
                          have hfz1 := blk_frozen BK106.out 1
                          have hcz2 : w71.cell? ⟨gb106, 2, none⟩ = some (.int .i64 a0_2) := (blk_cell BK106.out 2).trans rfl
                          have hfz2 := blk_frozen BK106.out 2
                          have hcz3 : w71.cell? ⟨gb106, 3, none⟩ = some (.int .i64 a0_3) := (blk_cell BK106.out 3).trans rfl
                          have hfz3 := blk_frozen BK106.out 3
                          have hcz4 : w71.cell? ⟨gb106, 4, none⟩ = some (.int .i64 (wrap64 (a0_4 + 1))) := (blk_cell BK106.out 4).trans rfl
                          have hfz4 := blk_frozen BK106.out 4
                          have hcz5 : w71.cell? ⟨gb106, 5, none⟩ = some (.int .i64 a0_4) := (blk_cell BK106.out 5).trans rfl
                          have hfz5 := blk_frozen BK106.out 5
                          have hcz6 : w71.cell? ⟨gb106, 6, none⟩ = some (.int .i64 a0_6) := (blk_cell BK106.out 6).trans rfl
                          have hfz6 := blk_frozen BK106.out 6
                          have hcz7 : w71.cell? ⟨gb106, 7, none⟩ = some (.int .i64 a0_7) := (blk_cell BK106.out 7).trans rfl
                          have hfz7 := blk_frozen BK106.out 7
                          have hcz8 : w71.cell? ⟨gb106, 8, none⟩ = some (.bool a0_10) := (blk_cell BK106.out 8).trans rfl
                          have hfz8 := blk_frozen BK106.out 8
                          have hcz9 : w71.cell? ⟨gb106, 9, none⟩ = some (.string a0_11) := (blk_cell BK106.out 9).trans rfl
                          have hfz9 := blk_frozen BK106.out 9
                          have hcz10 : w71.cell? ⟨gb106, 10, none⟩ = some (.bool a0_8) := (blk_cell BK106.out 10).trans rfl
                          have hfz10 := blk_frozen BK106.out 10
                          have hcz11 : w71.cell? ⟨gb106, 11, none⟩ = some (.string a0_9) := (blk_cell BK106.out 11).trans rfl
                          have hfz11 := blk_frozen BK106.out 11
                          have hcz12 : w71.cell? ⟨gb106, 12, none⟩ = some (.int .i64 a0_5) := (blk_cell BK106.out 12).trans rfl
                          have hfz12 := blk_frozen BK106.out 12
                          go_wp2_with (first | ((with_reducible refine gate_callee (f := 57) rfl ?_); refine goesL_ (some 50) rfl rfl Try.func57 (by kernel_rfl) rfl #[.agg #[.int .i64 2, .int .i64 a0_1, .int .i64 a0_2, .int .i64 a0_3, .int .i64 (wrap64 (a0_4 + 1)), .int .i64 a0_4, .int .i64 a0_6, .int .i64 a0_7, .bool a0_10, .string a0_11, .bool a0_8, .string a0_9, .int .i64 a0_5]] rfl (by (try simp only [List.map_toArray, List.map_cons, List.map_nil]); first | done | rfl) ?_; (with_reducible refine (entCost.calls 2 a0_1 a0_2 a0_3 (wrap64 (a0_4 + 1)) a0_4 a0_6 a0_7 a0_10 a0_11 a0_8 a0_9 a0_5 t107 _ A28.out).mono ?_); rintro e w72 ⟨rfl, hb⟩; refine ⟨_, rfl, ?_⟩; have n0_ := Aside0.mk (blk_below BK106.out hb); have n2_ := Aside0.mk (below_step HB.out hb); clear hcz0 hfz0 hcz1 hfz1 hcz2 hfz2 hcz3 hfz3 hcz4 hfz4 hcz5 hfz5 hcz6 hfz6 hcz7 hfz7 hcz8 hfz8 hcz9 hfz9 hcz10 hfz10 hcz11 hfz11 hcz12 hfz12; clear BK106 HB hb; have BK106 := n0_; have HB := n2_; clear n0_ n2_; have hcz0 : w72.cell? ⟨gb106, 0, none⟩ = some (.int .i64 2) := (blk_cell BK106.out 0).trans rfl; have hfz0 := blk_frozen BK106.out 0; have hcz1 : w72.cell? ⟨gb106, 1, none⟩ = some (.int .i64 a0_1) := (blk_cell BK106.out 1).trans rfl; have hfz1 := blk_frozen BK106.out 1; have hcz2 : w72.cell? ⟨gb106, 2, none⟩ = some (.int .i64 a0_2) := (blk_cell BK106.out 2).trans rfl; have hfz2 := blk_frozen BK106.out 2; have hcz3 : w72.cell? ⟨gb106, 3, none⟩ = some (.int .i64 a0_3) := (blk_cell BK106.out 3).trans rfl; have hfz3 := blk_frozen BK106.out 3; have hcz4 : w72.cell? ⟨gb106, 4, none⟩ = some (.int .i64 (wrap64 (a0_4 + 1))) := (blk_cell BK106.out 4).trans rfl; have hfz4 := blk_frozen BK106.out 4; have hcz5 : w72.cell? ⟨gb106, 5, none⟩ = some (.int .i64 a0_4) := (blk_cell BK106.out 5).trans rfl; have hfz5 := blk_frozen BK106.out 5; have hcz6 : w72.cell? ⟨gb106, 6, none⟩ = some (.int .i64 a0_6) := (blk_cell BK106.out 6).trans rfl; have hfz6 := blk_frozen BK106.out 6; have hcz7 : w72.cell? ⟨gb106, 7, none⟩ = some (.int .i64 a0_7) := (blk_cell BK106.out 7).trans rfl; have hfz7 := blk_frozen BK106.out 7; have hcz8 : w72.cell? ⟨gb106, 8, none⟩ = some (.bool a0_10) := (blk_cell BK106.out 8).trans rfl; have hfz8 := blk_frozen BK106.out 8; have hcz9 : w72.cell? ⟨gb106, 9, none⟩ = some (.string a0_11) := (blk_cell BK106.out 9).trans rfl; have hfz9 := blk_frozen BK106.out 9; have hcz10 : w72.cell? ⟨gb106, 10, none⟩ = some (.bool a0_8) := (blk_cell BK106.out 10).trans rfl; have hfz10 := blk_frozen BK106.out 10; have hcz11 : w72.cell? ⟨gb106, 11, none⟩ = some (.string a0_9) := (blk_cell BK106.out 11).trans rfl; have hfz11 := blk_frozen BK106.out 11; have hcz12 : w72.cell? ⟨gb106, 12, none⟩ = some (.int .i64 a0_5) := (blk_cell BK106.out 12).trans rfl; have hfz12 := blk_frozen BK106.out 12) | ((with_reducible refine gate_callee (f := 55) rfl ?_); refine goesL_ (some 52) rfl rfl Try.func55 (by kernel_rfl) rfl #[.agg #[.int .i64 2, .int .i64 a0_1, .int .i64 a0_2, .int .i64 a0_3, .int .i64 (wrap64 (a0_4 + 1)), .int .i64 a0_4, .int .i64 a0_6, .int .i64 a0_7, .bool a0_10, .string a0_11, .bool a0_8, .string a0_9, .int .i64 a0_5]] rfl (by (try simp only [List.map_toArray, List.map_cons, List.map_nil]); first | done | rfl) ?_; (with_reducible refine (entGood.calls 2 a0_1 a0_2 a0_3 (wrap64 (a0_4 + 1)) a0_4 a0_6 a0_7 a0_10 a0_11 a0_8 a0_9 a0_5 true _ A29.out).mono ?_); rintro e w73 ⟨rfl, hb⟩; refine ⟨_, rfl, ?_⟩; have n0_ := Aside0.mk (blk_below BK106.out hb); have n2_ := Aside0.mk (below_step HB.out hb); clear hcz0 hfz0 hcz1 hfz1 hcz2 hfz2 hcz3 hfz3 hcz4 hfz4 hcz5 hfz5 hcz6 hfz6 hcz7 hfz7 hcz8 hfz8 hcz9 hfz9 hcz10 hfz10 hcz11 hfz11 hcz12 hfz12; clear BK106 HB hb; have BK106 := n0_; have HB := n2_; clear n0_ n2_; have hcz0 : w73.cell? ⟨gb106, 0, none⟩ = some (.int .i64 2) := (blk_cell BK106.out 0).trans rfl; have hfz0 := blk_frozen BK106.out 0; have hcz1 : w73.cell? ⟨gb106, 1, none⟩ = some (.int .i64 a0_1) := (blk_cell BK106.out 1).trans rfl; have hfz1 := blk_frozen BK106.out 1; have hcz2 : w73.cell? ⟨gb106, 2, none⟩ = some (.int .i64 a0_2) := (blk_cell BK106.out 2).trans rfl; have hfz2 := blk_frozen BK106.out 2; have hcz3 : w73.cell? ⟨gb106, 3, none⟩ = some (.int .i64 a0_3) := (blk_cell BK106.out 3).trans rfl; have hfz3 := blk_frozen BK106.out 3; have hcz4 : w73.cell? ⟨gb106, 4, none⟩ = some (.int .i64 (wrap64 (a0_4 + 1))) := (blk_cell BK106.out 4).trans rfl; have hfz4 := blk_frozen BK106.out 4; have hcz5 : w73.cell? ⟨gb106, 5, none⟩ = some (.int .i64 a0_4) := (blk_cell BK106.out 5).trans rfl; have hfz5 := blk_frozen BK106.out 5; have hcz6 : w73.cell? ⟨gb106, 6, none⟩ = some (.int .i64 a0_6) := (blk_cell BK106.out 6).trans rfl; have hfz6 := blk_frozen BK106.out 6; have hcz7 : w73.cell? ⟨gb106, 7, none⟩ = some (.int .i64 a0_7) := (blk_cell BK106.out 7).trans rfl; have hfz7 := blk_frozen BK106.out 7; have hcz8 : w73.cell? ⟨gb106, 8, none⟩ = some (.bool a0_10) := (blk_cell BK106.out 8).trans rfl; have hfz8 := blk_frozen BK106.out 8; have hcz9 : w73.cell? ⟨gb106, 9, none⟩ = some (.string a0_11) := (blk_cell BK106.out 9).trans rfl; have hfz9 := blk_frozen BK106.out 9; have hcz10 : w73.cell? ⟨gb106, 10, none⟩ = some (.bool a0_8) := (blk_cell BK106.out 10).trans rfl; have hfz10 := blk_frozen BK106.out 10; have hcz11 : w73.cell? ⟨gb106, 11, none⟩ = some (.string a0_9) := (blk_cell BK106.out 11).trans rfl; have hfz11 := blk_frozen BK106.out 11; have hcz12 : w73.cell? ⟨gb106, 12, none⟩ = some (.int .i64 a0_5) := (blk_cell BK106.out 12).trans rfl; have hfz12 := blk_frozen BK106.out 12))
                          go_ret
                          exact ⟨rfl, HB.out⟩
                        · rw [if_neg c31] at H
                          have c31b0 : decide (2 ≤ t107) = false := decide_eq_false c31
                          clear c31
                          obtain rfl := Option.some.inj H
                          exact absurd HRT.out (by decide)
                      · replace c30 := Bool.eq_false_iff.mpr c30
                        subst c30
                        have H1 : (some false) = some r := by rw [if_neg (show ¬ (false = true) by decide)] at H; exact H
                        clear H
                        have H := H1
                        clear H1
                        obtain rfl := Option.some.inj H
                        exact absurd HRT.out (by decide)
  · replace c3 := Bool.eq_false_iff.mpr c3
    subst c3
    have H1 : (some false) = some r := by rw [if_neg (show ¬ (false = true) by decide)] at H; exact H
    clear H
    have H := H1
    clear H1
    obtain rfl := Option.some.inj H
    exact absurd HRT.out (by decide)
end Go.Proofs.Ytfjmnaobfbmllaa.M
namespace Go.Proofs.Ytfjmnaobfbmllaa.M
open Go.RowKit Go.Proofs.YtfjmnaobfbmllaaW.PrintWords Go.Proofs.YtfjmnaobfbmllaaW.PrintLast Go.Proofs.YtfjmnaobfbmllaaW.PrintMore
set_option linter.unusedVariables false
set_option linter.unusedSimpArgs false
theorem s65_ext (x y : S65) : x = y ↔ x.f0 = y.f0 ∧ ((x.f1.f0 = y.f1.f0 ∧ x.f1.f1 = y.f1.f1 ∧ x.f1.f2 = y.f1.f2) ∧ x.f2 = y.f2 ∧ x.f3 = y.f3 ∧ x.f4 = y.f4 ∧ x.f5 = y.f5 ∧ (x.f6.f0 = y.f6.f0 ∧ x.f6.f1 = y.f6.f1) ∧ (x.f7.f0 = y.f7.f0 ∧ x.f7.f1 = y.f7.f1) ∧ x.f8 = y.f8) := by
  obtain ⟨a0, ⟨a1, a2, a3⟩, a4, a5, a6, a7, ⟨a8, a9⟩, ⟨a10, a11⟩, a12⟩ := x
  obtain ⟨b0, ⟨b1, b2, b3⟩, b4, b5, b6, b7, ⟨b8, b9⟩, ⟨b10, b11⟩, b12⟩ := y
  simp
instance decS65 : DecidableEq S65 := fun x y => decidable_of_iff _ (s65_ext x y).symm
def greatE (x : S65) : Bool := decide (4096 < x.f6.f1.size) || decide (4096 < x.f7.f1.size)
theorem great4_eq (x : S65) : seneschallaw04_great.f x.f0 x.f1.f0 x.f1.f1 x.f1.f2 x.f2 x.f3 x.f4 x.f5 x.f6.f0 x.f6.f1 x.f7.f0 x.f7.f1 x.f8 = some (greatE x) := by
  unfold seneschallaw04_great.f greatE
  by_cases h : 4096 < x.f6.f1.size
  · rw [if_pos (by omega), decide_eq_true h]; rfl
  · rw [if_neg (by omega), decide_eq_false h, Bool.false_or]
    congr 1
    rw [Bool.eq_iff_iff, decide_eq_true_iff, decide_eq_true_iff]; omega
theorem mk_eq (x : S65) : mkE x.f0 x.f1.f0 x.f1.f1 x.f1.f2 x.f2 x.f3 x.f4 x.f5 x.f6.f0 x.f6.f1 x.f7.f0 x.f7.f1 x.f8 = x := rfl
theorem encE_ne {x : S65} (h : GoodE x) : 1 ≤ (encE x).length := by
  unfold encE
  rw [List.length_append]
  have : (numsE x).flatMap intB = intB x.f0 ++ ([x.f1.f0, x.f1.f1, x.f1.f2, x.f2, x.f3] ++ (if x.f0 = 1 ∨ x.f0 = 2 then [x.f4, x.f5, x.f8] else [])).flatMap intB := rfl
  rw [this, List.length_append]
  have := (intB_len x.f0).1
  omega
end Go.Proofs.Ytfjmnaobfbmllaa.M
namespace Go.Proofs.Ytfjmnaobfbmllaa.M
open Go.RowKit Go.Proofs.YtfjmnaobfbmllaaW.PrintWords Go.Proofs.YtfjmnaobfbmllaaW.PrintLast Go.Proofs.YtfjmnaobfbmllaaW.PrintMore
set_option linter.unusedVariables false
set_option linter.unusedSimpArgs false
theorem varF_short (j : Nat) : ∀ k u, u < 128 ^ (j + 1) → (varF k u).length ≤ j + 1 := by
  induction j with
  | zero =>
    intro k u h
    cases k with
    | zero => simp [varF]
    | succ k => unfold varF; rw [if_pos (by simpa using h)]; simp
  | succ j ih =>
    intro k u h
    cases k with
    | zero => simp [varF]
    | succ k =>
      unfold varF
      split
      · simp
      · rw [List.length_cons]
        have := ih k (u / 128) (by rw [Nat.pow_succ] at h; omega)
        omega
theorem intB_short (j : Nat) (n : Int) (N : Nat) (h0 : 0 ≤ n) (hN : 128 ^ (j + 1) = N) (h : 2 * n < N) : (intB n).length ≤ j + 1 := by
  obtain ⟨m, rfl⟩ := Int.eq_ofNat_of_zero_le h0
  unfold intB
  rw [foldI_nat]
  refine varF_short j 10 _ ?_
  rw [hN]
  omega
theorem slot_short (x : S33) (h : x.f1.size ≤ 200) : (slotE x).length ≤ 203 := by
  unfold slotE strB
  have h1 := intB_short 0 1 128 (by decide) (by decide) (by decide)
  have h0 := intB_short 0 0 128 (by decide) (by decide) (by decide)
  have h2 := intB_short 1 (x.f1.size : Int) 16384 (by omega) (by decide) (by omega)
  split
  · rw [List.length_append, List.length_append, bytesOf_length]; omega
  · omega
theorem enc_short {x : S65} (hg : GoodE x) : (encE x).length ≤ 464 := by
  obtain ⟨h1, h2, h3, h4⟩ := hg
  have hs := good_slots (x := x) ⟨h1, h2, h3, h4⟩
  have hk : 1 ≤ x.f0 ∧ x.f0 ≤ 4 := by rcases h4 with h | h | h <;> omega
  unfold KnownP at h1
  have a0 := intB_short 0 x.f0 128 (by omega) (by decide) (by omega)
  have a1 := intB_short 0 x.f1.f0 128 (by omega) (by decide) (by omega)
  have a2 := intB_short 4 x.f1.f1 34359738368 (by omega) (by decide) (by omega)
  have a3 := intB_short 4 x.f1.f2 34359738368 (by omega) (by decide) (by omega)
  have a4 := intB_short 5 x.f2 4398046511104 (by omega) (by decide) (by omega)
  have a5 := intB_short 5 x.f3 4398046511104 (by omega) (by decide) (by omega)
  have s1 := slot_short x.f6 hs.1
  have s2 := slot_short x.f7 hs.2
  unfold encE tailE numsE
  by_cases hc : x.f0 = 1 ∨ x.f0 = 2
  · have hb : (0 ≤ x.f4 ∧ x.f4 ≤ 1023) ∧ (0 ≤ x.f5 ∧ x.f5 ≤ 31) ∧ (0 ≤ x.f8 ∧ x.f8 ≤ 1099511627776) := by
      rcases h4 with h | h | h
      · exact ⟨h.2.1.1, h.2.1.2.1, by omega, by omega⟩
      · exact ⟨h.2.1.1, h.2.1.2.1, by omega, by omega⟩
      · omega
    have b0 := intB_short 1 x.f4 16384 (by omega) (by decide) (by omega)
    have b1 := intB_short 0 x.f5 128 (by omega) (by decide) (by omega)
    have b2 := intB_short 5 x.f8 4398046511104 (by omega) (by decide) (by omega)
    rw [if_pos hc, if_pos hc]
    simp only [List.cons_append, List.nil_append, List.flatMap_cons, List.flatMap_nil, List.length_append, List.length_nil]
    omega
  · rw [if_neg hc, if_neg hc]
    simp only [List.cons_append, List.nil_append, List.append_nil, List.flatMap_cons, List.flatMap_nil, List.length_append, List.length_nil]
    omega
theorem cost_two {x : S65} (hg : GoodE x) : 2 ≤ costE x ∧ costE x ≤ 3 := by
  unfold costE
  rw [if_pos hg]
  have := enc_short hg
  have := encE_ne hg
  omega
def undoneE (x : S65) : S65 := ⟨2, x.f1, x.f2 + 1, x.f2, x.f4, x.f5, x.f7, x.f6, x.f3⟩
theorem undone_good {x : S65} (hg : GoodE x) (hk : x.f0 = 1) (hl : x.f2 ≠ 1099511627776) : GoodE (undoneE x) := by
  obtain ⟨h1, h2, h3, h4⟩ := hg
  refine ⟨h1, ?_, ?_, ?_⟩
  · show 1 ≤ x.f2 + 1 ∧ x.f2 + 1 ≤ 1099511627776; omega
  · show 0 ≤ x.f2 ∧ x.f2 < x.f2 + 1; omega
  · rcases h4 with h | h | h
    · exact .inr (.inl ⟨rfl, ⟨h.2.1.1, h.2.1.2.1, h.2.1.2.2.2, h.2.1.2.2.1⟩, by show 0 ≤ x.f3; omega, by show x.f3 ≤ x.f2; omega⟩)
    · omega
    · omega
theorem costs_j0 (k : Nat) (b : Bool) (x : S65) (hb : b = false → GoodE x) : seneschallaw04_EntryCosts.j0 (k + 3) b x.f0 x.f1.f0 x.f1.f1 x.f1.f2 x.f2 x.f3 x.f4 x.f5 x.f6.f0 x.f6.f1 x.f7.f0 x.f7.f1 x.f8 = some true := by
  simp only [seneschallaw04_EntryCosts.j0]
  cases b with
  | true => rw [if_pos rfl]
  | false =>
    have hg := hb rfl
    have hc := cost_two hg
    rw [if_neg Bool.false_ne_true]
    unfold entCost.f
    rw [Option.bind_some, mk_eq, if_neg (by omega), decide_eq_false (show ¬ costE x > 3 by omega)]
    simp only [seneschallaw04_EntryCosts.j1]
    rw [if_neg Bool.false_ne_true]
    by_cases hk : x.f0 = 1
    · rw [if_pos hk]
      simp only [seneschallaw04_EntryCosts.j2]
      by_cases hl : x.f2 = 1099511627776
      · rw [if_pos (beq_iff_eq.mpr hl)]
      · have hu := undone_good hg hk hl
        have hc2 := cost_two hu
        have hw : wrap64 (x.f2 + 1) = x.f2 + 1 := w64 _ (by have := hg.2.1; omega) (by have := hg.2.1; omega)
        have eu : mkE 2 x.f1.f0 x.f1.f1 x.f1.f2 (x.f2 + 1) x.f2 x.f4 x.f5 x.f7.f0 x.f7.f1 x.f6.f0 x.f6.f1 x.f3 = undoneE x := rfl
        rw [if_neg (by simpa using hl), hw]
        unfold entCost.f entGood.f
        rw [Option.bind_some, Option.bind_some, eu, decide_eq_true hu, if_pos rfl, if_pos (by omega), w64 (costE x + 1) (by omega) (by omega), decide_eq_true (by omega)]
    · rw [if_neg hk]
      simp only [seneschallaw04_EntryCosts.j2]
      rw [if_pos trivial]
theorem pureEntryCosts (x0 : S65) : ∃ k, seneschallaw04_EntryCosts.f k x0.f0 x0.f1.f0 x0.f1.f1 x0.f1.f2 x0.f2 x0.f3 x0.f4 x0.f5 x0.f6.f0 x0.f6.f1 x0.f7.f0 x0.f7.f1 x0.f8 = some true := by
  refine ⟨3, ?_⟩
  unfold seneschallaw04_EntryCosts.f awake4.f
  rw [Option.bind_some, if_pos rfl, great4_eq, Option.bind_some]
  split
  · exact costs_j0 0 true x0 (fun h => by cases h)
  · unfold entGood.f
    rw [Option.bind_some, mk_eq]
    exact costs_j0 0 _ x0 (fun h => by simpa using h)
end Go.Proofs.Ytfjmnaobfbmllaa.M
namespace Go.Proofs.Ytfjmnaobfbmllaa.entryCosts
open Go.ChangeShapes Go.WideShapes Go.ChangeAt Go.RowKit Go.Proofs.Ytfjmnaobfbmllaa.M
open Go.Proofs.YtfjmnaobfbmllaaW.PrintWords Go.Proofs.YtfjmnaobfbmllaaW.PrintLast Go.Proofs.YtfjmnaobfbmllaaW.PrintMore
open Go.ChangeMaps (open_string shut_string)
set_option linter.unusedVariables false
theorem own : ownKnob Try.prog.godebug = none := by kernel_rfl
theorem laidOut : laidOutB Try.prog = true := by kernel_rfl
set_option maxRecDepth 100000 in
theorem lifted (os : Os) (started : os.Started) (H : Type) (enc : TypeId × Value → H) :
    ReturnsInHanded {} Try.checked os 16 .any (Rows.entryCostsSpec.pre6 enc Try.prog Try.f16 Rows.entryCostsRow.domain false) (Rows.entryCostsSpec.post enc Try.prog Try.f16 false true false false) := by
  refine returnsInHanded_of_change_sized (C := Try.checked) own started (by kernel_rfl) Try.func16
    (ChangeSpec.witness6 (enc := enc) (C := Try.checked) false ⟨#[], #[.agg #[.int .i64 0, .int .i64 0, .int .i64 0, .int .i64 0, .int .i64 0, .int .i64 0, .int .i64 0, .int .i64 0, .bool false, .string ByteArray.empty, .bool false, .string ByteArray.empty, .int .i64 0]], []⟩ 8 (by kernel_rfl) (by kernel_rfl) (by kernel_rfl) (by kernel_rfl)) ?_
  intro W base args ds gs before hval0 hW hcnd hsz0 _
  have hsz : (DataW.weightsEach Try.prog (Try.f16.params.toList ++ Rows.entryCostsSpec.plain.varTypes Try.prog) (ds ++ gs)).all (· ≤ reachBytes) = true := hsz0
  have hval : ∀ (j : Nat) t v, Try.f16.params[j]? = some t → args[j]? = some v → Value.okWide Try.prog W .any base t v := hval0
  have hW' := hW
  obtain ⟨p, q, hA0, hV, rfl, hfz, hnd⟩ := hW
  have hA : DataW.TrodAll enc Try.prog W 0 (fun _ => true) true Try.f16.params.toList args.toList ds p := hA0
  rw [Try.params16] at hA hval hsz
  obtain ⟨v0, vs0, d0, ds0, p0, q0, hargs, rfl, rfl, h0, r0⟩ := trodAll_cons hA
  obtain ⟨rfl, rfl, rfl⟩ := trodAll_nil r0
  obtain rfl : args = #[v0] := by cases args; simp_all
  obtain ⟨rfl, rfl⟩ := trodVars_none hV
  have k0 := h0
  have lt0 : ∀ x ∈ p0, x.block < W.heap.size := by obtain ⟨m, hm⟩ := k0; exact DataW.trod_lt m _ _ _ hm
  obtain ⟨x0, rfl⟩ := V65 (hval 0 65 v0 rfl rfl) h0
  clear hA0 hval0 hsz0 hsz hval
  obtain ⟨k, hp⟩ := pureEntryCosts x0
  refine (seneschallaw04_EntryCosts.calls k (x0.f0) (x0.f1.f0) (x0.f1.f1) (x0.f1.f2) (x0.f2) (x0.f3) (x0.f4) (x0.f5) (x0.f6.f0) (x0.f6.f1) (x0.f7.f0) (x0.f7.f1) (x0.f8) true rfl W  hp).mono fun e W' ⟨he, bel⟩ => ?_
  subst he
  exact ⟨_, rfl, _, _, _, [], _, [], hW', trodAll_mk1 (shut_bool Try.underlying4 _), (trodAll_cons_mk (Below.trod laidOut (by kernel_rfl) (of_decide_eq_true (by kernel_rfl)) k0 bel lt0) trodAll_mk0), rfl, bel.frame _, fun h => by cases h⟩
theorem joined : joinedFacts Try.prog 16 Try.f16 Rows.entryCostsSpec Rows.entryCostsRow = true := by
  unfold joinedFacts
  rw [may_enter, lifts_final, make_is]
  kernel_rfl
theorem over : Rows.entryCostsRow.holds Try.pinned (OpenSpec.ofChange Rows.entryCostsSpec) :=
  OpenClaim.holds_of_wide 16 Try.f16 rfl rfl rfl rfl rfl rfl rfl ⟨rfl, rfl, rfl, rfl, rfl⟩ rfl rfl rfl rfl rfl (by kernel_rfl) Try.func16 joined
    (of_decide_eq_true (by kernel_rfl)) (by unfold Func.isWrapper; first | (rw [if_pos (by decide +kernel)]; kernel_rfl) | (rw [if_neg (by decide +kernel)]; exact ⟨rfl, rfl⟩))
    (fun os started H enc _ => lifted os started H enc)
theorem proved : Rows.EntryCostsSaid := over
#print axioms proved
end Go.Proofs.Ytfjmnaobfbmllaa.entryCosts
namespace Go.Proofs.Ytfjmnaobfbmllaa
theorem entryCosts_holds : Rows.EntryCostsSaid := entryCosts.proved
end Go.Proofs.Ytfjmnaobfbmllaa
