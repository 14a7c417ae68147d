/- The law EntryWrites: it returns true for every input, and its arguments read as they did. No condition. Part 2 of 4. -/
import Derived.Test.YtfjmnaobfbmllaaProg
import Derived.Test.YtfjmnaobfbmllaaRows
import Derived.Test.YtfjmnaobfbmllaaUApart
import Derived.Test.YtfjmnaobfbmllaaUEqStruct
import Derived.Test.YtfjmnaobfbmllaaUFoot
import Derived.Test.YtfjmnaobfbmllaaUGuard
import Derived.Test.YtfjmnaobfbmllaaUKept
import Derived.Test.YtfjmnaobfbmllaaULast
import Derived.Test.YtfjmnaobfbmllaaUMore
import Derived.Test.YtfjmnaobfbmllaaUN
import Derived.Test.YtfjmnaobfbmllaaURepsOne
import Derived.Test.YtfjmnaobfbmllaaUShare
import Derived.Test.YtfjmnaobfbmllaaUTab
import Derived.Test.YtfjmnaobfbmllaaUWords
import Derived.ArgAppend
import Derived.Below
import Derived.BigQuiet
import Derived.Carry
import Derived.ChangeArms
import Derived.ChangeMaps
import Derived.ChangeOld
import Derived.Deep.AppendLies
import Derived.Deep.CutBlock
import Derived.Deep.DeepCutAuto
import Derived.Deep.Draws
import Derived.Deep.LoopGhost
import Derived.Deep.OwnRows
import Derived.Deep.QuietTactic
import Derived.Deep.RegionHeld3
import Derived.Deep.Slices
import Derived.KernelRfl
import Derived.Laws.Bits64
import Derived.Laws.Bits64b
import Derived.Laws.BitsAllLaws
import Derived.Laws.BitsLemmas
import Derived.Laws.BytesArg
import Derived.Laws.CopyOwn
import Derived.Laws.IdiomCopy
import Derived.Laws.MakeOwn
import Derived.Laws.OwnMore
import Derived.Laws.Rows
import Derived.Laws.Slices
import Derived.Lib.AppendStr
import Derived.Lib.ConvBytes
import Derived.Maps.AppendAt
import Derived.OpenShut
import Derived.OrdersHeld
import Derived.OwnWalk
import Derived.ProofKit
import Derived.RowKit
import Derived.RowKit3
import Derived.ShutString
import Derived.SizedLaws
import Derived.Tactics
import Derived.WalkKit
import Derived.WideLaws
import Derived.Test.YtfjmnaobfbmllaaEntryWritesA0
namespace Go.Proofs.Ytfjmnaobfbmllaa.M
open Go.RowKit Go.Proofs.YtfjmnaobfbmllaaW.PrintWords Go.Proofs.YtfjmnaobfbmllaaW.PrintLast Go.Proofs.YtfjmnaobfbmllaaW.PrintMore
attribute [local go_sem] max2_int min2_int max_two min_two max_three min_three max_four min_four   -- for this text's walks alone
set_option linter.unusedVariables false
set_option linter.unusedSimpArgs false
attribute [local go_sem high] eqA33
set_option maxHeartbeats 8000000 in
set_option maxRecDepth 100000 in
theorem seneschalref04_Good.calls (k : Nat) (a0_0 : Int) (a0_1 : Int) (a0_2 : Int) (a0_3 : Int) (a0_4 : Int) (a0_5 : Int) (a0_6 : Int) (a0_7 : Int) (a0_8 : Bool) (a0_9 : ByteArray) (a0_10 : Bool) (a0_11 : ByteArray) (a0_12 : Int) (r : Bool) (w : World) (h : seneschalref04_Good.f k a0_0 a0_1 a0_2 a0_3 a0_4 a0_5 a0_6 a0_7 a0_8 a0_9 a0_10 a0_11 a0_12 = some r) :
    Calls Try.prog 56 #[.agg #[.int .i64 a0_0, .int .i64 a0_1, .int .i64 a0_2, .int .i64 a0_3, .int .i64 a0_4, .int .i64 a0_5, .int .i64 a0_6, .int .i64 a0_7, .bool a0_8, .string a0_9, .bool a0_10, .string a0_11, .int .i64 a0_12]] w fun e w' => e = .returned (.bool r) ∧ Below w.heap.size w w' := by
  have hu65 := Try.underlying65
  have hu52 := Try.underlying52
  have hu33 := Try.underlying33
  have HB := Aside0.mk (Below.refl w.heap.size w)
  have H : ((refKnown4.f a0_1 a0_2 a0_3).bind fun t102 => (if t102 = true then (if a0_4 < 1 then (seneschalref04_Good.j0 k true a0_0 a0_1 a0_2 a0_3 a0_4 a0_5 a0_6 a0_7 a0_8 a0_9 a0_10 a0_11 a0_12) else (if a0_4 > 1099511627776 then (seneschalref04_Good.j0 k true a0_0 a0_1 a0_2 a0_3 a0_4 a0_5 a0_6 a0_7 a0_8 a0_9 a0_10 a0_11 a0_12) else (if a0_5 < 0 then (seneschalref04_Good.j0 k true a0_0 a0_1 a0_2 a0_3 a0_4 a0_5 a0_6 a0_7 a0_8 a0_9 a0_10 a0_11 a0_12) else (seneschalref04_Good.j0 k (decide (a0_5 ≥ a0_4)) a0_0 a0_1 a0_2 a0_3 a0_4 a0_5 a0_6 a0_7 a0_8 a0_9 a0_10 a0_11 a0_12)))) else (seneschalref04_Good.j0 k true a0_0 a0_1 a0_2 a0_3 a0_4 a0_5 a0_6 a0_7 a0_8 a0_9 a0_10 a0_11 a0_12))) = some r := h
  clear h
  have HC2 := Aside0.mk H
  clear H
  go_enter Try.func56, Try.ntmps56
  go_upto_region 1 with (first | ((with_reducible refine gate_dst (N := 1) rfl ?_); refine box_event ?hg (N := 1) ?hd (cs := #[.int .i64 a0_0, .int .i64 a0_1, .int .i64 a0_2, .int .i64 a0_3, .int .i64 a0_4, .int .i64 a0_5, .int .i64 a0_6, .int .i64 a0_7, .bool a0_8, .string a0_9, .bool a0_10, .string a0_11, .int .i64 a0_12]) (t := 65) ?hr ?_; (case hd => rfl); (case hg => rfl); (case hr => first | (go_simp; done) | (go_simp; rfl)); intro gb101 hg w3 hbox hb; have n0_ := Aside0.mk (below_step (by repeat (first | (with_reducible first | exact HB.out | apply below_alloc | apply pw_below_drewN | apply below_drew1) | exact HB.out)) hb); have n1_ := Aside0.mk (hbox); have n2_ := Aside0.mk ((by rw [hg]; exact (below_size (by repeat (first | (with_reducible first | exact HB.out | apply below_alloc | apply pw_below_drewN | apply below_drew1) | exact HB.out))) : w.heap.size ≤ gb101)); have n3_ := Aside0.mk ((by rw [hg]; exact (below_size (by repeat (first | (with_reducible first | exact HB.out | apply below_alloc | apply pw_below_drewN | apply below_drew1) | exact HB.out))) : w.heap.size ≤ gb101)); clear HB; have HB := n0_; have BK101 := n1_; have GW101 := n2_; have GE101 := n3_; clear n0_ n1_ n2_ n3_; clear hb hbox hg))
  (try simp only [Act.put, List.setIfInBounds_toArray, List.set_cons_zero, List.set_cons_succ])
  go_cut [29] (fun v29 wc => ∃ (kq : Nat) (x29_1 : Bool), v29 = .bool x29_1 ∧ Aside0 (seneschalref04_Good.j0 kq x29_1 a0_0 a0_1 a0_2 a0_3 a0_4 a0_5 a0_6 a0_7 a0_8 a0_9 a0_10 a0_11 a0_12 = some r) ∧ Aside0 (kq ≤ k) ∧ Aside0 (wc.heap[gb101]? = some (.cells #[.int .i64 a0_0, .int .i64 a0_1, .int .i64 a0_2, .int .i64 a0_3, .int .i64 a0_4, .int .i64 a0_5, .int .i64 a0_6, .int .i64 a0_7, .bool a0_8, .string a0_9, .bool a0_10, .string a0_11, .int .i64 a0_12] 65 (0, 0))) ∧ Aside0 (Below w.heap.size w wc))
  case first =>
    have H := HC2.out
    clear HC2
    replace H := Option.bind_eq_some_iff.mp H
    obtain ⟨t102, A40, H⟩ := H
    replace H : (if t102 = true then (if a0_4 < 1 then (seneschalref04_Good.j0 k true a0_0 a0_1 a0_2 a0_3 a0_4 a0_5 a0_6 a0_7 a0_8 a0_9 a0_10 a0_11 a0_12) else (if a0_4 > 1099511627776 then (seneschalref04_Good.j0 k true a0_0 a0_1 a0_2 a0_3 a0_4 a0_5 a0_6 a0_7 a0_8 a0_9 a0_10 a0_11 a0_12) else (if a0_5 < 0 then (seneschalref04_Good.j0 k true a0_0 a0_1 a0_2 a0_3 a0_4 a0_5 a0_6 a0_7 a0_8 a0_9 a0_10 a0_11 a0_12) else (seneschalref04_Good.j0 k (decide (a0_5 ≥ a0_4)) a0_0 a0_1 a0_2 a0_3 a0_4 a0_5 a0_6 a0_7 a0_8 a0_9 a0_10 a0_11 a0_12)))) else (seneschalref04_Good.j0 k true a0_0 a0_1 a0_2 a0_3 a0_4 a0_5 a0_6 a0_7 a0_8 a0_9 a0_10 a0_11 a0_12)) = some r := H
    have A4 := Aside0.mk A40
    clear A40
    by_cases c5 : t102 = true
    · subst c5
      have H1 : (if a0_4 < 1 then (seneschalref04_Good.j0 k true a0_0 a0_1 a0_2 a0_3 a0_4 a0_5 a0_6 a0_7 a0_8 a0_9 a0_10 a0_11 a0_12) else (if a0_4 > 1099511627776 then (seneschalref04_Good.j0 k true a0_0 a0_1 a0_2 a0_3 a0_4 a0_5 a0_6 a0_7 a0_8 a0_9 a0_10 a0_11 a0_12) else (if a0_5 < 0 then (seneschalref04_Good.j0 k true a0_0 a0_1 a0_2 a0_3 a0_4 a0_5 a0_6 a0_7 a0_8 a0_9 a0_10 a0_11 a0_12) else (seneschalref04_Good.j0 k (decide (a0_5 ≥ a0_4)) a0_0 a0_1 a0_2 a0_3 a0_4 a0_5 a0_6 a0_7 a0_8 a0_9 a0_10 a0_11 a0_12)))) = some r := by rw [if_pos rfl] at H; exact H
      clear H
      have H := H1
      clear H1
      by_cases c6 : a0_4 < 1
      · rw [if_pos c6] at H
        have c6b0 : decide (a0_4 < 1) = true := decide_eq_true c6
        clear c6
        (first | rw [c6b0] | (simp only [i64_w, i32_w]; rw [c6b0]) | skip)
        have H' := Aside0.mk H
        clear H
        have hcz7_0 : w3.cell? ⟨gb101, 0, none⟩ = some (.int .i64 a0_0) := (blk_cell BK101.out 0).trans rfl
        have hcz7_1 : w3.cell? ⟨gb101, 1, none⟩ = some (.int .i64 a0_1) := (blk_cell BK101.out 1).trans rfl
        have hcz7_2 : w3.cell? ⟨gb101, 2, none⟩ = some (.int .i64 a0_2) := (blk_cell BK101.out 2).trans rfl
        have hcz7_3 : w3.cell? ⟨gb101, 3, none⟩ = some (.int .i64 a0_3) := (blk_cell BK101.out 3).trans rfl
        have hcz7_4 : w3.cell? ⟨gb101, 4, none⟩ = some (.int .i64 a0_4) := (blk_cell BK101.out 4).trans rfl
        have hcz7_5 : w3.cell? ⟨gb101, 5, none⟩ = some (.int .i64 a0_5) := (blk_cell BK101.out 5).trans rfl
        have hcz7_6 : w3.cell? ⟨gb101, 6, none⟩ = some (.int .i64 a0_6) := (blk_cell BK101.out 6).trans rfl
        have hcz7_7 : w3.cell? ⟨gb101, 7, none⟩ = some (.int .i64 a0_7) := (blk_cell BK101.out 7).trans rfl
        have hcz7_8 : w3.cell? ⟨gb101, 8, none⟩ = some (.bool a0_8) := (blk_cell BK101.out 8).trans rfl
        have hcz7_9 : w3.cell? ⟨gb101, 9, none⟩ = some (.string a0_9) := (blk_cell BK101.out 9).trans rfl
        have hcz7_10 : w3.cell? ⟨gb101, 10, none⟩ = some (.bool a0_10) := (blk_cell BK101.out 10).trans rfl
        have hcz7_11 : w3.cell? ⟨gb101, 11, none⟩ = some (.string a0_11) := (blk_cell BK101.out 11).trans rfl
        have hcz7_12 : w3.cell? ⟨gb101, 12, none⟩ = some (.int .i64 a0_12) := (blk_cell BK101.out 12).trans rfl
        have hfz7_0 := blk_frozen BK101.out 0
        have hfz7_1 := blk_frozen BK101.out 1
        have hfz7_2 := blk_frozen BK101.out 2
        have hfz7_3 := blk_frozen BK101.out 3
        have hfz7_4 := blk_frozen BK101.out 4
        have hfz7_5 := blk_frozen BK101.out 5
        have hfz7_6 := blk_frozen BK101.out 6
        have hfz7_7 := blk_frozen BK101.out 7
        have hfz7_8 := blk_frozen BK101.out 8
        have hfz7_9 := blk_frozen BK101.out 9
        have hfz7_10 := blk_frozen BK101.out 10
        have hfz7_11 := blk_frozen BK101.out 11
        have hfz7_12 := blk_frozen BK101.out 12
        go_wp2_with (first | ((with_reducible refine gate_callee (f := 60) rfl ?_); refine goesL_ (some 6) rfl rfl Try.func60 (by kernel_rfl) rfl #[.agg #[.int .i64 a0_1, .int .i64 a0_2, .int .i64 a0_3]] rfl (by (try simp only [List.map_toArray, List.map_cons, List.map_nil]); first | done | rfl | (simp only [List.length_drop, List.length_take]; rfl)) ?_; (with_reducible refine (refKnown4.calls a0_1 a0_2 a0_3 true _ A4.out).mono ?_); rintro e w8 ⟨rfl, hb⟩; refine ⟨_, rfl, ?_⟩; have n0_ := Aside0.mk (blk_below (g := gb101) (o := .cells #[.int .i64 a0_0, .int .i64 a0_1, .int .i64 a0_2, .int .i64 a0_3, .int .i64 a0_4, .int .i64 a0_5, .int .i64 a0_6, .int .i64 a0_7, .bool a0_8, .string a0_9, .bool a0_10, .string a0_11, .int .i64 a0_12] 65 (0, 0)) (by (with_reducible repeat (first | refine blk_drewN ?_ _ | refine blk_drew ?_ | refine blk_alloc ?_ _)); exact BK101.out) hb); have n1_ := Aside0.mk (below_step (by repeat (first | (with_reducible first | exact HB.out | apply below_alloc | apply pw_below_drewN | apply below_drew1 | refine below_set ?_ GE101.out) | exact HB.out)) hb); clear BK101; clear HB; have BK101 := n0_; have HB := n1_; clear n0_ n1_; (try clear hb); (try clear hb2); (try clear hk); (try clear hi); have hcz9_0 : w8.cell? ⟨gb101, 0, none⟩ = some (.int .i64 a0_0) := (blk_cell BK101.out 0).trans rfl; have hcz9_1 : w8.cell? ⟨gb101, 1, none⟩ = some (.int .i64 a0_1) := (blk_cell BK101.out 1).trans rfl; have hcz9_2 : w8.cell? ⟨gb101, 2, none⟩ = some (.int .i64 a0_2) := (blk_cell BK101.out 2).trans rfl; have hcz9_3 : w8.cell? ⟨gb101, 3, none⟩ = some (.int .i64 a0_3) := (blk_cell BK101.out 3).trans rfl; have hcz9_4 : w8.cell? ⟨gb101, 4, none⟩ = some (.int .i64 a0_4) := (blk_cell BK101.out 4).trans rfl; have hcz9_5 : w8.cell? ⟨gb101, 5, none⟩ = some (.int .i64 a0_5) := (blk_cell BK101.out 5).trans rfl; have hcz9_6 : w8.cell? ⟨gb101, 6, none⟩ = some (.int .i64 a0_6) := (blk_cell BK101.out 6).trans rfl; have hcz9_7 : w8.cell? ⟨gb101, 7, none⟩ = some (.int .i64 a0_7) := (blk_cell BK101.out 7).trans rfl; have hcz9_8 : w8.cell? ⟨gb101, 8, none⟩ = some (.bool a0_8) := (blk_cell BK101.out 8).trans rfl; have hcz9_9 : w8.cell? ⟨gb101, 9, none⟩ = some (.string a0_9) := (blk_cell BK101.out 9).trans rfl; have hcz9_10 : w8.cell? ⟨gb101, 10, none⟩ = some (.bool a0_10) := (blk_cell BK101.out 10).trans rfl; have hcz9_11 : w8.cell? ⟨gb101, 11, none⟩ = some (.string a0_11) := (blk_cell BK101.out 11).trans rfl; have hcz9_12 : w8.cell? ⟨gb101, 12, none⟩ = some (.int .i64 a0_12) := (blk_cell BK101.out 12).trans rfl; have hfz9_0 := blk_frozen BK101.out 0; have hfz9_1 := blk_frozen BK101.out 1; have hfz9_2 := blk_frozen BK101.out 2; have hfz9_3 := blk_frozen BK101.out 3; have hfz9_4 := blk_frozen BK101.out 4; have hfz9_5 := blk_frozen BK101.out 5; have hfz9_6 := blk_frozen BK101.out 6; have hfz9_7 := blk_frozen BK101.out 7; have hfz9_8 := blk_frozen BK101.out 8; have hfz9_9 := blk_frozen BK101.out 9; have hfz9_10 := blk_frozen BK101.out 10; have hfz9_11 := blk_frozen BK101.out 11; have hfz9_12 := blk_frozen BK101.out 12))
        go_meet
        case rel => exact ⟨_, (true), (by first | rfl | (simp; done) | (simp [*]; done)), H', ⟨by first | omega | exact Nat.le_refl _⟩, ⟨by (with_reducible repeat (first | refine blk_drewN ?_ _ | refine blk_drew ?_ | refine blk_alloc ?_ _)); exact BK101.out⟩, ⟨by repeat (first | (with_reducible first | exact HB.out | apply below_alloc | apply pw_below_drewN | apply below_drew1 | refine below_set ?_ GE101.out) | exact HB.out)⟩⟩
      · rw [if_neg c6] at H
        have c6b0 : decide (a0_4 < 1) = false := decide_eq_false c6
        clear c6
        (first | rw [c6b0] | (simp only [i64_w, i32_w]; rw [c6b0]) | skip)
        by_cases c10 : a0_4 > 1099511627776
        · rw [if_pos c10] at H
          have c10b0 : decide (1099511627776 < a0_4) = true := decide_eq_true c10
          clear c10
          have H' := Aside0.mk H
          clear H
          have hcz11_0 : w3.cell? ⟨gb101, 0, none⟩ = some (.int .i64 a0_0) := (blk_cell BK101.out 0).trans rfl
          have hcz11_1 : w3.cell? ⟨gb101, 1, none⟩ = some (.int .i64 a0_1) := (blk_cell BK101.out 1).trans rfl
          have hcz11_2 : w3.cell? ⟨gb101, 2, none⟩ = some (.int .i64 a0_2) := (blk_cell BK101.out 2).trans rfl
          have hcz11_3 : w3.cell? ⟨gb101, 3, none⟩ = some (.int .i64 a0_3) := (blk_cell BK101.out 3).trans rfl
          have hcz11_4 : w3.cell? ⟨gb101, 4, none⟩ = some (.int .i64 a0_4) := (blk_cell BK101.out 4).trans rfl
          have hcz11_5 : w3.cell? ⟨gb101, 5, none⟩ = some (.int .i64 a0_5) := (blk_cell BK101.out 5).trans rfl
          have hcz11_6 : w3.cell? ⟨gb101, 6, none⟩ = some (.int .i64 a0_6) := (blk_cell BK101.out 6).trans rfl
          have hcz11_7 : w3.cell? ⟨gb101, 7, none⟩ = some (.int .i64 a0_7) := (blk_cell BK101.out 7).trans rfl
          have hcz11_8 : w3.cell? ⟨gb101, 8, none⟩ = some (.bool a0_8) := (blk_cell BK101.out 8).trans rfl
          have hcz11_9 : w3.cell? ⟨gb101, 9, none⟩ = some (.string a0_9) := (blk_cell BK101.out 9).trans rfl
          have hcz11_10 : w3.cell? ⟨gb101, 10, none⟩ = some (.bool a0_10) := (blk_cell BK101.out 10).trans rfl
          have hcz11_11 : w3.cell? ⟨gb101, 11, none⟩ = some (.string a0_11) := (blk_cell BK101.out 11).trans rfl
          have hcz11_12 : w3.cell? ⟨gb101, 12, none⟩ = some (.int .i64 a0_12) := (blk_cell BK101.out 12).trans rfl
          have hfz11_0 := blk_frozen BK101.out 0
          have hfz11_1 := blk_frozen BK101.out 1
          have hfz11_2 := blk_frozen BK101.out 2
          have hfz11_3 := blk_frozen BK101.out 3
          have hfz11_4 := blk_frozen BK101.out 4
          have hfz11_5 := blk_frozen BK101.out 5
          have hfz11_6 := blk_frozen BK101.out 6
          have hfz11_7 := blk_frozen BK101.out 7
          have hfz11_8 := blk_frozen BK101.out 8
          have hfz11_9 := blk_frozen BK101.out 9
          have hfz11_10 := blk_frozen BK101.out 10
          have hfz11_11 := blk_frozen BK101.out 11
          have hfz11_12 := blk_frozen BK101.out 12
          go_wp2_with (first | ((with_reducible refine gate_callee (f := 60) rfl ?_); refine goesL_ (some 6) rfl rfl Try.func60 (by kernel_rfl) rfl #[.agg #[.int .i64 a0_1, .int .i64 a0_2, .int .i64 a0_3]] rfl (by (try simp only [List.map_toArray, List.map_cons, List.map_nil]); first | done | rfl | (simp only [List.length_drop, List.length_take]; rfl)) ?_; (with_reducible refine (refKnown4.calls a0_1 a0_2 a0_3 true _ A4.out).mono ?_); rintro e w12 ⟨rfl, hb⟩; refine ⟨_, rfl, ?_⟩; have n0_ := Aside0.mk (blk_below (g := gb101) (o := .cells #[.int .i64 a0_0, .int .i64 a0_1, .int .i64 a0_2, .int .i64 a0_3, .int .i64 a0_4, .int .i64 a0_5, .int .i64 a0_6, .int .i64 a0_7, .bool a0_8, .string a0_9, .bool a0_10, .string a0_11, .int .i64 a0_12] 65 (0, 0)) (by (with_reducible repeat (first | refine blk_drewN ?_ _ | refine blk_drew ?_ | refine blk_alloc ?_ _)); exact BK101.out) hb); have n1_ := Aside0.mk (below_step (by repeat (first | (with_reducible first | exact HB.out | apply below_alloc | apply pw_below_drewN | apply below_drew1 | refine below_set ?_ GE101.out) | exact HB.out)) hb); clear BK101; clear HB; have BK101 := n0_; have HB := n1_; clear n0_ n1_; (try clear hb); (try clear hb2); (try clear hk); (try clear hi); have hcz13_0 : w12.cell? ⟨gb101, 0, none⟩ = some (.int .i64 a0_0) := (blk_cell BK101.out 0).trans rfl; have hcz13_1 : w12.cell? ⟨gb101, 1, none⟩ = some (.int .i64 a0_1) := (blk_cell BK101.out 1).trans rfl; have hcz13_2 : w12.cell? ⟨gb101, 2, none⟩ = some (.int .i64 a0_2) := (blk_cell BK101.out 2).trans rfl; have hcz13_3 : w12.cell? ⟨gb101, 3, none⟩ = some (.int .i64 a0_3) := (blk_cell BK101.out 3).trans rfl; have hcz13_4 : w12.cell? ⟨gb101, 4, none⟩ = some (.int .i64 a0_4) := (blk_cell BK101.out 4).trans rfl; have hcz13_5 : w12.cell? ⟨gb101, 5, none⟩ = some (.int .i64 a0_5) := (blk_cell BK101.out 5).trans rfl; have hcz13_6 : w12.cell? ⟨gb101, 6, none⟩ = some (.int .i64 a0_6) := (blk_cell BK101.out 6).trans rfl; have hcz13_7 : w12.cell? ⟨gb101, 7, none⟩ = some (.int .i64 a0_7) := (blk_cell BK101.out 7).trans rfl; have hcz13_8 : w12.cell? ⟨gb101, 8, none⟩ = some (.bool a0_8) := (blk_cell BK101.out 8).trans rfl; have hcz13_9 : w12.cell? ⟨gb101, 9, none⟩ = some (.string a0_9) := (blk_cell BK101.out 9).trans rfl; have hcz13_10 : w12.cell? ⟨gb101, 10, none⟩ = some (.bool a0_10) := (blk_cell BK101.out 10).trans rfl; have hcz13_11 : w12.cell? ⟨gb101, 11, none⟩ = some (.string a0_11) := (blk_cell BK101.out 11).trans rfl; have hcz13_12 : w12.cell? ⟨gb101, 12, none⟩ = some (.int .i64 a0_12) := (blk_cell BK101.out 12).trans rfl; have hfz13_0 := blk_frozen BK101.out 0; have hfz13_1 := blk_frozen BK101.out 1; have hfz13_2 := blk_frozen BK101.out 2; have hfz13_3 := blk_frozen BK101.out 3; have hfz13_4 := blk_frozen BK101.out 4; have hfz13_5 := blk_frozen BK101.out 5; have hfz13_6 := blk_frozen BK101.out 6; have hfz13_7 := blk_frozen BK101.out 7; have hfz13_8 := blk_frozen BK101.out 8; have hfz13_9 := blk_frozen BK101.out 9; have hfz13_10 := blk_frozen BK101.out 10; have hfz13_11 := blk_frozen BK101.out 11; have hfz13_12 := blk_frozen BK101.out 12))
          go_meet
          case rel => exact ⟨_, (true), (by first | rfl | (simp; done) | (simp [*]; done)), H', ⟨by first | omega | exact Nat.le_refl _⟩, ⟨by (with_reducible repeat (first | refine blk_drewN ?_ _ | refine blk_drew ?_ | refine blk_alloc ?_ _)); exact BK101.out⟩, ⟨by repeat (first | (with_reducible first | exact HB.out | apply below_alloc | apply pw_below_drewN | apply below_drew1 | refine below_set ?_ GE101.out) | exact HB.out)⟩⟩
        · rw [if_neg c10] at H
          have c10b0 : decide (1099511627776 < a0_4) = false := decide_eq_false c10
          clear c10
          by_cases c14 : a0_5 < 0
          · rw [if_pos c14] at H
            have c14b0 : decide (a0_5 < 0) = true := decide_eq_true c14
            clear c14
            have H' := Aside0.mk H
            clear H
            have hcz15_0 : w3.cell? ⟨gb101, 0, none⟩ = some (.int .i64 a0_0) := (blk_cell BK101.out 0).trans rfl
            have hcz15_1 : w3.cell? ⟨gb101, 1, none⟩ = some (.int .i64 a0_1) := (blk_cell BK101.out 1).trans rfl
            have hcz15_2 : w3.cell? ⟨gb101, 2, none⟩ = some (.int .i64 a0_2) := (blk_cell BK101.out 2).trans rfl
            have hcz15_3 : w3.cell? ⟨gb101, 3, none⟩ = some (.int .i64 a0_3) := (blk_cell BK101.out 3).trans rfl
            have hcz15_4 : w3.cell? ⟨gb101, 4, none⟩ = some (.int .i64 a0_4) := (blk_cell BK101.out 4).trans rfl
            have hcz15_5 : w3.cell? ⟨gb101, 5, none⟩ = some (.int .i64 a0_5) := (blk_cell BK101.out 5).trans rfl
            have hcz15_6 : w3.cell? ⟨gb101, 6, none⟩ = some (.int .i64 a0_6) := (blk_cell BK101.out 6).trans rfl
            have hcz15_7 : w3.cell? ⟨gb101, 7, none⟩ = some (.int .i64 a0_7) := (blk_cell BK101.out 7).trans rfl
            have hcz15_8 : w3.cell? ⟨gb101, 8, none⟩ = some (.bool a0_8) := (blk_cell BK101.out 8).trans rfl
            have hcz15_9 : w3.cell? ⟨gb101, 9, none⟩ = some (.string a0_9) := (blk_cell BK101.out 9).trans rfl
            have hcz15_10 : w3.cell? ⟨gb101, 10, none⟩ = some (.bool a0_10) := (blk_cell BK101.out 10).trans rfl
            have hcz15_11 : w3.cell? ⟨gb101, 11, none⟩ = some (.string a0_11) := (blk_cell BK101.out 11).trans rfl
            have hcz15_12 : w3.cell? ⟨gb101, 12, none⟩ = some (.int .i64 a0_12) := (blk_cell BK101.out 12).trans rfl
            have hfz15_0 := blk_frozen BK101.out 0
            have hfz15_1 := blk_frozen BK101.out 1
            have hfz15_2 := blk_frozen BK101.out 2
            have hfz15_3 := blk_frozen BK101.out 3
            have hfz15_4 := blk_frozen BK101.out 4
            have hfz15_5 := blk_frozen BK101.out 5
            have hfz15_6 := blk_frozen BK101.out 6
            have hfz15_7 := blk_frozen BK101.out 7
            have hfz15_8 := blk_frozen BK101.out 8
            have hfz15_9 := blk_frozen BK101.out 9
            have hfz15_10 := blk_frozen BK101.out 10
            have hfz15_11 := blk_frozen BK101.out 11
            have hfz15_12 := blk_frozen BK101.out 12
            go_wp2_with (first | ((with_reducible refine gate_callee (f := 60) rfl ?_); refine goesL_ (some 6) rfl rfl Try.func60 (by kernel_rfl) rfl #[.agg #[.int .i64 a0_1, .int .i64 a0_2, .int .i64 a0_3]] rfl (by (try simp only [List.map_toArray, List.map_cons, List.map_nil]); first | done | rfl | (simp only [List.length_drop, List.length_take]; rfl)) ?_; (with_reducible refine (refKnown4.calls a0_1 a0_2 a0_3 true _ A4.out).mono ?_); rintro e w16 ⟨rfl, hb⟩; refine ⟨_, rfl, ?_⟩; have n0_ := Aside0.mk (blk_below (g := gb101) (o := .cells #[.int .i64 a0_0, .int .i64 a0_1, .int .i64 a0_2, .int .i64 a0_3, .int .i64 a0_4, .int .i64 a0_5, .int .i64 a0_6, .int .i64 a0_7, .bool a0_8, .string a0_9, .bool a0_10, .string a0_11, .int .i64 a0_12] 65 (0, 0)) (by (with_reducible repeat (first | refine blk_drewN ?_ _ | refine blk_drew ?_ | refine blk_alloc ?_ _)); exact BK101.out) hb); have n1_ := Aside0.mk (below_step (by repeat (first | (with_reducible first | exact HB.out | apply below_alloc | apply pw_below_drewN | apply below_drew1 | refine below_set ?_ GE101.out) | exact HB.out)) hb); clear BK101; clear HB; have BK101 := n0_; have HB := n1_; clear n0_ n1_; (try clear hb); (try clear hb2); (try clear hk); (try clear hi); have hcz17_0 : w16.cell? ⟨gb101, 0, none⟩ = some (.int .i64 a0_0) := (blk_cell BK101.out 0).trans rfl; have hcz17_1 : w16.cell? ⟨gb101, 1, none⟩ = some (.int .i64 a0_1) := (blk_cell BK101.out 1).trans rfl; have hcz17_2 : w16.cell? ⟨gb101, 2, none⟩ = some (.int .i64 a0_2) := (blk_cell BK101.out 2).trans rfl; have hcz17_3 : w16.cell? ⟨gb101, 3, none⟩ = some (.int .i64 a0_3) := (blk_cell BK101.out 3).trans rfl; have hcz17_4 : w16.cell? ⟨gb101, 4, none⟩ = some (.int .i64 a0_4) := (blk_cell BK101.out 4).trans rfl; have hcz17_5 : w16.cell? ⟨gb101, 5, none⟩ = some (.int .i64 a0_5) := (blk_cell BK101.out 5).trans rfl; have hcz17_6 : w16.cell? ⟨gb101, 6, none⟩ = some (.int .i64 a0_6) := (blk_cell BK101.out 6).trans rfl; have hcz17_7 : w16.cell? ⟨gb101, 7, none⟩ = some (.int .i64 a0_7) := (blk_cell BK101.out 7).trans rfl; have hcz17_8 : w16.cell? ⟨gb101, 8, none⟩ = some (.bool a0_8) := (blk_cell BK101.out 8).trans rfl; have hcz17_9 : w16.cell? ⟨gb101, 9, none⟩ = some (.string a0_9) := (blk_cell BK101.out 9).trans rfl; have hcz17_10 : w16.cell? ⟨gb101, 10, none⟩ = some (.bool a0_10) := (blk_cell BK101.out 10).trans rfl; have hcz17_11 : w16.cell? ⟨gb101, 11, none⟩ = some (.string a0_11) := (blk_cell BK101.out 11).trans rfl; have hcz17_12 : w16.cell? ⟨gb101, 12, none⟩ = some (.int .i64 a0_12) := (blk_cell BK101.out 12).trans rfl; have hfz17_0 := blk_frozen BK101.out 0; have hfz17_1 := blk_frozen BK101.out 1; have hfz17_2 := blk_frozen BK101.out 2; have hfz17_3 := blk_frozen BK101.out 3; have hfz17_4 := blk_frozen BK101.out 4; have hfz17_5 := blk_frozen BK101.out 5; have hfz17_6 := blk_frozen BK101.out 6; have hfz17_7 := blk_frozen BK101.out 7; have hfz17_8 := blk_frozen BK101.out 8; have hfz17_9 := blk_frozen BK101.out 9; have hfz17_10 := blk_frozen BK101.out 10; have hfz17_11 := blk_frozen BK101.out 11; have hfz17_12 := blk_frozen BK101.out 12))
            go_meet
            case rel => exact ⟨_, (true), (by first | rfl | (simp; done) | (simp [*]; done)), H', ⟨by first | omega | exact Nat.le_refl _⟩, ⟨by (with_reducible repeat (first | refine blk_drewN ?_ _ | refine blk_drew ?_ | refine blk_alloc ?_ _)); exact BK101.out⟩, ⟨by repeat (first | (with_reducible first | exact HB.out | apply below_alloc | apply pw_below_drewN | apply below_drew1 | refine below_set ?_ GE101.out) | exact HB.out)⟩⟩
          · rw [if_neg c14] at H
            have c14b0 : decide (a0_5 < 0) = false := decide_eq_false c14
            clear c14
            have H' := Aside0.mk H
            clear H
            have hcz18_0 : w3.cell? ⟨gb101, 0, none⟩ = some (.int .i64 a0_0) := (blk_cell BK101.out 0).trans rfl
            have hcz18_1 : w3.cell? ⟨gb101, 1, none⟩ = some (.int .i64 a0_1) := (blk_cell BK101.out 1).trans rfl
            have hcz18_2 : w3.cell? ⟨gb101, 2, none⟩ = some (.int .i64 a0_2) := (blk_cell BK101.out 2).trans rfl
            have hcz18_3 : w3.cell? ⟨gb101, 3, none⟩ = some (.int .i64 a0_3) := (blk_cell BK101.out 3).trans rfl
            have hcz18_4 : w3.cell? ⟨gb101, 4, none⟩ = some (.int .i64 a0_4) := (blk_cell BK101.out 4).trans rfl
            have hcz18_5 : w3.cell? ⟨gb101, 5, none⟩ = some (.int .i64 a0_5) := (blk_cell BK101.out 5).trans rfl
            have hcz18_6 : w3.cell? ⟨gb101, 6, none⟩ = some (.int .i64 a0_6) := (blk_cell BK101.out 6).trans rfl
            have hcz18_7 : w3.cell? ⟨gb101, 7, none⟩ = some (.int .i64 a0_7) := (blk_cell BK101.out 7).trans rfl
            have hcz18_8 : w3.cell? ⟨gb101, 8, none⟩ = some (.bool a0_8) := (blk_cell BK101.out 8).trans rfl
            have hcz18_9 : w3.cell? ⟨gb101, 9, none⟩ = some (.string a0_9) := (blk_cell BK101.out 9).trans rfl
            have hcz18_10 : w3.cell? ⟨gb101, 10, none⟩ = some (.bool a0_10) := (blk_cell BK101.out 10).trans rfl
            have hcz18_11 : w3.cell? ⟨gb101, 11, none⟩ = some (.string a0_11) := (blk_cell BK101.out 11).trans rfl
            have hcz18_12 : w3.cell? ⟨gb101, 12, none⟩ = some (.int .i64 a0_12) := (blk_cell BK101.out 12).trans rfl
            have hfz18_0 := blk_frozen BK101.out 0
            have hfz18_1 := blk_frozen BK101.out 1
            have hfz18_2 := blk_frozen BK101.out 2
            have hfz18_3 := blk_frozen BK101.out 3
            have hfz18_4 := blk_frozen BK101.out 4
            have hfz18_5 := blk_frozen BK101.out 5
            have hfz18_6 := blk_frozen BK101.out 6
            have hfz18_7 := blk_frozen BK101.out 7
            have hfz18_8 := blk_frozen BK101.out 8
            have hfz18_9 := blk_frozen BK101.out 9
            have hfz18_10 := blk_frozen BK101.out 10
            have hfz18_11 := blk_frozen BK101.out 11
            have hfz18_12 := blk_frozen BK101.out 12
            go_wp2_with (first | ((with_reducible refine gate_callee (f := 60) rfl ?_); refine goesL_ (some 6) rfl rfl Try.func60 (by kernel_rfl) rfl #[.agg #[.int .i64 a0_1, .int .i64 a0_2, .int .i64 a0_3]] rfl (by (try simp only [List.map_toArray, List.map_cons, List.map_nil]); first | done | rfl | (simp only [List.length_drop, List.length_take]; rfl)) ?_; (with_reducible refine (refKnown4.calls a0_1 a0_2 a0_3 true _ A4.out).mono ?_); rintro e w19 ⟨rfl, hb⟩; refine ⟨_, rfl, ?_⟩; have n0_ := Aside0.mk (blk_below (g := gb101) (o := .cells #[.int .i64 a0_0, .int .i64 a0_1, .int .i64 a0_2, .int .i64 a0_3, .int .i64 a0_4, .int .i64 a0_5, .int .i64 a0_6, .int .i64 a0_7, .bool a0_8, .string a0_9, .bool a0_10, .string a0_11, .int .i64 a0_12] 65 (0, 0)) (by (with_reducible repeat (first | refine blk_drewN ?_ _ | refine blk_drew ?_ | refine blk_alloc ?_ _)); exact BK101.out) hb); have n1_ := Aside0.mk (below_step (by repeat (first | (with_reducible first | exact HB.out | apply below_alloc | apply pw_below_drewN | apply below_drew1 | refine below_set ?_ GE101.out) | exact HB.out)) hb); clear BK101; clear HB; have BK101 := n0_; have HB := n1_; clear n0_ n1_; (try clear hb); (try clear hb2); (try clear hk); (try clear hi); have hcz20_0 : w19.cell? ⟨gb101, 0, none⟩ = some (.int .i64 a0_0) := (blk_cell BK101.out 0).trans rfl; have hcz20_1 : w19.cell? ⟨gb101, 1, none⟩ = some (.int .i64 a0_1) := (blk_cell BK101.out 1).trans rfl; have hcz20_2 : w19.cell? ⟨gb101, 2, none⟩ = some (.int .i64 a0_2) := (blk_cell BK101.out 2).trans rfl; have hcz20_3 : w19.cell? ⟨gb101, 3, none⟩ = some (.int .i64 a0_3) := (blk_cell BK101.out 3).trans rfl; have hcz20_4 : w19.cell? ⟨gb101, 4, none⟩ = some (.int .i64 a0_4) := (blk_cell BK101.out 4).trans rfl; have hcz20_5 : w19.cell? ⟨gb101, 5, none⟩ = some (.int .i64 a0_5) := (blk_cell BK101.out 5).trans rfl; have hcz20_6 : w19.cell? ⟨gb101, 6, none⟩ = some (.int .i64 a0_6) := (blk_cell BK101.out 6).trans rfl; have hcz20_7 : w19.cell? ⟨gb101, 7, none⟩ = some (.int .i64 a0_7) := (blk_cell BK101.out 7).trans rfl; have hcz20_8 : w19.cell? ⟨gb101, 8, none⟩ = some (.bool a0_8) := (blk_cell BK101.out 8).trans rfl; have hcz20_9 : w19.cell? ⟨gb101, 9, none⟩ = some (.string a0_9) := (blk_cell BK101.out 9).trans rfl; have hcz20_10 : w19.cell? ⟨gb101, 10, none⟩ = some (.bool a0_10) := (blk_cell BK101.out 10).trans rfl; have hcz20_11 : w19.cell? ⟨gb101, 11, none⟩ = some (.string a0_11) := (blk_cell BK101.out 11).trans rfl; have hcz20_12 : w19.cell? ⟨gb101, 12, none⟩ = some (.int .i64 a0_12) := (blk_cell BK101.out 12).trans rfl; have hfz20_0 := blk_frozen BK101.out 0; have hfz20_1 := blk_frozen BK101.out 1; have hfz20_2 := blk_frozen BK101.out 2; have hfz20_3 := blk_frozen BK101.out 3; have hfz20_4 := blk_frozen BK101.out 4; have hfz20_5 := blk_frozen BK101.out 5; have hfz20_6 := blk_frozen BK101.out 6; have hfz20_7 := blk_frozen BK101.out 7; have hfz20_8 := blk_frozen BK101.out 8; have hfz20_9 := blk_frozen BK101.out 9; have hfz20_10 := blk_frozen BK101.out 10; have hfz20_11 := blk_frozen BK101.out 11; have hfz20_12 := blk_frozen BK101.out 12))
            go_meet
            case rel => exact ⟨_, (decide (a0_5 ≥ a0_4)), (by first | rfl | (simp; done) | (simp [*]; done)), H', ⟨by first | omega | exact Nat.le_refl _⟩, ⟨by (with_reducible repeat (first | refine blk_drewN ?_ _ | refine blk_drew ?_ | refine blk_alloc ?_ _)); exact BK101.out⟩, ⟨by repeat (first | (with_reducible first | exact HB.out | apply below_alloc | apply pw_below_drewN | apply below_drew1 | refine below_set ?_ GE101.out) | exact HB.out)⟩⟩
    · replace c5 := Bool.eq_false_iff.mpr c5
      subst c5
      have H1 : (seneschalref04_Good.j0 k true a0_0 a0_1 a0_2 a0_3 a0_4 a0_5 a0_6 a0_7 a0_8 a0_9 a0_10 a0_11 a0_12) = some r := by rw [if_neg (show ¬ (false = true) by decide)] at H; exact H
      clear H
      have H := H1
      clear H1
      have H' := Aside0.mk H
      clear H
      have hcz21_0 : w3.cell? ⟨gb101, 0, none⟩ = some (.int .i64 a0_0) := (blk_cell BK101.out 0).trans rfl
      have hcz21_1 : w3.cell? ⟨gb101, 1, none⟩ = some (.int .i64 a0_1) := (blk_cell BK101.out 1).trans rfl
      have hcz21_2 : w3.cell? ⟨gb101, 2, none⟩ = some (.int .i64 a0_2) := (blk_cell BK101.out 2).trans rfl
      have hcz21_3 : w3.cell? ⟨gb101, 3, none⟩ = some (.int .i64 a0_3) := (blk_cell BK101.out 3).trans rfl
      have hcz21_4 : w3.cell? ⟨gb101, 4, none⟩ = some (.int .i64 a0_4) := (blk_cell BK101.out 4).trans rfl
      have hcz21_5 : w3.cell? ⟨gb101, 5, none⟩ = some (.int .i64 a0_5) := (blk_cell BK101.out 5).trans rfl
      have hcz21_6 : w3.cell? ⟨gb101, 6, none⟩ = some (.int .i64 a0_6) := (blk_cell BK101.out 6).trans rfl
      have hcz21_7 : w3.cell? ⟨gb101, 7, none⟩ = some (.int .i64 a0_7) := (blk_cell BK101.out 7).trans rfl
      have hcz21_8 : w3.cell? ⟨gb101, 8, none⟩ = some (.bool a0_8) := (blk_cell BK101.out 8).trans rfl
      have hcz21_9 : w3.cell? ⟨gb101, 9, none⟩ = some (.string a0_9) := (blk_cell BK101.out 9).trans rfl
      have hcz21_10 : w3.cell? ⟨gb101, 10, none⟩ = some (.bool a0_10) := (blk_cell BK101.out 10).trans rfl
      have hcz21_11 : w3.cell? ⟨gb101, 11, none⟩ = some (.string a0_11) := (blk_cell BK101.out 11).trans rfl
      have hcz21_12 : w3.cell? ⟨gb101, 12, none⟩ = some (.int .i64 a0_12) := (blk_cell BK101.out 12).trans rfl
      have hfz21_0 := blk_frozen BK101.out 0
      have hfz21_1 := blk_frozen BK101.out 1
      have hfz21_2 := blk_frozen BK101.out 2
      have hfz21_3 := blk_frozen BK101.out 3
      have hfz21_4 := blk_frozen BK101.out 4
      have hfz21_5 := blk_frozen BK101.out 5
      have hfz21_6 := blk_frozen BK101.out 6
      have hfz21_7 := blk_frozen BK101.out 7
      have hfz21_8 := blk_frozen BK101.out 8
      have hfz21_9 := blk_frozen BK101.out 9
      have hfz21_10 := blk_frozen BK101.out 10
      have hfz21_11 := blk_frozen BK101.out 11
      have hfz21_12 := blk_frozen BK101.out 12
      go_wp2_with (first | ((with_reducible refine gate_callee (f := 60) rfl ?_); refine goesL_ (some 6) rfl rfl Try.func60 (by kernel_rfl) rfl #[.agg #[.int .i64 a0_1, .int .i64 a0_2, .int .i64 a0_3]] rfl (by (try simp only [List.map_toArray, List.map_cons, List.map_nil]); first | done | rfl | (simp only [List.length_drop, List.length_take]; rfl)) ?_; (with_reducible refine (refKnown4.calls a0_1 a0_2 a0_3 false _ A4.out).mono ?_); rintro e w22 ⟨rfl, hb⟩; refine ⟨_, rfl, ?_⟩; have n0_ := Aside0.mk (blk_below (g := gb101) (o := .cells #[.int .i64 a0_0, .int .i64 a0_1, .int .i64 a0_2, .int .i64 a0_3, .int .i64 a0_4, .int .i64 a0_5, .int .i64 a0_6, .int .i64 a0_7, .bool a0_8, .string a0_9, .bool a0_10, .string a0_11, .int .i64 a0_12] 65 (0, 0)) (by (with_reducible repeat (first | refine blk_drewN ?_ _ | refine blk_drew ?_ | refine blk_alloc ?_ _)); exact BK101.out) hb); have n1_ := Aside0.mk (below_step (by repeat (first | (with_reducible first | exact HB.out | apply below_alloc | apply pw_below_drewN | apply below_drew1 | refine below_set ?_ GE101.out) | exact HB.out)) hb); clear BK101; clear HB; have BK101 := n0_; have HB := n1_; clear n0_ n1_; (try clear hb); (try clear hb2); (try clear hk); (try clear hi)))
      go_meet
      case rel => exact ⟨_, (true), (by first | rfl | (simp; done) | (simp [*]; done)), H', ⟨by first | omega | exact Nat.le_refl _⟩, ⟨by (with_reducible repeat (first | refine blk_drewN ?_ _ | refine blk_drew ?_ | refine blk_alloc ?_ _)); exact BK101.out⟩, ⟨by repeat (first | (with_reducible first | exact HB.out | apply below_alloc | apply pw_below_drewN | apply below_drew1 | refine below_set ?_ GE101.out) | exact HB.out)⟩⟩
  case rest =>
    clear HC2
    try clear c1
    try clear p2
    try clear c5
    try clear c6
    try clear c6b0
    try clear c10
    try clear c10b0
    try clear c14
    try clear c14b0
    try clear hcz11_0
    try clear hcz11_1
    try clear hcz11_10
    try clear hcz11_11
    try clear hcz11_12
    try clear hcz11_2
    try clear hcz11_3
    try clear hcz11_4
    try clear hcz11_5
    try clear hcz11_6
    try clear hcz11_7
    try clear hcz11_8
    try clear hcz11_9
    try clear hcz13_0
    try clear hcz13_1
    try clear hcz13_10
    try clear hcz13_11
    try clear hcz13_12
    try clear hcz13_2
    try clear hcz13_3
    try clear hcz13_4
    try clear hcz13_5
    try clear hcz13_6
    try clear hcz13_7
    try clear hcz13_8
    try clear hcz13_9
    try clear hcz15_0
    try clear hcz15_1
    try clear hcz15_10
    try clear hcz15_11
    try clear hcz15_12
    try clear hcz15_2
    try clear hcz15_3
    try clear hcz15_4
    try clear hcz15_5
    try clear hcz15_6
    try clear hcz15_7
    try clear hcz15_8
    try clear hcz15_9
    try clear hcz17_0
    try clear hcz17_1
    try clear hcz17_10
    try clear hcz17_11
    try clear hcz17_12
    try clear hcz17_2
    try clear hcz17_3
    try clear hcz17_4
    try clear hcz17_5
    try clear hcz17_6
    try clear hcz17_7
    try clear hcz17_8
    try clear hcz17_9
    try clear hcz18_0
    try clear hcz18_1
    try clear hcz18_10
    try clear hcz18_11
    try clear hcz18_12
    try clear hcz18_2
    try clear hcz18_3
    try clear hcz18_4
    try clear hcz18_5
    try clear hcz18_6
    try clear hcz18_7
    try clear hcz18_8
    try clear hcz18_9
    try clear hcz20_0
    try clear hcz20_1
    try clear hcz20_10
    try clear hcz20_11
    try clear hcz20_12
    try clear hcz20_2
    try clear hcz20_3
    try clear hcz20_4
    try clear hcz20_5
    try clear hcz20_6
    try clear hcz20_7
    try clear hcz20_8
    try clear hcz20_9
    try clear hcz21_0
    try clear hcz21_1
    try clear hcz21_10
    try clear hcz21_11
    try clear hcz21_12
    try clear hcz21_2
    try clear hcz21_3
    try clear hcz21_4
    try clear hcz21_5
    try clear hcz21_6
    try clear hcz21_7
    try clear hcz21_8
    try clear hcz21_9
    try clear hcz7_0
    try clear hcz7_1
    try clear hcz7_10
    try clear hcz7_11
    try clear hcz7_12
    try clear hcz7_2
    try clear hcz7_3
    try clear hcz7_4
    try clear hcz7_5
    try clear hcz7_6
    try clear hcz7_7
    try clear hcz7_8
    try clear hcz7_9
    try clear hcz9_0
    try clear hcz9_1
    try clear hcz9_10
    try clear hcz9_11
    try clear hcz9_12
    try clear hcz9_2
    try clear hcz9_3
    try clear hcz9_4
    try clear hcz9_5
    try clear hcz9_6
    try clear hcz9_7
    try clear hcz9_8
    try clear hcz9_9
    try clear hfz11_0
    try clear hfz11_1
    try clear hfz11_10
    try clear hfz11_11
    try clear hfz11_12
    try clear hfz11_2
    try clear hfz11_3
    try clear hfz11_4
    try clear hfz11_5
    try clear hfz11_6
    try clear hfz11_7
    try clear hfz11_8
    try clear hfz11_9
    try clear hfz13_0
    try clear hfz13_1
    try clear hfz13_10
    try clear hfz13_11
    try clear hfz13_12
    try clear hfz13_2
    try clear hfz13_3
    try clear hfz13_4
    try clear hfz13_5
    try clear hfz13_6
    try clear hfz13_7
    try clear hfz13_8
    try clear hfz13_9
    try clear hfz15_0
    try clear hfz15_1
    try clear hfz15_10
    try clear hfz15_11
    try clear hfz15_12
    try clear hfz15_2
    try clear hfz15_3
    try clear hfz15_4
    try clear hfz15_5
    try clear hfz15_6
    try clear hfz15_7
    try clear hfz15_8
    try clear hfz15_9
    try clear hfz17_0
    try clear hfz17_1
    try clear hfz17_10
    try clear hfz17_11
    try clear hfz17_12
    try clear hfz17_2
    try clear hfz17_3
    try clear hfz17_4
    try clear hfz17_5
    try clear hfz17_6
    try clear hfz17_7
    try clear hfz17_8
    try clear hfz17_9
    try clear hfz18_0
    try clear hfz18_1
    try clear hfz18_10
    try clear hfz18_11
    try clear hfz18_12
    try clear hfz18_2
    try clear hfz18_3
    try clear hfz18_4
    try clear hfz18_5
    try clear hfz18_6
    try clear hfz18_7
    try clear hfz18_8
    try clear hfz18_9
    try clear hfz20_0
    try clear hfz20_1
    try clear hfz20_10
    try clear hfz20_11
    try clear hfz20_12
    try clear hfz20_2
    try clear hfz20_3
    try clear hfz20_4
    try clear hfz20_5
    try clear hfz20_6
    try clear hfz20_7
    try clear hfz20_8
    try clear hfz20_9
    try clear hfz21_0
    try clear hfz21_1
    try clear hfz21_10
    try clear hfz21_11
    try clear hfz21_12
    try clear hfz21_2
    try clear hfz21_3
    try clear hfz21_4
    try clear hfz21_5
    try clear hfz21_6
    try clear hfz21_7
    try clear hfz21_8
    try clear hfz21_9
    try clear hfz7_0
    try clear hfz7_1
    try clear hfz7_10
    try clear hfz7_11
    try clear hfz7_12
    try clear hfz7_2
    try clear hfz7_3
    try clear hfz7_4
    try clear hfz7_5
    try clear hfz7_6
    try clear hfz7_7
    try clear hfz7_8
    try clear hfz7_9
    try clear hfz9_0
    try clear hfz9_1
    try clear hfz9_10
    try clear hfz9_11
    try clear hfz9_12
    try clear hfz9_2
    try clear hfz9_3
    try clear hfz9_4
    try clear hfz9_5
    try clear hfz9_6
    try clear hfz9_7
    try clear hfz9_8
    try clear hfz9_9
    obtain ⟨kq, x29_1, rfl, HA, HJ1, BK101, HB⟩ := hcut
    cases kq with
    | zero => exact absurd HA.out (by simp [seneschalref04_Good.j0])
    | succ kj1 =>
      have H := HA.out
      clear HA
      simp only [seneschalref04_Good.j0] at H
      by_cases c23 : x29_1 = true
      · subst c23
        have H1 : (some false) = some r := by rw [if_pos rfl] at H; exact H
        clear H
        have H := H1
        clear H1
        obtain rfl := Option.some.inj H
        go_wp2
        go_ret
        exact ⟨by first | rfl | (simp [errW_none, errW_some] <;> rfl) | (simp [*, errW_none, errW_some] <;> rfl), by repeat (first | (with_reducible first | exact HB.out | apply below_alloc | apply pw_below_drewN | apply below_drew1 | refine below_set ?_ GE101.out) | exact HB.out)⟩
      · replace c23 := Bool.eq_false_iff.mpr c23
        subst c23
        have H1 : (if a0_0 = 1 then (seneschalref04_Good.j1 kj1 a0_0 (a0_0 == 1) a0_0 a0_1 a0_2 a0_3 a0_4 a0_5 a0_6 a0_7 a0_8 a0_9 a0_10 a0_11 a0_12) else (seneschalref04_Good.j1 kj1 a0_0 (a0_0 == 2) a0_0 a0_1 a0_2 a0_3 a0_4 a0_5 a0_6 a0_7 a0_8 a0_9 a0_10 a0_11 a0_12)) = some r := by rw [if_neg (show ¬ (false = true) by decide)] at H; exact H
        clear H
        have H := H1
        clear H1
        have HC24 := Aside0.mk H
        clear H
        have hcz25_0 : wc.cell? ⟨gb101, 0, none⟩ = some (.int .i64 a0_0) := (blk_cell BK101.out 0).trans rfl
        have hcz25_1 : wc.cell? ⟨gb101, 1, none⟩ = some (.int .i64 a0_1) := (blk_cell BK101.out 1).trans rfl
        have hcz25_2 : wc.cell? ⟨gb101, 2, none⟩ = some (.int .i64 a0_2) := (blk_cell BK101.out 2).trans rfl
        have hcz25_3 : wc.cell? ⟨gb101, 3, none⟩ = some (.int .i64 a0_3) := (blk_cell BK101.out 3).trans rfl
        have hcz25_4 : wc.cell? ⟨gb101, 4, none⟩ = some (.int .i64 a0_4) := (blk_cell BK101.out 4).trans rfl
        have hcz25_5 : wc.cell? ⟨gb101, 5, none⟩ = some (.int .i64 a0_5) := (blk_cell BK101.out 5).trans rfl
        have hcz25_6 : wc.cell? ⟨gb101, 6, none⟩ = some (.int .i64 a0_6) := (blk_cell BK101.out 6).trans rfl
        have hcz25_7 : wc.cell? ⟨gb101, 7, none⟩ = some (.int .i64 a0_7) := (blk_cell BK101.out 7).trans rfl
        have hcz25_8 : wc.cell? ⟨gb101, 8, none⟩ = some (.bool a0_8) := (blk_cell BK101.out 8).trans rfl
        have hcz25_9 : wc.cell? ⟨gb101, 9, none⟩ = some (.string a0_9) := (blk_cell BK101.out 9).trans rfl
        have hcz25_10 : wc.cell? ⟨gb101, 10, none⟩ = some (.bool a0_10) := (blk_cell BK101.out 10).trans rfl
        have hcz25_11 : wc.cell? ⟨gb101, 11, none⟩ = some (.string a0_11) := (blk_cell BK101.out 11).trans rfl
        have hcz25_12 : wc.cell? ⟨gb101, 12, none⟩ = some (.int .i64 a0_12) := (blk_cell BK101.out 12).trans rfl
        have hfz25_0 := blk_frozen BK101.out 0
        have hfz25_1 := blk_frozen BK101.out 1
        have hfz25_2 := blk_frozen BK101.out 2
        have hfz25_3 := blk_frozen BK101.out 3
        have hfz25_4 := blk_frozen BK101.out 4
        have hfz25_5 := blk_frozen BK101.out 5
        have hfz25_6 := blk_frozen BK101.out 6
        have hfz25_7 := blk_frozen BK101.out 7
        have hfz25_8 := blk_frozen BK101.out 8
        have hfz25_9 := blk_frozen BK101.out 9
        have hfz25_10 := blk_frozen BK101.out 10
        have hfz25_11 := blk_frozen BK101.out 11
        have hfz25_12 := blk_frozen BK101.out 12
        go_upto_if 32 with (fail)
        go_cut [32] (fun v32 wc => ∃ (kq : Nat) (x32_23 : Bool), v32 = .bool x32_23 ∧ Aside0 (seneschalref04_Good.j1 kq a0_0 x32_23 a0_0 a0_1 a0_2 a0_3 a0_4 a0_5 a0_6 a0_7 a0_8 a0_9 a0_10 a0_11 a0_12 = some r) ∧ Aside0 (kq ≤ kj1) ∧ Aside0 (wc.heap[gb101]? = some (.cells #[.int .i64 a0_0, .int .i64 a0_1, .int .i64 a0_2, .int .i64 a0_3, .int .i64 a0_4, .int .i64 a0_5, .int .i64 a0_6, .int .i64 a0_7, .bool a0_8, .string a0_9, .bool a0_10, .string a0_11, .int .i64 a0_12] 65 (0, 0))) ∧ Aside0 (Below w.heap.size w wc))
        case first =>
          have H := HC24.out
          clear HC24
          by_cases c26 : a0_0 = 1
          · rw [if_pos c26] at H
            have c26b0 : (a0_0 == 1) = true := beq_iff_eq.mpr c26
            have c26b1 : (a0_0 != 1) = false := bne_eq_false_iff_eq.mpr c26
            clear c26
            (first | rw [c26b0] | (simp only [i64_w, i32_w]; rw [c26b0]) | skip)
            have H' := Aside0.mk H
            clear H
            go_wp2
            go_meet
            case rel => exact ⟨_, ((a0_0 == 1)), (by first | rfl | (simp; done) | (simp [*]; done)), H', ⟨by have := HJ1.out; first | omega | exact Nat.le_refl _⟩, ⟨by (with_reducible repeat (first | refine blk_drewN ?_ _ | refine blk_drew ?_ | refine blk_alloc ?_ _)); exact BK101.out⟩, ⟨by repeat (first | (with_reducible first | exact HB.out | apply below_alloc | apply pw_below_drewN | apply below_drew1 | refine below_set ?_ GE101.out) | exact HB.out)⟩⟩
          · rw [if_neg c26] at H
            have c26b0 : (a0_0 == 1) = false := beq_eq_false_iff_ne.mpr c26
            have c26b1 : (a0_0 != 1) = true := bne_iff_ne.mpr c26
            (first | rw [c26b0] | (simp only [i64_w, i32_w]; rw [c26b0]) | skip)
            have H' := Aside0.mk H
            clear H
            go_wp2
            go_meet
            case rel => exact ⟨_, ((a0_0 == 2)), (by first | rfl | (simp; done) | (simp [*]; done)), H', ⟨by have := HJ1.out; first | omega | exact Nat.le_refl _⟩, ⟨by (with_reducible repeat (first | refine blk_drewN ?_ _ | refine blk_drew ?_ | refine blk_alloc ?_ _)); exact BK101.out⟩, ⟨by repeat (first | (with_reducible first | exact HB.out | apply below_alloc | apply pw_below_drewN | apply below_drew1 | refine below_set ?_ GE101.out) | exact HB.out)⟩⟩
        case rest =>
          clear HC24
          try clear c1
          try clear c2
          try clear p2
          try clear c5
          try clear c6
          try clear c6b0
          try clear c10
          try clear c10b0
          try clear c14
          try clear c14b0
          try clear c23
          try clear c26
          try clear c26b0
          try clear c26b1
          try clear hcz11_0
          try clear hcz11_1
          try clear hcz11_10
          try clear hcz11_11
          try clear hcz11_12
          try clear hcz11_2
          try clear hcz11_3
          try clear hcz11_4
          try clear hcz11_5
          try clear hcz11_6
          try clear hcz11_7
          try clear hcz11_8
          try clear hcz11_9
          try clear hcz13_0
          try clear hcz13_1
          try clear hcz13_10
          try clear hcz13_11
          try clear hcz13_12
          try clear hcz13_2
          try clear hcz13_3
          try clear hcz13_4
          try clear hcz13_5
          try clear hcz13_6
          try clear hcz13_7
          try clear hcz13_8
          try clear hcz13_9
          try clear hcz15_0
          try clear hcz15_1
          try clear hcz15_10
          try clear hcz15_11
          try clear hcz15_12
          try clear hcz15_2
          try clear hcz15_3
          try clear hcz15_4
          try clear hcz15_5
          try clear hcz15_6
          try clear hcz15_7
          try clear hcz15_8
          try clear hcz15_9
          try clear hcz17_0
          try clear hcz17_1
          try clear hcz17_10
          try clear hcz17_11
          try clear hcz17_12
          try clear hcz17_2
          try clear hcz17_3
          try clear hcz17_4
          try clear hcz17_5
          try clear hcz17_6
          try clear hcz17_7
          try clear hcz17_8
          try clear hcz17_9
          try clear hcz18_0
          try clear hcz18_1
          try clear hcz18_10
          try clear hcz18_11
          try clear hcz18_12
          try clear hcz18_2
          try clear hcz18_3
          try clear hcz18_4
          try clear hcz18_5
          try clear hcz18_6
          try clear hcz18_7
          try clear hcz18_8
          try clear hcz18_9
          try clear hcz20_0
          try clear hcz20_1
          try clear hcz20_10
          try clear hcz20_11
          try clear hcz20_12
          try clear hcz20_2
          try clear hcz20_3
          try clear hcz20_4
          try clear hcz20_5
          try clear hcz20_6
          try clear hcz20_7
          try clear hcz20_8
          try clear hcz20_9
          try clear hcz21_0
          try clear hcz21_1
          try clear hcz21_10
          try clear hcz21_11
          try clear hcz21_12
          try clear hcz21_2
          try clear hcz21_3
          try clear hcz21_4
          try clear hcz21_5
          try clear hcz21_6
          try clear hcz21_7
          try clear hcz21_8
          try clear hcz21_9
          try clear hcz25_0
          try clear hcz25_1
          try clear hcz25_10
          try clear hcz25_11
          try clear hcz25_12
          try clear hcz25_2
          try clear hcz25_3
          try clear hcz25_4
          try clear hcz25_5
          try clear hcz25_6
          try clear hcz25_7
          try clear hcz25_8
          try clear hcz25_9
          try clear hcz7_0
          try clear hcz7_1
          try clear hcz7_10
          try clear hcz7_11
          try clear hcz7_12
          try clear hcz7_2
          try clear hcz7_3
          try clear hcz7_4
          try clear hcz7_5
          try clear hcz7_6
          try clear hcz7_7
          try clear hcz7_8
          try clear hcz7_9
          try clear hcz9_0
          try clear hcz9_1
          try clear hcz9_10
          try clear hcz9_11
          try clear hcz9_12
          try clear hcz9_2
          try clear hcz9_3
          try clear hcz9_4
          try clear hcz9_5
          try clear hcz9_6
          try clear hcz9_7
          try clear hcz9_8
          try clear hcz9_9
          try clear hfz11_0
          try clear hfz11_1
          try clear hfz11_10
          try clear hfz11_11
          try clear hfz11_12
          try clear hfz11_2
          try clear hfz11_3
          try clear hfz11_4
          try clear hfz11_5
          try clear hfz11_6
          try clear hfz11_7
          try clear hfz11_8
          try clear hfz11_9
          try clear hfz13_0
          try clear hfz13_1
          try clear hfz13_10
          try clear hfz13_11
          try clear hfz13_12
          try clear hfz13_2
          try clear hfz13_3
          try clear hfz13_4
          try clear hfz13_5
          try clear hfz13_6
          try clear hfz13_7
          try clear hfz13_8
          try clear hfz13_9
          try clear hfz15_0
          try clear hfz15_1
          try clear hfz15_10
          try clear hfz15_11
          try clear hfz15_12
          try clear hfz15_2
          try clear hfz15_3
          try clear hfz15_4
          try clear hfz15_5
          try clear hfz15_6
          try clear hfz15_7
          try clear hfz15_8
          try clear hfz15_9
          try clear hfz17_0
          try clear hfz17_1
          try clear hfz17_10
          try clear hfz17_11
          try clear hfz17_12
          try clear hfz17_2
          try clear hfz17_3
          try clear hfz17_4
          try clear hfz17_5
          try clear hfz17_6
          try clear hfz17_7
          try clear hfz17_8
          try clear hfz17_9
          try clear hfz18_0
          try clear hfz18_1
          try clear hfz18_10
          try clear hfz18_11
          try clear hfz18_12
          try clear hfz18_2
          try clear hfz18_3
          try clear hfz18_4
          try clear hfz18_5
          try clear hfz18_6
          try clear hfz18_7
          try clear hfz18_8
          try clear hfz18_9
          try clear hfz20_0
          try clear hfz20_1
          try clear hfz20_10
          try clear hfz20_11
          try clear hfz20_12
          try clear hfz20_2
          try clear hfz20_3
          try clear hfz20_4
          try clear hfz20_5
          try clear hfz20_6
          try clear hfz20_7
          try clear hfz20_8
          try clear hfz20_9
          try clear hfz21_0
          try clear hfz21_1
          try clear hfz21_10
          try clear hfz21_11
          try clear hfz21_12
          try clear hfz21_2
          try clear hfz21_3
          try clear hfz21_4
          try clear hfz21_5
          try clear hfz21_6
          try clear hfz21_7
          try clear hfz21_8
          try clear hfz21_9
          try clear hfz25_0
          try clear hfz25_1
          try clear hfz25_10
          try clear hfz25_11
          try clear hfz25_12
          try clear hfz25_2
          try clear hfz25_3
          try clear hfz25_4
          try clear hfz25_5
          try clear hfz25_6
          try clear hfz25_7
          try clear hfz25_8
          try clear hfz25_9
          try clear hfz7_0
          try clear hfz7_1
          try clear hfz7_10
          try clear hfz7_11
          try clear hfz7_12
          try clear hfz7_2
          try clear hfz7_3
          try clear hfz7_4
          try clear hfz7_5
          try clear hfz7_6
          try clear hfz7_7
          try clear hfz7_8
          try clear hfz7_9
          try clear hfz9_0
          try clear hfz9_1
          try clear hfz9_10
          try clear hfz9_11
          try clear hfz9_12
          try clear hfz9_2
          try clear hfz9_3
          try clear hfz9_4
          try clear hfz9_5
          try clear hfz9_6
          try clear hfz9_7
          try clear hfz9_8
          try clear hfz9_9
          try clear p2
          obtain ⟨kq, x32_23, rfl, HA, HJ23, BK101, HB⟩ := hcut
          cases kq with
          | zero => exact absurd HA.out (by simp [seneschalref04_Good.j1])
          | succ kj23 =>
            have H := HA.out
            clear HA
            simp only [seneschalref04_Good.j1] at H
            by_cases c27 : x32_23 = true
            · subst c27
              have H1 : (if a0_6 < 0 then (some false) else (if a0_6 > 1023 then (some false) else (if a0_7 < 0 then (some false) else (if a0_7 > 31 then (some false) else ((seneschalref04_slot.f a0_8 a0_9).bind fun t103 => (if t103 = true then ((seneschalref04_slot.f a0_10 a0_11).bind fun t104 => (if t104 = true then (if a0_12 = 0 then (some true) else (if a0_0 = 2 then (if a0_12 > 0 then (some (decide (a0_12 ≤ a0_5))) else (some false)) else (some false))) else (some false))) else (some false))))))) = some r := by rw [if_pos rfl] at H; exact H
              clear H
              have H := H1
              clear H1
              by_cases c28 : a0_6 < 0
              · rw [if_pos c28] at H
                have c28b0 : decide (a0_6 < 0) = true := decide_eq_true c28
                clear c28
                obtain rfl := Option.some.inj H
                have hcz29_0 : wc.cell? ⟨gb101, 0, none⟩ = some (.int .i64 a0_0) := (blk_cell BK101.out 0).trans rfl
                have hcz29_1 : wc.cell? ⟨gb101, 1, none⟩ = some (.int .i64 a0_1) := (blk_cell BK101.out 1).trans rfl
                have hcz29_2 : wc.cell? ⟨gb101, 2, none⟩ = some (.int .i64 a0_2) := (blk_cell BK101.out 2).trans rfl
                have hcz29_3 : wc.cell? ⟨gb101, 3, none⟩ = some (.int .i64 a0_3) := (blk_cell BK101.out 3).trans rfl
                have hcz29_4 : wc.cell? ⟨gb101, 4, none⟩ = some (.int .i64 a0_4) := (blk_cell BK101.out 4).trans rfl
                have hcz29_5 : wc.cell? ⟨gb101, 5, none⟩ = some (.int .i64 a0_5) := (blk_cell BK101.out 5).trans rfl
                have hcz29_6 : wc.cell? ⟨gb101, 6, none⟩ = some (.int .i64 a0_6) := (blk_cell BK101.out 6).trans rfl
                have hcz29_7 : wc.cell? ⟨gb101, 7, none⟩ = some (.int .i64 a0_7) := (blk_cell BK101.out 7).trans rfl
                have hcz29_8 : wc.cell? ⟨gb101, 8, none⟩ = some (.bool a0_8) := (blk_cell BK101.out 8).trans rfl
                have hcz29_9 : wc.cell? ⟨gb101, 9, none⟩ = some (.string a0_9) := (blk_cell BK101.out 9).trans rfl
                have hcz29_10 : wc.cell? ⟨gb101, 10, none⟩ = some (.bool a0_10) := (blk_cell BK101.out 10).trans rfl
                have hcz29_11 : wc.cell? ⟨gb101, 11, none⟩ = some (.string a0_11) := (blk_cell BK101.out 11).trans rfl
                have hcz29_12 : wc.cell? ⟨gb101, 12, none⟩ = some (.int .i64 a0_12) := (blk_cell BK101.out 12).trans rfl
                have hfz29_0 := blk_frozen BK101.out 0
                have hfz29_1 := blk_frozen BK101.out 1
                have hfz29_2 := blk_frozen BK101.out 2
                have hfz29_3 := blk_frozen BK101.out 3
                have hfz29_4 := blk_frozen BK101.out 4
                have hfz29_5 := blk_frozen BK101.out 5
                have hfz29_6 := blk_frozen BK101.out 6
                have hfz29_7 := blk_frozen BK101.out 7
                have hfz29_8 := blk_frozen BK101.out 8
                have hfz29_9 := blk_frozen BK101.out 9
                have hfz29_10 := blk_frozen BK101.out 10
                have hfz29_11 := blk_frozen BK101.out 11
                have hfz29_12 := blk_frozen BK101.out 12
                go_wp2
                go_ret
                exact ⟨by first | rfl | (simp [errW_none, errW_some] <;> rfl) | (simp [*, errW_none, errW_some] <;> rfl), by repeat (first | (with_reducible first | exact HB.out | apply below_alloc | apply pw_below_drewN | apply below_drew1 | refine below_set ?_ GE101.out) | exact HB.out)⟩
              · rw [if_neg c28] at H
                have c28b0 : decide (a0_6 < 0) = false := decide_eq_false c28
                clear c28
                by_cases c30 : a0_6 > 1023
                · rw [if_pos c30] at H
                  have c30b0 : decide (1023 < a0_6) = true := decide_eq_true c30
                  clear c30
                  obtain rfl := Option.some.inj H
                  have hcz31_0 : wc.cell? ⟨gb101, 0, none⟩ = some (.int .i64 a0_0) := (blk_cell BK101.out 0).trans rfl
                  have hcz31_1 : wc.cell? ⟨gb101, 1, none⟩ = some (.int .i64 a0_1) := (blk_cell BK101.out 1).trans rfl
                  have hcz31_2 : wc.cell? ⟨gb101, 2, none⟩ = some (.int .i64 a0_2) := (blk_cell BK101.out 2).trans rfl
                  have hcz31_3 : wc.cell? ⟨gb101, 3, none⟩ = some (.int .i64 a0_3) := (blk_cell BK101.out 3).trans rfl
                  have hcz31_4 : wc.cell? ⟨gb101, 4, none⟩ = some (.int .i64 a0_4) := (blk_cell BK101.out 4).trans rfl
                  have hcz31_5 : wc.cell? ⟨gb101, 5, none⟩ = some (.int .i64 a0_5) := (blk_cell BK101.out 5).trans rfl
                  have hcz31_6 : wc.cell? ⟨gb101, 6, none⟩ = some (.int .i64 a0_6) := (blk_cell BK101.out 6).trans rfl
                  have hcz31_7 : wc.cell? ⟨gb101, 7, none⟩ = some (.int .i64 a0_7) := (blk_cell BK101.out 7).trans rfl
                  have hcz31_8 : wc.cell? ⟨gb101, 8, none⟩ = some (.bool a0_8) := (blk_cell BK101.out 8).trans rfl
                  have hcz31_9 : wc.cell? ⟨gb101, 9, none⟩ = some (.string a0_9) := (blk_cell BK101.out 9).trans rfl
                  have hcz31_10 : wc.cell? ⟨gb101, 10, none⟩ = some (.bool a0_10) := (blk_cell BK101.out 10).trans rfl
                  have hcz31_11 : wc.cell? ⟨gb101, 11, none⟩ = some (.string a0_11) := (blk_cell BK101.out 11).trans rfl
                  have hcz31_12 : wc.cell? ⟨gb101, 12, none⟩ = some (.int .i64 a0_12) := (blk_cell BK101.out 12).trans rfl
                  have hfz31_0 := blk_frozen BK101.out 0
                  have hfz31_1 := blk_frozen BK101.out 1
                  have hfz31_2 := blk_frozen BK101.out 2
                  have hfz31_3 := blk_frozen BK101.out 3
                  have hfz31_4 := blk_frozen BK101.out 4
                  have hfz31_5 := blk_frozen BK101.out 5
                  have hfz31_6 := blk_frozen BK101.out 6
                  have hfz31_7 := blk_frozen BK101.out 7
                  have hfz31_8 := blk_frozen BK101.out 8
                  have hfz31_9 := blk_frozen BK101.out 9
                  have hfz31_10 := blk_frozen BK101.out 10
                  have hfz31_11 := blk_frozen BK101.out 11
                  have hfz31_12 := blk_frozen BK101.out 12
                  go_wp2
                  go_ret
                  exact ⟨by first | rfl | (simp [errW_none, errW_some] <;> rfl) | (simp [*, errW_none, errW_some] <;> rfl), by repeat (first | (with_reducible first | exact HB.out | apply below_alloc | apply pw_below_drewN | apply below_drew1 | refine below_set ?_ GE101.out) | exact HB.out)⟩
                · rw [if_neg c30] at H
                  have c30b0 : decide (1023 < a0_6) = false := decide_eq_false c30
                  clear c30
                  by_cases c32 : a0_7 < 0
                  · rw [if_pos c32] at H
                    have c32b0 : decide (a0_7 < 0) = true := decide_eq_true c32
                    clear c32
                    obtain rfl := Option.some.inj H
                    have hcz33_0 : wc.cell? ⟨gb101, 0, none⟩ = some (.int .i64 a0_0) := (blk_cell BK101.out 0).trans rfl
                    have hcz33_1 : wc.cell? ⟨gb101, 1, none⟩ = some (.int .i64 a0_1) := (blk_cell BK101.out 1).trans rfl
                    have hcz33_2 : wc.cell? ⟨gb101, 2, none⟩ = some (.int .i64 a0_2) := (blk_cell BK101.out 2).trans rfl
                    have hcz33_3 : wc.cell? ⟨gb101, 3, none⟩ = some (.int .i64 a0_3) := (blk_cell BK101.out 3).trans rfl
                    have hcz33_4 : wc.cell? ⟨gb101, 4, none⟩ = some (.int .i64 a0_4) := (blk_cell BK101.out 4).trans rfl
                    have hcz33_5 : wc.cell? ⟨gb101, 5, none⟩ = some (.int .i64 a0_5) := (blk_cell BK101.out 5).trans rfl
                    have hcz33_6 : wc.cell? ⟨gb101, 6, none⟩ = some (.int .i64 a0_6) := (blk_cell BK101.out 6).trans rfl
                    have hcz33_7 : wc.cell? ⟨gb101, 7, none⟩ = some (.int .i64 a0_7) := (blk_cell BK101.out 7).trans rfl
                    have hcz33_8 : wc.cell? ⟨gb101, 8, none⟩ = some (.bool a0_8) := (blk_cell BK101.out 8).trans rfl
                    have hcz33_9 : wc.cell? ⟨gb101, 9, none⟩ = some (.string a0_9) := (blk_cell BK101.out 9).trans rfl
                    have hcz33_10 : wc.cell? ⟨gb101, 10, none⟩ = some (.bool a0_10) := (blk_cell BK101.out 10).trans rfl
                    have hcz33_11 : wc.cell? ⟨gb101, 11, none⟩ = some (.string a0_11) := (blk_cell BK101.out 11).trans rfl
                    have hcz33_12 : wc.cell? ⟨gb101, 12, none⟩ = some (.int .i64 a0_12) := (blk_cell BK101.out 12).trans rfl
                    have hfz33_0 := blk_frozen BK101.out 0
                    have hfz33_1 := blk_frozen BK101.out 1
                    have hfz33_2 := blk_frozen BK101.out 2
                    have hfz33_3 := blk_frozen BK101.out 3
                    have hfz33_4 := blk_frozen BK101.out 4
                    have hfz33_5 := blk_frozen BK101.out 5
                    have hfz33_6 := blk_frozen BK101.out 6
                    have hfz33_7 := blk_frozen BK101.out 7
                    have hfz33_8 := blk_frozen BK101.out 8
                    have hfz33_9 := blk_frozen BK101.out 9
                    have hfz33_10 := blk_frozen BK101.out 10
                    have hfz33_11 := blk_frozen BK101.out 11
                    have hfz33_12 := blk_frozen BK101.out 12
                    go_wp2
                    go_ret
                    exact ⟨by first | rfl | (simp [errW_none, errW_some] <;> rfl) | (simp [*, errW_none, errW_some] <;> rfl), by repeat (first | (with_reducible first | exact HB.out | apply below_alloc | apply pw_below_drewN | apply below_drew1 | refine below_set ?_ GE101.out) | exact HB.out)⟩
                  · rw [if_neg c32] at H
                    have c32b0 : decide (a0_7 < 0) = false := decide_eq_false c32
                    clear c32
                    by_cases c34 : a0_7 > 31
                    · rw [if_pos c34] at H
                      have c34b0 : decide (31 < a0_7) = true := decide_eq_true c34
                      clear c34
                      obtain rfl := Option.some.inj H
                      have hcz35_0 : wc.cell? ⟨gb101, 0, none⟩ = some (.int .i64 a0_0) := (blk_cell BK101.out 0).trans rfl
                      have hcz35_1 : wc.cell? ⟨gb101, 1, none⟩ = some (.int .i64 a0_1) := (blk_cell BK101.out 1).trans rfl
                      have hcz35_2 : wc.cell? ⟨gb101, 2, none⟩ = some (.int .i64 a0_2) := (blk_cell BK101.out 2).trans rfl
                      have hcz35_3 : wc.cell? ⟨gb101, 3, none⟩ = some (.int .i64 a0_3) := (blk_cell BK101.out 3).trans rfl
                      have hcz35_4 : wc.cell? ⟨gb101, 4, none⟩ = some (.int .i64 a0_4) := (blk_cell BK101.out 4).trans rfl
                      have hcz35_5 : wc.cell? ⟨gb101, 5, none⟩ = some (.int .i64 a0_5) := (blk_cell BK101.out 5).trans rfl
                      have hcz35_6 : wc.cell? ⟨gb101, 6, none⟩ = some (.int .i64 a0_6) := (blk_cell BK101.out 6).trans rfl
                      have hcz35_7 : wc.cell? ⟨gb101, 7, none⟩ = some (.int .i64 a0_7) := (blk_cell BK101.out 7).trans rfl
                      have hcz35_8 : wc.cell? ⟨gb101, 8, none⟩ = some (.bool a0_8) := (blk_cell BK101.out 8).trans rfl
                      have hcz35_9 : wc.cell? ⟨gb101, 9, none⟩ = some (.string a0_9) := (blk_cell BK101.out 9).trans rfl
                      have hcz35_10 : wc.cell? ⟨gb101, 10, none⟩ = some (.bool a0_10) := (blk_cell BK101.out 10).trans rfl
                      have hcz35_11 : wc.cell? ⟨gb101, 11, none⟩ = some (.string a0_11) := (blk_cell BK101.out 11).trans rfl
                      have hcz35_12 : wc.cell? ⟨gb101, 12, none⟩ = some (.int .i64 a0_12) := (blk_cell BK101.out 12).trans rfl
                      have hfz35_0 := blk_frozen BK101.out 0
                      have hfz35_1 := blk_frozen BK101.out 1
                      have hfz35_2 := blk_frozen BK101.out 2
                      have hfz35_3 := blk_frozen BK101.out 3
                      have hfz35_4 := blk_frozen BK101.out 4
                      have hfz35_5 := blk_frozen BK101.out 5
                      have hfz35_6 := blk_frozen BK101.out 6
                      have hfz35_7 := blk_frozen BK101.out 7
                      have hfz35_8 := blk_frozen BK101.out 8
                      have hfz35_9 := blk_frozen BK101.out 9
                      have hfz35_10 := blk_frozen BK101.out 10
                      have hfz35_11 := blk_frozen BK101.out 11
                      have hfz35_12 := blk_frozen BK101.out 12
                      go_wp2
                      go_ret
                      exact ⟨by first | rfl | (simp [errW_none, errW_some] <;> rfl) | (simp [*, errW_none, errW_some] <;> rfl), by repeat (first | (with_reducible first | exact HB.out | apply below_alloc | apply pw_below_drewN | apply below_drew1 | refine below_set ?_ GE101.out) | exact HB.out)⟩
                    · rw [if_neg c34] at H
                      have c34b0 : decide (31 < a0_7) = false := decide_eq_false c34
                      clear c34
                      replace H := Option.bind_eq_some_iff.mp H
                      obtain ⟨t103, A360, H⟩ := H
                      replace H : (if t103 = true then ((seneschalref04_slot.f a0_10 a0_11).bind fun t104 => (if t104 = true then (if a0_12 = 0 then (some true) else (if a0_0 = 2 then (if a0_12 > 0 then (some (decide (a0_12 ≤ a0_5))) else (some false)) else (some false))) else (some false))) else (some false)) = some r := H
                      have A36 := Aside0.mk A360
                      clear A360
                      by_cases c37 : t103 = true
                      · subst c37
                        have H1 : ((seneschalref04_slot.f a0_10 a0_11).bind fun t104 => (if t104 = true then (if a0_12 = 0 then (some true) else (if a0_0 = 2 then (if a0_12 > 0 then (some (decide (a0_12 ≤ a0_5))) else (some false)) else (some false))) else (some false))) = some r := by rw [if_pos rfl] at H; exact H
                        clear H
                        have H := H1
                        clear H1
                        replace H := Option.bind_eq_some_iff.mp H
                        obtain ⟨t104, A380, H⟩ := H
                        replace H : (if t104 = true then (if a0_12 = 0 then (some true) else (if a0_0 = 2 then (if a0_12 > 0 then (some (decide (a0_12 ≤ a0_5))) else (some false)) else (some false))) else (some false)) = some r := H
                        have A38 := Aside0.mk A380
                        clear A380
                        by_cases c39 : t104 = true
                        · subst c39
                          have H1 : (if a0_12 = 0 then (some true) else (if a0_0 = 2 then (if a0_12 > 0 then (some (decide (a0_12 ≤ a0_5))) else (some false)) else (some false))) = some r := by rw [if_pos rfl] at H; exact H
                          clear H
                          have H := H1
                          clear H1
                          by_cases c40 : a0_12 = 0
                          · rw [if_pos c40] at H
                            have c40b0 : (a0_12 == 0) = true := beq_iff_eq.mpr c40
                            have c40b1 : (a0_12 != 0) = false := bne_eq_false_iff_eq.mpr c40
                            clear c40
                            obtain rfl := Option.some.inj H
                            have hcz41_0 : wc.cell? ⟨gb101, 0, none⟩ = some (.int .i64 a0_0) := (blk_cell BK101.out 0).trans rfl
                            have hcz41_1 : wc.cell? ⟨gb101, 1, none⟩ = some (.int .i64 a0_1) := (blk_cell BK101.out 1).trans rfl
                            have hcz41_2 : wc.cell? ⟨gb101, 2, none⟩ = some (.int .i64 a0_2) := (blk_cell BK101.out 2).trans rfl
                            have hcz41_3 : wc.cell? ⟨gb101, 3, none⟩ = some (.int .i64 a0_3) := (blk_cell BK101.out 3).trans rfl
                            have hcz41_4 : wc.cell? ⟨gb101, 4, none⟩ = some (.int .i64 a0_4) := (blk_cell BK101.out 4).trans rfl
                            have hcz41_5 : wc.cell? ⟨gb101, 5, none⟩ = some (.int .i64 a0_5) := (blk_cell BK101.out 5).trans rfl
                            have hcz41_6 : wc.cell? ⟨gb101, 6, none⟩ = some (.int .i64 a0_6) := (blk_cell BK101.out 6).trans rfl
                            have hcz41_7 : wc.cell? ⟨gb101, 7, none⟩ = some (.int .i64 a0_7) := (blk_cell BK101.out 7).trans rfl
                            have hcz41_8 : wc.cell? ⟨gb101, 8, none⟩ = some (.bool a0_8) := (blk_cell BK101.out 8).trans rfl
                            have hcz41_9 : wc.cell? ⟨gb101, 9, none⟩ = some (.string a0_9) := (blk_cell BK101.out 9).trans rfl
                            have hcz41_10 : wc.cell? ⟨gb101, 10, none⟩ = some (.bool a0_10) := (blk_cell BK101.out 10).trans rfl
                            have hcz41_11 : wc.cell? ⟨gb101, 11, none⟩ = some (.string a0_11) := (blk_cell BK101.out 11).trans rfl
                            have hcz41_12 : wc.cell? ⟨gb101, 12, none⟩ = some (.int .i64 a0_12) := (blk_cell BK101.out 12).trans rfl
                            have hfz41_0 := blk_frozen BK101.out 0
                            have hfz41_1 := blk_frozen BK101.out 1
                            have hfz41_2 := blk_frozen BK101.out 2
                            have hfz41_3 := blk_frozen BK101.out 3
                            have hfz41_4 := blk_frozen BK101.out 4
                            have hfz41_5 := blk_frozen BK101.out 5
                            have hfz41_6 := blk_frozen BK101.out 6
                            have hfz41_7 := blk_frozen BK101.out 7
                            have hfz41_8 := blk_frozen BK101.out 8
                            have hfz41_9 := blk_frozen BK101.out 9
                            have hfz41_10 := blk_frozen BK101.out 10
                            have hfz41_11 := blk_frozen BK101.out 11
                            have hfz41_12 := blk_frozen BK101.out 12
                            go_wp2_with (first | (go_at_call 105; (with_reducible refine (seneschalref04_slot.calls a0_8 a0_9 true _ A36.out).mono ?_); rintro e w42 ⟨rfl, hb⟩; have n0_ := Aside0.mk (blk_below (g := gb101) (o := .cells #[.int .i64 a0_0, .int .i64 a0_1, .int .i64 a0_2, .int .i64 a0_3, .int .i64 a0_4, .int .i64 a0_5, .int .i64 a0_6, .int .i64 a0_7, .bool a0_8, .string a0_9, .bool a0_10, .string a0_11, .int .i64 a0_12] 65 (0, 0)) (by (with_reducible repeat (first | refine blk_drewN ?_ _ | refine blk_drew ?_ | refine blk_alloc ?_ _)); exact BK101.out) hb); have n1_ := Aside0.mk (below_step (by repeat (first | (with_reducible first | exact HB.out | apply below_alloc | apply pw_below_drewN | apply below_drew1 | refine below_set ?_ GE101.out) | exact HB.out)) hb); clear BK101; clear HB; have BK101 := n0_; have HB := n1_; clear n0_ n1_; (try clear hb); (try clear hb2); (try clear hk); (try clear hi); have hcz43_0 : w42.cell? ⟨gb101, 0, none⟩ = some (.int .i64 a0_0) := (blk_cell BK101.out 0).trans rfl; have hcz43_1 : w42.cell? ⟨gb101, 1, none⟩ = some (.int .i64 a0_1) := (blk_cell BK101.out 1).trans rfl; have hcz43_2 : w42.cell? ⟨gb101, 2, none⟩ = some (.int .i64 a0_2) := (blk_cell BK101.out 2).trans rfl; have hcz43_3 : w42.cell? ⟨gb101, 3, none⟩ = some (.int .i64 a0_3) := (blk_cell BK101.out 3).trans rfl; have hcz43_4 : w42.cell? ⟨gb101, 4, none⟩ = some (.int .i64 a0_4) := (blk_cell BK101.out 4).trans rfl; have hcz43_5 : w42.cell? ⟨gb101, 5, none⟩ = some (.int .i64 a0_5) := (blk_cell BK101.out 5).trans rfl; have hcz43_6 : w42.cell? ⟨gb101, 6, none⟩ = some (.int .i64 a0_6) := (blk_cell BK101.out 6).trans rfl; have hcz43_7 : w42.cell? ⟨gb101, 7, none⟩ = some (.int .i64 a0_7) := (blk_cell BK101.out 7).trans rfl; have hcz43_8 : w42.cell? ⟨gb101, 8, none⟩ = some (.bool a0_8) := (blk_cell BK101.out 8).trans rfl; have hcz43_9 : w42.cell? ⟨gb101, 9, none⟩ = some (.string a0_9) := (blk_cell BK101.out 9).trans rfl; have hcz43_10 : w42.cell? ⟨gb101, 10, none⟩ = some (.bool a0_10) := (blk_cell BK101.out 10).trans rfl; have hcz43_11 : w42.cell? ⟨gb101, 11, none⟩ = some (.string a0_11) := (blk_cell BK101.out 11).trans rfl; have hcz43_12 : w42.cell? ⟨gb101, 12, none⟩ = some (.int .i64 a0_12) := (blk_cell BK101.out 12).trans rfl; have hfz43_0 := blk_frozen BK101.out 0; have hfz43_1 := blk_frozen BK101.out 1; have hfz43_2 := blk_frozen BK101.out 2; have hfz43_3 := blk_frozen BK101.out 3; have hfz43_4 := blk_frozen BK101.out 4; have hfz43_5 := blk_frozen BK101.out 5; have hfz43_6 := blk_frozen BK101.out 6; have hfz43_7 := blk_frozen BK101.out 7; have hfz43_8 := blk_frozen BK101.out 8; have hfz43_9 := blk_frozen BK101.out 9; have hfz43_10 := blk_frozen BK101.out 10; have hfz43_11 := blk_frozen BK101.out 11; have hfz43_12 := blk_frozen BK101.out 12) | (go_at_call 105; (with_reducible refine (seneschalref04_slot.calls a0_10 a0_11 true _ A38.out).mono ?_); rintro e w44 ⟨rfl, hb⟩; have n0_ := Aside0.mk (blk_below (g := gb101) (o := .cells #[.int .i64 a0_0, .int .i64 a0_1, .int .i64 a0_2, .int .i64 a0_3, .int .i64 a0_4, .int .i64 a0_5, .int .i64 a0_6, .int .i64 a0_7, .bool a0_8, .string a0_9, .bool a0_10, .string a0_11, .int .i64 a0_12] 65 (0, 0)) (by (with_reducible repeat (first | refine blk_drewN ?_ _ | refine blk_drew ?_ | refine blk_alloc ?_ _)); exact BK101.out) hb); have n1_ := Aside0.mk (below_step (by repeat (first | (with_reducible first | exact HB.out | apply below_alloc | apply pw_below_drewN | apply below_drew1 | refine below_set ?_ GE101.out) | exact HB.out)) hb); clear BK101; clear HB; have BK101 := n0_; have HB := n1_; clear n0_ n1_; (try clear hb); (try clear hb2); (try clear hk); (try clear hi); have hcz45_0 : w44.cell? ⟨gb101, 0, none⟩ = some (.int .i64 a0_0) := (blk_cell BK101.out 0).trans rfl; have hcz45_1 : w44.cell? ⟨gb101, 1, none⟩ = some (.int .i64 a0_1) := (blk_cell BK101.out 1).trans rfl; have hcz45_2 : w44.cell? ⟨gb101, 2, none⟩ = some (.int .i64 a0_2) := (blk_cell BK101.out 2).trans rfl; have hcz45_3 : w44.cell? ⟨gb101, 3, none⟩ = some (.int .i64 a0_3) := (blk_cell BK101.out 3).trans rfl; have hcz45_4 : w44.cell? ⟨gb101, 4, none⟩ = some (.int .i64 a0_4) := (blk_cell BK101.out 4).trans rfl; have hcz45_5 : w44.cell? ⟨gb101, 5, none⟩ = some (.int .i64 a0_5) := (blk_cell BK101.out 5).trans rfl; have hcz45_6 : w44.cell? ⟨gb101, 6, none⟩ = some (.int .i64 a0_6) := (blk_cell BK101.out 6).trans rfl; have hcz45_7 : w44.cell? ⟨gb101, 7, none⟩ = some (.int .i64 a0_7) := (blk_cell BK101.out 7).trans rfl; have hcz45_8 : w44.cell? ⟨gb101, 8, none⟩ = some (.bool a0_8) := (blk_cell BK101.out 8).trans rfl; have hcz45_9 : w44.cell? ⟨gb101, 9, none⟩ = some (.string a0_9) := (blk_cell BK101.out 9).trans rfl; have hcz45_10 : w44.cell? ⟨gb101, 10, none⟩ = some (.bool a0_10) := (blk_cell BK101.out 10).trans rfl; have hcz45_11 : w44.cell? ⟨gb101, 11, none⟩ = some (.string a0_11) := (blk_cell BK101.out 11).trans rfl; have hcz45_12 : w44.cell? ⟨gb101, 12, none⟩ = some (.int .i64 a0_12) := (blk_cell BK101.out 12).trans rfl; have hfz45_0 := blk_frozen BK101.out 0; have hfz45_1 := blk_frozen BK101.out 1; have hfz45_2 := blk_frozen BK101.out 2; have hfz45_3 := blk_frozen BK101.out 3; have hfz45_4 := blk_frozen BK101.out 4; have hfz45_5 := blk_frozen BK101.out 5; have hfz45_6 := blk_frozen BK101.out 6; have hfz45_7 := blk_frozen BK101.out 7; have hfz45_8 := blk_frozen BK101.out 8; have hfz45_9 := blk_frozen BK101.out 9; have hfz45_10 := blk_frozen BK101.out 10; have hfz45_11 := blk_frozen BK101.out 11; have hfz45_12 := blk_frozen BK101.out 12))
                            go_ret
                            exact ⟨by first | rfl | (simp [errW_none, errW_some] <;> rfl) | (simp [*, errW_none, errW_some] <;> rfl), by repeat (first | (with_reducible first | exact HB.out | apply below_alloc | apply pw_below_drewN | apply below_drew1 | refine below_set ?_ GE101.out) | exact HB.out)⟩
                          · rw [if_neg c40] at H
                            have c40b0 : (a0_12 == 0) = false := beq_eq_false_iff_ne.mpr c40
                            have c40b1 : (a0_12 != 0) = true := bne_iff_ne.mpr c40
                            by_cases c46 : a0_0 = 2
                            · rw [if_pos c46] at H
                              have c46b0 : (a0_0 == 2) = true := beq_iff_eq.mpr c46
                              have c46b1 : (a0_0 != 2) = false := bne_eq_false_iff_eq.mpr c46
                              clear c46
                              by_cases c47 : a0_12 > 0
                              · rw [if_pos c47] at H
                                have c47b0 : decide (0 < a0_12) = true := decide_eq_true c47
                                clear c47
                                obtain rfl := Option.some.inj H
                                have hcz48_0 : wc.cell? ⟨gb101, 0, none⟩ = some (.int .i64 a0_0) := (blk_cell BK101.out 0).trans rfl
                                have hcz48_1 : wc.cell? ⟨gb101, 1, none⟩ = some (.int .i64 a0_1) := (blk_cell BK101.out 1).trans rfl
                                have hcz48_2 : wc.cell? ⟨gb101, 2, none⟩ = some (.int .i64 a0_2) := (blk_cell BK101.out 2).trans rfl
                                have hcz48_3 : wc.cell? ⟨gb101, 3, none⟩ = some (.int .i64 a0_3) := (blk_cell BK101.out 3).trans rfl
                                have hcz48_4 : wc.cell? ⟨gb101, 4, none⟩ = some (.int .i64 a0_4) := (blk_cell BK101.out 4).trans rfl
                                have hcz48_5 : wc.cell? ⟨gb101, 5, none⟩ = some (.int .i64 a0_5) := (blk_cell BK101.out 5).trans rfl
                                have hcz48_6 : wc.cell? ⟨gb101, 6, none⟩ = some (.int .i64 a0_6) := (blk_cell BK101.out 6).trans rfl
                                have hcz48_7 : wc.cell? ⟨gb101, 7, none⟩ = some (.int .i64 a0_7) := (blk_cell BK101.out 7).trans rfl
                                have hcz48_8 : wc.cell? ⟨gb101, 8, none⟩ = some (.bool a0_8) := (blk_cell BK101.out 8).trans rfl
                                have hcz48_9 : wc.cell? ⟨gb101, 9, none⟩ = some (.string a0_9) := (blk_cell BK101.out 9).trans rfl
                                have hcz48_10 : wc.cell? ⟨gb101, 10, none⟩ = some (.bool a0_10) := (blk_cell BK101.out 10).trans rfl
                                have hcz48_11 : wc.cell? ⟨gb101, 11, none⟩ = some (.string a0_11) := (blk_cell BK101.out 11).trans rfl
                                have hcz48_12 : wc.cell? ⟨gb101, 12, none⟩ = some (.int .i64 a0_12) := (blk_cell BK101.out 12).trans rfl
                                have hfz48_0 := blk_frozen BK101.out 0
                                have hfz48_1 := blk_frozen BK101.out 1
                                have hfz48_2 := blk_frozen BK101.out 2
                                have hfz48_3 := blk_frozen BK101.out 3
                                have hfz48_4 := blk_frozen BK101.out 4
                                have hfz48_5 := blk_frozen BK101.out 5
                                have hfz48_6 := blk_frozen BK101.out 6
                                have hfz48_7 := blk_frozen BK101.out 7
                                have hfz48_8 := blk_frozen BK101.out 8
                                have hfz48_9 := blk_frozen BK101.out 9
                                have hfz48_10 := blk_frozen BK101.out 10
                                have hfz48_11 := blk_frozen BK101.out 11
                                have hfz48_12 := blk_frozen BK101.out 12
                                go_wp2_with (first | (go_at_call 105; (with_reducible refine (seneschalref04_slot.calls a0_8 a0_9 true _ A36.out).mono ?_); rintro e w49 ⟨rfl, hb⟩; have n0_ := Aside0.mk (blk_below (g := gb101) (o := .cells #[.int .i64 a0_0, .int .i64 a0_1, .int .i64 a0_2, .int .i64 a0_3, .int .i64 a0_4, .int .i64 a0_5, .int .i64 a0_6, .int .i64 a0_7, .bool a0_8, .string a0_9, .bool a0_10, .string a0_11, .int .i64 a0_12] 65 (0, 0)) (by (with_reducible repeat (first | refine blk_drewN ?_ _ | refine blk_drew ?_ | refine blk_alloc ?_ _)); exact BK101.out) hb); have n1_ := Aside0.mk (below_step (by repeat (first | (with_reducible first | exact HB.out | apply below_alloc | apply pw_below_drewN | apply below_drew1 | refine below_set ?_ GE101.out) | exact HB.out)) hb); clear BK101; clear HB; have BK101 := n0_; have HB := n1_; clear n0_ n1_; (try clear hb); (try clear hb2); (try clear hk); (try clear hi); have hcz50_0 : w49.cell? ⟨gb101, 0, none⟩ = some (.int .i64 a0_0) := (blk_cell BK101.out 0).trans rfl; have hcz50_1 : w49.cell? ⟨gb101, 1, none⟩ = some (.int .i64 a0_1) := (blk_cell BK101.out 1).trans rfl; have hcz50_2 : w49.cell? ⟨gb101, 2, none⟩ = some (.int .i64 a0_2) := (blk_cell BK101.out 2).trans rfl; have hcz50_3 : w49.cell? ⟨gb101, 3, none⟩ = some (.int .i64 a0_3) := (blk_cell BK101.out 3).trans rfl; have hcz50_4 : w49.cell? ⟨gb101, 4, none⟩ = some (.int .i64 a0_4) := (blk_cell BK101.out 4).trans rfl; have hcz50_5 : w49.cell? ⟨gb101, 5, none⟩ = some (.int .i64 a0_5) := (blk_cell BK101.out 5).trans rfl; have hcz50_6 : w49.cell? ⟨gb101, 6, none⟩ = some (.int .i64 a0_6) := (blk_cell BK101.out 6).trans rfl; have hcz50_7 : w49.cell? ⟨gb101, 7, none⟩ = some (.int .i64 a0_7) := (blk_cell BK101.out 7).trans rfl; have hcz50_8 : w49.cell? ⟨gb101, 8, none⟩ = some (.bool a0_8) := (blk_cell BK101.out 8).trans rfl; have hcz50_9 : w49.cell? ⟨gb101, 9, none⟩ = some (.string a0_9) := (blk_cell BK101.out 9).trans rfl; have hcz50_10 : w49.cell? ⟨gb101, 10, none⟩ = some (.bool a0_10) := (blk_cell BK101.out 10).trans rfl; have hcz50_11 : w49.cell? ⟨gb101, 11, none⟩ = some (.string a0_11) := (blk_cell BK101.out 11).trans rfl; have hcz50_12 : w49.cell? ⟨gb101, 12, none⟩ = some (.int .i64 a0_12) := (blk_cell BK101.out 12).trans rfl; have hfz50_0 := blk_frozen BK101.out 0; have hfz50_1 := blk_frozen BK101.out 1; have hfz50_2 := blk_frozen BK101.out 2; have hfz50_3 := blk_frozen BK101.out 3; have hfz50_4 := blk_frozen BK101.out 4; have hfz50_5 := blk_frozen BK101.out 5; have hfz50_6 := blk_frozen BK101.out 6; have hfz50_7 := blk_frozen BK101.out 7; have hfz50_8 := blk_frozen BK101.out 8; have hfz50_9 := blk_frozen BK101.out 9; have hfz50_10 := blk_frozen BK101.out 10; have hfz50_11 := blk_frozen BK101.out 11; have hfz50_12 := blk_frozen BK101.out 12) | (go_at_call 105; (with_reducible refine (seneschalref04_slot.calls a0_10 a0_11 true _ A38.out).mono ?_); rintro e w51 ⟨rfl, hb⟩; have n0_ := Aside0.mk (blk_below (g := gb101) (o := .cells #[.int .i64 a0_0, .int .i64 a0_1, .int .i64 a0_2, .int .i64 a0_3, .int .i64 a0_4, .int .i64 a0_5, .int .i64 a0_6, .int .i64 a0_7, .bool a0_8, .string a0_9, .bool a0_10, .string a0_11, .int .i64 a0_12] 65 (0, 0)) (by (with_reducible repeat (first | refine blk_drewN ?_ _ | refine blk_drew ?_ | refine blk_alloc ?_ _)); exact BK101.out) hb); have n1_ := Aside0.mk (below_step (by repeat (first | (with_reducible first | exact HB.out | apply below_alloc | apply pw_below_drewN | apply below_drew1 | refine below_set ?_ GE101.out) | exact HB.out)) hb); clear BK101; clear HB; have BK101 := n0_; have HB := n1_; clear n0_ n1_; (try clear hb); (try clear hb2); (try clear hk); (try clear hi); have hcz52_0 : w51.cell? ⟨gb101, 0, none⟩ = some (.int .i64 a0_0) := (blk_cell BK101.out 0).trans rfl; have hcz52_1 : w51.cell? ⟨gb101, 1, none⟩ = some (.int .i64 a0_1) := (blk_cell BK101.out 1).trans rfl; have hcz52_2 : w51.cell? ⟨gb101, 2, none⟩ = some (.int .i64 a0_2) := (blk_cell BK101.out 2).trans rfl; have hcz52_3 : w51.cell? ⟨gb101, 3, none⟩ = some (.int .i64 a0_3) := (blk_cell BK101.out 3).trans rfl; have hcz52_4 : w51.cell? ⟨gb101, 4, none⟩ = some (.int .i64 a0_4) := (blk_cell BK101.out 4).trans rfl; have hcz52_5 : w51.cell? ⟨gb101, 5, none⟩ = some (.int .i64 a0_5) := (blk_cell BK101.out 5).trans rfl; have hcz52_6 : w51.cell? ⟨gb101, 6, none⟩ = some (.int .i64 a0_6) := (blk_cell BK101.out 6).trans rfl; have hcz52_7 : w51.cell? ⟨gb101, 7, none⟩ = some (.int .i64 a0_7) := (blk_cell BK101.out 7).trans rfl; have hcz52_8 : w51.cell? ⟨gb101, 8, none⟩ = some (.bool a0_8) := (blk_cell BK101.out 8).trans rfl; have hcz52_9 : w51.cell? ⟨gb101, 9, none⟩ = some (.string a0_9) := (blk_cell BK101.out 9).trans rfl; have hcz52_10 : w51.cell? ⟨gb101, 10, none⟩ = some (.bool a0_10) := (blk_cell BK101.out 10).trans rfl; have hcz52_11 : w51.cell? ⟨gb101, 11, none⟩ = some (.string a0_11) := (blk_cell BK101.out 11).trans rfl; have hcz52_12 : w51.cell? ⟨gb101, 12, none⟩ = some (.int .i64 a0_12) := (blk_cell BK101.out 12).trans rfl; have hfz52_0 := blk_frozen BK101.out 0; have hfz52_1 := blk_frozen BK101.out 1; have hfz52_2 := blk_frozen BK101.out 2; have hfz52_3 := blk_frozen BK101.out 3; have hfz52_4 := blk_frozen BK101.out 4; have hfz52_5 := blk_frozen BK101.out 5; have hfz52_6 := blk_frozen BK101.out 6; have hfz52_7 := blk_frozen BK101.out 7; have hfz52_8 := blk_frozen BK101.out 8; have hfz52_9 := blk_frozen BK101.out 9; have hfz52_10 := blk_frozen BK101.out 10; have hfz52_11 := blk_frozen BK101.out 11; have hfz52_12 := blk_frozen BK101.out 12))
                                go_ret
                                exact ⟨by first | rfl | (simp [errW_none, errW_some] <;> rfl) | (simp [*, errW_none, errW_some] <;> rfl), by repeat (first | (with_reducible first | exact HB.out | apply below_alloc | apply pw_below_drewN | apply below_drew1 | refine below_set ?_ GE101.out) | exact HB.out)⟩
                              · rw [if_neg c47] at H
                                have c47b0 : decide (0 < a0_12) = false := decide_eq_false c47
                                clear c47
                                obtain rfl := Option.some.inj H
                                have hcz53_0 : wc.cell? ⟨gb101, 0, none⟩ = some (.int .i64 a0_0) := (blk_cell BK101.out 0).trans rfl
                                have hcz53_1 : wc.cell? ⟨gb101, 1, none⟩ = some (.int .i64 a0_1) := (blk_cell BK101.out 1).trans rfl
                                have hcz53_2 : wc.cell? ⟨gb101, 2, none⟩ = some (.int .i64 a0_2) := (blk_cell BK101.out 2).trans rfl
                                have hcz53_3 : wc.cell? ⟨gb101, 3, none⟩ = some (.int .i64 a0_3) := (blk_cell BK101.out 3).trans rfl
                                have hcz53_4 : wc.cell? ⟨gb101, 4, none⟩ = some (.int .i64 a0_4) := (blk_cell BK101.out 4).trans rfl
                                have hcz53_5 : wc.cell? ⟨gb101, 5, none⟩ = some (.int .i64 a0_5) := (blk_cell BK101.out 5).trans rfl
                                have hcz53_6 : wc.cell? ⟨gb101, 6, none⟩ = some (.int .i64 a0_6) := (blk_cell BK101.out 6).trans rfl
                                have hcz53_7 : wc.cell? ⟨gb101, 7, none⟩ = some (.int .i64 a0_7) := (blk_cell BK101.out 7).trans rfl
                                have hcz53_8 : wc.cell? ⟨gb101, 8, none⟩ = some (.bool a0_8) := (blk_cell BK101.out 8).trans rfl
                                have hcz53_9 : wc.cell? ⟨gb101, 9, none⟩ = some (.string a0_9) := (blk_cell BK101.out 9).trans rfl
                                have hcz53_10 : wc.cell? ⟨gb101, 10, none⟩ = some (.bool a0_10) := (blk_cell BK101.out 10).trans rfl
                                have hcz53_11 : wc.cell? ⟨gb101, 11, none⟩ = some (.string a0_11) := (blk_cell BK101.out 11).trans rfl
                                have hcz53_12 : wc.cell? ⟨gb101, 12, none⟩ = some (.int .i64 a0_12) := (blk_cell BK101.out 12).trans rfl
                                have hfz53_0 := blk_frozen BK101.out 0
                                have hfz53_1 := blk_frozen BK101.out 1
                                have hfz53_2 := blk_frozen BK101.out 2
                                have hfz53_3 := blk_frozen BK101.out 3
                                have hfz53_4 := blk_frozen BK101.out 4
                                have hfz53_5 := blk_frozen BK101.out 5
                                have hfz53_6 := blk_frozen BK101.out 6
                                have hfz53_7 := blk_frozen BK101.out 7
                                have hfz53_8 := blk_frozen BK101.out 8
                                have hfz53_9 := blk_frozen BK101.out 9
                                have hfz53_10 := blk_frozen BK101.out 10
                                have hfz53_11 := blk_frozen BK101.out 11
                                have hfz53_12 := blk_frozen BK101.out 12
                                go_wp2_with (first | (go_at_call 105; (with_reducible refine (seneschalref04_slot.calls a0_8 a0_9 true _ A36.out).mono ?_); rintro e w54 ⟨rfl, hb⟩; have n0_ := Aside0.mk (blk_below (g := gb101) (o := .cells #[.int .i64 a0_0, .int .i64 a0_1, .int .i64 a0_2, .int .i64 a0_3, .int .i64 a0_4, .int .i64 a0_5, .int .i64 a0_6, .int .i64 a0_7, .bool a0_8, .string a0_9, .bool a0_10, .string a0_11, .int .i64 a0_12] 65 (0, 0)) (by (with_reducible repeat (first | refine blk_drewN ?_ _ | refine blk_drew ?_ | refine blk_alloc ?_ _)); exact BK101.out) hb); have n1_ := Aside0.mk (below_step (by repeat (first | (with_reducible first | exact HB.out | apply below_alloc | apply pw_below_drewN | apply below_drew1 | refine below_set ?_ GE101.out) | exact HB.out)) hb); clear BK101; clear HB; have BK101 := n0_; have HB := n1_; clear n0_ n1_; (try clear hb); (try clear hb2); (try clear hk); (try clear hi); have hcz55_0 : w54.cell? ⟨gb101, 0, none⟩ = some (.int .i64 a0_0) := (blk_cell BK101.out 0).trans rfl; have hcz55_1 : w54.cell? ⟨gb101, 1, none⟩ = some (.int .i64 a0_1) := (blk_cell BK101.out 1).trans rfl; have hcz55_2 : w54.cell? ⟨gb101, 2, none⟩ = some (.int .i64 a0_2) := (blk_cell BK101.out 2).trans rfl; have hcz55_3 : w54.cell? ⟨gb101, 3, none⟩ = some (.int .i64 a0_3) := (blk_cell BK101.out 3).trans rfl; have hcz55_4 : w54.cell? ⟨gb101, 4, none⟩ = some (.int .i64 a0_4) := (blk_cell BK101.out 4).trans rfl; have hcz55_5 : w54.cell? ⟨gb101, 5, none⟩ = some (.int .i64 a0_5) := (blk_cell BK101.out 5).trans rfl; have hcz55_6 : w54.cell? ⟨gb101, 6, none⟩ = some (.int .i64 a0_6) := (blk_cell BK101.out 6).trans rfl; have hcz55_7 : w54.cell? ⟨gb101, 7, none⟩ = some (.int .i64 a0_7) := (blk_cell BK101.out 7).trans rfl; have hcz55_8 : w54.cell? ⟨gb101, 8, none⟩ = some (.bool a0_8) := (blk_cell BK101.out 8).trans rfl; have hcz55_9 : w54.cell? ⟨gb101, 9, none⟩ = some (.string a0_9) := (blk_cell BK101.out 9).trans rfl; have hcz55_10 : w54.cell? ⟨gb101, 10, none⟩ = some (.bool a0_10) := (blk_cell BK101.out 10).trans rfl; have hcz55_11 : w54.cell? ⟨gb101, 11, none⟩ = some (.string a0_11) := (blk_cell BK101.out 11).trans rfl; have hcz55_12 : w54.cell? ⟨gb101, 12, none⟩ = some (.int .i64 a0_12) := (blk_cell BK101.out 12).trans rfl; have hfz55_0 := blk_frozen BK101.out 0; have hfz55_1 := blk_frozen BK101.out 1; have hfz55_2 := blk_frozen BK101.out 2; have hfz55_3 := blk_frozen BK101.out 3; have hfz55_4 := blk_frozen BK101.out 4; have hfz55_5 := blk_frozen BK101.out 5; have hfz55_6 := blk_frozen BK101.out 6; have hfz55_7 := blk_frozen BK101.out 7; have hfz55_8 := blk_frozen BK101.out 8; have hfz55_9 := blk_frozen BK101.out 9; have hfz55_10 := blk_frozen BK101.out 10; have hfz55_11 := blk_frozen BK101.out 11; have hfz55_12 := blk_frozen BK101.out 12) | (go_at_call 105; (with_reducible refine (seneschalref04_slot.calls a0_10 a0_11 true _ A38.out).mono ?_); rintro e w56 ⟨rfl, hb⟩; have n0_ := Aside0.mk (blk_below (g := gb101) (o := .cells #[.int .i64 a0_0, .int .i64 a0_1, .int .i64 a0_2, .int .i64 a0_3, .int .i64 a0_4, .int .i64 a0_5, .int .i64 a0_6, .int .i64 a0_7, .bool a0_8, .string a0_9, .bool a0_10, .string a0_11, .int .i64 a0_12] 65 (0, 0)) (by (with_reducible repeat (first | refine blk_drewN ?_ _ | refine blk_drew ?_ | refine blk_alloc ?_ _)); exact BK101.out) hb); have n1_ := Aside0.mk (below_step (by repeat (first | (with_reducible first | exact HB.out | apply below_alloc | apply pw_below_drewN | apply below_drew1 | refine below_set ?_ GE101.out) | exact HB.out)) hb); clear BK101; clear HB; have BK101 := n0_; have HB := n1_; clear n0_ n1_; (try clear hb); (try clear hb2); (try clear hk); (try clear hi); have hcz57_0 : w56.cell? ⟨gb101, 0, none⟩ = some (.int .i64 a0_0) := (blk_cell BK101.out 0).trans rfl; have hcz57_1 : w56.cell? ⟨gb101, 1, none⟩ = some (.int .i64 a0_1) := (blk_cell BK101.out 1).trans rfl; have hcz57_2 : w56.cell? ⟨gb101, 2, none⟩ = some (.int .i64 a0_2) := (blk_cell BK101.out 2).trans rfl; have hcz57_3 : w56.cell? ⟨gb101, 3, none⟩ = some (.int .i64 a0_3) := (blk_cell BK101.out 3).trans rfl; have hcz57_4 : w56.cell? ⟨gb101, 4, none⟩ = some (.int .i64 a0_4) := (blk_cell BK101.out 4).trans rfl; have hcz57_5 : w56.cell? ⟨gb101, 5, none⟩ = some (.int .i64 a0_5) := (blk_cell BK101.out 5).trans rfl; have hcz57_6 : w56.cell? ⟨gb101, 6, none⟩ = some (.int .i64 a0_6) := (blk_cell BK101.out 6).trans rfl; have hcz57_7 : w56.cell? ⟨gb101, 7, none⟩ = some (.int .i64 a0_7) := (blk_cell BK101.out 7).trans rfl; have hcz57_8 : w56.cell? ⟨gb101, 8, none⟩ = some (.bool a0_8) := (blk_cell BK101.out 8).trans rfl; have hcz57_9 : w56.cell? ⟨gb101, 9, none⟩ = some (.string a0_9) := (blk_cell BK101.out 9).trans rfl; have hcz57_10 : w56.cell? ⟨gb101, 10, none⟩ = some (.bool a0_10) := (blk_cell BK101.out 10).trans rfl; have hcz57_11 : w56.cell? ⟨gb101, 11, none⟩ = some (.string a0_11) := (blk_cell BK101.out 11).trans rfl; have hcz57_12 : w56.cell? ⟨gb101, 12, none⟩ = some (.int .i64 a0_12) := (blk_cell BK101.out 12).trans rfl; have hfz57_0 := blk_frozen BK101.out 0; have hfz57_1 := blk_frozen BK101.out 1; have hfz57_2 := blk_frozen BK101.out 2; have hfz57_3 := blk_frozen BK101.out 3; have hfz57_4 := blk_frozen BK101.out 4; have hfz57_5 := blk_frozen BK101.out 5; have hfz57_6 := blk_frozen BK101.out 6; have hfz57_7 := blk_frozen BK101.out 7; have hfz57_8 := blk_frozen BK101.out 8; have hfz57_9 := blk_frozen BK101.out 9; have hfz57_10 := blk_frozen BK101.out 10; have hfz57_11 := blk_frozen BK101.out 11; have hfz57_12 := blk_frozen BK101.out 12))
                                go_ret
                                exact ⟨by first | rfl | (simp [errW_none, errW_some] <;> rfl) | (simp [*, errW_none, errW_some] <;> rfl), by repeat (first | (with_reducible first | exact HB.out | apply below_alloc | apply pw_below_drewN | apply below_drew1 | refine below_set ?_ GE101.out) | exact HB.out)⟩
                            · rw [if_neg c46] at H
                              have c46b0 : (a0_0 == 2) = false := beq_eq_false_iff_ne.mpr c46
                              have c46b1 : (a0_0 != 2) = true := bne_iff_ne.mpr c46
                              obtain rfl := Option.some.inj H
                              have hcz58_0 : wc.cell? ⟨gb101, 0, none⟩ = some (.int .i64 a0_0) := (blk_cell BK101.out 0).trans rfl
                              have hcz58_1 : wc.cell? ⟨gb101, 1, none⟩ = some (.int .i64 a0_1) := (blk_cell BK101.out 1).trans rfl
                              have hcz58_2 : wc.cell? ⟨gb101, 2, none⟩ = some (.int .i64 a0_2) := (blk_cell BK101.out 2).trans rfl
                              have hcz58_3 : wc.cell? ⟨gb101, 3, none⟩ = some (.int .i64 a0_3) := (blk_cell BK101.out 3).trans rfl
                              have hcz58_4 : wc.cell? ⟨gb101, 4, none⟩ = some (.int .i64 a0_4) := (blk_cell BK101.out 4).trans rfl
                              have hcz58_5 : wc.cell? ⟨gb101, 5, none⟩ = some (.int .i64 a0_5) := (blk_cell BK101.out 5).trans rfl
                              have hcz58_6 : wc.cell? ⟨gb101, 6, none⟩ = some (.int .i64 a0_6) := (blk_cell BK101.out 6).trans rfl
                              have hcz58_7 : wc.cell? ⟨gb101, 7, none⟩ = some (.int .i64 a0_7) := (blk_cell BK101.out 7).trans rfl
                              have hcz58_8 : wc.cell? ⟨gb101, 8, none⟩ = some (.bool a0_8) := (blk_cell BK101.out 8).trans rfl
                              have hcz58_9 : wc.cell? ⟨gb101, 9, none⟩ = some (.string a0_9) := (blk_cell BK101.out 9).trans rfl
                              have hcz58_10 : wc.cell? ⟨gb101, 10, none⟩ = some (.bool a0_10) := (blk_cell BK101.out 10).trans rfl
                              have hcz58_11 : wc.cell? ⟨gb101, 11, none⟩ = some (.string a0_11) := (blk_cell BK101.out 11).trans rfl
                              have hcz58_12 : wc.cell? ⟨gb101, 12, none⟩ = some (.int .i64 a0_12) := (blk_cell BK101.out 12).trans rfl
                              have hfz58_0 := blk_frozen BK101.out 0
                              have hfz58_1 := blk_frozen BK101.out 1
                              have hfz58_2 := blk_frozen BK101.out 2
                              have hfz58_3 := blk_frozen BK101.out 3
                              have hfz58_4 := blk_frozen BK101.out 4
                              have hfz58_5 := blk_frozen BK101.out 5
                              have hfz58_6 := blk_frozen BK101.out 6
                              have hfz58_7 := blk_frozen BK101.out 7
                              have hfz58_8 := blk_frozen BK101.out 8
                              have hfz58_9 := blk_frozen BK101.out 9
                              have hfz58_10 := blk_frozen BK101.out 10
                              have hfz58_11 := blk_frozen BK101.out 11
                              have hfz58_12 := blk_frozen BK101.out 12
                              go_wp2_with (first | (go_at_call 105; (with_reducible refine (seneschalref04_slot.calls a0_8 a0_9 true _ A36.out).mono ?_); rintro e w59 ⟨rfl, hb⟩; have n0_ := Aside0.mk (blk_below (g := gb101) (o := .cells #[.int .i64 a0_0, .int .i64 a0_1, .int .i64 a0_2, .int .i64 a0_3, .int .i64 a0_4, .int .i64 a0_5, .int .i64 a0_6, .int .i64 a0_7, .bool a0_8, .string a0_9, .bool a0_10, .string a0_11, .int .i64 a0_12] 65 (0, 0)) (by (with_reducible repeat (first | refine blk_drewN ?_ _ | refine blk_drew ?_ | refine blk_alloc ?_ _)); exact BK101.out) hb); have n1_ := Aside0.mk (below_step (by repeat (first | (with_reducible first | exact HB.out | apply below_alloc | apply pw_below_drewN | apply below_drew1 | refine below_set ?_ GE101.out) | exact HB.out)) hb); clear BK101; clear HB; have BK101 := n0_; have HB := n1_; clear n0_ n1_; (try clear hb); (try clear hb2); (try clear hk); (try clear hi); have hcz60_0 : w59.cell? ⟨gb101, 0, none⟩ = some (.int .i64 a0_0) := (blk_cell BK101.out 0).trans rfl; have hcz60_1 : w59.cell? ⟨gb101, 1, none⟩ = some (.int .i64 a0_1) := (blk_cell BK101.out 1).trans rfl; have hcz60_2 : w59.cell? ⟨gb101, 2, none⟩ = some (.int .i64 a0_2) := (blk_cell BK101.out 2).trans rfl; have hcz60_3 : w59.cell? ⟨gb101, 3, none⟩ = some (.int .i64 a0_3) := (blk_cell BK101.out 3).trans rfl; have hcz60_4 : w59.cell? ⟨gb101, 4, none⟩ = some (.int .i64 a0_4) := (blk_cell BK101.out 4).trans rfl; have hcz60_5 : w59.cell? ⟨gb101, 5, none⟩ = some (.int .i64 a0_5) := (blk_cell BK101.out 5).trans rfl; have hcz60_6 : w59.cell? ⟨gb101, 6, none⟩ = some (.int .i64 a0_6) := (blk_cell BK101.out 6).trans rfl; have hcz60_7 : w59.cell? ⟨gb101, 7, none⟩ = some (.int .i64 a0_7) := (blk_cell BK101.out 7).trans rfl; have hcz60_8 : w59.cell? ⟨gb101, 8, none⟩ = some (.bool a0_8) := (blk_cell BK101.out 8).trans rfl; have hcz60_9 : w59.cell? ⟨gb101, 9, none⟩ = some (.string a0_9) := (blk_cell BK101.out 9).trans rfl; have hcz60_10 : w59.cell? ⟨gb101, 10, none⟩ = some (.bool a0_10) := (blk_cell BK101.out 10).trans rfl; have hcz60_11 : w59.cell? ⟨gb101, 11, none⟩ = some (.string a0_11) := (blk_cell BK101.out 11).trans rfl; have hcz60_12 : w59.cell? ⟨gb101, 12, none⟩ = some (.int .i64 a0_12) := (blk_cell BK101.out 12).trans rfl; have hfz60_0 := blk_frozen BK101.out 0; have hfz60_1 := blk_frozen BK101.out 1; have hfz60_2 := blk_frozen BK101.out 2; have hfz60_3 := blk_frozen BK101.out 3; have hfz60_4 := blk_frozen BK101.out 4; have hfz60_5 := blk_frozen BK101.out 5; have hfz60_6 := blk_frozen BK101.out 6; have hfz60_7 := blk_frozen BK101.out 7; have hfz60_8 := blk_frozen BK101.out 8; have hfz60_9 := blk_frozen BK101.out 9; have hfz60_10 := blk_frozen BK101.out 10; have hfz60_11 := blk_frozen BK101.out 11; have hfz60_12 := blk_frozen BK101.out 12) | (go_at_call 105; (with_reducible refine (seneschalref04_slot.calls a0_10 a0_11 true _ A38.out).mono ?_); rintro e w61 ⟨rfl, hb⟩; have n0_ := Aside0.mk (blk_below (g := gb101) (o := .cells #[.int .i64 a0_0, .int .i64 a0_1, .int .i64 a0_2, .int .i64 a0_3, .int .i64 a0_4, .int .i64 a0_5, .int .i64 a0_6, .int .i64 a0_7, .bool a0_8, .string a0_9, .bool a0_10, .string a0_11, .int .i64 a0_12] 65 (0, 0)) (by (with_reducible repeat (first | refine blk_drewN ?_ _ | refine blk_drew ?_ | refine blk_alloc ?_ _)); exact BK101.out) hb); have n1_ := Aside0.mk (below_step (by repeat (first | (with_reducible first | exact HB.out | apply below_alloc | apply pw_below_drewN | apply below_drew1 | refine below_set ?_ GE101.out) | exact HB.out)) hb); clear BK101; clear HB; have BK101 := n0_; have HB := n1_; clear n0_ n1_; (try clear hb); (try clear hb2); (try clear hk); (try clear hi); have hcz62_0 : w61.cell? ⟨gb101, 0, none⟩ = some (.int .i64 a0_0) := (blk_cell BK101.out 0).trans rfl; have hcz62_1 : w61.cell? ⟨gb101, 1, none⟩ = some (.int .i64 a0_1) := (blk_cell BK101.out 1).trans rfl; have hcz62_2 : w61.cell? ⟨gb101, 2, none⟩ = some (.int .i64 a0_2) := (blk_cell BK101.out 2).trans rfl; have hcz62_3 : w61.cell? ⟨gb101, 3, none⟩ = some (.int .i64 a0_3) := (blk_cell BK101.out 3).trans rfl; have hcz62_4 : w61.cell? ⟨gb101, 4, none⟩ = some (.int .i64 a0_4) := (blk_cell BK101.out 4).trans rfl; have hcz62_5 : w61.cell? ⟨gb101, 5, none⟩ = some (.int .i64 a0_5) := (blk_cell BK101.out 5).trans rfl; have hcz62_6 : w61.cell? ⟨gb101, 6, none⟩ = some (.int .i64 a0_6) := (blk_cell BK101.out 6).trans rfl; have hcz62_7 : w61.cell? ⟨gb101, 7, none⟩ = some (.int .i64 a0_7) := (blk_cell BK101.out 7).trans rfl; have hcz62_8 : w61.cell? ⟨gb101, 8, none⟩ = some (.bool a0_8) := (blk_cell BK101.out 8).trans rfl; have hcz62_9 : w61.cell? ⟨gb101, 9, none⟩ = some (.string a0_9) := (blk_cell BK101.out 9).trans rfl; have hcz62_10 : w61.cell? ⟨gb101, 10, none⟩ = some (.bool a0_10) := (blk_cell BK101.out 10).trans rfl; have hcz62_11 : w61.cell? ⟨gb101, 11, none⟩ = some (.string a0_11) := (blk_cell BK101.out 11).trans rfl; have hcz62_12 : w61.cell? ⟨gb101, 12, none⟩ = some (.int .i64 a0_12) := (blk_cell BK101.out 12).trans rfl; have hfz62_0 := blk_frozen BK101.out 0; have hfz62_1 := blk_frozen BK101.out 1; have hfz62_2 := blk_frozen BK101.out 2; have hfz62_3 := blk_frozen BK101.out 3; have hfz62_4 := blk_frozen BK101.out 4; have hfz62_5 := blk_frozen BK101.out 5; have hfz62_6 := blk_frozen BK101.out 6; have hfz62_7 := blk_frozen BK101.out 7; have hfz62_8 := blk_frozen BK101.out 8; have hfz62_9 := blk_frozen BK101.out 9; have hfz62_10 := blk_frozen BK101.out 10; have hfz62_11 := blk_frozen BK101.out 11; have hfz62_12 := blk_frozen BK101.out 12))
                              go_ret
                              exact ⟨by first | rfl | (simp [errW_none, errW_some] <;> rfl) | (simp [*, errW_none, errW_some] <;> rfl), by repeat (first | (with_reducible first | exact HB.out | apply below_alloc | apply pw_below_drewN | apply below_drew1 | refine below_set ?_ GE101.out) | exact HB.out)⟩
                        · replace c39 := Bool.eq_false_iff.mpr c39
                          subst c39
                          have H1 : (some false) = some r := by rw [if_neg (show ¬ (false = true) by decide)] at H; exact H
                          clear H
                          have H := H1
                          clear H1
                          obtain rfl := Option.some.inj H
                          have hcz63_0 : wc.cell? ⟨gb101, 0, none⟩ = some (.int .i64 a0_0) := (blk_cell BK101.out 0).trans rfl
                          have hcz63_1 : wc.cell? ⟨gb101, 1, none⟩ = some (.int .i64 a0_1) := (blk_cell BK101.out 1).trans rfl
                          have hcz63_2 : wc.cell? ⟨gb101, 2, none⟩ = some (.int .i64 a0_2) := (blk_cell BK101.out 2).trans rfl
                          have hcz63_3 : wc.cell? ⟨gb101, 3, none⟩ = some (.int .i64 a0_3) := (blk_cell BK101.out 3).trans rfl
                          have hcz63_4 : wc.cell? ⟨gb101, 4, none⟩ = some (.int .i64 a0_4) := (blk_cell BK101.out 4).trans rfl
                          have hcz63_5 : wc.cell? ⟨gb101, 5, none⟩ = some (.int .i64 a0_5) := (blk_cell BK101.out 5).trans rfl
                          have hcz63_6 : wc.cell? ⟨gb101, 6, none⟩ = some (.int .i64 a0_6) := (blk_cell BK101.out 6).trans rfl
                          have hcz63_7 : wc.cell? ⟨gb101, 7, none⟩ = some (.int .i64 a0_7) := (blk_cell BK101.out 7).trans rfl
                          have hcz63_8 : wc.cell? ⟨gb101, 8, none⟩ = some (.bool a0_8) := (blk_cell BK101.out 8).trans rfl
                          have hcz63_9 : wc.cell? ⟨gb101, 9, none⟩ = some (.string a0_9) := (blk_cell BK101.out 9).trans rfl
                          have hcz63_10 : wc.cell? ⟨gb101, 10, none⟩ = some (.bool a0_10) := (blk_cell BK101.out 10).trans rfl
                          have hcz63_11 : wc.cell? ⟨gb101, 11, none⟩ = some (.string a0_11) := (blk_cell BK101.out 11).trans rfl
                          have hcz63_12 : wc.cell? ⟨gb101, 12, none⟩ = some (.int .i64 a0_12) := (blk_cell BK101.out 12).trans rfl
                          have hfz63_0 := blk_frozen BK101.out 0
                          have hfz63_1 := blk_frozen BK101.out 1
                          have hfz63_2 := blk_frozen BK101.out 2
                          have hfz63_3 := blk_frozen BK101.out 3
                          have hfz63_4 := blk_frozen BK101.out 4
                          have hfz63_5 := blk_frozen BK101.out 5
                          have hfz63_6 := blk_frozen BK101.out 6
                          have hfz63_7 := blk_frozen BK101.out 7
                          have hfz63_8 := blk_frozen BK101.out 8
                          have hfz63_9 := blk_frozen BK101.out 9
                          have hfz63_10 := blk_frozen BK101.out 10
                          have hfz63_11 := blk_frozen BK101.out 11
                          have hfz63_12 := blk_frozen BK101.out 12
                          go_wp2_with (first | (go_at_call 105; (with_reducible refine (seneschalref04_slot.calls a0_8 a0_9 true _ A36.out).mono ?_); rintro e w64 ⟨rfl, hb⟩; have n0_ := Aside0.mk (blk_below (g := gb101) (o := .cells #[.int .i64 a0_0, .int .i64 a0_1, .int .i64 a0_2, .int .i64 a0_3, .int .i64 a0_4, .int .i64 a0_5, .int .i64 a0_6, .int .i64 a0_7, .bool a0_8, .string a0_9, .bool a0_10, .string a0_11, .int .i64 a0_12] 65 (0, 0)) (by (with_reducible repeat (first | refine blk_drewN ?_ _ | refine blk_drew ?_ | refine blk_alloc ?_ _)); exact BK101.out) hb); have n1_ := Aside0.mk (below_step (by repeat (first | (with_reducible first | exact HB.out | apply below_alloc | apply pw_below_drewN | apply below_drew1 | refine below_set ?_ GE101.out) | exact HB.out)) hb); clear BK101; clear HB; have BK101 := n0_; have HB := n1_; clear n0_ n1_; (try clear hb); (try clear hb2); (try clear hk); (try clear hi); have hcz65_0 : w64.cell? ⟨gb101, 0, none⟩ = some (.int .i64 a0_0) := (blk_cell BK101.out 0).trans rfl; have hcz65_1 : w64.cell? ⟨gb101, 1, none⟩ = some (.int .i64 a0_1) := (blk_cell BK101.out 1).trans rfl; have hcz65_2 : w64.cell? ⟨gb101, 2, none⟩ = some (.int .i64 a0_2) := (blk_cell BK101.out 2).trans rfl; have hcz65_3 : w64.cell? ⟨gb101, 3, none⟩ = some (.int .i64 a0_3) := (blk_cell BK101.out 3).trans rfl; have hcz65_4 : w64.cell? ⟨gb101, 4, none⟩ = some (.int .i64 a0_4) := (blk_cell BK101.out 4).trans rfl; have hcz65_5 : w64.cell? ⟨gb101, 5, none⟩ = some (.int .i64 a0_5) := (blk_cell BK101.out 5).trans rfl; have hcz65_6 : w64.cell? ⟨gb101, 6, none⟩ = some (.int .i64 a0_6) := (blk_cell BK101.out 6).trans rfl; have hcz65_7 : w64.cell? ⟨gb101, 7, none⟩ = some (.int .i64 a0_7) := (blk_cell BK101.out 7).trans rfl; have hcz65_8 : w64.cell? ⟨gb101, 8, none⟩ = some (.bool a0_8) := (blk_cell BK101.out 8).trans rfl; have hcz65_9 : w64.cell? ⟨gb101, 9, none⟩ = some (.string a0_9) := (blk_cell BK101.out 9).trans rfl; have hcz65_10 : w64.cell? ⟨gb101, 10, none⟩ = some (.bool a0_10) := (blk_cell BK101.out 10).trans rfl; have hcz65_11 : w64.cell? ⟨gb101, 11, none⟩ = some (.string a0_11) := (blk_cell BK101.out 11).trans rfl; have hcz65_12 : w64.cell? ⟨gb101, 12, none⟩ = some (.int .i64 a0_12) := (blk_cell BK101.out 12).trans rfl; have hfz65_0 := blk_frozen BK101.out 0; have hfz65_1 := blk_frozen BK101.out 1; have hfz65_2 := blk_frozen BK101.out 2; have hfz65_3 := blk_frozen BK101.out 3; have hfz65_4 := blk_frozen BK101.out 4; have hfz65_5 := blk_frozen BK101.out 5; have hfz65_6 := blk_frozen BK101.out 6; have hfz65_7 := blk_frozen BK101.out 7; have hfz65_8 := blk_frozen BK101.out 8; have hfz65_9 := blk_frozen BK101.out 9; have hfz65_10 := blk_frozen BK101.out 10; have hfz65_11 := blk_frozen BK101.out 11; have hfz65_12 := blk_frozen BK101.out 12) | (go_at_call 105; (with_reducible refine (seneschalref04_slot.calls a0_10 a0_11 false _ A38.out).mono ?_); rintro e w66 ⟨rfl, hb⟩; have n0_ := Aside0.mk (blk_below (g := gb101) (o := .cells #[.int .i64 a0_0, .int .i64 a0_1, .int .i64 a0_2, .int .i64 a0_3, .int .i64 a0_4, .int .i64 a0_5, .int .i64 a0_6, .int .i64 a0_7, .bool a0_8, .string a0_9, .bool a0_10, .string a0_11, .int .i64 a0_12] 65 (0, 0)) (by (with_reducible repeat (first | refine blk_drewN ?_ _ | refine blk_drew ?_ | refine blk_alloc ?_ _)); exact BK101.out) hb); have n1_ := Aside0.mk (below_step (by repeat (first | (with_reducible first | exact HB.out | apply below_alloc | apply pw_below_drewN | apply below_drew1 | refine below_set ?_ GE101.out) | exact HB.out)) hb); clear BK101; clear HB; have BK101 := n0_; have HB := n1_; clear n0_ n1_; (try clear hb); (try clear hb2); (try clear hk); (try clear hi)))
                          go_ret
                          exact ⟨by first | rfl | (simp [errW_none, errW_some] <;> rfl) | (simp [*, errW_none, errW_some] <;> rfl), by repeat (first | (with_reducible first | exact HB.out | apply below_alloc | apply pw_below_drewN | apply below_drew1 | refine below_set ?_ GE101.out) | exact HB.out)⟩
                      · replace c37 := Bool.eq_false_iff.mpr c37
                        subst c37
                        have H1 : (some false) = some r := by rw [if_neg (show ¬ (false = true) by decide)] at H; exact H
                        clear H
                        have H := H1
                        clear H1
                        obtain rfl := Option.some.inj H
                        have hcz67_0 : wc.cell? ⟨gb101, 0, none⟩ = some (.int .i64 a0_0) := (blk_cell BK101.out 0).trans rfl
                        have hcz67_1 : wc.cell? ⟨gb101, 1, none⟩ = some (.int .i64 a0_1) := (blk_cell BK101.out 1).trans rfl
                        have hcz67_2 : wc.cell? ⟨gb101, 2, none⟩ = some (.int .i64 a0_2) := (blk_cell BK101.out 2).trans rfl
                        have hcz67_3 : wc.cell? ⟨gb101, 3, none⟩ = some (.int .i64 a0_3) := (blk_cell BK101.out 3).trans rfl
                        have hcz67_4 : wc.cell? ⟨gb101, 4, none⟩ = some (.int .i64 a0_4) := (blk_cell BK101.out 4).trans rfl
                        have hcz67_5 : wc.cell? ⟨gb101, 5, none⟩ = some (.int .i64 a0_5) := (blk_cell BK101.out 5).trans rfl
                        have hcz67_6 : wc.cell? ⟨gb101, 6, none⟩ = some (.int .i64 a0_6) := (blk_cell BK101.out 6).trans rfl
                        have hcz67_7 : wc.cell? ⟨gb101, 7, none⟩ = some (.int .i64 a0_7) := (blk_cell BK101.out 7).trans rfl
                        have hcz67_8 : wc.cell? ⟨gb101, 8, none⟩ = some (.bool a0_8) := (blk_cell BK101.out 8).trans rfl
                        have hcz67_9 : wc.cell? ⟨gb101, 9, none⟩ = some (.string a0_9) := (blk_cell BK101.out 9).trans rfl
                        have hcz67_10 : wc.cell? ⟨gb101, 10, none⟩ = some (.bool a0_10) := (blk_cell BK101.out 10).trans rfl
                        have hcz67_11 : wc.cell? ⟨gb101, 11, none⟩ = some (.string a0_11) := (blk_cell BK101.out 11).trans rfl
                        have hcz67_12 : wc.cell? ⟨gb101, 12, none⟩ = some (.int .i64 a0_12) := (blk_cell BK101.out 12).trans rfl
                        have hfz67_0 := blk_frozen BK101.out 0
                        have hfz67_1 := blk_frozen BK101.out 1
                        have hfz67_2 := blk_frozen BK101.out 2
                        have hfz67_3 := blk_frozen BK101.out 3
                        have hfz67_4 := blk_frozen BK101.out 4
                        have hfz67_5 := blk_frozen BK101.out 5
                        have hfz67_6 := blk_frozen BK101.out 6
                        have hfz67_7 := blk_frozen BK101.out 7
                        have hfz67_8 := blk_frozen BK101.out 8
                        have hfz67_9 := blk_frozen BK101.out 9
                        have hfz67_10 := blk_frozen BK101.out 10
                        have hfz67_11 := blk_frozen BK101.out 11
                        have hfz67_12 := blk_frozen BK101.out 12
                        go_wp2_with (first | (go_at_call 105; (with_reducible refine (seneschalref04_slot.calls a0_8 a0_9 false _ A36.out).mono ?_); rintro e w68 ⟨rfl, hb⟩; have n0_ := Aside0.mk (blk_below (g := gb101) (o := .cells #[.int .i64 a0_0, .int .i64 a0_1, .int .i64 a0_2, .int .i64 a0_3, .int .i64 a0_4, .int .i64 a0_5, .int .i64 a0_6, .int .i64 a0_7, .bool a0_8, .string a0_9, .bool a0_10, .string a0_11, .int .i64 a0_12] 65 (0, 0)) (by (with_reducible repeat (first | refine blk_drewN ?_ _ | refine blk_drew ?_ | refine blk_alloc ?_ _)); exact BK101.out) hb); have n1_ := Aside0.mk (below_step (by repeat (first | (with_reducible first | exact HB.out | apply below_alloc | apply pw_below_drewN | apply below_drew1 | refine below_set ?_ GE101.out) | exact HB.out)) hb); clear BK101; clear HB; have BK101 := n0_; have HB := n1_; clear n0_ n1_; (try clear hb); (try clear hb2); (try clear hk); (try clear hi)))
                        go_ret
                        exact ⟨by first | rfl | (simp [errW_none, errW_some] <;> rfl) | (simp [*, errW_none, errW_some] <;> rfl), by repeat (first | (with_reducible first | exact HB.out | apply below_alloc | apply pw_below_drewN | apply below_drew1 | refine below_set ?_ GE101.out) | exact HB.out)⟩
            · replace c27 := Bool.eq_false_iff.mpr c27
              subst c27
              have H1 : (if a0_0 = 3 then (if a0_6 = 0 then (if a0_7 = 0 then (if a0_12 = 0 then (if (!a0_8 && (a0_9.toList == ([] : List UInt8))) = true then (some (!a0_10 && (a0_11.toList == ([] : List UInt8)))) else (some false)) else (some false)) else (some false)) else (some false)) else (if a0_0 = 4 then (if a0_6 = 0 then (if a0_7 = 0 then (if a0_12 = 0 then (if (!a0_8 && (a0_9.toList == ([] : List UInt8))) = true then (some (!a0_10 && (a0_11.toList == ([] : List UInt8)))) else (some false)) else (some false)) else (some false)) else (some false)) else (some false))) = some r := by rw [if_neg (show ¬ (false = true) by decide)] at H; exact H
              clear H
              have H := H1
              clear H1
              by_cases c69 : a0_0 = 3
              · rw [if_pos c69] at H
                have c69b0 : (a0_0 == 3) = true := beq_iff_eq.mpr c69
                have c69b1 : (a0_0 != 3) = false := bne_eq_false_iff_eq.mpr c69
                clear c69
                by_cases c70 : a0_6 = 0
                · rw [if_pos c70] at H
                  have c70b0 : (a0_6 == 0) = true := beq_iff_eq.mpr c70
                  have c70b1 : (a0_6 != 0) = false := bne_eq_false_iff_eq.mpr c70
                  clear c70
                  by_cases c71 : a0_7 = 0
                  · rw [if_pos c71] at H
                    have c71b0 : (a0_7 == 0) = true := beq_iff_eq.mpr c71
                    have c71b1 : (a0_7 != 0) = false := bne_eq_false_iff_eq.mpr c71
                    clear c71
                    by_cases c72 : a0_12 = 0
                    · rw [if_pos c72] at H
                      have c72b0 : (a0_12 == 0) = true := beq_iff_eq.mpr c72
                      have c72b1 : (a0_12 != 0) = false := bne_eq_false_iff_eq.mpr c72
                      clear c72
                      by_cases c73 : (!a0_8 && (a0_9.toList == ([] : List UInt8))) = true
                      · rw [if_pos c73] at H
                        have c73b0 : (!a0_8 && (a0_9.toList == ([] : List UInt8))) = true := (c73); have c73b9 : (!a0_8 && a0_9.toList.isEmpty) = true := (by rw [← beq_nil]; exact c73b0)
                        clear c73
                        obtain rfl := Option.some.inj H
                        go_wp2_with (first | ((with_reducible refine gate_dst (N := 3) rfl ?_); refine box_event ?hg (N := 3) ?hd (cs := #[.bool false, .string (⟨#[]⟩ : ByteArray)]) (t := 33) ?hr ?_; (case hd => rfl); (case hg => rfl); (case hr => first | (go_simp; done) | (go_simp; rfl)); intro gb105 hg w74 hbox hb; have n0_ := Aside0.mk (blk_below (g := gb101) (o := .cells #[.int .i64 a0_0, .int .i64 a0_1, .int .i64 a0_2, .int .i64 a0_3, .int .i64 a0_4, .int .i64 a0_5, .int .i64 a0_6, .int .i64 a0_7, .bool a0_8, .string a0_9, .bool a0_10, .string a0_11, .int .i64 a0_12] 65 (0, 0)) (by (with_reducible repeat (first | refine blk_drewN ?_ _ | refine blk_drew ?_ | refine blk_alloc ?_ _)); exact BK101.out) hb); have n1_ := Aside0.mk (below_step (by repeat (first | (with_reducible first | exact HB.out | apply below_alloc | apply pw_below_drewN | apply below_drew1 | refine below_set ?_ GE101.out) | exact HB.out)) hb); have n2_ := Aside0.mk (hbox); have n3_ := Aside0.mk ((by rw [hg]; exact (below_size (by repeat (first | (with_reducible first | exact HB.out | apply below_alloc | apply pw_below_drewN | apply below_drew1 | refine below_set ?_ GE101.out) | exact HB.out))) : w.heap.size ≤ gb105)); have n4_ := Aside0.mk ((by rw [hg]; exact (below_size (by repeat (first | (with_reducible first | exact HB.out | apply below_alloc | apply pw_below_drewN | apply below_drew1 | refine below_set ?_ GE101.out) | exact HB.out))) : w.heap.size ≤ gb105)); have n5_ := Aside0.mk ((by rw [hg]; exact Nat.ne_of_lt (blk_lt (g := gb101) (o := .cells #[.int .i64 a0_0, .int .i64 a0_1, .int .i64 a0_2, .int .i64 a0_3, .int .i64 a0_4, .int .i64 a0_5, .int .i64 a0_6, .int .i64 a0_7, .bool a0_8, .string a0_9, .bool a0_10, .string a0_11, .int .i64 a0_12] 65 (0, 0)) (by (with_reducible repeat (first | refine blk_drewN ?_ _ | refine blk_drew ?_ | refine blk_alloc ?_ _)); exact BK101.out)) : gb101 ≠ gb105)); have n6_ := Aside0.mk ((by rw [hg]; exact Nat.ne_of_gt (blk_lt (g := gb101) (o := .cells #[.int .i64 a0_0, .int .i64 a0_1, .int .i64 a0_2, .int .i64 a0_3, .int .i64 a0_4, .int .i64 a0_5, .int .i64 a0_6, .int .i64 a0_7, .bool a0_8, .string a0_9, .bool a0_10, .string a0_11, .int .i64 a0_12] 65 (0, 0)) (by (with_reducible repeat (first | refine blk_drewN ?_ _ | refine blk_drew ?_ | refine blk_alloc ?_ _)); exact BK101.out)) : gb105 ≠ gb101)); clear BK101; clear HB; have BK101 := n0_; have HB := n1_; have BK105 := n2_; have GW105 := n3_; have GE105 := n4_; have NB101_105 := n5_; have NB105_101 := n6_; clear n0_ n1_ n2_ n3_ n4_ n5_ n6_; clear hb hbox hg; have hnb75 := NB105_101.out; have hnc75 := NB101_105.out; have hcz76_0 : w74.cell? ⟨gb105, 0, none⟩ = some (.bool false) := (blk_cell BK105.out 0).trans rfl; have hcz76_1 : w74.cell? ⟨gb105, 1, none⟩ = some (.string (⟨#[]⟩ : ByteArray)) := (blk_cell BK105.out 1).trans rfl; have hfz76_0 := blk_frozen BK105.out 0; have hfz76_1 := blk_frozen BK105.out 1; have hcz77_0 : w74.cell? ⟨gb101, 0, none⟩ = some (.int .i64 a0_0) := (blk_cell BK101.out 0).trans rfl; have hcz77_1 : w74.cell? ⟨gb101, 1, none⟩ = some (.int .i64 a0_1) := (blk_cell BK101.out 1).trans rfl; have hcz77_2 : w74.cell? ⟨gb101, 2, none⟩ = some (.int .i64 a0_2) := (blk_cell BK101.out 2).trans rfl; have hcz77_3 : w74.cell? ⟨gb101, 3, none⟩ = some (.int .i64 a0_3) := (blk_cell BK101.out 3).trans rfl; have hcz77_4 : w74.cell? ⟨gb101, 4, none⟩ = some (.int .i64 a0_4) := (blk_cell BK101.out 4).trans rfl; have hcz77_5 : w74.cell? ⟨gb101, 5, none⟩ = some (.int .i64 a0_5) := (blk_cell BK101.out 5).trans rfl; have hcz77_6 : w74.cell? ⟨gb101, 6, none⟩ = some (.int .i64 a0_6) := (blk_cell BK101.out 6).trans rfl; have hcz77_7 : w74.cell? ⟨gb101, 7, none⟩ = some (.int .i64 a0_7) := (blk_cell BK101.out 7).trans rfl; have hcz77_8 : w74.cell? ⟨gb101, 8, none⟩ = some (.bool a0_8) := (blk_cell BK101.out 8).trans rfl; have hcz77_9 : w74.cell? ⟨gb101, 9, none⟩ = some (.string a0_9) := (blk_cell BK101.out 9).trans rfl; have hcz77_10 : w74.cell? ⟨gb101, 10, none⟩ = some (.bool a0_10) := (blk_cell BK101.out 10).trans rfl; have hcz77_11 : w74.cell? ⟨gb101, 11, none⟩ = some (.string a0_11) := (blk_cell BK101.out 11).trans rfl; have hcz77_12 : w74.cell? ⟨gb101, 12, none⟩ = some (.int .i64 a0_12) := (blk_cell BK101.out 12).trans rfl; have hfz77_0 := blk_frozen BK101.out 0; have hfz77_1 := blk_frozen BK101.out 1; have hfz77_2 := blk_frozen BK101.out 2; have hfz77_3 := blk_frozen BK101.out 3; have hfz77_4 := blk_frozen BK101.out 4; have hfz77_5 := blk_frozen BK101.out 5; have hfz77_6 := blk_frozen BK101.out 6; have hfz77_7 := blk_frozen BK101.out 7; have hfz77_8 := blk_frozen BK101.out 8; have hfz77_9 := blk_frozen BK101.out 9; have hfz77_10 := blk_frozen BK101.out 10; have hfz77_11 := blk_frozen BK101.out 11; have hfz77_12 := blk_frozen BK101.out 12))
                        go_ret
                        exact ⟨by first | rfl | (simp [errW_none, errW_some] <;> rfl) | (simp [*, errW_none, errW_some] <;> rfl), by repeat (first | (with_reducible first | exact HB.out | apply below_alloc | apply pw_below_drewN | apply below_drew1 | refine below_set ?_ GE101.out | refine below_set ?_ GE105.out) | exact HB.out)⟩
                      · rw [if_neg c73] at H
                        have c73b0 : (!a0_8 && (a0_9.toList == ([] : List UInt8))) = false := (by simpa using c73); have c73b9 : (!a0_8 && a0_9.toList.isEmpty) = false := (by rw [← beq_nil]; exact c73b0)
                        clear c73
                        obtain rfl := Option.some.inj H
                        go_wp2_with (first | ((with_reducible refine gate_dst (N := 3) rfl ?_); refine box_event ?hg (N := 3) ?hd (cs := #[.bool false, .string (⟨#[]⟩ : ByteArray)]) (t := 33) ?hr ?_; (case hd => rfl); (case hg => rfl); (case hr => first | (go_simp; done) | (go_simp; rfl)); intro gb105 hg w78 hbox hb; have n0_ := Aside0.mk (blk_below (g := gb101) (o := .cells #[.int .i64 a0_0, .int .i64 a0_1, .int .i64 a0_2, .int .i64 a0_3, .int .i64 a0_4, .int .i64 a0_5, .int .i64 a0_6, .int .i64 a0_7, .bool a0_8, .string a0_9, .bool a0_10, .string a0_11, .int .i64 a0_12] 65 (0, 0)) (by (with_reducible repeat (first | refine blk_drewN ?_ _ | refine blk_drew ?_ | refine blk_alloc ?_ _)); exact BK101.out) hb); have n1_ := Aside0.mk (below_step (by repeat (first | (with_reducible first | exact HB.out | apply below_alloc | apply pw_below_drewN | apply below_drew1 | refine below_set ?_ GE101.out) | exact HB.out)) hb); have n2_ := Aside0.mk (hbox); have n3_ := Aside0.mk ((by rw [hg]; exact (below_size (by repeat (first | (with_reducible first | exact HB.out | apply below_alloc | apply pw_below_drewN | apply below_drew1 | refine below_set ?_ GE101.out) | exact HB.out))) : w.heap.size ≤ gb105)); have n4_ := Aside0.mk ((by rw [hg]; exact (below_size (by repeat (first | (with_reducible first | exact HB.out | apply below_alloc | apply pw_below_drewN | apply below_drew1 | refine below_set ?_ GE101.out) | exact HB.out))) : w.heap.size ≤ gb105)); have n5_ := Aside0.mk ((by rw [hg]; exact Nat.ne_of_lt (blk_lt (g := gb101) (o := .cells #[.int .i64 a0_0, .int .i64 a0_1, .int .i64 a0_2, .int .i64 a0_3, .int .i64 a0_4, .int .i64 a0_5, .int .i64 a0_6, .int .i64 a0_7, .bool a0_8, .string a0_9, .bool a0_10, .string a0_11, .int .i64 a0_12] 65 (0, 0)) (by (with_reducible repeat (first | refine blk_drewN ?_ _ | refine blk_drew ?_ | refine blk_alloc ?_ _)); exact BK101.out)) : gb101 ≠ gb105)); have n6_ := Aside0.mk ((by rw [hg]; exact Nat.ne_of_gt (blk_lt (g := gb101) (o := .cells #[.int .i64 a0_0, .int .i64 a0_1, .int .i64 a0_2, .int .i64 a0_3, .int .i64 a0_4, .int .i64 a0_5, .int .i64 a0_6, .int .i64 a0_7, .bool a0_8, .string a0_9, .bool a0_10, .string a0_11, .int .i64 a0_12] 65 (0, 0)) (by (with_reducible repeat (first | refine blk_drewN ?_ _ | refine blk_drew ?_ | refine blk_alloc ?_ _)); exact BK101.out)) : gb105 ≠ gb101)); clear BK101; clear HB; have BK101 := n0_; have HB := n1_; have BK105 := n2_; have GW105 := n3_; have GE105 := n4_; have NB101_105 := n5_; have NB105_101 := n6_; clear n0_ n1_ n2_ n3_ n4_ n5_ n6_; clear hb hbox hg; have hnb79 := NB105_101.out; have hnc79 := NB101_105.out; have hcz80_0 : w78.cell? ⟨gb105, 0, none⟩ = some (.bool false) := (blk_cell BK105.out 0).trans rfl; have hcz80_1 : w78.cell? ⟨gb105, 1, none⟩ = some (.string (⟨#[]⟩ : ByteArray)) := (blk_cell BK105.out 1).trans rfl; have hfz80_0 := blk_frozen BK105.out 0; have hfz80_1 := blk_frozen BK105.out 1; have hcz81_0 : w78.cell? ⟨gb101, 0, none⟩ = some (.int .i64 a0_0) := (blk_cell BK101.out 0).trans rfl; have hcz81_1 : w78.cell? ⟨gb101, 1, none⟩ = some (.int .i64 a0_1) := (blk_cell BK101.out 1).trans rfl; have hcz81_2 : w78.cell? ⟨gb101, 2, none⟩ = some (.int .i64 a0_2) := (blk_cell BK101.out 2).trans rfl; have hcz81_3 : w78.cell? ⟨gb101, 3, none⟩ = some (.int .i64 a0_3) := (blk_cell BK101.out 3).trans rfl; have hcz81_4 : w78.cell? ⟨gb101, 4, none⟩ = some (.int .i64 a0_4) := (blk_cell BK101.out 4).trans rfl; have hcz81_5 : w78.cell? ⟨gb101, 5, none⟩ = some (.int .i64 a0_5) := (blk_cell BK101.out 5).trans rfl; have hcz81_6 : w78.cell? ⟨gb101, 6, none⟩ = some (.int .i64 a0_6) := (blk_cell BK101.out 6).trans rfl; have hcz81_7 : w78.cell? ⟨gb101, 7, none⟩ = some (.int .i64 a0_7) := (blk_cell BK101.out 7).trans rfl; have hcz81_8 : w78.cell? ⟨gb101, 8, none⟩ = some (.bool a0_8) := (blk_cell BK101.out 8).trans rfl; have hcz81_9 : w78.cell? ⟨gb101, 9, none⟩ = some (.string a0_9) := (blk_cell BK101.out 9).trans rfl; have hcz81_10 : w78.cell? ⟨gb101, 10, none⟩ = some (.bool a0_10) := (blk_cell BK101.out 10).trans rfl; have hcz81_11 : w78.cell? ⟨gb101, 11, none⟩ = some (.string a0_11) := (blk_cell BK101.out 11).trans rfl; have hcz81_12 : w78.cell? ⟨gb101, 12, none⟩ = some (.int .i64 a0_12) := (blk_cell BK101.out 12).trans rfl; have hfz81_0 := blk_frozen BK101.out 0; have hfz81_1 := blk_frozen BK101.out 1; have hfz81_2 := blk_frozen BK101.out 2; have hfz81_3 := blk_frozen BK101.out 3; have hfz81_4 := blk_frozen BK101.out 4; have hfz81_5 := blk_frozen BK101.out 5; have hfz81_6 := blk_frozen BK101.out 6; have hfz81_7 := blk_frozen BK101.out 7; have hfz81_8 := blk_frozen BK101.out 8; have hfz81_9 := blk_frozen BK101.out 9; have hfz81_10 := blk_frozen BK101.out 10; have hfz81_11 := blk_frozen BK101.out 11; have hfz81_12 := blk_frozen BK101.out 12))
                        go_ret
                        exact ⟨by first | rfl | (simp [errW_none, errW_some] <;> rfl) | (simp [*, errW_none, errW_some] <;> rfl), by repeat (first | (with_reducible first | exact HB.out | apply below_alloc | apply pw_below_drewN | apply below_drew1 | refine below_set ?_ GE101.out | refine below_set ?_ GE105.out) | exact HB.out)⟩
                    · rw [if_neg c72] at H
                      have c72b0 : (a0_12 == 0) = false := beq_eq_false_iff_ne.mpr c72
                      have c72b1 : (a0_12 != 0) = true := bne_iff_ne.mpr c72
                      obtain rfl := Option.some.inj H
                      go_wp2_with (first | ((with_reducible refine gate_dst (N := 3) rfl ?_); refine box_event ?hg (N := 3) ?hd (cs := #[.bool false, .string (⟨#[]⟩ : ByteArray)]) (t := 33) ?hr ?_; (case hd => rfl); (case hg => rfl); (case hr => first | (go_simp; done) | (go_simp; rfl)); intro gb105 hg w82 hbox hb; have n0_ := Aside0.mk (blk_below (g := gb101) (o := .cells #[.int .i64 a0_0, .int .i64 a0_1, .int .i64 a0_2, .int .i64 a0_3, .int .i64 a0_4, .int .i64 a0_5, .int .i64 a0_6, .int .i64 a0_7, .bool a0_8, .string a0_9, .bool a0_10, .string a0_11, .int .i64 a0_12] 65 (0, 0)) (by (with_reducible repeat (first | refine blk_drewN ?_ _ | refine blk_drew ?_ | refine blk_alloc ?_ _)); exact BK101.out) hb); have n1_ := Aside0.mk (below_step (by repeat (first | (with_reducible first | exact HB.out | apply below_alloc | apply pw_below_drewN | apply below_drew1 | refine below_set ?_ GE101.out) | exact HB.out)) hb); have n2_ := Aside0.mk (hbox); have n3_ := Aside0.mk ((by rw [hg]; exact (below_size (by repeat (first | (with_reducible first | exact HB.out | apply below_alloc | apply pw_below_drewN | apply below_drew1 | refine below_set ?_ GE101.out) | exact HB.out))) : w.heap.size ≤ gb105)); have n4_ := Aside0.mk ((by rw [hg]; exact (below_size (by repeat (first | (with_reducible first | exact HB.out | apply below_alloc | apply pw_below_drewN | apply below_drew1 | refine below_set ?_ GE101.out) | exact HB.out))) : w.heap.size ≤ gb105)); have n5_ := Aside0.mk ((by rw [hg]; exact Nat.ne_of_lt (blk_lt (g := gb101) (o := .cells #[.int .i64 a0_0, .int .i64 a0_1, .int .i64 a0_2, .int .i64 a0_3, .int .i64 a0_4, .int .i64 a0_5, .int .i64 a0_6, .int .i64 a0_7, .bool a0_8, .string a0_9, .bool a0_10, .string a0_11, .int .i64 a0_12] 65 (0, 0)) (by (with_reducible repeat (first | refine blk_drewN ?_ _ | refine blk_drew ?_ | refine blk_alloc ?_ _)); exact BK101.out)) : gb101 ≠ gb105)); have n6_ := Aside0.mk ((by rw [hg]; exact Nat.ne_of_gt (blk_lt (g := gb101) (o := .cells #[.int .i64 a0_0, .int .i64 a0_1, .int .i64 a0_2, .int .i64 a0_3, .int .i64 a0_4, .int .i64 a0_5, .int .i64 a0_6, .int .i64 a0_7, .bool a0_8, .string a0_9, .bool a0_10, .string a0_11, .int .i64 a0_12] 65 (0, 0)) (by (with_reducible repeat (first | refine blk_drewN ?_ _ | refine blk_drew ?_ | refine blk_alloc ?_ _)); exact BK101.out)) : gb105 ≠ gb101)); clear BK101; clear HB; have BK101 := n0_; have HB := n1_; have BK105 := n2_; have GW105 := n3_; have GE105 := n4_; have NB101_105 := n5_; have NB105_101 := n6_; clear n0_ n1_ n2_ n3_ n4_ n5_ n6_; clear hb hbox hg; have hnb83 := NB105_101.out; have hnc83 := NB101_105.out; have hcz84_0 : w82.cell? ⟨gb105, 0, none⟩ = some (.bool false) := (blk_cell BK105.out 0).trans rfl; have hcz84_1 : w82.cell? ⟨gb105, 1, none⟩ = some (.string (⟨#[]⟩ : ByteArray)) := (blk_cell BK105.out 1).trans rfl; have hfz84_0 := blk_frozen BK105.out 0; have hfz84_1 := blk_frozen BK105.out 1; have hcz85_0 : w82.cell? ⟨gb101, 0, none⟩ = some (.int .i64 a0_0) := (blk_cell BK101.out 0).trans rfl; have hcz85_1 : w82.cell? ⟨gb101, 1, none⟩ = some (.int .i64 a0_1) := (blk_cell BK101.out 1).trans rfl; have hcz85_2 : w82.cell? ⟨gb101, 2, none⟩ = some (.int .i64 a0_2) := (blk_cell BK101.out 2).trans rfl; have hcz85_3 : w82.cell? ⟨gb101, 3, none⟩ = some (.int .i64 a0_3) := (blk_cell BK101.out 3).trans rfl; have hcz85_4 : w82.cell? ⟨gb101, 4, none⟩ = some (.int .i64 a0_4) := (blk_cell BK101.out 4).trans rfl; have hcz85_5 : w82.cell? ⟨gb101, 5, none⟩ = some (.int .i64 a0_5) := (blk_cell BK101.out 5).trans rfl; have hcz85_6 : w82.cell? ⟨gb101, 6, none⟩ = some (.int .i64 a0_6) := (blk_cell BK101.out 6).trans rfl; have hcz85_7 : w82.cell? ⟨gb101, 7, none⟩ = some (.int .i64 a0_7) := (blk_cell BK101.out 7).trans rfl; have hcz85_8 : w82.cell? ⟨gb101, 8, none⟩ = some (.bool a0_8) := (blk_cell BK101.out 8).trans rfl; have hcz85_9 : w82.cell? ⟨gb101, 9, none⟩ = some (.string a0_9) := (blk_cell BK101.out 9).trans rfl; have hcz85_10 : w82.cell? ⟨gb101, 10, none⟩ = some (.bool a0_10) := (blk_cell BK101.out 10).trans rfl; have hcz85_11 : w82.cell? ⟨gb101, 11, none⟩ = some (.string a0_11) := (blk_cell BK101.out 11).trans rfl; have hcz85_12 : w82.cell? ⟨gb101, 12, none⟩ = some (.int .i64 a0_12) := (blk_cell BK101.out 12).trans rfl; have hfz85_0 := blk_frozen BK101.out 0; have hfz85_1 := blk_frozen BK101.out 1; have hfz85_2 := blk_frozen BK101.out 2; have hfz85_3 := blk_frozen BK101.out 3; have hfz85_4 := blk_frozen BK101.out 4; have hfz85_5 := blk_frozen BK101.out 5; have hfz85_6 := blk_frozen BK101.out 6; have hfz85_7 := blk_frozen BK101.out 7; have hfz85_8 := blk_frozen BK101.out 8; have hfz85_9 := blk_frozen BK101.out 9; have hfz85_10 := blk_frozen BK101.out 10; have hfz85_11 := blk_frozen BK101.out 11; have hfz85_12 := blk_frozen BK101.out 12))
                      go_ret
                      exact ⟨by first | rfl | (simp [errW_none, errW_some] <;> rfl) | (simp [*, errW_none, errW_some] <;> rfl), by repeat (first | (with_reducible first | exact HB.out | apply below_alloc | apply pw_below_drewN | apply below_drew1 | refine below_set ?_ GE101.out | refine below_set ?_ GE105.out) | exact HB.out)⟩
                  · rw [if_neg c71] at H
                    have c71b0 : (a0_7 == 0) = false := beq_eq_false_iff_ne.mpr c71
                    have c71b1 : (a0_7 != 0) = true := bne_iff_ne.mpr c71
                    obtain rfl := Option.some.inj H
                    go_wp2_with (first | ((with_reducible refine gate_dst (N := 3) rfl ?_); refine box_event ?hg (N := 3) ?hd (cs := #[.bool false, .string (⟨#[]⟩ : ByteArray)]) (t := 33) ?hr ?_; (case hd => rfl); (case hg => rfl); (case hr => first | (go_simp; done) | (go_simp; rfl)); intro gb105 hg w86 hbox hb; have n0_ := Aside0.mk (blk_below (g := gb101) (o := .cells #[.int .i64 a0_0, .int .i64 a0_1, .int .i64 a0_2, .int .i64 a0_3, .int .i64 a0_4, .int .i64 a0_5, .int .i64 a0_6, .int .i64 a0_7, .bool a0_8, .string a0_9, .bool a0_10, .string a0_11, .int .i64 a0_12] 65 (0, 0)) (by (with_reducible repeat (first | refine blk_drewN ?_ _ | refine blk_drew ?_ | refine blk_alloc ?_ _)); exact BK101.out) hb); have n1_ := Aside0.mk (below_step (by repeat (first | (with_reducible first | exact HB.out | apply below_alloc | apply pw_below_drewN | apply below_drew1 | refine below_set ?_ GE101.out) | exact HB.out)) hb); have n2_ := Aside0.mk (hbox); have n3_ := Aside0.mk ((by rw [hg]; exact (below_size (by repeat (first | (with_reducible first | exact HB.out | apply below_alloc | apply pw_below_drewN | apply below_drew1 | refine below_set ?_ GE101.out) | exact HB.out))) : w.heap.size ≤ gb105)); have n4_ := Aside0.mk ((by rw [hg]; exact (below_size (by repeat (first | (with_reducible first | exact HB.out | apply below_alloc | apply pw_below_drewN | apply below_drew1 | refine below_set ?_ GE101.out) | exact HB.out))) : w.heap.size ≤ gb105)); have n5_ := Aside0.mk ((by rw [hg]; exact Nat.ne_of_lt (blk_lt (g := gb101) (o := .cells #[.int .i64 a0_0, .int .i64 a0_1, .int .i64 a0_2, .int .i64 a0_3, .int .i64 a0_4, .int .i64 a0_5, .int .i64 a0_6, .int .i64 a0_7, .bool a0_8, .string a0_9, .bool a0_10, .string a0_11, .int .i64 a0_12] 65 (0, 0)) (by (with_reducible repeat (first | refine blk_drewN ?_ _ | refine blk_drew ?_ | refine blk_alloc ?_ _)); exact BK101.out)) : gb101 ≠ gb105)); have n6_ := Aside0.mk ((by rw [hg]; exact Nat.ne_of_gt (blk_lt (g := gb101) (o := .cells #[.int .i64 a0_0, .int .i64 a0_1, .int .i64 a0_2, .int .i64 a0_3, .int .i64 a0_4, .int .i64 a0_5, .int .i64 a0_6, .int .i64 a0_7, .bool a0_8, .string a0_9, .bool a0_10, .string a0_11, .int .i64 a0_12] 65 (0, 0)) (by (with_reducible repeat (first | refine blk_drewN ?_ _ | refine blk_drew ?_ | refine blk_alloc ?_ _)); exact BK101.out)) : gb105 ≠ gb101)); clear BK101; clear HB; have BK101 := n0_; have HB := n1_; have BK105 := n2_; have GW105 := n3_; have GE105 := n4_; have NB101_105 := n5_; have NB105_101 := n6_; clear n0_ n1_ n2_ n3_ n4_ n5_ n6_; clear hb hbox hg; have hnb87 := NB105_101.out; have hnc87 := NB101_105.out; have hcz88_0 : w86.cell? ⟨gb105, 0, none⟩ = some (.bool false) := (blk_cell BK105.out 0).trans rfl; have hcz88_1 : w86.cell? ⟨gb105, 1, none⟩ = some (.string (⟨#[]⟩ : ByteArray)) := (blk_cell BK105.out 1).trans rfl; have hfz88_0 := blk_frozen BK105.out 0; have hfz88_1 := blk_frozen BK105.out 1; have hcz89_0 : w86.cell? ⟨gb101, 0, none⟩ = some (.int .i64 a0_0) := (blk_cell BK101.out 0).trans rfl; have hcz89_1 : w86.cell? ⟨gb101, 1, none⟩ = some (.int .i64 a0_1) := (blk_cell BK101.out 1).trans rfl; have hcz89_2 : w86.cell? ⟨gb101, 2, none⟩ = some (.int .i64 a0_2) := (blk_cell BK101.out 2).trans rfl; have hcz89_3 : w86.cell? ⟨gb101, 3, none⟩ = some (.int .i64 a0_3) := (blk_cell BK101.out 3).trans rfl; have hcz89_4 : w86.cell? ⟨gb101, 4, none⟩ = some (.int .i64 a0_4) := (blk_cell BK101.out 4).trans rfl; have hcz89_5 : w86.cell? ⟨gb101, 5, none⟩ = some (.int .i64 a0_5) := (blk_cell BK101.out 5).trans rfl; have hcz89_6 : w86.cell? ⟨gb101, 6, none⟩ = some (.int .i64 a0_6) := (blk_cell BK101.out 6).trans rfl; have hcz89_7 : w86.cell? ⟨gb101, 7, none⟩ = some (.int .i64 a0_7) := (blk_cell BK101.out 7).trans rfl; have hcz89_8 : w86.cell? ⟨gb101, 8, none⟩ = some (.bool a0_8) := (blk_cell BK101.out 8).trans rfl; have hcz89_9 : w86.cell? ⟨gb101, 9, none⟩ = some (.string a0_9) := (blk_cell BK101.out 9).trans rfl; have hcz89_10 : w86.cell? ⟨gb101, 10, none⟩ = some (.bool a0_10) := (blk_cell BK101.out 10).trans rfl; have hcz89_11 : w86.cell? ⟨gb101, 11, none⟩ = some (.string a0_11) := (blk_cell BK101.out 11).trans rfl; have hcz89_12 : w86.cell? ⟨gb101, 12, none⟩ = some (.int .i64 a0_12) := (blk_cell BK101.out 12).trans rfl; have hfz89_0 := blk_frozen BK101.out 0; have hfz89_1 := blk_frozen BK101.out 1; have hfz89_2 := blk_frozen BK101.out 2; have hfz89_3 := blk_frozen BK101.out 3; have hfz89_4 := blk_frozen BK101.out 4; have hfz89_5 := blk_frozen BK101.out 5; have hfz89_6 := blk_frozen BK101.out 6; have hfz89_7 := blk_frozen BK101.out 7; have hfz89_8 := blk_frozen BK101.out 8; have hfz89_9 := blk_frozen BK101.out 9; have hfz89_10 := blk_frozen BK101.out 10; have hfz89_11 := blk_frozen BK101.out 11; have hfz89_12 := blk_frozen BK101.out 12))
                    go_ret
                    exact ⟨by first | rfl | (simp [errW_none, errW_some] <;> rfl) | (simp [*, errW_none, errW_some] <;> rfl), by repeat (first | (with_reducible first | exact HB.out | apply below_alloc | apply pw_below_drewN | apply below_drew1 | refine below_set ?_ GE101.out | refine below_set ?_ GE105.out) | exact HB.out)⟩
                · rw [if_neg c70] at H
                  have c70b0 : (a0_6 == 0) = false := beq_eq_false_iff_ne.mpr c70
                  have c70b1 : (a0_6 != 0) = true := bne_iff_ne.mpr c70
                  obtain rfl := Option.some.inj H
                  go_wp2_with (first | ((with_reducible refine gate_dst (N := 3) rfl ?_); refine box_event ?hg (N := 3) ?hd (cs := #[.bool false, .string (⟨#[]⟩ : ByteArray)]) (t := 33) ?hr ?_; (case hd => rfl); (case hg => rfl); (case hr => first | (go_simp; done) | (go_simp; rfl)); intro gb105 hg w90 hbox hb; have n0_ := Aside0.mk (blk_below (g := gb101) (o := .cells #[.int .i64 a0_0, .int .i64 a0_1, .int .i64 a0_2, .int .i64 a0_3, .int .i64 a0_4, .int .i64 a0_5, .int .i64 a0_6, .int .i64 a0_7, .bool a0_8, .string a0_9, .bool a0_10, .string a0_11, .int .i64 a0_12] 65 (0, 0)) (by (with_reducible repeat (first | refine blk_drewN ?_ _ | refine blk_drew ?_ | refine blk_alloc ?_ _)); exact BK101.out) hb); have n1_ := Aside0.mk (below_step (by repeat (first | (with_reducible first | exact HB.out | apply below_alloc | apply pw_below_drewN | apply below_drew1 | refine below_set ?_ GE101.out) | exact HB.out)) hb); have n2_ := Aside0.mk (hbox); have n3_ := Aside0.mk ((by rw [hg]; exact (below_size (by repeat (first | (with_reducible first | exact HB.out | apply below_alloc | apply pw_below_drewN | apply below_drew1 | refine below_set ?_ GE101.out) | exact HB.out))) : w.heap.size ≤ gb105)); have n4_ := Aside0.mk ((by rw [hg]; exact (below_size (by repeat (first | (with_reducible first | exact HB.out | apply below_alloc | apply pw_below_drewN | apply below_drew1 | refine below_set ?_ GE101.out) | exact HB.out))) : w.heap.size ≤ gb105)); have n5_ := Aside0.mk ((by rw [hg]; exact Nat.ne_of_lt (blk_lt (g := gb101) (o := .cells #[.int .i64 a0_0, .int .i64 a0_1, .int .i64 a0_2, .int .i64 a0_3, .int .i64 a0_4, .int .i64 a0_5, .int .i64 a0_6, .int .i64 a0_7, .bool a0_8, .string a0_9, .bool a0_10, .string a0_11, .int .i64 a0_12] 65 (0, 0)) (by (with_reducible repeat (first | refine blk_drewN ?_ _ | refine blk_drew ?_ | refine blk_alloc ?_ _)); exact BK101.out)) : gb101 ≠ gb105)); have n6_ := Aside0.mk ((by rw [hg]; exact Nat.ne_of_gt (blk_lt (g := gb101) (o := .cells #[.int .i64 a0_0, .int .i64 a0_1, .int .i64 a0_2, .int .i64 a0_3, .int .i64 a0_4, .int .i64 a0_5, .int .i64 a0_6, .int .i64 a0_7, .bool a0_8, .string a0_9, .bool a0_10, .string a0_11, .int .i64 a0_12] 65 (0, 0)) (by (with_reducible repeat (first | refine blk_drewN ?_ _ | refine blk_drew ?_ | refine blk_alloc ?_ _)); exact BK101.out)) : gb105 ≠ gb101)); clear BK101; clear HB; have BK101 := n0_; have HB := n1_; have BK105 := n2_; have GW105 := n3_; have GE105 := n4_; have NB101_105 := n5_; have NB105_101 := n6_; clear n0_ n1_ n2_ n3_ n4_ n5_ n6_; clear hb hbox hg; have hnb91 := NB105_101.out; have hnc91 := NB101_105.out; have hcz92_0 : w90.cell? ⟨gb105, 0, none⟩ = some (.bool false) := (blk_cell BK105.out 0).trans rfl; have hcz92_1 : w90.cell? ⟨gb105, 1, none⟩ = some (.string (⟨#[]⟩ : ByteArray)) := (blk_cell BK105.out 1).trans rfl; have hfz92_0 := blk_frozen BK105.out 0; have hfz92_1 := blk_frozen BK105.out 1; have hcz93_0 : w90.cell? ⟨gb101, 0, none⟩ = some (.int .i64 a0_0) := (blk_cell BK101.out 0).trans rfl; have hcz93_1 : w90.cell? ⟨gb101, 1, none⟩ = some (.int .i64 a0_1) := (blk_cell BK101.out 1).trans rfl; have hcz93_2 : w90.cell? ⟨gb101, 2, none⟩ = some (.int .i64 a0_2) := (blk_cell BK101.out 2).trans rfl; have hcz93_3 : w90.cell? ⟨gb101, 3, none⟩ = some (.int .i64 a0_3) := (blk_cell BK101.out 3).trans rfl; have hcz93_4 : w90.cell? ⟨gb101, 4, none⟩ = some (.int .i64 a0_4) := (blk_cell BK101.out 4).trans rfl; have hcz93_5 : w90.cell? ⟨gb101, 5, none⟩ = some (.int .i64 a0_5) := (blk_cell BK101.out 5).trans rfl; have hcz93_6 : w90.cell? ⟨gb101, 6, none⟩ = some (.int .i64 a0_6) := (blk_cell BK101.out 6).trans rfl; have hcz93_7 : w90.cell? ⟨gb101, 7, none⟩ = some (.int .i64 a0_7) := (blk_cell BK101.out 7).trans rfl; have hcz93_8 : w90.cell? ⟨gb101, 8, none⟩ = some (.bool a0_8) := (blk_cell BK101.out 8).trans rfl; have hcz93_9 : w90.cell? ⟨gb101, 9, none⟩ = some (.string a0_9) := (blk_cell BK101.out 9).trans rfl; have hcz93_10 : w90.cell? ⟨gb101, 10, none⟩ = some (.bool a0_10) := (blk_cell BK101.out 10).trans rfl; have hcz93_11 : w90.cell? ⟨gb101, 11, none⟩ = some (.string a0_11) := (blk_cell BK101.out 11).trans rfl; have hcz93_12 : w90.cell? ⟨gb101, 12, none⟩ = some (.int .i64 a0_12) := (blk_cell BK101.out 12).trans rfl; have hfz93_0 := blk_frozen BK101.out 0; have hfz93_1 := blk_frozen BK101.out 1; have hfz93_2 := blk_frozen BK101.out 2; have hfz93_3 := blk_frozen BK101.out 3; have hfz93_4 := blk_frozen BK101.out 4; have hfz93_5 := blk_frozen BK101.out 5; have hfz93_6 := blk_frozen BK101.out 6; have hfz93_7 := blk_frozen BK101.out 7; have hfz93_8 := blk_frozen BK101.out 8; have hfz93_9 := blk_frozen BK101.out 9; have hfz93_10 := blk_frozen BK101.out 10; have hfz93_11 := blk_frozen BK101.out 11; have hfz93_12 := blk_frozen BK101.out 12))
                  go_ret
                  exact ⟨by first | rfl | (simp [errW_none, errW_some] <;> rfl) | (simp [*, errW_none, errW_some] <;> rfl), by repeat (first | (with_reducible first | exact HB.out | apply below_alloc | apply pw_below_drewN | apply below_drew1 | refine below_set ?_ GE101.out | refine below_set ?_ GE105.out) | exact HB.out)⟩
              · rw [if_neg c69] at H
                have c69b0 : (a0_0 == 3) = false := beq_eq_false_iff_ne.mpr c69
                have c69b1 : (a0_0 != 3) = true := bne_iff_ne.mpr c69
                by_cases c94 : a0_0 = 4
                · rw [if_pos c94] at H
                  have c94b0 : (a0_0 == 4) = true := beq_iff_eq.mpr c94
                  have c94b1 : (a0_0 != 4) = false := bne_eq_false_iff_eq.mpr c94
                  clear c94
                  by_cases c95 : a0_6 = 0
                  · rw [if_pos c95] at H
                    have c95b0 : (a0_6 == 0) = true := beq_iff_eq.mpr c95
                    have c95b1 : (a0_6 != 0) = false := bne_eq_false_iff_eq.mpr c95
                    clear c95
                    by_cases c96 : a0_7 = 0
                    · rw [if_pos c96] at H
                      have c96b0 : (a0_7 == 0) = true := beq_iff_eq.mpr c96
                      have c96b1 : (a0_7 != 0) = false := bne_eq_false_iff_eq.mpr c96
                      clear c96
                      by_cases c97 : a0_12 = 0
                      · rw [if_pos c97] at H
                        have c97b0 : (a0_12 == 0) = true := beq_iff_eq.mpr c97
                        have c97b1 : (a0_12 != 0) = false := bne_eq_false_iff_eq.mpr c97
                        clear c97
                        by_cases c98 : (!a0_8 && (a0_9.toList == ([] : List UInt8))) = true
                        · rw [if_pos c98] at H
                          have c98b0 : (!a0_8 && (a0_9.toList == ([] : List UInt8))) = true := (c98); have c98b9 : (!a0_8 && a0_9.toList.isEmpty) = true := (by rw [← beq_nil]; exact c98b0)
                          clear c98
                          obtain rfl := Option.some.inj H
                          go_wp2_with (first | ((with_reducible refine gate_dst (N := 3) rfl ?_); refine box_event ?hg (N := 3) ?hd (cs := #[.bool false, .string (⟨#[]⟩ : ByteArray)]) (t := 33) ?hr ?_; (case hd => rfl); (case hg => rfl); (case hr => first | (go_simp; done) | (go_simp; rfl)); intro gb106 hg w99 hbox hb; have n0_ := Aside0.mk (blk_below (g := gb101) (o := .cells #[.int .i64 a0_0, .int .i64 a0_1, .int .i64 a0_2, .int .i64 a0_3, .int .i64 a0_4, .int .i64 a0_5, .int .i64 a0_6, .int .i64 a0_7, .bool a0_8, .string a0_9, .bool a0_10, .string a0_11, .int .i64 a0_12] 65 (0, 0)) (by (with_reducible repeat (first | refine blk_drewN ?_ _ | refine blk_drew ?_ | refine blk_alloc ?_ _)); exact BK101.out) hb); have n1_ := Aside0.mk (below_step (by repeat (first | (with_reducible first | exact HB.out | apply below_alloc | apply pw_below_drewN | apply below_drew1 | refine below_set ?_ GE101.out) | exact HB.out)) hb); have n2_ := Aside0.mk (hbox); have n3_ := Aside0.mk ((by rw [hg]; exact (below_size (by repeat (first | (with_reducible first | exact HB.out | apply below_alloc | apply pw_below_drewN | apply below_drew1 | refine below_set ?_ GE101.out) | exact HB.out))) : w.heap.size ≤ gb106)); have n4_ := Aside0.mk ((by rw [hg]; exact (below_size (by repeat (first | (with_reducible first | exact HB.out | apply below_alloc | apply pw_below_drewN | apply below_drew1 | refine below_set ?_ GE101.out) | exact HB.out))) : w.heap.size ≤ gb106)); have n5_ := Aside0.mk ((by rw [hg]; exact Nat.ne_of_lt (blk_lt (g := gb101) (o := .cells #[.int .i64 a0_0, .int .i64 a0_1, .int .i64 a0_2, .int .i64 a0_3, .int .i64 a0_4, .int .i64 a0_5, .int .i64 a0_6, .int .i64 a0_7, .bool a0_8, .string a0_9, .bool a0_10, .string a0_11, .int .i64 a0_12] 65 (0, 0)) (by (with_reducible repeat (first | refine blk_drewN ?_ _ | refine blk_drew ?_ | refine blk_alloc ?_ _)); exact BK101.out)) : gb101 ≠ gb106)); have n6_ := Aside0.mk ((by rw [hg]; exact Nat.ne_of_gt (blk_lt (g := gb101) (o := .cells #[.int .i64 a0_0, .int .i64 a0_1, .int .i64 a0_2, .int .i64 a0_3, .int .i64 a0_4, .int .i64 a0_5, .int .i64 a0_6, .int .i64 a0_7, .bool a0_8, .string a0_9, .bool a0_10, .string a0_11, .int .i64 a0_12] 65 (0, 0)) (by (with_reducible repeat (first | refine blk_drewN ?_ _ | refine blk_drew ?_ | refine blk_alloc ?_ _)); exact BK101.out)) : gb106 ≠ gb101)); clear BK101; clear HB; have BK101 := n0_; have HB := n1_; have BK106 := n2_; have GW106 := n3_; have GE106 := n4_; have NB101_106 := n5_; have NB106_101 := n6_; clear n0_ n1_ n2_ n3_ n4_ n5_ n6_; clear hb hbox hg; have hnb100 := NB106_101.out; have hnc100 := NB101_106.out; have hcz101_0 : w99.cell? ⟨gb106, 0, none⟩ = some (.bool false) := (blk_cell BK106.out 0).trans rfl; have hcz101_1 : w99.cell? ⟨gb106, 1, none⟩ = some (.string (⟨#[]⟩ : ByteArray)) := (blk_cell BK106.out 1).trans rfl; have hfz101_0 := blk_frozen BK106.out 0; have hfz101_1 := blk_frozen BK106.out 1; have hcz102_0 : w99.cell? ⟨gb101, 0, none⟩ = some (.int .i64 a0_0) := (blk_cell BK101.out 0).trans rfl; have hcz102_1 : w99.cell? ⟨gb101, 1, none⟩ = some (.int .i64 a0_1) := (blk_cell BK101.out 1).trans rfl; have hcz102_2 : w99.cell? ⟨gb101, 2, none⟩ = some (.int .i64 a0_2) := (blk_cell BK101.out 2).trans rfl; have hcz102_3 : w99.cell? ⟨gb101, 3, none⟩ = some (.int .i64 a0_3) := (blk_cell BK101.out 3).trans rfl; have hcz102_4 : w99.cell? ⟨gb101, 4, none⟩ = some (.int .i64 a0_4) := (blk_cell BK101.out 4).trans rfl; have hcz102_5 : w99.cell? ⟨gb101, 5, none⟩ = some (.int .i64 a0_5) := (blk_cell BK101.out 5).trans rfl; have hcz102_6 : w99.cell? ⟨gb101, 6, none⟩ = some (.int .i64 a0_6) := (blk_cell BK101.out 6).trans rfl; have hcz102_7 : w99.cell? ⟨gb101, 7, none⟩ = some (.int .i64 a0_7) := (blk_cell BK101.out 7).trans rfl; have hcz102_8 : w99.cell? ⟨gb101, 8, none⟩ = some (.bool a0_8) := (blk_cell BK101.out 8).trans rfl; have hcz102_9 : w99.cell? ⟨gb101, 9, none⟩ = some (.string a0_9) := (blk_cell BK101.out 9).trans rfl; have hcz102_10 : w99.cell? ⟨gb101, 10, none⟩ = some (.bool a0_10) := (blk_cell BK101.out 10).trans rfl; have hcz102_11 : w99.cell? ⟨gb101, 11, none⟩ = some (.string a0_11) := (blk_cell BK101.out 11).trans rfl; have hcz102_12 : w99.cell? ⟨gb101, 12, none⟩ = some (.int .i64 a0_12) := (blk_cell BK101.out 12).trans rfl; have hfz102_0 := blk_frozen BK101.out 0; have hfz102_1 := blk_frozen BK101.out 1; have hfz102_2 := blk_frozen BK101.out 2; have hfz102_3 := blk_frozen BK101.out 3; have hfz102_4 := blk_frozen BK101.out 4; have hfz102_5 := blk_frozen BK101.out 5; have hfz102_6 := blk_frozen BK101.out 6; have hfz102_7 := blk_frozen BK101.out 7; have hfz102_8 := blk_frozen BK101.out 8; have hfz102_9 := blk_frozen BK101.out 9; have hfz102_10 := blk_frozen BK101.out 10; have hfz102_11 := blk_frozen BK101.out 11; have hfz102_12 := blk_frozen BK101.out 12))
                          go_ret
                          exact ⟨by first | rfl | (simp [errW_none, errW_some] <;> rfl) | (simp [*, errW_none, errW_some] <;> rfl), by repeat (first | (with_reducible first | exact HB.out | apply below_alloc | apply pw_below_drewN | apply below_drew1 | refine below_set ?_ GE101.out | refine below_set ?_ GE106.out) | exact HB.out)⟩
                        · rw [if_neg c98] at H
                          have c98b0 : (!a0_8 && (a0_9.toList == ([] : List UInt8))) = false := (by simpa using c98); have c98b9 : (!a0_8 && a0_9.toList.isEmpty) = false := (by rw [← beq_nil]; exact c98b0)
                          clear c98
                          obtain rfl := Option.some.inj H
                          go_wp2_with (first | ((with_reducible refine gate_dst (N := 3) rfl ?_); refine box_event ?hg (N := 3) ?hd (cs := #[.bool false, .string (⟨#[]⟩ : ByteArray)]) (t := 33) ?hr ?_; (case hd => rfl); (case hg => rfl); (case hr => first | (go_simp; done) | (go_simp; rfl)); intro gb106 hg w103 hbox hb; have n0_ := Aside0.mk (blk_below (g := gb101) (o := .cells #[.int .i64 a0_0, .int .i64 a0_1, .int .i64 a0_2, .int .i64 a0_3, .int .i64 a0_4, .int .i64 a0_5, .int .i64 a0_6, .int .i64 a0_7, .bool a0_8, .string a0_9, .bool a0_10, .string a0_11, .int .i64 a0_12] 65 (0, 0)) (by (with_reducible repeat (first | refine blk_drewN ?_ _ | refine blk_drew ?_ | refine blk_alloc ?_ _)); exact BK101.out) hb); have n1_ := Aside0.mk (below_step (by repeat (first | (with_reducible first | exact HB.out | apply below_alloc | apply pw_below_drewN | apply below_drew1 | refine below_set ?_ GE101.out) | exact HB.out)) hb); have n2_ := Aside0.mk (hbox); have n3_ := Aside0.mk ((by rw [hg]; exact (below_size (by repeat (first | (with_reducible first | exact HB.out | apply below_alloc | apply pw_below_drewN | apply below_drew1 | refine below_set ?_ GE101.out) | exact HB.out))) : w.heap.size ≤ gb106)); have n4_ := Aside0.mk ((by rw [hg]; exact (below_size (by repeat (first | (with_reducible first | exact HB.out | apply below_alloc | apply pw_below_drewN | apply below_drew1 | refine below_set ?_ GE101.out) | exact HB.out))) : w.heap.size ≤ gb106)); have n5_ := Aside0.mk ((by rw [hg]; exact Nat.ne_of_lt (blk_lt (g := gb101) (o := .cells #[.int .i64 a0_0, .int .i64 a0_1, .int .i64 a0_2, .int .i64 a0_3, .int .i64 a0_4, .int .i64 a0_5, .int .i64 a0_6, .int .i64 a0_7, .bool a0_8, .string a0_9, .bool a0_10, .string a0_11, .int .i64 a0_12] 65 (0, 0)) (by (with_reducible repeat (first | refine blk_drewN ?_ _ | refine blk_drew ?_ | refine blk_alloc ?_ _)); exact BK101.out)) : gb101 ≠ gb106)); have n6_ := Aside0.mk ((by rw [hg]; exact Nat.ne_of_gt (blk_lt (g := gb101) (o := .cells #[.int .i64 a0_0, .int .i64 a0_1, .int .i64 a0_2, .int .i64 a0_3, .int .i64 a0_4, .int .i64 a0_5, .int .i64 a0_6, .int .i64 a0_7, .bool a0_8, .string a0_9, .bool a0_10, .string a0_11, .int .i64 a0_12] 65 (0, 0)) (by (with_reducible repeat (first | refine blk_drewN ?_ _ | refine blk_drew ?_ | refine blk_alloc ?_ _)); exact BK101.out)) : gb106 ≠ gb101)); clear BK101; clear HB; have BK101 := n0_; have HB := n1_; have BK106 := n2_; have GW106 := n3_; have GE106 := n4_; have NB101_106 := n5_; have NB106_101 := n6_; clear n0_ n1_ n2_ n3_ n4_ n5_ n6_; clear hb hbox hg; have hnb104 := NB106_101.out; have hnc104 := NB101_106.out; have hcz105_0 : w103.cell? ⟨gb106, 0, none⟩ = some (.bool false) := (blk_cell BK106.out 0).trans rfl; have hcz105_1 : w103.cell? ⟨gb106, 1, none⟩ = some (.string (⟨#[]⟩ : ByteArray)) := (blk_cell BK106.out 1).trans rfl; have hfz105_0 := blk_frozen BK106.out 0; have hfz105_1 := blk_frozen BK106.out 1; have hcz106_0 : w103.cell? ⟨gb101, 0, none⟩ = some (.int .i64 a0_0) := (blk_cell BK101.out 0).trans rfl; have hcz106_1 : w103.cell? ⟨gb101, 1, none⟩ = some (.int .i64 a0_1) := (blk_cell BK101.out 1).trans rfl; have hcz106_2 : w103.cell? ⟨gb101, 2, none⟩ = some (.int .i64 a0_2) := (blk_cell BK101.out 2).trans rfl; have hcz106_3 : w103.cell? ⟨gb101, 3, none⟩ = some (.int .i64 a0_3) := (blk_cell BK101.out 3).trans rfl; have hcz106_4 : w103.cell? ⟨gb101, 4, none⟩ = some (.int .i64 a0_4) := (blk_cell BK101.out 4).trans rfl; have hcz106_5 : w103.cell? ⟨gb101, 5, none⟩ = some (.int .i64 a0_5) := (blk_cell BK101.out 5).trans rfl; have hcz106_6 : w103.cell? ⟨gb101, 6, none⟩ = some (.int .i64 a0_6) := (blk_cell BK101.out 6).trans rfl; have hcz106_7 : w103.cell? ⟨gb101, 7, none⟩ = some (.int .i64 a0_7) := (blk_cell BK101.out 7).trans rfl; have hcz106_8 : w103.cell? ⟨gb101, 8, none⟩ = some (.bool a0_8) := (blk_cell BK101.out 8).trans rfl; have hcz106_9 : w103.cell? ⟨gb101, 9, none⟩ = some (.string a0_9) := (blk_cell BK101.out 9).trans rfl; have hcz106_10 : w103.cell? ⟨gb101, 10, none⟩ = some (.bool a0_10) := (blk_cell BK101.out 10).trans rfl; have hcz106_11 : w103.cell? ⟨gb101, 11, none⟩ = some (.string a0_11) := (blk_cell BK101.out 11).trans rfl; have hcz106_12 : w103.cell? ⟨gb101, 12, none⟩ = some (.int .i64 a0_12) := (blk_cell BK101.out 12).trans rfl; have hfz106_0 := blk_frozen BK101.out 0; have hfz106_1 := blk_frozen BK101.out 1; have hfz106_2 := blk_frozen BK101.out 2; have hfz106_3 := blk_frozen BK101.out 3; have hfz106_4 := blk_frozen BK101.out 4; have hfz106_5 := blk_frozen BK101.out 5; have hfz106_6 := blk_frozen BK101.out 6; have hfz106_7 := blk_frozen BK101.out 7; have hfz106_8 := blk_frozen BK101.out 8; have hfz106_9 := blk_frozen BK101.out 9; have hfz106_10 := blk_frozen BK101.out 10; have hfz106_11 := blk_frozen BK101.out 11; have hfz106_12 := blk_frozen BK101.out 12))
                          go_ret
                          exact ⟨by first | rfl | (simp [errW_none, errW_some] <;> rfl) | (simp [*, errW_none, errW_some] <;> rfl), by repeat (first | (with_reducible first | exact HB.out | apply below_alloc | apply pw_below_drewN | apply below_drew1 | refine below_set ?_ GE101.out | refine below_set ?_ GE106.out) | exact HB.out)⟩
                      · rw [if_neg c97] at H
                        have c97b0 : (a0_12 == 0) = false := beq_eq_false_iff_ne.mpr c97
                        have c97b1 : (a0_12 != 0) = true := bne_iff_ne.mpr c97
                        obtain rfl := Option.some.inj H
                        go_wp2_with (first | ((with_reducible refine gate_dst (N := 3) rfl ?_); refine box_event ?hg (N := 3) ?hd (cs := #[.bool false, .string (⟨#[]⟩ : ByteArray)]) (t := 33) ?hr ?_; (case hd => rfl); (case hg => rfl); (case hr => first | (go_simp; done) | (go_simp; rfl)); intro gb106 hg w107 hbox hb; have n0_ := Aside0.mk (blk_below (g := gb101) (o := .cells #[.int .i64 a0_0, .int .i64 a0_1, .int .i64 a0_2, .int .i64 a0_3, .int .i64 a0_4, .int .i64 a0_5, .int .i64 a0_6, .int .i64 a0_7, .bool a0_8, .string a0_9, .bool a0_10, .string a0_11, .int .i64 a0_12] 65 (0, 0)) (by (with_reducible repeat (first | refine blk_drewN ?_ _ | refine blk_drew ?_ | refine blk_alloc ?_ _)); exact BK101.out) hb); have n1_ := Aside0.mk (below_step (by repeat (first | (with_reducible first | exact HB.out | apply below_alloc | apply pw_below_drewN | apply below_drew1 | refine below_set ?_ GE101.out) | exact HB.out)) hb); have n2_ := Aside0.mk (hbox); have n3_ := Aside0.mk ((by rw [hg]; exact (below_size (by repeat (first | (with_reducible first | exact HB.out | apply below_alloc | apply pw_below_drewN | apply below_drew1 | refine below_set ?_ GE101.out) | exact HB.out))) : w.heap.size ≤ gb106)); have n4_ := Aside0.mk ((by rw [hg]; exact (below_size (by repeat (first | (with_reducible first | exact HB.out | apply below_alloc | apply pw_below_drewN | apply below_drew1 | refine below_set ?_ GE101.out) | exact HB.out))) : w.heap.size ≤ gb106)); have n5_ := Aside0.mk ((by rw [hg]; exact Nat.ne_of_lt (blk_lt (g := gb101) (o := .cells #[.int .i64 a0_0, .int .i64 a0_1, .int .i64 a0_2, .int .i64 a0_3, .int .i64 a0_4, .int .i64 a0_5, .int .i64 a0_6, .int .i64 a0_7, .bool a0_8, .string a0_9, .bool a0_10, .string a0_11, .int .i64 a0_12] 65 (0, 0)) (by (with_reducible repeat (first | refine blk_drewN ?_ _ | refine blk_drew ?_ | refine blk_alloc ?_ _)); exact BK101.out)) : gb101 ≠ gb106)); have n6_ := Aside0.mk ((by rw [hg]; exact Nat.ne_of_gt (blk_lt (g := gb101) (o := .cells #[.int .i64 a0_0, .int .i64 a0_1, .int .i64 a0_2, .int .i64 a0_3, .int .i64 a0_4, .int .i64 a0_5, .int .i64 a0_6, .int .i64 a0_7, .bool a0_8, .string a0_9, .bool a0_10, .string a0_11, .int .i64 a0_12] 65 (0, 0)) (by (with_reducible repeat (first | refine blk_drewN ?_ _ | refine blk_drew ?_ | refine blk_alloc ?_ _)); exact BK101.out)) : gb106 ≠ gb101)); clear BK101; clear HB; have BK101 := n0_; have HB := n1_; have BK106 := n2_; have GW106 := n3_; have GE106 := n4_; have NB101_106 := n5_; have NB106_101 := n6_; clear n0_ n1_ n2_ n3_ n4_ n5_ n6_; clear hb hbox hg; have hnb108 := NB106_101.out; have hnc108 := NB101_106.out; have hcz109_0 : w107.cell? ⟨gb106, 0, none⟩ = some (.bool false) := (blk_cell BK106.out 0).trans rfl; have hcz109_1 : w107.cell? ⟨gb106, 1, none⟩ = some (.string (⟨#[]⟩ : ByteArray)) := (blk_cell BK106.out 1).trans rfl; have hfz109_0 := blk_frozen BK106.out 0; have hfz109_1 := blk_frozen BK106.out 1; have hcz110_0 : w107.cell? ⟨gb101, 0, none⟩ = some (.int .i64 a0_0) := (blk_cell BK101.out 0).trans rfl; have hcz110_1 : w107.cell? ⟨gb101, 1, none⟩ = some (.int .i64 a0_1) := (blk_cell BK101.out 1).trans rfl; have hcz110_2 : w107.cell? ⟨gb101, 2, none⟩ = some (.int .i64 a0_2) := (blk_cell BK101.out 2).trans rfl; have hcz110_3 : w107.cell? ⟨gb101, 3, none⟩ = some (.int .i64 a0_3) := (blk_cell BK101.out 3).trans rfl; have hcz110_4 : w107.cell? ⟨gb101, 4, none⟩ = some (.int .i64 a0_4) := (blk_cell BK101.out 4).trans rfl; have hcz110_5 : w107.cell? ⟨gb101, 5, none⟩ = some (.int .i64 a0_5) := (blk_cell BK101.out 5).trans rfl; have hcz110_6 : w107.cell? ⟨gb101, 6, none⟩ = some (.int .i64 a0_6) := (blk_cell BK101.out 6).trans rfl; have hcz110_7 : w107.cell? ⟨gb101, 7, none⟩ = some (.int .i64 a0_7) := (blk_cell BK101.out 7).trans rfl; have hcz110_8 : w107.cell? ⟨gb101, 8, none⟩ = some (.bool a0_8) := (blk_cell BK101.out 8).trans rfl; have hcz110_9 : w107.cell? ⟨gb101, 9, none⟩ = some (.string a0_9) := (blk_cell BK101.out 9).trans rfl; have hcz110_10 : w107.cell? ⟨gb101, 10, none⟩ = some (.bool a0_10) := (blk_cell BK101.out 10).trans rfl; have hcz110_11 : w107.cell? ⟨gb101, 11, none⟩ = some (.string a0_11) := (blk_cell BK101.out 11).trans rfl; have hcz110_12 : w107.cell? ⟨gb101, 12, none⟩ = some (.int .i64 a0_12) := (blk_cell BK101.out 12).trans rfl; have hfz110_0 := blk_frozen BK101.out 0; have hfz110_1 := blk_frozen BK101.out 1; have hfz110_2 := blk_frozen BK101.out 2; have hfz110_3 := blk_frozen BK101.out 3; have hfz110_4 := blk_frozen BK101.out 4; have hfz110_5 := blk_frozen BK101.out 5; have hfz110_6 := blk_frozen BK101.out 6; have hfz110_7 := blk_frozen BK101.out 7; have hfz110_8 := blk_frozen BK101.out 8; have hfz110_9 := blk_frozen BK101.out 9; have hfz110_10 := blk_frozen BK101.out 10; have hfz110_11 := blk_frozen BK101.out 11; have hfz110_12 := blk_frozen BK101.out 12))
                        go_ret
                        exact ⟨by first | rfl | (simp [errW_none, errW_some] <;> rfl) | (simp [*, errW_none, errW_some] <;> rfl), by repeat (first | (with_reducible first | exact HB.out | apply below_alloc | apply pw_below_drewN | apply below_drew1 | refine below_set ?_ GE101.out | refine below_set ?_ GE106.out) | exact HB.out)⟩
                    · rw [if_neg c96] at H
                      have c96b0 : (a0_7 == 0) = false := beq_eq_false_iff_ne.mpr c96
                      have c96b1 : (a0_7 != 0) = true := bne_iff_ne.mpr c96
                      obtain rfl := Option.some.inj H
                      go_wp2_with (first | ((with_reducible refine gate_dst (N := 3) rfl ?_); refine box_event ?hg (N := 3) ?hd (cs := #[.bool false, .string (⟨#[]⟩ : ByteArray)]) (t := 33) ?hr ?_; (case hd => rfl); (case hg => rfl); (case hr => first | (go_simp; done) | (go_simp; rfl)); intro gb106 hg w111 hbox hb; have n0_ := Aside0.mk (blk_below (g := gb101) (o := .cells #[.int .i64 a0_0, .int .i64 a0_1, .int .i64 a0_2, .int .i64 a0_3, .int .i64 a0_4, .int .i64 a0_5, .int .i64 a0_6, .int .i64 a0_7, .bool a0_8, .string a0_9, .bool a0_10, .string a0_11, .int .i64 a0_12] 65 (0, 0)) (by (with_reducible repeat (first | refine blk_drewN ?_ _ | refine blk_drew ?_ | refine blk_alloc ?_ _)); exact BK101.out) hb); have n1_ := Aside0.mk (below_step (by repeat (first | (with_reducible first | exact HB.out | apply below_alloc | apply pw_below_drewN | apply below_drew1 | refine below_set ?_ GE101.out) | exact HB.out)) hb); have n2_ := Aside0.mk (hbox); have n3_ := Aside0.mk ((by rw [hg]; exact (below_size (by repeat (first | (with_reducible first | exact HB.out | apply below_alloc | apply pw_below_drewN | apply below_drew1 | refine below_set ?_ GE101.out) | exact HB.out))) : w.heap.size ≤ gb106)); have n4_ := Aside0.mk ((by rw [hg]; exact (below_size (by repeat (first | (with_reducible first | exact HB.out | apply below_alloc | apply pw_below_drewN | apply below_drew1 | refine below_set ?_ GE101.out) | exact HB.out))) : w.heap.size ≤ gb106)); have n5_ := Aside0.mk ((by rw [hg]; exact Nat.ne_of_lt (blk_lt (g := gb101) (o := .cells #[.int .i64 a0_0, .int .i64 a0_1, .int .i64 a0_2, .int .i64 a0_3, .int .i64 a0_4, .int .i64 a0_5, .int .i64 a0_6, .int .i64 a0_7, .bool a0_8, .string a0_9, .bool a0_10, .string a0_11, .int .i64 a0_12] 65 (0, 0)) (by (with_reducible repeat (first | refine blk_drewN ?_ _ | refine blk_drew ?_ | refine blk_alloc ?_ _)); exact BK101.out)) : gb101 ≠ gb106)); have n6_ := Aside0.mk ((by rw [hg]; exact Nat.ne_of_gt (blk_lt (g := gb101) (o := .cells #[.int .i64 a0_0, .int .i64 a0_1, .int .i64 a0_2, .int .i64 a0_3, .int .i64 a0_4, .int .i64 a0_5, .int .i64 a0_6, .int .i64 a0_7, .bool a0_8, .string a0_9, .bool a0_10, .string a0_11, .int .i64 a0_12] 65 (0, 0)) (by (with_reducible repeat (first | refine blk_drewN ?_ _ | refine blk_drew ?_ | refine blk_alloc ?_ _)); exact BK101.out)) : gb106 ≠ gb101)); clear BK101; clear HB; have BK101 := n0_; have HB := n1_; have BK106 := n2_; have GW106 := n3_; have GE106 := n4_; have NB101_106 := n5_; have NB106_101 := n6_; clear n0_ n1_ n2_ n3_ n4_ n5_ n6_; clear hb hbox hg; have hnb112 := NB106_101.out; have hnc112 := NB101_106.out; have hcz113_0 : w111.cell? ⟨gb106, 0, none⟩ = some (.bool false) := (blk_cell BK106.out 0).trans rfl; have hcz113_1 : w111.cell? ⟨gb106, 1, none⟩ = some (.string (⟨#[]⟩ : ByteArray)) := (blk_cell BK106.out 1).trans rfl; have hfz113_0 := blk_frozen BK106.out 0; have hfz113_1 := blk_frozen BK106.out 1; have hcz114_0 : w111.cell? ⟨gb101, 0, none⟩ = some (.int .i64 a0_0) := (blk_cell BK101.out 0).trans rfl; have hcz114_1 : w111.cell? ⟨gb101, 1, none⟩ = some (.int .i64 a0_1) := (blk_cell BK101.out 1).trans rfl; have hcz114_2 : w111.cell? ⟨gb101, 2, none⟩ = some (.int .i64 a0_2) := (blk_cell BK101.out 2).trans rfl; have hcz114_3 : w111.cell? ⟨gb101, 3, none⟩ = some (.int .i64 a0_3) := (blk_cell BK101.out 3).trans rfl; have hcz114_4 : w111.cell? ⟨gb101, 4, none⟩ = some (.int .i64 a0_4) := (blk_cell BK101.out 4).trans rfl; have hcz114_5 : w111.cell? ⟨gb101, 5, none⟩ = some (.int .i64 a0_5) := (blk_cell BK101.out 5).trans rfl; have hcz114_6 : w111.cell? ⟨gb101, 6, none⟩ = some (.int .i64 a0_6) := (blk_cell BK101.out 6).trans rfl; have hcz114_7 : w111.cell? ⟨gb101, 7, none⟩ = some (.int .i64 a0_7) := (blk_cell BK101.out 7).trans rfl; have hcz114_8 : w111.cell? ⟨gb101, 8, none⟩ = some (.bool a0_8) := (blk_cell BK101.out 8).trans rfl; have hcz114_9 : w111.cell? ⟨gb101, 9, none⟩ = some (.string a0_9) := (blk_cell BK101.out 9).trans rfl; have hcz114_10 : w111.cell? ⟨gb101, 10, none⟩ = some (.bool a0_10) := (blk_cell BK101.out 10).trans rfl; have hcz114_11 : w111.cell? ⟨gb101, 11, none⟩ = some (.string a0_11) := (blk_cell BK101.out 11).trans rfl; have hcz114_12 : w111.cell? ⟨gb101, 12, none⟩ = some (.int .i64 a0_12) := (blk_cell BK101.out 12).trans rfl; have hfz114_0 := blk_frozen BK101.out 0; have hfz114_1 := blk_frozen BK101.out 1; have hfz114_2 := blk_frozen BK101.out 2; have hfz114_3 := blk_frozen BK101.out 3; have hfz114_4 := blk_frozen BK101.out 4; have hfz114_5 := blk_frozen BK101.out 5; have hfz114_6 := blk_frozen BK101.out 6; have hfz114_7 := blk_frozen BK101.out 7; have hfz114_8 := blk_frozen BK101.out 8; have hfz114_9 := blk_frozen BK101.out 9; have hfz114_10 := blk_frozen BK101.out 10; have hfz114_11 := blk_frozen BK101.out 11; have hfz114_12 := blk_frozen BK101.out 12))
                      go_ret
                      exact ⟨by first | rfl | (simp [errW_none, errW_some] <;> rfl) | (simp [*, errW_none, errW_some] <;> rfl), by repeat (first | (with_reducible first | exact HB.out | apply below_alloc | apply pw_below_drewN | apply below_drew1 | refine below_set ?_ GE101.out | refine below_set ?_ GE106.out) | exact HB.out)⟩
                  · rw [if_neg c95] at H
                    have c95b0 : (a0_6 == 0) = false := beq_eq_false_iff_ne.mpr c95
                    have c95b1 : (a0_6 != 0) = true := bne_iff_ne.mpr c95
                    obtain rfl := Option.some.inj H
                    go_wp2_with (first | ((with_reducible refine gate_dst (N := 3) rfl ?_); refine box_event ?hg (N := 3) ?hd (cs := #[.bool false, .string (⟨#[]⟩ : ByteArray)]) (t := 33) ?hr ?_; (case hd => rfl); (case hg => rfl); (case hr => first | (go_simp; done) | (go_simp; rfl)); intro gb106 hg w115 hbox hb; have n0_ := Aside0.mk (blk_below (g := gb101) (o := .cells #[.int .i64 a0_0, .int .i64 a0_1, .int .i64 a0_2, .int .i64 a0_3, .int .i64 a0_4, .int .i64 a0_5, .int .i64 a0_6, .int .i64 a0_7, .bool a0_8, .string a0_9, .bool a0_10, .string a0_11, .int .i64 a0_12] 65 (0, 0)) (by (with_reducible repeat (first | refine blk_drewN ?_ _ | refine blk_drew ?_ | refine blk_alloc ?_ _)); exact BK101.out) hb); have n1_ := Aside0.mk (below_step (by repeat (first | (with_reducible first | exact HB.out | apply below_alloc | apply pw_below_drewN | apply below_drew1 | refine below_set ?_ GE101.out) | exact HB.out)) hb); have n2_ := Aside0.mk (hbox); have n3_ := Aside0.mk ((by rw [hg]; exact (below_size (by repeat (first | (with_reducible first | exact HB.out | apply below_alloc | apply pw_below_drewN | apply below_drew1 | refine below_set ?_ GE101.out) | exact HB.out))) : w.heap.size ≤ gb106)); have n4_ := Aside0.mk ((by rw [hg]; exact (below_size (by repeat (first | (with_reducible first | exact HB.out | apply below_alloc | apply pw_below_drewN | apply below_drew1 | refine below_set ?_ GE101.out) | exact HB.out))) : w.heap.size ≤ gb106)); have n5_ := Aside0.mk ((by rw [hg]; exact Nat.ne_of_lt (blk_lt (g := gb101) (o := .cells #[.int .i64 a0_0, .int .i64 a0_1, .int .i64 a0_2, .int .i64 a0_3, .int .i64 a0_4, .int .i64 a0_5, .int .i64 a0_6, .int .i64 a0_7, .bool a0_8, .string a0_9, .bool a0_10, .string a0_11, .int .i64 a0_12] 65 (0, 0)) (by (with_reducible repeat (first | refine blk_drewN ?_ _ | refine blk_drew ?_ | refine blk_alloc ?_ _)); exact BK101.out)) : gb101 ≠ gb106)); have n6_ := Aside0.mk ((by rw [hg]; exact Nat.ne_of_gt (blk_lt (g := gb101) (o := .cells #[.int .i64 a0_0, .int .i64 a0_1, .int .i64 a0_2, .int .i64 a0_3, .int .i64 a0_4, .int .i64 a0_5, .int .i64 a0_6, .int .i64 a0_7, .bool a0_8, .string a0_9, .bool a0_10, .string a0_11, .int .i64 a0_12] 65 (0, 0)) (by (with_reducible repeat (first | refine blk_drewN ?_ _ | refine blk_drew ?_ | refine blk_alloc ?_ _)); exact BK101.out)) : gb106 ≠ gb101)); clear BK101; clear HB; have BK101 := n0_; have HB := n1_; have BK106 := n2_; have GW106 := n3_; have GE106 := n4_; have NB101_106 := n5_; have NB106_101 := n6_; clear n0_ n1_ n2_ n3_ n4_ n5_ n6_; clear hb hbox hg; have hnb116 := NB106_101.out; have hnc116 := NB101_106.out; have hcz117_0 : w115.cell? ⟨gb106, 0, none⟩ = some (.bool false) := (blk_cell BK106.out 0).trans rfl; have hcz117_1 : w115.cell? ⟨gb106, 1, none⟩ = some (.string (⟨#[]⟩ : ByteArray)) := (blk_cell BK106.out 1).trans rfl; have hfz117_0 := blk_frozen BK106.out 0; have hfz117_1 := blk_frozen BK106.out 1; have hcz118_0 : w115.cell? ⟨gb101, 0, none⟩ = some (.int .i64 a0_0) := (blk_cell BK101.out 0).trans rfl; have hcz118_1 : w115.cell? ⟨gb101, 1, none⟩ = some (.int .i64 a0_1) := (blk_cell BK101.out 1).trans rfl; have hcz118_2 : w115.cell? ⟨gb101, 2, none⟩ = some (.int .i64 a0_2) := (blk_cell BK101.out 2).trans rfl; have hcz118_3 : w115.cell? ⟨gb101, 3, none⟩ = some (.int .i64 a0_3) := (blk_cell BK101.out 3).trans rfl; have hcz118_4 : w115.cell? ⟨gb101, 4, none⟩ = some (.int .i64 a0_4) := (blk_cell BK101.out 4).trans rfl; have hcz118_5 : w115.cell? ⟨gb101, 5, none⟩ = some (.int .i64 a0_5) := (blk_cell BK101.out 5).trans rfl; have hcz118_6 : w115.cell? ⟨gb101, 6, none⟩ = some (.int .i64 a0_6) := (blk_cell BK101.out 6).trans rfl; have hcz118_7 : w115.cell? ⟨gb101, 7, none⟩ = some (.int .i64 a0_7) := (blk_cell BK101.out 7).trans rfl; have hcz118_8 : w115.cell? ⟨gb101, 8, none⟩ = some (.bool a0_8) := (blk_cell BK101.out 8).trans rfl; have hcz118_9 : w115.cell? ⟨gb101, 9, none⟩ = some (.string a0_9) := (blk_cell BK101.out 9).trans rfl; have hcz118_10 : w115.cell? ⟨gb101, 10, none⟩ = some (.bool a0_10) := (blk_cell BK101.out 10).trans rfl; have hcz118_11 : w115.cell? ⟨gb101, 11, none⟩ = some (.string a0_11) := (blk_cell BK101.out 11).trans rfl; have hcz118_12 : w115.cell? ⟨gb101, 12, none⟩ = some (.int .i64 a0_12) := (blk_cell BK101.out 12).trans rfl; have hfz118_0 := blk_frozen BK101.out 0; have hfz118_1 := blk_frozen BK101.out 1; have hfz118_2 := blk_frozen BK101.out 2; have hfz118_3 := blk_frozen BK101.out 3; have hfz118_4 := blk_frozen BK101.out 4; have hfz118_5 := blk_frozen BK101.out 5; have hfz118_6 := blk_frozen BK101.out 6; have hfz118_7 := blk_frozen BK101.out 7; have hfz118_8 := blk_frozen BK101.out 8; have hfz118_9 := blk_frozen BK101.out 9; have hfz118_10 := blk_frozen BK101.out 10; have hfz118_11 := blk_frozen BK101.out 11; have hfz118_12 := blk_frozen BK101.out 12))
                    go_ret
                    exact ⟨by first | rfl | (simp [errW_none, errW_some] <;> rfl) | (simp [*, errW_none, errW_some] <;> rfl), by repeat (first | (with_reducible first | exact HB.out | apply below_alloc | apply pw_below_drewN | apply below_drew1 | refine below_set ?_ GE101.out | refine below_set ?_ GE106.out) | exact HB.out)⟩
                · rw [if_neg c94] at H
                  have c94b0 : (a0_0 == 4) = false := beq_eq_false_iff_ne.mpr c94
                  have c94b1 : (a0_0 != 4) = true := bne_iff_ne.mpr c94
                  obtain rfl := Option.some.inj H
                  go_wp2
                  go_ret
                  exact ⟨by first | rfl | (simp [errW_none, errW_some] <;> rfl) | (simp [*, errW_none, errW_some] <;> rfl), by repeat (first | (with_reducible first | exact HB.out | apply below_alloc | apply pw_below_drewN | apply below_drew1 | refine below_set ?_ GE101.out) | exact HB.out)⟩
end Go.Proofs.Ytfjmnaobfbmllaa.M
namespace Go.Proofs.Ytfjmnaobfbmllaa.M
open Go.RowKit Go.Proofs.YtfjmnaobfbmllaaW.PrintWords Go.Proofs.YtfjmnaobfbmllaaW.PrintLast Go.Proofs.YtfjmnaobfbmllaaW.PrintMore
set_option linter.unusedVariables false
set_option linter.unusedSimpArgs false
theorem rslot_eq (u : Bool) (d : ByteArray) : seneschalref04_slot.f u d = some (decide (oddS ⟨u, d⟩ = false)) := by
  rw [← isSlot_eq]; rfl
theorem rkind3 (k prev p s : Int) (u : Bool) (d : ByteArray) (u2 : Bool) (d2 : ByteArray) (next : Int) (h1 : ¬ k = 1) (h2 : ¬ k = 2) (h3 : k = 3 ∨ k = 4) :
    (if p = 0 then (if s = 0 then (if next = 0 then (if (!u && (d.toList == ([] : List UInt8))) = true then (some (!u2 && (d2.toList == ([] : List UInt8)))) else (some false)) else (some false)) else (some false)) else (some false))
      = some (decide (KindE k prev p s ⟨u, d⟩ ⟨u2, d2⟩ next)) := by
  by_cases a1 : p = 0
  · rw [if_pos a1]
    by_cases a2 : s = 0
    · rw [if_pos a2]
      by_cases a3 : next = 0
      · rw [if_pos a3]
        by_cases a4 : (!u && (d.toList == ([] : List UInt8))) = true
        · rw [if_pos a4]; congr 1; rw [Bool.eq_iff_iff]
          have a5 : u = false ∧ d = ⟨#[]⟩ := by simpa [ba_nil] using a4
          simp [KindE, h1, h2, h3, a1, a2, a3, s33_ext, z33, ba_nil, a5.1, a5.2]
        · rw [if_neg a4]; congr 1
          refine (decide_eq_false (fun h => a4 ?_)).symm
          rcases h with h | h | h
          · exact absurd h.1 h1
          · exact absurd h.1 h2
          · have := h.2.2.2.2.1
            rw [s33_ext] at this
            simp [z33] at this
            simp [this.1, this.2, ba_nil]
      · rw [if_neg a3]; congr 1; exact (decide_eq_false (by rintro (h | h | h); exact h1 h.1; exact h2 h.1; exact a3 h.2.2.2.1)).symm
    · rw [if_neg a2]; congr 1; exact (decide_eq_false (by rintro (h | h | h); exact h1 h.1; exact h2 h.1; exact a2 h.2.2.1)).symm
  · rw [if_neg a1]; congr 1; exact (decide_eq_false (by rintro (h | h | h); exact h1 h.1; exact h2 h.1; exact a1 h.2.1)).symm
theorem rgood_chg (q : Nat) (k c e n lsn prev p s : Int) (u : Bool) (d : ByteArray) (u2 : Bool) (d2 : ByteArray) (next : Int) (hk : k = 1 ∨ k = 2) (hp : 0 ≤ prev) :
    seneschalref04_Good.j1 (q + 1) k true k c e n lsn prev p s u d u2 d2 next = some (decide (KindE k prev p s ⟨u, d⟩ ⟨u2, d2⟩ next)) := by
  have hbad : ¬ Chg p s ⟨u, d⟩ ⟨u2, d2⟩ → some false = some (decide (KindE k prev p s ⟨u, d⟩ ⟨u2, d2⟩ next)) := fun hn => by
    congr 1; exact (decide_eq_false (by rintro (h | h | h); exact hn h.2.1; exact hn h.2.1; omega)).symm
  simp only [seneschalref04_Good.j1]
  rw [if_pos trivial]
  by_cases a1 : p < 0
  · rw [if_pos a1]; exact hbad (fun h => by have := h.1; omega)
  rw [if_neg a1]
  by_cases a2 : p > 1023
  · rw [if_pos a2]; exact hbad (fun h => by have := h.1; omega)
  rw [if_neg a2]
  by_cases a3 : s < 0
  · rw [if_pos a3]; exact hbad (fun h => by have := h.2.1; omega)
  rw [if_neg a3]
  by_cases a4 : s > 31
  · rw [if_pos a4]; exact hbad (fun h => by have := h.2.1; omega)
  rw [if_neg a4, rslot_eq, Option.bind_some]
  by_cases a5 : oddS ⟨u, d⟩ = false
  · rw [decide_eq_true a5, if_pos rfl, rslot_eq, Option.bind_some]
    by_cases a6 : oddS ⟨u2, d2⟩ = false
    · have hc : Chg p s ⟨u, d⟩ ⟨u2, d2⟩ := ⟨by omega, by omega, a5, a6⟩
      rw [decide_eq_true a6, if_pos rfl]
      by_cases a7 : next = 0
      · rw [if_pos a7]; congr 1
        refine (decide_eq_true ?_).symm
        rcases hk with hk | hk
        · exact .inl ⟨hk, hc, a7⟩
        · exact .inr (.inl ⟨hk, hc, by omega, by omega⟩)
      · rw [if_neg a7]
        by_cases a8 : k = 2
        · rw [if_pos a8]
          by_cases a9 : next > 0
          · rw [if_pos a9]; congr 1
            exact decide_eq_decide.mpr ⟨fun h => .inr (.inl ⟨a8, hc, by omega, h⟩), fun h => by
              rcases h with h | h | h
              · omega
              · exact h.2.2.2
              · omega⟩
          · rw [if_neg a9]; congr 1
            exact (decide_eq_false (by rintro (h | h | h) <;> omega)).symm
        · rw [if_neg a8]; congr 1
          exact (decide_eq_false (by rintro (h | h | h) <;> omega)).symm
    · rw [decide_eq_false a6, if_neg Bool.false_ne_true]; exact hbad (fun h => a6 h.2.2.2)
  · rw [decide_eq_false a5, if_neg Bool.false_ne_true]; exact hbad (fun h => a5 h.2.2.1)
theorem rgood_j0 (q : Nat) (k c e n lsn prev p s : Int) (u : Bool) (d : ByteArray) (u2 : Bool) (d2 : ByteArray) (next : Int) (hp : 0 ≤ prev) :
    seneschalref04_Good.j0 (q + 2) false k c e n lsn prev p s u d u2 d2 next = some (decide (KindE k prev p s ⟨u, d⟩ ⟨u2, d2⟩ next)) := by
  have hoth : ¬ k = 1 → ¬ k = 2 → seneschalref04_Good.j1 (q + 1) k false k c e n lsn prev p s u d u2 d2 next = some (decide (KindE k prev p s ⟨u, d⟩ ⟨u2, d2⟩ next)) := by
    intro h1 h2
    simp only [seneschalref04_Good.j1]
    rw [if_neg Bool.false_ne_true]
    by_cases h3 : k = 3
    · rw [if_pos h3]; exact rkind3 k prev p s u d u2 d2 next h1 h2 (.inl h3)
    · rw [if_neg h3]
      by_cases h4 : k = 4
      · rw [if_pos h4]; exact rkind3 k prev p s u d u2 d2 next h1 h2 (.inr h4)
      · rw [if_neg h4]; congr 1; exact (decide_eq_false (by unfold KindE; omega)).symm
  simp only [seneschalref04_Good.j0]
  rw [if_neg Bool.false_ne_true]
  by_cases h1 : k = 1
  · rw [if_pos h1, show (k == 1) = true by simp [h1]]
    exact rgood_chg q k c e n lsn prev p s u d u2 d2 next (.inl h1) hp
  · rw [if_neg h1]
    by_cases h2 : k = 2
    · rw [show (k == 2) = true by simp [h2]]
      exact rgood_chg q k c e n lsn prev p s u d u2 d2 next (.inr h2) hp
    · rw [show (k == 2) = false by simp [h2]]
      exact hoth h1 h2
theorem rgoodE_pure (k c e n lsn prev p s : Int) (u : Bool) (d : ByteArray) (u2 : Bool) (d2 : ByteArray) (next : Int) :
    seneschalref04_Good.f 2 k c e n lsn prev p s u d u2 d2 next = some (decide (GoodE (mkE k c e n lsn prev p s u d u2 d2 next))) := by
  have hbad : seneschalref04_Good.j0 2 true k c e n lsn prev p s u d u2 d2 next = some false := by simp only [seneschalref04_Good.j0]; exact if_pos trivial
  have hno : ¬ GoodE (mkE k c e n lsn prev p s u d u2 d2 next) → some false = some (decide (GoodE (mkE k c e n lsn prev p s u d u2 d2 next))) := fun h => by rw [decide_eq_false h]
  unfold seneschalref04_Good.f
  rw [show refKnown4.f c e n = some (decide (KnownP c e n)) from rfl, Option.bind_some]
  by_cases h1 : KnownP c e n
  · rw [decide_eq_true h1, if_pos rfl]
    by_cases a1 : lsn < 1
    · rw [if_pos a1, hbad]; exact hno (fun h => by have h5 : 1 ≤ lsn ∧ lsn ≤ 1099511627776 := h.2.1; omega)
    rw [if_neg a1]
    by_cases a2 : lsn > 1099511627776
    · rw [if_pos a2, hbad]; exact hno (fun h => by have h5 : 1 ≤ lsn ∧ lsn ≤ 1099511627776 := h.2.1; omega)
    rw [if_neg a2]
    by_cases a3 : prev < 0
    · rw [if_pos a3, hbad]; exact hno (fun h => by have h5 : 0 ≤ prev ∧ prev < lsn := h.2.2.1; omega)
    rw [if_neg a3]
    by_cases a4 : prev ≥ lsn
    · rw [decide_eq_true a4, hbad]; exact hno (fun h => by have h5 : 0 ≤ prev ∧ prev < lsn := h.2.2.1; omega)
    · rw [decide_eq_false a4, rgood_j0 0 k c e n lsn prev p s u d u2 d2 next (by omega)]
      congr 1
      exact decide_eq_decide.mpr ⟨fun h => ⟨h1, ⟨by show 1 ≤ lsn; omega, by show lsn ≤ 1099511627776; omega⟩, ⟨by show 0 ≤ prev; omega, by show prev < lsn; omega⟩, h⟩, fun h => h.2.2.2⟩
  · rw [decide_eq_false h1, if_neg Bool.false_ne_true, hbad]; exact hno (fun h => h1 h.1)
def refGood4.f (k c e n lsn prev p s : Int) (u : Bool) (d : ByteArray) (u2 : Bool) (d2 : ByteArray) (next : Int) : Option Bool := some (decide (GoodE (mkE k c e n lsn prev p s u d u2 d2 next)))
theorem refGood4.calls (k c e n lsn prev p s : Int) (u : Bool) (d : ByteArray) (u2 : Bool) (d2 : ByteArray) (next : Int) (r : Bool) (w : World) (h : refGood4.f k c e n lsn prev p s u d u2 d2 next = some r) :
    Calls Try.prog 56 #[.agg #[.int .i64 k, .int .i64 c, .int .i64 e, .int .i64 n, .int .i64 lsn, .int .i64 prev, .int .i64 p, .int .i64 s, .bool u, .string d, .bool u2, .string d2, .int .i64 next]] w fun e w' => e = .returned (.bool r) ∧ Below w.heap.size w w' :=
  seneschalref04_Good.calls 2 k c e n lsn prev p s u d u2 d2 next r w (by rw [rgoodE_pure]; exact h)
end Go.Proofs.Ytfjmnaobfbmllaa.M
namespace Go.Proofs.Ytfjmnaobfbmllaa.M
open Go.RowKit Go.Proofs.YtfjmnaobfbmllaaW.PrintWords Go.Proofs.YtfjmnaobfbmllaaW.PrintLast Go.Proofs.YtfjmnaobfbmllaaW.PrintMore
set_option linter.unusedVariables false
set_option linter.unusedSimpArgs false
def fieldPs (g : Nat) : Array Value := #[.pointer (some ⟨g, 0, none⟩), .pointer (some ⟨g, 1, none⟩), .pointer (some ⟨g, 2, none⟩), .pointer (some ⟨g, 3, none⟩), .pointer (some ⟨g, 4, none⟩), .pointer (some ⟨g, 5, none⟩), .pointer (some ⟨g, 6, none⟩), .pointer (some ⟨g, 7, none⟩), .pointer (some ⟨g, 12, none⟩)]
set_option maxHeartbeats 8000000 in
set_option maxRecDepth 100000 in
theorem entry_fields.calls (g : Nat) (k : Int) (r : Array Value) (w : World) (hb : w.heap[g]? = some (.cells r 65 (0, 0))) (h0 : w.cell? ⟨g, 0, none⟩ = some (.int .i64 k)) :
    Calls Try.prog 97 #[.pointer (some ⟨g, 0, none⟩)] w fun e w' => ∃ h : Nat, e = .returned (.slice (some ⟨h, 0, none⟩) (if k = 1 ∨ k = 2 then 9 else 6) 9) ∧ w'.heap[h]? = some (.cells (fieldPs g) 119 (0, 0)) ∧ w.heap.size ≤ h ∧ Below w.heap.size w w' := by
  have hu65 := Try.underlying65
  have hu52 := Try.underlying52
  have hu116 := Try.underlying116
  have HBK := Aside0.mk hb
  have HC0 := Aside0.mk h0
  have HB := Aside0.mk (Below.refl w.heap.size w)
  clear hb h0
  go_enter Try.func97, Try.ntmps97
  go_wp2
  refine start_ (n := 32) (S := fun _ => True) (ds := []) #[false, false, false, false, false, false, false, false, false, false, false, false, false, false, false, false, false, false, false, false, false, false, false, false, false, false, false, false, false, false, false, false] (by kernel_rfl) rfl rfl trivial (fun hHeld => ?_)
  have n0_ := Aside0.mk (blk_drew HBK.out)
  have n1_ := Aside0.mk (below_drew1 HB.out)
  have n2_ : Aside0 (w.drew.cell? ⟨g, 0, none⟩ = some (.int .i64 k)) := ⟨HC0.out⟩
  clear HBK HB HC0
  have HBK := n0_
  have HB := n1_
  have HC0 := n2_
  clear n0_ n1_ n2_
  generalize w.drew = w1 at HBK HB HC0 hHeld ⊢
  refine pure_ (i := 0) (N := some 4) (v := ?_) (a' := ?_) #[true, false, false, false, false, false, false, false, false, false, false, false, false, false, false, false, false, false, false, false, false, false, false, false, false, false, false, false, false, false, false, false] rfl rfl (by kernel_rfl) (fun _ _ _ h => h) (Or.inl ⟨by rfl, ?_⟩) ?_ ?_
  rotate_left
  · intro w'
    go_simp
    with_reducible rfl
  rotate_left
  · simp only [Act.put, List.setIfInBounds_toArray, List.set_cons_zero, List.set_cons_succ]
    rfl
  refine pure_ (i := 1) (N := some 5) (v := ?_) (a' := ?_) #[true, true, false, false, false, false, false, false, false, false, false, false, false, false, false, false, false, false, false, false, false, false, false, false, false, false, false, false, false, false, false, false] rfl rfl (by kernel_rfl) (fun _ _ _ h => h) (Or.inl ⟨by rfl, ?_⟩) ?_ ?_
  rotate_left
  · intro w'
    go_simp
    with_reducible rfl
  rotate_left
  · simp only [Act.put, List.setIfInBounds_toArray, List.set_cons_zero, List.set_cons_succ]
    rfl
  refine pure_ (i := 2) (N := some 6) (v := ?_) (a' := ?_) #[true, true, true, false, false, false, false, false, false, false, false, false, false, false, false, false, false, false, false, false, false, false, false, false, false, false, false, false, false, false, false, false] rfl rfl (by kernel_rfl) (fun _ _ _ h => h) (Or.inl ⟨by rfl, ?_⟩) ?_ ?_
  rotate_left
  · intro w'
    go_simp
    with_reducible rfl
  rotate_left
  · simp only [Act.put, List.setIfInBounds_toArray, List.set_cons_zero, List.set_cons_succ]
    rfl
  refine pure_ (i := 3) (N := some 7) (v := ?_) (a' := ?_) #[true, true, true, true, false, false, false, false, false, false, false, false, false, false, false, false, false, false, false, false, false, false, false, false, false, false, false, false, false, false, false, false] rfl rfl (by kernel_rfl) (fun _ _ _ h => h) (Or.inl ⟨by rfl, ?_⟩) ?_ ?_
  rotate_left
  · intro w'
    go_simp
    with_reducible rfl
  rotate_left
  · simp only [Act.put, List.setIfInBounds_toArray, List.set_cons_zero, List.set_cons_succ]
    rfl
  refine pure_ (i := 4) (N := some 8) (v := ?_) (a' := ?_) #[true, true, true, true, true, false, false, false, false, false, false, false, false, false, false, false, false, false, false, false, false, false, false, false, false, false, false, false, false, false, false, false] rfl rfl (by kernel_rfl) (fun _ _ _ h => h) (Or.inl ⟨by rfl, ?_⟩) ?_ ?_
  rotate_left
  · intro w'
    go_simp
    with_reducible rfl
  rotate_left
  · simp only [Act.put, List.setIfInBounds_toArray, List.set_cons_zero, List.set_cons_succ]
    rfl
  refine pure_ (i := 5) (N := some 9) (v := ?_) (a' := ?_) #[true, true, true, true, true, true, false, false, false, false, false, false, false, false, false, false, false, false, false, false, false, false, false, false, false, false, false, false, false, false, false, false] rfl rfl (by kernel_rfl) (fun _ _ _ h => h) (Or.inl ⟨by rfl, ?_⟩) ?_ ?_
  rotate_left
  · intro w'
    go_simp
    with_reducible rfl
  rotate_left
  · simp only [Act.put, List.setIfInBounds_toArray, List.set_cons_zero, List.set_cons_succ]
    rfl
  refine pure_ (i := 6) (N := some 10) (v := ?_) (a' := ?_) #[true, true, true, true, true, true, true, false, false, false, false, false, false, false, false, false, false, false, false, false, false, false, false, false, false, false, false, false, false, false, false, false] rfl rfl (by kernel_rfl) (fun _ _ _ h => h) (Or.inl ⟨by rfl, ?_⟩) ?_ ?_
  rotate_left
  · intro w'
    go_simp
    with_reducible rfl
  rotate_left
  · simp only [Act.put, List.setIfInBounds_toArray, List.set_cons_zero, List.set_cons_succ]
    rfl
  refine pure_ (i := 7) (N := some 11) (v := ?_) (a' := ?_) #[true, true, true, true, true, true, true, true, false, false, false, false, false, false, false, false, false, false, false, false, false, false, false, false, false, false, false, false, false, false, false, false] rfl rfl (by kernel_rfl) (fun _ _ _ h => h) (Or.inl ⟨by rfl, ?_⟩) ?_ ?_
  rotate_left
  · intro w'
    go_simp
    with_reducible rfl
  rotate_left
  · simp only [Act.put, List.setIfInBounds_toArray, List.set_cons_zero, List.set_cons_succ]
    rfl
  refine pure_ (i := 8) (N := some 12) (v := ?_) (a' := ?_) #[true, true, true, true, true, true, true, true, true, false, false, false, false, false, false, false, false, false, false, false, false, false, false, false, false, false, false, false, false, false, false, false] rfl rfl (by kernel_rfl) (fun _ _ _ h => h) (Or.inl ⟨by rfl, ?_⟩) ?_ ?_
  rotate_left
  · intro w'
    go_simp
    with_reducible rfl
  rotate_left
  · simp only [Act.put, List.setIfInBounds_toArray, List.set_cons_zero, List.set_cons_succ]
    rfl
  refine pure_ (i := 9) (N := some 13) (v := ?_) (a' := ?_) #[true, true, true, true, true, true, true, true, true, true, false, false, false, false, false, false, false, false, false, false, false, false, false, false, false, false, false, false, false, false, false, false] rfl rfl (by kernel_rfl) (fun _ _ _ h => h) (Or.inl ⟨by rfl, ?_⟩) ?_ ?_
  rotate_left
  · intro w'
    go_simp
    with_reducible rfl
  rotate_left
  · simp only [Act.put, List.setIfInBounds_toArray, List.set_cons_zero, List.set_cons_succ]
    rfl
  refine pure_ (i := 10) (N := some 14) (v := ?_) (a' := ?_) #[true, true, true, true, true, true, true, true, true, true, true, false, false, false, false, false, false, false, false, false, false, false, false, false, false, false, false, false, false, false, false, false] rfl rfl (by kernel_rfl) (fun _ _ _ h => h) (Or.inl ⟨by rfl, ?_⟩) ?_ ?_
  rotate_left
  · intro w'
    go_simp
    with_reducible rfl
  rotate_left
  · simp only [Act.put, List.setIfInBounds_toArray, List.set_cons_zero, List.set_cons_succ]
    rfl
  refine pure_ (i := 11) (N := some 15) (v := ?_) (a' := ?_) #[true, true, true, true, true, true, true, true, true, true, true, true, false, false, false, false, false, false, false, false, false, false, false, false, false, false, false, false, false, false, false, false] rfl rfl (by kernel_rfl) (fun _ _ _ h => h) (Or.inl ⟨by rfl, ?_⟩) ?_ ?_
  rotate_left
  · intro w'
    go_simp
    with_reducible rfl
  rotate_left
  · simp only [Act.put, List.setIfInBounds_toArray, List.set_cons_zero, List.set_cons_succ]
    rfl
  refine pure_ (i := 12) (N := some 16) (v := ?_) (a' := ?_) #[true, true, true, true, true, true, true, true, true, true, true, true, true, false, false, false, false, false, false, false, false, false, false, false, false, false, false, false, false, false, false, false] rfl rfl (by kernel_rfl) (fun _ _ _ h => h) (Or.inl ⟨by rfl, ?_⟩) ?_ ?_
  rotate_left
  · intro w'
    go_simp
    with_reducible rfl
  rotate_left
  · simp only [Act.put, List.setIfInBounds_toArray, List.set_cons_zero, List.set_cons_succ]
    rfl
  refine pure_ (i := 13) (N := some 17) (v := ?_) (a' := ?_) #[true, true, true, true, true, true, true, true, true, true, true, true, true, true, false, false, false, false, false, false, false, false, false, false, false, false, false, false, false, false, false, false] rfl rfl (by kernel_rfl) (fun _ _ _ h => h) (Or.inl ⟨by rfl, ?_⟩) ?_ ?_
  rotate_left
  · intro w'
    go_simp
    with_reducible rfl
  rotate_left
  · simp only [Act.put, List.setIfInBounds_toArray, List.set_cons_zero, List.set_cons_succ]
    rfl
  refine pure_ (i := 14) (N := some 18) (v := ?_) (a' := ?_) #[true, true, true, true, true, true, true, true, true, true, true, true, true, true, true, false, false, false, false, false, false, false, false, false, false, false, false, false, false, false, false, false] rfl rfl (by kernel_rfl) (fun _ _ _ h => h) (Or.inl ⟨by rfl, ?_⟩) ?_ ?_
  rotate_left
  · intro w'
    go_simp
    with_reducible rfl
  rotate_left
  · simp only [Act.put, List.setIfInBounds_toArray, List.set_cons_zero, List.set_cons_succ]
    rfl
  refine pure_ (i := 15) (N := some 19) (v := ?_) (a' := ?_) #[true, true, true, true, true, true, true, true, true, true, true, true, true, true, true, true, false, false, false, false, false, false, false, false, false, false, false, false, false, false, false, false] rfl rfl (by kernel_rfl) (fun _ _ _ h => h) (Or.inl ⟨by rfl, ?_⟩) ?_ ?_
  rotate_left
  · intro w'
    go_simp
    with_reducible rfl
  rotate_left
  · simp only [Act.put, List.setIfInBounds_toArray, List.set_cons_zero, List.set_cons_succ]
    rfl
  refine pure_ (i := 16) (N := some 20) (v := ?_) (a' := ?_) #[true, true, true, true, true, true, true, true, true, true, true, true, true, true, true, true, true, false, false, false, false, false, false, false, false, false, false, false, false, false, false, false] rfl rfl (by kernel_rfl) (fun _ _ _ h => h) (Or.inl ⟨by rfl, ?_⟩) ?_ ?_
  rotate_left
  · intro w'
    go_simp
    with_reducible rfl
  rotate_left
  · simp only [Act.put, List.setIfInBounds_toArray, List.set_cons_zero, List.set_cons_succ]
    rfl
  refine pure_ (i := 17) (N := some 21) (v := ?_) (a' := ?_) #[true, true, true, true, true, true, true, true, true, true, true, true, true, true, true, true, true, true, false, false, false, false, false, false, false, false, false, false, false, false, false, false] rfl rfl (by kernel_rfl) (fun _ _ _ h => h) (Or.inl ⟨by rfl, ?_⟩) ?_ ?_
  rotate_left
  · intro w'
    go_simp
    with_reducible rfl
  rotate_left
  · simp only [Act.put, List.setIfInBounds_toArray, List.set_cons_zero, List.set_cons_succ]
    rfl
  refine pure_ (i := 18) (N := some 22) (v := ?_) (a' := ?_) #[true, true, true, true, true, true, true, true, true, true, true, true, true, true, true, true, true, true, true, false, false, false, false, false, false, false, false, false, false, false, false, false] rfl rfl (by kernel_rfl) (fun _ _ _ h => h) (Or.inl ⟨by rfl, ?_⟩) ?_ ?_
  rotate_left
  · intro w'
    go_simp
    with_reducible rfl
  rotate_left
  · simp only [Act.put, List.setIfInBounds_toArray, List.set_cons_zero, List.set_cons_succ]
    rfl
  refine pure_ (i := 19) (N := some 23) (v := ?_) (a' := ?_) #[true, true, true, true, true, true, true, true, true, true, true, true, true, true, true, true, true, true, true, true, false, false, false, false, false, false, false, false, false, false, false, false] rfl rfl (by kernel_rfl) (fun _ _ _ h => h) (Or.inl ⟨by rfl, ?_⟩) ?_ ?_
  rotate_left
  · intro w'
    go_simp
    with_reducible rfl
  rotate_left
  · simp only [Act.put, List.setIfInBounds_toArray, List.set_cons_zero, List.set_cons_succ]
    rfl
  refine pure_ (i := 20) (N := some 24) (v := ?_) (a' := ?_) #[true, true, true, true, true, true, true, true, true, true, true, true, true, true, true, true, true, true, true, true, true, false, false, false, false, false, false, false, false, false, false, false] rfl rfl (by kernel_rfl) (fun _ _ _ h => h) (Or.inl ⟨by rfl, ?_⟩) ?_ ?_
  rotate_left
  · intro w'
    go_simp
    with_reducible rfl
  rotate_left
  · simp only [Act.put, List.setIfInBounds_toArray, List.set_cons_zero, List.set_cons_succ]
    rfl
  refine pure_ (i := 21) (N := some 25) (v := ?_) (a' := ?_) #[true, true, true, true, true, true, true, true, true, true, true, true, true, true, true, true, true, true, true, true, true, true, false, false, false, false, false, false, false, false, false, false] rfl rfl (by kernel_rfl) (fun _ _ _ h => h) (Or.inl ⟨by rfl, ?_⟩) ?_ ?_
  rotate_left
  · intro w'
    go_simp
    with_reducible rfl
  rotate_left
  · simp only [Act.put, List.setIfInBounds_toArray, List.set_cons_zero, List.set_cons_succ]
    rfl
  refine pure_ (i := 22) (N := some 26) (v := ?_) (a' := ?_) #[true, true, true, true, true, true, true, true, true, true, true, true, true, true, true, true, true, true, true, true, true, true, true, false, false, false, false, false, false, false, false, false] rfl rfl (by kernel_rfl) (fun _ _ _ h => h) (Or.inl ⟨by rfl, ?_⟩) ?_ ?_
  rotate_left
  · intro w'
    go_simp
    with_reducible rfl
  rotate_left
  · simp only [Act.put, List.setIfInBounds_toArray, List.set_cons_zero, List.set_cons_succ]
    rfl
  refine pure_ (i := 23) (N := some 27) (v := ?_) (a' := ?_) #[true, true, true, true, true, true, true, true, true, true, true, true, true, true, true, true, true, true, true, true, true, true, true, true, false, false, false, false, false, false, false, false] rfl rfl (by kernel_rfl) (fun _ _ _ h => h) (Or.inl ⟨by rfl, ?_⟩) ?_ ?_
  rotate_left
  · intro w'
    go_simp
    with_reducible rfl
  rotate_left
  · simp only [Act.put, List.setIfInBounds_toArray, List.set_cons_zero, List.set_cons_succ]
    rfl
  refine pure_ (i := 24) (N := some 28) (v := ?_) (a' := ?_) #[true, true, true, true, true, true, true, true, true, true, true, true, true, true, true, true, true, true, true, true, true, true, true, true, true, false, false, false, false, false, false, false] rfl rfl (by kernel_rfl) (fun _ _ _ h => h) (Or.inl ⟨by rfl, ?_⟩) ?_ ?_
  rotate_left
  · intro w'
    go_simp
    with_reducible rfl
  rotate_left
  · simp only [Act.put, List.setIfInBounds_toArray, List.set_cons_zero, List.set_cons_succ]
    rfl
  refine pure_ (i := 25) (N := some 29) (v := ?_) (a' := ?_) #[true, true, true, true, true, true, true, true, true, true, true, true, true, true, true, true, true, true, true, true, true, true, true, true, true, true, false, false, false, false, false, false] rfl rfl (by kernel_rfl) (fun _ _ _ h => h) (Or.inl ⟨by rfl, ?_⟩) ?_ ?_
  rotate_left
  · intro w'
    go_simp
    with_reducible rfl
  rotate_left
  · simp only [Act.put, List.setIfInBounds_toArray, List.set_cons_zero, List.set_cons_succ]
    rfl
  refine pure_ (i := 26) (N := some 30) (v := ?_) (a' := ?_) #[true, true, true, true, true, true, true, true, true, true, true, true, true, true, true, true, true, true, true, true, true, true, true, true, true, true, true, false, false, false, false, false] rfl rfl (by kernel_rfl) (fun _ _ _ h => h) (Or.inl ⟨by rfl, ?_⟩) ?_ ?_
  rotate_left
  · intro w'
    go_simp
    with_reducible rfl
  rotate_left
  · simp only [Act.put, List.setIfInBounds_toArray, List.set_cons_zero, List.set_cons_succ]
    rfl
  refine pure_ (i := 27) (N := some 31) (v := ?_) (a' := ?_) #[true, true, true, true, true, true, true, true, true, true, true, true, true, true, true, true, true, true, true, true, true, true, true, true, true, true, true, true, false, false, false, false] rfl rfl (by kernel_rfl) (fun _ _ _ h => h) (Or.inl ⟨by rfl, ?_⟩) ?_ ?_
  rotate_left
  · intro w'
    go_simp
    with_reducible rfl
  rotate_left
  · simp only [Act.put, List.setIfInBounds_toArray, List.set_cons_zero, List.set_cons_succ]
    rfl
  refine pure_ (i := 28) (N := some 32) (v := ?_) (a' := ?_) #[true, true, true, true, true, true, true, true, true, true, true, true, true, true, true, true, true, true, true, true, true, true, true, true, true, true, true, true, true, false, false, false] rfl rfl (by kernel_rfl) (fun _ _ _ h => h) (Or.inl ⟨by rfl, ?_⟩) ?_ ?_
  rotate_left
  · intro w'
    go_simp
    with_reducible rfl
  rotate_left
  · simp only [Act.put, List.setIfInBounds_toArray, List.set_cons_zero, List.set_cons_succ]
    rfl
  refine pure_ (i := 29) (N := some 33) (v := ?_) (a' := ?_) #[true, true, true, true, true, true, true, true, true, true, true, true, true, true, true, true, true, true, true, true, true, true, true, true, true, true, true, true, true, true, false, false] rfl rfl (by kernel_rfl) (fun _ _ _ h => h) (Or.inl ⟨by rfl, ?_⟩) ?_ ?_
  rotate_left
  · intro w'
    go_simp
    with_reducible rfl
  rotate_left
  · simp only [Act.put, List.setIfInBounds_toArray, List.set_cons_zero, List.set_cons_succ]
    rfl
  refine one_ (i := 30) (N := some 34) #[true, true, true, true, true, true, true, true, true, true, true, true, true, true, true, true, true, true, true, true, true, true, true, true, true, true, true, true, true, true, true, false] rfl rfl (by kernel_rfl) (by decide) (fun K hK => ?_)
  refine value_ (w1 := ?_) (v := ?_) (by rfl) rfl ?_ ?_
  rotate_left 2
  · go_simp
    constructor
    · rfl
    · rfl
  refine hK.out _ _ trivial (fun hHeld2 => ?_)
  clear hK K
  refine norm_ (a' := ?_) ?_ ?_
  rotate_left
  · show Act.put _ (some 34) _ = _
    simp only [Act.put, List.setIfInBounds_toArray, List.set_cons_zero, List.set_cons_succ]
    rfl
  have n0_ := Aside0.mk (blk_alloc HBK.out (.cells (fieldPs g) 119))
  have n1_ := Aside0.mk (below_alloc HB.out (.cells (fieldPs g) 119))
  have n3_ : Aside0 ((w1.alloc (.cells (fieldPs g) 119)).heap[w1.heap.size]? = some (.cells (fieldPs g) 119 (0, 0))) := ⟨blk_new w1 _⟩
  have n2_ := Aside0.mk (HB.out.size : w.heap.size ≤ w1.heap.size)
  have n4_ : Aside0 ((w1.alloc (.cells (fieldPs g) 119)).cell? ⟨g, 0, none⟩ = some (.int .i64 k)) := ⟨by rw [World.cell?_alloc_lt _ _ _ (blk_lt HBK.out)]; exact HC0.out⟩
  refine pure_ (i := 31) (N := some 3) (v := ?_) (a' := ?_) #[true, true, true, true, true, true, true, true, true, true, true, true, true, true, true, true, true, true, true, true, true, true, true, true, true, true, true, true, true, true, true, true] rfl rfl (by kernel_rfl) (fun _ _ _ h => h) (Or.inl ⟨by rfl, ?_⟩) ?_ ?_
  rotate_left
  · intro w'
    go_simp
    with_reducible rfl
  rotate_left
  · simp only [Act.put, List.setIfInBounds_toArray, List.set_cons_zero, List.set_cons_succ]
    rfl
  refine done_ (by kernel_rfl) ?_
  have e_ : w1.alloc (.cells #[.pointer (some ⟨g, 0, none⟩), .pointer (some ⟨g, 1, none⟩), .pointer (some ⟨g, 2, none⟩), .pointer (some ⟨g, 3, none⟩), .pointer (some ⟨g, 4, none⟩), .pointer (some ⟨g, 5, none⟩), .pointer (some ⟨g, 6, none⟩), .pointer (some ⟨g, 7, none⟩), .pointer (some ⟨g, 12, none⟩)] 119) = w1.alloc (.cells (fieldPs g) 119) := rfl
  first | rw [e_] | skip
  clear HBK HB HC0 e_ hHeld hHeld2
  generalize w1.alloc (.cells (fieldPs g) 119) = w2 at n0_ n1_ n3_ n4_ ⊢
  generalize w1.heap.size = h at n2_ n3_ ⊢
  have hc0 := n4_.out
  by_cases k1 : k = 1
  · subst k1
    go_wp2
    go_ret
    exact ⟨h, rfl, n3_.out, n2_.out, n1_.out⟩
  · by_cases k2 : k = 2
    · subst k2
      go_wp2
      go_ret
      exact ⟨h, rfl, n3_.out, n2_.out, n1_.out⟩
    · have q1 : (k == 1) = false := beq_eq_false_iff_ne.mpr k1
      have q2 : (k == 2) = false := beq_eq_false_iff_ne.mpr k2
      have q3 : (k != 1) = true := bne_iff_ne.mpr k1
      have q4 : (k != 2) = true := bne_iff_ne.mpr k2
      go_wp2
      go_ret
      exact ⟨_, rfl, n3_.out, n2_.out, n1_.out⟩
end Go.Proofs.Ytfjmnaobfbmllaa.M
namespace Go.Proofs.Ytfjmnaobfbmllaa.M
open Go.RowKit Go.Proofs.YtfjmnaobfbmllaaW.PrintWords Go.Proofs.YtfjmnaobfbmllaaW.PrintLast Go.Proofs.YtfjmnaobfbmllaaW.PrintMore
set_option linter.unusedVariables false
set_option linter.unusedSimpArgs false
def getN (bs : List Int) : Int := bs.foldl (fun n b => n * 256 + b) 0
theorem getN_snoc (bs : List Int) (b : Int) : getN (bs ++ [b]) = getN bs * 256 + b := by simp [getN]
theorem getN_take (bs : List Int) (h : ∀ b ∈ bs, 0 ≤ b ∧ b ≤ 255) (i : Nat) (hi : i ≤ bs.length) : 0 ≤ getN (bs.take i) ∧ getN (bs.take i) < 256 ^ i := by
  induction i with
  | zero => simp [getN]
  | succ i ih =>
    have hlt : i < bs.length := by omega
    rw [List.take_succ_eq_append_getElem hlt, getN_snoc]
    have h1 := ih (by omega)
    have h2 := h bs[i] (List.getElem_mem hlt)
    rw [Int.pow_succ]
    omega
theorem bytesOf_range (s : ByteArray) : ∀ b ∈ bytesOf s, 0 ≤ b ∧ b ≤ 255 := by
  intro b hb
  simp only [bytesOf, List.mem_map] at hb
  obtain ⟨x, _, rfl⟩ := hb
  have := x.toNat_lt
  omega
theorem or_low (n b : Nat) (hb : b < 256) : (n * 256) ||| b = n * 256 + b := by
  have := Nat.two_pow_add_eq_or_of_lt (i := 8) (b := b) hb n
  rw [show n * 256 = 2 ^ 8 * n by omega]
  exact this.symm
theorem or_u64 (n b : Int) (h0 : 0 ≤ n) (h1 : n < 72057594037927936) (h2 : 0 ≤ b) (h3 : b ≤ 255) : Go.bits .or .u64 (n * 256) b = n * 256 + b := by
  rw [u64_or _ _ (by omega) (by omega) (by omega) (by omega)]
  obtain ⟨m, rfl⟩ := Int.eq_ofNat_of_zero_le h0
  obtain ⟨c, rfl⟩ := Int.eq_ofNat_of_zero_le h2
  have := or_low m c (by omega)
  rw [show ((m : Int) * 256).toNat = m * 256 by omega, Int.toNat_natCast, this]
  omega
set_option maxHeartbeats 2000000 in
theorem high_Get.small (s : ByteArray) (w : World) (hs : s.size ≤ 8) :
    Calls Try.prog 86 #[.string s] w fun e w' => e = .returned (.int .u64 (getN (bytesOf s))) ∧ Below w.heap.size w w' := by
  have kb := fun (W : World) => print_bytes (P := Try.prog) 9 36 5 Try.underlying9 Try.underlying36 Try.underlying5 s W
  have hrd := bytes_reads w 5 s (by omega)
  have hbl := bytes_below (Below.refl w.heap.size w) (Nat.le_refl _) 5 s
  have hlen := bytesOf_length s
  have HRD := Aside0.mk hrd
  have HBL := Aside0.mk hbl
  have HLN := Aside0.mk hlen
  clear hrd hbl hlen
  go_enter Try.func86, Try.ntmps86
  go_wp2
  generalize Lib.bytesWorld w 5 s = w1 at HRD HBL ⊢
  clear kb
  go_loopg [3, 9] s.size (fun gg v3 v9 wr => ∃ k : Nat, k ≤ s.size ∧ s.size - k ≤ gg ∧ v9 = .int .i64 k ∧ v3 = .int .u64 (getN ((bytesOf s).take k)) ∧ Aside0 (wr = w1))
  case atStart => exact ⟨0, Nat.zero_le _, by omega, rfl, rfl, ⟨rfl⟩⟩
  case round =>
    obtain ⟨k, hk, hg, rfl, rfl, HW⟩ := hrel
    obtain rfl := HW.out
    by_cases hlt : k < s.size
    · have q0 : (k : Int) < (s.size : Int) := by omega
      obtain ⟨ad, e0, hx0⟩ := HRD.out.at_ (k : Int) (by omega) q0
      cases e0
      rw [Int.toNat_natCast, add_plain] at hx0
      have hkl : k < (bytesOf s).length := by rw [HLN.out]; exact hlt
      have hrdk : rd (bytesOf s) (k : Int) = (bytesOf s)[k] := by simp [rd, List.getD_eq_getElem?_getD, List.getElem?_eq_getElem hkl]
      rw [hrdk] at hx0
      have hr1 := bytesOf_range s _ (List.getElem_mem hkl)
      have hn1 := getN_take (bytesOf s) (bytesOf_range s) k (by omega)
      have hpow : (256 : Int) ^ k ≤ 72057594037927936 := by
        have : k ≤ 7 := by omega
        have h8 : 256 ^ k ≤ 256 ^ 7 := Nat.pow_le_pow_right (by omega) this
        have e7 : (256 : Nat) ^ 7 = 72057594037927936 := by decide
        have e : (256 : Int) ^ k = ((256 ^ k : Nat) : Int) := by simp
        rw [e]
        omega
      have hn2 : getN ((bytesOf s).take k) < 72057594037927936 := by omega
      have hn0 := hn1.1
      clear hpow hn1
      have hor := or_u64 (getN ((bytesOf s).take k)) ((bytesOf s)[k]) hn0 hn2 hr1.1 hr1.2
      have HSN : Aside0 (getN ((bytesOf s).take (k + 1)) = getN ((bytesOf s).take k) * 256 + (bytesOf s)[k]) := ⟨by rw [List.take_succ_eq_append_getElem hkl, getN_snoc]⟩
      have hr10 := hr1.1
      have hr11 := hr1.2
      clear hr1 hrdk
      generalize (bytesOf s)[k] = b at hx0 hor HSN hr10 hr11
      generalize getN ((bytesOf s).take k) = n at hor HSN hn0 hn2 ⊢
      go_wp2
      go_roundg (s.size - (k + 1))
      case measure => omega
      case rel => exact ⟨k + 1, by omega, by omega, by go_num, by rw [HSN.out], ⟨rfl⟩⟩
    · have hltz : ¬ (k : Int) < (s.size : Int) := by omega
      have HT : Aside0 (getN ((bytesOf s).take k) = getN (bytesOf s)) := ⟨by rw [List.take_of_length_le (by rw [HLN.out]; omega)]⟩
      go_wp2
      go_ret
      exact ⟨by rw [← HT.out]; rfl, HBL.out⟩
end Go.Proofs.Ytfjmnaobfbmllaa.M
namespace Go.Proofs.Ytfjmnaobfbmllaa.M
open Go.RowKit Go.Proofs.YtfjmnaobfbmllaaW.PrintWords Go.Proofs.YtfjmnaobfbmllaaW.PrintLast Go.Proofs.YtfjmnaobfbmllaaW.PrintMore
set_option linter.unusedVariables false
set_option linter.unusedSimpArgs false
theorem bt_get (s : ByteArray) (i : Nat) (h : i < s.size) : bt s i = (bytesOf s)[i]'(by rw [bytesOf_length]; exact h) := by
  rw [← rd_bytesOf]
  unfold rd
  rw [Int.toNat_natCast, List.getD_eq_getElem?_getD, List.getElem?_eq_getElem (by rw [bytesOf_length]; exact h)]
  rfl
theorem str_bytes (s : ByteArray) : strOfNums (bytesOf s) = s := by
  cases s with
  | mk d =>
    unfold strOfNums bytesOf
    congr 1
    apply Array.toList_inj.mp
    simp only [List.map_map, List.toList_toArray]
    conv => rhs; rw [← List.map_id d.toList]
    apply List.map_congr_left
    intro x _
    simp
theorem bytes_inj {s t : ByteArray} (h : bytesOf s = bytesOf t) : s = t := by rw [← str_bytes s, h, str_bytes]
theorem bytes_extract (s : ByteArray) (i j : Nat) : bytesOf (s.extract i j) = ((bytesOf s).drop i).take (j - i) := by
  unfold bytesOf
  simp [ByteArray.data_extract, Array.toList_extract, List.map_drop, List.map_take, List.extract]
theorem bytes_drop (s : ByteArray) (i : Nat) : bytesOf (s.extract i s.size) = (bytesOf s).drop i := by
  rw [bytes_extract, List.take_of_length_le (by rw [List.length_drop, bytesOf_length]; omega)]
theorem drop_step (s : ByteArray) (i : Nat) (h : i < s.size) : (bytesOf s).drop i = bt s i :: (bytesOf s).drop (i + 1) := by
  rw [List.drop_eq_getElem_cons (by rw [bytesOf_length]; exact h), bt_get s i h]
end Go.Proofs.Ytfjmnaobfbmllaa.M
namespace Go.Proofs.Ytfjmnaobfbmllaa.M
open Go.RowKit Go.Proofs.YtfjmnaobfbmllaaW.PrintWords Go.Proofs.YtfjmnaobfbmllaaW.PrintLast Go.Proofs.YtfjmnaobfbmllaaW.PrintMore
set_option linter.unusedVariables false
set_option linter.unusedSimpArgs false
def varF : Nat → Nat → List Int
  | 0, u => [(u : Int)]
  | k + 1, u => if u < 128 then [(u : Int)] else ((u % 128 + 128 : Nat) : Int) :: varF k (u / 128)
def foldI (n : Int) : Nat := if n < 0 then 2 * (-(n + 1)).toNat + 1 else 2 * n.toNat
def unfoldI (u : Nat) : Int := if u % 2 = 1 then -((u / 2 : Nat) : Int) - 1 else ((u / 2 : Nat) : Int)
def intB (n : Int) : List Int := varF 10 (foldI n)
theorem fold_unfold (u : Nat) : foldI (unfoldI u) = u := by
  unfold unfoldI foldI
  split <;> split <;> omega
def takeV : Nat → Nat → List Int → Option (Nat × List Int)
  | _, _, [] => none
  | i, u, b :: bs => if 10 ≤ i then none else if b < 128 then (if (i = 9 ∧ 1 < b) ∨ (0 < i ∧ b = 0) then none else some (u + b.toNat * 2 ^ (7 * i), bs))
      else if i = 9 then none else takeV (i + 1) (u + (b - 128).toNat * 2 ^ (7 * i)) bs
theorem varF_range (k : Nat) : ∀ u, u < 128 * 128 ^ k → ∀ b ∈ varF k u, 0 ≤ b ∧ b ≤ 255 := by
  induction k with
  | zero =>
    intro u h b hb
    simp only [varF, List.mem_singleton] at hb
    subst hb; simp at h; omega
  | succ k ih =>
    intro u h b hb
    unfold varF at hb
    split at hb
    · rw [List.mem_singleton] at hb; subst hb; omega
    · rw [List.mem_cons] at hb
      rcases hb with rfl | hb
      · omega
      · exact ih (u / 128) (by rw [Nat.pow_succ] at h; omega) b hb
theorem varF_len (k u : Nat) : 1 ≤ (varF k u).length ∧ (varF k u).length ≤ k + 1 := by
  induction k generalizing u with
  | zero => simp [varF]
  | succ k ih =>
    unfold varF
    split
    · simp
    · have := ih (u / 128); simp; omega
theorem pow7 (i : Nat) : 2 ^ (7 * (i + 1)) = 128 * 2 ^ (7 * i) := by
  rw [show 7 * (i + 1) = 7 + 7 * i by omega, Nat.pow_add]
theorem take_sound (bs : List Int) (hr : ∀ b ∈ bs, 0 ≤ b ∧ b ≤ 255) : ∀ (i u w : Nat) (rest : List Int), takeV i u bs = some (w, rest) →
    ∃ v, bs = varF (9 - i) v ++ rest ∧ w = u + v * 2 ^ (7 * i) ∧ (i ≤ 9 ∧ (0 < i → 0 < v) ∧ v * 2 ^ (7 * i) < 2 ^ 64) := by
  induction bs with
  | nil => intro i u w rest h; cases h
  | cons b bs ih =>
    intro i u w rest h
    have hb := hr b (by simp)
    simp only [takeV] at h
    by_cases h10 : 10 ≤ i
    · rw [if_pos h10] at h; cases h
    rw [if_neg h10] at h
    have hp : 2 ^ (7 * i) ≤ 2 ^ (7 * 9) := Nat.pow_le_pow_right (by decide) (by omega)
    by_cases h128 : b < 128
    · rw [if_pos h128] at h
      by_cases hc : (i = 9 ∧ 1 < b) ∨ (0 < i ∧ b = 0)
      · rw [if_pos hc] at h; cases h
      · rw [if_neg hc, Option.some.injEq, Prod.mk.injEq] at h
        obtain ⟨rfl, rfl⟩ := h
        refine ⟨b.toNat, ?_, rfl, by omega, fun hi => by omega, ?_⟩
        · have e : varF (9 - i) b.toNat = [b] := by
            cases h9 : 9 - i with
            | zero => simp only [varF]; congr 1; omega
            | succ k => unfold varF; rw [if_pos (by omega)]; congr 1; omega
          rw [e]; rfl
        · by_cases h9 : i = 9
          · subst h9
            have : b.toNat ≤ 1 := by omega
            have h3 := Nat.mul_le_mul_right (2 ^ (7 * 9)) this
            have e : (2 : Nat) ^ 64 = 2 * 2 ^ (7 * 9) := by decide
            have := Nat.two_pow_pos (7 * 9)
            omega
          · have hp2 : 2 ^ (7 * i) ≤ 2 ^ (7 * 8) := Nat.pow_le_pow_right (by decide) (by omega)
            have h3 := Nat.mul_le_mul (show b.toNat ≤ 127 by omega) hp2
            have e : (2 : Nat) ^ 64 = 256 * 2 ^ (7 * 8) := by decide
            have := Nat.two_pow_pos (7 * 8)
            omega
    · rw [if_neg h128] at h
      by_cases h9 : i = 9
      · rw [if_pos h9] at h; cases h
      rw [if_neg h9] at h
      obtain ⟨v, e1, e2, e3, e4, e5⟩ := ih (fun b hb => hr b (by simp [hb])) (i + 1) _ w rest h
      have hv := e4 (by omega)
      refine ⟨(b - 128).toNat + 128 * v, ?_, ?_, by omega, fun _ => by omega, ?_⟩
      · have e : 9 - i = (9 - (i + 1)) + 1 := by omega
        rw [e]
        unfold varF
        rw [if_neg (by omega), show ((b - 128).toNat + 128 * v) / 128 = v by omega, show ((((b - 128).toNat + 128 * v) % 128 + 128 : Nat) : Int) = b by omega, e1]
        rfl
      · rw [e2, pow7, Nat.add_mul, Nat.add_assoc, ← Nat.mul_assoc, Nat.mul_comm v 128]
      · rw [pow7] at e5
        have h1 : (b - 128).toNat + 128 * v < 128 * (v + 1) := by omega
        have e : (2 : Nat) ^ 64 = 128 * 2 ^ (7 * i) * 2 ^ (57 - 7 * i) := by
          rw [show 128 * 2 ^ (7 * i) = 2 ^ (7 + 7 * i) by rw [Nat.pow_add], ← Nat.pow_add, show 7 + 7 * i + (57 - 7 * i) = 64 by omega]
        have h2 : v < 2 ^ (57 - 7 * i) := by
          rw [e, Nat.mul_comm] at e5
          exact Nat.lt_of_mul_lt_mul_left e5
        have h3 : ((b - 128).toNat + 128 * v) * 2 ^ (7 * i) < (128 * (v + 1)) * 2 ^ (7 * i) := Nat.mul_lt_mul_of_pos_right h1 (Nat.two_pow_pos _)
        refine Nat.lt_of_lt_of_le h3 ?_
        rw [e, Nat.mul_assoc, Nat.mul_comm (v + 1), ← Nat.mul_assoc]
        exact Nat.mul_le_mul_left _ h2
end Go.Proofs.Ytfjmnaobfbmllaa.M
namespace Go.Proofs.Ytfjmnaobfbmllaa.M
open Go.RowKit Go.Proofs.YtfjmnaobfbmllaaW.PrintWords Go.Proofs.YtfjmnaobfbmllaaW.PrintLast Go.Proofs.YtfjmnaobfbmllaaW.PrintMore
attribute [local go_sem] max2_int min2_int max_two min_two max_three min_three max_four min_four   -- for this text's walks alone
set_option linter.unusedVariables false
set_option linter.unusedSimpArgs false
def nib_Int.l0 : Nat → Int → List Int → Option (ByteArray)
  | 0, _, _ => none
  | k + 1, x3, x4 => if x3 ≥ 128 then (if x4.length < 140737488355328 then (nib_Int.l0 k (x3 / 128) (x4 ++ [Go.bits .or .u8 ((x3) % 256) 128])) else (none)) else (if x4.length < 140737488355328 then (some (strOfNums (x4 ++ [(x3) % 256]))) else (none))
def nib_Int.f (k : Nat) (a0 : Int) : Option (ByteArray) := nib_Int.l0 k (Go.bits .xor .u64 (IntKind.u64.wrap ((IntKind.u64.wrap (a0)) * 2)) (IntKind.u64.wrap (a0 / 9223372036854775808))) ([] : List Int)
set_option maxHeartbeats 8000000 in
set_option maxRecDepth 100000 in
theorem nib_Int.calls (k : Nat) (a0 : Int) (r : ByteArray) (w : World) (h : nib_Int.f k a0 = some r) :
    Calls Try.prog 98 #[.int .i64 a0] w fun e w' => e = .returned (.string r) ∧ Below w.heap.size w w' := by
  have HB := Aside0.mk (Below.refl w.heap.size w)
  have H : (nib_Int.l0 k (Go.bits .xor .u64 (IntKind.u64.wrap ((IntKind.u64.wrap (a0)) * 2)) (IntKind.u64.wrap (a0 / 9223372036854775808))) ([] : List Int)) = some r := h
  clear h
  have H' := Aside0.mk H
  clear H
  go_enter Try.func98, Try.ntmps98
  go_wp2
  go_loopg [3, 4] k (fun kq v3 v4 w' => ∃ (x3_1 : Int) (x4_1 : List Int), v3 = .int .u64 x3_1 ∧ Aside0 (nib_Int.l0 kq x3_1 x4_1 = some r) ∧ Aside0 (kq ≤ k) ∧ Aside0 (Kd.R (Kd.int .u8) 5 w' w.heap.size (fun _ => True) v4 x4_1) ∧ Aside0 (Below w.heap.size w w'))
  case atStart => exact ⟨(Go.bits .xor .u64 (IntKind.u64.wrap ((IntKind.u64.wrap (a0)) * 2)) (IntKind.u64.wrap (a0 / 9223372036854775808))), (([] : List Int)), (by first | rfl | (simp; done) | (simp [*]; done)), H', ⟨Nat.le_refl _⟩, ⟨by first | exact Kd.R_nil _ _ _ _ _ | exact Kd.N_nil _ _ _ _ _ | exact Kd.V_nil _ _ _ _ _ | exact Kd.Q_nil _ _ _ _ _ | exact Kd.S_nil _ _ _ _ _⟩, ⟨by repeat (first | (with_reducible first | exact HB.out | apply below_alloc | apply pw_below_drewN | apply below_drew1) | exact HB.out)⟩⟩
  case round =>
    clear H'
    obtain ⟨x3_1, x4_1, rfl, HA, HK1, HO_4, HB⟩ := hrel
    cases gk with
    | zero => exact absurd HA.out (by simp [nib_Int.l0])
    | succ k1 =>
      have H := HA.out
      clear HA
      simp only [nib_Int.l0] at H
      by_cases c2 : x3_1 ≥ 128
      · rw [if_pos c2] at H
        have c2b0 : decide (128 ≤ x3_1) = true := decide_eq_true c2
        clear c2
        by_cases c3 : x4_1.length < 140737488355328
        · rw [if_pos c3] at H
          have LMc3 := Aside0.mk c3
          clear c3
          obtain ⟨y101, hy101⟩ : ∃ y_ : List Int, y_ = (x4_1 ++ [Go.bits .or .u8 ((x3_1) % 256) 128]) := ⟨_, rfl⟩
          replace H : (nib_Int.l0 k1 (x3_1 / 128) y101) = some r := by first | (rw [hy101]; with_reducible exact H) | (have H2_ := (Option.bind_some _ _).symm.trans H; rw [hy101]; with_reducible exact H2_) | (have H2_ := (Option.bind_some _ _).symm.trans H; with_reducible exact H2_) | with_reducible exact H | (rw [hy101]; exact H) | exact H
          have Ny101 := Aside0.mk hy101
          clear hy101
          have H' := Aside0.mk H
          clear H
          go_wp2_with (first | ((with_reducible refine gate_builtin (b := .append) (xs := #[.tmp 16, .tmp 20]) rfl ?_); at_builtin; refine Kd.R_append (Kd.int .u8) (w0 := w) w.heap.size rfl (.tmp 16) (.tmp 20) 36 5 (.int .u8 0) 1 rfl Try.underlying36 info5 rfl (by decide) (by omega) u4 x4_1 (Go.bits .or .u8 ((x3_1) % 256) 128) [.int .u8 (Go.bits .or .u8 ((x3_1) % 256) 128)] (fun _ => True) (fun _ => False) rfl rfl ?aP (fun _ hk => hk.elim) ?aF ?aO ?aB ?aS ?aL ?_; (case aP => exact rfl); (case aB => exact (by repeat (first | (with_reducible first | exact HB.out | apply below_alloc | apply pw_below_drewN | apply below_drew1) | exact HB.out))); (case aF => exact (fun _ _ => trivial)); (case aO => exact (by (with_reducible repeat (first | apply Kd.R_alloc | apply Kd.R_drewN | apply Kd.R_drew)); exact HO_4.out)); (case aS => exact (below_size (by repeat (first | (with_reducible first | exact HB.out | apply below_alloc | apply pw_below_drewN | apply below_drew1) | exact HB.out)))); (case aL => have := LMc3.out; omega); intro v102 w4 ho hb hg hat; rw [← Ny101.out] at ho; have n0_ := Aside0.mk (hb); have n1_ := Aside0.mk (ho); clear HB; clear HO_4; have HB := n0_; have HO103 := n1_; clear n0_ n1_; clear ho hb hg hat))
          go_roundg k1
          case measure => have := HK1.out; omega
          case rel => exact ⟨(x3_1 / 128), (y101), (by first | rfl | (simp; done) | (simp [*]; done)), H', ⟨by have := HK1.out; omega⟩, ⟨by (with_reducible repeat (first | apply Kd.R_alloc | apply Kd.R_drewN | apply Kd.R_drew)); exact HO103.out⟩, ⟨by repeat (first | (with_reducible first | exact HB.out | apply below_alloc | apply pw_below_drewN | apply below_drew1) | exact HB.out)⟩⟩
        · rw [if_neg c3] at H
          exact absurd H (by simp)
      · rw [if_neg c2] at H
        have c2b0 : decide (128 ≤ x3_1) = false := decide_eq_false c2
        clear c2
        by_cases c5 : x4_1.length < 140737488355328
        · rw [if_pos c5] at H
          have LMc5 := Aside0.mk c5
          clear c5
          obtain ⟨y104, hy104⟩ : ∃ y_ : List Int, y_ = (x4_1 ++ [(x3_1) % 256]) := ⟨_, rfl⟩
          replace H : (some (strOfNums y104)) = some r := by first | (rw [hy104]; with_reducible exact H) | (have H2_ := (Option.bind_some _ _).symm.trans H; rw [hy104]; with_reducible exact H2_) | (have H2_ := (Option.bind_some _ _).symm.trans H; with_reducible exact H2_) | with_reducible exact H | (rw [hy104]; exact H) | exact H
          have Ny104 := Aside0.mk hy104
          clear hy104
          obtain rfl := Option.some.inj H
          go_wp2_with (first | ((with_reducible refine gate_builtin (b := .append) (xs := #[.tmp 22, .tmp 25]) rfl ?_); at_builtin; refine Kd.R_append (Kd.int .u8) (w0 := w) w.heap.size rfl (.tmp 22) (.tmp 25) 36 5 (.int .u8 0) 1 rfl Try.underlying36 info5 rfl (by decide) (by omega) u4 x4_1 ((x3_1) % 256) [.int .u8 ((x3_1) % 256)] (fun _ => True) (fun _ => False) rfl rfl ?aP (fun _ hk => hk.elim) ?aF ?aO ?aB ?aS ?aL ?_; (case aP => exact rfl); (case aB => exact (by repeat (first | (with_reducible first | exact HB.out | apply below_alloc | apply pw_below_drewN | apply below_drew1) | exact HB.out))); (case aF => exact (fun _ _ => trivial)); (case aO => exact (by (with_reducible repeat (first | apply Kd.R_alloc | apply Kd.R_drewN | apply Kd.R_drew)); exact HO_4.out)); (case aS => exact (below_size (by repeat (first | (with_reducible first | exact HB.out | apply below_alloc | apply pw_below_drewN | apply below_drew1) | exact HB.out)))); (case aL => have := LMc5.out; omega); intro v105 w6 ho hb hg hat; rw [← Ny104.out] at ho; have n0_ := Aside0.mk (hb); have n1_ := Aside0.mk (ho); clear HB; clear HO_4; have HB := n0_; have HO106 := n1_; clear n0_ n1_; clear ho hb hg hat; have hcv7 := own_string (P := Try.prog) Try.underlying36 Try.underlying5 Try.underlying9 (Kd.own_of_R HO106.out)))
          go_ret
          exact ⟨by first | rfl | (simp [errW_none, errW_some] <;> rfl) | (simp [*, errW_none, errW_some] <;> rfl), by repeat (first | (with_reducible first | exact HB.out | apply below_alloc | apply pw_below_drewN | apply below_drew1) | exact HB.out)⟩
        · rw [if_neg c5] at H
          exact absurd H (by simp)
end Go.Proofs.Ytfjmnaobfbmllaa.M
namespace Go.Proofs.Ytfjmnaobfbmllaa.M
open Go.RowKit Go.Proofs.YtfjmnaobfbmllaaW.PrintWords Go.Proofs.YtfjmnaobfbmllaaW.PrintLast Go.Proofs.YtfjmnaobfbmllaaW.PrintMore
attribute [local go_sem] max2_int min2_int max_two min_two max_three min_three max_four min_four   -- for this text's walks alone
set_option linter.unusedVariables false
set_option linter.unusedSimpArgs false
mutual
def nib_TakeInt.l0 : Nat → ByteArray → Int → Int → Int → Option (Int × ByteArray × Bool)
  | 0, _, _, _, _ => none
  | k + 1, x0, x5, x10, x11 => if x11 < x10 then (if 0 ≤ x11 then (if x11 < (x0.size : Int) then (if 0 ≤ (wrap64 (7 * x11)) then (if x11 = 9 then (if (bt x0 x11) > 1 then (nib_TakeInt.j1 k x0 (Go.bits .or .u64 x5 (shl .u64 (IntKind.u64.wrap (Go.bits .andNot .u8 (bt x0 x11) 128)) (wrap64 (7 * x11)))) x11 (bt x0 x11) x10 x11 true) else (if x11 > 0 then (nib_TakeInt.j1 k x0 (Go.bits .or .u64 x5 (shl .u64 (IntKind.u64.wrap (Go.bits .andNot .u8 (bt x0 x11) 128)) (wrap64 (7 * x11)))) x11 (bt x0 x11) x10 x11 ((bt x0 x11) == 0)) else (nib_TakeInt.j1 k x0 (Go.bits .or .u64 x5 (shl .u64 (IntKind.u64.wrap (Go.bits .andNot .u8 (bt x0 x11) 128)) (wrap64 (7 * x11)))) x11 (bt x0 x11) x10 x11 false))) else (if x11 > 0 then (nib_TakeInt.j1 k x0 (Go.bits .or .u64 x5 (shl .u64 (IntKind.u64.wrap (Go.bits .andNot .u8 (bt x0 x11) 128)) (wrap64 (7 * x11)))) x11 (bt x0 x11) x10 x11 ((bt x0 x11) == 0)) else (nib_TakeInt.j1 k x0 (Go.bits .or .u64 x5 (shl .u64 (IntKind.u64.wrap (Go.bits .andNot .u8 (bt x0 x11) 128)) (wrap64 (7 * x11)))) x11 (bt x0 x11) x10 x11 false))) else (none)) else (none)) else (none)) else (some (0, (⟨#[]⟩ : ByteArray), false))
def nib_TakeInt.j1 : Nat → ByteArray → Int → Int → Int → Int → Int → Bool → Option (Int × ByteArray × Bool)
  | 0, _, _, _, _, _, _, _ => none
  | k + 1, x0, x5, x6, x7, x10, x11, x25 => if x25 = true then (some (0, (⟨#[]⟩ : ByteArray), false)) else (if x7 < 128 then (if 0 ≤ (wrap64 (x6 + 1)) then (if (wrap64 (x6 + 1)) ≤ (x0.size : Int) then (some (Go.bits .xor .i64 (wrap64 (x5 / 2)) (wrap64 (-(wrap64 (Go.bits .and .u64 x5 1)))), x0.extract ((wrap64 (x6 + 1)) : Int).toNat x0.size, true)) else (none)) else (none)) else (nib_TakeInt.l0 k x0 x5 x10 (wrap64 (x11 + 1))))
end
def nib_TakeInt.f (k : Nat) (a0 : ByteArray) : Option (Int × ByteArray × Bool) := nib_TakeInt.l0 k a0 0 (mn (a0.size : Int) 10) 0
set_option maxHeartbeats 8000000 in
set_option maxRecDepth 100000 in
theorem nib_TakeInt.calls (k : Nat) (a0 : ByteArray) (r1 : Int) (r2 : ByteArray) (r3 : Bool) (w : World) (h : nib_TakeInt.f k a0 = some (r1, r2, r3)) :
    Calls Try.prog 120 #[.string a0] w fun e w' => e = .returned (.tuple #[.int .i64 r1, .string r2, .bool r3]) ∧ Below w.heap.size w w' := by
  have HB := Aside0.mk (Below.refl w.heap.size w)
  have H : (nib_TakeInt.l0 k a0 0 (mn (a0.size : Int) 10) 0) = some (r1, r2, r3) := h
  clear h
  obtain ⟨ji2, hji2⟩ : ∃ j_ : Int, (mn (a0.size : Int) 10) = j_ := ⟨_, rfl⟩
  replace H : (nib_TakeInt.l0 k a0 0 ji2 0) = some (r1, r2, r3) := by first | (rw [hji2] at H; exact H) | (simp only [hji2] at H ⊢; exact H)
  (try (have hji2h : ji2 ≤ 10 := by (rw [← hji2]; unfold mn; (repeat' split) <;> omega)))
  (try (have hji2g : ji2 ≤ 64 := by omega))
  (try (have hji2l : 0 ≤ ji2 := by (rw [← hji2]; unfold mn; (repeat' split) <;> omega)))
  (try (have hji2m : 0 ≤ ji2 := by omega))
  have hji2_ : (if 10 < (a0.size : Int) then 10 else (a0.size : Int)) = ji2 := hji2
  have H' := Aside0.mk H
  clear H
  go_enter Try.func120, Try.ntmps120
  go_wp2
  repeat (go_quiet (fail); try go_wp2)
  go_loopg [5, 11] k (fun kq v5 v11 w' => ∃ (x5_1 : Int) (x11_1 : Int), v5 = .int .u64 x5_1 ∧ v11 = .int .i64 x11_1 ∧ Aside0 (nib_TakeInt.l0 kq a0 x5_1 ji2 x11_1 = some (r1, r2, r3)) ∧ Aside0 (kq ≤ k) ∧ Aside0 (Below w.heap.size w w'))
  case atStart => exact ⟨(0), (0), (by first | rfl | (simp; done) | (simp [*]; done)), (by first | rfl | (simp; done) | (simp [*]; done)), H', ⟨Nat.le_refl _⟩, ⟨by repeat (first | (with_reducible first | exact HB.out | apply below_alloc | apply pw_below_drewN | apply below_drew1) | exact HB.out)⟩⟩
  case round =>
    clear H'
    try clear c1
    try clear p2
    obtain ⟨x5_1, x11_1, rfl, rfl, HA, HK1, HB⟩ := hrel
    cases gk with
    | zero => exact absurd HA.out (by simp [nib_TakeInt.l0])
    | succ k1 =>
      have H := HA.out
      clear HA
      simp only [nib_TakeInt.l0] at H
      by_cases c3 : x11_1 < ji2
      · rw [if_pos c3] at H
        have c3b0 : decide (x11_1 < ji2) = true := decide_eq_true c3
        clear c3
        by_cases c4 : 0 ≤ x11_1
        · rw [if_pos c4] at H
          have c4b0 : decide (0 ≤ x11_1) = true := decide_eq_true c4
          clear c4
          by_cases c5 : x11_1 < (a0.size : Int)
          · rw [if_pos c5] at H
            have c5b0 : decide (x11_1 < (a0.size : Int)) = true := decide_eq_true c5
            clear c5
            obtain ⟨ji7, hji7⟩ : ∃ j_ : Int, (wrap64 (7 * x11_1)) = j_ := ⟨_, rfl⟩
            replace H : (if 0 ≤ (ji7) then (if x11_1 = 9 then (if (bt a0 x11_1) > 1 then (nib_TakeInt.j1 k1 a0 (Go.bits .or .u64 x5_1 (shl .u64 (IntKind.u64.wrap (Go.bits .andNot .u8 (bt a0 x11_1) 128)) (ji7))) x11_1 (bt a0 x11_1) ji2 x11_1 true) else (if x11_1 > 0 then (nib_TakeInt.j1 k1 a0 (Go.bits .or .u64 x5_1 (shl .u64 (IntKind.u64.wrap (Go.bits .andNot .u8 (bt a0 x11_1) 128)) (ji7))) x11_1 (bt a0 x11_1) ji2 x11_1 ((bt a0 x11_1) == 0)) else (nib_TakeInt.j1 k1 a0 (Go.bits .or .u64 x5_1 (shl .u64 (IntKind.u64.wrap (Go.bits .andNot .u8 (bt a0 x11_1) 128)) (ji7))) x11_1 (bt a0 x11_1) ji2 x11_1 false))) else (if x11_1 > 0 then (nib_TakeInt.j1 k1 a0 (Go.bits .or .u64 x5_1 (shl .u64 (IntKind.u64.wrap (Go.bits .andNot .u8 (bt a0 x11_1) 128)) (ji7))) x11_1 (bt a0 x11_1) ji2 x11_1 ((bt a0 x11_1) == 0)) else (nib_TakeInt.j1 k1 a0 (Go.bits .or .u64 x5_1 (shl .u64 (IntKind.u64.wrap (Go.bits .andNot .u8 (bt a0 x11_1) 128)) (ji7))) x11_1 (bt a0 x11_1) ji2 x11_1 false))) else (none)) = some (r1, r2, r3) := by first | (rw [hji7] at H; exact H) | (simp only [hji7] at H ⊢; exact H)
            have hji7w : (IntKind.i64.wrap (7 * x11_1)) = ji7 := (i64_w _).trans hji7
            by_cases c8 : 0 ≤ (ji7)
            · rw [if_pos c8] at H
              have c8b0 := eq_true c8
              have c8b1 : decide (0 ≤ (ji7)) = true := decide_eq_true c8
              clear c8
              obtain ⟨ji9, hji9⟩ : ∃ j_ : Int, (shl .u64 (IntKind.u64.wrap (Go.bits .andNot .u8 (bt a0 x11_1) 128)) (ji7)) = j_ := ⟨_, rfl⟩
              replace H : (if x11_1 = 9 then (if (bt a0 x11_1) > 1 then (nib_TakeInt.j1 k1 a0 (Go.bits .or .u64 x5_1 (ji9)) x11_1 (bt a0 x11_1) ji2 x11_1 true) else (if x11_1 > 0 then (nib_TakeInt.j1 k1 a0 (Go.bits .or .u64 x5_1 (ji9)) x11_1 (bt a0 x11_1) ji2 x11_1 ((bt a0 x11_1) == 0)) else (nib_TakeInt.j1 k1 a0 (Go.bits .or .u64 x5_1 (ji9)) x11_1 (bt a0 x11_1) ji2 x11_1 false))) else (if x11_1 > 0 then (nib_TakeInt.j1 k1 a0 (Go.bits .or .u64 x5_1 (ji9)) x11_1 (bt a0 x11_1) ji2 x11_1 ((bt a0 x11_1) == 0)) else (nib_TakeInt.j1 k1 a0 (Go.bits .or .u64 x5_1 (ji9)) x11_1 (bt a0 x11_1) ji2 x11_1 false))) = some (r1, r2, r3) := by first | (rw [hji9] at H; exact H) | (simp only [hji9] at H ⊢; exact H)
              have hji9_ : (IntKind.u64.wrap ((IntKind.u64.wrap (Go.bits .andNot .u8 (bt a0 x11_1) 128)) * 2 ^ min (ji7).toNat 64)) = ji9 := hji9
              have hji9z : (ji7) ≤ 64 → (IntKind.u64.wrap ((IntKind.u64.wrap (Go.bits .andNot .u8 (bt a0 x11_1) 128)) * 2 ^ (ji7).toNat)) = ji9 := shl_small hji9
              have HC10 := Aside0.mk H
              clear H
              have p6 : 0 ≤ (x11_1 : Int) := of_decide_eq_true (by first | (with_reducible assumption) | assumption)
              have q6 : x11_1 < (a0.size : Int) := of_decide_eq_true (by first | (with_reducible assumption) | assumption)
              have hx6 := bt_at a0 x11_1
              replace p6 := eq_true p6
              replace q6 := eq_true q6
              go_upto_region 7 with (fail)
              repeat (go_quiet (fail); go_upto_region 7 with (fail))
              go_cut [25] (fun v25 wc => ∃ (kq : Nat) (x25_9 : Bool), v25 = .bool x25_9 ∧ Aside0 (nib_TakeInt.j1 kq a0 (Go.bits .or .u64 x5_1 (ji9)) x11_1 (bt a0 x11_1) ji2 x11_1 x25_9 = some (r1, r2, r3)) ∧ Aside0 (kq ≤ k1) ∧ Aside0 (Below w.heap.size w wc))
              case first =>
                have H := HC10.out
                clear HC10
                by_cases c11 : x11_1 = 9
                · rw [if_pos c11] at H
                  have c11b0 : (x11_1 == 9) = true := beq_iff_eq.mpr c11
                  have c11b1 : (x11_1 != 9) = false := bne_eq_false_iff_eq.mpr c11
                  clear c11
                  (first | rw [c11b0] | (simp only [i64_w, i32_w]; rw [c11b0]) | skip)
                  by_cases c12 : (bt a0 x11_1) > 1
                  · rw [if_pos c12] at H
                    have c12b0 : decide (1 < (bt a0 x11_1)) = true := decide_eq_true c12
                    clear c12
                    have H' := Aside0.mk H
                    clear H
                    go_wp2
                    repeat (go_quiet (fail); try go_wp2)
                    go_meet
                    case rel => exact ⟨_, (true), (by first | rfl | (simp; done) | (simp [*]; done)), H', ⟨by have := HK1.out; first | omega | exact Nat.le_refl _⟩, ⟨by repeat (first | (with_reducible first | exact HB.out | apply below_alloc | apply pw_below_drewN | apply below_drew1) | exact HB.out)⟩⟩
                  · rw [if_neg c12] at H
                    have c12b0 : decide (1 < (bt a0 x11_1)) = false := decide_eq_false c12
                    clear c12
                    by_cases c13 : x11_1 > 0
                    · rw [if_pos c13] at H
                      have c13b0 : decide (0 < x11_1) = true := decide_eq_true c13
                      clear c13
                      have H' := Aside0.mk H
                      clear H
                      go_wp2
                      repeat (go_quiet (fail); try go_wp2)
                      go_meet
                      case rel => exact ⟨_, (((bt a0 x11_1) == 0)), (by first | rfl | (simp; done) | (simp [*]; done)), H', ⟨by have := HK1.out; first | omega | exact Nat.le_refl _⟩, ⟨by repeat (first | (with_reducible first | exact HB.out | apply below_alloc | apply pw_below_drewN | apply below_drew1) | exact HB.out)⟩⟩
                    · rw [if_neg c13] at H
                      have c13b0 : decide (0 < x11_1) = false := decide_eq_false c13
                      clear c13
                      have H' := Aside0.mk H
                      clear H
                      go_wp2
                      repeat (go_quiet (fail); try go_wp2)
                      go_meet
                      case rel => exact ⟨_, (false), (by first | rfl | (simp; done) | (simp [*]; done)), H', ⟨by have := HK1.out; first | omega | exact Nat.le_refl _⟩, ⟨by repeat (first | (with_reducible first | exact HB.out | apply below_alloc | apply pw_below_drewN | apply below_drew1) | exact HB.out)⟩⟩
                · rw [if_neg c11] at H
                  have c11b0 : (x11_1 == 9) = false := beq_eq_false_iff_ne.mpr c11
                  have c11b1 : (x11_1 != 9) = true := bne_iff_ne.mpr c11
                  (first | rw [c11b0] | (simp only [i64_w, i32_w]; rw [c11b0]) | skip)
                  by_cases c14 : x11_1 > 0
                  · rw [if_pos c14] at H
                    have c14b0 : decide (0 < x11_1) = true := decide_eq_true c14
                    clear c14
                    have H' := Aside0.mk H
                    clear H
                    go_wp2
                    repeat (go_quiet (fail); try go_wp2)
                    go_meet
                    case rel => exact ⟨_, (((bt a0 x11_1) == 0)), (by first | rfl | (simp; done) | (simp [*]; done)), H', ⟨by have := HK1.out; first | omega | exact Nat.le_refl _⟩, ⟨by repeat (first | (with_reducible first | exact HB.out | apply below_alloc | apply pw_below_drewN | apply below_drew1) | exact HB.out)⟩⟩
                  · rw [if_neg c14] at H
                    have c14b0 : decide (0 < x11_1) = false := decide_eq_false c14
                    clear c14
                    have H' := Aside0.mk H
                    clear H
                    go_wp2
                    repeat (go_quiet (fail); try go_wp2)
                    go_meet
                    case rel => exact ⟨_, (false), (by first | rfl | (simp; done) | (simp [*]; done)), H', ⟨by have := HK1.out; first | omega | exact Nat.le_refl _⟩, ⟨by repeat (first | (with_reducible first | exact HB.out | apply below_alloc | apply pw_below_drewN | apply below_drew1) | exact HB.out)⟩⟩
              case rest =>
                clear HC10
                try clear c1
                try clear p2
                try clear c3
                try clear c3b0
                try clear c4
                try clear c4b0
                try clear c5
                try clear c5b0
                try clear p6
                try clear q6
                try clear hx6
                try clear c8
                try clear c8b0
                try clear c8b1
                try clear c11
                try clear c11b0
                try clear c11b1
                try clear c12
                try clear c12b0
                try clear c13
                try clear c13b0
                try clear c14
                try clear c14b0
                try clear p2
                try clear p6
                try clear q6
                obtain ⟨kq, x25_9, rfl, HA, HJ9, HB⟩ := hcut
                cases kq with
                | zero => exact absurd HA.out (by simp [nib_TakeInt.j1])
                | succ kj9 =>
                  have H := HA.out
                  clear HA
                  simp only [nib_TakeInt.j1] at H
                  by_cases c15 : x25_9 = true
                  · subst c15
                    have H1 : (some (0, (⟨#[]⟩ : ByteArray), false)) = some (r1, r2, r3) := by rw [if_pos rfl] at H; exact H
                    clear H
                    have H := H1
                    clear H1
                    simp only [Option.some.injEq, Prod.mk.injEq] at H
                    obtain ⟨rfl, rfl, rfl⟩ := H
                    go_wp2
                    repeat (go_quiet (fail); try go_wp2)
                    go_ret3
                    exact ⟨by first | rfl | (simp [errW_none, errW_some] <;> rfl) | (simp only [← hji2, ← hji7, ← hji9]; first | rfl | (simp [errW_none, errW_some] <;> rfl)) | (simp [*, errW_none, errW_some] <;> rfl), by repeat (first | (with_reducible first | exact HB.out | apply below_alloc | apply pw_below_drewN | apply below_drew1) | exact HB.out)⟩
                  · replace c15 := Bool.eq_false_iff.mpr c15
                    subst c15
                    have H1 : (if (bt a0 x11_1) < 128 then (if 0 ≤ (wrap64 (x11_1 + 1)) then (if (wrap64 (x11_1 + 1)) ≤ (a0.size : Int) then (some (Go.bits .xor .i64 (wrap64 ((Go.bits .or .u64 x5_1 (ji9)) / 2)) (wrap64 (-(wrap64 (Go.bits .and .u64 (Go.bits .or .u64 x5_1 (ji9)) 1)))), a0.extract ((wrap64 (x11_1 + 1)) : Int).toNat a0.size, true)) else (none)) else (none)) else (nib_TakeInt.l0 kj9 a0 (Go.bits .or .u64 x5_1 (ji9)) ji2 (wrap64 (x11_1 + 1)))) = some (r1, r2, r3) := by rw [if_neg (show ¬ (false = true) by decide)] at H; exact H
                    clear H
                    have H := H1
                    clear H1
                    by_cases c16 : (bt a0 x11_1) < 128
                    · rw [if_pos c16] at H
                      have c16b0 : decide ((bt a0 x11_1) < 128) = true := decide_eq_true c16
                      clear c16
                      obtain ⟨ji17, hji17⟩ : ∃ j_ : Int, (wrap64 (x11_1 + 1)) = j_ := ⟨_, rfl⟩
                      replace H : (if 0 ≤ (ji17) then (if (ji17) ≤ (a0.size : Int) then (some (Go.bits .xor .i64 (wrap64 ((Go.bits .or .u64 x5_1 (ji9)) / 2)) (wrap64 (-(wrap64 (Go.bits .and .u64 (Go.bits .or .u64 x5_1 (ji9)) 1)))), a0.extract ((ji17) : Int).toNat a0.size, true)) else (none)) else (none)) = some (r1, r2, r3) := by first | (rw [hji17] at H; exact H) | (simp only [hji17] at H ⊢; exact H)
                      have hji17w : (IntKind.i64.wrap (x11_1 + 1)) = ji17 := (i64_w _).trans hji17
                      by_cases c18 : 0 ≤ (ji17)
                      · rw [if_pos c18] at H
                        have c18b0 := eq_true c18
                        have c18b1 : decide (0 ≤ (ji17)) = true := decide_eq_true c18
                        clear c18
                        by_cases c19 : (ji17) ≤ (a0.size : Int)
                        · rw [if_pos c19] at H
                          have c19b0 := eq_true c19
                          have c19b1 : decide ((ji17) ≤ (a0.size : Int)) = true := decide_eq_true c19
                          clear c19
                          simp only [Option.some.injEq, Prod.mk.injEq] at H
                          obtain ⟨rfl, rfl, rfl⟩ := H
                          go_wp2
                          repeat (go_quiet (fail); try go_wp2)
                          go_ret3
                          exact ⟨by first | rfl | (simp [errW_none, errW_some] <;> rfl) | (simp only [← hji2, ← hji7, ← hji9, ← hji17]; first | rfl | (simp [errW_none, errW_some] <;> rfl)) | (simp [*, errW_none, errW_some] <;> rfl), by repeat (first | (with_reducible first | exact HB.out | apply below_alloc | apply pw_below_drewN | apply below_drew1) | exact HB.out)⟩
                        · rw [if_neg c19] at H
                          exact absurd H (by simp)
                      · rw [if_neg c18] at H
                        exact absurd H (by simp)
                    · rw [if_neg c16] at H
                      have c16b0 : decide ((bt a0 x11_1) < 128) = false := decide_eq_false c16
                      clear c16
                      have H' := Aside0.mk H
                      clear H
                      go_wp2
                      repeat (go_quiet (fail); try go_wp2)
                      go_roundg kj9
                      case measure => have := HK1.out; have := HJ9.out; omega
                      case rel => exact ⟨((Go.bits .or .u64 x5_1 (ji9))), (wrap64 (x11_1 + 1)), (by first | rfl | (simp; done) | (simp only [← hji9] <;> (first | rfl | simp)) | (simp [*]; done)), (by first | rfl | (simp; done) | (simp [*]; done)), H', ⟨by have := HK1.out; have := HJ9.out; omega⟩, ⟨by repeat (first | (with_reducible first | exact HB.out | apply below_alloc | apply pw_below_drewN | apply below_drew1) | exact HB.out)⟩⟩
            · rw [if_neg c8] at H
              exact absurd H (by simp)
          · rw [if_neg c5] at H
            exact absurd H (by simp)
        · rw [if_neg c4] at H
          exact absurd H (by simp)
      · rw [if_neg c3] at H
        have c3b0 : decide (x11_1 < ji2) = false := decide_eq_false c3
        clear c3
        simp only [Option.some.injEq, Prod.mk.injEq] at H
        obtain ⟨rfl, rfl, rfl⟩ := H
        go_wp2
        repeat (go_quiet (fail); try go_wp2)
        go_ret3
        exact ⟨by first | rfl | (simp [errW_none, errW_some] <;> rfl) | (simp only [← hji2]; first | rfl | (simp [errW_none, errW_some] <;> rfl)) | (simp [*, errW_none, errW_some] <;> rfl), by repeat (first | (with_reducible first | exact HB.out | apply below_alloc | apply pw_below_drewN | apply below_drew1) | exact HB.out)⟩
end Go.Proofs.Ytfjmnaobfbmllaa.M
namespace Go.Proofs.Ytfjmnaobfbmllaa.M
open Go.RowKit Go.Proofs.YtfjmnaobfbmllaaW.PrintWords Go.Proofs.YtfjmnaobfbmllaaW.PrintLast Go.Proofs.YtfjmnaobfbmllaaW.PrintMore
set_option linter.unusedVariables false
set_option linter.unusedSimpArgs false
theorem u8_or (b : Nat) (h : b < 256) : Go.bits .or .u8 (b : Int) 128 = ((b % 128 + 128 : Nat) : Int) := by
  have : ∀ n : Fin 256, Go.bits .or .u8 (n.val : Int) 128 = ((n.val % 128 + 128 : Nat) : Int) := by decide +kernel
  exact this ⟨b, h⟩
theorem u8_clear (b : Nat) (h : b < 256) : Go.bits .andNot .u8 (b : Int) 128 = ((b % 128 : Nat) : Int) := by
  have : ∀ n : Fin 256, Go.bits .andNot .u8 (n.val : Int) 128 = ((n.val % 128 : Nat) : Int) := by decide +kernel
  exact this ⟨b, h⟩
theorem wu64 (n : Int) (h0 : 0 ≤ n) (h1 : n < 18446744073709551616) : IntKind.u64.wrap n = n := by rw [IntKind.wrap_u64]; omega
theorem nib_l0 (f : Nat) : ∀ (k u : Nat) (acc : List Int), u < 128 * 128 ^ f → f < k → acc.length + f ≤ 100 → nib_Int.l0 k u acc = some (strOfNums (acc ++ varF f u)) := by
  induction f with
  | zero =>
    intro k u acc hu hk hb
    obtain ⟨k, rfl⟩ : ∃ m, k = m + 1 := ⟨k - 1, by omega⟩
    have hu : u < 128 := by simpa using hu
    have c1 : ¬ (u : Int) ≥ 128 := by omega
    have c2 : acc.length < 140737488355328 := by omega
    simp only [nib_Int.l0, varF]
    rw [if_neg c1, if_pos c2, show (u : Int) % 256 = u by omega]
  | succ f ih =>
    intro k u acc hu hk hb
    obtain ⟨k, rfl⟩ : ∃ m, k = m + 1 := ⟨k - 1, by omega⟩
    have c2 : acc.length < 140737488355328 := by omega
    simp only [nib_Int.l0]
    unfold varF
    by_cases h : u < 128
    · have c1 : ¬ (u : Int) ≥ 128 := by omega
      rw [if_neg c1, if_pos c2, if_pos h, show (u : Int) % 256 = u by omega]
    · have c1 : (u : Int) ≥ 128 := by omega
      rw [if_pos c1, if_pos c2, if_neg h, show (u : Int) % 256 = ((u % 256 : Nat) : Int) by omega, u8_or (u % 256) (by omega), show (u : Int) / 128 = ((u / 128 : Nat) : Int) by omega,
        ih k (u / 128) _ (by rw [Nat.pow_succ] at hu; omega) (by omega) (by simp; omega), List.append_assoc, show u % 256 % 128 = u % 128 by omega]
      rfl
theorem foldI_nat (n : Nat) : foldI (n : Int) = 2 * n := by
  unfold foldI
  rw [if_neg (by omega), Int.toNat_natCast]
theorem nib_pure (n : Nat) (hn : n ≤ 4611686018427387904) (k : Nat) (hk : 11 < k) : nib_Int.f k n = some (strOfNums (intB n)) := by
  unfold nib_Int.f intB
  have e0 : (n : Int) / 9223372036854775808 = 0 := by omega
  have e1 : Go.bits .xor .u64 ((2 * n : Nat) : Int) ((0 : Nat) : Int) = ((2 * n : Nat) : Int) := by
    rw [bits_xor_u64_nat _ _ (by omega) (by omega), Nat.xor_zero]
  rw [e0, wu64 (n : Int) (by omega) (by omega), wu64 0 (by omega) (by omega), wu64 ((n : Int) * 2) (by omega) (by omega), show (n : Int) * 2 = ((2 * n : Nat) : Int) by omega,
    show (0 : Int) = ((0 : Nat) : Int) from rfl, e1, nib_l0 10 k (2 * n) [] (by
      have : (128 : Nat) ^ 10 = 1180591620717411303424 := by decide
      omega) (by omega) (by simp), foldI_nat]
  rfl
def takeR (s : ByteArray) : Int × ByteArray × Bool := match takeV 0 0 (bytesOf s) with
  | none => (0, ⟨#[]⟩, false)
  | some (u, rest) => (unfoldI u, strOfNums rest, true)
def takeX : Option (Nat × List Int) → Int × ByteArray × Bool
  | none => (0, ⟨#[]⟩, false)
  | some (u, rest) => (unfoldI u, strOfNums rest, true)
theorem takeR_eq (s : ByteArray) : takeR s = takeX (takeV 0 0 (bytesOf s)) := by
  unfold takeR takeX; rfl
theorem extract_drop (s : ByteArray) (i : Nat) : s.extract i s.size = strOfNums ((bytesOf s).drop i) := by
  rw [← bytes_drop, str_bytes]
theorem i64_xor_zero (n : Nat) (h : n < 9223372036854775808) : Go.bits .xor .i64 (n : Int) 0 = (n : Int) := by
  show IntKind.i64.wrap ((BitVec.ofInt 64 (n : Int) ^^^ BitVec.ofInt 64 0).toNat : Int) = _
  have e : BitVec.ofInt 64 0 = 0#64 := by decide
  rw [e, BitVec.xor_zero, BitVec.ofInt_natCast, BitVec.toNat_ofNat, Nat.mod_eq_of_lt (by omega), IntKind.wrap_i64]
  omega
theorem i64_xor_ones (n : Nat) (h : n < 9223372036854775808) : Go.bits .xor .i64 (n : Int) (-1) = -(n : Int) - 1 := by
  show IntKind.i64.wrap ((BitVec.ofInt 64 (n : Int) ^^^ BitVec.ofInt 64 (-1)).toNat : Int) = _
  have e : BitVec.ofInt 64 (-1) = BitVec.allOnes 64 := by decide
  rw [e, BitVec.xor_allOnes, BitVec.toNat_not, BitVec.ofInt_natCast, BitVec.toNat_ofNat, Nat.mod_eq_of_lt (by omega), IntKind.wrap_i64]
  omega
theorem nib_unfold (u : Nat) (hu : u < 18446744073709551616) : Go.bits .xor .i64 (wrap64 ((u : Int) / 2)) (wrap64 (-(wrap64 (Go.bits .and .u64 (u : Int) 1)))) = unfoldI u := by
  have e1 : Go.bits .and .u64 (u : Int) 1 = ((u % 2 : Nat) : Int) := by
    have := bits_and_u64_nat u 1 hu (by decide)
    rw [Nat.and_one_is_mod] at this
    exact this
  rw [e1, w64 ((u : Int) / 2) (by omega) (by omega), w64 ((u % 2 : Nat) : Int) (by omega) (by omega), w64 (-((u % 2 : Nat) : Int)) (by omega) (by omega), show (u : Int) / 2 = ((u / 2 : Nat) : Int) by omega]
  unfold unfoldI
  by_cases h : u % 2 = 1
  · rw [if_pos h, h]
    exact i64_xor_ones (u / 2) (by omega)
  · rw [if_neg h, show u % 2 = 0 by omega]
    exact i64_xor_zero (u / 2) (by omega)
theorem pow_le_56 (i : Nat) (h : i ≤ 8) : 2 ^ (7 * i) ≤ 72057594037927936 := by
  have := Nat.pow_le_pow_right (show 0 < 2 by decide) (show 7 * i ≤ 56 by omega)
  exact this
theorem shl_nat (m i : Nat) (hi : i ≤ 9) : shl .u64 (m : Int) ((7 * i : Nat) : Int) = IntKind.u64.wrap ((m * 2 ^ (7 * i) : Nat) : Int) := by
  unfold shl
  have e : min (((7 * i : Nat) : Int)).toNat IntKind.u64.bits = 7 * i := by
    have : IntKind.u64.bits = 64 := rfl
    rw [Int.toNat_natCast, this]; omega
  rw [e]
  simp
theorem nib_or (u m i : Nat) (hi : i ≤ 9) (hu : u < 2 ^ (7 * i)) (hm : m * 2 ^ (7 * i) < 18446744073709551616) :
    Go.bits .or .u64 (u : Int) (shl .u64 (m : Int) ((7 * i : Nat) : Int)) = ((u + m * 2 ^ (7 * i) : Nat) : Int) := by
  have hp : 2 ^ (7 * i) ≤ 2 ^ (7 * 9) := Nat.pow_le_pow_right (by decide) (by omega)
  have h9 : (2 : Nat) ^ (7 * 9) = 9223372036854775808 := by decide
  rw [shl_nat m i hi, wu64 _ (by omega) (by omega), bits_or_u64_nat u _ (by omega) hm, Nat.or_comm, Nat.mul_comm m, ← Nat.two_pow_add_eq_or_of_lt hu m, Nat.add_comm]
theorem nib_fin (k : Nat) (s : ByteArray) (u i : Nat) (b x : Int) (hi : i < s.size) (h9 : i ≤ 9) (hu : u < 18446744073709551616) (hb : b < 128) :
    nib_TakeInt.j1 (k + 1) s u i b x i false = some (unfoldI u, strOfNums ((bytesOf s).drop (i + 1)), true) := by
  have hw : wrap64 ((i : Int) + 1) = ((i + 1 : Nat) : Int) := by rw [w64 _ (by omega) (by omega)]; omega
  have c1 : (0 : Int) ≤ ((i + 1 : Nat) : Int) := by omega
  have c2 : ((i + 1 : Nat) : Int) ≤ (s.size : Int) := by omega
  simp only [nib_TakeInt.j1]
  rw [if_neg Bool.false_ne_true, if_pos hb, hw, if_pos c1, if_pos c2, nib_unfold u hu, Int.toNat_natCast, extract_drop]
theorem nib_bad (k : Nat) (s : ByteArray) (u : Int) (i b x y : Int) : nib_TakeInt.j1 (k + 1) s u i b x y true = some (0, ⟨#[]⟩, false) := by
  simp only [nib_TakeInt.j1]
  exact if_pos trivial
theorem take_nil (i u : Nat) : takeV i u [] = none := by cases i <;> rfl
theorem nibtake_loop (s : ByteArray) (d : Nat) : ∀ (k i u : Nat), i + d = min s.size 10 → 2 * d + 1 < k → u < 2 ^ (7 * i) →
    nib_TakeInt.l0 k s u ((min s.size 10 : Nat) : Int) i = some (takeX (takeV i u ((bytesOf s).drop i))) := by
  induction d with
  | zero =>
    intro k i u hi hk hu
    obtain ⟨k, rfl⟩ : ∃ m, k = m + 1 := ⟨k - 1, by omega⟩
    have c1 : ¬ (i : Int) < ((min s.size 10 : Nat) : Int) := by omega
    simp only [nib_TakeInt.l0]
    rw [if_neg c1]
    by_cases h10 : i = 10
    · subst h10
      cases (bytesOf s).drop 10 with
      | nil => rfl
      | cons b bs => simp only [takeV]; rw [if_pos (by decide)]; rfl
    · rw [List.drop_of_length_le (by rw [bytesOf_length]; omega), take_nil]; rfl
  | succ d ih =>
    intro k i u hi hk hu
    obtain ⟨k, rfl⟩ : ∃ m, k = m + 2 := ⟨k - 2, by omega⟩
    have hlt : i < s.size := by omega
    have h9 : i ≤ 9 := by omega
    have g1 : i + 1 + d = min s.size 10 := by omega
    have g2 : 2 * d + 1 < k := by omega
    have c1 : (i : Int) < ((min s.size 10 : Nat) : Int) := by omega
    have c2 : (0 : Int) ≤ (i : Int) := by omega
    have c3 : (i : Int) < (s.size : Int) := by omega
    have e7 : wrap64 (7 * (i : Int)) = ((7 * i : Nat) : Int) := by rw [w64 _ (by omega) (by omega)]; omega
    have c4 : (0 : Int) ≤ ((7 * i : Nat) : Int) := by omega
    obtain ⟨b, hb⟩ := Int.eq_ofNat_of_zero_le (bt_range s i).1
    have hb2 := (bt_range s i).2
    have hpos := Nat.two_pow_pos (7 * i)
    simp only [nib_TakeInt.l0]
    rw [if_pos c1, if_pos c2, if_pos c3, e7, if_pos c4, drop_step s i hlt, hb]
    rw [hb] at hb2
    clear hb e7
    rw [u8_clear b (by omega), wu64 ((b % 128 : Nat) : Int) (by omega) (by omega)]
    have hX : takeX none = (0, ⟨#[]⟩, false) := rfl
    by_cases h91 : i = 9 ∧ 1 < b
    · have d1 : (i : Int) = 9 := by omega
      have d2 : (b : Int) > 1 := by omega
      have hR : takeV i u ((b : Int) :: (bytesOf s).drop (i + 1)) = none := by
        simp only [takeV]
        rw [if_neg (by omega)]
        by_cases hb1 : (b : Int) < 128
        · rw [if_pos hb1, if_pos (Or.inl ⟨h91.1, d2⟩)]
        · rw [if_neg hb1, if_pos h91.1]
      rw [if_pos d1, if_pos d2, nib_bad, hR, hX]
    · have hm : b % 128 * 2 ^ (7 * i) < 18446744073709551616 := by
        by_cases h9' : i = 9
        · have hb1 : b % 128 ≤ 1 := by omega
          have := Nat.mul_le_mul_right (2 ^ (7 * i)) hb1
          have e : 2 ^ (7 * i) = 9223372036854775808 := by subst h9'; decide
          omega
        · have := Nat.mul_le_mul (show b % 128 ≤ 127 by omega) (pow_le_56 i (by omega))
          omega
      rw [nib_or u (b % 128) i h9 hu hm]
      have hu2 : u + b % 128 * 2 ^ (7 * i) < 2 ^ (7 * (i + 1)) := by
        rw [pow7]
        have := Nat.mul_le_mul_right (2 ^ (7 * i)) (show b % 128 ≤ 127 by omega)
        omega
      have hu3 : u + b % 128 * 2 ^ (7 * i) < 18446744073709551616 := by
        by_cases h9' : i = 9
        · have hb1 : b % 128 ≤ 1 := by omega
          have := Nat.mul_le_mul_right (2 ^ (7 * i)) hb1
          have e : 2 ^ (7 * i) = 9223372036854775808 := by subst h9'; decide
          omega
        · have h1 := pow_le_56 i (by omega)
          have := Nat.mul_le_mul (show b % 128 ≤ 127 by omega) h1
          omega
      have hL : (if (i : Int) = 9 then if (b : Int) > 1 then nib_TakeInt.j1 (k + 1) s ((u + b % 128 * 2 ^ (7 * i) : Nat) : Int) i b ((min s.size 10 : Nat) : Int) i true else if (i : Int) > 0 then nib_TakeInt.j1 (k + 1) s ((u + b % 128 * 2 ^ (7 * i) : Nat) : Int) i b ((min s.size 10 : Nat) : Int) i ((b : Int) == 0) else nib_TakeInt.j1 (k + 1) s ((u + b % 128 * 2 ^ (7 * i) : Nat) : Int) i b ((min s.size 10 : Nat) : Int) i false
          else if (i : Int) > 0 then nib_TakeInt.j1 (k + 1) s ((u + b % 128 * 2 ^ (7 * i) : Nat) : Int) i b ((min s.size 10 : Nat) : Int) i ((b : Int) == 0) else nib_TakeInt.j1 (k + 1) s ((u + b % 128 * 2 ^ (7 * i) : Nat) : Int) i b ((min s.size 10 : Nat) : Int) i false)
          = nib_TakeInt.j1 (k + 1) s ((u + b % 128 * 2 ^ (7 * i) : Nat) : Int) i b ((min s.size 10 : Nat) : Int) i (decide (0 < i ∧ b = 0)) := by
        have hin : (if (i : Int) > 0 then nib_TakeInt.j1 (k + 1) s ((u + b % 128 * 2 ^ (7 * i) : Nat) : Int) i b ((min s.size 10 : Nat) : Int) i ((b : Int) == 0) else nib_TakeInt.j1 (k + 1) s ((u + b % 128 * 2 ^ (7 * i) : Nat) : Int) i b ((min s.size 10 : Nat) : Int) i false)
          = nib_TakeInt.j1 (k + 1) s ((u + b % 128 * 2 ^ (7 * i) : Nat) : Int) i b ((min s.size 10 : Nat) : Int) i (decide (0 < i ∧ b = 0)) := by
          by_cases h0 : 0 < i
          · rw [if_pos (show (i : Int) > 0 by omega)]
            congr 1
            rw [Bool.eq_iff_iff]; simp; omega
          · rw [if_neg (show ¬ (i : Int) > 0 by omega)]
            congr 1
            rw [Bool.eq_iff_iff]; simp; omega
        rw [hin]
        by_cases h9' : (i : Int) = 9
        · rw [if_pos h9', if_neg (show ¬ (b : Int) > 1 by omega)]
        · rw [if_neg h9']
      rw [hL]
      by_cases hz : 0 < i ∧ b = 0
      · have hR : takeV i u ((b : Int) :: (bytesOf s).drop (i + 1)) = none := by
          simp only [takeV]
          rw [if_neg (by omega), if_pos (by omega), if_pos (Or.inr ⟨hz.1, by omega⟩)]
        rw [decide_eq_true hz, nib_bad, hR, hX]
      · rw [decide_eq_false hz]
        by_cases hb1 : (b : Int) < 128
        · have hR : takeV i u ((b : Int) :: (bytesOf s).drop (i + 1)) = some (u + b % 128 * 2 ^ (7 * i), (bytesOf s).drop (i + 1)) := by
            simp only [takeV]
            rw [if_neg (by omega), if_pos hb1, if_neg (by omega), Int.toNat_natCast, show b % 128 = b by omega]
          rw [nib_fin k s _ i b _ hlt h9 hu3 hb1, hR]; rfl
        · have h9' : ¬ i = 9 := by omega
          have hR : takeV i u ((b : Int) :: (bytesOf s).drop (i + 1)) = takeV (i + 1) (u + b % 128 * 2 ^ (7 * i)) ((bytesOf s).drop (i + 1)) := by
            simp only [takeV]
            rw [if_neg (by omega), if_neg hb1, if_neg h9', show ((b : Int) - 128).toNat = b % 128 by omega]
          have hw : wrap64 ((i : Int) + 1) = ((i + 1 : Nat) : Int) := by rw [w64 _ (by omega) (by omega)]; omega
          simp only [nib_TakeInt.j1]
          rw [if_neg Bool.false_ne_true, if_neg hb1, hw, hR]
          exact ih k (i + 1) _ g1 g2 hu2
theorem nibtake_pure (s : ByteArray) (k : Nat) (hk : 30 < k) : nib_TakeInt.f k s = some (takeR s) := by
  unfold nib_TakeInt.f
  have hm : mn (s.size : Int) 10 = ((min s.size 10 : Nat) : Int) := by unfold mn; split <;> omega
  have h0 : 0 < 2 ^ (7 * 0) := Nat.two_pow_pos _
  have h1 : 2 * min s.size 10 + 1 < k := by omega
  have := nibtake_loop s (min s.size 10) k 0 0 (Nat.zero_add _) h1 h0
  rw [Int.natCast_zero, List.drop_zero] at this
  rw [hm, takeR_eq]
  exact this
end Go.Proofs.Ytfjmnaobfbmllaa.M
namespace Go.Proofs.Ytfjmnaobfbmllaa.M
open Go.RowKit Go.Proofs.YtfjmnaobfbmllaaW.PrintWords Go.Proofs.YtfjmnaobfbmllaaW.PrintLast Go.Proofs.YtfjmnaobfbmllaaW.PrintMore
set_option linter.unusedVariables false
set_option linter.unusedSimpArgs false
theorem intB_len (n : Int) : 1 ≤ (intB n).length ∧ (intB n).length ≤ 11 := varF_len 10 _
theorem bytes_append (s t : ByteArray) : bytesOf (s ++ t) = bytesOf s ++ bytesOf t := by
  unfold bytesOf
  rw [ByteArray.data_append, Array.toList_append, List.map_append]
theorem str_append (xs : List Int) (s : ByteArray) (h : ∀ x ∈ xs, 0 ≤ x ∧ x ≤ 255) : strOfNums xs ++ s = strOfNums (xs ++ bytesOf s) := by
  apply bytes_inj
  rw [bytes_append, bytesOf_strOfNums xs h, bytesOf_strOfNums]
  intro x hx
  rw [List.mem_append] at hx
  rcases hx with hx | hx
  · exact h x hx
  · exact bytesOf_range s x hx
theorem str_app2 (xs ys : List Int) (h : ∀ x ∈ xs, 0 ≤ x ∧ x ≤ 255) (h2 : ∀ x ∈ ys, 0 ≤ x ∧ x ≤ 255) : strOfNums xs ++ strOfNums ys = strOfNums (xs ++ ys) := by
  rw [str_append xs _ h, bytesOf_strOfNums ys h2]
theorem intB_range (n : Nat) (hn : n ≤ 4611686018427387904) : ∀ b ∈ intB n, 0 ≤ b ∧ b ≤ 255 := by
  unfold intB
  rw [foldI_nat]
  refine varF_range 10 _ ?_
  have : (128 : Nat) ^ 10 = 1180591620717411303424 := by decide
  omega
def strB (s : ByteArray) : List Int := intB s.size ++ bytesOf s
theorem strB_range (s : ByteArray) (hs : s.size ≤ 4611686018427387904) : ∀ b ∈ strB s, 0 ≤ b ∧ b ≤ 255 := by
  intro b hb
  unfold strB at hb
  rw [List.mem_append] at hb
  rcases hb with hb | hb
  · exact intB_range _ hs b hb
  · exact bytesOf_range s b hb
theorem strB_len (s : ByteArray) : (strB s).length ≤ 11 + s.size := by
  unfold strB
  rw [List.length_append, bytesOf_length]
  have := (intB_len s.size).2
  omega
def nibInt.f (n : Int) : Option ByteArray := if 0 ≤ n ∧ n ≤ 4611686018427387904 then some (strOfNums (intB n)) else none
theorem nibInt.calls (n : Int) (r : ByteArray) (w : World) (h : nibInt.f n = some r) : Calls Try.prog 98 #[.int .i64 n] w fun e w' => e = .returned (.string r) ∧ Below w.heap.size w w' := by
  unfold nibInt.f at h
  split at h
  · rename_i hn
    obtain ⟨m, rfl⟩ := Int.eq_ofNat_of_zero_le hn.1
    exact nib_Int.calls 12 m r w (by rw [nib_pure m (by omega) 12 (by omega)]; exact h)
  · cases h
def nibTake.f (s : ByteArray) : Option (Int × ByteArray × Bool) := some (takeR s)
theorem nibTake.calls (s : ByteArray) (r1 : Int) (r2 : ByteArray) (r3 : Bool) (w : World) (h : nibTake.f s = some (r1, r2, r3)) :
    Calls Try.prog 120 #[.string s] w fun e w' => e = .returned (.tuple #[.int .i64 r1, .string r2, .bool r3]) ∧ Below w.heap.size w w' :=
  nib_TakeInt.calls 31 s r1 r2 r3 w (by rw [nibtake_pure s 31 (by omega)]; exact h)
def textR (m : Int) (t : Int × ByteArray × Bool) : ByteArray × ByteArray × Bool :=
  if t.2.2 = true ∧ 0 ≤ t.1 ∧ t.1 ≤ m ∧ t.1 ≤ t.2.1.size then (t.2.1.extract 0 t.1.toNat, t.2.1.extract t.1.toNat t.2.1.size, true) else (⟨#[]⟩, ⟨#[]⟩, false)
end Go.Proofs.Ytfjmnaobfbmllaa.M
namespace Go.Proofs.Ytfjmnaobfbmllaa.M
open Go.RowKit Go.Proofs.YtfjmnaobfbmllaaW.PrintWords Go.Proofs.YtfjmnaobfbmllaaW.PrintLast Go.Proofs.YtfjmnaobfbmllaaW.PrintMore
set_option linter.unusedVariables false
set_option linter.unusedSimpArgs false
def slotE (x : S33) : List Int := if x.f0 then intB 1 ++ strB x.f1 else intB 0
def numsE (x : S65) : List Int := [x.f0, x.f1.f0, x.f1.f1, x.f1.f2, x.f2, x.f3] ++ (if x.f0 = 1 ∨ x.f0 = 2 then [x.f4, x.f5, x.f8] else [])
def tailE (x : S65) : List Int := if x.f0 = 1 ∨ x.f0 = 2 then slotE x.f6 ++ slotE x.f7 else []
def encE (x : S65) : List Int := (numsE x).flatMap intB ++ tailE x
def small (n : Int) : Prop := 0 ≤ n ∧ n ≤ 4611686018427387904
theorem nums_small {x : S65} (h : GoodE x) : ∀ n ∈ numsE x, small n := by
  obtain ⟨h1, h2, h3, h4⟩ := h
  unfold KnownP at h1
  intro n hn
  unfold numsE at hn
  unfold small
  rw [List.mem_append] at hn
  rcases hn with hn | hn
  · simp only [List.mem_cons, List.not_mem_nil, or_false] at hn
    have hk : 1 ≤ x.f0 ∧ x.f0 ≤ 4 := by rcases h4 with h | h | h <;> omega
    rcases hn with rfl | rfl | rfl | rfl | rfl | rfl <;> omega
  · split at hn
    · simp only [List.mem_cons, List.not_mem_nil, or_false] at hn
      rcases h4 with h | h | h
      · have := h.2.1.1; have := h.2.1.2.1
        rcases hn with rfl | rfl | rfl <;> omega
      · have := h.2.1.1; have := h.2.1.2.1
        rcases hn with rfl | rfl | rfl <;> omega
      · omega
    · cases hn
theorem intB_small {n : Int} (h : small n) : (∀ b ∈ intB n, 0 ≤ b ∧ b ≤ 255) := by
  obtain ⟨m, rfl⟩ := Int.eq_ofNat_of_zero_le h.1
  have := h.2
  exact intB_range m (by omega)
theorem flat_small (l : List Int) (h : ∀ n ∈ l, small n) : ∀ b ∈ l.flatMap intB, 0 ≤ b ∧ b ≤ 255 := by
  intro b hb
  rw [List.mem_flatMap] at hb
  obtain ⟨n, hn, hb⟩ := hb
  exact intB_small (h n hn) b hb
theorem flat_len (l : List Int) : (l.flatMap intB).length ≤ 11 * l.length := by
  induction l with
  | nil => simp
  | cons n l ih =>
    rw [List.flatMap_cons, List.length_append, List.length_cons]
    have := (intB_len n).2
    omega
theorem slotE_range (x : S33) (h : x.f1.size ≤ 200) : ∀ b ∈ slotE x, 0 ≤ b ∧ b ≤ 255 := by
  intro b hb
  unfold slotE at hb
  split at hb
  · rw [List.mem_append] at hb
    rcases hb with hb | hb
    · exact intB_range 1 (by decide) b hb
    · exact strB_range x.f1 (by omega) b hb
  · exact intB_range 0 (by decide) b hb
theorem slotE_len (x : S33) (h : x.f1.size ≤ 200) : (slotE x).length ≤ 222 := by
  unfold slotE
  split
  · rw [List.length_append]
    have := (intB_len 1).2; have := strB_len x.f1; omega
  · have := (intB_len 0).2; omega
theorem good_slots {x : S65} (h : GoodE x) : x.f6.f1.size ≤ 200 ∧ x.f7.f1.size ≤ 200 := by
  rcases h.2.2.2 with h | h | h
  · exact ⟨((odd_fine _).mp h.2.1.2.2.1).2, ((odd_fine _).mp h.2.1.2.2.2).2⟩
  · exact ⟨((odd_fine _).mp h.2.1.2.2.1).2, ((odd_fine _).mp h.2.1.2.2.2).2⟩
  · rw [h.2.2.2.2.1, h.2.2.2.2.2]; exact ⟨fine_z.2, fine_z.2⟩
theorem encE_len {x : S65} (h : GoodE x) : (encE x).length ≤ 600 := by
  unfold encE tailE
  rw [List.length_append]
  have h1 := flat_len (numsE x)
  have h2 : (numsE x).length ≤ 9 := by unfold numsE; split <;> simp
  have := slotE_len _ (good_slots h).1
  have := slotE_len _ (good_slots h).2
  split
  · rw [List.length_append]; omega
  · rw [List.length_nil]; omega
def encX (x : S65) : ByteArray × Int := if GoodE x then (strOfNums (encE x), 0) else (⟨#[]⟩, 1)
end Go.Proofs.Ytfjmnaobfbmllaa.M
namespace Go.Proofs.Ytfjmnaobfbmllaa.M
open Go.RowKit Go.Proofs.YtfjmnaobfbmllaaW.PrintWords Go.Proofs.YtfjmnaobfbmllaaW.PrintLast Go.Proofs.YtfjmnaobfbmllaaW.PrintMore
attribute [local go_sem] max2_int min2_int max_two min_two max_three min_three max_four min_four   -- for this text's walks alone
set_option linter.unusedVariables false
set_option linter.unusedSimpArgs false
def nib_Str.f (a0 : ByteArray) : Option (ByteArray) := (nibInt.f (a0.size : Int)).bind fun t101 => (if t101.size + a0.size ≤ 9223372036854775807 then (some (t101 ++ a0)) else (none))
set_option maxHeartbeats 8000000 in
set_option maxRecDepth 100000 in
theorem nib_Str.calls (a0 : ByteArray) (r : ByteArray) (w : World) (h : nib_Str.f a0 = some r) :
    Calls Try.prog 122 #[.string a0] w fun e w' => e = .returned (.string r) ∧ Below w.heap.size w w' := by
  have HB := Aside0.mk (Below.refl w.heap.size w)
  have H : ((nibInt.f (a0.size : Int)).bind fun t101 => (if t101.size + a0.size ≤ 9223372036854775807 then (some (t101 ++ a0)) else (none))) = some r := h
  clear h
  replace H := Option.bind_eq_some_iff.mp H
  obtain ⟨t101, A20, H⟩ := H
  replace H : (if t101.size + a0.size ≤ 9223372036854775807 then (some (t101 ++ a0)) else (none)) = some r := H
  have A2 := Aside0.mk A20
  clear A20
  by_cases c3 : t101.size + a0.size ≤ 9223372036854775807
  · rw [if_pos c3] at H
    have c3b0 := eq_true c3
    have c3b1 : decide (t101.size + a0.size ≤ 9223372036854775807) = true := decide_eq_true c3
    try have c3b2 : (9223372036854775807 < t101.size + a0.size) = False := eq_false (Nat.not_lt.2 c3)
    obtain rfl := Option.some.inj H
    go_enter Try.func122, Try.ntmps122
    go_wp2_with (first | ((with_reducible refine gate_callee (f := 98) rfl ?_); refine goesL_ (some 5) rfl rfl Try.func98 (by kernel_rfl) rfl #[.int .i64 (a0.size : Int)] rfl (by (try simp only [List.map_toArray, List.map_cons, List.map_nil]); first | done | rfl | (simp only [List.length_drop, List.length_take]; rfl)) ?_; (with_reducible refine (nibInt.calls (a0.size : Int) t101 _ A2.out).mono ?_); rintro e w4 ⟨rfl, hb⟩; refine ⟨_, rfl, ?_⟩; have n0_ := Aside0.mk (below_step (by repeat (first | (with_reducible first | exact HB.out | apply below_alloc | apply pw_below_drewN | apply below_drew1) | exact HB.out)) hb); clear HB; have HB := n0_; clear n0_; (try clear hb); (try clear hb2); (try clear hk); (try clear hi)))
    go_ret
    exact ⟨by first | rfl | (simp [errW_none, errW_some] <;> rfl) | (simp [*, errW_none, errW_some] <;> rfl), by repeat (first | (with_reducible first | exact HB.out | apply below_alloc | apply pw_below_drewN | apply below_drew1) | exact HB.out)⟩
  · rw [if_neg c3] at H
    exact absurd H (by simp)
end Go.Proofs.Ytfjmnaobfbmllaa.M
namespace Go.Proofs.Ytfjmnaobfbmllaa.M
open Go.RowKit Go.Proofs.YtfjmnaobfbmllaaW.PrintWords Go.Proofs.YtfjmnaobfbmllaaW.PrintLast Go.Proofs.YtfjmnaobfbmllaaW.PrintMore
attribute [local go_sem] max2_int min2_int max_two min_two max_three min_three max_four min_four   -- for this text's walks alone
set_option linter.unusedVariables false
set_option linter.unusedSimpArgs false
def nib_TakeStr.f (a0 : ByteArray) (a1 : Int) : Option (ByteArray × ByteArray × Bool) := (nibTake.f a0).bind fun bt101 => (if bt101.2.2 = true then (if bt101.1 < 0 then (some ((⟨#[]⟩ : ByteArray), (⟨#[]⟩ : ByteArray), false)) else (if bt101.1 > (mn a1 (bt101.2.1.size : Int)) then (some ((⟨#[]⟩ : ByteArray), (⟨#[]⟩ : ByteArray), false)) else (if 0 ≤ bt101.1 then (if bt101.1 ≤ (bt101.2.1.size : Int) then (some (bt101.2.1.extract 0 (bt101.1 : Int).toNat, bt101.2.1.extract (bt101.1 : Int).toNat bt101.2.1.size, true)) else (none)) else (none)))) else (some ((⟨#[]⟩ : ByteArray), (⟨#[]⟩ : ByteArray), false)))
set_option maxHeartbeats 8000000 in
set_option maxRecDepth 100000 in
theorem nib_TakeStr.calls (a0 : ByteArray) (a1 : Int) (r1 : ByteArray) (r2 : ByteArray) (r3 : Bool) (w : World) (h : nib_TakeStr.f a0 a1 = some (r1, r2, r3)) :
    Calls Try.prog 126 #[.string a0, .int .i64 a1] w fun e w' => e = .returned (.tuple #[.string r1, .string r2, .bool r3]) ∧ Below w.heap.size w w' := by
  have HB := Aside0.mk (Below.refl w.heap.size w)
  have H : ((nibTake.f a0).bind fun bt101 => (if bt101.2.2 = true then (if bt101.1 < 0 then (some ((⟨#[]⟩ : ByteArray), (⟨#[]⟩ : ByteArray), false)) else (if bt101.1 > (mn a1 (bt101.2.1.size : Int)) then (some ((⟨#[]⟩ : ByteArray), (⟨#[]⟩ : ByteArray), false)) else (if 0 ≤ bt101.1 then (if bt101.1 ≤ (bt101.2.1.size : Int) then (some (bt101.2.1.extract 0 (bt101.1 : Int).toNat, bt101.2.1.extract (bt101.1 : Int).toNat bt101.2.1.size, true)) else (none)) else (none)))) else (some ((⟨#[]⟩ : ByteArray), (⟨#[]⟩ : ByteArray), false)))) = some (r1, r2, r3) := h
  clear h
  replace H := Option.bind_eq_some_iff.mp H
  obtain ⟨⟨t101, t102, t103⟩, A30, H⟩ := H
  replace H : (if t103 = true then (if t101 < 0 then (some ((⟨#[]⟩ : ByteArray), (⟨#[]⟩ : ByteArray), false)) else (if t101 > (mn a1 (t102.size : Int)) then (some ((⟨#[]⟩ : ByteArray), (⟨#[]⟩ : ByteArray), false)) else (if 0 ≤ t101 then (if t101 ≤ (t102.size : Int) then (some (t102.extract 0 (t101 : Int).toNat, t102.extract (t101 : Int).toNat t102.size, true)) else (none)) else (none)))) else (some ((⟨#[]⟩ : ByteArray), (⟨#[]⟩ : ByteArray), false))) = some (r1, r2, r3) := H
  have A3 := Aside0.mk A30
  clear A30
  by_cases c4 : t103 = true
  · subst c4
    have H1 : (if t101 < 0 then (some ((⟨#[]⟩ : ByteArray), (⟨#[]⟩ : ByteArray), false)) else (if t101 > (mn a1 (t102.size : Int)) then (some ((⟨#[]⟩ : ByteArray), (⟨#[]⟩ : ByteArray), false)) else (if 0 ≤ t101 then (if t101 ≤ (t102.size : Int) then (some (t102.extract 0 (t101 : Int).toNat, t102.extract (t101 : Int).toNat t102.size, true)) else (none)) else (none)))) = some (r1, r2, r3) := by rw [if_pos rfl] at H; exact H
    clear H
    have H := H1
    clear H1
    by_cases c5 : t101 < 0
    · rw [if_pos c5] at H
      have c5b0 : decide (t101 < 0) = true := decide_eq_true c5
      clear c5
      simp only [Option.some.injEq, Prod.mk.injEq] at H
      obtain ⟨rfl, rfl, rfl⟩ := H
      go_enter Try.func126, Try.ntmps126
      go_wp2_with (first | (go_at_call 120; (with_reducible refine (nibTake.calls a0 t101 t102 true _ A3.out).mono ?_); rintro e w6 ⟨rfl, hb⟩; have n0_ := Aside0.mk (below_step (by repeat (first | (with_reducible first | exact HB.out | apply below_alloc | apply pw_below_drewN | apply below_drew1) | exact HB.out)) hb); clear HB; have HB := n0_; clear n0_; (try clear hb); (try clear hb2); (try clear hk); (try clear hi)))
      repeat (go_quiet (first | (go_at_call 120; (with_reducible refine (nibTake.calls a0 t101 t102 true _ A3.out).mono ?_); rintro e w6 ⟨rfl, hb⟩; have n0_ := Aside0.mk (below_step (by repeat (first | (with_reducible first | exact HB.out | apply below_alloc | apply pw_below_drewN | apply below_drew1) | exact HB.out)) hb); clear HB; have HB := n0_; clear n0_; (try clear hb); (try clear hb2); (try clear hk); (try clear hi))); try go_wp2_with (first | (go_at_call 120; (with_reducible refine (nibTake.calls a0 t101 t102 true _ A3.out).mono ?_); rintro e w6 ⟨rfl, hb⟩; have n0_ := Aside0.mk (below_step (by repeat (first | (with_reducible first | exact HB.out | apply below_alloc | apply pw_below_drewN | apply below_drew1) | exact HB.out)) hb); clear HB; have HB := n0_; clear n0_; (try clear hb); (try clear hb2); (try clear hk); (try clear hi))))
      go_ret3
      exact ⟨by first | rfl | (simp [errW_none, errW_some] <;> rfl) | (simp [*, errW_none, errW_some] <;> rfl), by repeat (first | (with_reducible first | exact HB.out | apply below_alloc | apply pw_below_drewN | apply below_drew1) | exact HB.out)⟩
    · rw [if_neg c5] at H
      have c5b0 : decide (t101 < 0) = false := decide_eq_false c5
      clear c5
      obtain ⟨ji7, hji7⟩ : ∃ j_ : Int, (mn a1 (t102.size : Int)) = j_ := ⟨_, rfl⟩
      replace H : (if t101 > (ji7) then (some ((⟨#[]⟩ : ByteArray), (⟨#[]⟩ : ByteArray), false)) else (if 0 ≤ t101 then (if t101 ≤ (t102.size : Int) then (some (t102.extract 0 (t101 : Int).toNat, t102.extract (t101 : Int).toNat t102.size, true)) else (none)) else (none))) = some (r1, r2, r3) := by first | (rw [hji7] at H; exact H) | (simp only [hji7] at H ⊢; exact H)
      (try rw [hji7] at A3)
      have hji7_ : (if (t102.size : Int) < a1 then (t102.size : Int) else a1) = ji7 := hji7
      by_cases c8 : t101 > (ji7)
      · rw [if_pos c8] at H
        have c8b0 : decide ((ji7) < t101) = true := decide_eq_true c8
        clear c8
        simp only [Option.some.injEq, Prod.mk.injEq] at H
        obtain ⟨rfl, rfl, rfl⟩ := H
        go_enter Try.func126, Try.ntmps126
        go_wp2_with (first | (go_at_call 120; (with_reducible refine (nibTake.calls a0 t101 t102 true _ A3.out).mono ?_); rintro e w9 ⟨rfl, hb⟩; have n0_ := Aside0.mk (below_step (by repeat (first | (with_reducible first | exact HB.out | apply below_alloc | apply pw_below_drewN | apply below_drew1) | exact HB.out)) hb); clear HB; have HB := n0_; clear n0_; (try clear hb); (try clear hb2); (try clear hk); (try clear hi)))
        repeat (go_quiet (first | (go_at_call 120; (with_reducible refine (nibTake.calls a0 t101 t102 true _ A3.out).mono ?_); rintro e w9 ⟨rfl, hb⟩; have n0_ := Aside0.mk (below_step (by repeat (first | (with_reducible first | exact HB.out | apply below_alloc | apply pw_below_drewN | apply below_drew1) | exact HB.out)) hb); clear HB; have HB := n0_; clear n0_; (try clear hb); (try clear hb2); (try clear hk); (try clear hi))); try go_wp2_with (first | (go_at_call 120; (with_reducible refine (nibTake.calls a0 t101 t102 true _ A3.out).mono ?_); rintro e w9 ⟨rfl, hb⟩; have n0_ := Aside0.mk (below_step (by repeat (first | (with_reducible first | exact HB.out | apply below_alloc | apply pw_below_drewN | apply below_drew1) | exact HB.out)) hb); clear HB; have HB := n0_; clear n0_; (try clear hb); (try clear hb2); (try clear hk); (try clear hi))))
        go_ret3
        exact ⟨by first | rfl | (simp [errW_none, errW_some] <;> rfl) | (simp only [← hji7]; first | rfl | (simp [errW_none, errW_some] <;> rfl)) | (simp [*, errW_none, errW_some] <;> rfl), by repeat (first | (with_reducible first | exact HB.out | apply below_alloc | apply pw_below_drewN | apply below_drew1) | exact HB.out)⟩
      · rw [if_neg c8] at H
        have c8b0 : decide ((ji7) < t101) = false := decide_eq_false c8
        clear c8
        by_cases c10 : 0 ≤ t101
        · rw [if_pos c10] at H
          have c10b0 := eq_true c10
          have c10b1 : decide (0 ≤ t101) = true := decide_eq_true c10
          clear c10
          by_cases c11 : t101 ≤ (t102.size : Int)
          · rw [if_pos c11] at H
            have c11b0 := eq_true c11
            have c11b1 : decide (t101 ≤ (t102.size : Int)) = true := decide_eq_true c11
            clear c11
            have c12b0 := eq_true (of_decide_eq_true (by first | (with_reducible assumption) | assumption) : 0 ≤ t101)
            have c13b0 := eq_true (of_decide_eq_true (by first | (with_reducible assumption) | assumption) : t101 ≤ (t102.size : Int))
            simp only [Option.some.injEq, Prod.mk.injEq] at H
            obtain ⟨rfl, rfl, rfl⟩ := H
            go_enter Try.func126, Try.ntmps126
            go_wp2_with (first | (go_at_call 120; (with_reducible refine (nibTake.calls a0 t101 t102 true _ A3.out).mono ?_); rintro e w14 ⟨rfl, hb⟩; have n0_ := Aside0.mk (below_step (by repeat (first | (with_reducible first | exact HB.out | apply below_alloc | apply pw_below_drewN | apply below_drew1) | exact HB.out)) hb); clear HB; have HB := n0_; clear n0_; (try clear hb); (try clear hb2); (try clear hk); (try clear hi)))
            repeat (go_quiet (first | (go_at_call 120; (with_reducible refine (nibTake.calls a0 t101 t102 true _ A3.out).mono ?_); rintro e w14 ⟨rfl, hb⟩; have n0_ := Aside0.mk (below_step (by repeat (first | (with_reducible first | exact HB.out | apply below_alloc | apply pw_below_drewN | apply below_drew1) | exact HB.out)) hb); clear HB; have HB := n0_; clear n0_; (try clear hb); (try clear hb2); (try clear hk); (try clear hi))); try go_wp2_with (first | (go_at_call 120; (with_reducible refine (nibTake.calls a0 t101 t102 true _ A3.out).mono ?_); rintro e w14 ⟨rfl, hb⟩; have n0_ := Aside0.mk (below_step (by repeat (first | (with_reducible first | exact HB.out | apply below_alloc | apply pw_below_drewN | apply below_drew1) | exact HB.out)) hb); clear HB; have HB := n0_; clear n0_; (try clear hb); (try clear hb2); (try clear hk); (try clear hi))))
            go_ret3
            exact ⟨by first | rfl | (simp [errW_none, errW_some] <;> rfl) | (simp only [← hji7]; first | rfl | (simp [errW_none, errW_some] <;> rfl)) | (simp [*, errW_none, errW_some] <;> rfl), by repeat (first | (with_reducible first | exact HB.out | apply below_alloc | apply pw_below_drewN | apply below_drew1) | exact HB.out)⟩
          · rw [if_neg c11] at H
            exact absurd H (by simp)
        · rw [if_neg c10] at H
          exact absurd H (by simp)
  · replace c4 := Bool.eq_false_iff.mpr c4
    subst c4
    have H1 : (some ((⟨#[]⟩ : ByteArray), (⟨#[]⟩ : ByteArray), false)) = some (r1, r2, r3) := by rw [if_neg (show ¬ (false = true) by decide)] at H; exact H
    clear H
    have H := H1
    clear H1
    simp only [Option.some.injEq, Prod.mk.injEq] at H
    obtain ⟨rfl, rfl, rfl⟩ := H
    go_enter Try.func126, Try.ntmps126
    go_wp2_with (first | (go_at_call 120; (with_reducible refine (nibTake.calls a0 t101 t102 false _ A3.out).mono ?_); rintro e w15 ⟨rfl, hb⟩; have n0_ := Aside0.mk (below_step (by repeat (first | (with_reducible first | exact HB.out | apply below_alloc | apply pw_below_drewN | apply below_drew1) | exact HB.out)) hb); clear HB; have HB := n0_; clear n0_; (try clear hb); (try clear hb2); (try clear hk); (try clear hi)))
    repeat (go_quiet (first | (go_at_call 120; (with_reducible refine (nibTake.calls a0 t101 t102 false _ A3.out).mono ?_); rintro e w15 ⟨rfl, hb⟩; have n0_ := Aside0.mk (below_step (by repeat (first | (with_reducible first | exact HB.out | apply below_alloc | apply pw_below_drewN | apply below_drew1) | exact HB.out)) hb); clear HB; have HB := n0_; clear n0_; (try clear hb); (try clear hb2); (try clear hk); (try clear hi))); try go_wp2_with (first | (go_at_call 120; (with_reducible refine (nibTake.calls a0 t101 t102 false _ A3.out).mono ?_); rintro e w15 ⟨rfl, hb⟩; have n0_ := Aside0.mk (below_step (by repeat (first | (with_reducible first | exact HB.out | apply below_alloc | apply pw_below_drewN | apply below_drew1) | exact HB.out)) hb); clear HB; have HB := n0_; clear n0_; (try clear hb); (try clear hb2); (try clear hk); (try clear hi))))
    go_ret3
    exact ⟨by first | rfl | (simp [errW_none, errW_some] <;> rfl) | (simp [*, errW_none, errW_some] <;> rfl), by repeat (first | (with_reducible first | exact HB.out | apply below_alloc | apply pw_below_drewN | apply below_drew1) | exact HB.out)⟩
end Go.Proofs.Ytfjmnaobfbmllaa.M
namespace Go.Proofs.Ytfjmnaobfbmllaa.M
open Go.RowKit Go.Proofs.YtfjmnaobfbmllaaW.PrintWords Go.Proofs.YtfjmnaobfbmllaaW.PrintLast Go.Proofs.YtfjmnaobfbmllaaW.PrintMore
set_option linter.unusedVariables false
set_option linter.unusedSimpArgs false
def nibStr.f (s : ByteArray) : Option ByteArray := if s.size ≤ 4611686018427387904 then some (strOfNums (strB s)) else none
theorem nibStr.calls (s r : ByteArray) (w : World) (h : nibStr.f s = some r) : Calls Try.prog 122 #[.string s] w fun e w' => e = .returned (.string r) ∧ Below w.heap.size w w' := by
  unfold nibStr.f at h
  split at h
  · rename_i hs
    refine nib_Str.calls s r w ?_
    unfold nib_Str.f nibInt.f
    have := (intB_len s.size).2
    rw [if_pos (show 0 ≤ (s.size : Int) ∧ (s.size : Int) ≤ 4611686018427387904 by omega), Option.bind_some, if_pos (by rw [strOfNums_size]; omega), str_append _ _ (intB_range _ hs)]
    exact h
  · cases h
def nibTakeStr.f (s : ByteArray) (m : Int) : Option (ByteArray × ByteArray × Bool) := some (textR m (takeR s))
theorem nibtext_pure (s : ByteArray) (m : Int) : nib_TakeStr.f s m = some (textR m (takeR s)) := by
  unfold nib_TakeStr.f nibTake.f
  rw [Option.bind_some]
  generalize takeR s = t
  obtain ⟨n, rest, ok⟩ := t
  unfold textR
  simp only
  have hmn : mn m (rest.size : Int) = if m ≤ rest.size then m else rest.size := by unfold mn; split <;> split <;> omega
  cases ok with
  | false => rw [if_neg Bool.false_ne_true, if_neg (by simp)]
  | true =>
    rw [if_pos rfl]
    by_cases h0 : n < 0
    · rw [if_pos h0, if_neg (by omega)]
    · rw [if_neg h0]
      by_cases h1 : n > mn m (rest.size : Int)
      · rw [if_pos h1, if_neg]
        rintro ⟨_, _, h2, h3⟩
        rw [hmn] at h1
        split at h1 <;> omega
      · have h2 : n ≤ m ∧ n ≤ rest.size := by
          rw [hmn] at h1
          split at h1 <;> omega
        rw [if_neg h1, if_pos (show 0 ≤ n by omega), if_pos h2.2, if_pos ⟨rfl, by omega, h2.1, h2.2⟩]
theorem nibTakeStr.calls (s : ByteArray) (m : Int) (r1 r2 : ByteArray) (r3 : Bool) (w : World) (h : nibTakeStr.f s m = some (r1, r2, r3)) :
    Calls Try.prog 126 #[.string s, .int .i64 m] w fun e w' => e = .returned (.tuple #[.string r1, .string r2, .bool r3]) ∧ Below w.heap.size w w' :=
  nib_TakeStr.calls s m r1 r2 r3 w (by rw [nibtext_pure s m]; exact h)
end Go.Proofs.Ytfjmnaobfbmllaa.M
namespace Go.Proofs.Ytfjmnaobfbmllaa.M
open Go.RowKit Go.Proofs.YtfjmnaobfbmllaaW.PrintWords Go.Proofs.YtfjmnaobfbmllaaW.PrintLast Go.Proofs.YtfjmnaobfbmllaaW.PrintMore
attribute [local go_sem] max2_int min2_int max_two min_two max_three min_three max_four min_four   -- for this text's walks alone
set_option linter.unusedVariables false
set_option linter.unusedSimpArgs false
def entry_slot.f (a0_0 : Bool) (a0_1 : ByteArray) : Option (ByteArray) := if a0_0 = true then ((nibInt.f 1).bind fun t102 => ((nibStr.f a0_1).bind fun t103 => (if t102.size + t103.size ≤ 9223372036854775807 then (some (t102 ++ t103)) else (none)))) else ((nibInt.f 0).bind fun t104 => (some t104))
end Go.Proofs.Ytfjmnaobfbmllaa.M
