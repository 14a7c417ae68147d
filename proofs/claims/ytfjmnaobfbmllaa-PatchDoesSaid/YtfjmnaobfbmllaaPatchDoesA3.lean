/- The law PatchDoes: it returns true for every input, and its arguments read as they did. No condition. Part 4 of 5. -/
import Derived.Test.YtfjmnaobfbmllaaProg
import Derived.Test.YtfjmnaobfbmllaaRows
import Derived.Test.YtfjmnaobfbmllaaUApart
import Derived.Test.YtfjmnaobfbmllaaUEqStruct
import Derived.Test.YtfjmnaobfbmllaaUFoot
import Derived.Test.YtfjmnaobfbmllaaUGuard
import Derived.Test.YtfjmnaobfbmllaaUKept
import Derived.Test.YtfjmnaobfbmllaaULast
import Derived.Test.YtfjmnaobfbmllaaUMore
import Derived.Test.YtfjmnaobfbmllaaUN
import Derived.Test.YtfjmnaobfbmllaaURepsOne
import Derived.Test.YtfjmnaobfbmllaaUShare
import Derived.Test.YtfjmnaobfbmllaaUTab
import Derived.Test.YtfjmnaobfbmllaaUWords
import Derived.ArgAppend
import Derived.Below
import Derived.BigQuiet
import Derived.Carry
import Derived.ChangeArms
import Derived.ChangeMaps
import Derived.ChangeOld
import Derived.Deep.AppendLies
import Derived.Deep.CutBlock
import Derived.Deep.DeepCutAuto
import Derived.Deep.Draws
import Derived.Deep.LoopGhost
import Derived.Deep.OwnRows
import Derived.Deep.QuietTactic
import Derived.Deep.RegionHeld3
import Derived.Deep.Slices
import Derived.KernelRfl
import Derived.Laws.Bits64
import Derived.Laws.Bits64b
import Derived.Laws.BitsAllLaws
import Derived.Laws.BitsLemmas
import Derived.Laws.BytesArg
import Derived.Laws.CopyOwn
import Derived.Laws.IdiomCopy
import Derived.Laws.MakeOwn
import Derived.Laws.OwnMore
import Derived.Laws.Rows
import Derived.Laws.Slices
import Derived.Lib.AppendStr
import Derived.Lib.ConvBytes
import Derived.Maps.AppendAt
import Derived.OpenShut
import Derived.OrdersHeld
import Derived.OwnWalk
import Derived.ProofKit
import Derived.RowKit
import Derived.RowKit3
import Derived.ShutString
import Derived.SizedLaws
import Derived.Tactics
import Derived.WalkKit
import Derived.WalkSpells
import Derived.WideLaws
import Derived.Test.YtfjmnaobfbmllaaPatchDoesA0
import Derived.Test.YtfjmnaobfbmllaaPatchDoesA1
import Derived.Test.YtfjmnaobfbmllaaPatchDoesA2
namespace Go.Proofs.Ytfjmnaobfbmllaa.M
open Go.RowKit Go.Proofs.YtfjmnaobfbmllaaW.PrintWords Go.Proofs.YtfjmnaobfbmllaaW.PrintLast Go.Proofs.YtfjmnaobfbmllaaW.PrintMore
attribute [local go_sem] max2_int min2_int max_two min_two max_three min_three max_four min_four   -- for this text's walks alone
set_option linter.unusedVariables false
set_option linter.unusedSimpArgs false
set_option maxHeartbeats 8000000 in
set_option maxRecDepth 100000 in
theorem patch_Turn.calls (a0_0 : Int) (a0_1 : Int) (a0_2 : Int) (a0_3 : Int) (a0_4 : Int) (a0_5 : Int) (a0_6 : Int) (a0_7 : Int) (a0_8 : Bool) (a0_9 : ByteArray) (a0_10 : Bool) (a0_11 : ByteArray) (a0_12 : Int) (a1 : Int) (a2 : Int) (r1 : Int) (r2 : Int) (r3 : Int) (r4 : Int) (r5 : Int) (r6 : Int) (r7 : Int) (r8 : Int) (r9 : Bool) (r10 : ByteArray) (r11 : Bool) (r12 : ByteArray) (r13 : Int) (r14 : Int) (w : World) (h : patch_Turn.f a0_0 a0_1 a0_2 a0_3 a0_4 a0_5 a0_6 a0_7 a0_8 a0_9 a0_10 a0_11 a0_12 a1 a2 = some (r1, r2, r3, r4, r5, r6, r7, r8, r9, r10, r11, r12, r13, r14)) :
  Calls Try.prog 69 #[.agg #[.int .i64 a0_0, .int .i64 a0_1, .int .i64 a0_2, .int .i64 a0_3, .int .i64 a0_4, .int .i64 a0_5, .int .i64 a0_6, .int .i64 a0_7, .bool a0_8, .string a0_9, .bool a0_10, .string a0_11, .int .i64 a0_12], .int .i64 a1, .int .i64 a2] w fun e w' => e = .returned (.tuple #[.agg #[.int .i64 r1, .int .i64 r2, .int .i64 r3, .int .i64 r4, .int .i64 r5, .int .i64 r6, .int .i64 r7, .int .i64 r8, .bool r9, .string r10, .bool r11, .string r12, .int .i64 r13], .int .i64 r14]) ∧ Below w.heap.size w w' := by
 have hu65 := Try.underlying65
 have hu33 := Try.underlying33
 have HB := Aside0.mk (Below.refl w.heap.size w)
 have H : ((entGood.f a0_0 a0_1 a0_2 a0_3 a0_4 a0_5 a0_6 a0_7 a0_8 a0_9 a0_10 a0_11 a0_12).bind fun t104 => (if t104 = true then (if a0_0 = 1 then ((entGood.f 2 a0_1 a0_2 a0_3 a1 a2 a0_6 a0_7 a0_10 a0_11 a0_8 a0_9 a0_5).bind fun t105 => (if t105 = true then (some (2, a0_1, a0_2, a0_3, a1, a2, a0_6, a0_7, a0_10, a0_11, a0_8, a0_9, a0_5, 0)) else (some (0, 0, 0, 0, 0, 0, 0, 0, false, (⟨#[]⟩ : ByteArray), false, (⟨#[]⟩ : ByteArray), 0, 1)))) else (some (0, 0, 0, 0, 0, 0, 0, 0, false, (⟨#[]⟩ : ByteArray), false, (⟨#[]⟩ : ByteArray), 0, 1))) else (some (0, 0, 0, 0, 0, 0, 0, 0, false, (⟨#[]⟩ : ByteArray), false, (⟨#[]⟩ : ByteArray), 0, 1)))) = some (r1, r2, r3, r4, r5, r6, r7, r8, r9, r10, r11, r12, r13, r14) := h
 clear h
 replace H := Option.bind_eq_some_iff.mp H
 obtain ⟨t104, A40, H⟩ := H
 replace H : (if t104 = true then (if a0_0 = 1 then ((entGood.f 2 a0_1 a0_2 a0_3 a1 a2 a0_6 a0_7 a0_10 a0_11 a0_8 a0_9 a0_5).bind fun t105 => (if t105 = true then (some (2, a0_1, a0_2, a0_3, a1, a2, a0_6, a0_7, a0_10, a0_11, a0_8, a0_9, a0_5, 0)) else (some (0, 0, 0, 0, 0, 0, 0, 0, false, (⟨#[]⟩ : ByteArray), false, (⟨#[]⟩ : ByteArray), 0, 1)))) else (some (0, 0, 0, 0, 0, 0, 0, 0, false, (⟨#[]⟩ : ByteArray), false, (⟨#[]⟩ : ByteArray), 0, 1))) else (some (0, 0, 0, 0, 0, 0, 0, 0, false, (⟨#[]⟩ : ByteArray), false, (⟨#[]⟩ : ByteArray), 0, 1))) = some (r1, r2, r3, r4, r5, r6, r7, r8, r9, r10, r11, r12, r13, r14) := H
 have A4 := Aside0.mk A40
 clear A40
 go_enter Try.func69, Try.ntmps69
 try go_wp2_with (first | ((with_reducible refine gate_dst (N := 3) rfl ?_); refine box_event ?hg (N := 3) ?hd (cs := #[.int .i64 a0_0, .int .i64 a0_1, .int .i64 a0_2, .int .i64 a0_3, .int .i64 a0_4, .int .i64 a0_5, .int .i64 a0_6, .int .i64 a0_7, .bool a0_8, .string a0_9, .bool a0_10, .string a0_11, .int .i64 a0_12]) (t := 65) ?hr ?_; (case hd => rfl); (case hg => rfl); (case hr => first | (go_simp; done) | (go_simp; rfl)); intro gb101 hg w9 hbox hb; have n0_ := Aside0.mk (below_step (by repeat (first | (with_reducible first | exact HB.out | apply below_alloc | apply pw_below_drewN | apply below_drew1) | exact HB.out)) hb); have n1_ := Aside0.mk (hbox); have n2_ := Aside0.mk ((by rw [hg]; exact (below_size (by repeat (first | (with_reducible first | exact HB.out | apply below_alloc | apply pw_below_drewN | apply below_drew1) | exact HB.out))) : w.heap.size ≤ gb101)); have n3_ := Aside0.mk ((by rw [hg]; exact (below_size (by repeat (first | (with_reducible first | exact HB.out | apply below_alloc | apply pw_below_drewN | apply below_drew1) | exact HB.out))) : w.heap.size ≤ gb101)); clear HB; have HB := n0_; have BK101 := n1_; have GW101 := n2_; have GE101 := n3_; clear n0_ n1_ n2_ n3_; clear hb hbox hg) | ((with_reducible refine gate_dst (N := 6) rfl ?_); refine box_event ?hg (N := 6) ?hd (cs := #[.int .i64 0, .int .i64 0, .int .i64 0, .int .i64 0, .int .i64 0, .int .i64 0, .int .i64 0, .int .i64 0, .bool false, .string (⟨#[]⟩ : ByteArray), .bool false, .string (⟨#[]⟩ : ByteArray), .int .i64 0]) (t := 65) ?hr ?_; (case hd => rfl); (case hg => rfl); (case hr => first | (go_simp; done) | (go_simp; rfl)); intro gb102 hg w10 hbox hb; have n0_ := Aside0.mk (blk_below (g := gb101) (o := .cells #[.int .i64 a0_0, .int .i64 a0_1, .int .i64 a0_2, .int .i64 a0_3, .int .i64 a0_4, .int .i64 a0_5, .int .i64 a0_6, .int .i64 a0_7, .bool a0_8, .string a0_9, .bool a0_10, .string a0_11, .int .i64 a0_12] 65 (0, 0)) (by (with_reducible repeat (first | refine blk_drewN ?_ _ | refine blk_drew ?_ | refine blk_alloc ?_ _)); exact BK101.out) hb); have n1_ := Aside0.mk (below_step (by repeat (first | (with_reducible first | exact HB.out | apply below_alloc | apply pw_below_drewN | apply below_drew1 | refine below_set ?_ GE101.out) | exact HB.out)) hb); have n2_ := Aside0.mk (hbox); have n3_ := Aside0.mk ((by rw [hg]; exact (below_size (by repeat (first | (with_reducible first | exact HB.out | apply below_alloc | apply pw_below_drewN | apply below_drew1 | refine below_set ?_ GE101.out) | exact HB.out))) : w.heap.size ≤ gb102)); have n4_ := Aside0.mk ((by rw [hg]; exact (below_size (by repeat (first | (with_reducible first | exact HB.out | apply below_alloc | apply pw_below_drewN | apply below_drew1 | refine below_set ?_ GE101.out) | exact HB.out))) : w.heap.size ≤ gb102)); have n5_ := Aside0.mk ((by rw [hg]; exact Nat.ne_of_lt (blk_lt (g := gb101) (o := .cells #[.int .i64 a0_0, .int .i64 a0_1, .int .i64 a0_2, .int .i64 a0_3, .int .i64 a0_4, .int .i64 a0_5, .int .i64 a0_6, .int .i64 a0_7, .bool a0_8, .string a0_9, .bool a0_10, .string a0_11, .int .i64 a0_12] 65 (0, 0)) (by (with_reducible repeat (first | refine blk_drewN ?_ _ | refine blk_drew ?_ | refine blk_alloc ?_ _)); exact BK101.out)) : gb101 ≠ gb102)); have n6_ := Aside0.mk ((by rw [hg]; exact Nat.ne_of_gt (blk_lt (g := gb101) (o := .cells #[.int .i64 a0_0, .int .i64 a0_1, .int .i64 a0_2, .int .i64 a0_3, .int .i64 a0_4, .int .i64 a0_5, .int .i64 a0_6, .int .i64 a0_7, .bool a0_8, .string a0_9, .bool a0_10, .string a0_11, .int .i64 a0_12] 65 (0, 0)) (by (with_reducible repeat (first | refine blk_drewN ?_ _ | refine blk_drew ?_ | refine blk_alloc ?_ _)); exact BK101.out)) : gb102 ≠ gb101)); clear BK101; clear HB; have BK101 := n0_; have HB := n1_; have BK102 := n2_; have GW102 := n3_; have GE102 := n4_; have NB101_102 := n5_; have NB102_101 := n6_; clear n0_ n1_ n2_ n3_ n4_ n5_ n6_; clear hb hbox hg; have hnb11 := NB101_102.out; have hnc11 := NB102_101.out; obtain ⟨hcz12_0, hcz12_1, hcz12_2, hcz12_3, hcz12_4, hcz12_5, hcz12_6, hcz12_7, hcz12_8, hcz12_9, hcz12_10, hcz12_11, hcz12_12⟩ := cl13 (W := w10) BK101.out; obtain ⟨hfz12_0, hfz12_1, hfz12_2, hfz12_3, hfz12_4, hfz12_5, hfz12_6, hfz12_7, hfz12_8, hfz12_9, hfz12_10, hfz12_11, hfz12_12⟩ := fr13 BK101.out) | ((with_reducible refine gate_dst (N := 8) rfl ?_); refine box_event ?hg (N := 8) ?hd (cs := #[.int .i64 0, .int .i64 0, .int .i64 0, .int .i64 0, .int .i64 0, .int .i64 0, .int .i64 0, .int .i64 0, .bool false, .string (⟨#[]⟩ : ByteArray), .bool false, .string (⟨#[]⟩ : ByteArray), .int .i64 0]) (t := 65) ?hr ?_; (case hd => rfl); (case hg => rfl); (case hr => first | (go_simp; done) | (go_simp; rfl)); intro gb103 hg w13 hbox hb; have n0_ := Aside0.mk (blk_below (g := gb101) (o := .cells #[.int .i64 a0_0, .int .i64 a0_1, .int .i64 a0_2, .int .i64 a0_3, .int .i64 a0_4, .int .i64 a0_5, .int .i64 a0_6, .int .i64 a0_7, .bool a0_8, .string a0_9, .bool a0_10, .string a0_11, .int .i64 a0_12] 65 (0, 0)) (by (with_reducible repeat (first | refine blk_drewN ?_ _ | refine blk_drew ?_ | refine blk_alloc ?_ _)); exact BK101.out) hb); have n1_ := Aside0.mk (blk_below (g := gb102) (o := .cells #[.int .i64 0, .int .i64 0, .int .i64 0, .int .i64 0, .int .i64 0, .int .i64 0, .int .i64 0, .int .i64 0, .bool false, .string (⟨#[]⟩ : ByteArray), .bool false, .string (⟨#[]⟩ : ByteArray), .int .i64 0] 65 (0, 0)) (by (with_reducible repeat (first | refine blk_drewN ?_ _ | refine blk_drew ?_ | refine blk_alloc ?_ _)); exact BK102.out) hb); have n2_ := Aside0.mk (below_step (by repeat (first | (with_reducible first | exact HB.out | apply below_alloc | apply pw_below_drewN | apply below_drew1 | refine below_set ?_ GE101.out | refine below_set ?_ GE102.out) | exact HB.out)) hb); have n3_ := Aside0.mk (hbox); have n4_ := Aside0.mk ((by rw [hg]; exact (below_size (by repeat (first | (with_reducible first | exact HB.out | apply below_alloc | apply pw_below_drewN | apply below_drew1 | refine below_set ?_ GE101.out | refine below_set ?_ GE102.out) | exact HB.out))) : w.heap.size ≤ gb103)); have n5_ := Aside0.mk ((by rw [hg]; exact (below_size (by repeat (first | (with_reducible first | exact HB.out | apply below_alloc | apply pw_below_drewN | apply below_drew1 | refine below_set ?_ GE101.out | refine below_set ?_ GE102.out) | exact HB.out))) : w.heap.size ≤ gb103)); have n6_ := Aside0.mk ((by rw [hg]; exact Nat.ne_of_lt (blk_lt (g := gb101) (o := .cells #[.int .i64 a0_0, .int .i64 a0_1, .int .i64 a0_2, .int .i64 a0_3, .int .i64 a0_4, .int .i64 a0_5, .int .i64 a0_6, .int .i64 a0_7, .bool a0_8, .string a0_9, .bool a0_10, .string a0_11, .int .i64 a0_12] 65 (0, 0)) (by (with_reducible repeat (first | refine blk_drewN ?_ _ | refine blk_drew ?_ | refine blk_alloc ?_ _)); exact BK101.out)) : gb101 ≠ gb103)); have n7_ := Aside0.mk ((by rw [hg]; exact Nat.ne_of_gt (blk_lt (g := gb101) (o := .cells #[.int .i64 a0_0, .int .i64 a0_1, .int .i64 a0_2, .int .i64 a0_3, .int .i64 a0_4, .int .i64 a0_5, .int .i64 a0_6, .int .i64 a0_7, .bool a0_8, .string a0_9, .bool a0_10, .string a0_11, .int .i64 a0_12] 65 (0, 0)) (by (with_reducible repeat (first | refine blk_drewN ?_ _ | refine blk_drew ?_ | refine blk_alloc ?_ _)); exact BK101.out)) : gb103 ≠ gb101)); have n8_ := Aside0.mk ((by rw [hg]; exact Nat.ne_of_lt (blk_lt (g := gb102) (o := .cells #[.int .i64 0, .int .i64 0, .int .i64 0, .int .i64 0, .int .i64 0, .int .i64 0, .int .i64 0, .int .i64 0, .bool false, .string (⟨#[]⟩ : ByteArray), .bool false, .string (⟨#[]⟩ : ByteArray), .int .i64 0] 65 (0, 0)) (by (with_reducible repeat (first | refine blk_drewN ?_ _ | refine blk_drew ?_ | refine blk_alloc ?_ _)); exact BK102.out)) : gb102 ≠ gb103)); have n9_ := Aside0.mk ((by rw [hg]; exact Nat.ne_of_gt (blk_lt (g := gb102) (o := .cells #[.int .i64 0, .int .i64 0, .int .i64 0, .int .i64 0, .int .i64 0, .int .i64 0, .int .i64 0, .int .i64 0, .bool false, .string (⟨#[]⟩ : ByteArray), .bool false, .string (⟨#[]⟩ : ByteArray), .int .i64 0] 65 (0, 0)) (by (with_reducible repeat (first | refine blk_drewN ?_ _ | refine blk_drew ?_ | refine blk_alloc ?_ _)); exact BK102.out)) : gb103 ≠ gb102)); clear BK101; clear BK102; clear HB; have BK101 := n0_; have BK102 := n1_; have HB := n2_; have BK103 := n3_; have GW103 := n4_; have GE103 := n5_; have NB101_103 := n6_; have NB103_101 := n7_; have NB102_103 := n8_; have NB103_102 := n9_; clear n0_ n1_ n2_ n3_ n4_ n5_ n6_ n7_ n8_ n9_; clear hb hbox hg; have hnb14 := NB103_101.out; have hnc14 := NB101_103.out; have hnb15 := NB103_102.out; have hnc15 := NB102_103.out; obtain ⟨hcz16_0, hcz16_1, hcz16_2, hcz16_3, hcz16_4, hcz16_5, hcz16_6, hcz16_7, hcz16_8, hcz16_9, hcz16_10, hcz16_11, hcz16_12⟩ := cl13 (W := w13) BK103.out; obtain ⟨hfz16_0, hfz16_1, hfz16_2, hfz16_3, hfz16_4, hfz16_5, hfz16_6, hfz16_7, hfz16_8, hfz16_9, hfz16_10, hfz16_11, hfz16_12⟩ := fr13 BK103.out))
 have n0_ : Aside0 ((((((((((((((w13.setCell ⟨gb103, 0, none⟩ (.int .i64 a0_0)).setCell ⟨gb103, 1, none⟩ (.int .i64 a0_1)).setCell ⟨gb103, 2, none⟩ (.int .i64 a0_2)).setCell ⟨gb103, 3, none⟩ (.int .i64 a0_3)).setCell ⟨gb103, 4, none⟩ (.int .i64 a0_4)).setCell ⟨gb103, 5, none⟩ (.int .i64 a0_5)).setCell ⟨gb103, 6, none⟩ (.int .i64 a0_6)).setCell ⟨gb103, 7, none⟩ (.int .i64 a0_7)).setCell ⟨gb103, 8, none⟩ (.bool a0_8)).setCell ⟨gb103, 9, none⟩ (.string a0_9)).setCell ⟨gb103, 10, none⟩ (.bool a0_10)).setCell ⟨gb103, 11, none⟩ (.string a0_11)).setCell ⟨gb103, 12, none⟩ (.int .i64 a0_12)).heap[gb101]? = some (.cells #[.int .i64 a0_0, .int .i64 a0_1, .int .i64 a0_2, .int .i64 a0_3, .int .i64 a0_4, .int .i64 a0_5, .int .i64 a0_6, .int .i64 a0_7, .bool a0_8, .string a0_9, .bool a0_10, .string a0_11, .int .i64 a0_12] 65 (0, 0))) := ⟨by (with_reducible repeat (first | refine blk_drewN ?_ _ | refine blk_drew ?_ | refine blk_alloc ?_ _)); refine blk_far ?_ NB101_103.out _; refine blk_far ?_ NB101_103.out _; refine blk_far ?_ NB101_103.out _; refine blk_far ?_ NB101_103.out _; refine blk_far ?_ NB101_103.out _; refine blk_far ?_ NB101_103.out _; refine blk_far ?_ NB101_103.out _; refine blk_far ?_ NB101_103.out _; refine blk_far ?_ NB101_103.out _; refine blk_far ?_ NB101_103.out _; refine blk_far ?_ NB101_103.out _; refine blk_far ?_ NB101_103.out _; refine blk_far ?_ NB101_103.out _; (with_reducible repeat (first | refine blk_drewN ?_ _ | refine blk_drew ?_ | refine blk_alloc ?_ _)); exact BK101.out⟩
 have n1_ : Aside0 ((((((((((((((w13.setCell ⟨gb103, 0, none⟩ (.int .i64 a0_0)).setCell ⟨gb103, 1, none⟩ (.int .i64 a0_1)).setCell ⟨gb103, 2, none⟩ (.int .i64 a0_2)).setCell ⟨gb103, 3, none⟩ (.int .i64 a0_3)).setCell ⟨gb103, 4, none⟩ (.int .i64 a0_4)).setCell ⟨gb103, 5, none⟩ (.int .i64 a0_5)).setCell ⟨gb103, 6, none⟩ (.int .i64 a0_6)).setCell ⟨gb103, 7, none⟩ (.int .i64 a0_7)).setCell ⟨gb103, 8, none⟩ (.bool a0_8)).setCell ⟨gb103, 9, none⟩ (.string a0_9)).setCell ⟨gb103, 10, none⟩ (.bool a0_10)).setCell ⟨gb103, 11, none⟩ (.string a0_11)).setCell ⟨gb103, 12, none⟩ (.int .i64 a0_12)).heap[gb102]? = some (.cells #[.int .i64 0, .int .i64 0, .int .i64 0, .int .i64 0, .int .i64 0, .int .i64 0, .int .i64 0, .int .i64 0, .bool false, .string (⟨#[]⟩ : ByteArray), .bool false, .string (⟨#[]⟩ : ByteArray), .int .i64 0] 65 (0, 0))) := ⟨by (with_reducible repeat (first | refine blk_drewN ?_ _ | refine blk_drew ?_ | refine blk_alloc ?_ _)); refine blk_far ?_ NB102_103.out _; refine blk_far ?_ NB102_103.out _; refine blk_far ?_ NB102_103.out _; refine blk_far ?_ NB102_103.out _; refine blk_far ?_ NB102_103.out _; refine blk_far ?_ NB102_103.out _; refine blk_far ?_ NB102_103.out _; refine blk_far ?_ NB102_103.out _; refine blk_far ?_ NB102_103.out _; refine blk_far ?_ NB102_103.out _; refine blk_far ?_ NB102_103.out _; refine blk_far ?_ NB102_103.out _; refine blk_far ?_ NB102_103.out _; (with_reducible repeat (first | refine blk_drewN ?_ _ | refine blk_drew ?_ | refine blk_alloc ?_ _)); exact BK102.out⟩
 have n2_ : Aside0 ((((((((((((((w13.setCell ⟨gb103, 0, none⟩ (.int .i64 a0_0)).setCell ⟨gb103, 1, none⟩ (.int .i64 a0_1)).setCell ⟨gb103, 2, none⟩ (.int .i64 a0_2)).setCell ⟨gb103, 3, none⟩ (.int .i64 a0_3)).setCell ⟨gb103, 4, none⟩ (.int .i64 a0_4)).setCell ⟨gb103, 5, none⟩ (.int .i64 a0_5)).setCell ⟨gb103, 6, none⟩ (.int .i64 a0_6)).setCell ⟨gb103, 7, none⟩ (.int .i64 a0_7)).setCell ⟨gb103, 8, none⟩ (.bool a0_8)).setCell ⟨gb103, 9, none⟩ (.string a0_9)).setCell ⟨gb103, 10, none⟩ (.bool a0_10)).setCell ⟨gb103, 11, none⟩ (.string a0_11)).setCell ⟨gb103, 12, none⟩ (.int .i64 a0_12)).heap[gb103]? = some (.cells #[.int .i64 a0_0, .int .i64 a0_1, .int .i64 a0_2, .int .i64 a0_3, .int .i64 a0_4, .int .i64 a0_5, .int .i64 a0_6, .int .i64 a0_7, .bool a0_8, .string a0_9, .bool a0_10, .string a0_11, .int .i64 a0_12] 65 (0, 0))) := ⟨by (with_reducible repeat (first | refine blk_drewN ?_ _ | refine blk_drew ?_ | refine blk_alloc ?_ _)); refine blk_put (cs := #[.int .i64 a0_0, .int .i64 a0_1, .int .i64 a0_2, .int .i64 a0_3, .int .i64 a0_4, .int .i64 a0_5, .int .i64 a0_6, .int .i64 a0_7, .bool a0_8, .string a0_9, .bool a0_10, .string a0_11, .int .i64 0]) ?_ 12 _ rfl; refine blk_put (cs := #[.int .i64 a0_0, .int .i64 a0_1, .int .i64 a0_2, .int .i64 a0_3, .int .i64 a0_4, .int .i64 a0_5, .int .i64 a0_6, .int .i64 a0_7, .bool a0_8, .string a0_9, .bool a0_10, .string (⟨#[]⟩ : ByteArray), .int .i64 0]) ?_ 11 _ rfl; refine blk_put (cs := #[.int .i64 a0_0, .int .i64 a0_1, .int .i64 a0_2, .int .i64 a0_3, .int .i64 a0_4, .int .i64 a0_5, .int .i64 a0_6, .int .i64 a0_7, .bool a0_8, .string a0_9, .bool false, .string (⟨#[]⟩ : ByteArray), .int .i64 0]) ?_ 10 _ rfl; refine blk_put (cs := #[.int .i64 a0_0, .int .i64 a0_1, .int .i64 a0_2, .int .i64 a0_3, .int .i64 a0_4, .int .i64 a0_5, .int .i64 a0_6, .int .i64 a0_7, .bool a0_8, .string (⟨#[]⟩ : ByteArray), .bool false, .string (⟨#[]⟩ : ByteArray), .int .i64 0]) ?_ 9 _ rfl; refine blk_put (cs := #[.int .i64 a0_0, .int .i64 a0_1, .int .i64 a0_2, .int .i64 a0_3, .int .i64 a0_4, .int .i64 a0_5, .int .i64 a0_6, .int .i64 a0_7, .bool false, .string (⟨#[]⟩ : ByteArray), .bool false, .string (⟨#[]⟩ : ByteArray), .int .i64 0]) ?_ 8 _ rfl; refine blk_put (cs := #[.int .i64 a0_0, .int .i64 a0_1, .int .i64 a0_2, .int .i64 a0_3, .int .i64 a0_4, .int .i64 a0_5, .int .i64 a0_6, .int .i64 0, .bool false, .string (⟨#[]⟩ : ByteArray), .bool false, .string (⟨#[]⟩ : ByteArray), .int .i64 0]) ?_ 7 _ rfl; refine blk_put (cs := #[.int .i64 a0_0, .int .i64 a0_1, .int .i64 a0_2, .int .i64 a0_3, .int .i64 a0_4, .int .i64 a0_5, .int .i64 0, .int .i64 0, .bool false, .string (⟨#[]⟩ : ByteArray), .bool false, .string (⟨#[]⟩ : ByteArray), .int .i64 0]) ?_ 6 _ rfl; refine blk_put (cs := #[.int .i64 a0_0, .int .i64 a0_1, .int .i64 a0_2, .int .i64 a0_3, .int .i64 a0_4, .int .i64 0, .int .i64 0, .int .i64 0, .bool false, .string (⟨#[]⟩ : ByteArray), .bool false, .string (⟨#[]⟩ : ByteArray), .int .i64 0]) ?_ 5 _ rfl; refine blk_put (cs := #[.int .i64 a0_0, .int .i64 a0_1, .int .i64 a0_2, .int .i64 a0_3, .int .i64 0, .int .i64 0, .int .i64 0, .int .i64 0, .bool false, .string (⟨#[]⟩ : ByteArray), .bool false, .string (⟨#[]⟩ : ByteArray), .int .i64 0]) ?_ 4 _ rfl; refine blk_put (cs := #[.int .i64 a0_0, .int .i64 a0_1, .int .i64 a0_2, .int .i64 0, .int .i64 0, .int .i64 0, .int .i64 0, .int .i64 0, .bool false, .string (⟨#[]⟩ : ByteArray), .bool false, .string (⟨#[]⟩ : ByteArray), .int .i64 0]) ?_ 3 _ rfl; refine blk_put (cs := #[.int .i64 a0_0, .int .i64 a0_1, .int .i64 0, .int .i64 0, .int .i64 0, .int .i64 0, .int .i64 0, .int .i64 0, .bool false, .string (⟨#[]⟩ : ByteArray), .bool false, .string (⟨#[]⟩ : ByteArray), .int .i64 0]) ?_ 2 _ rfl; refine blk_put (cs := #[.int .i64 a0_0, .int .i64 0, .int .i64 0, .int .i64 0, .int .i64 0, .int .i64 0, .int .i64 0, .int .i64 0, .bool false, .string (⟨#[]⟩ : ByteArray), .bool false, .string (⟨#[]⟩ : ByteArray), .int .i64 0]) ?_ 1 _ rfl; refine blk_put (cs := #[.int .i64 0, .int .i64 0, .int .i64 0, .int .i64 0, .int .i64 0, .int .i64 0, .int .i64 0, .int .i64 0, .bool false, .string (⟨#[]⟩ : ByteArray), .bool false, .string (⟨#[]⟩ : ByteArray), .int .i64 0]) ?_ 0 _ rfl; (with_reducible repeat (first | refine blk_drewN ?_ _ | refine blk_drew ?_ | refine blk_alloc ?_ _)); exact BK103.out⟩
 have n3_ : Aside0 (Below w.heap.size w (((((((((((((w13.setCell ⟨gb103, 0, none⟩ (.int .i64 a0_0)).setCell ⟨gb103, 1, none⟩ (.int .i64 a0_1)).setCell ⟨gb103, 2, none⟩ (.int .i64 a0_2)).setCell ⟨gb103, 3, none⟩ (.int .i64 a0_3)).setCell ⟨gb103, 4, none⟩ (.int .i64 a0_4)).setCell ⟨gb103, 5, none⟩ (.int .i64 a0_5)).setCell ⟨gb103, 6, none⟩ (.int .i64 a0_6)).setCell ⟨gb103, 7, none⟩ (.int .i64 a0_7)).setCell ⟨gb103, 8, none⟩ (.bool a0_8)).setCell ⟨gb103, 9, none⟩ (.string a0_9)).setCell ⟨gb103, 10, none⟩ (.bool a0_10)).setCell ⟨gb103, 11, none⟩ (.string a0_11)).setCell ⟨gb103, 12, none⟩ (.int .i64 a0_12))) := ⟨by repeat (first | (with_reducible first | exact HB.out | apply below_alloc | apply pw_below_drewN | apply below_drew1 | refine below_set ?_ GE101.out | refine below_set ?_ GE102.out | refine below_set ?_ GE103.out) | exact HB.out)⟩
 (try clear BK101)
 (try clear BK102)
 (try clear BK103)
 (try clear HB)
 generalize (((((((((((((w13.setCell ⟨gb103, 0, none⟩ (.int .i64 a0_0)).setCell ⟨gb103, 1, none⟩ (.int .i64 a0_1)).setCell ⟨gb103, 2, none⟩ (.int .i64 a0_2)).setCell ⟨gb103, 3, none⟩ (.int .i64 a0_3)).setCell ⟨gb103, 4, none⟩ (.int .i64 a0_4)).setCell ⟨gb103, 5, none⟩ (.int .i64 a0_5)).setCell ⟨gb103, 6, none⟩ (.int .i64 a0_6)).setCell ⟨gb103, 7, none⟩ (.int .i64 a0_7)).setCell ⟨gb103, 8, none⟩ (.bool a0_8)).setCell ⟨gb103, 9, none⟩ (.string a0_9)).setCell ⟨gb103, 10, none⟩ (.bool a0_10)).setCell ⟨gb103, 11, none⟩ (.string a0_11)).setCell ⟨gb103, 12, none⟩ (.int .i64 a0_12)) = w17 at n0_ n1_ n2_ n3_ ⊢
 have BK101 := n0_
 have BK102 := n1_
 have BK103 := n2_
 have HB := n3_
 clear n0_ n1_ n2_ n3_
 have n0_ := Aside0.mk (blk_drew BK101.out)
 have n1_ := Aside0.mk (blk_drew BK102.out)
 have n2_ := Aside0.mk (blk_drew BK103.out)
 have n3_ := Aside0.mk (below_drew1 HB.out)
 clear BK101
 clear BK102
 clear BK103
 clear HB
 have BK101 := n0_
 have BK102 := n1_
 have BK103 := n2_
 have HB := n3_
 clear n0_ n1_ n2_ n3_
 refine start_ (n := 12) (S := fun w' => w'.cell? ⟨gb101, 0, none⟩ = some (.int .i64 a0_0) ∧ w'.cell? ⟨gb101, 1, none⟩ = some (.int .i64 a0_1) ∧ w'.cell? ⟨gb101, 2, none⟩ = some (.int .i64 a0_2) ∧ w'.cell? ⟨gb101, 3, none⟩ = some (.int .i64 a0_3) ∧ w'.cell? ⟨gb101, 4, none⟩ = some (.int .i64 a0_4) ∧ w'.cell? ⟨gb101, 5, none⟩ = some (.int .i64 a0_5) ∧ w'.cell? ⟨gb101, 6, none⟩ = some (.int .i64 a0_6) ∧ w'.cell? ⟨gb101, 7, none⟩ = some (.int .i64 a0_7) ∧ w'.cell? ⟨gb101, 8, none⟩ = some (.bool a0_8) ∧ w'.cell? ⟨gb101, 9, none⟩ = some (.string a0_9) ∧ w'.cell? ⟨gb101, 10, none⟩ = some (.bool a0_10) ∧ w'.cell? ⟨gb101, 11, none⟩ = some (.string a0_11) ∧ w'.cell? ⟨gb101, 12, none⟩ = some (.int .i64 a0_12)) (ds := []) #[false, false, false, false, false, false, false, false, false, false, false, false] (by kernel_rfl) rfl rfl ⟨(blk_cell BK101.out 0).trans rfl, (blk_cell BK101.out 1).trans rfl, (blk_cell BK101.out 2).trans rfl, (blk_cell BK101.out 3).trans rfl, (blk_cell BK101.out 4).trans rfl, (blk_cell BK101.out 5).trans rfl, (blk_cell BK101.out 6).trans rfl, (blk_cell BK101.out 7).trans rfl, (blk_cell BK101.out 8).trans rfl, (blk_cell BK101.out 9).trans rfl, (blk_cell BK101.out 10).trans rfl, (blk_cell BK101.out 11).trans rfl, (blk_cell BK101.out 12).trans rfl⟩ (fun hHeld => ?_); refine with_tabW patch_Turn.tab2 patch_Turn.bits2 (fun HT_ HW_ => ?_)
 generalize w17.drew = w18 at BK101 BK102 BK103 HB hHeld ⊢
 refine pure_ (i := 0) (N := some 10) (v := ?_) (a' := ?_) #[true, false, false, false, false, false, false, false, false, false, false, false] rfl rfl (any_of HT_.out (by kernel_rfl)) (fun _ _ _ h => h) (Or.inl ⟨by rfl, ?_⟩) ?_ ?_
 rotate_left
 ·intro w'
  go_simp
  with_reducible rfl
 rotate_left
 ·simp only [Act.put, List.setIfInBounds_toArray, List.set_cons_zero, List.set_cons_succ, i64_w, i32_w]
  rfl
 refine pure_ (i := 1) (N := some 11) (v := ?_) (a' := ?_) #[true, true, false, false, false, false, false, false, false, false, false, false] rfl rfl (any_of HT_.out (by kernel_rfl)) (fun _ _ _ h => h) (Or.inl ⟨by rfl, ?_⟩) ?_ ?_
 rotate_left
 ·intro w'
  go_simp
  with_reducible rfl
 rotate_left
 ·simp only [Act.put, List.setIfInBounds_toArray, List.set_cons_zero, List.set_cons_succ, i64_w, i32_w]
  rfl
 refine pure_ (i := 2) (N := some 12) (v := ?_) (a' := ?_) #[true, true, true, false, false, false, false, false, false, false, false, false] rfl rfl (any_of HT_.out (by kernel_rfl)) (fun _ _ _ h => h) (Or.inl ⟨by rfl, ?_⟩) ?_ ?_
 rotate_left
 ·intro w'
  go_simp
  with_reducible rfl
 rotate_left
 ·simp only [Act.put, List.setIfInBounds_toArray, List.set_cons_zero, List.set_cons_succ, i64_w, i32_w]
  rfl
 refine pure_ (i := 4) (N := some 14) (v := ?_) (a' := ?_) #[true, true, true, false, true, false, false, false, false, false, false, false] rfl rfl (any_of HT_.out (by kernel_rfl)) (fun _ _ _ h => h) (Or.inl ⟨by rfl, ?_⟩) ?_ ?_
 rotate_left
 ·intro w'
  go_simp
  with_reducible rfl
 rotate_left
 ·simp only [Act.put, List.setIfInBounds_toArray, List.set_cons_zero, List.set_cons_succ, i64_w, i32_w]
  rfl
 refine take_ (i := 3) (N := some 13) (v := ?_) (a' := ?_) #[true, true, true, true, true, false, false, false, false, false, false, false] rfl rfl (take_ofW HT_.out HW_.out (by kernel_rfl)) (fun _ _ _ h => h) (Or.inl ⟨by rfl, ?_⟩) hHeld ?_ ?_
 rotate_left
 ·rintro w' ⟨s0, s1, s2, s3, s4, s5, s6, s7, s8, s9, s10, s11, s12⟩
  go_simp
  with_reducible rfl
 rotate_left
 ·simp only [Act.put, List.setIfInBounds_toArray, List.set_cons_zero, List.set_cons_succ, i64_w, i32_w]
  rfl
 refine one_ (i := 5) (N := none) #[true, true, true, true, true, true, false, false, false, false, false, false] rfl rfl (one_of HT_.out (by kernel_rfl)) (by decide) (fun K hK => ?_)
 have hs19 : w18.cell? ⟨gb103, 0, none⟩ = some (.int .i64 a0_0) := (blk_cell BK103.out 0).trans rfl
 have hfs19 := blk_frozen BK103.out 0
 have hns19_0 := NB101_103.out
 have hns19_1 := NB102_103.out
 have hms19_0 := NB103_101.out
 have hms19_1 := NB103_102.out
 refine skip_ (w1 := ?_) (by rfl) rfl ?_ ?_
 rotate_left
 ·go_simp
  rfl
 refine hK.out _ _ ⟨((cell_far (p := ⟨gb103, _, none⟩) NB101_103.out _).trans (hHeld.1)), ((cell_far (p := ⟨gb103, _, none⟩) NB101_103.out _).trans (hHeld.2.1)), ((cell_far (p := ⟨gb103, _, none⟩) NB101_103.out _).trans (hHeld.2.2.1)), ((cell_far (p := ⟨gb103, _, none⟩) NB101_103.out _).trans (hHeld.2.2.2.1)), ((cell_far (p := ⟨gb103, _, none⟩) NB101_103.out _).trans (hHeld.2.2.2.2.1)), ((cell_far (p := ⟨gb103, _, none⟩) NB101_103.out _).trans (hHeld.2.2.2.2.2.1)), ((cell_far (p := ⟨gb103, _, none⟩) NB101_103.out _).trans (hHeld.2.2.2.2.2.2.1)), ((cell_far (p := ⟨gb103, _, none⟩) NB101_103.out _).trans (hHeld.2.2.2.2.2.2.2.1)), ((cell_far (p := ⟨gb103, _, none⟩) NB101_103.out _).trans (hHeld.2.2.2.2.2.2.2.2.1)), ((cell_far (p := ⟨gb103, _, none⟩) NB101_103.out _).trans (hHeld.2.2.2.2.2.2.2.2.2.1)), ((cell_far (p := ⟨gb103, _, none⟩) NB101_103.out _).trans (hHeld.2.2.2.2.2.2.2.2.2.2.1)), ((cell_far (p := ⟨gb103, _, none⟩) NB101_103.out _).trans (hHeld.2.2.2.2.2.2.2.2.2.2.2.1)), ((cell_far (p := ⟨gb103, _, none⟩) NB101_103.out _).trans (hHeld.2.2.2.2.2.2.2.2.2.2.2.2))⟩ (fun hHeld => ?_)
 clear hK K
 refine pure_ (i := 6) (N := some 15) (v := ?_) (a' := ?_) #[true, true, true, true, true, true, true, false, false, false, false, false] rfl rfl (any_of HT_.out (by kernel_rfl)) (fun _ _ _ h => h) (Or.inl ⟨by rfl, ?_⟩) ?_ ?_
 rotate_left
 ·intro w'
  go_simp
  with_reducible rfl
 rotate_left
 ·simp only [Act.put, List.setIfInBounds_toArray, List.set_cons_zero, List.set_cons_succ, i64_w, i32_w]
  rfl
 refine one_ (i := 7) (N := none) #[true, true, true, true, true, true, true, true, false, false, false, false] rfl rfl (one_of HT_.out (by kernel_rfl)) (by decide) (fun K hK => ?_)
 have hs20 : w18.cell? ⟨gb103, 4, none⟩ = some (.int .i64 a0_4) := (blk_cell BK103.out 4).trans rfl
 have hfs20 := blk_frozen BK103.out 4
 have hns20_0 := NB101_103.out
 have hns20_1 := NB102_103.out
 have hms20_0 := NB103_101.out
 have hms20_1 := NB103_102.out
 refine skip_ (w1 := ?_) (by rfl) rfl ?_ ?_
 rotate_left
 ·go_simp
  rfl
 refine hK.out _ _ ⟨((cell_far (p := ⟨gb103, _, none⟩) NB101_103.out _).trans (hHeld.1)), ((cell_far (p := ⟨gb103, _, none⟩) NB101_103.out _).trans (hHeld.2.1)), ((cell_far (p := ⟨gb103, _, none⟩) NB101_103.out _).trans (hHeld.2.2.1)), ((cell_far (p := ⟨gb103, _, none⟩) NB101_103.out _).trans (hHeld.2.2.2.1)), ((cell_far (p := ⟨gb103, _, none⟩) NB101_103.out _).trans (hHeld.2.2.2.2.1)), ((cell_far (p := ⟨gb103, _, none⟩) NB101_103.out _).trans (hHeld.2.2.2.2.2.1)), ((cell_far (p := ⟨gb103, _, none⟩) NB101_103.out _).trans (hHeld.2.2.2.2.2.2.1)), ((cell_far (p := ⟨gb103, _, none⟩) NB101_103.out _).trans (hHeld.2.2.2.2.2.2.2.1)), ((cell_far (p := ⟨gb103, _, none⟩) NB101_103.out _).trans (hHeld.2.2.2.2.2.2.2.2.1)), ((cell_far (p := ⟨gb103, _, none⟩) NB101_103.out _).trans (hHeld.2.2.2.2.2.2.2.2.2.1)), ((cell_far (p := ⟨gb103, _, none⟩) NB101_103.out _).trans (hHeld.2.2.2.2.2.2.2.2.2.2.1)), ((cell_far (p := ⟨gb103, _, none⟩) NB101_103.out _).trans (hHeld.2.2.2.2.2.2.2.2.2.2.2.1)), ((cell_far (p := ⟨gb103, _, none⟩) NB101_103.out _).trans (hHeld.2.2.2.2.2.2.2.2.2.2.2.2))⟩ (fun hHeld => ?_)
 clear hK K
 refine pure_ (i := 8) (N := some 16) (v := ?_) (a' := ?_) #[true, true, true, true, true, true, true, true, true, false, false, false] rfl rfl (any_of HT_.out (by kernel_rfl)) (fun _ _ _ h => h) (Or.inl ⟨by rfl, ?_⟩) ?_ ?_
 rotate_left
 ·intro w'
  go_simp
  with_reducible rfl
 rotate_left
 ·simp only [Act.put, List.setIfInBounds_toArray, List.set_cons_zero, List.set_cons_succ, i64_w, i32_w]
  rfl
 refine one_ (i := 9) (N := none) #[true, true, true, true, true, true, true, true, true, true, false, false] rfl rfl (one_of HT_.out (by kernel_rfl)) (by decide) (fun K hK => ?_)
 have hs21 : w18.cell? ⟨gb103, 5, none⟩ = some (.int .i64 a0_5) := (blk_cell BK103.out 5).trans rfl
 have hfs21 := blk_frozen BK103.out 5
 have hns21_0 := NB101_103.out
 have hns21_1 := NB102_103.out
 have hms21_0 := NB103_101.out
 have hms21_1 := NB103_102.out
 refine skip_ (w1 := ?_) (by rfl) rfl ?_ ?_
 rotate_left
 ·go_simp
  rfl
 refine hK.out _ _ ⟨((cell_far (p := ⟨gb103, _, none⟩) NB101_103.out _).trans (hHeld.1)), ((cell_far (p := ⟨gb103, _, none⟩) NB101_103.out _).trans (hHeld.2.1)), ((cell_far (p := ⟨gb103, _, none⟩) NB101_103.out _).trans (hHeld.2.2.1)), ((cell_far (p := ⟨gb103, _, none⟩) NB101_103.out _).trans (hHeld.2.2.2.1)), ((cell_far (p := ⟨gb103, _, none⟩) NB101_103.out _).trans (hHeld.2.2.2.2.1)), ((cell_far (p := ⟨gb103, _, none⟩) NB101_103.out _).trans (hHeld.2.2.2.2.2.1)), ((cell_far (p := ⟨gb103, _, none⟩) NB101_103.out _).trans (hHeld.2.2.2.2.2.2.1)), ((cell_far (p := ⟨gb103, _, none⟩) NB101_103.out _).trans (hHeld.2.2.2.2.2.2.2.1)), ((cell_far (p := ⟨gb103, _, none⟩) NB101_103.out _).trans (hHeld.2.2.2.2.2.2.2.2.1)), ((cell_far (p := ⟨gb103, _, none⟩) NB101_103.out _).trans (hHeld.2.2.2.2.2.2.2.2.2.1)), ((cell_far (p := ⟨gb103, _, none⟩) NB101_103.out _).trans (hHeld.2.2.2.2.2.2.2.2.2.2.1)), ((cell_far (p := ⟨gb103, _, none⟩) NB101_103.out _).trans (hHeld.2.2.2.2.2.2.2.2.2.2.2.1)), ((cell_far (p := ⟨gb103, _, none⟩) NB101_103.out _).trans (hHeld.2.2.2.2.2.2.2.2.2.2.2.2))⟩ (fun hHeld => ?_)
 clear hK K
 refine pure_ (i := 10) (N := some 17) (v := ?_) (a' := ?_) #[true, true, true, true, true, true, true, true, true, true, true, false] rfl rfl (any_of HT_.out (by kernel_rfl)) (fun _ _ _ h => h) (Or.inl ⟨by rfl, ?_⟩) ?_ ?_
 rotate_left
 ·intro w'
  go_simp
  with_reducible rfl
 rotate_left
 ·simp only [Act.put, List.setIfInBounds_toArray, List.set_cons_zero, List.set_cons_succ, i64_w, i32_w]
  rfl
 refine one_ (i := 11) (N := none) #[true, true, true, true, true, true, true, true, true, true, true, true] rfl rfl (one_of HT_.out (by kernel_rfl)) (by decide) (fun K hK => ?_)
 have hs22 : w18.cell? ⟨gb103, 12, none⟩ = some (.int .i64 a0_12) := (blk_cell BK103.out 12).trans rfl
 have hfs22 := blk_frozen BK103.out 12
 have hns22_0 := NB101_103.out
 have hns22_1 := NB102_103.out
 have hms22_0 := NB103_101.out
 have hms22_1 := NB103_102.out
 refine skip_ (w1 := ?_) (by rfl) rfl ?_ ?_
 rotate_left
 ·go_simp
  rfl
 refine hK.out _ _ ⟨((cell_far (p := ⟨gb103, _, none⟩) NB101_103.out _).trans (hHeld.1)), ((cell_far (p := ⟨gb103, _, none⟩) NB101_103.out _).trans (hHeld.2.1)), ((cell_far (p := ⟨gb103, _, none⟩) NB101_103.out _).trans (hHeld.2.2.1)), ((cell_far (p := ⟨gb103, _, none⟩) NB101_103.out _).trans (hHeld.2.2.2.1)), ((cell_far (p := ⟨gb103, _, none⟩) NB101_103.out _).trans (hHeld.2.2.2.2.1)), ((cell_far (p := ⟨gb103, _, none⟩) NB101_103.out _).trans (hHeld.2.2.2.2.2.1)), ((cell_far (p := ⟨gb103, _, none⟩) NB101_103.out _).trans (hHeld.2.2.2.2.2.2.1)), ((cell_far (p := ⟨gb103, _, none⟩) NB101_103.out _).trans (hHeld.2.2.2.2.2.2.2.1)), ((cell_far (p := ⟨gb103, _, none⟩) NB101_103.out _).trans (hHeld.2.2.2.2.2.2.2.2.1)), ((cell_far (p := ⟨gb103, _, none⟩) NB101_103.out _).trans (hHeld.2.2.2.2.2.2.2.2.2.1)), ((cell_far (p := ⟨gb103, _, none⟩) NB101_103.out _).trans (hHeld.2.2.2.2.2.2.2.2.2.2.1)), ((cell_far (p := ⟨gb103, _, none⟩) NB101_103.out _).trans (hHeld.2.2.2.2.2.2.2.2.2.2.2.1)), ((cell_far (p := ⟨gb103, _, none⟩) NB101_103.out _).trans (hHeld.2.2.2.2.2.2.2.2.2.2.2.2))⟩ (fun hHeld => ?_)
 clear hK K
 refine done_ (done_of HT_.out (by kernel_rfl)) ?_
 try go_wp2
 have n0_ : Aside0 (((((w18.setCell ⟨gb103, 0, none⟩ (.int .i64 2)).setCell ⟨gb103, 4, none⟩ (.int .i64 a1)).setCell ⟨gb103, 5, none⟩ (.int .i64 a2)).setCell ⟨gb103, 12, none⟩ (.int .i64 a0_5)).heap[gb101]? = some (.cells #[.int .i64 a0_0, .int .i64 a0_1, .int .i64 a0_2, .int .i64 a0_3, .int .i64 a0_4, .int .i64 a0_5, .int .i64 a0_6, .int .i64 a0_7, .bool a0_8, .string a0_9, .bool a0_10, .string a0_11, .int .i64 a0_12] 65 (0, 0))) := ⟨by (with_reducible repeat (first | refine blk_drewN ?_ _ | refine blk_drew ?_ | refine blk_alloc ?_ _)); refine blk_far ?_ NB101_103.out _; refine blk_far ?_ NB101_103.out _; refine blk_far ?_ NB101_103.out _; refine blk_far ?_ NB101_103.out _; (with_reducible repeat (first | refine blk_drewN ?_ _ | refine blk_drew ?_ | refine blk_alloc ?_ _)); exact BK101.out⟩
 have n1_ : Aside0 (((((w18.setCell ⟨gb103, 0, none⟩ (.int .i64 2)).setCell ⟨gb103, 4, none⟩ (.int .i64 a1)).setCell ⟨gb103, 5, none⟩ (.int .i64 a2)).setCell ⟨gb103, 12, none⟩ (.int .i64 a0_5)).heap[gb102]? = some (.cells #[.int .i64 0, .int .i64 0, .int .i64 0, .int .i64 0, .int .i64 0, .int .i64 0, .int .i64 0, .int .i64 0, .bool false, .string (⟨#[]⟩ : ByteArray), .bool false, .string (⟨#[]⟩ : ByteArray), .int .i64 0] 65 (0, 0))) := ⟨by (with_reducible repeat (first | refine blk_drewN ?_ _ | refine blk_drew ?_ | refine blk_alloc ?_ _)); refine blk_far ?_ NB102_103.out _; refine blk_far ?_ NB102_103.out _; refine blk_far ?_ NB102_103.out _; refine blk_far ?_ NB102_103.out _; (with_reducible repeat (first | refine blk_drewN ?_ _ | refine blk_drew ?_ | refine blk_alloc ?_ _)); exact BK102.out⟩
 have n2_ : Aside0 (((((w18.setCell ⟨gb103, 0, none⟩ (.int .i64 2)).setCell ⟨gb103, 4, none⟩ (.int .i64 a1)).setCell ⟨gb103, 5, none⟩ (.int .i64 a2)).setCell ⟨gb103, 12, none⟩ (.int .i64 a0_5)).heap[gb103]? = some (.cells #[.int .i64 2, .int .i64 a0_1, .int .i64 a0_2, .int .i64 a0_3, .int .i64 a1, .int .i64 a2, .int .i64 a0_6, .int .i64 a0_7, .bool a0_8, .string a0_9, .bool a0_10, .string a0_11, .int .i64 a0_5] 65 (0, 0))) := ⟨by (with_reducible repeat (first | refine blk_drewN ?_ _ | refine blk_drew ?_ | refine blk_alloc ?_ _)); refine blk_put (cs := #[.int .i64 2, .int .i64 a0_1, .int .i64 a0_2, .int .i64 a0_3, .int .i64 a1, .int .i64 a2, .int .i64 a0_6, .int .i64 a0_7, .bool a0_8, .string a0_9, .bool a0_10, .string a0_11, .int .i64 a0_12]) ?_ 12 _ rfl; refine blk_put (cs := #[.int .i64 2, .int .i64 a0_1, .int .i64 a0_2, .int .i64 a0_3, .int .i64 a1, .int .i64 a0_5, .int .i64 a0_6, .int .i64 a0_7, .bool a0_8, .string a0_9, .bool a0_10, .string a0_11, .int .i64 a0_12]) ?_ 5 _ rfl; refine blk_put (cs := #[.int .i64 2, .int .i64 a0_1, .int .i64 a0_2, .int .i64 a0_3, .int .i64 a0_4, .int .i64 a0_5, .int .i64 a0_6, .int .i64 a0_7, .bool a0_8, .string a0_9, .bool a0_10, .string a0_11, .int .i64 a0_12]) ?_ 4 _ rfl; refine blk_put (cs := #[.int .i64 a0_0, .int .i64 a0_1, .int .i64 a0_2, .int .i64 a0_3, .int .i64 a0_4, .int .i64 a0_5, .int .i64 a0_6, .int .i64 a0_7, .bool a0_8, .string a0_9, .bool a0_10, .string a0_11, .int .i64 a0_12]) ?_ 0 _ rfl; (with_reducible repeat (first | refine blk_drewN ?_ _ | refine blk_drew ?_ | refine blk_alloc ?_ _)); exact BK103.out⟩
 have n3_ : Aside0 (Below w.heap.size w ((((w18.setCell ⟨gb103, 0, none⟩ (.int .i64 2)).setCell ⟨gb103, 4, none⟩ (.int .i64 a1)).setCell ⟨gb103, 5, none⟩ (.int .i64 a2)).setCell ⟨gb103, 12, none⟩ (.int .i64 a0_5))) := ⟨by repeat (first | (with_reducible first | exact HB.out | apply below_alloc | apply pw_below_drewN | apply below_drew1 | refine below_set ?_ GE101.out | refine below_set ?_ GE102.out | refine below_set ?_ GE103.out) | exact HB.out)⟩
 (try clear BK101)
 (try clear BK102)
 (try clear BK103)
 (try clear HB)
 generalize ((((w18.setCell ⟨gb103, 0, none⟩ (.int .i64 2)).setCell ⟨gb103, 4, none⟩ (.int .i64 a1)).setCell ⟨gb103, 5, none⟩ (.int .i64 a2)).setCell ⟨gb103, 12, none⟩ (.int .i64 a0_5)) = w23 at n0_ n1_ n2_ n3_ ⊢
 have BK101 := n0_
 have BK102 := n1_
 have BK103 := n2_
 have HB := n3_
 clear n0_ n1_ n2_ n3_
 have n0_ := Aside0.mk (blk_drew BK101.out)
 have n1_ := Aside0.mk (blk_drew BK102.out)
 have n2_ := Aside0.mk (blk_drew BK103.out)
 have n3_ := Aside0.mk (below_drew1 HB.out)
 clear BK101
 clear BK102
 clear BK103
 clear HB
 have BK101 := n0_
 have BK102 := n1_
 have BK103 := n2_
 have HB := n3_
 clear n0_ n1_ n2_ n3_
 refine start_ (n := 8) (S := fun w' => w'.cell? ⟨gb101, 0, none⟩ = some (.int .i64 a0_0) ∧ w'.cell? ⟨gb101, 1, none⟩ = some (.int .i64 a0_1) ∧ w'.cell? ⟨gb101, 2, none⟩ = some (.int .i64 a0_2) ∧ w'.cell? ⟨gb101, 3, none⟩ = some (.int .i64 a0_3) ∧ w'.cell? ⟨gb101, 4, none⟩ = some (.int .i64 a0_4) ∧ w'.cell? ⟨gb101, 5, none⟩ = some (.int .i64 a0_5) ∧ w'.cell? ⟨gb101, 6, none⟩ = some (.int .i64 a0_6) ∧ w'.cell? ⟨gb101, 7, none⟩ = some (.int .i64 a0_7) ∧ w'.cell? ⟨gb101, 8, none⟩ = some (.bool a0_8) ∧ w'.cell? ⟨gb101, 9, none⟩ = some (.string a0_9) ∧ w'.cell? ⟨gb101, 10, none⟩ = some (.bool a0_10) ∧ w'.cell? ⟨gb101, 11, none⟩ = some (.string a0_11) ∧ w'.cell? ⟨gb101, 12, none⟩ = some (.int .i64 a0_12)) (ds := []) #[false, false, false, false, false, false, false, false] (by kernel_rfl) rfl rfl ⟨(blk_cell BK101.out 0).trans rfl, (blk_cell BK101.out 1).trans rfl, (blk_cell BK101.out 2).trans rfl, (blk_cell BK101.out 3).trans rfl, (blk_cell BK101.out 4).trans rfl, (blk_cell BK101.out 5).trans rfl, (blk_cell BK101.out 6).trans rfl, (blk_cell BK101.out 7).trans rfl, (blk_cell BK101.out 8).trans rfl, (blk_cell BK101.out 9).trans rfl, (blk_cell BK101.out 10).trans rfl, (blk_cell BK101.out 11).trans rfl, (blk_cell BK101.out 12).trans rfl⟩ (fun hHeld => ?_); refine with_tabW patch_Turn.tab3 patch_Turn.bits3 (fun HT_ HW_ => ?_)
 generalize w23.drew = w24 at BK101 BK102 BK103 HB hHeld ⊢
 refine pure_ (i := 0) (N := some 18) (v := ?_) (a' := ?_) #[true, false, false, false, false, false, false, false] rfl rfl (any_of HT_.out (by kernel_rfl)) (fun _ _ _ h => h) (Or.inl ⟨by rfl, ?_⟩) ?_ ?_
 rotate_left
 ·intro w'
  go_simp
  with_reducible rfl
 rotate_left
 ·simp only [Act.put, List.setIfInBounds_toArray, List.set_cons_zero, List.set_cons_succ, i64_w, i32_w]
  rfl
 refine pure_ (i := 2) (N := some 20) (v := ?_) (a' := ?_) #[true, false, true, false, false, false, false, false] rfl rfl (any_of HT_.out (by kernel_rfl)) (fun _ _ _ h => h) (Or.inl ⟨by rfl, ?_⟩) ?_ ?_
 rotate_left
 ·intro w'
  go_simp
  with_reducible rfl
 rotate_left
 ·simp only [Act.put, List.setIfInBounds_toArray, List.set_cons_zero, List.set_cons_succ, i64_w, i32_w]
  rfl
 refine take_ (i := 1) (N := some 19) (v := ?_) (a' := ?_) #[true, true, true, false, false, false, false, false] rfl rfl (take_ofW HT_.out HW_.out (by kernel_rfl)) (fun _ _ _ h => h) (Or.inl ⟨by rfl, ?_⟩) hHeld ?_ ?_
 rotate_left
 ·rintro w' ⟨s0, s1, s2, s3, s4, s5, s6, s7, s8, s9, s10, s11, s12⟩
  go_simp
  with_reducible rfl
 rotate_left
 ·simp only [Act.put, List.setIfInBounds_toArray, List.set_cons_zero, List.set_cons_succ, i64_w, i32_w]
  rfl
 refine pure_ (i := 4) (N := some 22) (v := ?_) (a' := ?_) #[true, true, true, false, true, false, false, false] rfl rfl (any_of HT_.out (by kernel_rfl)) (fun _ _ _ h => h) (Or.inl ⟨by rfl, ?_⟩) ?_ ?_
 rotate_left
 ·intro w'
  go_simp
  with_reducible rfl
 rotate_left
 ·simp only [Act.put, List.setIfInBounds_toArray, List.set_cons_zero, List.set_cons_succ, i64_w, i32_w]
  rfl
 refine take_ (i := 3) (N := some 21) (v := ?_) (a' := ?_) #[true, true, true, true, true, false, false, false] rfl rfl (take_ofW HT_.out HW_.out (by kernel_rfl)) (fun _ _ _ h => h) (Or.inl ⟨by rfl, ?_⟩) hHeld ?_ ?_
 rotate_left
 ·rintro w' ⟨s0, s1, s2, s3, s4, s5, s6, s7, s8, s9, s10, s11, s12⟩
  go_simp
  with_reducible rfl
 rotate_left
 ·simp only [Act.put, List.setIfInBounds_toArray, List.set_cons_zero, List.set_cons_succ, i64_w, i32_w]
  rfl
 refine one_ (i := 5) (N := none) #[true, true, true, true, true, true, false, false] rfl rfl (one_of HT_.out (by kernel_rfl)) (by decide) (fun K hK => ?_)
 have hs25 : w24.cell? ⟨gb103, 8, none⟩ = some (.bool a0_8) := (blk_cell BK103.out 8).trans rfl
 have hfs25 := blk_frozen BK103.out 8
 have hns25_0 := NB101_103.out
 have hns25_1 := NB102_103.out
 have hms25_0 := NB103_101.out
 have hms25_1 := NB103_102.out
 have hs26 : w24.cell? ⟨gb103, 9, none⟩ = some (.string a0_9) := (blk_cell BK103.out 9).trans rfl
 have hfs26 := blk_frozen BK103.out 9
 have hns26_0 := NB101_103.out
 have hns26_1 := NB102_103.out
 have hms26_0 := NB103_101.out
 have hms26_1 := NB103_102.out
 refine skip_ (w1 := ?_) (by rfl) rfl ?_ ?_
 rotate_left
 ·go_simp
  rfl
 refine hK.out _ _ ⟨((cell_far (p := ⟨gb103, _, none⟩) NB101_103.out _).trans (((cell_far (p := ⟨gb103, _, none⟩) NB101_103.out _).trans (hHeld.1)))), ((cell_far (p := ⟨gb103, _, none⟩) NB101_103.out _).trans (((cell_far (p := ⟨gb103, _, none⟩) NB101_103.out _).trans (hHeld.2.1)))), ((cell_far (p := ⟨gb103, _, none⟩) NB101_103.out _).trans (((cell_far (p := ⟨gb103, _, none⟩) NB101_103.out _).trans (hHeld.2.2.1)))), ((cell_far (p := ⟨gb103, _, none⟩) NB101_103.out _).trans (((cell_far (p := ⟨gb103, _, none⟩) NB101_103.out _).trans (hHeld.2.2.2.1)))), ((cell_far (p := ⟨gb103, _, none⟩) NB101_103.out _).trans (((cell_far (p := ⟨gb103, _, none⟩) NB101_103.out _).trans (hHeld.2.2.2.2.1)))), ((cell_far (p := ⟨gb103, _, none⟩) NB101_103.out _).trans (((cell_far (p := ⟨gb103, _, none⟩) NB101_103.out _).trans (hHeld.2.2.2.2.2.1)))), ((cell_far (p := ⟨gb103, _, none⟩) NB101_103.out _).trans (((cell_far (p := ⟨gb103, _, none⟩) NB101_103.out _).trans (hHeld.2.2.2.2.2.2.1)))), ((cell_far (p := ⟨gb103, _, none⟩) NB101_103.out _).trans (((cell_far (p := ⟨gb103, _, none⟩) NB101_103.out _).trans (hHeld.2.2.2.2.2.2.2.1)))), ((cell_far (p := ⟨gb103, _, none⟩) NB101_103.out _).trans (((cell_far (p := ⟨gb103, _, none⟩) NB101_103.out _).trans (hHeld.2.2.2.2.2.2.2.2.1)))), ((cell_far (p := ⟨gb103, _, none⟩) NB101_103.out _).trans (((cell_far (p := ⟨gb103, _, none⟩) NB101_103.out _).trans (hHeld.2.2.2.2.2.2.2.2.2.1)))), ((cell_far (p := ⟨gb103, _, none⟩) NB101_103.out _).trans (((cell_far (p := ⟨gb103, _, none⟩) NB101_103.out _).trans (hHeld.2.2.2.2.2.2.2.2.2.2.1)))), ((cell_far (p := ⟨gb103, _, none⟩) NB101_103.out _).trans (((cell_far (p := ⟨gb103, _, none⟩) NB101_103.out _).trans (hHeld.2.2.2.2.2.2.2.2.2.2.2.1)))), ((cell_far (p := ⟨gb103, _, none⟩) NB101_103.out _).trans (((cell_far (p := ⟨gb103, _, none⟩) NB101_103.out _).trans (hHeld.2.2.2.2.2.2.2.2.2.2.2.2))))⟩ (fun hHeld => ?_)
 clear hK K
 refine pure_ (i := 6) (N := some 23) (v := ?_) (a' := ?_) #[true, true, true, true, true, true, true, false] rfl rfl (any_of HT_.out (by kernel_rfl)) (fun _ _ _ h => h) (Or.inl ⟨by rfl, ?_⟩) ?_ ?_
 rotate_left
 ·intro w'
  go_simp
  with_reducible rfl
 rotate_left
 ·simp only [Act.put, List.setIfInBounds_toArray, List.set_cons_zero, List.set_cons_succ, i64_w, i32_w]
  rfl
 refine one_ (i := 7) (N := none) #[true, true, true, true, true, true, true, true] rfl rfl (one_of HT_.out (by kernel_rfl)) (by decide) (fun K hK => ?_)
 have hs27 : w24.cell? ⟨gb103, 10, none⟩ = some (.bool a0_10) := (blk_cell BK103.out 10).trans rfl
 have hfs27 := blk_frozen BK103.out 10
 have hns27_0 := NB101_103.out
 have hns27_1 := NB102_103.out
 have hms27_0 := NB103_101.out
 have hms27_1 := NB103_102.out
 have hs28 : w24.cell? ⟨gb103, 11, none⟩ = some (.string a0_11) := (blk_cell BK103.out 11).trans rfl
 have hfs28 := blk_frozen BK103.out 11
 have hns28_0 := NB101_103.out
 have hns28_1 := NB102_103.out
 have hms28_0 := NB103_101.out
 have hms28_1 := NB103_102.out
 refine skip_ (w1 := ?_) (by rfl) rfl ?_ ?_
 rotate_left
 ·go_simp
  rfl
 refine hK.out _ _ ⟨((cell_far (p := ⟨gb103, _, none⟩) NB101_103.out _).trans (((cell_far (p := ⟨gb103, _, none⟩) NB101_103.out _).trans (hHeld.1)))), ((cell_far (p := ⟨gb103, _, none⟩) NB101_103.out _).trans (((cell_far (p := ⟨gb103, _, none⟩) NB101_103.out _).trans (hHeld.2.1)))), ((cell_far (p := ⟨gb103, _, none⟩) NB101_103.out _).trans (((cell_far (p := ⟨gb103, _, none⟩) NB101_103.out _).trans (hHeld.2.2.1)))), ((cell_far (p := ⟨gb103, _, none⟩) NB101_103.out _).trans (((cell_far (p := ⟨gb103, _, none⟩) NB101_103.out _).trans (hHeld.2.2.2.1)))), ((cell_far (p := ⟨gb103, _, none⟩) NB101_103.out _).trans (((cell_far (p := ⟨gb103, _, none⟩) NB101_103.out _).trans (hHeld.2.2.2.2.1)))), ((cell_far (p := ⟨gb103, _, none⟩) NB101_103.out _).trans (((cell_far (p := ⟨gb103, _, none⟩) NB101_103.out _).trans (hHeld.2.2.2.2.2.1)))), ((cell_far (p := ⟨gb103, _, none⟩) NB101_103.out _).trans (((cell_far (p := ⟨gb103, _, none⟩) NB101_103.out _).trans (hHeld.2.2.2.2.2.2.1)))), ((cell_far (p := ⟨gb103, _, none⟩) NB101_103.out _).trans (((cell_far (p := ⟨gb103, _, none⟩) NB101_103.out _).trans (hHeld.2.2.2.2.2.2.2.1)))), ((cell_far (p := ⟨gb103, _, none⟩) NB101_103.out _).trans (((cell_far (p := ⟨gb103, _, none⟩) NB101_103.out _).trans (hHeld.2.2.2.2.2.2.2.2.1)))), ((cell_far (p := ⟨gb103, _, none⟩) NB101_103.out _).trans (((cell_far (p := ⟨gb103, _, none⟩) NB101_103.out _).trans (hHeld.2.2.2.2.2.2.2.2.2.1)))), ((cell_far (p := ⟨gb103, _, none⟩) NB101_103.out _).trans (((cell_far (p := ⟨gb103, _, none⟩) NB101_103.out _).trans (hHeld.2.2.2.2.2.2.2.2.2.2.1)))), ((cell_far (p := ⟨gb103, _, none⟩) NB101_103.out _).trans (((cell_far (p := ⟨gb103, _, none⟩) NB101_103.out _).trans (hHeld.2.2.2.2.2.2.2.2.2.2.2.1)))), ((cell_far (p := ⟨gb103, _, none⟩) NB101_103.out _).trans (((cell_far (p := ⟨gb103, _, none⟩) NB101_103.out _).trans (hHeld.2.2.2.2.2.2.2.2.2.2.2.2))))⟩ (fun hHeld => ?_)
 clear hK K
 refine done_ (done_of HT_.out (by kernel_rfl)) ?_
 obtain ⟨hcz29_0, hcz29_1, hcz29_2, hcz29_3, hcz29_4, hcz29_5, hcz29_6, hcz29_7, hcz29_8, hcz29_9, hcz29_10, hcz29_11, hcz29_12⟩ := cl13 (W := w24) BK101.out
 obtain ⟨hfz29_0, hfz29_1, hfz29_2, hfz29_3, hfz29_4, hfz29_5, hfz29_6, hfz29_7, hfz29_8, hfz29_9, hfz29_10, hfz29_11, hfz29_12⟩ := fr13 BK101.out
 by_cases c5 : t104 = true
 ·subst c5
  have H1 : (if a0_0 = 1 then ((entGood.f 2 a0_1 a0_2 a0_3 a1 a2 a0_6 a0_7 a0_10 a0_11 a0_8 a0_9 a0_5).bind fun t105 => (if t105 = true then (some (2, a0_1, a0_2, a0_3, a1, a2, a0_6, a0_7, a0_10, a0_11, a0_8, a0_9, a0_5, 0)) else (some (0, 0, 0, 0, 0, 0, 0, 0, false, (⟨#[]⟩ : ByteArray), false, (⟨#[]⟩ : ByteArray), 0, 1)))) else (some (0, 0, 0, 0, 0, 0, 0, 0, false, (⟨#[]⟩ : ByteArray), false, (⟨#[]⟩ : ByteArray), 0, 1))) = some (r1, r2, r3, r4, r5, r6, r7, r8, r9, r10, r11, r12, r13, r14) := by rw [if_pos rfl] at H; exact H
  clear H
  have H := H1
  clear H1
  by_cases c6 : a0_0 = 1
  ·rw [if_pos c6] at H
   have c6b0 : (a0_0 == 1) = true := beq_iff_eq.mpr c6
   have c6b1 : (a0_0 != 1) = false := bne_eq_false_iff_eq.mpr c6
   clear c6
   replace H := Option.bind_eq_some_iff.mp H
   obtain ⟨t105, A70, H⟩ := H
   replace H : (if t105 = true then (some (2, a0_1, a0_2, a0_3, a1, a2, a0_6, a0_7, a0_10, a0_11, a0_8, a0_9, a0_5, 0)) else (some (0, 0, 0, 0, 0, 0, 0, 0, false, (⟨#[]⟩ : ByteArray), false, (⟨#[]⟩ : ByteArray), 0, 1))) = some (r1, r2, r3, r4, r5, r6, r7, r8, r9, r10, r11, r12, r13, r14) := H
   have A7 := Aside0.mk A70
   clear A70
   by_cases c8 : t105 = true
   ·subst c8
    have H1 : (some (2, a0_1, a0_2, a0_3, a1, a2, a0_6, a0_7, a0_10, a0_11, a0_8, a0_9, a0_5, 0)) = some (r1, r2, r3, r4, r5, r6, r7, r8, r9, r10, r11, r12, r13, r14) := by rw [if_pos rfl] at H; exact H
    clear H
    have H := H1
    clear H1
    simp only [Option.some.injEq, Prod.mk.injEq] at H
    obtain ⟨rfl, rfl, rfl, rfl, rfl, rfl, rfl, rfl, rfl, rfl, rfl, rfl, rfl, rfl⟩ := H
    try go_wp2_with (first | ((with_reducible refine gate_callee (f := 55) rfl ?_); refine goesL_ (some 25) rfl rfl Try.func55 (by kernel_rfl) rfl #[.agg #[.int .i64 a0_0, .int .i64 a0_1, .int .i64 a0_2, .int .i64 a0_3, .int .i64 a0_4, .int .i64 a0_5, .int .i64 a0_6, .int .i64 a0_7, .bool a0_8, .string a0_9, .bool a0_10, .string a0_11, .int .i64 a0_12]] rfl (by (try simp only [List.map_toArray, List.map_cons, List.map_nil]); first | done | rfl | (simp only [List.length_drop, List.length_take]; rfl)) ?_; (with_reducible refine (entGood.calls a0_0 a0_1 a0_2 a0_3 a0_4 a0_5 a0_6 a0_7 a0_8 a0_9 a0_10 a0_11 a0_12 true _ A4.out).mono ?_); rintro e w30 ⟨rfl, hb⟩; refine ⟨_, rfl, ?_⟩; have n0_ := Aside0.mk (blk_below (g := gb101) (o := .cells #[.int .i64 a0_0, .int .i64 a0_1, .int .i64 a0_2, .int .i64 a0_3, .int .i64 a0_4, .int .i64 a0_5, .int .i64 a0_6, .int .i64 a0_7, .bool a0_8, .string a0_9, .bool a0_10, .string a0_11, .int .i64 a0_12] 65 (0, 0)) (by (with_reducible repeat (first | refine blk_drewN ?_ _ | refine blk_drew ?_ | refine blk_alloc ?_ _)); refine blk_far ?_ NB101_103.out _; refine blk_far ?_ NB101_103.out _; refine blk_far ?_ NB101_103.out _; refine blk_far ?_ NB101_103.out _; (with_reducible repeat (first | refine blk_drewN ?_ _ | refine blk_drew ?_ | refine blk_alloc ?_ _)); exact BK101.out) hb); have n1_ := Aside0.mk (blk_below (g := gb102) (o := .cells #[.int .i64 0, .int .i64 0, .int .i64 0, .int .i64 0, .int .i64 0, .int .i64 0, .int .i64 0, .int .i64 0, .bool false, .string (⟨#[]⟩ : ByteArray), .bool false, .string (⟨#[]⟩ : ByteArray), .int .i64 0] 65 (0, 0)) (by (with_reducible repeat (first | refine blk_drewN ?_ _ | refine blk_drew ?_ | refine blk_alloc ?_ _)); refine blk_far ?_ NB102_103.out _; refine blk_far ?_ NB102_103.out _; refine blk_far ?_ NB102_103.out _; refine blk_far ?_ NB102_103.out _; (with_reducible repeat (first | refine blk_drewN ?_ _ | refine blk_drew ?_ | refine blk_alloc ?_ _)); exact BK102.out) hb); have n2_ := Aside0.mk (blk_below (g := gb103) (o := .cells #[.int .i64 2, .int .i64 a0_1, .int .i64 a0_2, .int .i64 a0_3, .int .i64 a1, .int .i64 a2, .int .i64 a0_6, .int .i64 a0_7, .bool a0_10, .string a0_11, .bool a0_8, .string a0_9, .int .i64 a0_5] 65 (0, 0)) (by (with_reducible repeat (first | refine blk_drewN ?_ _ | refine blk_drew ?_ | refine blk_alloc ?_ _)); refine blk_put (cs := #[.int .i64 2, .int .i64 a0_1, .int .i64 a0_2, .int .i64 a0_3, .int .i64 a1, .int .i64 a2, .int .i64 a0_6, .int .i64 a0_7, .bool a0_10, .string a0_11, .bool a0_8, .string a0_11, .int .i64 a0_5]) ?_ 11 _ rfl; refine blk_put (cs := #[.int .i64 2, .int .i64 a0_1, .int .i64 a0_2, .int .i64 a0_3, .int .i64 a1, .int .i64 a2, .int .i64 a0_6, .int .i64 a0_7, .bool a0_10, .string a0_11, .bool a0_10, .string a0_11, .int .i64 a0_5]) ?_ 10 _ rfl; refine blk_put (cs := #[.int .i64 2, .int .i64 a0_1, .int .i64 a0_2, .int .i64 a0_3, .int .i64 a1, .int .i64 a2, .int .i64 a0_6, .int .i64 a0_7, .bool a0_10, .string a0_9, .bool a0_10, .string a0_11, .int .i64 a0_5]) ?_ 9 _ rfl; refine blk_put (cs := #[.int .i64 2, .int .i64 a0_1, .int .i64 a0_2, .int .i64 a0_3, .int .i64 a1, .int .i64 a2, .int .i64 a0_6, .int .i64 a0_7, .bool a0_8, .string a0_9, .bool a0_10, .string a0_11, .int .i64 a0_5]) ?_ 8 _ rfl; (with_reducible repeat (first | refine blk_drewN ?_ _ | refine blk_drew ?_ | refine blk_alloc ?_ _)); exact BK103.out) hb); have n3_ := Aside0.mk (below_step (by repeat (first | (with_reducible first | exact HB.out | apply below_alloc | apply pw_below_drewN | apply below_drew1 | refine below_set ?_ GE101.out | refine below_set ?_ GE102.out | refine below_set ?_ GE103.out) | exact HB.out)) hb); clear BK101; clear BK102; clear BK103; clear HB; have BK101 := n0_; have BK102 := n1_; have BK103 := n2_; have HB := n3_; clear n0_ n1_ n2_ n3_; (try clear hb); (try clear hb2); (try clear hk); (try clear hi); obtain ⟨hcz31_0, hcz31_1, hcz31_2, hcz31_3, hcz31_4, hcz31_5, hcz31_6, hcz31_7, hcz31_8, hcz31_9, hcz31_10, hcz31_11, hcz31_12⟩ := cl13 (W := w30) BK101.out; obtain ⟨hfz31_0, hfz31_1, hfz31_2, hfz31_3, hfz31_4, hfz31_5, hfz31_6, hfz31_7, hfz31_8, hfz31_9, hfz31_10, hfz31_11, hfz31_12⟩ := fr13 BK101.out; obtain ⟨hcz32_0, hcz32_1, hcz32_2, hcz32_3, hcz32_4, hcz32_5, hcz32_6, hcz32_7, hcz32_8, hcz32_9, hcz32_10, hcz32_11, hcz32_12⟩ := cl13 (W := w30) BK103.out; obtain ⟨hfz32_0, hfz32_1, hfz32_2, hfz32_3, hfz32_4, hfz32_5, hfz32_6, hfz32_7, hfz32_8, hfz32_9, hfz32_10, hfz32_11, hfz32_12⟩ := fr13 BK103.out) | (go_at_call 55; (with_reducible refine (entGood.calls 2 a0_1 a0_2 a0_3 a1 a2 a0_6 a0_7 a0_10 a0_11 a0_8 a0_9 a0_5 true _ A7.out).mono ?_); rintro e w33 ⟨rfl, hb⟩; have n0_ := Aside0.mk (blk_below (g := gb101) (o := .cells #[.int .i64 a0_0, .int .i64 a0_1, .int .i64 a0_2, .int .i64 a0_3, .int .i64 a0_4, .int .i64 a0_5, .int .i64 a0_6, .int .i64 a0_7, .bool a0_8, .string a0_9, .bool a0_10, .string a0_11, .int .i64 a0_12] 65 (0, 0)) (by (with_reducible repeat (first | refine blk_drewN ?_ _ | refine blk_drew ?_ | refine blk_alloc ?_ _)); exact BK101.out) hb); have n1_ := Aside0.mk (blk_below (g := gb102) (o := .cells #[.int .i64 0, .int .i64 0, .int .i64 0, .int .i64 0, .int .i64 0, .int .i64 0, .int .i64 0, .int .i64 0, .bool false, .string (⟨#[]⟩ : ByteArray), .bool false, .string (⟨#[]⟩ : ByteArray), .int .i64 0] 65 (0, 0)) (by (with_reducible repeat (first | refine blk_drewN ?_ _ | refine blk_drew ?_ | refine blk_alloc ?_ _)); exact BK102.out) hb); have n2_ := Aside0.mk (blk_below (g := gb103) (o := .cells #[.int .i64 2, .int .i64 a0_1, .int .i64 a0_2, .int .i64 a0_3, .int .i64 a1, .int .i64 a2, .int .i64 a0_6, .int .i64 a0_7, .bool a0_10, .string a0_11, .bool a0_8, .string a0_9, .int .i64 a0_5] 65 (0, 0)) (by (with_reducible repeat (first | refine blk_drewN ?_ _ | refine blk_drew ?_ | refine blk_alloc ?_ _)); exact BK103.out) hb); have n3_ := Aside0.mk (below_step (by repeat (first | (with_reducible first | exact HB.out | apply below_alloc | apply pw_below_drewN | apply below_drew1 | refine below_set ?_ GE101.out | refine below_set ?_ GE102.out | refine below_set ?_ GE103.out) | exact HB.out)) hb); clear BK101; clear BK102; clear BK103; clear HB; have BK101 := n0_; have BK102 := n1_; have BK103 := n2_; have HB := n3_; clear n0_ n1_ n2_ n3_; (try clear hb); (try clear hb2); (try clear hk); (try clear hi); obtain ⟨hcz34_0, hcz34_1, hcz34_2, hcz34_3, hcz34_4, hcz34_5, hcz34_6, hcz34_7, hcz34_8, hcz34_9, hcz34_10, hcz34_11, hcz34_12⟩ := cl13 (W := w33) BK103.out; obtain ⟨hfz34_0, hfz34_1, hfz34_2, hfz34_3, hfz34_4, hfz34_5, hfz34_6, hfz34_7, hfz34_8, hfz34_9, hfz34_10, hfz34_11, hfz34_12⟩ := fr13 BK103.out; obtain ⟨hcz35_0, hcz35_1, hcz35_2, hcz35_3, hcz35_4, hcz35_5, hcz35_6, hcz35_7, hcz35_8, hcz35_9, hcz35_10, hcz35_11, hcz35_12⟩ := cl13 (W := w33) BK102.out; obtain ⟨hfz35_0, hfz35_1, hfz35_2, hfz35_3, hfz35_4, hfz35_5, hfz35_6, hfz35_7, hfz35_8, hfz35_9, hfz35_10, hfz35_11, hfz35_12⟩ := fr13 BK102.out))
    refine bodyPost_ret (results_ct rfl _ _ gb102 65 #[.int .i64 2, .int .i64 a0_1, .int .i64 a0_2, .int .i64 a0_3, .int .i64 a1, .int .i64 a2, .int .i64 a0_6, .int .i64 a0_7, .bool a0_10, .string a0_11, .bool a0_8, .string a0_9, .int .i64 a0_5] (0, 0) _ rfl (by (with_reducible repeat (first | refine blk_drewN ?_ _ | refine blk_drew ?_ | refine blk_alloc ?_ _)); refine blk_put (cs := #[.int .i64 2, .int .i64 a0_1, .int .i64 a0_2, .int .i64 a0_3, .int .i64 a1, .int .i64 a2, .int .i64 a0_6, .int .i64 a0_7, .bool a0_10, .string a0_11, .bool a0_8, .string a0_9, .int .i64 0]) ?_ 12 _ rfl; refine blk_put (cs := #[.int .i64 2, .int .i64 a0_1, .int .i64 a0_2, .int .i64 a0_3, .int .i64 a1, .int .i64 a2, .int .i64 a0_6, .int .i64 a0_7, .bool a0_10, .string a0_11, .bool a0_8, .string (⟨#[]⟩ : ByteArray), .int .i64 0]) ?_ 11 _ rfl; refine blk_put (cs := #[.int .i64 2, .int .i64 a0_1, .int .i64 a0_2, .int .i64 a0_3, .int .i64 a1, .int .i64 a2, .int .i64 a0_6, .int .i64 a0_7, .bool a0_10, .string a0_11, .bool false, .string (⟨#[]⟩ : ByteArray), .int .i64 0]) ?_ 10 _ rfl; refine blk_put (cs := #[.int .i64 2, .int .i64 a0_1, .int .i64 a0_2, .int .i64 a0_3, .int .i64 a1, .int .i64 a2, .int .i64 a0_6, .int .i64 a0_7, .bool a0_10, .string (⟨#[]⟩ : ByteArray), .bool false, .string (⟨#[]⟩ : ByteArray), .int .i64 0]) ?_ 9 _ rfl; refine blk_put (cs := #[.int .i64 2, .int .i64 a0_1, .int .i64 a0_2, .int .i64 a0_3, .int .i64 a1, .int .i64 a2, .int .i64 a0_6, .int .i64 a0_7, .bool false, .string (⟨#[]⟩ : ByteArray), .bool false, .string (⟨#[]⟩ : ByteArray), .int .i64 0]) ?_ 8 _ rfl; refine blk_put (cs := #[.int .i64 2, .int .i64 a0_1, .int .i64 a0_2, .int .i64 a0_3, .int .i64 a1, .int .i64 a2, .int .i64 a0_6, .int .i64 0, .bool false, .string (⟨#[]⟩ : ByteArray), .bool false, .string (⟨#[]⟩ : ByteArray), .int .i64 0]) ?_ 7 _ rfl; refine blk_put (cs := #[.int .i64 2, .int .i64 a0_1, .int .i64 a0_2, .int .i64 a0_3, .int .i64 a1, .int .i64 a2, .int .i64 0, .int .i64 0, .bool false, .string (⟨#[]⟩ : ByteArray), .bool false, .string (⟨#[]⟩ : ByteArray), .int .i64 0]) ?_ 6 _ rfl; refine blk_put (cs := #[.int .i64 2, .int .i64 a0_1, .int .i64 a0_2, .int .i64 a0_3, .int .i64 a1, .int .i64 0, .int .i64 0, .int .i64 0, .bool false, .string (⟨#[]⟩ : ByteArray), .bool false, .string (⟨#[]⟩ : ByteArray), .int .i64 0]) ?_ 5 _ rfl; refine blk_put (cs := #[.int .i64 2, .int .i64 a0_1, .int .i64 a0_2, .int .i64 a0_3, .int .i64 0, .int .i64 0, .int .i64 0, .int .i64 0, .bool false, .string (⟨#[]⟩ : ByteArray), .bool false, .string (⟨#[]⟩ : ByteArray), .int .i64 0]) ?_ 4 _ rfl; refine blk_put (cs := #[.int .i64 2, .int .i64 a0_1, .int .i64 a0_2, .int .i64 0, .int .i64 0, .int .i64 0, .int .i64 0, .int .i64 0, .bool false, .string (⟨#[]⟩ : ByteArray), .bool false, .string (⟨#[]⟩ : ByteArray), .int .i64 0]) ?_ 3 _ rfl; refine blk_put (cs := #[.int .i64 2, .int .i64 a0_1, .int .i64 0, .int .i64 0, .int .i64 0, .int .i64 0, .int .i64 0, .int .i64 0, .bool false, .string (⟨#[]⟩ : ByteArray), .bool false, .string (⟨#[]⟩ : ByteArray), .int .i64 0]) ?_ 2 _ rfl; refine blk_put (cs := #[.int .i64 2, .int .i64 0, .int .i64 0, .int .i64 0, .int .i64 0, .int .i64 0, .int .i64 0, .int .i64 0, .bool false, .string (⟨#[]⟩ : ByteArray), .bool false, .string (⟨#[]⟩ : ByteArray), .int .i64 0]) ?_ 1 _ rfl; refine blk_put (cs := #[.int .i64 0, .int .i64 0, .int .i64 0, .int .i64 0, .int .i64 0, .int .i64 0, .int .i64 0, .int .i64 0, .bool false, .string (⟨#[]⟩ : ByteArray), .bool false, .string (⟨#[]⟩ : ByteArray), .int .i64 0]) ?_ 0 _ rfl; (with_reducible repeat (first | refine blk_drewN ?_ _ | refine blk_drew ?_ | refine blk_alloc ?_ _)); exact BK102.out) Try.underlying65 rfl (by kernel_rfl)) rfl ?_
    exact ⟨by first | rfl | (simp [errW_none, errW_some] <;> rfl) | (simp [*, errW_none, errW_some] <;> rfl), by repeat (first | (with_reducible first | exact HB.out | apply below_alloc | apply pw_below_drewN | apply below_drew1 | refine below_set ?_ GE101.out | refine below_set ?_ GE102.out | refine below_set ?_ GE103.out) | exact HB.out)⟩
   ·replace c8 := Bool.eq_false_iff.mpr c8
    subst c8
    have H1 : (some (0, 0, 0, 0, 0, 0, 0, 0, false, (⟨#[]⟩ : ByteArray), false, (⟨#[]⟩ : ByteArray), 0, 1)) = some (r1, r2, r3, r4, r5, r6, r7, r8, r9, r10, r11, r12, r13, r14) := by rw [if_neg (show ¬ (false = true) by decide)] at H; exact H
    clear H
    have H := H1
    clear H1
    simp only [Option.some.injEq, Prod.mk.injEq] at H
    obtain ⟨rfl, rfl, rfl, rfl, rfl, rfl, rfl, rfl, rfl, rfl, rfl, rfl, rfl, rfl⟩ := H
    try go_wp2_with (first | ((with_reducible refine gate_callee (f := 55) rfl ?_); refine goesL_ (some 25) rfl rfl Try.func55 (by kernel_rfl) rfl #[.agg #[.int .i64 a0_0, .int .i64 a0_1, .int .i64 a0_2, .int .i64 a0_3, .int .i64 a0_4, .int .i64 a0_5, .int .i64 a0_6, .int .i64 a0_7, .bool a0_8, .string a0_9, .bool a0_10, .string a0_11, .int .i64 a0_12]] rfl (by (try simp only [List.map_toArray, List.map_cons, List.map_nil]); first | done | rfl | (simp only [List.length_drop, List.length_take]; rfl)) ?_; (with_reducible refine (entGood.calls a0_0 a0_1 a0_2 a0_3 a0_4 a0_5 a0_6 a0_7 a0_8 a0_9 a0_10 a0_11 a0_12 true _ A4.out).mono ?_); rintro e w57 ⟨rfl, hb⟩; refine ⟨_, rfl, ?_⟩; have n0_ := Aside0.mk (blk_below (g := gb101) (o := .cells #[.int .i64 a0_0, .int .i64 a0_1, .int .i64 a0_2, .int .i64 a0_3, .int .i64 a0_4, .int .i64 a0_5, .int .i64 a0_6, .int .i64 a0_7, .bool a0_8, .string a0_9, .bool a0_10, .string a0_11, .int .i64 a0_12] 65 (0, 0)) (by (with_reducible repeat (first | refine blk_drewN ?_ _ | refine blk_drew ?_ | refine blk_alloc ?_ _)); refine blk_far ?_ NB101_103.out _; refine blk_far ?_ NB101_103.out _; refine blk_far ?_ NB101_103.out _; refine blk_far ?_ NB101_103.out _; (with_reducible repeat (first | refine blk_drewN ?_ _ | refine blk_drew ?_ | refine blk_alloc ?_ _)); exact BK101.out) hb); have n1_ := Aside0.mk (blk_below (g := gb102) (o := .cells #[.int .i64 0, .int .i64 0, .int .i64 0, .int .i64 0, .int .i64 0, .int .i64 0, .int .i64 0, .int .i64 0, .bool false, .string (⟨#[]⟩ : ByteArray), .bool false, .string (⟨#[]⟩ : ByteArray), .int .i64 0] 65 (0, 0)) (by (with_reducible repeat (first | refine blk_drewN ?_ _ | refine blk_drew ?_ | refine blk_alloc ?_ _)); refine blk_far ?_ NB102_103.out _; refine blk_far ?_ NB102_103.out _; refine blk_far ?_ NB102_103.out _; refine blk_far ?_ NB102_103.out _; (with_reducible repeat (first | refine blk_drewN ?_ _ | refine blk_drew ?_ | refine blk_alloc ?_ _)); exact BK102.out) hb); have n2_ := Aside0.mk (blk_below (g := gb103) (o := .cells #[.int .i64 2, .int .i64 a0_1, .int .i64 a0_2, .int .i64 a0_3, .int .i64 a1, .int .i64 a2, .int .i64 a0_6, .int .i64 a0_7, .bool a0_10, .string a0_11, .bool a0_8, .string a0_9, .int .i64 a0_5] 65 (0, 0)) (by (with_reducible repeat (first | refine blk_drewN ?_ _ | refine blk_drew ?_ | refine blk_alloc ?_ _)); refine blk_put (cs := #[.int .i64 2, .int .i64 a0_1, .int .i64 a0_2, .int .i64 a0_3, .int .i64 a1, .int .i64 a2, .int .i64 a0_6, .int .i64 a0_7, .bool a0_10, .string a0_11, .bool a0_8, .string a0_11, .int .i64 a0_5]) ?_ 11 _ rfl; refine blk_put (cs := #[.int .i64 2, .int .i64 a0_1, .int .i64 a0_2, .int .i64 a0_3, .int .i64 a1, .int .i64 a2, .int .i64 a0_6, .int .i64 a0_7, .bool a0_10, .string a0_11, .bool a0_10, .string a0_11, .int .i64 a0_5]) ?_ 10 _ rfl; refine blk_put (cs := #[.int .i64 2, .int .i64 a0_1, .int .i64 a0_2, .int .i64 a0_3, .int .i64 a1, .int .i64 a2, .int .i64 a0_6, .int .i64 a0_7, .bool a0_10, .string a0_9, .bool a0_10, .string a0_11, .int .i64 a0_5]) ?_ 9 _ rfl; refine blk_put (cs := #[.int .i64 2, .int .i64 a0_1, .int .i64 a0_2, .int .i64 a0_3, .int .i64 a1, .int .i64 a2, .int .i64 a0_6, .int .i64 a0_7, .bool a0_8, .string a0_9, .bool a0_10, .string a0_11, .int .i64 a0_5]) ?_ 8 _ rfl; (with_reducible repeat (first | refine blk_drewN ?_ _ | refine blk_drew ?_ | refine blk_alloc ?_ _)); exact BK103.out) hb); have n3_ := Aside0.mk (below_step (by repeat (first | (with_reducible first | exact HB.out | apply below_alloc | apply pw_below_drewN | apply below_drew1 | refine below_set ?_ GE101.out | refine below_set ?_ GE102.out | refine below_set ?_ GE103.out) | exact HB.out)) hb); clear BK101; clear BK102; clear BK103; clear HB; have BK101 := n0_; have BK102 := n1_; have BK103 := n2_; have HB := n3_; clear n0_ n1_ n2_ n3_; (try clear hb); (try clear hb2); (try clear hk); (try clear hi); obtain ⟨hcz58_0, hcz58_1, hcz58_2, hcz58_3, hcz58_4, hcz58_5, hcz58_6, hcz58_7, hcz58_8, hcz58_9, hcz58_10, hcz58_11, hcz58_12⟩ := cl13 (W := w57) BK101.out; obtain ⟨hfz58_0, hfz58_1, hfz58_2, hfz58_3, hfz58_4, hfz58_5, hfz58_6, hfz58_7, hfz58_8, hfz58_9, hfz58_10, hfz58_11, hfz58_12⟩ := fr13 BK101.out; obtain ⟨hcz59_0, hcz59_1, hcz59_2, hcz59_3, hcz59_4, hcz59_5, hcz59_6, hcz59_7, hcz59_8, hcz59_9, hcz59_10, hcz59_11, hcz59_12⟩ := cl13 (W := w57) BK103.out; obtain ⟨hfz59_0, hfz59_1, hfz59_2, hfz59_3, hfz59_4, hfz59_5, hfz59_6, hfz59_7, hfz59_8, hfz59_9, hfz59_10, hfz59_11, hfz59_12⟩ := fr13 BK103.out) | (go_at_call 55; (with_reducible refine (entGood.calls 2 a0_1 a0_2 a0_3 a1 a2 a0_6 a0_7 a0_10 a0_11 a0_8 a0_9 a0_5 false _ A7.out).mono ?_); rintro e w60 ⟨rfl, hb⟩; have n0_ := Aside0.mk (blk_below (g := gb101) (o := .cells #[.int .i64 a0_0, .int .i64 a0_1, .int .i64 a0_2, .int .i64 a0_3, .int .i64 a0_4, .int .i64 a0_5, .int .i64 a0_6, .int .i64 a0_7, .bool a0_8, .string a0_9, .bool a0_10, .string a0_11, .int .i64 a0_12] 65 (0, 0)) (by (with_reducible repeat (first | refine blk_drewN ?_ _ | refine blk_drew ?_ | refine blk_alloc ?_ _)); exact BK101.out) hb); have n1_ := Aside0.mk (blk_below (g := gb102) (o := .cells #[.int .i64 0, .int .i64 0, .int .i64 0, .int .i64 0, .int .i64 0, .int .i64 0, .int .i64 0, .int .i64 0, .bool false, .string (⟨#[]⟩ : ByteArray), .bool false, .string (⟨#[]⟩ : ByteArray), .int .i64 0] 65 (0, 0)) (by (with_reducible repeat (first | refine blk_drewN ?_ _ | refine blk_drew ?_ | refine blk_alloc ?_ _)); exact BK102.out) hb); have n2_ := Aside0.mk (blk_below (g := gb103) (o := .cells #[.int .i64 2, .int .i64 a0_1, .int .i64 a0_2, .int .i64 a0_3, .int .i64 a1, .int .i64 a2, .int .i64 a0_6, .int .i64 a0_7, .bool a0_10, .string a0_11, .bool a0_8, .string a0_9, .int .i64 a0_5] 65 (0, 0)) (by (with_reducible repeat (first | refine blk_drewN ?_ _ | refine blk_drew ?_ | refine blk_alloc ?_ _)); exact BK103.out) hb); have n3_ := Aside0.mk (below_step (by repeat (first | (with_reducible first | exact HB.out | apply below_alloc | apply pw_below_drewN | apply below_drew1 | refine below_set ?_ GE101.out | refine below_set ?_ GE102.out | refine below_set ?_ GE103.out) | exact HB.out)) hb); clear BK101; clear BK102; clear BK103; clear HB; have BK101 := n0_; have BK102 := n1_; have BK103 := n2_; have HB := n3_; clear n0_ n1_ n2_ n3_; (try clear hb); (try clear hb2); (try clear hk); (try clear hi); obtain ⟨hcz61_0, hcz61_1, hcz61_2, hcz61_3, hcz61_4, hcz61_5, hcz61_6, hcz61_7, hcz61_8, hcz61_9, hcz61_10, hcz61_11, hcz61_12⟩ := cl13 (W := w60) BK102.out; obtain ⟨hfz61_0, hfz61_1, hfz61_2, hfz61_3, hfz61_4, hfz61_5, hfz61_6, hfz61_7, hfz61_8, hfz61_9, hfz61_10, hfz61_11, hfz61_12⟩ := fr13 BK102.out))
    refine bodyPost_ret (results_ct rfl _ _ gb102 65 #[.int .i64 0, .int .i64 0, .int .i64 0, .int .i64 0, .int .i64 0, .int .i64 0, .int .i64 0, .int .i64 0, .bool false, .string (⟨#[]⟩ : ByteArray), .bool false, .string (⟨#[]⟩ : ByteArray), .int .i64 0] (0, 0) _ rfl (by (with_reducible repeat (first | refine blk_drewN ?_ _ | refine blk_drew ?_ | refine blk_alloc ?_ _)); refine blk_put (cs := #[.int .i64 0, .int .i64 0, .int .i64 0, .int .i64 0, .int .i64 0, .int .i64 0, .int .i64 0, .int .i64 0, .bool false, .string (⟨#[]⟩ : ByteArray), .bool false, .string (⟨#[]⟩ : ByteArray), .int .i64 0]) ?_ 12 _ rfl; refine blk_put (cs := #[.int .i64 0, .int .i64 0, .int .i64 0, .int .i64 0, .int .i64 0, .int .i64 0, .int .i64 0, .int .i64 0, .bool false, .string (⟨#[]⟩ : ByteArray), .bool false, .string (⟨#[]⟩ : ByteArray), .int .i64 0]) ?_ 11 _ rfl; refine blk_put (cs := #[.int .i64 0, .int .i64 0, .int .i64 0, .int .i64 0, .int .i64 0, .int .i64 0, .int .i64 0, .int .i64 0, .bool false, .string (⟨#[]⟩ : ByteArray), .bool false, .string (⟨#[]⟩ : ByteArray), .int .i64 0]) ?_ 10 _ rfl; refine blk_put (cs := #[.int .i64 0, .int .i64 0, .int .i64 0, .int .i64 0, .int .i64 0, .int .i64 0, .int .i64 0, .int .i64 0, .bool false, .string (⟨#[]⟩ : ByteArray), .bool false, .string (⟨#[]⟩ : ByteArray), .int .i64 0]) ?_ 9 _ rfl; refine blk_put (cs := #[.int .i64 0, .int .i64 0, .int .i64 0, .int .i64 0, .int .i64 0, .int .i64 0, .int .i64 0, .int .i64 0, .bool false, .string (⟨#[]⟩ : ByteArray), .bool false, .string (⟨#[]⟩ : ByteArray), .int .i64 0]) ?_ 8 _ rfl; refine blk_put (cs := #[.int .i64 0, .int .i64 0, .int .i64 0, .int .i64 0, .int .i64 0, .int .i64 0, .int .i64 0, .int .i64 0, .bool false, .string (⟨#[]⟩ : ByteArray), .bool false, .string (⟨#[]⟩ : ByteArray), .int .i64 0]) ?_ 7 _ rfl; refine blk_put (cs := #[.int .i64 0, .int .i64 0, .int .i64 0, .int .i64 0, .int .i64 0, .int .i64 0, .int .i64 0, .int .i64 0, .bool false, .string (⟨#[]⟩ : ByteArray), .bool false, .string (⟨#[]⟩ : ByteArray), .int .i64 0]) ?_ 6 _ rfl; refine blk_put (cs := #[.int .i64 0, .int .i64 0, .int .i64 0, .int .i64 0, .int .i64 0, .int .i64 0, .int .i64 0, .int .i64 0, .bool false, .string (⟨#[]⟩ : ByteArray), .bool false, .string (⟨#[]⟩ : ByteArray), .int .i64 0]) ?_ 5 _ rfl; refine blk_put (cs := #[.int .i64 0, .int .i64 0, .int .i64 0, .int .i64 0, .int .i64 0, .int .i64 0, .int .i64 0, .int .i64 0, .bool false, .string (⟨#[]⟩ : ByteArray), .bool false, .string (⟨#[]⟩ : ByteArray), .int .i64 0]) ?_ 4 _ rfl; refine blk_put (cs := #[.int .i64 0, .int .i64 0, .int .i64 0, .int .i64 0, .int .i64 0, .int .i64 0, .int .i64 0, .int .i64 0, .bool false, .string (⟨#[]⟩ : ByteArray), .bool false, .string (⟨#[]⟩ : ByteArray), .int .i64 0]) ?_ 3 _ rfl; refine blk_put (cs := #[.int .i64 0, .int .i64 0, .int .i64 0, .int .i64 0, .int .i64 0, .int .i64 0, .int .i64 0, .int .i64 0, .bool false, .string (⟨#[]⟩ : ByteArray), .bool false, .string (⟨#[]⟩ : ByteArray), .int .i64 0]) ?_ 2 _ rfl; refine blk_put (cs := #[.int .i64 0, .int .i64 0, .int .i64 0, .int .i64 0, .int .i64 0, .int .i64 0, .int .i64 0, .int .i64 0, .bool false, .string (⟨#[]⟩ : ByteArray), .bool false, .string (⟨#[]⟩ : ByteArray), .int .i64 0]) ?_ 1 _ rfl; refine blk_put (cs := #[.int .i64 0, .int .i64 0, .int .i64 0, .int .i64 0, .int .i64 0, .int .i64 0, .int .i64 0, .int .i64 0, .bool false, .string (⟨#[]⟩ : ByteArray), .bool false, .string (⟨#[]⟩ : ByteArray), .int .i64 0]) ?_ 0 _ rfl; (with_reducible repeat (first | refine blk_drewN ?_ _ | refine blk_drew ?_ | refine blk_alloc ?_ _)); exact BK102.out) Try.underlying65 rfl (by kernel_rfl)) rfl ?_
    exact ⟨by first | rfl | (simp [errW_none, errW_some] <;> rfl) | (simp [*, errW_none, errW_some] <;> rfl), by repeat (first | (with_reducible first | exact HB.out | apply below_alloc | apply pw_below_drewN | apply below_drew1 | refine below_set ?_ GE101.out | refine below_set ?_ GE102.out | refine below_set ?_ GE103.out) | exact HB.out)⟩
  ·rw [if_neg c6] at H
   have c6b0 : (a0_0 == 1) = false := beq_eq_false_iff_ne.mpr c6
   have c6b1 : (a0_0 != 1) = true := bne_iff_ne.mpr c6
   simp only [Option.some.injEq, Prod.mk.injEq] at H
   obtain ⟨rfl, rfl, rfl, rfl, rfl, rfl, rfl, rfl, rfl, rfl, rfl, rfl, rfl, rfl⟩ := H
   try go_wp2_with (first | ((with_reducible refine gate_callee (f := 55) rfl ?_); refine goesL_ (some 25) rfl rfl Try.func55 (by kernel_rfl) rfl #[.agg #[.int .i64 a0_0, .int .i64 a0_1, .int .i64 a0_2, .int .i64 a0_3, .int .i64 a0_4, .int .i64 a0_5, .int .i64 a0_6, .int .i64 a0_7, .bool a0_8, .string a0_9, .bool a0_10, .string a0_11, .int .i64 a0_12]] rfl (by (try simp only [List.map_toArray, List.map_cons, List.map_nil]); first | done | rfl | (simp only [List.length_drop, List.length_take]; rfl)) ?_; (with_reducible refine (entGood.calls a0_0 a0_1 a0_2 a0_3 a0_4 a0_5 a0_6 a0_7 a0_8 a0_9 a0_10 a0_11 a0_12 true _ A4.out).mono ?_); rintro e w83 ⟨rfl, hb⟩; refine ⟨_, rfl, ?_⟩; have n0_ := Aside0.mk (blk_below (g := gb101) (o := .cells #[.int .i64 a0_0, .int .i64 a0_1, .int .i64 a0_2, .int .i64 a0_3, .int .i64 a0_4, .int .i64 a0_5, .int .i64 a0_6, .int .i64 a0_7, .bool a0_8, .string a0_9, .bool a0_10, .string a0_11, .int .i64 a0_12] 65 (0, 0)) (by (with_reducible repeat (first | refine blk_drewN ?_ _ | refine blk_drew ?_ | refine blk_alloc ?_ _)); refine blk_far ?_ NB101_103.out _; refine blk_far ?_ NB101_103.out _; refine blk_far ?_ NB101_103.out _; refine blk_far ?_ NB101_103.out _; (with_reducible repeat (first | refine blk_drewN ?_ _ | refine blk_drew ?_ | refine blk_alloc ?_ _)); exact BK101.out) hb); have n1_ := Aside0.mk (blk_below (g := gb102) (o := .cells #[.int .i64 0, .int .i64 0, .int .i64 0, .int .i64 0, .int .i64 0, .int .i64 0, .int .i64 0, .int .i64 0, .bool false, .string (⟨#[]⟩ : ByteArray), .bool false, .string (⟨#[]⟩ : ByteArray), .int .i64 0] 65 (0, 0)) (by (with_reducible repeat (first | refine blk_drewN ?_ _ | refine blk_drew ?_ | refine blk_alloc ?_ _)); refine blk_far ?_ NB102_103.out _; refine blk_far ?_ NB102_103.out _; refine blk_far ?_ NB102_103.out _; refine blk_far ?_ NB102_103.out _; (with_reducible repeat (first | refine blk_drewN ?_ _ | refine blk_drew ?_ | refine blk_alloc ?_ _)); exact BK102.out) hb); have n2_ := Aside0.mk (blk_below (g := gb103) (o := .cells #[.int .i64 2, .int .i64 a0_1, .int .i64 a0_2, .int .i64 a0_3, .int .i64 a1, .int .i64 a2, .int .i64 a0_6, .int .i64 a0_7, .bool a0_10, .string a0_11, .bool a0_8, .string a0_9, .int .i64 a0_5] 65 (0, 0)) (by (with_reducible repeat (first | refine blk_drewN ?_ _ | refine blk_drew ?_ | refine blk_alloc ?_ _)); refine blk_put (cs := #[.int .i64 2, .int .i64 a0_1, .int .i64 a0_2, .int .i64 a0_3, .int .i64 a1, .int .i64 a2, .int .i64 a0_6, .int .i64 a0_7, .bool a0_10, .string a0_11, .bool a0_8, .string a0_11, .int .i64 a0_5]) ?_ 11 _ rfl; refine blk_put (cs := #[.int .i64 2, .int .i64 a0_1, .int .i64 a0_2, .int .i64 a0_3, .int .i64 a1, .int .i64 a2, .int .i64 a0_6, .int .i64 a0_7, .bool a0_10, .string a0_11, .bool a0_10, .string a0_11, .int .i64 a0_5]) ?_ 10 _ rfl; refine blk_put (cs := #[.int .i64 2, .int .i64 a0_1, .int .i64 a0_2, .int .i64 a0_3, .int .i64 a1, .int .i64 a2, .int .i64 a0_6, .int .i64 a0_7, .bool a0_10, .string a0_9, .bool a0_10, .string a0_11, .int .i64 a0_5]) ?_ 9 _ rfl; refine blk_put (cs := #[.int .i64 2, .int .i64 a0_1, .int .i64 a0_2, .int .i64 a0_3, .int .i64 a1, .int .i64 a2, .int .i64 a0_6, .int .i64 a0_7, .bool a0_8, .string a0_9, .bool a0_10, .string a0_11, .int .i64 a0_5]) ?_ 8 _ rfl; (with_reducible repeat (first | refine blk_drewN ?_ _ | refine blk_drew ?_ | refine blk_alloc ?_ _)); exact BK103.out) hb); have n3_ := Aside0.mk (below_step (by repeat (first | (with_reducible first | exact HB.out | apply below_alloc | apply pw_below_drewN | apply below_drew1 | refine below_set ?_ GE101.out | refine below_set ?_ GE102.out | refine below_set ?_ GE103.out) | exact HB.out)) hb); clear BK101; clear BK102; clear BK103; clear HB; have BK101 := n0_; have BK102 := n1_; have BK103 := n2_; have HB := n3_; clear n0_ n1_ n2_ n3_; (try clear hb); (try clear hb2); (try clear hk); (try clear hi); obtain ⟨hcz84_0, hcz84_1, hcz84_2, hcz84_3, hcz84_4, hcz84_5, hcz84_6, hcz84_7, hcz84_8, hcz84_9, hcz84_10, hcz84_11, hcz84_12⟩ := cl13 (W := w83) BK101.out; obtain ⟨hfz84_0, hfz84_1, hfz84_2, hfz84_3, hfz84_4, hfz84_5, hfz84_6, hfz84_7, hfz84_8, hfz84_9, hfz84_10, hfz84_11, hfz84_12⟩ := fr13 BK101.out; obtain ⟨hcz85_0, hcz85_1, hcz85_2, hcz85_3, hcz85_4, hcz85_5, hcz85_6, hcz85_7, hcz85_8, hcz85_9, hcz85_10, hcz85_11, hcz85_12⟩ := cl13 (W := w83) BK102.out; obtain ⟨hfz85_0, hfz85_1, hfz85_2, hfz85_3, hfz85_4, hfz85_5, hfz85_6, hfz85_7, hfz85_8, hfz85_9, hfz85_10, hfz85_11, hfz85_12⟩ := fr13 BK102.out))
   refine bodyPost_ret (results_ct rfl _ _ gb102 65 #[.int .i64 0, .int .i64 0, .int .i64 0, .int .i64 0, .int .i64 0, .int .i64 0, .int .i64 0, .int .i64 0, .bool false, .string (⟨#[]⟩ : ByteArray), .bool false, .string (⟨#[]⟩ : ByteArray), .int .i64 0] (0, 0) _ rfl (by (with_reducible repeat (first | refine blk_drewN ?_ _ | refine blk_drew ?_ | refine blk_alloc ?_ _)); refine blk_put (cs := #[.int .i64 0, .int .i64 0, .int .i64 0, .int .i64 0, .int .i64 0, .int .i64 0, .int .i64 0, .int .i64 0, .bool false, .string (⟨#[]⟩ : ByteArray), .bool false, .string (⟨#[]⟩ : ByteArray), .int .i64 0]) ?_ 12 _ rfl; refine blk_put (cs := #[.int .i64 0, .int .i64 0, .int .i64 0, .int .i64 0, .int .i64 0, .int .i64 0, .int .i64 0, .int .i64 0, .bool false, .string (⟨#[]⟩ : ByteArray), .bool false, .string (⟨#[]⟩ : ByteArray), .int .i64 0]) ?_ 11 _ rfl; refine blk_put (cs := #[.int .i64 0, .int .i64 0, .int .i64 0, .int .i64 0, .int .i64 0, .int .i64 0, .int .i64 0, .int .i64 0, .bool false, .string (⟨#[]⟩ : ByteArray), .bool false, .string (⟨#[]⟩ : ByteArray), .int .i64 0]) ?_ 10 _ rfl; refine blk_put (cs := #[.int .i64 0, .int .i64 0, .int .i64 0, .int .i64 0, .int .i64 0, .int .i64 0, .int .i64 0, .int .i64 0, .bool false, .string (⟨#[]⟩ : ByteArray), .bool false, .string (⟨#[]⟩ : ByteArray), .int .i64 0]) ?_ 9 _ rfl; refine blk_put (cs := #[.int .i64 0, .int .i64 0, .int .i64 0, .int .i64 0, .int .i64 0, .int .i64 0, .int .i64 0, .int .i64 0, .bool false, .string (⟨#[]⟩ : ByteArray), .bool false, .string (⟨#[]⟩ : ByteArray), .int .i64 0]) ?_ 8 _ rfl; refine blk_put (cs := #[.int .i64 0, .int .i64 0, .int .i64 0, .int .i64 0, .int .i64 0, .int .i64 0, .int .i64 0, .int .i64 0, .bool false, .string (⟨#[]⟩ : ByteArray), .bool false, .string (⟨#[]⟩ : ByteArray), .int .i64 0]) ?_ 7 _ rfl; refine blk_put (cs := #[.int .i64 0, .int .i64 0, .int .i64 0, .int .i64 0, .int .i64 0, .int .i64 0, .int .i64 0, .int .i64 0, .bool false, .string (⟨#[]⟩ : ByteArray), .bool false, .string (⟨#[]⟩ : ByteArray), .int .i64 0]) ?_ 6 _ rfl; refine blk_put (cs := #[.int .i64 0, .int .i64 0, .int .i64 0, .int .i64 0, .int .i64 0, .int .i64 0, .int .i64 0, .int .i64 0, .bool false, .string (⟨#[]⟩ : ByteArray), .bool false, .string (⟨#[]⟩ : ByteArray), .int .i64 0]) ?_ 5 _ rfl; refine blk_put (cs := #[.int .i64 0, .int .i64 0, .int .i64 0, .int .i64 0, .int .i64 0, .int .i64 0, .int .i64 0, .int .i64 0, .bool false, .string (⟨#[]⟩ : ByteArray), .bool false, .string (⟨#[]⟩ : ByteArray), .int .i64 0]) ?_ 4 _ rfl; refine blk_put (cs := #[.int .i64 0, .int .i64 0, .int .i64 0, .int .i64 0, .int .i64 0, .int .i64 0, .int .i64 0, .int .i64 0, .bool false, .string (⟨#[]⟩ : ByteArray), .bool false, .string (⟨#[]⟩ : ByteArray), .int .i64 0]) ?_ 3 _ rfl; refine blk_put (cs := #[.int .i64 0, .int .i64 0, .int .i64 0, .int .i64 0, .int .i64 0, .int .i64 0, .int .i64 0, .int .i64 0, .bool false, .string (⟨#[]⟩ : ByteArray), .bool false, .string (⟨#[]⟩ : ByteArray), .int .i64 0]) ?_ 2 _ rfl; refine blk_put (cs := #[.int .i64 0, .int .i64 0, .int .i64 0, .int .i64 0, .int .i64 0, .int .i64 0, .int .i64 0, .int .i64 0, .bool false, .string (⟨#[]⟩ : ByteArray), .bool false, .string (⟨#[]⟩ : ByteArray), .int .i64 0]) ?_ 1 _ rfl; refine blk_put (cs := #[.int .i64 0, .int .i64 0, .int .i64 0, .int .i64 0, .int .i64 0, .int .i64 0, .int .i64 0, .int .i64 0, .bool false, .string (⟨#[]⟩ : ByteArray), .bool false, .string (⟨#[]⟩ : ByteArray), .int .i64 0]) ?_ 0 _ rfl; (with_reducible repeat (first | refine blk_drewN ?_ _ | refine blk_drew ?_ | refine blk_alloc ?_ _)); exact BK102.out) Try.underlying65 rfl (by kernel_rfl)) rfl ?_
   exact ⟨by first | rfl | (simp [errW_none, errW_some] <;> rfl) | (simp [*, errW_none, errW_some] <;> rfl), by repeat (first | (with_reducible first | exact HB.out | apply below_alloc | apply pw_below_drewN | apply below_drew1 | refine below_set ?_ GE101.out | refine below_set ?_ GE102.out | refine below_set ?_ GE103.out) | exact HB.out)⟩
 ·replace c5 := Bool.eq_false_iff.mpr c5
  subst c5
  have H1 : (some (0, 0, 0, 0, 0, 0, 0, 0, false, (⟨#[]⟩ : ByteArray), false, (⟨#[]⟩ : ByteArray), 0, 1)) = some (r1, r2, r3, r4, r5, r6, r7, r8, r9, r10, r11, r12, r13, r14) := by rw [if_neg (show ¬ (false = true) by decide)] at H; exact H
  clear H
  have H := H1
  clear H1
  simp only [Option.some.injEq, Prod.mk.injEq] at H
  obtain ⟨rfl, rfl, rfl, rfl, rfl, rfl, rfl, rfl, rfl, rfl, rfl, rfl, rfl, rfl⟩ := H
  try go_wp2_with (first | ((with_reducible refine gate_callee (f := 55) rfl ?_); refine goesL_ (some 25) rfl rfl Try.func55 (by kernel_rfl) rfl #[.agg #[.int .i64 a0_0, .int .i64 a0_1, .int .i64 a0_2, .int .i64 a0_3, .int .i64 a0_4, .int .i64 a0_5, .int .i64 a0_6, .int .i64 a0_7, .bool a0_8, .string a0_9, .bool a0_10, .string a0_11, .int .i64 a0_12]] rfl (by (try simp only [List.map_toArray, List.map_cons, List.map_nil]); first | done | rfl | (simp only [List.length_drop, List.length_take]; rfl)) ?_; (with_reducible refine (entGood.calls a0_0 a0_1 a0_2 a0_3 a0_4 a0_5 a0_6 a0_7 a0_8 a0_9 a0_10 a0_11 a0_12 false _ A4.out).mono ?_); rintro e w107 ⟨rfl, hb⟩; refine ⟨_, rfl, ?_⟩; have n0_ := Aside0.mk (blk_below (g := gb101) (o := .cells #[.int .i64 a0_0, .int .i64 a0_1, .int .i64 a0_2, .int .i64 a0_3, .int .i64 a0_4, .int .i64 a0_5, .int .i64 a0_6, .int .i64 a0_7, .bool a0_8, .string a0_9, .bool a0_10, .string a0_11, .int .i64 a0_12] 65 (0, 0)) (by (with_reducible repeat (first | refine blk_drewN ?_ _ | refine blk_drew ?_ | refine blk_alloc ?_ _)); refine blk_far ?_ NB101_103.out _; refine blk_far ?_ NB101_103.out _; refine blk_far ?_ NB101_103.out _; refine blk_far ?_ NB101_103.out _; (with_reducible repeat (first | refine blk_drewN ?_ _ | refine blk_drew ?_ | refine blk_alloc ?_ _)); exact BK101.out) hb); have n1_ := Aside0.mk (blk_below (g := gb102) (o := .cells #[.int .i64 0, .int .i64 0, .int .i64 0, .int .i64 0, .int .i64 0, .int .i64 0, .int .i64 0, .int .i64 0, .bool false, .string (⟨#[]⟩ : ByteArray), .bool false, .string (⟨#[]⟩ : ByteArray), .int .i64 0] 65 (0, 0)) (by (with_reducible repeat (first | refine blk_drewN ?_ _ | refine blk_drew ?_ | refine blk_alloc ?_ _)); refine blk_far ?_ NB102_103.out _; refine blk_far ?_ NB102_103.out _; refine blk_far ?_ NB102_103.out _; refine blk_far ?_ NB102_103.out _; (with_reducible repeat (first | refine blk_drewN ?_ _ | refine blk_drew ?_ | refine blk_alloc ?_ _)); exact BK102.out) hb); have n2_ := Aside0.mk (blk_below (g := gb103) (o := .cells #[.int .i64 2, .int .i64 a0_1, .int .i64 a0_2, .int .i64 a0_3, .int .i64 a1, .int .i64 a2, .int .i64 a0_6, .int .i64 a0_7, .bool a0_10, .string a0_11, .bool a0_8, .string a0_9, .int .i64 a0_5] 65 (0, 0)) (by (with_reducible repeat (first | refine blk_drewN ?_ _ | refine blk_drew ?_ | refine blk_alloc ?_ _)); refine blk_put (cs := #[.int .i64 2, .int .i64 a0_1, .int .i64 a0_2, .int .i64 a0_3, .int .i64 a1, .int .i64 a2, .int .i64 a0_6, .int .i64 a0_7, .bool a0_10, .string a0_11, .bool a0_8, .string a0_11, .int .i64 a0_5]) ?_ 11 _ rfl; refine blk_put (cs := #[.int .i64 2, .int .i64 a0_1, .int .i64 a0_2, .int .i64 a0_3, .int .i64 a1, .int .i64 a2, .int .i64 a0_6, .int .i64 a0_7, .bool a0_10, .string a0_11, .bool a0_10, .string a0_11, .int .i64 a0_5]) ?_ 10 _ rfl; refine blk_put (cs := #[.int .i64 2, .int .i64 a0_1, .int .i64 a0_2, .int .i64 a0_3, .int .i64 a1, .int .i64 a2, .int .i64 a0_6, .int .i64 a0_7, .bool a0_10, .string a0_9, .bool a0_10, .string a0_11, .int .i64 a0_5]) ?_ 9 _ rfl; refine blk_put (cs := #[.int .i64 2, .int .i64 a0_1, .int .i64 a0_2, .int .i64 a0_3, .int .i64 a1, .int .i64 a2, .int .i64 a0_6, .int .i64 a0_7, .bool a0_8, .string a0_9, .bool a0_10, .string a0_11, .int .i64 a0_5]) ?_ 8 _ rfl; (with_reducible repeat (first | refine blk_drewN ?_ _ | refine blk_drew ?_ | refine blk_alloc ?_ _)); exact BK103.out) hb); have n3_ := Aside0.mk (below_step (by repeat (first | (with_reducible first | exact HB.out | apply below_alloc | apply pw_below_drewN | apply below_drew1 | refine below_set ?_ GE101.out | refine below_set ?_ GE102.out | refine below_set ?_ GE103.out) | exact HB.out)) hb); clear BK101; clear BK102; clear BK103; clear HB; have BK101 := n0_; have BK102 := n1_; have BK103 := n2_; have HB := n3_; clear n0_ n1_ n2_ n3_; (try clear hb); (try clear hb2); (try clear hk); (try clear hi); obtain ⟨hcz108_0, hcz108_1, hcz108_2, hcz108_3, hcz108_4, hcz108_5, hcz108_6, hcz108_7, hcz108_8, hcz108_9, hcz108_10, hcz108_11, hcz108_12⟩ := cl13 (W := w107) BK102.out; obtain ⟨hfz108_0, hfz108_1, hfz108_2, hfz108_3, hfz108_4, hfz108_5, hfz108_6, hfz108_7, hfz108_8, hfz108_9, hfz108_10, hfz108_11, hfz108_12⟩ := fr13 BK102.out))
  refine bodyPost_ret (results_ct rfl _ _ gb102 65 #[.int .i64 0, .int .i64 0, .int .i64 0, .int .i64 0, .int .i64 0, .int .i64 0, .int .i64 0, .int .i64 0, .bool false, .string (⟨#[]⟩ : ByteArray), .bool false, .string (⟨#[]⟩ : ByteArray), .int .i64 0] (0, 0) _ rfl (by (with_reducible repeat (first | refine blk_drewN ?_ _ | refine blk_drew ?_ | refine blk_alloc ?_ _)); refine blk_put (cs := #[.int .i64 0, .int .i64 0, .int .i64 0, .int .i64 0, .int .i64 0, .int .i64 0, .int .i64 0, .int .i64 0, .bool false, .string (⟨#[]⟩ : ByteArray), .bool false, .string (⟨#[]⟩ : ByteArray), .int .i64 0]) ?_ 12 _ rfl; refine blk_put (cs := #[.int .i64 0, .int .i64 0, .int .i64 0, .int .i64 0, .int .i64 0, .int .i64 0, .int .i64 0, .int .i64 0, .bool false, .string (⟨#[]⟩ : ByteArray), .bool false, .string (⟨#[]⟩ : ByteArray), .int .i64 0]) ?_ 11 _ rfl; refine blk_put (cs := #[.int .i64 0, .int .i64 0, .int .i64 0, .int .i64 0, .int .i64 0, .int .i64 0, .int .i64 0, .int .i64 0, .bool false, .string (⟨#[]⟩ : ByteArray), .bool false, .string (⟨#[]⟩ : ByteArray), .int .i64 0]) ?_ 10 _ rfl; refine blk_put (cs := #[.int .i64 0, .int .i64 0, .int .i64 0, .int .i64 0, .int .i64 0, .int .i64 0, .int .i64 0, .int .i64 0, .bool false, .string (⟨#[]⟩ : ByteArray), .bool false, .string (⟨#[]⟩ : ByteArray), .int .i64 0]) ?_ 9 _ rfl; refine blk_put (cs := #[.int .i64 0, .int .i64 0, .int .i64 0, .int .i64 0, .int .i64 0, .int .i64 0, .int .i64 0, .int .i64 0, .bool false, .string (⟨#[]⟩ : ByteArray), .bool false, .string (⟨#[]⟩ : ByteArray), .int .i64 0]) ?_ 8 _ rfl; refine blk_put (cs := #[.int .i64 0, .int .i64 0, .int .i64 0, .int .i64 0, .int .i64 0, .int .i64 0, .int .i64 0, .int .i64 0, .bool false, .string (⟨#[]⟩ : ByteArray), .bool false, .string (⟨#[]⟩ : ByteArray), .int .i64 0]) ?_ 7 _ rfl; refine blk_put (cs := #[.int .i64 0, .int .i64 0, .int .i64 0, .int .i64 0, .int .i64 0, .int .i64 0, .int .i64 0, .int .i64 0, .bool false, .string (⟨#[]⟩ : ByteArray), .bool false, .string (⟨#[]⟩ : ByteArray), .int .i64 0]) ?_ 6 _ rfl; refine blk_put (cs := #[.int .i64 0, .int .i64 0, .int .i64 0, .int .i64 0, .int .i64 0, .int .i64 0, .int .i64 0, .int .i64 0, .bool false, .string (⟨#[]⟩ : ByteArray), .bool false, .string (⟨#[]⟩ : ByteArray), .int .i64 0]) ?_ 5 _ rfl; refine blk_put (cs := #[.int .i64 0, .int .i64 0, .int .i64 0, .int .i64 0, .int .i64 0, .int .i64 0, .int .i64 0, .int .i64 0, .bool false, .string (⟨#[]⟩ : ByteArray), .bool false, .string (⟨#[]⟩ : ByteArray), .int .i64 0]) ?_ 4 _ rfl; refine blk_put (cs := #[.int .i64 0, .int .i64 0, .int .i64 0, .int .i64 0, .int .i64 0, .int .i64 0, .int .i64 0, .int .i64 0, .bool false, .string (⟨#[]⟩ : ByteArray), .bool false, .string (⟨#[]⟩ : ByteArray), .int .i64 0]) ?_ 3 _ rfl; refine blk_put (cs := #[.int .i64 0, .int .i64 0, .int .i64 0, .int .i64 0, .int .i64 0, .int .i64 0, .int .i64 0, .int .i64 0, .bool false, .string (⟨#[]⟩ : ByteArray), .bool false, .string (⟨#[]⟩ : ByteArray), .int .i64 0]) ?_ 2 _ rfl; refine blk_put (cs := #[.int .i64 0, .int .i64 0, .int .i64 0, .int .i64 0, .int .i64 0, .int .i64 0, .int .i64 0, .int .i64 0, .bool false, .string (⟨#[]⟩ : ByteArray), .bool false, .string (⟨#[]⟩ : ByteArray), .int .i64 0]) ?_ 1 _ rfl; refine blk_put (cs := #[.int .i64 0, .int .i64 0, .int .i64 0, .int .i64 0, .int .i64 0, .int .i64 0, .int .i64 0, .int .i64 0, .bool false, .string (⟨#[]⟩ : ByteArray), .bool false, .string (⟨#[]⟩ : ByteArray), .int .i64 0]) ?_ 0 _ rfl; (with_reducible repeat (first | refine blk_drewN ?_ _ | refine blk_drew ?_ | refine blk_alloc ?_ _)); exact BK102.out) Try.underlying65 rfl (by kernel_rfl)) rfl ?_
  exact ⟨by first | rfl | (simp [errW_none, errW_some] <;> rfl) | (simp [*, errW_none, errW_some] <;> rfl), by repeat (first | (with_reducible first | exact HB.out | apply below_alloc | apply pw_below_drewN | apply below_drew1 | refine below_set ?_ GE101.out | refine below_set ?_ GE102.out | refine below_set ?_ GE103.out) | exact HB.out)⟩
end Go.Proofs.Ytfjmnaobfbmllaa.M
namespace Go.Proofs.Ytfjmnaobfbmllaa.M
open Go.RowKit Go.Proofs.YtfjmnaobfbmllaaW.PrintWords Go.Proofs.YtfjmnaobfbmllaaW.PrintLast Go.Proofs.YtfjmnaobfbmllaaW.PrintMore
set_option linter.unusedVariables false
set_option linter.unusedSimpArgs false
def turnTup (q : S65 × Int) : Int × Int × Int × Int × Int × Int × Int × Int × Bool × ByteArray × Bool × ByteArray × Int × Int := (q.1.f0, q.1.f1.f0, q.1.f1.f1, q.1.f1.f2, q.1.f2, q.1.f3, q.1.f4, q.1.f5, q.1.f6.f0, q.1.f6.f1, q.1.f7.f0, q.1.f7.f1, q.1.f8, q.2)
theorem turn_pure (x : S65) (l2 p2 : Int) : patch_Turn.f x.f0 x.f1.f0 x.f1.f1 x.f1.f2 x.f2 x.f3 x.f4 x.f5 x.f6.f0 x.f6.f1 x.f7.f0 x.f7.f1 x.f8 l2 p2 = some (turnTup (turnP x l2 p2)) := by
  unfold patch_Turn.f entGood.f
  rw [Option.bind_some, mk_eq]
  have eu : mkE 2 x.f1.f0 x.f1.f1 x.f1.f2 l2 p2 x.f4 x.f5 x.f7.f0 x.f7.f1 x.f6.f0 x.f6.f1 x.f3 = undoE x l2 p2 := rfl
  rw [Option.bind_some, eu]
  unfold turnP
  by_cases h1 : GoodE x
  · rw [decide_eq_true h1, if_pos rfl]
    by_cases h2 : x.f0 = 1
    · rw [if_pos h2]
      by_cases h3 : GoodE (undoE x l2 p2)
      · rw [decide_eq_true h3, if_pos rfl, if_pos ⟨h1, h2, h3⟩]; rfl
      · rw [decide_eq_false h3, if_neg Bool.false_ne_true, if_neg (fun h => h3 h.2.2)]; rfl
    · rw [if_neg h2, if_neg (fun h => h2 h.2.1)]; rfl
  · rw [decide_eq_false h1, if_neg Bool.false_ne_true, if_neg (fun h => h1 h.1)]; rfl
def patTurn.f (k c e n lsn prev p s : Int) (u : Bool) (d : ByteArray) (u2 : Bool) (d2 : ByteArray) (next : Int) (l2 p2 : Int) : Option (Int × Int × Int × Int × Int × Int × Int × Int × Bool × ByteArray × Bool × ByteArray × Int × Int) := some (turnTup (turnP (mkE k c e n lsn prev p s u d u2 d2 next) l2 p2))
theorem patTurn.calls (k c e n lsn prev p s : Int) (u : Bool) (d : ByteArray) (u2 : Bool) (d2 : ByteArray) (next : Int) (l2 p2 : Int) (r1 : Int) (r2 : Int) (r3 : Int) (r4 : Int) (r5 : Int) (r6 : Int) (r7 : Int) (r8 : Int) (r9 : Bool) (r10 : ByteArray) (r11 : Bool) (r12 : ByteArray) (r13 : Int) (r14 : Int) (w : World) (h : patTurn.f k c e n lsn prev p s u d u2 d2 next l2 p2 = some (r1, r2, r3, r4, r5, r6, r7, r8, r9, r10, r11, r12, r13, r14)) :
    Calls Try.prog 69 #[.agg #[.int .i64 k, .int .i64 c, .int .i64 e, .int .i64 n, .int .i64 lsn, .int .i64 prev, .int .i64 p, .int .i64 s, .bool u, .string d, .bool u2, .string d2, .int .i64 next], .int .i64 l2, .int .i64 p2] w fun e w' => e = .returned (.tuple #[.agg #[.int .i64 r1, .int .i64 r2, .int .i64 r3, .int .i64 r4, .int .i64 r5, .int .i64 r6, .int .i64 r7, .int .i64 r8, .bool r9, .string r10, .bool r11, .string r12, .int .i64 r13], .int .i64 r14]) ∧ Below w.heap.size w w' :=
  patch_Turn.calls k c e n lsn prev p s u d u2 d2 next l2 p2 r1 r2 r3 r4 r5 r6 r7 r8 r9 r10 r11 r12 r13 r14 w (by rw [← h]; exact turn_pure (mkE k c e n lsn prev p s u d u2 d2 next) l2 p2)
end Go.Proofs.Ytfjmnaobfbmllaa.M
namespace Go.Proofs.Ytfjmnaobfbmllaa.M
open Go.RowKit Go.Proofs.YtfjmnaobfbmllaaW.PrintWords Go.Proofs.YtfjmnaobfbmllaaW.PrintLast Go.Proofs.YtfjmnaobfbmllaaW.PrintMore
attribute [local go_sem] max2_int min2_int max_two min_two max_three min_three max_four min_four   -- for this text's walks alone
set_option linter.unusedVariables false
set_option linter.unusedSimpArgs false
def seneschalref05_Turn.j0 : Nat → Int → Int → Bool → Int → Int → Int → Int → Int → Int → Int → Int → Bool → ByteArray → Bool → ByteArray → Int → Option (Int × Int × Int × Int × Int × Int × Int × Int × Bool × ByteArray × Bool × ByteArray × Int × Int)
 | 0, _, _, _, _, _, _, _, _, _, _, _, _, _, _, _, _ => none
 | k + 1, x1, x2, x16, x102000, x102001, x102002, x102003, x102004, x102005, x102006, x102007, x102008, x102009, x102010, x102011, x102012 => if x16 = true then (some (0, 0, 0, 0, 0, 0, 0, 0, false, (⟨#[]⟩ : ByteArray), false, (⟨#[]⟩ : ByteArray), 0, 1)) else ((refGood4.f 2 x102001 x102002 x102003 x1 x2 x102006 x102007 x102010 x102011 x102008 x102009 x102005).bind fun t105 => (if t105 = true then (some (2, x102001, x102002, x102003, x1, x2, x102006, x102007, x102010, x102011, x102008, x102009, x102005, 0)) else (some (0, 0, 0, 0, 0, 0, 0, 0, false, (⟨#[]⟩ : ByteArray), false, (⟨#[]⟩ : ByteArray), 0, 1))))
def seneschalref05_Turn.f (k : Nat) (a0_0 : Int) (a0_1 : Int) (a0_2 : Int) (a0_3 : Int) (a0_4 : Int) (a0_5 : Int) (a0_6 : Int) (a0_7 : Int) (a0_8 : Bool) (a0_9 : ByteArray) (a0_10 : Bool) (a0_11 : ByteArray) (a0_12 : Int) (a1 : Int) (a2 : Int) : Option (Int × Int × Int × Int × Int × Int × Int × Int × Bool × ByteArray × Bool × ByteArray × Int × Int) := (refGood4.f a0_0 a0_1 a0_2 a0_3 a0_4 a0_5 a0_6 a0_7 a0_8 a0_9 a0_10 a0_11 a0_12).bind fun t103 => (if t103 = true then (seneschalref05_Turn.j0 k a1 a2 (a0_0 != 1) a0_0 a0_1 a0_2 a0_3 a0_4 a0_5 a0_6 a0_7 a0_8 a0_9 a0_10 a0_11 a0_12) else (seneschalref05_Turn.j0 k a1 a2 true a0_0 a0_1 a0_2 a0_3 a0_4 a0_5 a0_6 a0_7 a0_8 a0_9 a0_10 a0_11 a0_12))
set_option maxHeartbeats 8000000 in
set_option maxRecDepth 100000 in
theorem seneschalref05_Turn.calls (k : Nat) (a0_0 : Int) (a0_1 : Int) (a0_2 : Int) (a0_3 : Int) (a0_4 : Int) (a0_5 : Int) (a0_6 : Int) (a0_7 : Int) (a0_8 : Bool) (a0_9 : ByteArray) (a0_10 : Bool) (a0_11 : ByteArray) (a0_12 : Int) (a1 : Int) (a2 : Int) (r1 : Int) (r2 : Int) (r3 : Int) (r4 : Int) (r5 : Int) (r6 : Int) (r7 : Int) (r8 : Int) (r9 : Bool) (r10 : ByteArray) (r11 : Bool) (r12 : ByteArray) (r13 : Int) (r14 : Int) (w : World) (h : seneschalref05_Turn.f k a0_0 a0_1 a0_2 a0_3 a0_4 a0_5 a0_6 a0_7 a0_8 a0_9 a0_10 a0_11 a0_12 a1 a2 = some (r1, r2, r3, r4, r5, r6, r7, r8, r9, r10, r11, r12, r13, r14)) :
  Calls Try.prog 70 #[.agg #[.int .i64 a0_0, .int .i64 a0_1, .int .i64 a0_2, .int .i64 a0_3, .int .i64 a0_4, .int .i64 a0_5, .int .i64 a0_6, .int .i64 a0_7, .bool a0_8, .string a0_9, .bool a0_10, .string a0_11, .int .i64 a0_12], .int .i64 a1, .int .i64 a2] w fun e w' => e = .returned (.tuple #[.agg #[.int .i64 r1, .int .i64 r2, .int .i64 r3, .int .i64 r4, .int .i64 r5, .int .i64 r6, .int .i64 r7, .int .i64 r8, .bool r9, .string r10, .bool r11, .string r12, .int .i64 r13], .int .i64 r14]) ∧ Below w.heap.size w w' := by
 have hu65 := Try.underlying65
 have hu52 := Try.underlying52
 have hu33 := Try.underlying33
 have HB := Aside0.mk (Below.refl w.heap.size w)
 have H : ((refGood4.f a0_0 a0_1 a0_2 a0_3 a0_4 a0_5 a0_6 a0_7 a0_8 a0_9 a0_10 a0_11 a0_12).bind fun t103 => (if t103 = true then (seneschalref05_Turn.j0 k a1 a2 (a0_0 != 1) a0_0 a0_1 a0_2 a0_3 a0_4 a0_5 a0_6 a0_7 a0_8 a0_9 a0_10 a0_11 a0_12) else (seneschalref05_Turn.j0 k a1 a2 true a0_0 a0_1 a0_2 a0_3 a0_4 a0_5 a0_6 a0_7 a0_8 a0_9 a0_10 a0_11 a0_12))) = some (r1, r2, r3, r4, r5, r6, r7, r8, r9, r10, r11, r12, r13, r14) := h
 clear h
 have HC4 := Aside0.mk H
 clear H
 go_enter Try.func70, Try.ntmps70
 go_upto_region 1 with (first | ((with_reducible refine gate_dst (N := 3) rfl ?_); refine box_event ?hg (N := 3) ?hd (cs := #[.int .i64 a0_0, .int .i64 a0_1, .int .i64 a0_2, .int .i64 a0_3, .int .i64 a0_4, .int .i64 a0_5, .int .i64 a0_6, .int .i64 a0_7, .bool a0_8, .string a0_9, .bool a0_10, .string a0_11, .int .i64 a0_12]) (t := 65) ?hr ?_; (case hd => rfl); (case hg => rfl); (case hr => first | (go_simp; done) | (go_simp; rfl)); intro gb101 hg w5 hbox hb; have n0_ := Aside0.mk (below_step (by repeat (first | (with_reducible first | exact HB.out | apply below_alloc | apply pw_below_drewN | apply below_drew1) | exact HB.out)) hb); have n1_ := Aside0.mk (hbox); have n2_ := Aside0.mk ((by rw [hg]; exact (below_size (by repeat (first | (with_reducible first | exact HB.out | apply below_alloc | apply pw_below_drewN | apply below_drew1) | exact HB.out))) : w.heap.size ≤ gb101)); have n3_ := Aside0.mk ((by rw [hg]; exact (below_size (by repeat (first | (with_reducible first | exact HB.out | apply below_alloc | apply pw_below_drewN | apply below_drew1) | exact HB.out))) : w.heap.size ≤ gb101)); clear HB; have HB := n0_; have BK101 := n1_; have GW101 := n2_; have GE101 := n3_; clear n0_ n1_ n2_ n3_; clear hb hbox hg) | ((with_reducible refine gate_dst (N := 6) rfl ?_); refine box_event ?hg (N := 6) ?hd (cs := #[.int .i64 0, .int .i64 0, .int .i64 0, .int .i64 0, .int .i64 0, .int .i64 0, .int .i64 0, .int .i64 0, .bool false, .string (⟨#[]⟩ : ByteArray), .bool false, .string (⟨#[]⟩ : ByteArray), .int .i64 0]) (t := 65) ?hr ?_; (case hd => rfl); (case hg => rfl); (case hr => first | (go_simp; done) | (go_simp; rfl)); intro gb102 hg w6 hbox hb; have n0_ := Aside0.mk (blk_below (g := gb101) (o := .cells #[.int .i64 a0_0, .int .i64 a0_1, .int .i64 a0_2, .int .i64 a0_3, .int .i64 a0_4, .int .i64 a0_5, .int .i64 a0_6, .int .i64 a0_7, .bool a0_8, .string a0_9, .bool a0_10, .string a0_11, .int .i64 a0_12] 65 (0, 0)) (by (with_reducible repeat (first | refine blk_drewN ?_ _ | refine blk_drew ?_ | refine blk_alloc ?_ _)); exact BK101.out) hb); have n1_ := Aside0.mk (below_step (by repeat (first | (with_reducible first | exact HB.out | apply below_alloc | apply pw_below_drewN | apply below_drew1 | refine below_set ?_ GE101.out) | exact HB.out)) hb); have n2_ := Aside0.mk (hbox); have n3_ := Aside0.mk ((by rw [hg]; exact (below_size (by repeat (first | (with_reducible first | exact HB.out | apply below_alloc | apply pw_below_drewN | apply below_drew1 | refine below_set ?_ GE101.out) | exact HB.out))) : w.heap.size ≤ gb102)); have n4_ := Aside0.mk ((by rw [hg]; exact (below_size (by repeat (first | (with_reducible first | exact HB.out | apply below_alloc | apply pw_below_drewN | apply below_drew1 | refine below_set ?_ GE101.out) | exact HB.out))) : w.heap.size ≤ gb102)); have n5_ := Aside0.mk ((by rw [hg]; exact Nat.ne_of_lt (blk_lt (g := gb101) (o := .cells #[.int .i64 a0_0, .int .i64 a0_1, .int .i64 a0_2, .int .i64 a0_3, .int .i64 a0_4, .int .i64 a0_5, .int .i64 a0_6, .int .i64 a0_7, .bool a0_8, .string a0_9, .bool a0_10, .string a0_11, .int .i64 a0_12] 65 (0, 0)) (by (with_reducible repeat (first | refine blk_drewN ?_ _ | refine blk_drew ?_ | refine blk_alloc ?_ _)); exact BK101.out)) : gb101 ≠ gb102)); have n6_ := Aside0.mk ((by rw [hg]; exact Nat.ne_of_gt (blk_lt (g := gb101) (o := .cells #[.int .i64 a0_0, .int .i64 a0_1, .int .i64 a0_2, .int .i64 a0_3, .int .i64 a0_4, .int .i64 a0_5, .int .i64 a0_6, .int .i64 a0_7, .bool a0_8, .string a0_9, .bool a0_10, .string a0_11, .int .i64 a0_12] 65 (0, 0)) (by (with_reducible repeat (first | refine blk_drewN ?_ _ | refine blk_drew ?_ | refine blk_alloc ?_ _)); exact BK101.out)) : gb102 ≠ gb101)); clear BK101; clear HB; have BK101 := n0_; have HB := n1_; have BK102 := n2_; have GW102 := n3_; have GE102 := n4_; have NB101_102 := n5_; have NB102_101 := n6_; clear n0_ n1_ n2_ n3_ n4_ n5_ n6_; clear hb hbox hg))
 (try simp only [Act.put, List.setIfInBounds_toArray, List.set_cons_zero, List.set_cons_succ])
 go_cut [16] (fun v16 wc => ∃ (kq : Nat) (x16_3 : Bool), v16 = .bool x16_3 ∧ Aside0 (seneschalref05_Turn.j0 kq a1 a2 x16_3 a0_0 a0_1 a0_2 a0_3 a0_4 a0_5 a0_6 a0_7 a0_8 a0_9 a0_10 a0_11 a0_12 = some (r1, r2, r3, r4, r5, r6, r7, r8, r9, r10, r11, r12, r13, r14)) ∧ Aside0 (kq ≤ k) ∧ Aside0 (wc.heap[gb101]? = some (.cells #[.int .i64 a0_0, .int .i64 a0_1, .int .i64 a0_2, .int .i64 a0_3, .int .i64 a0_4, .int .i64 a0_5, .int .i64 a0_6, .int .i64 a0_7, .bool a0_8, .string a0_9, .bool a0_10, .string a0_11, .int .i64 a0_12] 65 (0, 0))) ∧ Aside0 (wc.heap[gb102]? = some (.cells #[.int .i64 0, .int .i64 0, .int .i64 0, .int .i64 0, .int .i64 0, .int .i64 0, .int .i64 0, .int .i64 0, .bool false, .string (⟨#[]⟩ : ByteArray), .bool false, .string (⟨#[]⟩ : ByteArray), .int .i64 0] 65 (0, 0))) ∧ Aside0 (Below w.heap.size w wc))
 case first =>
  have H := HC4.out
  clear HC4
  replace H := Option.bind_eq_some_iff.mp H
  obtain ⟨t103, A70, H⟩ := H
  replace H : (if t103 = true then (seneschalref05_Turn.j0 k a1 a2 (a0_0 != 1) a0_0 a0_1 a0_2 a0_3 a0_4 a0_5 a0_6 a0_7 a0_8 a0_9 a0_10 a0_11 a0_12) else (seneschalref05_Turn.j0 k a1 a2 true a0_0 a0_1 a0_2 a0_3 a0_4 a0_5 a0_6 a0_7 a0_8 a0_9 a0_10 a0_11 a0_12)) = some (r1, r2, r3, r4, r5, r6, r7, r8, r9, r10, r11, r12, r13, r14) := H
  have A7 := Aside0.mk A70
  clear A70
  by_cases c8 : t103 = true
  ·subst c8
   have H1 : (seneschalref05_Turn.j0 k a1 a2 (a0_0 != 1) a0_0 a0_1 a0_2 a0_3 a0_4 a0_5 a0_6 a0_7 a0_8 a0_9 a0_10 a0_11 a0_12) = some (r1, r2, r3, r4, r5, r6, r7, r8, r9, r10, r11, r12, r13, r14) := by rw [if_pos rfl] at H; exact H
   clear H
   have H := H1
   clear H1
   have H' := Aside0.mk H
   clear H
   have hnb9 := NB101_102.out
   have hnc9 := NB102_101.out
   obtain ⟨hcz10_0, hcz10_1, hcz10_2, hcz10_3, hcz10_4, hcz10_5, hcz10_6, hcz10_7, hcz10_8, hcz10_9, hcz10_10, hcz10_11, hcz10_12⟩ := cl13 (W := w6) BK101.out
   obtain ⟨hfz10_0, hfz10_1, hfz10_2, hfz10_3, hfz10_4, hfz10_5, hfz10_6, hfz10_7, hfz10_8, hfz10_9, hfz10_10, hfz10_11, hfz10_12⟩ := fr13 BK101.out
   go_wp2_with (first | ((with_reducible refine gate_callee (f := 56) rfl ?_); refine goesL_ (some 10) rfl rfl Try.func56 (by kernel_rfl) rfl #[.agg #[.int .i64 a0_0, .int .i64 a0_1, .int .i64 a0_2, .int .i64 a0_3, .int .i64 a0_4, .int .i64 a0_5, .int .i64 a0_6, .int .i64 a0_7, .bool a0_8, .string a0_9, .bool a0_10, .string a0_11, .int .i64 a0_12]] rfl (by (try simp only [List.map_toArray, List.map_cons, List.map_nil]); first | done | rfl | (simp only [List.length_drop, List.length_take]; rfl)) ?_; (with_reducible refine (refGood4.calls a0_0 a0_1 a0_2 a0_3 a0_4 a0_5 a0_6 a0_7 a0_8 a0_9 a0_10 a0_11 a0_12 true _ A7.out).mono ?_); rintro e w11 ⟨rfl, hb⟩; refine ⟨_, rfl, ?_⟩; have n0_ := Aside0.mk (blk_below (g := gb101) (o := .cells #[.int .i64 a0_0, .int .i64 a0_1, .int .i64 a0_2, .int .i64 a0_3, .int .i64 a0_4, .int .i64 a0_5, .int .i64 a0_6, .int .i64 a0_7, .bool a0_8, .string a0_9, .bool a0_10, .string a0_11, .int .i64 a0_12] 65 (0, 0)) (by (with_reducible repeat (first | refine blk_drewN ?_ _ | refine blk_drew ?_ | refine blk_alloc ?_ _)); exact BK101.out) hb); have n1_ := Aside0.mk (blk_below (g := gb102) (o := .cells #[.int .i64 0, .int .i64 0, .int .i64 0, .int .i64 0, .int .i64 0, .int .i64 0, .int .i64 0, .int .i64 0, .bool false, .string (⟨#[]⟩ : ByteArray), .bool false, .string (⟨#[]⟩ : ByteArray), .int .i64 0] 65 (0, 0)) (by (with_reducible repeat (first | refine blk_drewN ?_ _ | refine blk_drew ?_ | refine blk_alloc ?_ _)); exact BK102.out) hb); have n2_ := Aside0.mk (below_step (by repeat (first | (with_reducible first | exact HB.out | apply below_alloc | apply pw_below_drewN | apply below_drew1 | refine below_set ?_ GE101.out | refine below_set ?_ GE102.out) | exact HB.out)) hb); clear BK101; clear BK102; clear HB; have BK101 := n0_; have BK102 := n1_; have HB := n2_; clear n0_ n1_ n2_; (try clear hb); (try clear hb2); (try clear hk); (try clear hi); obtain ⟨hcz12_0, hcz12_1, hcz12_2, hcz12_3, hcz12_4, hcz12_5, hcz12_6, hcz12_7, hcz12_8, hcz12_9, hcz12_10, hcz12_11, hcz12_12⟩ := cl13 (W := w11) BK101.out; obtain ⟨hfz12_0, hfz12_1, hfz12_2, hfz12_3, hfz12_4, hfz12_5, hfz12_6, hfz12_7, hfz12_8, hfz12_9, hfz12_10, hfz12_11, hfz12_12⟩ := fr13 BK101.out))
   go_meet
   case rel => exact ⟨_, ((a0_0 != 1)), (by first | rfl | (simp; done) | (simp [*]; done)), H', ⟨by first | omega | exact Nat.le_refl _⟩, ⟨by (with_reducible repeat (first | refine blk_drewN ?_ _ | refine blk_drew ?_ | refine blk_alloc ?_ _)); exact BK101.out⟩, ⟨by (with_reducible repeat (first | refine blk_drewN ?_ _ | refine blk_drew ?_ | refine blk_alloc ?_ _)); exact BK102.out⟩, ⟨by repeat (first | (with_reducible first | exact HB.out | apply below_alloc | apply pw_below_drewN | apply below_drew1 | refine below_set ?_ GE101.out | refine below_set ?_ GE102.out) | exact HB.out)⟩⟩
  ·replace c8 := Bool.eq_false_iff.mpr c8
   subst c8
   have H1 : (seneschalref05_Turn.j0 k a1 a2 true a0_0 a0_1 a0_2 a0_3 a0_4 a0_5 a0_6 a0_7 a0_8 a0_9 a0_10 a0_11 a0_12) = some (r1, r2, r3, r4, r5, r6, r7, r8, r9, r10, r11, r12, r13, r14) := by rw [if_neg (show ¬ (false = true) by decide)] at H; exact H
   clear H
   have H := H1
   clear H1
   have H' := Aside0.mk H
   clear H
   have hnb13 := NB101_102.out
   have hnc13 := NB102_101.out
   obtain ⟨hcz14_0, hcz14_1, hcz14_2, hcz14_3, hcz14_4, hcz14_5, hcz14_6, hcz14_7, hcz14_8, hcz14_9, hcz14_10, hcz14_11, hcz14_12⟩ := cl13 (W := w6) BK101.out
   obtain ⟨hfz14_0, hfz14_1, hfz14_2, hfz14_3, hfz14_4, hfz14_5, hfz14_6, hfz14_7, hfz14_8, hfz14_9, hfz14_10, hfz14_11, hfz14_12⟩ := fr13 BK101.out
   go_wp2_with (first | ((with_reducible refine gate_callee (f := 56) rfl ?_); refine goesL_ (some 10) rfl rfl Try.func56 (by kernel_rfl) rfl #[.agg #[.int .i64 a0_0, .int .i64 a0_1, .int .i64 a0_2, .int .i64 a0_3, .int .i64 a0_4, .int .i64 a0_5, .int .i64 a0_6, .int .i64 a0_7, .bool a0_8, .string a0_9, .bool a0_10, .string a0_11, .int .i64 a0_12]] rfl (by (try simp only [List.map_toArray, List.map_cons, List.map_nil]); first | done | rfl | (simp only [List.length_drop, List.length_take]; rfl)) ?_; (with_reducible refine (refGood4.calls a0_0 a0_1 a0_2 a0_3 a0_4 a0_5 a0_6 a0_7 a0_8 a0_9 a0_10 a0_11 a0_12 false _ A7.out).mono ?_); rintro e w15 ⟨rfl, hb⟩; refine ⟨_, rfl, ?_⟩; have n0_ := Aside0.mk (blk_below (g := gb101) (o := .cells #[.int .i64 a0_0, .int .i64 a0_1, .int .i64 a0_2, .int .i64 a0_3, .int .i64 a0_4, .int .i64 a0_5, .int .i64 a0_6, .int .i64 a0_7, .bool a0_8, .string a0_9, .bool a0_10, .string a0_11, .int .i64 a0_12] 65 (0, 0)) (by (with_reducible repeat (first | refine blk_drewN ?_ _ | refine blk_drew ?_ | refine blk_alloc ?_ _)); exact BK101.out) hb); have n1_ := Aside0.mk (blk_below (g := gb102) (o := .cells #[.int .i64 0, .int .i64 0, .int .i64 0, .int .i64 0, .int .i64 0, .int .i64 0, .int .i64 0, .int .i64 0, .bool false, .string (⟨#[]⟩ : ByteArray), .bool false, .string (⟨#[]⟩ : ByteArray), .int .i64 0] 65 (0, 0)) (by (with_reducible repeat (first | refine blk_drewN ?_ _ | refine blk_drew ?_ | refine blk_alloc ?_ _)); exact BK102.out) hb); have n2_ := Aside0.mk (below_step (by repeat (first | (with_reducible first | exact HB.out | apply below_alloc | apply pw_below_drewN | apply below_drew1 | refine below_set ?_ GE101.out | refine below_set ?_ GE102.out) | exact HB.out)) hb); clear BK101; clear BK102; clear HB; have BK101 := n0_; have BK102 := n1_; have HB := n2_; clear n0_ n1_ n2_; (try clear hb); (try clear hb2); (try clear hk); (try clear hi)))
   go_meet
   case rel => exact ⟨_, (true), (by first | rfl | (simp; done) | (simp [*]; done)), H', ⟨by first | omega | exact Nat.le_refl _⟩, ⟨by (with_reducible repeat (first | refine blk_drewN ?_ _ | refine blk_drew ?_ | refine blk_alloc ?_ _)); exact BK101.out⟩, ⟨by (with_reducible repeat (first | refine blk_drewN ?_ _ | refine blk_drew ?_ | refine blk_alloc ?_ _)); exact BK102.out⟩, ⟨by repeat (first | (with_reducible first | exact HB.out | apply below_alloc | apply pw_below_drewN | apply below_drew1 | refine below_set ?_ GE101.out | refine below_set ?_ GE102.out) | exact HB.out)⟩⟩
 case rest =>
  clear HC4
  try clear c1
  try clear p2
  try clear c5
  try clear c7
  try clear c8
  try clear c9
  try clear c13
  try clear hcz10_0
  try clear hcz10_1
  try clear hcz10_10
  try clear hcz10_11
  try clear hcz10_12
  try clear hcz10_2
  try clear hcz10_3
  try clear hcz10_4
  try clear hcz10_5
  try clear hcz10_6
  try clear hcz10_7
  try clear hcz10_8
  try clear hcz10_9
  try clear hcz12_0
  try clear hcz12_1
  try clear hcz12_10
  try clear hcz12_11
  try clear hcz12_12
  try clear hcz12_2
  try clear hcz12_3
  try clear hcz12_4
  try clear hcz12_5
  try clear hcz12_6
  try clear hcz12_7
  try clear hcz12_8
  try clear hcz12_9
  try clear hcz14_0
  try clear hcz14_1
  try clear hcz14_10
  try clear hcz14_11
  try clear hcz14_12
  try clear hcz14_2
  try clear hcz14_3
  try clear hcz14_4
  try clear hcz14_5
  try clear hcz14_6
  try clear hcz14_7
  try clear hcz14_8
  try clear hcz14_9
  try clear hfz10_0
  try clear hfz10_1
  try clear hfz10_10
  try clear hfz10_11
  try clear hfz10_12
  try clear hfz10_2
  try clear hfz10_3
  try clear hfz10_4
  try clear hfz10_5
  try clear hfz10_6
  try clear hfz10_7
  try clear hfz10_8
  try clear hfz10_9
  try clear hfz12_0
  try clear hfz12_1
  try clear hfz12_10
  try clear hfz12_11
  try clear hfz12_12
  try clear hfz12_2
  try clear hfz12_3
  try clear hfz12_4
  try clear hfz12_5
  try clear hfz12_6
  try clear hfz12_7
  try clear hfz12_8
  try clear hfz12_9
  try clear hfz14_0
  try clear hfz14_1
  try clear hfz14_10
  try clear hfz14_11
  try clear hfz14_12
  try clear hfz14_2
  try clear hfz14_3
  try clear hfz14_4
  try clear hfz14_5
  try clear hfz14_6
  try clear hfz14_7
  try clear hfz14_8
  try clear hfz14_9
  obtain ⟨kq, x16_3, rfl, HA, HJ3, BK101, BK102, HB⟩ := hcut
  cases kq with
  | zero => exact absurd HA.out (by simp [seneschalref05_Turn.j0])
  | succ kj3 =>
   have H := HA.out
   clear HA
   simp only [seneschalref05_Turn.j0] at H
   by_cases c16 : x16_3 = true
   ·subst c16
    have H1 : (some (0, 0, 0, 0, 0, 0, 0, 0, false, (⟨#[]⟩ : ByteArray), false, (⟨#[]⟩ : ByteArray), 0, 1)) = some (r1, r2, r3, r4, r5, r6, r7, r8, r9, r10, r11, r12, r13, r14) := by rw [if_pos rfl] at H; exact H
    clear H
    have H := H1
    clear H1
    simp only [Option.some.injEq, Prod.mk.injEq] at H
    obtain ⟨rfl, rfl, rfl, rfl, rfl, rfl, rfl, rfl, rfl, rfl, rfl, rfl, rfl, rfl⟩ := H
    have hnb17 := NB102_101.out
    have hnc17 := NB101_102.out
    obtain ⟨hcz18_0, hcz18_1, hcz18_2, hcz18_3, hcz18_4, hcz18_5, hcz18_6, hcz18_7, hcz18_8, hcz18_9, hcz18_10, hcz18_11, hcz18_12⟩ := cl13 (W := wc) BK102.out
    obtain ⟨hfz18_0, hfz18_1, hfz18_2, hfz18_3, hfz18_4, hfz18_5, hfz18_6, hfz18_7, hfz18_8, hfz18_9, hfz18_10, hfz18_11, hfz18_12⟩ := fr13 BK102.out
    go_wp2
    refine bodyPost_ret (results_ct rfl _ _ gb102 65 #[.int .i64 0, .int .i64 0, .int .i64 0, .int .i64 0, .int .i64 0, .int .i64 0, .int .i64 0, .int .i64 0, .bool false, .string (⟨#[]⟩ : ByteArray), .bool false, .string (⟨#[]⟩ : ByteArray), .int .i64 0] (0, 0) _ rfl (by (with_reducible repeat (first | refine blk_drewN ?_ _ | refine blk_drew ?_ | refine blk_alloc ?_ _)); refine blk_put (cs := #[.int .i64 0, .int .i64 0, .int .i64 0, .int .i64 0, .int .i64 0, .int .i64 0, .int .i64 0, .int .i64 0, .bool false, .string (⟨#[]⟩ : ByteArray), .bool false, .string (⟨#[]⟩ : ByteArray), .int .i64 0]) ?_ 12 _ rfl; refine blk_put (cs := #[.int .i64 0, .int .i64 0, .int .i64 0, .int .i64 0, .int .i64 0, .int .i64 0, .int .i64 0, .int .i64 0, .bool false, .string (⟨#[]⟩ : ByteArray), .bool false, .string (⟨#[]⟩ : ByteArray), .int .i64 0]) ?_ 11 _ rfl; refine blk_put (cs := #[.int .i64 0, .int .i64 0, .int .i64 0, .int .i64 0, .int .i64 0, .int .i64 0, .int .i64 0, .int .i64 0, .bool false, .string (⟨#[]⟩ : ByteArray), .bool false, .string (⟨#[]⟩ : ByteArray), .int .i64 0]) ?_ 10 _ rfl; refine blk_put (cs := #[.int .i64 0, .int .i64 0, .int .i64 0, .int .i64 0, .int .i64 0, .int .i64 0, .int .i64 0, .int .i64 0, .bool false, .string (⟨#[]⟩ : ByteArray), .bool false, .string (⟨#[]⟩ : ByteArray), .int .i64 0]) ?_ 9 _ rfl; refine blk_put (cs := #[.int .i64 0, .int .i64 0, .int .i64 0, .int .i64 0, .int .i64 0, .int .i64 0, .int .i64 0, .int .i64 0, .bool false, .string (⟨#[]⟩ : ByteArray), .bool false, .string (⟨#[]⟩ : ByteArray), .int .i64 0]) ?_ 8 _ rfl; refine blk_put (cs := #[.int .i64 0, .int .i64 0, .int .i64 0, .int .i64 0, .int .i64 0, .int .i64 0, .int .i64 0, .int .i64 0, .bool false, .string (⟨#[]⟩ : ByteArray), .bool false, .string (⟨#[]⟩ : ByteArray), .int .i64 0]) ?_ 7 _ rfl; refine blk_put (cs := #[.int .i64 0, .int .i64 0, .int .i64 0, .int .i64 0, .int .i64 0, .int .i64 0, .int .i64 0, .int .i64 0, .bool false, .string (⟨#[]⟩ : ByteArray), .bool false, .string (⟨#[]⟩ : ByteArray), .int .i64 0]) ?_ 6 _ rfl; refine blk_put (cs := #[.int .i64 0, .int .i64 0, .int .i64 0, .int .i64 0, .int .i64 0, .int .i64 0, .int .i64 0, .int .i64 0, .bool false, .string (⟨#[]⟩ : ByteArray), .bool false, .string (⟨#[]⟩ : ByteArray), .int .i64 0]) ?_ 5 _ rfl; refine blk_put (cs := #[.int .i64 0, .int .i64 0, .int .i64 0, .int .i64 0, .int .i64 0, .int .i64 0, .int .i64 0, .int .i64 0, .bool false, .string (⟨#[]⟩ : ByteArray), .bool false, .string (⟨#[]⟩ : ByteArray), .int .i64 0]) ?_ 4 _ rfl; refine blk_put (cs := #[.int .i64 0, .int .i64 0, .int .i64 0, .int .i64 0, .int .i64 0, .int .i64 0, .int .i64 0, .int .i64 0, .bool false, .string (⟨#[]⟩ : ByteArray), .bool false, .string (⟨#[]⟩ : ByteArray), .int .i64 0]) ?_ 3 _ rfl; refine blk_put (cs := #[.int .i64 0, .int .i64 0, .int .i64 0, .int .i64 0, .int .i64 0, .int .i64 0, .int .i64 0, .int .i64 0, .bool false, .string (⟨#[]⟩ : ByteArray), .bool false, .string (⟨#[]⟩ : ByteArray), .int .i64 0]) ?_ 2 _ rfl; refine blk_put (cs := #[.int .i64 0, .int .i64 0, .int .i64 0, .int .i64 0, .int .i64 0, .int .i64 0, .int .i64 0, .int .i64 0, .bool false, .string (⟨#[]⟩ : ByteArray), .bool false, .string (⟨#[]⟩ : ByteArray), .int .i64 0]) ?_ 1 _ rfl; refine blk_put (cs := #[.int .i64 0, .int .i64 0, .int .i64 0, .int .i64 0, .int .i64 0, .int .i64 0, .int .i64 0, .int .i64 0, .bool false, .string (⟨#[]⟩ : ByteArray), .bool false, .string (⟨#[]⟩ : ByteArray), .int .i64 0]) ?_ 0 _ rfl; (with_reducible repeat (first | refine blk_drewN ?_ _ | refine blk_drew ?_ | refine blk_alloc ?_ _)); exact BK102.out) Try.underlying65 rfl (by kernel_rfl)) rfl ?_
    exact ⟨by first | rfl | (simp [errW_none, errW_some] <;> rfl) | (simp [*, errW_none, errW_some] <;> rfl), by repeat (first | (with_reducible first | exact HB.out | apply below_alloc | apply pw_below_drewN | apply below_drew1 | refine below_set ?_ GE101.out | refine below_set ?_ GE102.out) | exact HB.out)⟩
   ·replace c16 := Bool.eq_false_iff.mpr c16
    subst c16
    have H1 : ((refGood4.f 2 a0_1 a0_2 a0_3 a1 a2 a0_6 a0_7 a0_10 a0_11 a0_8 a0_9 a0_5).bind fun t105 => (if t105 = true then (some (2, a0_1, a0_2, a0_3, a1, a2, a0_6, a0_7, a0_10, a0_11, a0_8, a0_9, a0_5, 0)) else (some (0, 0, 0, 0, 0, 0, 0, 0, false, (⟨#[]⟩ : ByteArray), false, (⟨#[]⟩ : ByteArray), 0, 1)))) = some (r1, r2, r3, r4, r5, r6, r7, r8, r9, r10, r11, r12, r13, r14) := by rw [if_neg (show ¬ (false = true) by decide)] at H; exact H
    clear H
    have H := H1
    clear H1
    replace H := Option.bind_eq_some_iff.mp H
    obtain ⟨t105, A190, H⟩ := H
    replace H : (if t105 = true then (some (2, a0_1, a0_2, a0_3, a1, a2, a0_6, a0_7, a0_10, a0_11, a0_8, a0_9, a0_5, 0)) else (some (0, 0, 0, 0, 0, 0, 0, 0, false, (⟨#[]⟩ : ByteArray), false, (⟨#[]⟩ : ByteArray), 0, 1))) = some (r1, r2, r3, r4, r5, r6, r7, r8, r9, r10, r11, r12, r13, r14) := H
    have A19 := Aside0.mk A190
    clear A190
    by_cases c20 : t105 = true
    ·subst c20
     have H1 : (some (2, a0_1, a0_2, a0_3, a1, a2, a0_6, a0_7, a0_10, a0_11, a0_8, a0_9, a0_5, 0)) = some (r1, r2, r3, r4, r5, r6, r7, r8, r9, r10, r11, r12, r13, r14) := by rw [if_pos rfl] at H; exact H
     clear H
     have H := H1
     clear H1
     simp only [Option.some.injEq, Prod.mk.injEq] at H
     obtain ⟨rfl, rfl, rfl, rfl, rfl, rfl, rfl, rfl, rfl, rfl, rfl, rfl, rfl, rfl⟩ := H
     have hnb21 := NB101_102.out
     have hnc21 := NB102_101.out
     obtain ⟨hcz22_0, hcz22_1, hcz22_2, hcz22_3, hcz22_4, hcz22_5, hcz22_6, hcz22_7, hcz22_8, hcz22_9, hcz22_10, hcz22_11, hcz22_12⟩ := cl13 (W := wc) BK101.out
     obtain ⟨hfz22_0, hfz22_1, hfz22_2, hfz22_3, hfz22_4, hfz22_5, hfz22_6, hfz22_7, hfz22_8, hfz22_9, hfz22_10, hfz22_11, hfz22_12⟩ := fr13 BK101.out
     go_wp2_with (first | ((with_reducible refine gate_dst (N := 8) rfl ?_); refine box_event ?hg (N := 8) ?hd (cs := #[.int .i64 0, .int .i64 0, .int .i64 0, .int .i64 0, .int .i64 0, .int .i64 0, .int .i64 0, .int .i64 0, .bool false, .string (⟨#[]⟩ : ByteArray), .bool false, .string (⟨#[]⟩ : ByteArray), .int .i64 0]) (t := 65) ?hr ?_; (case hd => rfl); (case hg => rfl); (case hr => first | (go_simp; done) | (go_simp; rfl)); intro gb104 hg w23 hbox hb; have n0_ := Aside0.mk (blk_below (g := gb101) (o := .cells #[.int .i64 a0_0, .int .i64 a0_1, .int .i64 a0_2, .int .i64 a0_3, .int .i64 a0_4, .int .i64 a0_5, .int .i64 a0_6, .int .i64 a0_7, .bool a0_8, .string a0_9, .bool a0_10, .string a0_11, .int .i64 a0_12] 65 (0, 0)) (by (with_reducible repeat (first | refine blk_drewN ?_ _ | refine blk_drew ?_ | refine blk_alloc ?_ _)); exact BK101.out) hb); have n1_ := Aside0.mk (blk_below (g := gb102) (o := .cells #[.int .i64 0, .int .i64 0, .int .i64 0, .int .i64 0, .int .i64 0, .int .i64 0, .int .i64 0, .int .i64 0, .bool false, .string (⟨#[]⟩ : ByteArray), .bool false, .string (⟨#[]⟩ : ByteArray), .int .i64 0] 65 (0, 0)) (by (with_reducible repeat (first | refine blk_drewN ?_ _ | refine blk_drew ?_ | refine blk_alloc ?_ _)); exact BK102.out) hb); have n2_ := Aside0.mk (below_step (by repeat (first | (with_reducible first | exact HB.out | apply below_alloc | apply pw_below_drewN | apply below_drew1 | refine below_set ?_ GE101.out | refine below_set ?_ GE102.out) | exact HB.out)) hb); have n3_ := Aside0.mk (hbox); have n4_ := Aside0.mk ((by rw [hg]; exact (below_size (by repeat (first | (with_reducible first | exact HB.out | apply below_alloc | apply pw_below_drewN | apply below_drew1 | refine below_set ?_ GE101.out | refine below_set ?_ GE102.out) | exact HB.out))) : w.heap.size ≤ gb104)); have n5_ := Aside0.mk ((by rw [hg]; exact (below_size (by repeat (first | (with_reducible first | exact HB.out | apply below_alloc | apply pw_below_drewN | apply below_drew1 | refine below_set ?_ GE101.out | refine below_set ?_ GE102.out) | exact HB.out))) : w.heap.size ≤ gb104)); have n6_ := Aside0.mk ((by rw [hg]; exact Nat.ne_of_lt (blk_lt (g := gb101) (o := .cells #[.int .i64 a0_0, .int .i64 a0_1, .int .i64 a0_2, .int .i64 a0_3, .int .i64 a0_4, .int .i64 a0_5, .int .i64 a0_6, .int .i64 a0_7, .bool a0_8, .string a0_9, .bool a0_10, .string a0_11, .int .i64 a0_12] 65 (0, 0)) (by (with_reducible repeat (first | refine blk_drewN ?_ _ | refine blk_drew ?_ | refine blk_alloc ?_ _)); exact BK101.out)) : gb101 ≠ gb104)); have n7_ := Aside0.mk ((by rw [hg]; exact Nat.ne_of_gt (blk_lt (g := gb101) (o := .cells #[.int .i64 a0_0, .int .i64 a0_1, .int .i64 a0_2, .int .i64 a0_3, .int .i64 a0_4, .int .i64 a0_5, .int .i64 a0_6, .int .i64 a0_7, .bool a0_8, .string a0_9, .bool a0_10, .string a0_11, .int .i64 a0_12] 65 (0, 0)) (by (with_reducible repeat (first | refine blk_drewN ?_ _ | refine blk_drew ?_ | refine blk_alloc ?_ _)); exact BK101.out)) : gb104 ≠ gb101)); have n8_ := Aside0.mk ((by rw [hg]; exact Nat.ne_of_lt (blk_lt (g := gb102) (o := .cells #[.int .i64 0, .int .i64 0, .int .i64 0, .int .i64 0, .int .i64 0, .int .i64 0, .int .i64 0, .int .i64 0, .bool false, .string (⟨#[]⟩ : ByteArray), .bool false, .string (⟨#[]⟩ : ByteArray), .int .i64 0] 65 (0, 0)) (by (with_reducible repeat (first | refine blk_drewN ?_ _ | refine blk_drew ?_ | refine blk_alloc ?_ _)); exact BK102.out)) : gb102 ≠ gb104)); have n9_ := Aside0.mk ((by rw [hg]; exact Nat.ne_of_gt (blk_lt (g := gb102) (o := .cells #[.int .i64 0, .int .i64 0, .int .i64 0, .int .i64 0, .int .i64 0, .int .i64 0, .int .i64 0, .int .i64 0, .bool false, .string (⟨#[]⟩ : ByteArray), .bool false, .string (⟨#[]⟩ : ByteArray), .int .i64 0] 65 (0, 0)) (by (with_reducible repeat (first | refine blk_drewN ?_ _ | refine blk_drew ?_ | refine blk_alloc ?_ _)); exact BK102.out)) : gb104 ≠ gb102)); clear BK101; clear BK102; clear HB; have BK101 := n0_; have BK102 := n1_; have HB := n2_; have BK104 := n3_; have GW104 := n4_; have GE104 := n5_; have NB101_104 := n6_; have NB104_101 := n7_; have NB102_104 := n8_; have NB104_102 := n9_; clear n0_ n1_ n2_ n3_ n4_ n5_ n6_ n7_ n8_ n9_; clear hb hbox hg; have hnb24 := NB104_101.out; have hnc24 := NB101_104.out; have hnb25 := NB104_102.out; have hnc25 := NB102_104.out; obtain ⟨hcz26_0, hcz26_1, hcz26_2, hcz26_3, hcz26_4, hcz26_5, hcz26_6, hcz26_7, hcz26_8, hcz26_9, hcz26_10, hcz26_11, hcz26_12⟩ := cl13 (W := w23) BK104.out; obtain ⟨hfz26_0, hfz26_1, hfz26_2, hfz26_3, hfz26_4, hfz26_5, hfz26_6, hfz26_7, hfz26_8, hfz26_9, hfz26_10, hfz26_11, hfz26_12⟩ := fr13 BK104.out) | ((with_reducible refine gate_callee (f := 56) rfl ?_); refine goesL_ (some 34) rfl rfl Try.func56 (by kernel_rfl) rfl #[.agg #[.int .i64 2, .int .i64 a0_1, .int .i64 a0_2, .int .i64 a0_3, .int .i64 a1, .int .i64 a2, .int .i64 a0_6, .int .i64 a0_7, .bool a0_10, .string a0_11, .bool a0_8, .string a0_9, .int .i64 a0_5]] rfl (by (try simp only [List.map_toArray, List.map_cons, List.map_nil]); first | done | rfl | (simp only [List.length_drop, List.length_take]; rfl)) ?_; (with_reducible refine (refGood4.calls 2 a0_1 a0_2 a0_3 a1 a2 a0_6 a0_7 a0_10 a0_11 a0_8 a0_9 a0_5 true _ A19.out).mono ?_); rintro e w27 ⟨rfl, hb⟩; refine ⟨_, rfl, ?_⟩; have n0_ := Aside0.mk (blk_below (g := gb101) (o := .cells #[.int .i64 a0_0, .int .i64 a0_1, .int .i64 a0_2, .int .i64 a0_3, .int .i64 a0_4, .int .i64 a0_5, .int .i64 a0_6, .int .i64 a0_7, .bool a0_8, .string a0_9, .bool a0_10, .string a0_11, .int .i64 a0_12] 65 (0, 0)) (by (with_reducible repeat (first | refine blk_drewN ?_ _ | refine blk_drew ?_ | refine blk_alloc ?_ _)); refine blk_far ?_ NB101_104.out _; refine blk_far ?_ NB101_104.out _; refine blk_far ?_ NB101_104.out _; refine blk_far ?_ NB101_104.out _; refine blk_far ?_ NB101_104.out _; refine blk_far ?_ NB101_104.out _; refine blk_far ?_ NB101_104.out _; refine blk_far ?_ NB101_104.out _; refine blk_far ?_ NB101_104.out _; refine blk_far ?_ NB101_104.out _; refine blk_far ?_ NB101_104.out _; refine blk_far ?_ NB101_104.out _; refine blk_far ?_ NB101_104.out _; (with_reducible repeat (first | refine blk_drewN ?_ _ | refine blk_drew ?_ | refine blk_alloc ?_ _)); exact BK101.out) hb); have n1_ := Aside0.mk (blk_below (g := gb102) (o := .cells #[.int .i64 0, .int .i64 0, .int .i64 0, .int .i64 0, .int .i64 0, .int .i64 0, .int .i64 0, .int .i64 0, .bool false, .string (⟨#[]⟩ : ByteArray), .bool false, .string (⟨#[]⟩ : ByteArray), .int .i64 0] 65 (0, 0)) (by (with_reducible repeat (first | refine blk_drewN ?_ _ | refine blk_drew ?_ | refine blk_alloc ?_ _)); refine blk_far ?_ NB102_104.out _; refine blk_far ?_ NB102_104.out _; refine blk_far ?_ NB102_104.out _; refine blk_far ?_ NB102_104.out _; refine blk_far ?_ NB102_104.out _; refine blk_far ?_ NB102_104.out _; refine blk_far ?_ NB102_104.out _; refine blk_far ?_ NB102_104.out _; refine blk_far ?_ NB102_104.out _; refine blk_far ?_ NB102_104.out _; refine blk_far ?_ NB102_104.out _; refine blk_far ?_ NB102_104.out _; refine blk_far ?_ NB102_104.out _; (with_reducible repeat (first | refine blk_drewN ?_ _ | refine blk_drew ?_ | refine blk_alloc ?_ _)); exact BK102.out) hb); have n2_ := Aside0.mk (blk_below (g := gb104) (o := .cells #[.int .i64 2, .int .i64 a0_1, .int .i64 a0_2, .int .i64 a0_3, .int .i64 a1, .int .i64 a2, .int .i64 a0_6, .int .i64 a0_7, .bool a0_10, .string a0_11, .bool a0_8, .string a0_9, .int .i64 a0_5] 65 (0, 0)) (by (with_reducible repeat (first | refine blk_drewN ?_ _ | refine blk_drew ?_ | refine blk_alloc ?_ _)); refine blk_put (cs := #[.int .i64 2, .int .i64 a0_1, .int .i64 a0_2, .int .i64 a0_3, .int .i64 a1, .int .i64 a2, .int .i64 a0_6, .int .i64 a0_7, .bool a0_10, .string a0_11, .bool a0_8, .string a0_9, .int .i64 0]) ?_ 12 _ rfl; refine blk_put (cs := #[.int .i64 2, .int .i64 a0_1, .int .i64 a0_2, .int .i64 a0_3, .int .i64 a1, .int .i64 a2, .int .i64 a0_6, .int .i64 a0_7, .bool a0_10, .string a0_11, .bool a0_8, .string (⟨#[]⟩ : ByteArray), .int .i64 0]) ?_ 11 _ rfl; refine blk_put (cs := #[.int .i64 2, .int .i64 a0_1, .int .i64 a0_2, .int .i64 a0_3, .int .i64 a1, .int .i64 a2, .int .i64 a0_6, .int .i64 a0_7, .bool a0_10, .string a0_11, .bool false, .string (⟨#[]⟩ : ByteArray), .int .i64 0]) ?_ 10 _ rfl; refine blk_put (cs := #[.int .i64 2, .int .i64 a0_1, .int .i64 a0_2, .int .i64 a0_3, .int .i64 a1, .int .i64 a2, .int .i64 a0_6, .int .i64 a0_7, .bool a0_10, .string (⟨#[]⟩ : ByteArray), .bool false, .string (⟨#[]⟩ : ByteArray), .int .i64 0]) ?_ 9 _ rfl; refine blk_put (cs := #[.int .i64 2, .int .i64 a0_1, .int .i64 a0_2, .int .i64 a0_3, .int .i64 a1, .int .i64 a2, .int .i64 a0_6, .int .i64 a0_7, .bool false, .string (⟨#[]⟩ : ByteArray), .bool false, .string (⟨#[]⟩ : ByteArray), .int .i64 0]) ?_ 8 _ rfl; refine blk_put (cs := #[.int .i64 2, .int .i64 a0_1, .int .i64 a0_2, .int .i64 a0_3, .int .i64 a1, .int .i64 a2, .int .i64 a0_6, .int .i64 0, .bool false, .string (⟨#[]⟩ : ByteArray), .bool false, .string (⟨#[]⟩ : ByteArray), .int .i64 0]) ?_ 7 _ rfl; refine blk_put (cs := #[.int .i64 2, .int .i64 a0_1, .int .i64 a0_2, .int .i64 a0_3, .int .i64 a1, .int .i64 a2, .int .i64 0, .int .i64 0, .bool false, .string (⟨#[]⟩ : ByteArray), .bool false, .string (⟨#[]⟩ : ByteArray), .int .i64 0]) ?_ 6 _ rfl; refine blk_put (cs := #[.int .i64 2, .int .i64 a0_1, .int .i64 a0_2, .int .i64 a0_3, .int .i64 a1, .int .i64 0, .int .i64 0, .int .i64 0, .bool false, .string (⟨#[]⟩ : ByteArray), .bool false, .string (⟨#[]⟩ : ByteArray), .int .i64 0]) ?_ 5 _ rfl; refine blk_put (cs := #[.int .i64 2, .int .i64 a0_1, .int .i64 a0_2, .int .i64 a0_3, .int .i64 0, .int .i64 0, .int .i64 0, .int .i64 0, .bool false, .string (⟨#[]⟩ : ByteArray), .bool false, .string (⟨#[]⟩ : ByteArray), .int .i64 0]) ?_ 4 _ rfl; refine blk_put (cs := #[.int .i64 2, .int .i64 a0_1, .int .i64 a0_2, .int .i64 0, .int .i64 0, .int .i64 0, .int .i64 0, .int .i64 0, .bool false, .string (⟨#[]⟩ : ByteArray), .bool false, .string (⟨#[]⟩ : ByteArray), .int .i64 0]) ?_ 3 _ rfl; refine blk_put (cs := #[.int .i64 2, .int .i64 a0_1, .int .i64 0, .int .i64 0, .int .i64 0, .int .i64 0, .int .i64 0, .int .i64 0, .bool false, .string (⟨#[]⟩ : ByteArray), .bool false, .string (⟨#[]⟩ : ByteArray), .int .i64 0]) ?_ 2 _ rfl; refine blk_put (cs := #[.int .i64 2, .int .i64 0, .int .i64 0, .int .i64 0, .int .i64 0, .int .i64 0, .int .i64 0, .int .i64 0, .bool false, .string (⟨#[]⟩ : ByteArray), .bool false, .string (⟨#[]⟩ : ByteArray), .int .i64 0]) ?_ 1 _ rfl; refine blk_put (cs := #[.int .i64 0, .int .i64 0, .int .i64 0, .int .i64 0, .int .i64 0, .int .i64 0, .int .i64 0, .int .i64 0, .bool false, .string (⟨#[]⟩ : ByteArray), .bool false, .string (⟨#[]⟩ : ByteArray), .int .i64 0]) ?_ 0 _ rfl; (with_reducible repeat (first | refine blk_drewN ?_ _ | refine blk_drew ?_ | refine blk_alloc ?_ _)); exact BK104.out) hb); have n3_ := Aside0.mk (below_step (by repeat (first | (with_reducible first | exact HB.out | apply below_alloc | apply pw_below_drewN | apply below_drew1 | refine below_set ?_ GE101.out | refine below_set ?_ GE102.out | refine below_set ?_ GE104.out) | exact HB.out)) hb); clear BK101; clear BK102; clear BK104; clear HB; have BK101 := n0_; have BK102 := n1_; have BK104 := n2_; have HB := n3_; clear n0_ n1_ n2_ n3_; (try clear hb); (try clear hb2); (try clear hk); (try clear hi); obtain ⟨hcz28_0, hcz28_1, hcz28_2, hcz28_3, hcz28_4, hcz28_5, hcz28_6, hcz28_7, hcz28_8, hcz28_9, hcz28_10, hcz28_11, hcz28_12⟩ := cl13 (W := w27) BK104.out; obtain ⟨hfz28_0, hfz28_1, hfz28_2, hfz28_3, hfz28_4, hfz28_5, hfz28_6, hfz28_7, hfz28_8, hfz28_9, hfz28_10, hfz28_11, hfz28_12⟩ := fr13 BK104.out; obtain ⟨hcz29_0, hcz29_1, hcz29_2, hcz29_3, hcz29_4, hcz29_5, hcz29_6, hcz29_7, hcz29_8, hcz29_9, hcz29_10, hcz29_11, hcz29_12⟩ := cl13 (W := w27) BK102.out; obtain ⟨hfz29_0, hfz29_1, hfz29_2, hfz29_3, hfz29_4, hfz29_5, hfz29_6, hfz29_7, hfz29_8, hfz29_9, hfz29_10, hfz29_11, hfz29_12⟩ := fr13 BK102.out))
     refine bodyPost_ret (results_ct rfl _ _ gb102 65 #[.int .i64 2, .int .i64 a0_1, .int .i64 a0_2, .int .i64 a0_3, .int .i64 a1, .int .i64 a2, .int .i64 a0_6, .int .i64 a0_7, .bool a0_10, .string a0_11, .bool a0_8, .string a0_9, .int .i64 a0_5] (0, 0) _ rfl (by (with_reducible repeat (first | refine blk_drewN ?_ _ | refine blk_drew ?_ | refine blk_alloc ?_ _)); refine blk_put (cs := #[.int .i64 2, .int .i64 a0_1, .int .i64 a0_2, .int .i64 a0_3, .int .i64 a1, .int .i64 a2, .int .i64 a0_6, .int .i64 a0_7, .bool a0_10, .string a0_11, .bool a0_8, .string a0_9, .int .i64 0]) ?_ 12 _ rfl; refine blk_put (cs := #[.int .i64 2, .int .i64 a0_1, .int .i64 a0_2, .int .i64 a0_3, .int .i64 a1, .int .i64 a2, .int .i64 a0_6, .int .i64 a0_7, .bool a0_10, .string a0_11, .bool a0_8, .string (⟨#[]⟩ : ByteArray), .int .i64 0]) ?_ 11 _ rfl; refine blk_put (cs := #[.int .i64 2, .int .i64 a0_1, .int .i64 a0_2, .int .i64 a0_3, .int .i64 a1, .int .i64 a2, .int .i64 a0_6, .int .i64 a0_7, .bool a0_10, .string a0_11, .bool false, .string (⟨#[]⟩ : ByteArray), .int .i64 0]) ?_ 10 _ rfl; refine blk_put (cs := #[.int .i64 2, .int .i64 a0_1, .int .i64 a0_2, .int .i64 a0_3, .int .i64 a1, .int .i64 a2, .int .i64 a0_6, .int .i64 a0_7, .bool a0_10, .string (⟨#[]⟩ : ByteArray), .bool false, .string (⟨#[]⟩ : ByteArray), .int .i64 0]) ?_ 9 _ rfl; refine blk_put (cs := #[.int .i64 2, .int .i64 a0_1, .int .i64 a0_2, .int .i64 a0_3, .int .i64 a1, .int .i64 a2, .int .i64 a0_6, .int .i64 a0_7, .bool false, .string (⟨#[]⟩ : ByteArray), .bool false, .string (⟨#[]⟩ : ByteArray), .int .i64 0]) ?_ 8 _ rfl; refine blk_put (cs := #[.int .i64 2, .int .i64 a0_1, .int .i64 a0_2, .int .i64 a0_3, .int .i64 a1, .int .i64 a2, .int .i64 a0_6, .int .i64 0, .bool false, .string (⟨#[]⟩ : ByteArray), .bool false, .string (⟨#[]⟩ : ByteArray), .int .i64 0]) ?_ 7 _ rfl; refine blk_put (cs := #[.int .i64 2, .int .i64 a0_1, .int .i64 a0_2, .int .i64 a0_3, .int .i64 a1, .int .i64 a2, .int .i64 0, .int .i64 0, .bool false, .string (⟨#[]⟩ : ByteArray), .bool false, .string (⟨#[]⟩ : ByteArray), .int .i64 0]) ?_ 6 _ rfl; refine blk_put (cs := #[.int .i64 2, .int .i64 a0_1, .int .i64 a0_2, .int .i64 a0_3, .int .i64 a1, .int .i64 0, .int .i64 0, .int .i64 0, .bool false, .string (⟨#[]⟩ : ByteArray), .bool false, .string (⟨#[]⟩ : ByteArray), .int .i64 0]) ?_ 5 _ rfl; refine blk_put (cs := #[.int .i64 2, .int .i64 a0_1, .int .i64 a0_2, .int .i64 a0_3, .int .i64 0, .int .i64 0, .int .i64 0, .int .i64 0, .bool false, .string (⟨#[]⟩ : ByteArray), .bool false, .string (⟨#[]⟩ : ByteArray), .int .i64 0]) ?_ 4 _ rfl; refine blk_put (cs := #[.int .i64 2, .int .i64 a0_1, .int .i64 a0_2, .int .i64 0, .int .i64 0, .int .i64 0, .int .i64 0, .int .i64 0, .bool false, .string (⟨#[]⟩ : ByteArray), .bool false, .string (⟨#[]⟩ : ByteArray), .int .i64 0]) ?_ 3 _ rfl; refine blk_put (cs := #[.int .i64 2, .int .i64 a0_1, .int .i64 0, .int .i64 0, .int .i64 0, .int .i64 0, .int .i64 0, .int .i64 0, .bool false, .string (⟨#[]⟩ : ByteArray), .bool false, .string (⟨#[]⟩ : ByteArray), .int .i64 0]) ?_ 2 _ rfl; refine blk_put (cs := #[.int .i64 2, .int .i64 0, .int .i64 0, .int .i64 0, .int .i64 0, .int .i64 0, .int .i64 0, .int .i64 0, .bool false, .string (⟨#[]⟩ : ByteArray), .bool false, .string (⟨#[]⟩ : ByteArray), .int .i64 0]) ?_ 1 _ rfl; refine blk_put (cs := #[.int .i64 0, .int .i64 0, .int .i64 0, .int .i64 0, .int .i64 0, .int .i64 0, .int .i64 0, .int .i64 0, .bool false, .string (⟨#[]⟩ : ByteArray), .bool false, .string (⟨#[]⟩ : ByteArray), .int .i64 0]) ?_ 0 _ rfl; (with_reducible repeat (first | refine blk_drewN ?_ _ | refine blk_drew ?_ | refine blk_alloc ?_ _)); exact BK102.out) Try.underlying65 rfl (by kernel_rfl)) rfl ?_
     exact ⟨by first | rfl | (simp [errW_none, errW_some] <;> rfl) | (simp [*, errW_none, errW_some] <;> rfl), by repeat (first | (with_reducible first | exact HB.out | apply below_alloc | apply pw_below_drewN | apply below_drew1 | refine below_set ?_ GE101.out | refine below_set ?_ GE102.out | refine below_set ?_ GE104.out) | exact HB.out)⟩
    ·replace c20 := Bool.eq_false_iff.mpr c20
     subst c20
     have H1 : (some (0, 0, 0, 0, 0, 0, 0, 0, false, (⟨#[]⟩ : ByteArray), false, (⟨#[]⟩ : ByteArray), 0, 1)) = some (r1, r2, r3, r4, r5, r6, r7, r8, r9, r10, r11, r12, r13, r14) := by rw [if_neg (show ¬ (false = true) by decide)] at H; exact H
     clear H
     have H := H1
     clear H1
     simp only [Option.some.injEq, Prod.mk.injEq] at H
     obtain ⟨rfl, rfl, rfl, rfl, rfl, rfl, rfl, rfl, rfl, rfl, rfl, rfl, rfl, rfl⟩ := H
     have hnb30 := NB101_102.out
     have hnc30 := NB102_101.out
     obtain ⟨hcz31_0, hcz31_1, hcz31_2, hcz31_3, hcz31_4, hcz31_5, hcz31_6, hcz31_7, hcz31_8, hcz31_9, hcz31_10, hcz31_11, hcz31_12⟩ := cl13 (W := wc) BK101.out
     obtain ⟨hfz31_0, hfz31_1, hfz31_2, hfz31_3, hfz31_4, hfz31_5, hfz31_6, hfz31_7, hfz31_8, hfz31_9, hfz31_10, hfz31_11, hfz31_12⟩ := fr13 BK101.out
     go_wp2_with (first | ((with_reducible refine gate_dst (N := 8) rfl ?_); refine box_event ?hg (N := 8) ?hd (cs := #[.int .i64 0, .int .i64 0, .int .i64 0, .int .i64 0, .int .i64 0, .int .i64 0, .int .i64 0, .int .i64 0, .bool false, .string (⟨#[]⟩ : ByteArray), .bool false, .string (⟨#[]⟩ : ByteArray), .int .i64 0]) (t := 65) ?hr ?_; (case hd => rfl); (case hg => rfl); (case hr => first | (go_simp; done) | (go_simp; rfl)); intro gb104 hg w32 hbox hb; have n0_ := Aside0.mk (blk_below (g := gb101) (o := .cells #[.int .i64 a0_0, .int .i64 a0_1, .int .i64 a0_2, .int .i64 a0_3, .int .i64 a0_4, .int .i64 a0_5, .int .i64 a0_6, .int .i64 a0_7, .bool a0_8, .string a0_9, .bool a0_10, .string a0_11, .int .i64 a0_12] 65 (0, 0)) (by (with_reducible repeat (first | refine blk_drewN ?_ _ | refine blk_drew ?_ | refine blk_alloc ?_ _)); exact BK101.out) hb); have n1_ := Aside0.mk (blk_below (g := gb102) (o := .cells #[.int .i64 0, .int .i64 0, .int .i64 0, .int .i64 0, .int .i64 0, .int .i64 0, .int .i64 0, .int .i64 0, .bool false, .string (⟨#[]⟩ : ByteArray), .bool false, .string (⟨#[]⟩ : ByteArray), .int .i64 0] 65 (0, 0)) (by (with_reducible repeat (first | refine blk_drewN ?_ _ | refine blk_drew ?_ | refine blk_alloc ?_ _)); exact BK102.out) hb); have n2_ := Aside0.mk (below_step (by repeat (first | (with_reducible first | exact HB.out | apply below_alloc | apply pw_below_drewN | apply below_drew1 | refine below_set ?_ GE101.out | refine below_set ?_ GE102.out) | exact HB.out)) hb); have n3_ := Aside0.mk (hbox); have n4_ := Aside0.mk ((by rw [hg]; exact (below_size (by repeat (first | (with_reducible first | exact HB.out | apply below_alloc | apply pw_below_drewN | apply below_drew1 | refine below_set ?_ GE101.out | refine below_set ?_ GE102.out) | exact HB.out))) : w.heap.size ≤ gb104)); have n5_ := Aside0.mk ((by rw [hg]; exact (below_size (by repeat (first | (with_reducible first | exact HB.out | apply below_alloc | apply pw_below_drewN | apply below_drew1 | refine below_set ?_ GE101.out | refine below_set ?_ GE102.out) | exact HB.out))) : w.heap.size ≤ gb104)); have n6_ := Aside0.mk ((by rw [hg]; exact Nat.ne_of_lt (blk_lt (g := gb101) (o := .cells #[.int .i64 a0_0, .int .i64 a0_1, .int .i64 a0_2, .int .i64 a0_3, .int .i64 a0_4, .int .i64 a0_5, .int .i64 a0_6, .int .i64 a0_7, .bool a0_8, .string a0_9, .bool a0_10, .string a0_11, .int .i64 a0_12] 65 (0, 0)) (by (with_reducible repeat (first | refine blk_drewN ?_ _ | refine blk_drew ?_ | refine blk_alloc ?_ _)); exact BK101.out)) : gb101 ≠ gb104)); have n7_ := Aside0.mk ((by rw [hg]; exact Nat.ne_of_gt (blk_lt (g := gb101) (o := .cells #[.int .i64 a0_0, .int .i64 a0_1, .int .i64 a0_2, .int .i64 a0_3, .int .i64 a0_4, .int .i64 a0_5, .int .i64 a0_6, .int .i64 a0_7, .bool a0_8, .string a0_9, .bool a0_10, .string a0_11, .int .i64 a0_12] 65 (0, 0)) (by (with_reducible repeat (first | refine blk_drewN ?_ _ | refine blk_drew ?_ | refine blk_alloc ?_ _)); exact BK101.out)) : gb104 ≠ gb101)); have n8_ := Aside0.mk ((by rw [hg]; exact Nat.ne_of_lt (blk_lt (g := gb102) (o := .cells #[.int .i64 0, .int .i64 0, .int .i64 0, .int .i64 0, .int .i64 0, .int .i64 0, .int .i64 0, .int .i64 0, .bool false, .string (⟨#[]⟩ : ByteArray), .bool false, .string (⟨#[]⟩ : ByteArray), .int .i64 0] 65 (0, 0)) (by (with_reducible repeat (first | refine blk_drewN ?_ _ | refine blk_drew ?_ | refine blk_alloc ?_ _)); exact BK102.out)) : gb102 ≠ gb104)); have n9_ := Aside0.mk ((by rw [hg]; exact Nat.ne_of_gt (blk_lt (g := gb102) (o := .cells #[.int .i64 0, .int .i64 0, .int .i64 0, .int .i64 0, .int .i64 0, .int .i64 0, .int .i64 0, .int .i64 0, .bool false, .string (⟨#[]⟩ : ByteArray), .bool false, .string (⟨#[]⟩ : ByteArray), .int .i64 0] 65 (0, 0)) (by (with_reducible repeat (first | refine blk_drewN ?_ _ | refine blk_drew ?_ | refine blk_alloc ?_ _)); exact BK102.out)) : gb104 ≠ gb102)); clear BK101; clear BK102; clear HB; have BK101 := n0_; have BK102 := n1_; have HB := n2_; have BK104 := n3_; have GW104 := n4_; have GE104 := n5_; have NB101_104 := n6_; have NB104_101 := n7_; have NB102_104 := n8_; have NB104_102 := n9_; clear n0_ n1_ n2_ n3_ n4_ n5_ n6_ n7_ n8_ n9_; clear hb hbox hg; have hnb33 := NB104_101.out; have hnc33 := NB101_104.out; have hnb34 := NB104_102.out; have hnc34 := NB102_104.out; obtain ⟨hcz35_0, hcz35_1, hcz35_2, hcz35_3, hcz35_4, hcz35_5, hcz35_6, hcz35_7, hcz35_8, hcz35_9, hcz35_10, hcz35_11, hcz35_12⟩ := cl13 (W := w32) BK104.out; obtain ⟨hfz35_0, hfz35_1, hfz35_2, hfz35_3, hfz35_4, hfz35_5, hfz35_6, hfz35_7, hfz35_8, hfz35_9, hfz35_10, hfz35_11, hfz35_12⟩ := fr13 BK104.out) | ((with_reducible refine gate_callee (f := 56) rfl ?_); refine goesL_ (some 34) rfl rfl Try.func56 (by kernel_rfl) rfl #[.agg #[.int .i64 2, .int .i64 a0_1, .int .i64 a0_2, .int .i64 a0_3, .int .i64 a1, .int .i64 a2, .int .i64 a0_6, .int .i64 a0_7, .bool a0_10, .string a0_11, .bool a0_8, .string a0_9, .int .i64 a0_5]] rfl (by (try simp only [List.map_toArray, List.map_cons, List.map_nil]); first | done | rfl | (simp only [List.length_drop, List.length_take]; rfl)) ?_; (with_reducible refine (refGood4.calls 2 a0_1 a0_2 a0_3 a1 a2 a0_6 a0_7 a0_10 a0_11 a0_8 a0_9 a0_5 false _ A19.out).mono ?_); rintro e w36 ⟨rfl, hb⟩; refine ⟨_, rfl, ?_⟩; have n0_ := Aside0.mk (blk_below (g := gb101) (o := .cells #[.int .i64 a0_0, .int .i64 a0_1, .int .i64 a0_2, .int .i64 a0_3, .int .i64 a0_4, .int .i64 a0_5, .int .i64 a0_6, .int .i64 a0_7, .bool a0_8, .string a0_9, .bool a0_10, .string a0_11, .int .i64 a0_12] 65 (0, 0)) (by (with_reducible repeat (first | refine blk_drewN ?_ _ | refine blk_drew ?_ | refine blk_alloc ?_ _)); refine blk_far ?_ NB101_104.out _; refine blk_far ?_ NB101_104.out _; refine blk_far ?_ NB101_104.out _; refine blk_far ?_ NB101_104.out _; refine blk_far ?_ NB101_104.out _; refine blk_far ?_ NB101_104.out _; refine blk_far ?_ NB101_104.out _; refine blk_far ?_ NB101_104.out _; refine blk_far ?_ NB101_104.out _; refine blk_far ?_ NB101_104.out _; refine blk_far ?_ NB101_104.out _; refine blk_far ?_ NB101_104.out _; refine blk_far ?_ NB101_104.out _; (with_reducible repeat (first | refine blk_drewN ?_ _ | refine blk_drew ?_ | refine blk_alloc ?_ _)); exact BK101.out) hb); have n1_ := Aside0.mk (blk_below (g := gb102) (o := .cells #[.int .i64 0, .int .i64 0, .int .i64 0, .int .i64 0, .int .i64 0, .int .i64 0, .int .i64 0, .int .i64 0, .bool false, .string (⟨#[]⟩ : ByteArray), .bool false, .string (⟨#[]⟩ : ByteArray), .int .i64 0] 65 (0, 0)) (by (with_reducible repeat (first | refine blk_drewN ?_ _ | refine blk_drew ?_ | refine blk_alloc ?_ _)); refine blk_far ?_ NB102_104.out _; refine blk_far ?_ NB102_104.out _; refine blk_far ?_ NB102_104.out _; refine blk_far ?_ NB102_104.out _; refine blk_far ?_ NB102_104.out _; refine blk_far ?_ NB102_104.out _; refine blk_far ?_ NB102_104.out _; refine blk_far ?_ NB102_104.out _; refine blk_far ?_ NB102_104.out _; refine blk_far ?_ NB102_104.out _; refine blk_far ?_ NB102_104.out _; refine blk_far ?_ NB102_104.out _; refine blk_far ?_ NB102_104.out _; (with_reducible repeat (first | refine blk_drewN ?_ _ | refine blk_drew ?_ | refine blk_alloc ?_ _)); exact BK102.out) hb); have n2_ := Aside0.mk (blk_below (g := gb104) (o := .cells #[.int .i64 2, .int .i64 a0_1, .int .i64 a0_2, .int .i64 a0_3, .int .i64 a1, .int .i64 a2, .int .i64 a0_6, .int .i64 a0_7, .bool a0_10, .string a0_11, .bool a0_8, .string a0_9, .int .i64 a0_5] 65 (0, 0)) (by (with_reducible repeat (first | refine blk_drewN ?_ _ | refine blk_drew ?_ | refine blk_alloc ?_ _)); refine blk_put (cs := #[.int .i64 2, .int .i64 a0_1, .int .i64 a0_2, .int .i64 a0_3, .int .i64 a1, .int .i64 a2, .int .i64 a0_6, .int .i64 a0_7, .bool a0_10, .string a0_11, .bool a0_8, .string a0_9, .int .i64 0]) ?_ 12 _ rfl; refine blk_put (cs := #[.int .i64 2, .int .i64 a0_1, .int .i64 a0_2, .int .i64 a0_3, .int .i64 a1, .int .i64 a2, .int .i64 a0_6, .int .i64 a0_7, .bool a0_10, .string a0_11, .bool a0_8, .string (⟨#[]⟩ : ByteArray), .int .i64 0]) ?_ 11 _ rfl; refine blk_put (cs := #[.int .i64 2, .int .i64 a0_1, .int .i64 a0_2, .int .i64 a0_3, .int .i64 a1, .int .i64 a2, .int .i64 a0_6, .int .i64 a0_7, .bool a0_10, .string a0_11, .bool false, .string (⟨#[]⟩ : ByteArray), .int .i64 0]) ?_ 10 _ rfl; refine blk_put (cs := #[.int .i64 2, .int .i64 a0_1, .int .i64 a0_2, .int .i64 a0_3, .int .i64 a1, .int .i64 a2, .int .i64 a0_6, .int .i64 a0_7, .bool a0_10, .string (⟨#[]⟩ : ByteArray), .bool false, .string (⟨#[]⟩ : ByteArray), .int .i64 0]) ?_ 9 _ rfl; refine blk_put (cs := #[.int .i64 2, .int .i64 a0_1, .int .i64 a0_2, .int .i64 a0_3, .int .i64 a1, .int .i64 a2, .int .i64 a0_6, .int .i64 a0_7, .bool false, .string (⟨#[]⟩ : ByteArray), .bool false, .string (⟨#[]⟩ : ByteArray), .int .i64 0]) ?_ 8 _ rfl; refine blk_put (cs := #[.int .i64 2, .int .i64 a0_1, .int .i64 a0_2, .int .i64 a0_3, .int .i64 a1, .int .i64 a2, .int .i64 a0_6, .int .i64 0, .bool false, .string (⟨#[]⟩ : ByteArray), .bool false, .string (⟨#[]⟩ : ByteArray), .int .i64 0]) ?_ 7 _ rfl; refine blk_put (cs := #[.int .i64 2, .int .i64 a0_1, .int .i64 a0_2, .int .i64 a0_3, .int .i64 a1, .int .i64 a2, .int .i64 0, .int .i64 0, .bool false, .string (⟨#[]⟩ : ByteArray), .bool false, .string (⟨#[]⟩ : ByteArray), .int .i64 0]) ?_ 6 _ rfl; refine blk_put (cs := #[.int .i64 2, .int .i64 a0_1, .int .i64 a0_2, .int .i64 a0_3, .int .i64 a1, .int .i64 0, .int .i64 0, .int .i64 0, .bool false, .string (⟨#[]⟩ : ByteArray), .bool false, .string (⟨#[]⟩ : ByteArray), .int .i64 0]) ?_ 5 _ rfl; refine blk_put (cs := #[.int .i64 2, .int .i64 a0_1, .int .i64 a0_2, .int .i64 a0_3, .int .i64 0, .int .i64 0, .int .i64 0, .int .i64 0, .bool false, .string (⟨#[]⟩ : ByteArray), .bool false, .string (⟨#[]⟩ : ByteArray), .int .i64 0]) ?_ 4 _ rfl; refine blk_put (cs := #[.int .i64 2, .int .i64 a0_1, .int .i64 a0_2, .int .i64 0, .int .i64 0, .int .i64 0, .int .i64 0, .int .i64 0, .bool false, .string (⟨#[]⟩ : ByteArray), .bool false, .string (⟨#[]⟩ : ByteArray), .int .i64 0]) ?_ 3 _ rfl; refine blk_put (cs := #[.int .i64 2, .int .i64 a0_1, .int .i64 0, .int .i64 0, .int .i64 0, .int .i64 0, .int .i64 0, .int .i64 0, .bool false, .string (⟨#[]⟩ : ByteArray), .bool false, .string (⟨#[]⟩ : ByteArray), .int .i64 0]) ?_ 2 _ rfl; refine blk_put (cs := #[.int .i64 2, .int .i64 0, .int .i64 0, .int .i64 0, .int .i64 0, .int .i64 0, .int .i64 0, .int .i64 0, .bool false, .string (⟨#[]⟩ : ByteArray), .bool false, .string (⟨#[]⟩ : ByteArray), .int .i64 0]) ?_ 1 _ rfl; refine blk_put (cs := #[.int .i64 0, .int .i64 0, .int .i64 0, .int .i64 0, .int .i64 0, .int .i64 0, .int .i64 0, .int .i64 0, .bool false, .string (⟨#[]⟩ : ByteArray), .bool false, .string (⟨#[]⟩ : ByteArray), .int .i64 0]) ?_ 0 _ rfl; (with_reducible repeat (first | refine blk_drewN ?_ _ | refine blk_drew ?_ | refine blk_alloc ?_ _)); exact BK104.out) hb); have n3_ := Aside0.mk (below_step (by repeat (first | (with_reducible first | exact HB.out | apply below_alloc | apply pw_below_drewN | apply below_drew1 | refine below_set ?_ GE101.out | refine below_set ?_ GE102.out | refine below_set ?_ GE104.out) | exact HB.out)) hb); clear BK101; clear BK102; clear BK104; clear HB; have BK101 := n0_; have BK102 := n1_; have BK104 := n2_; have HB := n3_; clear n0_ n1_ n2_ n3_; (try clear hb); (try clear hb2); (try clear hk); (try clear hi); obtain ⟨hcz37_0, hcz37_1, hcz37_2, hcz37_3, hcz37_4, hcz37_5, hcz37_6, hcz37_7, hcz37_8, hcz37_9, hcz37_10, hcz37_11, hcz37_12⟩ := cl13 (W := w36) BK102.out; obtain ⟨hfz37_0, hfz37_1, hfz37_2, hfz37_3, hfz37_4, hfz37_5, hfz37_6, hfz37_7, hfz37_8, hfz37_9, hfz37_10, hfz37_11, hfz37_12⟩ := fr13 BK102.out))
     refine bodyPost_ret (results_ct rfl _ _ gb102 65 #[.int .i64 0, .int .i64 0, .int .i64 0, .int .i64 0, .int .i64 0, .int .i64 0, .int .i64 0, .int .i64 0, .bool false, .string (⟨#[]⟩ : ByteArray), .bool false, .string (⟨#[]⟩ : ByteArray), .int .i64 0] (0, 0) _ rfl (by (with_reducible repeat (first | refine blk_drewN ?_ _ | refine blk_drew ?_ | refine blk_alloc ?_ _)); refine blk_put (cs := #[.int .i64 0, .int .i64 0, .int .i64 0, .int .i64 0, .int .i64 0, .int .i64 0, .int .i64 0, .int .i64 0, .bool false, .string (⟨#[]⟩ : ByteArray), .bool false, .string (⟨#[]⟩ : ByteArray), .int .i64 0]) ?_ 12 _ rfl; refine blk_put (cs := #[.int .i64 0, .int .i64 0, .int .i64 0, .int .i64 0, .int .i64 0, .int .i64 0, .int .i64 0, .int .i64 0, .bool false, .string (⟨#[]⟩ : ByteArray), .bool false, .string (⟨#[]⟩ : ByteArray), .int .i64 0]) ?_ 11 _ rfl; refine blk_put (cs := #[.int .i64 0, .int .i64 0, .int .i64 0, .int .i64 0, .int .i64 0, .int .i64 0, .int .i64 0, .int .i64 0, .bool false, .string (⟨#[]⟩ : ByteArray), .bool false, .string (⟨#[]⟩ : ByteArray), .int .i64 0]) ?_ 10 _ rfl; refine blk_put (cs := #[.int .i64 0, .int .i64 0, .int .i64 0, .int .i64 0, .int .i64 0, .int .i64 0, .int .i64 0, .int .i64 0, .bool false, .string (⟨#[]⟩ : ByteArray), .bool false, .string (⟨#[]⟩ : ByteArray), .int .i64 0]) ?_ 9 _ rfl; refine blk_put (cs := #[.int .i64 0, .int .i64 0, .int .i64 0, .int .i64 0, .int .i64 0, .int .i64 0, .int .i64 0, .int .i64 0, .bool false, .string (⟨#[]⟩ : ByteArray), .bool false, .string (⟨#[]⟩ : ByteArray), .int .i64 0]) ?_ 8 _ rfl; refine blk_put (cs := #[.int .i64 0, .int .i64 0, .int .i64 0, .int .i64 0, .int .i64 0, .int .i64 0, .int .i64 0, .int .i64 0, .bool false, .string (⟨#[]⟩ : ByteArray), .bool false, .string (⟨#[]⟩ : ByteArray), .int .i64 0]) ?_ 7 _ rfl; refine blk_put (cs := #[.int .i64 0, .int .i64 0, .int .i64 0, .int .i64 0, .int .i64 0, .int .i64 0, .int .i64 0, .int .i64 0, .bool false, .string (⟨#[]⟩ : ByteArray), .bool false, .string (⟨#[]⟩ : ByteArray), .int .i64 0]) ?_ 6 _ rfl; refine blk_put (cs := #[.int .i64 0, .int .i64 0, .int .i64 0, .int .i64 0, .int .i64 0, .int .i64 0, .int .i64 0, .int .i64 0, .bool false, .string (⟨#[]⟩ : ByteArray), .bool false, .string (⟨#[]⟩ : ByteArray), .int .i64 0]) ?_ 5 _ rfl; refine blk_put (cs := #[.int .i64 0, .int .i64 0, .int .i64 0, .int .i64 0, .int .i64 0, .int .i64 0, .int .i64 0, .int .i64 0, .bool false, .string (⟨#[]⟩ : ByteArray), .bool false, .string (⟨#[]⟩ : ByteArray), .int .i64 0]) ?_ 4 _ rfl; refine blk_put (cs := #[.int .i64 0, .int .i64 0, .int .i64 0, .int .i64 0, .int .i64 0, .int .i64 0, .int .i64 0, .int .i64 0, .bool false, .string (⟨#[]⟩ : ByteArray), .bool false, .string (⟨#[]⟩ : ByteArray), .int .i64 0]) ?_ 3 _ rfl; refine blk_put (cs := #[.int .i64 0, .int .i64 0, .int .i64 0, .int .i64 0, .int .i64 0, .int .i64 0, .int .i64 0, .int .i64 0, .bool false, .string (⟨#[]⟩ : ByteArray), .bool false, .string (⟨#[]⟩ : ByteArray), .int .i64 0]) ?_ 2 _ rfl; refine blk_put (cs := #[.int .i64 0, .int .i64 0, .int .i64 0, .int .i64 0, .int .i64 0, .int .i64 0, .int .i64 0, .int .i64 0, .bool false, .string (⟨#[]⟩ : ByteArray), .bool false, .string (⟨#[]⟩ : ByteArray), .int .i64 0]) ?_ 1 _ rfl; refine blk_put (cs := #[.int .i64 0, .int .i64 0, .int .i64 0, .int .i64 0, .int .i64 0, .int .i64 0, .int .i64 0, .int .i64 0, .bool false, .string (⟨#[]⟩ : ByteArray), .bool false, .string (⟨#[]⟩ : ByteArray), .int .i64 0]) ?_ 0 _ rfl; (with_reducible repeat (first | refine blk_drewN ?_ _ | refine blk_drew ?_ | refine blk_alloc ?_ _)); exact BK102.out) Try.underlying65 rfl (by kernel_rfl)) rfl ?_
     exact ⟨by first | rfl | (simp [errW_none, errW_some] <;> rfl) | (simp [*, errW_none, errW_some] <;> rfl), by repeat (first | (with_reducible first | exact HB.out | apply below_alloc | apply pw_below_drewN | apply below_drew1 | refine below_set ?_ GE101.out | refine below_set ?_ GE102.out | refine below_set ?_ GE104.out) | exact HB.out)⟩
end Go.Proofs.Ytfjmnaobfbmllaa.M
namespace Go.Proofs.Ytfjmnaobfbmllaa.M
open Go.RowKit Go.Proofs.YtfjmnaobfbmllaaW.PrintWords Go.Proofs.YtfjmnaobfbmllaaW.PrintLast Go.Proofs.YtfjmnaobfbmllaaW.PrintMore
set_option linter.unusedVariables false
set_option linter.unusedSimpArgs false
theorem rturn_pure (x : S65) (l2 p2 : Int) : seneschalref05_Turn.f 1 x.f0 x.f1.f0 x.f1.f1 x.f1.f2 x.f2 x.f3 x.f4 x.f5 x.f6.f0 x.f6.f1 x.f7.f0 x.f7.f1 x.f8 l2 p2 = some (turnTup (turnP x l2 p2)) := by
  unfold seneschalref05_Turn.f refGood4.f
  rw [Option.bind_some, mk_eq]
  have eu : mkE 2 x.f1.f0 x.f1.f1 x.f1.f2 l2 p2 x.f4 x.f5 x.f7.f0 x.f7.f1 x.f6.f0 x.f6.f1 x.f3 = undoE x l2 p2 := rfl
  unfold turnP
  by_cases h1 : GoodE x
  · rw [decide_eq_true h1, if_pos rfl]
    simp only [seneschalref05_Turn.j0]
    unfold refGood4.f
    rw [Option.bind_some, eu]
    by_cases h2 : x.f0 = 1
    · rw [show (x.f0 != 1) = false by simpa using h2, if_neg Bool.false_ne_true]
      by_cases h3 : GoodE (undoE x l2 p2)
      · rw [decide_eq_true h3, if_pos rfl, if_pos ⟨h1, h2, h3⟩]; rfl
      · rw [decide_eq_false h3, if_neg Bool.false_ne_true, if_neg (fun h => h3 h.2.2)]; rfl
    · rw [show (x.f0 != 1) = true by simpa using h2, if_pos rfl, if_neg (fun h => h2 h.2.1)]; rfl
  · rw [decide_eq_false h1, if_neg Bool.false_ne_true, if_neg (fun h => h1 h.1)]
    simp only [seneschalref05_Turn.j0]
    rw [if_pos trivial]; rfl
def refTurn5.f (k c e n lsn prev p s : Int) (u : Bool) (d : ByteArray) (u2 : Bool) (d2 : ByteArray) (next : Int) (l2 p2 : Int) : Option (Int × Int × Int × Int × Int × Int × Int × Int × Bool × ByteArray × Bool × ByteArray × Int × Int) := some (turnTup (turnP (mkE k c e n lsn prev p s u d u2 d2 next) l2 p2))
theorem refTurn5.calls (k c e n lsn prev p s : Int) (u : Bool) (d : ByteArray) (u2 : Bool) (d2 : ByteArray) (next : Int) (l2 p2 : Int) (r1 : Int) (r2 : Int) (r3 : Int) (r4 : Int) (r5 : Int) (r6 : Int) (r7 : Int) (r8 : Int) (r9 : Bool) (r10 : ByteArray) (r11 : Bool) (r12 : ByteArray) (r13 : Int) (r14 : Int) (w : World) (h : refTurn5.f k c e n lsn prev p s u d u2 d2 next l2 p2 = some (r1, r2, r3, r4, r5, r6, r7, r8, r9, r10, r11, r12, r13, r14)) :
    Calls Try.prog 70 #[.agg #[.int .i64 k, .int .i64 c, .int .i64 e, .int .i64 n, .int .i64 lsn, .int .i64 prev, .int .i64 p, .int .i64 s, .bool u, .string d, .bool u2, .string d2, .int .i64 next], .int .i64 l2, .int .i64 p2] w fun e w' => e = .returned (.tuple #[.agg #[.int .i64 r1, .int .i64 r2, .int .i64 r3, .int .i64 r4, .int .i64 r5, .int .i64 r6, .int .i64 r7, .int .i64 r8, .bool r9, .string r10, .bool r11, .string r12, .int .i64 r13], .int .i64 r14]) ∧ Below w.heap.size w w' :=
  seneschalref05_Turn.calls 1 k c e n lsn prev p s u d u2 d2 next l2 p2 r1 r2 r3 r4 r5 r6 r7 r8 r9 r10 r11 r12 r13 r14 w (by rw [← h]; exact rturn_pure (mkE k c e n lsn prev p s u d u2 d2 next) l2 p2)
end Go.Proofs.Ytfjmnaobfbmllaa.M
namespace Go.Proofs.Ytfjmnaobfbmllaa.M
open Go.RowKit Go.Proofs.YtfjmnaobfbmllaaW.PrintWords Go.Proofs.YtfjmnaobfbmllaaW.PrintLast Go.Proofs.YtfjmnaobfbmllaaW.PrintMore
attribute [local go_sem] max2_int min2_int max_two min_two max_three min_three max_four min_four   -- for this text's walks alone
set_option linter.unusedVariables false
set_option linter.unusedSimpArgs false
mutual
def seneschallaw05_great.j0 : Nat → List (S65) → Bool → Int → List (S33) → Option (Bool)
 | 0, _, _, _, _ => none
 | k + 1, x1, x15, x102000, x102001 => if x15 = true then (some true) else (seneschallaw05_great.l0 k x1 0 x102000 x102001)
def seneschallaw05_great.l0 : Nat → List (S65) → Int → Int → List (S33) → Option (Bool)
 | 0, _, _, _, _ => none
 | k + 1, x1, x5, x102000, x102001 => if x5 < (x102001.length : Int) then (if 0 ≤ x5 then (if (((rd_T33 x102001 x5).f1).size : Int) > 4096 then (some true) else (seneschallaw05_great.l0 k x1 (wrap64 (x5 + 1)) x102000 x102001)) else (none)) else (seneschallaw05_great.l1 k x1 0)
def seneschallaw05_great.l1 : Nat → List (S65) → Int → Option (Bool)
 | 0, _, _ => none
 | k + 1, x1, x6 => if x6 < (x1.length : Int) then (if 0 ≤ x6 then (if (((rd_T65 x1 x6).f6.f1).size : Int) > 4096 then (some true) else (if (((rd_T65 x1 x6).f7.f1).size : Int) > 4096 then (some true) else (seneschallaw05_great.l1 k x1 (wrap64 (x6 + 1))))) else (none)) else (some false)
end
def seneschallaw05_great.f (k : Nat) (a0_0 : Int) (l0_1 : List (S33)) (l1 : List (S65)) : Option (Bool) := if (l0_1.length : Int) > 100 then (seneschallaw05_great.j0 k l1 true a0_0 l0_1) else (seneschallaw05_great.j0 k l1 (decide ((l1.length : Int) > 60)) a0_0 l0_1)
set_option maxHeartbeats 8000000 in
set_option maxRecDepth 100000 in
theorem seneschallaw05_great.calls (k : Nat) (a0_0 : Int) (A0_1 : Option Addr) (c0_1 : Nat) (l0_1 : List (S33)) (A1 : Option Addr) (c1 : Nat) (l1 : List (S65)) (r : Bool) (w : World) (hr0_1 : Kd.C k33 w A0_1 l0_1.length l0_1) (hc0_1 : l0_1.length ≤ c0_1) (hr1 : Kd.C k65 w A1 l1.length l1) (hc1 : l1.length ≤ c1) (h : seneschallaw05_great.f k a0_0 l0_1 l1 = some r) :
  Calls Try.prog 66 #[.agg #[.int .i64 a0_0, .slice A0_1 l0_1.length c0_1], .slice A1 l1.length c1] w fun e w' => e = .returned (.bool r) ∧ Below w.heap.size w w' := by
 have hu24 := Try.underlying24
 have HR0_1 := Aside0.mk hr0_1
 have HC0_1 := Aside0.mk hc0_1
 clear hr0_1 hc0_1
 have HR1 := Aside0.mk hr1
 have HC1 := Aside0.mk hc1
 clear hr1 hc1
 have HB := Aside0.mk (Below.refl w.heap.size w)
 have H : (if (l0_1.length : Int) > 100 then (seneschallaw05_great.j0 k l1 true a0_0 l0_1) else (seneschallaw05_great.j0 k l1 (decide ((l1.length : Int) > 60)) a0_0 l0_1)) = some r := h
 clear h
 have HC3 := Aside0.mk H
 clear H
 go_enter Try.func66, Try.ntmps66
 go_upto_region 1 with (first | ((with_reducible refine gate_dst (N := 2) rfl ?_); (try (refine gate_guard (by rfl) ?_; dsimp only)); refine box_event ?hg (N := 2) ?hd (cs := #[.int .i64 a0_0, .slice A0_1 l0_1.length c0_1]) (t := 24) ?hr ?_; (case hd => rfl); (case hg => rfl); (case hr => first | (go_simp; done) | (go_simp; rfl)); intro gb101 hg w4 hbox hb; have n0_ := Aside0.mk (below_step HB.out hb); have n1_ := Aside0.mk (hbox); have n2_ := Aside0.mk ((by rw [hg]; exact below_size HB.out : w.heap.size ≤ gb101)); have n3_ := Aside0.mk ((by rw [hg]; exact below_size HB.out : w.heap.size ≤ gb101)); clear HB; have HB := n0_; have BK101 := n1_; have GW101 := n2_; have GE101 := n3_; clear n0_ n1_ n2_ n3_; clear hb hbox hg))
 (try simp only [Act.put, List.setIfInBounds_toArray, List.set_cons_zero, List.set_cons_succ])
 go_cut [15] (fun v15 wc => ∃ (kq : Nat) (x15_2 : Bool), v15 = .bool x15_2 ∧ Aside0 (seneschallaw05_great.j0 kq l1 x15_2 a0_0 l0_1 = some r) ∧ Aside0 (kq ≤ k) ∧ Aside0 (wc.heap[gb101]? = some (.cells #[.int .i64 a0_0, (.slice A0_1 l0_1.length c0_1)] 24 (0, 0))) ∧ Aside0 (Below w.heap.size w wc))
 case first =>
  have H := HC3.out
  clear HC3
  by_cases c5 : (l0_1.length : Int) > 100
  ·rw [if_pos c5] at H
   have c5b0 : decide (100 < (l0_1.length : Int)) = true := decide_eq_true c5
   have c5b1 : decide (100 < l0_1.length) = true := decide_eq_true (by omega)
   clear c5
   (first | rw [c5b0] | (simp only [i64_w, i32_w]; rw [c5b0]) | skip)
   have H' := Aside0.mk H
   clear H
   obtain ⟨hcz6_0, hcz6_1⟩ := cl2 (W := w4) BK101.out
   obtain ⟨hfz6_0, hfz6_1⟩ := fr2 BK101.out
   go_wp2
   go_meet
   case rel => exact ⟨_, (true), (by first | rfl | (simp; done) | (simp [*]; done)), H', ⟨by first | omega | exact Nat.le_refl _⟩, ⟨by (with_reducible repeat (first | refine blk_drewN ?_ _ | refine blk_drew ?_ | refine blk_alloc ?_ _)); exact BK101.out⟩, ⟨by repeat (first | (with_reducible first | exact HB.out | apply below_alloc | apply pw_below_drewN | apply below_drew1 | refine below_set ?_ GE101.out) | exact HB.out)⟩⟩
  ·rw [if_neg c5] at H
   have c5b0 : decide (100 < (l0_1.length : Int)) = false := decide_eq_false c5
   have c5b1 : decide (100 < l0_1.length) = false := decide_eq_false (by omega)
   clear c5
   (first | rw [c5b0] | (simp only [i64_w, i32_w]; rw [c5b0]) | skip)
   have H' := Aside0.mk H
   clear H
   obtain ⟨hcz7_0, hcz7_1⟩ := cl2 (W := w4) BK101.out
   obtain ⟨hfz7_0, hfz7_1⟩ := fr2 BK101.out
   go_wp2
   go_meet
   case rel => exact ⟨_, (decide ((l1.length : Int) > 60)), (by first | rfl | (simp; done) | (simp [*]; done)), H', ⟨by first | omega | exact Nat.le_refl _⟩, ⟨by (with_reducible repeat (first | refine blk_drewN ?_ _ | refine blk_drew ?_ | refine blk_alloc ?_ _)); exact BK101.out⟩, ⟨by repeat (first | (with_reducible first | exact HB.out | apply below_alloc | apply pw_below_drewN | apply below_drew1 | refine below_set ?_ GE101.out) | exact HB.out)⟩⟩
 case rest =>
  clear HC3
  try clear c1
  try clear p2
  try clear c5
  try clear c5b0
  try clear c5b1
  try clear c6
  try clear hcz6_0
  try clear hcz6_1
  try clear hcz7_0
  try clear hcz7_1
  try clear hfz6_0
  try clear hfz6_1
  try clear hfz7_0
  try clear hfz7_1
  obtain ⟨kq, x15_2, rfl, HA, HJ2, BK101, HB⟩ := hcut
  cases kq with
  | zero => exact absurd HA.out (by simp [seneschallaw05_great.j0])
  | succ kj2 =>
   have H := HA.out
   clear HA
   simp only [seneschallaw05_great.j0] at H
   by_cases c8 : x15_2 = true
   ·subst c8
    have H1 : (some true) = some r := by rw [if_pos rfl] at H; exact H
    clear H
    have H := H1
    clear H1
    obtain rfl := Option.some.inj H
    go_wp2
    go_ret
    exact ⟨by first | rfl | (simp [errW_none, errW_some] <;> rfl) | (simp [*, errW_none, errW_some] <;> rfl), by repeat (first | (with_reducible first | exact HB.out | apply below_alloc | apply pw_below_drewN | apply below_drew1 | refine below_set ?_ GE101.out) | exact HB.out)⟩
   ·replace c8 := Bool.eq_false_iff.mpr c8
    subst c8
    have H1 : (seneschallaw05_great.l0 kj2 l1 0 a0_0 l0_1) = some r := by rw [if_neg (show ¬ (false = true) by decide)] at H; exact H
    clear H
    have H := H1
    clear H1
    have H' := Aside0.mk H
    clear H
    go_wp2
    go_loopg [5] kj2 (fun kq v5 w' => ∃ (x5_2 : Int), v5 = .int .i64 x5_2 ∧ Aside0 (seneschallaw05_great.l0 kq l1 x5_2 a0_0 l0_1 = some r) ∧ Aside0 (kq ≤ kj2) ∧ Aside0 (w'.heap[gb101]? = some (.cells #[.int .i64 a0_0, (.slice A0_1 l0_1.length c0_1)] 24 (0, 0))) ∧ Aside0 (Below w.heap.size w w'))
    case atStart => exact ⟨(0), (by first | rfl | (simp; done) | (simp [*]; done)), H', ⟨Nat.le_refl _⟩, ⟨by (with_reducible repeat (first | refine blk_drewN ?_ _ | refine blk_drew ?_ | refine blk_alloc ?_ _)); exact BK101.out⟩, ⟨by repeat (first | (with_reducible first | exact HB.out | apply below_alloc | apply pw_below_drewN | apply below_drew1 | refine below_set ?_ GE101.out) | exact HB.out)⟩⟩
    case round =>
     clear H'
     try clear c1
     try clear p2
     try clear c5
     try clear c5b0
     try clear c5b1
     try clear c6
     try clear c8
     try clear hcz6_0
     try clear hcz6_1
     try clear hcz7_0
     try clear hcz7_1
     try clear hfz6_0
     try clear hfz6_1
     try clear hfz7_0
     try clear hfz7_1
     try clear p2
     obtain ⟨x5_2, rfl, HA, HK2, BK101, HB⟩ := hrel
     cases gk with
     | zero => exact absurd HA.out (by simp [seneschallaw05_great.l0])
     | succ k2 =>
      have H := HA.out
      clear HA
      simp only [seneschallaw05_great.l0] at H
      by_cases c9 : x5_2 < (l0_1.length : Int)
      ·rw [if_pos c9] at H
       have c9b0 : decide (x5_2 < (l0_1.length : Int)) = true := decide_eq_true c9
       clear c9
       by_cases c10 : 0 ≤ x5_2
       ·rw [if_pos c10] at H
        have c10b0 : decide (0 ≤ x5_2) = true := decide_eq_true c10
        clear c10
        by_cases c11 : (((rd_T33 l0_1 x5_2).f1).size : Int) > 4096
        ·rw [if_pos c11] at H
         have c11b0 : decide (4096 < (((rd_T33 l0_1 x5_2).f1).size : Int)) = true := decide_eq_true c11
         have c11b1 : decide (4096 < ((rd_T33 l0_1 x5_2).f1).size) = true := decide_eq_true (by omega)
         clear c11
         obtain rfl := Option.some.inj H
         obtain ⟨hcz12_0, hcz12_1⟩ := cl2 (W := wr) BK101.out
         obtain ⟨hfz12_0, hfz12_1⟩ := fr2 BK101.out
         have p102 : 0 ≤ (x5_2 : Int) := of_decide_eq_true (by first | (with_reducible assumption) | assumption)
         have q102 : x5_2 < (l0_1.length : Int) := of_decide_eq_true (by first | (with_reducible assumption) | assumption)
         obtain ⟨ad102, e102, hx102_0, hx102_1⟩ := at_T33 HR0_1.out x5_2 p102 q102
         cases e102
         replace hx102_0 := pw_cell_below HB.out hx102_0
         replace hx102_1 := pw_cell_below HB.out hx102_1
         replace p102 := eq_true p102
         replace q102 := eq_true q102
         go_wp2
         go_ret
         exact ⟨by first | rfl | (simp [errW_none, errW_some] <;> rfl) | (simp [*, errW_none, errW_some] <;> rfl), by repeat (first | (with_reducible first | exact HB.out | apply below_alloc | apply pw_below_drewN | apply below_drew1 | refine below_set ?_ GE101.out) | exact HB.out)⟩
        ·rw [if_neg c11] at H
         have c11b0 : decide (4096 < (((rd_T33 l0_1 x5_2).f1).size : Int)) = false := decide_eq_false c11
         have c11b1 : decide (4096 < ((rd_T33 l0_1 x5_2).f1).size) = false := decide_eq_false (by omega)
         clear c11
         have H' := Aside0.mk H
         clear H
         obtain ⟨hcz13_0, hcz13_1⟩ := cl2 (W := wr) BK101.out
         obtain ⟨hfz13_0, hfz13_1⟩ := fr2 BK101.out
         have p102 : 0 ≤ (x5_2 : Int) := of_decide_eq_true (by first | (with_reducible assumption) | assumption)
         have q102 : x5_2 < (l0_1.length : Int) := of_decide_eq_true (by first | (with_reducible assumption) | assumption)
         obtain ⟨ad102, e102, hx102_0, hx102_1⟩ := at_T33 HR0_1.out x5_2 p102 q102
         cases e102
         replace hx102_0 := pw_cell_below HB.out hx102_0
         replace hx102_1 := pw_cell_below HB.out hx102_1
         replace p102 := eq_true p102
         replace q102 := eq_true q102
         go_wp2
         go_roundg k2
         case measure => have := HJ2.out; have := HK2.out; omega
         case rel => exact ⟨(wrap64 (x5_2 + 1)), (by first | rfl | (simp; done) | (simp [*]; done)), H', ⟨by have := HJ2.out; have := HK2.out; omega⟩, ⟨by (with_reducible repeat (first | refine blk_drewN ?_ _ | refine blk_drew ?_ | refine blk_alloc ?_ _)); exact BK101.out⟩, ⟨by repeat (first | (with_reducible first | exact HB.out | apply below_alloc | apply pw_below_drewN | apply below_drew1 | refine below_set ?_ GE101.out) | exact HB.out)⟩⟩
       ·rw [if_neg c10] at H
        exact absurd H (by simp)
      ·rw [if_neg c9] at H
       have c9b0 : decide (x5_2 < (l0_1.length : Int)) = false := decide_eq_false c9
       clear c9
       have H' := Aside0.mk H
       clear H
       obtain ⟨hcz14_0, hcz14_1⟩ := cl2 (W := wr) BK101.out
       obtain ⟨hfz14_0, hfz14_1⟩ := fr2 BK101.out
       go_wp2
       go_loopg [6] k2 (fun kq v6 w' => ∃ (x6_3 : Int), v6 = .int .i64 x6_3 ∧ Aside0 (seneschallaw05_great.l1 kq l1 x6_3 = some r) ∧ Aside0 (kq ≤ k2) ∧ Aside0 (w'.heap[gb101]? = some (.cells #[.int .i64 a0_0, (.slice A0_1 l0_1.length c0_1)] 24 (0, 0))) ∧ Aside0 (Below w.heap.size w w'))
       case atStart => exact ⟨(0), (by first | rfl | (simp; done) | (simp [*]; done)), H', ⟨Nat.le_refl _⟩, ⟨by (with_reducible repeat (first | refine blk_drewN ?_ _ | refine blk_drew ?_ | refine blk_alloc ?_ _)); exact BK101.out⟩, ⟨by repeat (first | (with_reducible first | exact HB.out | apply below_alloc | apply pw_below_drewN | apply below_drew1 | refine below_set ?_ GE101.out) | exact HB.out)⟩⟩
       case round =>
        clear H'
        try clear c1
        try clear p1
        try clear q1
        try clear hx1
        try clear p2
        try clear c5
        try clear c5b0
        try clear c5b1
        try clear c6
        try clear p6
        try clear c8
        try clear c9
        try clear c9b0
        try clear c10
        try clear c10b0
        try clear p10
        try clear q10
        try clear hx10
        try clear c11
        try clear c11b0
        try clear c11b1
        try clear hcz12_0
        try clear hcz12_1
        try clear hcz13_0
        try clear hcz13_1
        try clear hcz14_0
        try clear hcz14_1
        try clear hcz6_0
        try clear hcz6_1
        try clear hcz7_0
        try clear hcz7_1
        try clear hfz12_0
        try clear hfz12_1
        try clear hfz13_0
        try clear hfz13_1
        try clear hfz14_0
        try clear hfz14_1
        try clear hfz6_0
        try clear hfz6_1
        try clear hfz7_0
        try clear hfz7_1
        try clear hx102_0
        try clear hx102_1
        try clear p102
        try clear p2
        try clear q102
        obtain ⟨x6_3, rfl, HA, HK3, BK101, HB⟩ := hrel
        cases gk with
        | zero => exact absurd HA.out (by simp [seneschallaw05_great.l1])
        | succ k3 =>
         have H := HA.out
         clear HA
         simp only [seneschallaw05_great.l1] at H
         by_cases c15 : x6_3 < (l1.length : Int)
         ·rw [if_pos c15] at H
          have c15b0 : decide (x6_3 < (l1.length : Int)) = true := decide_eq_true c15
          clear c15
          by_cases c16 : 0 ≤ x6_3
          ·rw [if_pos c16] at H
           have c16b0 : decide (0 ≤ x6_3) = true := decide_eq_true c16
           clear c16
           by_cases c17 : (((rd_T65 l1 x6_3).f6.f1).size : Int) > 4096
           ·rw [if_pos c17] at H
            have c17b0 : decide (4096 < (((rd_T65 l1 x6_3).f6.f1).size : Int)) = true := decide_eq_true c17
            have c17b1 : decide (4096 < ((rd_T65 l1 x6_3).f6.f1).size) = true := decide_eq_true (by omega)
            clear c17
            obtain rfl := Option.some.inj H
            have p103 : 0 ≤ (x6_3 : Int) := of_decide_eq_true (by first | (with_reducible assumption) | assumption)
            have q103 : x6_3 < (l1.length : Int) := of_decide_eq_true (by first | (with_reducible assumption) | assumption)
            obtain ⟨ad103, e103, hx103_0, hx103_1, hx103_2, hx103_3, hx103_4, hx103_5, hx103_6, hx103_7, hx103_8, hx103_9, hx103_10, hx103_11, hx103_12⟩ := at_T65 HR1.out x6_3 p103 q103
            cases e103
            replace hx103_0 := pw_cell_below HB.out hx103_0
            replace hx103_1 := pw_cell_below HB.out hx103_1
            replace hx103_2 := pw_cell_below HB.out hx103_2
            replace hx103_3 := pw_cell_below HB.out hx103_3
            replace hx103_4 := pw_cell_below HB.out hx103_4
            replace hx103_5 := pw_cell_below HB.out hx103_5
            replace hx103_6 := pw_cell_below HB.out hx103_6
            replace hx103_7 := pw_cell_below HB.out hx103_7
            replace hx103_8 := pw_cell_below HB.out hx103_8
            replace hx103_9 := pw_cell_below HB.out hx103_9
            replace hx103_10 := pw_cell_below HB.out hx103_10
            replace hx103_11 := pw_cell_below HB.out hx103_11
            replace hx103_12 := pw_cell_below HB.out hx103_12
            replace p103 := eq_true p103
            replace q103 := eq_true q103
            go_wp2
            go_ret
            exact ⟨by first | rfl | (simp [errW_none, errW_some] <;> rfl) | (simp [*, errW_none, errW_some] <;> rfl), by repeat (first | (with_reducible first | exact HB.out | apply below_alloc | apply pw_below_drewN | apply below_drew1 | refine below_set ?_ GE101.out) | exact HB.out)⟩
           ·rw [if_neg c17] at H
            have c17b0 : decide (4096 < (((rd_T65 l1 x6_3).f6.f1).size : Int)) = false := decide_eq_false c17
            have c17b1 : decide (4096 < ((rd_T65 l1 x6_3).f6.f1).size) = false := decide_eq_false (by omega)
            clear c17
            by_cases c18 : (((rd_T65 l1 x6_3).f7.f1).size : Int) > 4096
            ·rw [if_pos c18] at H
             have c18b0 : decide (4096 < (((rd_T65 l1 x6_3).f7.f1).size : Int)) = true := decide_eq_true c18
             have c18b1 : decide (4096 < ((rd_T65 l1 x6_3).f7.f1).size) = true := decide_eq_true (by omega)
             clear c18
             obtain rfl := Option.some.inj H
             have p103 : 0 ≤ (x6_3 : Int) := of_decide_eq_true (by first | (with_reducible assumption) | assumption)
             have q103 : x6_3 < (l1.length : Int) := of_decide_eq_true (by first | (with_reducible assumption) | assumption)
             obtain ⟨ad103, e103, hx103_0, hx103_1, hx103_2, hx103_3, hx103_4, hx103_5, hx103_6, hx103_7, hx103_8, hx103_9, hx103_10, hx103_11, hx103_12⟩ := at_T65 HR1.out x6_3 p103 q103
             cases e103
             replace hx103_0 := pw_cell_below HB.out hx103_0
             replace hx103_1 := pw_cell_below HB.out hx103_1
             replace hx103_2 := pw_cell_below HB.out hx103_2
             replace hx103_3 := pw_cell_below HB.out hx103_3
             replace hx103_4 := pw_cell_below HB.out hx103_4
             replace hx103_5 := pw_cell_below HB.out hx103_5
             replace hx103_6 := pw_cell_below HB.out hx103_6
             replace hx103_7 := pw_cell_below HB.out hx103_7
             replace hx103_8 := pw_cell_below HB.out hx103_8
             replace hx103_9 := pw_cell_below HB.out hx103_9
             replace hx103_10 := pw_cell_below HB.out hx103_10
             replace hx103_11 := pw_cell_below HB.out hx103_11
             replace hx103_12 := pw_cell_below HB.out hx103_12
             replace p103 := eq_true p103
             replace q103 := eq_true q103
             have p104 : 0 ≤ (x6_3 : Int) := of_decide_eq_true (by first | (with_reducible assumption) | assumption)
             have q104 : x6_3 < (l1.length : Int) := of_decide_eq_true (by first | (with_reducible assumption) | assumption)
             obtain ⟨ad104, e104, hx104_0, hx104_1, hx104_2, hx104_3, hx104_4, hx104_5, hx104_6, hx104_7, hx104_8, hx104_9, hx104_10, hx104_11, hx104_12⟩ := at_T65 HR1.out x6_3 p104 q104
             obtain rfl : ad103 = ad104 := (by injection e104)
             replace hx104_0 := pw_cell_below HB.out hx104_0
             replace hx104_1 := pw_cell_below HB.out hx104_1
             replace hx104_2 := pw_cell_below HB.out hx104_2
             replace hx104_3 := pw_cell_below HB.out hx104_3
             replace hx104_4 := pw_cell_below HB.out hx104_4
             replace hx104_5 := pw_cell_below HB.out hx104_5
             replace hx104_6 := pw_cell_below HB.out hx104_6
             replace hx104_7 := pw_cell_below HB.out hx104_7
             replace hx104_8 := pw_cell_below HB.out hx104_8
             replace hx104_9 := pw_cell_below HB.out hx104_9
             replace hx104_10 := pw_cell_below HB.out hx104_10
             replace hx104_11 := pw_cell_below HB.out hx104_11
             replace hx104_12 := pw_cell_below HB.out hx104_12
             replace p104 := eq_true p104
             replace q104 := eq_true q104
             go_wp2
             go_ret
             exact ⟨by first | rfl | (simp [errW_none, errW_some] <;> rfl) | (simp [*, errW_none, errW_some] <;> rfl), by repeat (first | (with_reducible first | exact HB.out | apply below_alloc | apply pw_below_drewN | apply below_drew1 | refine below_set ?_ GE101.out) | exact HB.out)⟩
            ·rw [if_neg c18] at H
             have c18b0 : decide (4096 < (((rd_T65 l1 x6_3).f7.f1).size : Int)) = false := decide_eq_false c18
             have c18b1 : decide (4096 < ((rd_T65 l1 x6_3).f7.f1).size) = false := decide_eq_false (by omega)
             clear c18
             have H' := Aside0.mk H
             clear H
             have p103 : 0 ≤ (x6_3 : Int) := of_decide_eq_true (by first | (with_reducible assumption) | assumption)
             have q103 : x6_3 < (l1.length : Int) := of_decide_eq_true (by first | (with_reducible assumption) | assumption)
             obtain ⟨ad103, e103, hx103_0, hx103_1, hx103_2, hx103_3, hx103_4, hx103_5, hx103_6, hx103_7, hx103_8, hx103_9, hx103_10, hx103_11, hx103_12⟩ := at_T65 HR1.out x6_3 p103 q103
             cases e103
             replace hx103_0 := pw_cell_below HB.out hx103_0
             replace hx103_1 := pw_cell_below HB.out hx103_1
             replace hx103_2 := pw_cell_below HB.out hx103_2
             replace hx103_3 := pw_cell_below HB.out hx103_3
             replace hx103_4 := pw_cell_below HB.out hx103_4
             replace hx103_5 := pw_cell_below HB.out hx103_5
             replace hx103_6 := pw_cell_below HB.out hx103_6
             replace hx103_7 := pw_cell_below HB.out hx103_7
             replace hx103_8 := pw_cell_below HB.out hx103_8
             replace hx103_9 := pw_cell_below HB.out hx103_9
             replace hx103_10 := pw_cell_below HB.out hx103_10
             replace hx103_11 := pw_cell_below HB.out hx103_11
             replace hx103_12 := pw_cell_below HB.out hx103_12
             replace p103 := eq_true p103
             replace q103 := eq_true q103
             have p104 : 0 ≤ (x6_3 : Int) := of_decide_eq_true (by first | (with_reducible assumption) | assumption)
             have q104 : x6_3 < (l1.length : Int) := of_decide_eq_true (by first | (with_reducible assumption) | assumption)
             obtain ⟨ad104, e104, hx104_0, hx104_1, hx104_2, hx104_3, hx104_4, hx104_5, hx104_6, hx104_7, hx104_8, hx104_9, hx104_10, hx104_11, hx104_12⟩ := at_T65 HR1.out x6_3 p104 q104
             obtain rfl : ad103 = ad104 := (by injection e104)
             replace hx104_0 := pw_cell_below HB.out hx104_0
             replace hx104_1 := pw_cell_below HB.out hx104_1
             replace hx104_2 := pw_cell_below HB.out hx104_2
             replace hx104_3 := pw_cell_below HB.out hx104_3
             replace hx104_4 := pw_cell_below HB.out hx104_4
             replace hx104_5 := pw_cell_below HB.out hx104_5
             replace hx104_6 := pw_cell_below HB.out hx104_6
             replace hx104_7 := pw_cell_below HB.out hx104_7
             replace hx104_8 := pw_cell_below HB.out hx104_8
             replace hx104_9 := pw_cell_below HB.out hx104_9
             replace hx104_10 := pw_cell_below HB.out hx104_10
             replace hx104_11 := pw_cell_below HB.out hx104_11
             replace hx104_12 := pw_cell_below HB.out hx104_12
             replace p104 := eq_true p104
             replace q104 := eq_true q104
             go_wp2
             go_roundg k3
             case measure => have := HJ2.out; have := HK2.out; have := HK3.out; omega
             case rel => exact ⟨(wrap64 (x6_3 + 1)), (by first | rfl | (simp; done) | (simp [*]; done)), H', ⟨by have := HJ2.out; have := HK2.out; have := HK3.out; omega⟩, ⟨by (with_reducible repeat (first | refine blk_drewN ?_ _ | refine blk_drew ?_ | refine blk_alloc ?_ _)); exact BK101.out⟩, ⟨by repeat (first | (with_reducible first | exact HB.out | apply below_alloc | apply pw_below_drewN | apply below_drew1 | refine below_set ?_ GE101.out) | exact HB.out)⟩⟩
          ·rw [if_neg c16] at H
           exact absurd H (by simp)
         ·rw [if_neg c15] at H
          have c15b0 : decide (x6_3 < (l1.length : Int)) = false := decide_eq_false c15
          clear c15
          obtain rfl := Option.some.inj H
          go_wp2
          go_ret
          exact ⟨by first | rfl | (simp [errW_none, errW_some] <;> rfl) | (simp [*, errW_none, errW_some] <;> rfl), by repeat (first | (with_reducible first | exact HB.out | apply below_alloc | apply pw_below_drewN | apply below_drew1 | refine below_set ?_ GE101.out) | exact HB.out)⟩
end Go.Proofs.Ytfjmnaobfbmllaa.M
namespace Go.Proofs.Ytfjmnaobfbmllaa.M
open Go.RowKit Go.Proofs.YtfjmnaobfbmllaaW.PrintWords Go.Proofs.YtfjmnaobfbmllaaW.PrintLast Go.Proofs.YtfjmnaobfbmllaaW.PrintMore
set_option linter.unusedVariables false
set_option linter.unusedSimpArgs false
def greatF (l : List S33) (m : List S65) : Bool := decide (100 < l.length) || decide (60 < m.length) || l.any (fun x => decide (4096 < x.f1.size)) || m.any greatE
theorem g5_l1 (m : List S65) (hn : m.length ≤ 60) (d : Nat) : ∀ (k i : Nat), i + d = m.length → d < k → seneschallaw05_great.l1 k m i = some ((m.drop i).any greatE) := by
  induction d with
  | zero =>
    intro k i hi hk
    obtain ⟨k, rfl⟩ : ∃ q, k = q + 1 := ⟨k - 1, by omega⟩
    simp only [seneschallaw05_great.l1]
    rw [if_neg (by omega), List.drop_of_length_le (by omega)]; rfl
  | succ d ih =>
    intro k i hi hk
    obtain ⟨k, rfl⟩ : ∃ q, k = q + 1 := ⟨k - 1, by omega⟩
    have hlt : i < m.length := by omega
    have hw : wrap64 ((i : Int) + 1) = ((i + 1 : Nat) : Int) := by rw [w64 _ (by omega) (by omega)]; omega
    have hr : rd_T65 m (i : Int) = m[i] := by simp [rd_T65, hlt]
    simp only [seneschallaw05_great.l1]
    rw [if_pos (by omega), if_pos (by omega), hr, hw, ih k (i + 1) (by omega) (by omega), List.drop_eq_getElem_cons hlt, List.any_cons]
    unfold greatE
    by_cases h1 : 4096 < m[i].f6.f1.size
    · rw [if_pos (by omega), decide_eq_true h1]; rfl
    · rw [if_neg (by omega), decide_eq_false h1]
      by_cases h2 : 4096 < m[i].f7.f1.size
      · rw [if_pos (by omega), decide_eq_true h2]; rfl
      · rw [if_neg (by omega), decide_eq_false h2]; rfl
theorem g5_l0 (a : Int) (l : List S33) (hl : l.length ≤ 100) (m : List S65) (hn : m.length ≤ 60) (d : Nat) : ∀ (k i : Nat), i + d = l.length → d + 61 < k → seneschallaw05_great.l0 k m i a l = some ((l.drop i).any (fun x => decide (4096 < x.f1.size)) || m.any greatE) := by
  induction d with
  | zero =>
    intro k i hi hk
    obtain ⟨k, rfl⟩ : ∃ q, k = q + 1 := ⟨k - 1, by omega⟩
    simp only [seneschallaw05_great.l0]
    have := g5_l1 m hn m.length k 0 (by omega) (by omega)
    rw [List.drop_zero] at this
    rw [if_neg (by omega), List.drop_of_length_le (by omega)]
    exact this
  | succ d ih =>
    intro k i hi hk
    obtain ⟨k, rfl⟩ : ∃ q, k = q + 1 := ⟨k - 1, by omega⟩
    have hlt : i < l.length := by omega
    have hw : wrap64 ((i : Int) + 1) = ((i + 1 : Nat) : Int) := by rw [w64 _ (by omega) (by omega)]; omega
    simp only [seneschallaw05_great.l0]
    rw [if_pos (by omega), if_pos (by omega), rd33 l i hlt, hw, ih k (i + 1) (by omega) (by omega), List.drop_eq_getElem_cons hlt, List.any_cons]
    by_cases h1 : 4096 < l[i].f1.size
    · rw [if_pos (by omega), decide_eq_true h1]; rfl
    · rw [if_neg (by omega), decide_eq_false h1]; rfl
theorem g5_pure (a : Int) (l : List S33) (m : List S65) : seneschallaw05_great.f 200 a l m = some (greatF l m) := by
  unfold seneschallaw05_great.f greatF
  have ht : ∀ k, seneschallaw05_great.j0 (k + 1) m true a l = some true := fun k => by simp only [seneschallaw05_great.j0]; exact if_pos trivial
  by_cases h1 : 100 < l.length
  · rw [if_pos (by omega), ht 199, decide_eq_true h1]; rfl
  · rw [if_neg (by omega), decide_eq_false h1]
    by_cases h2 : 60 < m.length
    · rw [decide_eq_true (show (m.length : Int) > 60 by omega), ht 199, decide_eq_true h2]; rfl
    · rw [decide_eq_false (show ¬ (m.length : Int) > 60 by omega), decide_eq_false h2]
      have := g5_l0 a l (by omega) m (by omega) l.length 199 0 (by omega) (by omega)
      rw [List.drop_zero] at this
      have e : seneschallaw05_great.j0 200 m false a l = seneschallaw05_great.l0 199 m 0 a l := by
        rw [show (200 : Nat) = 199 + 1 from rfl]
        simp only [seneschallaw05_great.j0]
        exact if_neg Bool.false_ne_true
      rw [e]
      exact this
def great5.f (a : Int) (l : List S33) (m : List S65) : Option Bool := some (greatF l m)
theorem great5.calls (a : Int) (A : Option Addr) (c : Nat) (l : List S33) (B : Option Addr) (c2 : Nat) (m : List S65) (r : Bool) (w : World) (hr : Kd.C k33 w A l.length l) (hc : l.length ≤ c) (hr2 : Kd.C k65 w B m.length m) (hc2 : m.length ≤ c2) (h : great5.f a l m = some r) :
    Calls Try.prog 66 #[.agg #[.int .i64 a, .slice A l.length c], .slice B m.length c2] w fun e w' => e = .returned (.bool r) ∧ Below w.heap.size w w' :=
  seneschallaw05_great.calls 200 a A c l B c2 m r w hr hc hr2 hc2 (by rw [← h]; exact g5_pure a l m)
end Go.Proofs.Ytfjmnaobfbmllaa.M
namespace Go.Proofs.Ytfjmnaobfbmllaa.M
open Go.RowKit Go.Proofs.YtfjmnaobfbmllaaW.PrintWords Go.Proofs.YtfjmnaobfbmllaaW.PrintLast Go.Proofs.YtfjmnaobfbmllaaW.PrintMore
attribute [local go_sem] max2_int min2_int max_two min_two max_three min_three max_four min_four   -- for this text's walks alone
set_option linter.unusedVariables false
set_option linter.unusedSimpArgs false
def seneschallaw05_insert.f  : Option (Int × Int × Int × Int × Int × Int × Int × Int × Bool × ByteArray × Bool × ByteArray × Int) := some (1, 1, 1, 1, 5, 0, 0, 0, false, (⟨#[]⟩ : ByteArray), true, (⟨#[97]⟩ : ByteArray), 0)
set_option maxHeartbeats 8000000 in
set_option maxRecDepth 100000 in
theorem seneschallaw05_insert.calls  (r1 : Int) (r2 : Int) (r3 : Int) (r4 : Int) (r5 : Int) (r6 : Int) (r7 : Int) (r8 : Int) (r9 : Bool) (r10 : ByteArray) (r11 : Bool) (r12 : ByteArray) (r13 : Int) (w : World) (h : seneschallaw05_insert.f  = some (r1, r2, r3, r4, r5, r6, r7, r8, r9, r10, r11, r12, r13)) :
  Calls Try.prog 111 #[] w fun e w' => e = .returned (.agg #[.int .i64 r1, .int .i64 r2, .int .i64 r3, .int .i64 r4, .int .i64 r5, .int .i64 r6, .int .i64 r7, .int .i64 r8, .bool r9, .string r10, .bool r11, .string r12, .int .i64 r13]) ∧ Below w.heap.size w w' := by
 have hu65 := Try.underlying65
 have hu52 := Try.underlying52
 have hu33 := Try.underlying33
 have HB := Aside0.mk (Below.refl w.heap.size w)
 have H : (some (1, 1, 1, 1, 5, 0, 0, 0, false, (⟨#[]⟩ : ByteArray), true, (⟨#[97]⟩ : ByteArray), 0)) = some (r1, r2, r3, r4, r5, r6, r7, r8, r9, r10, r11, r12, r13) := h
 clear h
 simp only [Option.some.injEq, Prod.mk.injEq] at H
 obtain ⟨rfl, rfl, rfl, rfl, rfl, rfl, rfl, rfl, rfl, rfl, rfl, rfl, rfl⟩ := H
 go_enter Try.func111, Try.ntmps111
 go_wp2_with (first | ((with_reducible refine gate_dst (N := 0) rfl ?_); refine box_event ?hg (N := 0) ?hd (cs := #[.int .i64 0, .int .i64 0, .int .i64 0, .int .i64 0, .int .i64 0, .int .i64 0, .int .i64 0, .int .i64 0, .bool false, .string (⟨#[]⟩ : ByteArray), .bool false, .string (⟨#[]⟩ : ByteArray), .int .i64 0]) (t := 65) ?hr ?_; (case hd => rfl); (case hg => rfl); (case hr => first | (go_simp; done) | (go_simp; rfl)); intro gb101 hg w1 hbox hb; have n0_ := Aside0.mk (below_step HB.out hb); have n1_ := Aside0.mk (hbox); have n2_ := Aside0.mk ((by rw [hg]; exact below_size HB.out : w.heap.size ≤ gb101)); have n3_ := Aside0.mk ((by rw [hg]; exact below_size HB.out : w.heap.size ≤ gb101)); clear HB; have HB := n0_; have BK101 := n1_; have GW101 := n2_; have GE101 := n3_; clear n0_ n1_ n2_ n3_; clear hb hbox hg; obtain ⟨hcz2_0, hcz2_1, hcz2_2, hcz2_3, hcz2_4, hcz2_5, hcz2_6, hcz2_7, hcz2_8, hcz2_9, hcz2_10, hcz2_11, hcz2_12⟩ := cl13 (W := w1) BK101.out; obtain ⟨hfz2_0, hfz2_1, hfz2_2, hfz2_3, hfz2_4, hfz2_5, hfz2_6, hfz2_7, hfz2_8, hfz2_9, hfz2_10, hfz2_11, hfz2_12⟩ := fr13 BK101.out))
 refine bodyPost_ret (results_cell_row rfl _ _ gb101 65 #[.int .i64 1, .int .i64 1, .int .i64 1, .int .i64 1, .int .i64 5, .int .i64 0, .int .i64 0, .int .i64 0, .bool false, .string (⟨#[]⟩ : ByteArray), .bool true, .string (⟨#[97]⟩ : ByteArray), .int .i64 0] (0, 0) _ rfl (by (with_reducible repeat (first | refine blk_drewN ?_ _ | refine blk_drew ?_ | refine blk_alloc ?_ _)); refine blk_put (cs := #[.int .i64 1, .int .i64 1, .int .i64 1, .int .i64 1, .int .i64 5, .int .i64 0, .int .i64 0, .int .i64 0, .bool false, .string (⟨#[]⟩ : ByteArray), .bool true, .string (⟨#[97]⟩ : ByteArray), .int .i64 0]) ?_ 12 _ rfl; refine blk_put (cs := #[.int .i64 1, .int .i64 1, .int .i64 1, .int .i64 1, .int .i64 5, .int .i64 0, .int .i64 0, .int .i64 0, .bool false, .string (⟨#[]⟩ : ByteArray), .bool true, .string (⟨#[]⟩ : ByteArray), .int .i64 0]) ?_ 11 _ rfl; refine blk_put (cs := #[.int .i64 1, .int .i64 1, .int .i64 1, .int .i64 1, .int .i64 5, .int .i64 0, .int .i64 0, .int .i64 0, .bool false, .string (⟨#[]⟩ : ByteArray), .bool false, .string (⟨#[]⟩ : ByteArray), .int .i64 0]) ?_ 10 _ rfl; refine blk_put (cs := #[.int .i64 1, .int .i64 1, .int .i64 1, .int .i64 1, .int .i64 5, .int .i64 0, .int .i64 0, .int .i64 0, .bool false, .string (⟨#[]⟩ : ByteArray), .bool false, .string (⟨#[]⟩ : ByteArray), .int .i64 0]) ?_ 9 _ rfl; refine blk_put (cs := #[.int .i64 1, .int .i64 1, .int .i64 1, .int .i64 1, .int .i64 5, .int .i64 0, .int .i64 0, .int .i64 0, .bool false, .string (⟨#[]⟩ : ByteArray), .bool false, .string (⟨#[]⟩ : ByteArray), .int .i64 0]) ?_ 8 _ rfl; refine blk_put (cs := #[.int .i64 1, .int .i64 1, .int .i64 1, .int .i64 1, .int .i64 5, .int .i64 0, .int .i64 0, .int .i64 0, .bool false, .string (⟨#[]⟩ : ByteArray), .bool false, .string (⟨#[]⟩ : ByteArray), .int .i64 0]) ?_ 7 _ rfl; refine blk_put (cs := #[.int .i64 1, .int .i64 1, .int .i64 1, .int .i64 1, .int .i64 5, .int .i64 0, .int .i64 0, .int .i64 0, .bool false, .string (⟨#[]⟩ : ByteArray), .bool false, .string (⟨#[]⟩ : ByteArray), .int .i64 0]) ?_ 6 _ rfl; refine blk_put (cs := #[.int .i64 1, .int .i64 1, .int .i64 1, .int .i64 1, .int .i64 5, .int .i64 0, .int .i64 0, .int .i64 0, .bool false, .string (⟨#[]⟩ : ByteArray), .bool false, .string (⟨#[]⟩ : ByteArray), .int .i64 0]) ?_ 5 _ rfl; refine blk_put (cs := #[.int .i64 1, .int .i64 1, .int .i64 1, .int .i64 1, .int .i64 0, .int .i64 0, .int .i64 0, .int .i64 0, .bool false, .string (⟨#[]⟩ : ByteArray), .bool false, .string (⟨#[]⟩ : ByteArray), .int .i64 0]) ?_ 4 _ rfl; refine blk_put (cs := #[.int .i64 1, .int .i64 1, .int .i64 1, .int .i64 0, .int .i64 0, .int .i64 0, .int .i64 0, .int .i64 0, .bool false, .string (⟨#[]⟩ : ByteArray), .bool false, .string (⟨#[]⟩ : ByteArray), .int .i64 0]) ?_ 3 _ rfl; refine blk_put (cs := #[.int .i64 1, .int .i64 1, .int .i64 0, .int .i64 0, .int .i64 0, .int .i64 0, .int .i64 0, .int .i64 0, .bool false, .string (⟨#[]⟩ : ByteArray), .bool false, .string (⟨#[]⟩ : ByteArray), .int .i64 0]) ?_ 2 _ rfl; refine blk_put (cs := #[.int .i64 1, .int .i64 0, .int .i64 0, .int .i64 0, .int .i64 0, .int .i64 0, .int .i64 0, .int .i64 0, .bool false, .string (⟨#[]⟩ : ByteArray), .bool false, .string (⟨#[]⟩ : ByteArray), .int .i64 0]) ?_ 1 _ rfl; refine blk_put (cs := #[.int .i64 0, .int .i64 0, .int .i64 0, .int .i64 0, .int .i64 0, .int .i64 0, .int .i64 0, .int .i64 0, .bool false, .string (⟨#[]⟩ : ByteArray), .bool false, .string (⟨#[]⟩ : ByteArray), .int .i64 0]) ?_ 0 _ rfl; (with_reducible repeat (first | refine blk_drewN ?_ _ | refine blk_drew ?_ | refine blk_alloc ?_ _)); exact BK101.out) Try.underlying65 rfl (by kernel_rfl)) rfl ?_
 exact ⟨by first | rfl | (simp [errW_none, errW_some] <;> rfl) | (simp [*, errW_none, errW_some] <;> rfl), by repeat (first | (with_reducible first | exact HB.out | apply below_alloc | apply pw_below_drewN | apply below_drew1 | refine below_set ?_ GE101.out) | exact HB.out)⟩
end Go.Proofs.Ytfjmnaobfbmllaa.M
namespace Go.Proofs.Ytfjmnaobfbmllaa.M
open Go.RowKit Go.Proofs.YtfjmnaobfbmllaaW.PrintWords Go.Proofs.YtfjmnaobfbmllaaW.PrintLast Go.Proofs.YtfjmnaobfbmllaaW.PrintMore
attribute [local go_sem] max2_int min2_int max_two min_two max_three min_three max_four min_four   -- for this text's walks alone
set_option linter.unusedVariables false
set_option linter.unusedSimpArgs false
mutual
def patch_All.l0 : Nat → Int → List (S65) → Int → Int → Int → List (S33) → Option (Int × (List (S33)) × Int)
 | 0, _, _, _, _, _, _ => none
 | k + 1, x1, x21, x22, x23, x102000, x102001 => if x23 < x22 then (if 0 ≤ x23 then (if x23 < (x21.length : Int) then ((patch_changes.f ((rd_T65 x21 x23).f0) ((rd_T65 x21 x23).f1.f0) ((rd_T65 x21 x23).f1.f1) ((rd_T65 x21 x23).f1.f2) ((rd_T65 x21 x23).f2) ((rd_T65 x21 x23).f3) ((rd_T65 x21 x23).f4) ((rd_T65 x21 x23).f5) ((rd_T65 x21 x23).f6.f0) ((rd_T65 x21 x23).f6.f1) ((rd_T65 x21 x23).f7.f0) ((rd_T65 x21 x23).f7.f1) ((rd_T65 x21 x23).f8)).bind fun t109 => (if t109 = true then (patch_All.j1 k x1 x21 x22 x23 (((rd_T65 x21 x23).f4) != x1) x102000 x102001 ((rd_T65 x21 x23).f0) ((rd_T65 x21 x23).f1.f0) ((rd_T65 x21 x23).f1.f1) ((rd_T65 x21 x23).f1.f2) ((rd_T65 x21 x23).f2) ((rd_T65 x21 x23).f3) ((rd_T65 x21 x23).f4) ((rd_T65 x21 x23).f5) ((rd_T65 x21 x23).f6.f0) ((rd_T65 x21 x23).f6.f1) ((rd_T65 x21 x23).f7.f0) ((rd_T65 x21 x23).f7.f1) ((rd_T65 x21 x23).f8)) else (patch_All.j1 k x1 x21 x22 x23 true x102000 x102001 ((rd_T65 x21 x23).f0) ((rd_T65 x21 x23).f1.f0) ((rd_T65 x21 x23).f1.f1) ((rd_T65 x21 x23).f1.f2) ((rd_T65 x21 x23).f2) ((rd_T65 x21 x23).f3) ((rd_T65 x21 x23).f4) ((rd_T65 x21 x23).f5) ((rd_T65 x21 x23).f6.f0) ((rd_T65 x21 x23).f6.f1) ((rd_T65 x21 x23).f7.f0) ((rd_T65 x21 x23).f7.f1) ((rd_T65 x21 x23).f8)))) else (none)) else (none)) else (some (x102000, x102001, 0))
def patch_All.j1 : Nat → Int → List (S65) → Int → Int → Bool → Int → List (S33) → Int → Int → Int → Int → Int → Int → Int → Int → Bool → ByteArray → Bool → ByteArray → Int → Option (Int × (List (S33)) × Int)
 | 0, _, _, _, _, _, _, _, _, _, _, _, _, _, _, _, _, _, _, _, _ => none
 | k + 1, x1, x21, x22, x23, x35, x102000, x102001, x109000, x109001, x109002, x109003, x109004, x109005, x109006, x109007, x109008, x109009, x109010, x109011, x109012 => if x35 = true then (patch_All.l0 k x1 x21 x22 (wrap64 (x23 + 1)) x102000 x102001) else ((patRedo.f x102000 x102001 x109000 x109001 x109002 x109003 x109004 x109005 x109006 x109007 x109008 x109009 x109010 x109011 x109012).bind fun bt110 => (if bt110.2.2.2 = 0 then (patch_All.l0 k x1 x21 x22 (wrap64 (x23 + 1)) bt110.1 bt110.2.1) else (some (0, ([] : List (S33)), bt110.2.2.2))))
end
def patch_All.f (k : Nat) (a0_0 : Int) (l0_1 : List (S33)) (a1 : Int) (l2 : List (S65)) : Option (Int × (List (S33)) × Int) := (slabGood.f a0_0 l0_1).bind fun t103 => (if t103 = true then ((slices_Clone.f l0_1).bind fun t104 => (patch_All.l0 k a1 l2 (l2.length : Int) 0 a0_0 t104)) else (some (0, ([] : List (S33)), 1)))
set_option maxHeartbeats 8000000 in
set_option maxRecDepth 100000 in
theorem patch_All.calls (k : Nat) (a0_0 : Int) (A0_1 : Option Addr) (c0_1 : Nat) (l0_1 : List (S33)) (a1 : Int) (A2 : Option Addr) (c2 : Nat) (l2 : List (S65)) (r1 : Int) (r2 : List (S33)) (r3 : Int) (w : World) (hr0_1 : Kd.C k33 w A0_1 l0_1.length l0_1) (hc0_1 : l0_1.length ≤ c0_1) (hr2 : Kd.C k65 w A2 l2.length l2) (hc2 : l2.length ≤ c2) (h : patch_All.f k a0_0 l0_1 a1 l2 = some (r1, r2, r3)) :
  Calls Try.prog 71 #[.agg #[.int .i64 a0_0, .slice A0_1 l0_1.length c0_1], .int .i64 a1, .slice A2 l2.length c2] w fun e w' => ∃ v1_ : Value, e = .returned (.tuple #[.agg #[.int .i64 r1, v1_], .int .i64 r3]) ∧ Kd.R k33 33 w' w.heap.size (fun _ => True) v1_ r2 ∧ Below w.heap.size w w' := by
 have hu24 := Try.underlying24
 have hu65 := Try.underlying65
 have HR0_1 := Aside0.mk hr0_1
 have HC0_1 := Aside0.mk hc0_1
 clear hr0_1 hc0_1
 have HR2 := Aside0.mk hr2
 have HC2 := Aside0.mk hc2
 clear hr2 hc2
 have HB := Aside0.mk (Below.refl w.heap.size w)
 have H : ((slabGood.f a0_0 l0_1).bind fun t103 => (if t103 = true then ((slices_Clone.f l0_1).bind fun t104 => (patch_All.l0 k a1 l2 (l2.length : Int) 0 a0_0 t104)) else (some (0, ([] : List (S33)), 1)))) = some (r1, r2, r3) := h
 clear h
 replace H := Option.bind_eq_some_iff.mp H
 obtain ⟨t103, A40, H⟩ := H
 replace H : (if t103 = true then ((slices_Clone.f l0_1).bind fun t104 => (patch_All.l0 k a1 l2 (l2.length : Int) 0 a0_0 t104)) else (some (0, ([] : List (S33)), 1))) = some (r1, r2, r3) := H
 have A4 := Aside0.mk A40
 clear A40
 by_cases c5 : t103 = true
 ·subst c5
  have H1 : ((slices_Clone.f l0_1).bind fun t104 => (patch_All.l0 k a1 l2 (l2.length : Int) 0 a0_0 t104)) = some (r1, r2, r3) := by rw [if_pos rfl] at H; exact H
  clear H
  have H := H1
  clear H1
  replace H := Option.bind_eq_some_iff.mp H
  obtain ⟨t104, A60, H⟩ := H
  replace H : (patch_All.l0 k a1 l2 (l2.length : Int) 0 a0_0 t104) = some (r1, r2, r3) := H
  have A6 := Aside0.mk A60
  clear A60
  have H' := Aside0.mk H
  clear H
  go_enter Try.func71, Try.ntmps71
  go_wp2_with (first | ((with_reducible refine gate_dst (N := 3) rfl ?_); refine box_event ?hg (N := 3) ?hd (cs := #[.int .i64 a0_0, .slice A0_1 l0_1.length c0_1]) (t := 24) ?hr ?_; (case hd => rfl); (case hg => rfl); (case hr => first | (go_simp; done) | (go_simp; rfl)); intro gb101 hg w7 hbox hb; have n0_ := Aside0.mk (below_step (by repeat (first | (with_reducible first | exact HB.out | apply below_alloc | apply pw_below_drewN | apply below_drew1) | exact HB.out)) hb); have n1_ := Aside0.mk (hbox); have n2_ := Aside0.mk ((by rw [hg]; exact (below_size (by repeat (first | (with_reducible first | exact HB.out | apply below_alloc | apply pw_below_drewN | apply below_drew1) | exact HB.out))) : w.heap.size ≤ gb101)); have n3_ := Aside0.mk ((by rw [hg]; exact (below_size (by repeat (first | (with_reducible first | exact HB.out | apply below_alloc | apply pw_below_drewN | apply below_drew1) | exact HB.out))) : w.heap.size ≤ gb101)); clear HB; have HB := n0_; have BK101 := n1_; have GW101 := n2_; have GE101 := n3_; clear n0_ n1_ n2_ n3_; clear hb hbox hg) | ((with_reducible refine gate_dst (N := 6) rfl ?_); refine box_event ?hg (N := 6) ?hd (cs := #[.int .i64 0, .slice none 0 0]) (t := 24) ?hr ?_; (case hd => rfl); (case hg => rfl); (case hr => first | (go_simp; done) | (go_simp; rfl)); intro gb102 hg w8 hbox hb; have n0_ := Aside0.mk (blk_below (g := gb101) (o := .cells #[.int .i64 a0_0, .slice A0_1 l0_1.length c0_1] 24 (0, 0)) (by (with_reducible repeat (first | refine blk_drewN ?_ _ | refine blk_drew ?_ | refine blk_alloc ?_ _)); exact BK101.out) hb); have n1_ := Aside0.mk (below_step (by repeat (first | (with_reducible first | exact HB.out | apply below_alloc | apply pw_below_drewN | apply below_drew1 | refine below_set ?_ GE101.out) | exact HB.out)) hb); have n2_ := Aside0.mk (hbox); have n3_ := Aside0.mk ((by rw [hg]; exact (below_size (by repeat (first | (with_reducible first | exact HB.out | apply below_alloc | apply pw_below_drewN | apply below_drew1 | refine below_set ?_ GE101.out) | exact HB.out))) : w.heap.size ≤ gb102)); have n4_ := Aside0.mk ((by rw [hg]; exact (below_size (by repeat (first | (with_reducible first | exact HB.out | apply below_alloc | apply pw_below_drewN | apply below_drew1 | refine below_set ?_ GE101.out) | exact HB.out))) : w.heap.size ≤ gb102)); have n5_ := Aside0.mk ((by rw [hg]; exact Nat.ne_of_lt (blk_lt (g := gb101) (o := .cells #[.int .i64 a0_0, .slice A0_1 l0_1.length c0_1] 24 (0, 0)) (by (with_reducible repeat (first | refine blk_drewN ?_ _ | refine blk_drew ?_ | refine blk_alloc ?_ _)); exact BK101.out)) : gb101 ≠ gb102)); have n6_ := Aside0.mk ((by rw [hg]; exact Nat.ne_of_gt (blk_lt (g := gb101) (o := .cells #[.int .i64 a0_0, .slice A0_1 l0_1.length c0_1] 24 (0, 0)) (by (with_reducible repeat (first | refine blk_drewN ?_ _ | refine blk_drew ?_ | refine blk_alloc ?_ _)); exact BK101.out)) : gb102 ≠ gb101)); clear BK101; clear HB; have BK101 := n0_; have HB := n1_; have BK102 := n2_; have GW102 := n3_; have GE102 := n4_; have NB101_102 := n5_; have NB102_101 := n6_; clear n0_ n1_ n2_ n3_ n4_ n5_ n6_; clear hb hbox hg; have hnb9 := NB101_102.out; have hnc9 := NB102_101.out; obtain ⟨hcz10_0, hcz10_1⟩ := cl2 (W := w8) BK101.out; obtain ⟨hfz10_0, hfz10_1⟩ := fr2 BK101.out) | ((with_reducible refine gate_callee (f := 34) rfl ?_); refine goesL_ (some 14) rfl rfl Try.func34 (by kernel_rfl) rfl #[.agg #[.int .i64 a0_0, .slice A0_1 l0_1.length c0_1]] rfl (by (try simp only [List.map_toArray, List.map_cons, List.map_nil]); first | done | rfl | (simp only [List.length_drop, List.length_take]; rfl)) ?_; (with_reducible refine (slabGood.calls a0_0 _ _ l0_1 true _ ?side1 ?side2 A4.out).mono ?_); (case side1 => repeat (first | exact (Kd.C_below HR0_1.out HB.out) | (with_reducible refine Kd.C_alloc ?_ _) | (with_reducible refine Kd.C_drewN ?_ _) | (with_reducible refine Kd.C_drew ?_))); (case side2 => exact HC0_1.out); rintro e w11 ⟨rfl, hb⟩; refine ⟨_, rfl, ?_⟩; have n0_ := Aside0.mk (blk_below (g := gb101) (o := .cells #[.int .i64 a0_0, .slice A0_1 l0_1.length c0_1] 24 (0, 0)) (by (with_reducible repeat (first | refine blk_drewN ?_ _ | refine blk_drew ?_ | refine blk_alloc ?_ _)); exact BK101.out) hb); have n1_ := Aside0.mk (blk_below (g := gb102) (o := .cells #[.int .i64 0, .slice none 0 0] 24 (0, 0)) (by (with_reducible repeat (first | refine blk_drewN ?_ _ | refine blk_drew ?_ | refine blk_alloc ?_ _)); exact BK102.out) hb); have n2_ := Aside0.mk (below_step (by repeat (first | (with_reducible first | exact HB.out | apply below_alloc | apply pw_below_drewN | apply below_drew1 | refine below_set ?_ GE101.out | refine below_set ?_ GE102.out) | exact HB.out)) hb); clear BK101; clear BK102; clear HB; have BK101 := n0_; have BK102 := n1_; have HB := n2_; clear n0_ n1_ n2_; (try clear hb); (try clear hb2); (try clear hk); (try clear hi); obtain ⟨hcz12_0, hcz12_1⟩ := cl2 (W := w11) BK101.out; obtain ⟨hfz12_0, hfz12_1⟩ := fr2 BK101.out) | ((with_reducible refine gate_callee (f := 113) rfl ?_); refine goesL_ (some 19) rfl rfl Try.func113 (by kernel_rfl) rfl #[.slice A0_1 l0_1.length c0_1] rfl (by (try simp only [List.map_toArray, List.map_cons, List.map_nil]); first | done | rfl | (simp only [List.length_drop, List.length_take]; rfl)) ?_; (with_reducible refine (slices_Clone.calls _ _ l0_1 t104 _ ?side1 ?side2 A6.out).mono ?_); (case side1 => repeat (first | exact (Kd.C_below HR0_1.out HB.out) | (with_reducible refine Kd.C_alloc ?_ _) | (with_reducible refine Kd.C_drewN ?_ _) | (with_reducible refine Kd.C_drew ?_))); (case side2 => exact HC0_1.out); rintro e w13 ⟨v105, rfl, ho0, hb⟩; refine ⟨_, rfl, ?_⟩; have n0_ := Aside0.mk (Kd.R_lower ho0 (below_size (by repeat (first | (with_reducible first | exact HB.out | apply below_alloc | apply pw_below_drewN | apply below_drew1 | refine below_set ?_ GE101.out | refine below_set ?_ GE102.out) | exact HB.out)))); have n1_ := Aside0.mk (blk_below (g := gb101) (o := .cells #[.int .i64 a0_0, .slice A0_1 l0_1.length c0_1] 24 (0, 0)) (by (with_reducible repeat (first | refine blk_drewN ?_ _ | refine blk_drew ?_ | refine blk_alloc ?_ _)); exact BK101.out) hb); have n2_ := Aside0.mk (blk_below (g := gb102) (o := .cells #[.int .i64 0, .slice none 0 0] 24 (0, 0)) (by (with_reducible repeat (first | refine blk_drewN ?_ _ | refine blk_drew ?_ | refine blk_alloc ?_ _)); exact BK102.out) hb); have n3_ := Aside0.mk (below_step (by repeat (first | (with_reducible first | exact HB.out | apply below_alloc | apply pw_below_drewN | apply below_drew1 | refine below_set ?_ GE101.out | refine below_set ?_ GE102.out) | exact HB.out)) hb); clear BK101; clear BK102; clear HB; have HO106 := n0_; have BK101 := n1_; have BK102 := n2_; have HB := n3_; clear n0_ n1_ n2_ n3_; (try clear hb); (try clear hb2); (try clear hk); (try clear hi); (try clear ho0); obtain ⟨Ao14, co14, eo14⟩ := Kd.R_slice HO106.out; subst eo14; obtain ⟨hcz15_0, hcz15_1⟩ := cl2 (W := w13) BK101.out; obtain ⟨hfz15_0, hfz15_1⟩ := fr2 BK101.out))
  go_loopg [23] k (fun kq v23 w' => ∃ (x23_1 : Int) (x102000_1 : Int) (x102001_1 : List (S33)) (x103000_1 : Int) (u102001 : Value), v23 = .int .i64 x23_1 ∧ Aside0 (patch_All.l0 kq a1 l2 (l2.length : Int) x23_1 x102000_1 x102001_1 = some (r1, r2, r3)) ∧ Aside0 (kq ≤ k) ∧ Aside0 (Kd.R k33 33 w' w.heap.size (fun _ => True) u102001 x102001_1) ∧ Aside0 (w'.heap[gb101]? = some (.cells #[.int .i64 x102000_1, u102001] 24 (0, 0))) ∧ Aside0 (w'.heap[gb102]? = some (.cells #[.int .i64 x103000_1, (.slice none 0 0)] 24 (0, 0))) ∧ Aside0 (Below w.heap.size w w'))
  case atStart => exact ⟨(0), (a0_0), (t104), (0), (.slice Ao14 t104.length co14), (by first | rfl | (simp; done) | (simp [*]; done)), H', ⟨Nat.le_refl _⟩, ⟨by (with_reducible repeat (first | apply Kd.R_alloc | apply Kd.R_drewN | apply Kd.R_drew)); exact Kd.R_mono (Kd.R_far (p := ⟨gb101, 1, none⟩) (Kd.R_types HO106.out BK101.out (by decide)) (fun _ hk => hk.2) (.slice Ao14 t104.length co14)) (fun _ hk => trivial)⟩, ⟨by (with_reducible repeat (first | refine blk_drewN ?_ _ | refine blk_drew ?_ | refine blk_alloc ?_ _)); refine blk_put (cs := #[.int .i64 a0_0, .slice A0_1 l0_1.length c0_1]) ?_ 1 _ rfl; (with_reducible repeat (first | refine blk_drewN ?_ _ | refine blk_drew ?_ | refine blk_alloc ?_ _)); exact BK101.out⟩, ⟨by (with_reducible repeat (first | refine blk_drewN ?_ _ | refine blk_drew ?_ | refine blk_alloc ?_ _)); refine blk_far ?_ NB102_101.out _; (with_reducible repeat (first | refine blk_drewN ?_ _ | refine blk_drew ?_ | refine blk_alloc ?_ _)); exact BK102.out⟩, ⟨by repeat (first | (with_reducible first | exact HB.out | apply below_alloc | apply pw_below_drewN | apply below_drew1 | refine below_set ?_ GE101.out | refine below_set ?_ GE102.out) | exact HB.out)⟩⟩
  case round =>
   clear H'
   try clear c1
   try clear c2
   try clear p2
   try clear c3
   try clear c5
   try clear c7
   try clear c9
   try clear c11
   try clear hcz10_0
   try clear hcz10_1
   try clear hcz12_0
   try clear hcz12_1
   try clear hcz15_0
   try clear hcz15_1
   try clear hfz10_0
   try clear hfz10_1
   try clear hfz12_0
   try clear hfz12_1
   try clear hfz15_0
   try clear hfz15_1
   obtain ⟨x23_1, x102000_1, x102001_1, x103000_1, u102001, rfl, HA, HK1, HO_102001, BK101, BK102, HB⟩ := hrel
   cases gk with
   | zero => exact absurd HA.out (by simp [patch_All.l0])
   | succ k1 =>
    have H := HA.out
    clear HA
    simp only [patch_All.l0] at H
    by_cases c16 : x23_1 < (l2.length : Int)
    ·rw [if_pos c16] at H
     have c16b0 : decide (x23_1 < (l2.length : Int)) = true := decide_eq_true c16
     clear c16
     by_cases c17 : 0 ≤ x23_1
     ·rw [if_pos c17] at H
      have c17b0 : decide (0 ≤ x23_1) = true := decide_eq_true c17
      clear c17
      by_cases c18 : x23_1 < (l2.length : Int)
      ·rw [if_pos c18] at H
       have c18b0 : decide (x23_1 < (l2.length : Int)) = true := decide_eq_true c18
       clear c18
       have HC19 := Aside0.mk H
       clear H
       have p107 : 0 ≤ (x23_1 : Int) := of_decide_eq_true (by first | (with_reducible assumption) | assumption)
       have q107 : x23_1 < (l2.length : Int) := of_decide_eq_true (by first | (with_reducible assumption) | assumption)
       obtain ⟨ad107, e107, hx107_0, hx107_1, hx107_2, hx107_3, hx107_4, hx107_5, hx107_6, hx107_7, hx107_8, hx107_9, hx107_10, hx107_11, hx107_12⟩ := at_T65 HR2.out x23_1 p107 q107
       cases e107
       replace hx107_0 := (HB.out.cell (World.block_lt_of_cell? w _ hx107_0)).trans hx107_0
       replace hx107_1 := (HB.out.cell (World.block_lt_of_cell? w _ hx107_1)).trans hx107_1
       replace hx107_2 := (HB.out.cell (World.block_lt_of_cell? w _ hx107_2)).trans hx107_2
       replace hx107_3 := (HB.out.cell (World.block_lt_of_cell? w _ hx107_3)).trans hx107_3
       replace hx107_4 := (HB.out.cell (World.block_lt_of_cell? w _ hx107_4)).trans hx107_4
       replace hx107_5 := (HB.out.cell (World.block_lt_of_cell? w _ hx107_5)).trans hx107_5
       replace hx107_6 := (HB.out.cell (World.block_lt_of_cell? w _ hx107_6)).trans hx107_6
       replace hx107_7 := (HB.out.cell (World.block_lt_of_cell? w _ hx107_7)).trans hx107_7
       replace hx107_8 := (HB.out.cell (World.block_lt_of_cell? w _ hx107_8)).trans hx107_8
       replace hx107_9 := (HB.out.cell (World.block_lt_of_cell? w _ hx107_9)).trans hx107_9
       replace hx107_10 := (HB.out.cell (World.block_lt_of_cell? w _ hx107_10)).trans hx107_10
       replace hx107_11 := (HB.out.cell (World.block_lt_of_cell? w _ hx107_11)).trans hx107_11
       replace hx107_12 := (HB.out.cell (World.block_lt_of_cell? w _ hx107_12)).trans hx107_12
       replace p107 := eq_true p107
       replace q107 := eq_true q107
       go_upto_region 7 with (first | ((with_reducible refine gate_dst (N := 9) rfl ?_); refine box_event ?hg (N := 9) ?hd (cs := #[.int .i64 0, .int .i64 0, .int .i64 0, .int .i64 0, .int .i64 0, .int .i64 0, .int .i64 0, .int .i64 0, .bool false, .string (⟨#[]⟩ : ByteArray), .bool false, .string (⟨#[]⟩ : ByteArray), .int .i64 0]) (t := 65) ?hr ?_; (case hd => rfl); (case hg => rfl); (case hr => first | (go_simp; done) | (go_simp; rfl)); intro gb108 hg w20 hbox hb; have n0_ := Aside0.mk (Kd.R_below (by (with_reducible repeat (first | apply Kd.R_alloc | apply Kd.R_drewN | apply Kd.R_drew)); exact HO_102001.out) hb); have n1_ := Aside0.mk (blk_below (g := gb101) (o := .cells #[.int .i64 x102000_1, u102001] 24 (0, 0)) (by (with_reducible repeat (first | refine blk_drewN ?_ _ | refine blk_drew ?_ | refine blk_alloc ?_ _)); exact BK101.out) hb); have n2_ := Aside0.mk (blk_below (g := gb102) (o := .cells #[.int .i64 x103000_1, .slice none 0 0] 24 (0, 0)) (by (with_reducible repeat (first | refine blk_drewN ?_ _ | refine blk_drew ?_ | refine blk_alloc ?_ _)); exact BK102.out) hb); have n3_ := Aside0.mk (below_step (by repeat (first | (with_reducible first | exact HB.out | apply below_alloc | apply pw_below_drewN | apply below_drew1 | refine below_set ?_ GE101.out | refine below_set ?_ GE102.out) | exact HB.out)) hb); have n4_ := Aside0.mk (hbox); have n5_ := Aside0.mk ((by rw [hg]; exact (below_size (by repeat (first | (with_reducible first | exact HB.out | apply below_alloc | apply pw_below_drewN | apply below_drew1 | refine below_set ?_ GE101.out | refine below_set ?_ GE102.out) | exact HB.out))) : w.heap.size ≤ gb108)); have n6_ := Aside0.mk ((by rw [hg]; exact (below_size (by repeat (first | (with_reducible first | exact HB.out | apply below_alloc | apply pw_below_drewN | apply below_drew1 | refine below_set ?_ GE101.out | refine below_set ?_ GE102.out) | exact HB.out))) : w.heap.size ≤ gb108)); have n7_ := Aside0.mk ((by rw [hg]; exact Nat.ne_of_lt (blk_lt (g := gb101) (o := .cells #[.int .i64 x102000_1, u102001] 24 (0, 0)) (by (with_reducible repeat (first | refine blk_drewN ?_ _ | refine blk_drew ?_ | refine blk_alloc ?_ _)); exact BK101.out)) : gb101 ≠ gb108)); have n8_ := Aside0.mk ((by rw [hg]; exact Nat.ne_of_gt (blk_lt (g := gb101) (o := .cells #[.int .i64 x102000_1, u102001] 24 (0, 0)) (by (with_reducible repeat (first | refine blk_drewN ?_ _ | refine blk_drew ?_ | refine blk_alloc ?_ _)); exact BK101.out)) : gb108 ≠ gb101)); have n9_ := Aside0.mk ((by rw [hg]; exact Nat.ne_of_lt (blk_lt (g := gb102) (o := .cells #[.int .i64 x103000_1, .slice none 0 0] 24 (0, 0)) (by (with_reducible repeat (first | refine blk_drewN ?_ _ | refine blk_drew ?_ | refine blk_alloc ?_ _)); exact BK102.out)) : gb102 ≠ gb108)); have n10_ := Aside0.mk ((by rw [hg]; exact Nat.ne_of_gt (blk_lt (g := gb102) (o := .cells #[.int .i64 x103000_1, .slice none 0 0] 24 (0, 0)) (by (with_reducible repeat (first | refine blk_drewN ?_ _ | refine blk_drew ?_ | refine blk_alloc ?_ _)); exact BK102.out)) : gb108 ≠ gb102)); clear HO_102001; clear BK101; clear BK102; clear HB; have HO_102001 := n0_; have BK101 := n1_; have BK102 := n2_; have HB := n3_; have BK108 := n4_; have GW108 := n5_; have GE108 := n6_; have NB101_108 := n7_; have NB108_101 := n8_; have NB102_108 := n9_; have NB108_102 := n10_; clear n0_ n1_ n2_ n3_ n4_ n5_ n6_ n7_ n8_ n9_ n10_; clear hb hbox hg; have hnb21 := NB108_101.out; have hnc21 := NB101_108.out; have hnb22 := NB108_102.out; have hnc22 := NB102_108.out; obtain ⟨hcz23_0, hcz23_1, hcz23_2, hcz23_3, hcz23_4, hcz23_5, hcz23_6, hcz23_7, hcz23_8, hcz23_9, hcz23_10, hcz23_11, hcz23_12⟩ := cl13 (W := w20) BK108.out; obtain ⟨hfz23_0, hfz23_1, hfz23_2, hfz23_3, hfz23_4, hfz23_5, hfz23_6, hfz23_7, hfz23_8, hfz23_9, hfz23_10, hfz23_11, hfz23_12⟩ := fr13 BK108.out))
       (try simp only [Act.put, List.setIfInBounds_toArray, List.set_cons_zero, List.set_cons_succ])
       go_cut [35] (fun v35 wc => ∃ (kq : Nat) (x35_18 : Bool), v35 = .bool x35_18 ∧ Aside0 (patch_All.j1 kq a1 l2 (l2.length : Int) x23_1 x35_18 x102000_1 x102001_1 ((rd_T65 l2 x23_1).f0) ((rd_T65 l2 x23_1).f1.f0) ((rd_T65 l2 x23_1).f1.f1) ((rd_T65 l2 x23_1).f1.f2) ((rd_T65 l2 x23_1).f2) ((rd_T65 l2 x23_1).f3) ((rd_T65 l2 x23_1).f4) ((rd_T65 l2 x23_1).f5) ((rd_T65 l2 x23_1).f6.f0) ((rd_T65 l2 x23_1).f6.f1) ((rd_T65 l2 x23_1).f7.f0) ((rd_T65 l2 x23_1).f7.f1) ((rd_T65 l2 x23_1).f8) = some (r1, r2, r3)) ∧ Aside0 (kq ≤ k1) ∧ Aside0 (Kd.R k33 33 wc w.heap.size (fun _ => True) u102001 x102001_1) ∧ Aside0 (wc.heap[gb101]? = some (.cells #[.int .i64 x102000_1, u102001] 24 (0, 0))) ∧ Aside0 (wc.heap[gb102]? = some (.cells #[.int .i64 x103000_1, (.slice none 0 0)] 24 (0, 0))) ∧ Aside0 (wc.heap[gb108]? = some (.cells #[.int .i64 ((rd_T65 l2 x23_1).f0), .int .i64 ((rd_T65 l2 x23_1).f1.f0), .int .i64 ((rd_T65 l2 x23_1).f1.f1), .int .i64 ((rd_T65 l2 x23_1).f1.f2), .int .i64 ((rd_T65 l2 x23_1).f2), .int .i64 ((rd_T65 l2 x23_1).f3), .int .i64 ((rd_T65 l2 x23_1).f4), .int .i64 ((rd_T65 l2 x23_1).f5), .bool ((rd_T65 l2 x23_1).f6.f0), .string ((rd_T65 l2 x23_1).f6.f1), .bool ((rd_T65 l2 x23_1).f7.f0), .string ((rd_T65 l2 x23_1).f7.f1), .int .i64 ((rd_T65 l2 x23_1).f8)] 65 (0, 0))) ∧ Aside0 (Below w.heap.size w wc))
       case first =>
        have H := HC19.out
        clear HC19
        replace H := Option.bind_eq_some_iff.mp H
        obtain ⟨t109, A240, H⟩ := H
        replace H : (if t109 = true then (patch_All.j1 k1 a1 l2 (l2.length : Int) x23_1 (((rd_T65 l2 x23_1).f4) != a1) x102000_1 x102001_1 ((rd_T65 l2 x23_1).f0) ((rd_T65 l2 x23_1).f1.f0) ((rd_T65 l2 x23_1).f1.f1) ((rd_T65 l2 x23_1).f1.f2) ((rd_T65 l2 x23_1).f2) ((rd_T65 l2 x23_1).f3) ((rd_T65 l2 x23_1).f4) ((rd_T65 l2 x23_1).f5) ((rd_T65 l2 x23_1).f6.f0) ((rd_T65 l2 x23_1).f6.f1) ((rd_T65 l2 x23_1).f7.f0) ((rd_T65 l2 x23_1).f7.f1) ((rd_T65 l2 x23_1).f8)) else (patch_All.j1 k1 a1 l2 (l2.length : Int) x23_1 true x102000_1 x102001_1 ((rd_T65 l2 x23_1).f0) ((rd_T65 l2 x23_1).f1.f0) ((rd_T65 l2 x23_1).f1.f1) ((rd_T65 l2 x23_1).f1.f2) ((rd_T65 l2 x23_1).f2) ((rd_T65 l2 x23_1).f3) ((rd_T65 l2 x23_1).f4) ((rd_T65 l2 x23_1).f5) ((rd_T65 l2 x23_1).f6.f0) ((rd_T65 l2 x23_1).f6.f1) ((rd_T65 l2 x23_1).f7.f0) ((rd_T65 l2 x23_1).f7.f1) ((rd_T65 l2 x23_1).f8))) = some (r1, r2, r3) := H
        have A24 := Aside0.mk A240
        clear A240
        by_cases c25 : t109 = true
        ·subst c25
         have H1 : (patch_All.j1 k1 a1 l2 (l2.length : Int) x23_1 (((rd_T65 l2 x23_1).f4) != a1) x102000_1 x102001_1 ((rd_T65 l2 x23_1).f0) ((rd_T65 l2 x23_1).f1.f0) ((rd_T65 l2 x23_1).f1.f1) ((rd_T65 l2 x23_1).f1.f2) ((rd_T65 l2 x23_1).f2) ((rd_T65 l2 x23_1).f3) ((rd_T65 l2 x23_1).f4) ((rd_T65 l2 x23_1).f5) ((rd_T65 l2 x23_1).f6.f0) ((rd_T65 l2 x23_1).f6.f1) ((rd_T65 l2 x23_1).f7.f0) ((rd_T65 l2 x23_1).f7.f1) ((rd_T65 l2 x23_1).f8)) = some (r1, r2, r3) := by rw [if_pos rfl] at H; exact H
         clear H
         have H := H1
         clear H1
         have H' := Aside0.mk H
         clear H
         have hnb26 := NB108_101.out
         have hnc26 := NB101_108.out
         have hnb27 := NB108_102.out
         have hnc27 := NB102_108.out
         obtain ⟨hcz28_0, hcz28_1, hcz28_2, hcz28_3, hcz28_4, hcz28_5, hcz28_6, hcz28_7, hcz28_8, hcz28_9, hcz28_10, hcz28_11, hcz28_12⟩ := cl13 (W := w20) BK108.out
         obtain ⟨hfz28_0, hfz28_1, hfz28_2, hfz28_3, hfz28_4, hfz28_5, hfz28_6, hfz28_7, hfz28_8, hfz28_9, hfz28_10, hfz28_11, hfz28_12⟩ := fr13 BK108.out
         go_wp2_with (first | ((with_reducible refine gate_callee (f := 112) rfl ?_); refine goesL_ (some 28) rfl rfl Try.func112 (by kernel_rfl) rfl #[.agg #[.int .i64 ((rd_T65 l2 x23_1).f0), .int .i64 ((rd_T65 l2 x23_1).f1.f0), .int .i64 ((rd_T65 l2 x23_1).f1.f1), .int .i64 ((rd_T65 l2 x23_1).f1.f2), .int .i64 ((rd_T65 l2 x23_1).f2), .int .i64 ((rd_T65 l2 x23_1).f3), .int .i64 ((rd_T65 l2 x23_1).f4), .int .i64 ((rd_T65 l2 x23_1).f5), .bool ((rd_T65 l2 x23_1).f6.f0), .string ((rd_T65 l2 x23_1).f6.f1), .bool ((rd_T65 l2 x23_1).f7.f0), .string ((rd_T65 l2 x23_1).f7.f1), .int .i64 ((rd_T65 l2 x23_1).f8)]] rfl (by (try simp only [List.map_toArray, List.map_cons, List.map_nil]); first | done | rfl | (simp only [List.length_drop, List.length_take]; rfl)) ?_; (with_reducible refine (patch_changes.calls ((rd_T65 l2 x23_1).f0) ((rd_T65 l2 x23_1).f1.f0) ((rd_T65 l2 x23_1).f1.f1) ((rd_T65 l2 x23_1).f1.f2) ((rd_T65 l2 x23_1).f2) ((rd_T65 l2 x23_1).f3) ((rd_T65 l2 x23_1).f4) ((rd_T65 l2 x23_1).f5) ((rd_T65 l2 x23_1).f6.f0) ((rd_T65 l2 x23_1).f6.f1) ((rd_T65 l2 x23_1).f7.f0) ((rd_T65 l2 x23_1).f7.f1) ((rd_T65 l2 x23_1).f8) true _ A24.out).mono ?_); rintro e w29 ⟨rfl, hb⟩; refine ⟨_, rfl, ?_⟩; have n0_ := Aside0.mk (Kd.R_below (by (with_reducible repeat (first | apply Kd.R_alloc | apply Kd.R_drewN | apply Kd.R_drew)); exact (Kd.R_mono (Kd.R_far (p := ⟨gb108, 12, none⟩) (Kd.R_far (p := ⟨gb108, 11, none⟩) (Kd.R_far (p := ⟨gb108, 10, none⟩) (Kd.R_far (p := ⟨gb108, 9, none⟩) (Kd.R_far (p := ⟨gb108, 8, none⟩) (Kd.R_far (p := ⟨gb108, 7, none⟩) (Kd.R_far (p := ⟨gb108, 6, none⟩) (Kd.R_far (p := ⟨gb108, 5, none⟩) (Kd.R_far (p := ⟨gb108, 4, none⟩) (Kd.R_far (p := ⟨gb108, 3, none⟩) (Kd.R_far (p := ⟨gb108, 2, none⟩) (Kd.R_far (p := ⟨gb108, 1, none⟩) (Kd.R_far (p := ⟨gb108, 0, none⟩) (Kd.R_types HO_102001.out BK108.out (by decide)) (fun _ hk => hk.2) (.int .i64 ((rd_T65 l2 x23_1).f0))) (fun _ hk => hk.2) (.int .i64 ((rd_T65 l2 x23_1).f1.f0))) (fun _ hk => hk.2) (.int .i64 ((rd_T65 l2 x23_1).f1.f1))) (fun _ hk => hk.2) (.int .i64 ((rd_T65 l2 x23_1).f1.f2))) (fun _ hk => hk.2) (.int .i64 ((rd_T65 l2 x23_1).f2))) (fun _ hk => hk.2) (.int .i64 ((rd_T65 l2 x23_1).f3))) (fun _ hk => hk.2) (.int .i64 ((rd_T65 l2 x23_1).f4))) (fun _ hk => hk.2) (.int .i64 ((rd_T65 l2 x23_1).f5))) (fun _ hk => hk.2) (.bool ((rd_T65 l2 x23_1).f6.f0))) (fun _ hk => hk.2) (.string ((rd_T65 l2 x23_1).f6.f1))) (fun _ hk => hk.2) (.bool ((rd_T65 l2 x23_1).f7.f0))) (fun _ hk => hk.2) (.string ((rd_T65 l2 x23_1).f7.f1))) (fun _ hk => hk.2) (.int .i64 ((rd_T65 l2 x23_1).f8))) (fun _ h_ => h_.1))) hb); have n1_ := Aside0.mk (blk_below (g := gb101) (o := .cells #[.int .i64 x102000_1, u102001] 24 (0, 0)) (by (with_reducible repeat (first | refine blk_drewN ?_ _ | refine blk_drew ?_ | refine blk_alloc ?_ _)); refine blk_far ?_ NB101_108.out _; refine blk_far ?_ NB101_108.out _; refine blk_far ?_ NB101_108.out _; refine blk_far ?_ NB101_108.out _; refine blk_far ?_ NB101_108.out _; refine blk_far ?_ NB101_108.out _; refine blk_far ?_ NB101_108.out _; refine blk_far ?_ NB101_108.out _; refine blk_far ?_ NB101_108.out _; refine blk_far ?_ NB101_108.out _; refine blk_far ?_ NB101_108.out _; refine blk_far ?_ NB101_108.out _; refine blk_far ?_ NB101_108.out _; (with_reducible repeat (first | refine blk_drewN ?_ _ | refine blk_drew ?_ | refine blk_alloc ?_ _)); exact BK101.out) hb); have n2_ := Aside0.mk (blk_below (g := gb102) (o := .cells #[.int .i64 x103000_1, .slice none 0 0] 24 (0, 0)) (by (with_reducible repeat (first | refine blk_drewN ?_ _ | refine blk_drew ?_ | refine blk_alloc ?_ _)); refine blk_far ?_ NB102_108.out _; refine blk_far ?_ NB102_108.out _; refine blk_far ?_ NB102_108.out _; refine blk_far ?_ NB102_108.out _; refine blk_far ?_ NB102_108.out _; refine blk_far ?_ NB102_108.out _; refine blk_far ?_ NB102_108.out _; refine blk_far ?_ NB102_108.out _; refine blk_far ?_ NB102_108.out _; refine blk_far ?_ NB102_108.out _; refine blk_far ?_ NB102_108.out _; refine blk_far ?_ NB102_108.out _; refine blk_far ?_ NB102_108.out _; (with_reducible repeat (first | refine blk_drewN ?_ _ | refine blk_drew ?_ | refine blk_alloc ?_ _)); exact BK102.out) hb); have n3_ := Aside0.mk (blk_below (g := gb108) (o := .cells #[.int .i64 ((rd_T65 l2 x23_1).f0), .int .i64 ((rd_T65 l2 x23_1).f1.f0), .int .i64 ((rd_T65 l2 x23_1).f1.f1), .int .i64 ((rd_T65 l2 x23_1).f1.f2), .int .i64 ((rd_T65 l2 x23_1).f2), .int .i64 ((rd_T65 l2 x23_1).f3), .int .i64 ((rd_T65 l2 x23_1).f4), .int .i64 ((rd_T65 l2 x23_1).f5), .bool ((rd_T65 l2 x23_1).f6.f0), .string ((rd_T65 l2 x23_1).f6.f1), .bool ((rd_T65 l2 x23_1).f7.f0), .string ((rd_T65 l2 x23_1).f7.f1), .int .i64 ((rd_T65 l2 x23_1).f8)] 65 (0, 0)) (by (with_reducible repeat (first | refine blk_drewN ?_ _ | refine blk_drew ?_ | refine blk_alloc ?_ _)); refine blk_put (cs := #[.int .i64 ((rd_T65 l2 x23_1).f0), .int .i64 ((rd_T65 l2 x23_1).f1.f0), .int .i64 ((rd_T65 l2 x23_1).f1.f1), .int .i64 ((rd_T65 l2 x23_1).f1.f2), .int .i64 ((rd_T65 l2 x23_1).f2), .int .i64 ((rd_T65 l2 x23_1).f3), .int .i64 ((rd_T65 l2 x23_1).f4), .int .i64 ((rd_T65 l2 x23_1).f5), .bool ((rd_T65 l2 x23_1).f6.f0), .string ((rd_T65 l2 x23_1).f6.f1), .bool ((rd_T65 l2 x23_1).f7.f0), .string ((rd_T65 l2 x23_1).f7.f1), .int .i64 0]) ?_ 12 _ rfl; refine blk_put (cs := #[.int .i64 ((rd_T65 l2 x23_1).f0), .int .i64 ((rd_T65 l2 x23_1).f1.f0), .int .i64 ((rd_T65 l2 x23_1).f1.f1), .int .i64 ((rd_T65 l2 x23_1).f1.f2), .int .i64 ((rd_T65 l2 x23_1).f2), .int .i64 ((rd_T65 l2 x23_1).f3), .int .i64 ((rd_T65 l2 x23_1).f4), .int .i64 ((rd_T65 l2 x23_1).f5), .bool ((rd_T65 l2 x23_1).f6.f0), .string ((rd_T65 l2 x23_1).f6.f1), .bool ((rd_T65 l2 x23_1).f7.f0), .string (⟨#[]⟩ : ByteArray), .int .i64 0]) ?_ 11 _ rfl; refine blk_put (cs := #[.int .i64 ((rd_T65 l2 x23_1).f0), .int .i64 ((rd_T65 l2 x23_1).f1.f0), .int .i64 ((rd_T65 l2 x23_1).f1.f1), .int .i64 ((rd_T65 l2 x23_1).f1.f2), .int .i64 ((rd_T65 l2 x23_1).f2), .int .i64 ((rd_T65 l2 x23_1).f3), .int .i64 ((rd_T65 l2 x23_1).f4), .int .i64 ((rd_T65 l2 x23_1).f5), .bool ((rd_T65 l2 x23_1).f6.f0), .string ((rd_T65 l2 x23_1).f6.f1), .bool false, .string (⟨#[]⟩ : ByteArray), .int .i64 0]) ?_ 10 _ rfl; refine blk_put (cs := #[.int .i64 ((rd_T65 l2 x23_1).f0), .int .i64 ((rd_T65 l2 x23_1).f1.f0), .int .i64 ((rd_T65 l2 x23_1).f1.f1), .int .i64 ((rd_T65 l2 x23_1).f1.f2), .int .i64 ((rd_T65 l2 x23_1).f2), .int .i64 ((rd_T65 l2 x23_1).f3), .int .i64 ((rd_T65 l2 x23_1).f4), .int .i64 ((rd_T65 l2 x23_1).f5), .bool ((rd_T65 l2 x23_1).f6.f0), .string (⟨#[]⟩ : ByteArray), .bool false, .string (⟨#[]⟩ : ByteArray), .int .i64 0]) ?_ 9 _ rfl; refine blk_put (cs := #[.int .i64 ((rd_T65 l2 x23_1).f0), .int .i64 ((rd_T65 l2 x23_1).f1.f0), .int .i64 ((rd_T65 l2 x23_1).f1.f1), .int .i64 ((rd_T65 l2 x23_1).f1.f2), .int .i64 ((rd_T65 l2 x23_1).f2), .int .i64 ((rd_T65 l2 x23_1).f3), .int .i64 ((rd_T65 l2 x23_1).f4), .int .i64 ((rd_T65 l2 x23_1).f5), .bool false, .string (⟨#[]⟩ : ByteArray), .bool false, .string (⟨#[]⟩ : ByteArray), .int .i64 0]) ?_ 8 _ rfl; refine blk_put (cs := #[.int .i64 ((rd_T65 l2 x23_1).f0), .int .i64 ((rd_T65 l2 x23_1).f1.f0), .int .i64 ((rd_T65 l2 x23_1).f1.f1), .int .i64 ((rd_T65 l2 x23_1).f1.f2), .int .i64 ((rd_T65 l2 x23_1).f2), .int .i64 ((rd_T65 l2 x23_1).f3), .int .i64 ((rd_T65 l2 x23_1).f4), .int .i64 0, .bool false, .string (⟨#[]⟩ : ByteArray), .bool false, .string (⟨#[]⟩ : ByteArray), .int .i64 0]) ?_ 7 _ rfl; refine blk_put (cs := #[.int .i64 ((rd_T65 l2 x23_1).f0), .int .i64 ((rd_T65 l2 x23_1).f1.f0), .int .i64 ((rd_T65 l2 x23_1).f1.f1), .int .i64 ((rd_T65 l2 x23_1).f1.f2), .int .i64 ((rd_T65 l2 x23_1).f2), .int .i64 ((rd_T65 l2 x23_1).f3), .int .i64 0, .int .i64 0, .bool false, .string (⟨#[]⟩ : ByteArray), .bool false, .string (⟨#[]⟩ : ByteArray), .int .i64 0]) ?_ 6 _ rfl; refine blk_put (cs := #[.int .i64 ((rd_T65 l2 x23_1).f0), .int .i64 ((rd_T65 l2 x23_1).f1.f0), .int .i64 ((rd_T65 l2 x23_1).f1.f1), .int .i64 ((rd_T65 l2 x23_1).f1.f2), .int .i64 ((rd_T65 l2 x23_1).f2), .int .i64 0, .int .i64 0, .int .i64 0, .bool false, .string (⟨#[]⟩ : ByteArray), .bool false, .string (⟨#[]⟩ : ByteArray), .int .i64 0]) ?_ 5 _ rfl; refine blk_put (cs := #[.int .i64 ((rd_T65 l2 x23_1).f0), .int .i64 ((rd_T65 l2 x23_1).f1.f0), .int .i64 ((rd_T65 l2 x23_1).f1.f1), .int .i64 ((rd_T65 l2 x23_1).f1.f2), .int .i64 0, .int .i64 0, .int .i64 0, .int .i64 0, .bool false, .string (⟨#[]⟩ : ByteArray), .bool false, .string (⟨#[]⟩ : ByteArray), .int .i64 0]) ?_ 4 _ rfl; refine blk_put (cs := #[.int .i64 ((rd_T65 l2 x23_1).f0), .int .i64 ((rd_T65 l2 x23_1).f1.f0), .int .i64 ((rd_T65 l2 x23_1).f1.f1), .int .i64 0, .int .i64 0, .int .i64 0, .int .i64 0, .int .i64 0, .bool false, .string (⟨#[]⟩ : ByteArray), .bool false, .string (⟨#[]⟩ : ByteArray), .int .i64 0]) ?_ 3 _ rfl; refine blk_put (cs := #[.int .i64 ((rd_T65 l2 x23_1).f0), .int .i64 ((rd_T65 l2 x23_1).f1.f0), .int .i64 0, .int .i64 0, .int .i64 0, .int .i64 0, .int .i64 0, .int .i64 0, .bool false, .string (⟨#[]⟩ : ByteArray), .bool false, .string (⟨#[]⟩ : ByteArray), .int .i64 0]) ?_ 2 _ rfl; refine blk_put (cs := #[.int .i64 ((rd_T65 l2 x23_1).f0), .int .i64 0, .int .i64 0, .int .i64 0, .int .i64 0, .int .i64 0, .int .i64 0, .int .i64 0, .bool false, .string (⟨#[]⟩ : ByteArray), .bool false, .string (⟨#[]⟩ : ByteArray), .int .i64 0]) ?_ 1 _ rfl; refine blk_put (cs := #[.int .i64 0, .int .i64 0, .int .i64 0, .int .i64 0, .int .i64 0, .int .i64 0, .int .i64 0, .int .i64 0, .bool false, .string (⟨#[]⟩ : ByteArray), .bool false, .string (⟨#[]⟩ : ByteArray), .int .i64 0]) ?_ 0 _ rfl; (with_reducible repeat (first | refine blk_drewN ?_ _ | refine blk_drew ?_ | refine blk_alloc ?_ _)); exact BK108.out) hb); have n4_ := Aside0.mk (below_step (by repeat (first | (with_reducible first | exact HB.out | apply below_alloc | apply pw_below_drewN | apply below_drew1 | refine below_set ?_ GE101.out | refine below_set ?_ GE102.out | refine below_set ?_ GE108.out) | exact HB.out)) hb); clear HO_102001; clear BK101; clear BK102; clear BK108; clear HB; have HO_102001 := n0_; have BK101 := n1_; have BK102 := n2_; have BK108 := n3_; have HB := n4_; clear n0_ n1_ n2_ n3_ n4_; (try clear hb); (try clear hb2); (try clear hk); (try clear hi); obtain ⟨hcz30_0, hcz30_1, hcz30_2, hcz30_3, hcz30_4, hcz30_5, hcz30_6, hcz30_7, hcz30_8, hcz30_9, hcz30_10, hcz30_11, hcz30_12⟩ := cl13 (W := w29) BK108.out; obtain ⟨hfz30_0, hfz30_1, hfz30_2, hfz30_3, hfz30_4, hfz30_5, hfz30_6, hfz30_7, hfz30_8, hfz30_9, hfz30_10, hfz30_11, hfz30_12⟩ := fr13 BK108.out))
         go_meet
         case rel => exact ⟨_, ((((rd_T65 l2 x23_1).f4) != a1)), (by first | rfl | (simp; done) | (simp [*]; done)), H', ⟨by have := HK1.out; first | omega | exact Nat.le_refl _⟩, ⟨by (with_reducible repeat (first | apply Kd.R_alloc | apply Kd.R_drewN | apply Kd.R_drew)); exact HO_102001.out⟩, ⟨by (with_reducible repeat (first | refine blk_drewN ?_ _ | refine blk_drew ?_ | refine blk_alloc ?_ _)); exact BK101.out⟩, ⟨by (with_reducible repeat (first | refine blk_drewN ?_ _ | refine blk_drew ?_ | refine blk_alloc ?_ _)); exact BK102.out⟩, ⟨by (with_reducible repeat (first | refine blk_drewN ?_ _ | refine blk_drew ?_ | refine blk_alloc ?_ _)); exact BK108.out⟩, ⟨by repeat (first | (with_reducible first | exact HB.out | apply below_alloc | apply pw_below_drewN | apply below_drew1 | refine below_set ?_ GE101.out | refine below_set ?_ GE102.out | refine below_set ?_ GE108.out) | exact HB.out)⟩⟩
        ·replace c25 := Bool.eq_false_iff.mpr c25
         subst c25
         have H1 : (patch_All.j1 k1 a1 l2 (l2.length : Int) x23_1 true x102000_1 x102001_1 ((rd_T65 l2 x23_1).f0) ((rd_T65 l2 x23_1).f1.f0) ((rd_T65 l2 x23_1).f1.f1) ((rd_T65 l2 x23_1).f1.f2) ((rd_T65 l2 x23_1).f2) ((rd_T65 l2 x23_1).f3) ((rd_T65 l2 x23_1).f4) ((rd_T65 l2 x23_1).f5) ((rd_T65 l2 x23_1).f6.f0) ((rd_T65 l2 x23_1).f6.f1) ((rd_T65 l2 x23_1).f7.f0) ((rd_T65 l2 x23_1).f7.f1) ((rd_T65 l2 x23_1).f8)) = some (r1, r2, r3) := by rw [if_neg (show ¬ (false = true) by decide)] at H; exact H
         clear H
         have H := H1
         clear H1
         have H' := Aside0.mk H
         clear H
         have hnb31 := NB108_101.out
         have hnc31 := NB101_108.out
         have hnb32 := NB108_102.out
         have hnc32 := NB102_108.out
         obtain ⟨hcz33_0, hcz33_1, hcz33_2, hcz33_3, hcz33_4, hcz33_5, hcz33_6, hcz33_7, hcz33_8, hcz33_9, hcz33_10, hcz33_11, hcz33_12⟩ := cl13 (W := w20) BK108.out
         obtain ⟨hfz33_0, hfz33_1, hfz33_2, hfz33_3, hfz33_4, hfz33_5, hfz33_6, hfz33_7, hfz33_8, hfz33_9, hfz33_10, hfz33_11, hfz33_12⟩ := fr13 BK108.out
         go_wp2_with (first | ((with_reducible refine gate_callee (f := 112) rfl ?_); refine goesL_ (some 28) rfl rfl Try.func112 (by kernel_rfl) rfl #[.agg #[.int .i64 ((rd_T65 l2 x23_1).f0), .int .i64 ((rd_T65 l2 x23_1).f1.f0), .int .i64 ((rd_T65 l2 x23_1).f1.f1), .int .i64 ((rd_T65 l2 x23_1).f1.f2), .int .i64 ((rd_T65 l2 x23_1).f2), .int .i64 ((rd_T65 l2 x23_1).f3), .int .i64 ((rd_T65 l2 x23_1).f4), .int .i64 ((rd_T65 l2 x23_1).f5), .bool ((rd_T65 l2 x23_1).f6.f0), .string ((rd_T65 l2 x23_1).f6.f1), .bool ((rd_T65 l2 x23_1).f7.f0), .string ((rd_T65 l2 x23_1).f7.f1), .int .i64 ((rd_T65 l2 x23_1).f8)]] rfl (by (try simp only [List.map_toArray, List.map_cons, List.map_nil]); first | done | rfl | (simp only [List.length_drop, List.length_take]; rfl)) ?_; (with_reducible refine (patch_changes.calls ((rd_T65 l2 x23_1).f0) ((rd_T65 l2 x23_1).f1.f0) ((rd_T65 l2 x23_1).f1.f1) ((rd_T65 l2 x23_1).f1.f2) ((rd_T65 l2 x23_1).f2) ((rd_T65 l2 x23_1).f3) ((rd_T65 l2 x23_1).f4) ((rd_T65 l2 x23_1).f5) ((rd_T65 l2 x23_1).f6.f0) ((rd_T65 l2 x23_1).f6.f1) ((rd_T65 l2 x23_1).f7.f0) ((rd_T65 l2 x23_1).f7.f1) ((rd_T65 l2 x23_1).f8) false _ A24.out).mono ?_); rintro e w34 ⟨rfl, hb⟩; refine ⟨_, rfl, ?_⟩; have n0_ := Aside0.mk (Kd.R_below (by (with_reducible repeat (first | apply Kd.R_alloc | apply Kd.R_drewN | apply Kd.R_drew)); exact (Kd.R_mono (Kd.R_far (p := ⟨gb108, 12, none⟩) (Kd.R_far (p := ⟨gb108, 11, none⟩) (Kd.R_far (p := ⟨gb108, 10, none⟩) (Kd.R_far (p := ⟨gb108, 9, none⟩) (Kd.R_far (p := ⟨gb108, 8, none⟩) (Kd.R_far (p := ⟨gb108, 7, none⟩) (Kd.R_far (p := ⟨gb108, 6, none⟩) (Kd.R_far (p := ⟨gb108, 5, none⟩) (Kd.R_far (p := ⟨gb108, 4, none⟩) (Kd.R_far (p := ⟨gb108, 3, none⟩) (Kd.R_far (p := ⟨gb108, 2, none⟩) (Kd.R_far (p := ⟨gb108, 1, none⟩) (Kd.R_far (p := ⟨gb108, 0, none⟩) (Kd.R_types HO_102001.out BK108.out (by decide)) (fun _ hk => hk.2) (.int .i64 ((rd_T65 l2 x23_1).f0))) (fun _ hk => hk.2) (.int .i64 ((rd_T65 l2 x23_1).f1.f0))) (fun _ hk => hk.2) (.int .i64 ((rd_T65 l2 x23_1).f1.f1))) (fun _ hk => hk.2) (.int .i64 ((rd_T65 l2 x23_1).f1.f2))) (fun _ hk => hk.2) (.int .i64 ((rd_T65 l2 x23_1).f2))) (fun _ hk => hk.2) (.int .i64 ((rd_T65 l2 x23_1).f3))) (fun _ hk => hk.2) (.int .i64 ((rd_T65 l2 x23_1).f4))) (fun _ hk => hk.2) (.int .i64 ((rd_T65 l2 x23_1).f5))) (fun _ hk => hk.2) (.bool ((rd_T65 l2 x23_1).f6.f0))) (fun _ hk => hk.2) (.string ((rd_T65 l2 x23_1).f6.f1))) (fun _ hk => hk.2) (.bool ((rd_T65 l2 x23_1).f7.f0))) (fun _ hk => hk.2) (.string ((rd_T65 l2 x23_1).f7.f1))) (fun _ hk => hk.2) (.int .i64 ((rd_T65 l2 x23_1).f8))) (fun _ h_ => h_.1))) hb); have n1_ := Aside0.mk (blk_below (g := gb101) (o := .cells #[.int .i64 x102000_1, u102001] 24 (0, 0)) (by (with_reducible repeat (first | refine blk_drewN ?_ _ | refine blk_drew ?_ | refine blk_alloc ?_ _)); refine blk_far ?_ NB101_108.out _; refine blk_far ?_ NB101_108.out _; refine blk_far ?_ NB101_108.out _; refine blk_far ?_ NB101_108.out _; refine blk_far ?_ NB101_108.out _; refine blk_far ?_ NB101_108.out _; refine blk_far ?_ NB101_108.out _; refine blk_far ?_ NB101_108.out _; refine blk_far ?_ NB101_108.out _; refine blk_far ?_ NB101_108.out _; refine blk_far ?_ NB101_108.out _; refine blk_far ?_ NB101_108.out _; refine blk_far ?_ NB101_108.out _; (with_reducible repeat (first | refine blk_drewN ?_ _ | refine blk_drew ?_ | refine blk_alloc ?_ _)); exact BK101.out) hb); have n2_ := Aside0.mk (blk_below (g := gb102) (o := .cells #[.int .i64 x103000_1, .slice none 0 0] 24 (0, 0)) (by (with_reducible repeat (first | refine blk_drewN ?_ _ | refine blk_drew ?_ | refine blk_alloc ?_ _)); refine blk_far ?_ NB102_108.out _; refine blk_far ?_ NB102_108.out _; refine blk_far ?_ NB102_108.out _; refine blk_far ?_ NB102_108.out _; refine blk_far ?_ NB102_108.out _; refine blk_far ?_ NB102_108.out _; refine blk_far ?_ NB102_108.out _; refine blk_far ?_ NB102_108.out _; refine blk_far ?_ NB102_108.out _; refine blk_far ?_ NB102_108.out _; refine blk_far ?_ NB102_108.out _; refine blk_far ?_ NB102_108.out _; refine blk_far ?_ NB102_108.out _; (with_reducible repeat (first | refine blk_drewN ?_ _ | refine blk_drew ?_ | refine blk_alloc ?_ _)); exact BK102.out) hb); have n3_ := Aside0.mk (blk_below (g := gb108) (o := .cells #[.int .i64 ((rd_T65 l2 x23_1).f0), .int .i64 ((rd_T65 l2 x23_1).f1.f0), .int .i64 ((rd_T65 l2 x23_1).f1.f1), .int .i64 ((rd_T65 l2 x23_1).f1.f2), .int .i64 ((rd_T65 l2 x23_1).f2), .int .i64 ((rd_T65 l2 x23_1).f3), .int .i64 ((rd_T65 l2 x23_1).f4), .int .i64 ((rd_T65 l2 x23_1).f5), .bool ((rd_T65 l2 x23_1).f6.f0), .string ((rd_T65 l2 x23_1).f6.f1), .bool ((rd_T65 l2 x23_1).f7.f0), .string ((rd_T65 l2 x23_1).f7.f1), .int .i64 ((rd_T65 l2 x23_1).f8)] 65 (0, 0)) (by (with_reducible repeat (first | refine blk_drewN ?_ _ | refine blk_drew ?_ | refine blk_alloc ?_ _)); refine blk_put (cs := #[.int .i64 ((rd_T65 l2 x23_1).f0), .int .i64 ((rd_T65 l2 x23_1).f1.f0), .int .i64 ((rd_T65 l2 x23_1).f1.f1), .int .i64 ((rd_T65 l2 x23_1).f1.f2), .int .i64 ((rd_T65 l2 x23_1).f2), .int .i64 ((rd_T65 l2 x23_1).f3), .int .i64 ((rd_T65 l2 x23_1).f4), .int .i64 ((rd_T65 l2 x23_1).f5), .bool ((rd_T65 l2 x23_1).f6.f0), .string ((rd_T65 l2 x23_1).f6.f1), .bool ((rd_T65 l2 x23_1).f7.f0), .string ((rd_T65 l2 x23_1).f7.f1), .int .i64 0]) ?_ 12 _ rfl; refine blk_put (cs := #[.int .i64 ((rd_T65 l2 x23_1).f0), .int .i64 ((rd_T65 l2 x23_1).f1.f0), .int .i64 ((rd_T65 l2 x23_1).f1.f1), .int .i64 ((rd_T65 l2 x23_1).f1.f2), .int .i64 ((rd_T65 l2 x23_1).f2), .int .i64 ((rd_T65 l2 x23_1).f3), .int .i64 ((rd_T65 l2 x23_1).f4), .int .i64 ((rd_T65 l2 x23_1).f5), .bool ((rd_T65 l2 x23_1).f6.f0), .string ((rd_T65 l2 x23_1).f6.f1), .bool ((rd_T65 l2 x23_1).f7.f0), .string (⟨#[]⟩ : ByteArray), .int .i64 0]) ?_ 11 _ rfl; refine blk_put (cs := #[.int .i64 ((rd_T65 l2 x23_1).f0), .int .i64 ((rd_T65 l2 x23_1).f1.f0), .int .i64 ((rd_T65 l2 x23_1).f1.f1), .int .i64 ((rd_T65 l2 x23_1).f1.f2), .int .i64 ((rd_T65 l2 x23_1).f2), .int .i64 ((rd_T65 l2 x23_1).f3), .int .i64 ((rd_T65 l2 x23_1).f4), .int .i64 ((rd_T65 l2 x23_1).f5), .bool ((rd_T65 l2 x23_1).f6.f0), .string ((rd_T65 l2 x23_1).f6.f1), .bool false, .string (⟨#[]⟩ : ByteArray), .int .i64 0]) ?_ 10 _ rfl; refine blk_put (cs := #[.int .i64 ((rd_T65 l2 x23_1).f0), .int .i64 ((rd_T65 l2 x23_1).f1.f0), .int .i64 ((rd_T65 l2 x23_1).f1.f1), .int .i64 ((rd_T65 l2 x23_1).f1.f2), .int .i64 ((rd_T65 l2 x23_1).f2), .int .i64 ((rd_T65 l2 x23_1).f3), .int .i64 ((rd_T65 l2 x23_1).f4), .int .i64 ((rd_T65 l2 x23_1).f5), .bool ((rd_T65 l2 x23_1).f6.f0), .string (⟨#[]⟩ : ByteArray), .bool false, .string (⟨#[]⟩ : ByteArray), .int .i64 0]) ?_ 9 _ rfl; refine blk_put (cs := #[.int .i64 ((rd_T65 l2 x23_1).f0), .int .i64 ((rd_T65 l2 x23_1).f1.f0), .int .i64 ((rd_T65 l2 x23_1).f1.f1), .int .i64 ((rd_T65 l2 x23_1).f1.f2), .int .i64 ((rd_T65 l2 x23_1).f2), .int .i64 ((rd_T65 l2 x23_1).f3), .int .i64 ((rd_T65 l2 x23_1).f4), .int .i64 ((rd_T65 l2 x23_1).f5), .bool false, .string (⟨#[]⟩ : ByteArray), .bool false, .string (⟨#[]⟩ : ByteArray), .int .i64 0]) ?_ 8 _ rfl; refine blk_put (cs := #[.int .i64 ((rd_T65 l2 x23_1).f0), .int .i64 ((rd_T65 l2 x23_1).f1.f0), .int .i64 ((rd_T65 l2 x23_1).f1.f1), .int .i64 ((rd_T65 l2 x23_1).f1.f2), .int .i64 ((rd_T65 l2 x23_1).f2), .int .i64 ((rd_T65 l2 x23_1).f3), .int .i64 ((rd_T65 l2 x23_1).f4), .int .i64 0, .bool false, .string (⟨#[]⟩ : ByteArray), .bool false, .string (⟨#[]⟩ : ByteArray), .int .i64 0]) ?_ 7 _ rfl; refine blk_put (cs := #[.int .i64 ((rd_T65 l2 x23_1).f0), .int .i64 ((rd_T65 l2 x23_1).f1.f0), .int .i64 ((rd_T65 l2 x23_1).f1.f1), .int .i64 ((rd_T65 l2 x23_1).f1.f2), .int .i64 ((rd_T65 l2 x23_1).f2), .int .i64 ((rd_T65 l2 x23_1).f3), .int .i64 0, .int .i64 0, .bool false, .string (⟨#[]⟩ : ByteArray), .bool false, .string (⟨#[]⟩ : ByteArray), .int .i64 0]) ?_ 6 _ rfl; refine blk_put (cs := #[.int .i64 ((rd_T65 l2 x23_1).f0), .int .i64 ((rd_T65 l2 x23_1).f1.f0), .int .i64 ((rd_T65 l2 x23_1).f1.f1), .int .i64 ((rd_T65 l2 x23_1).f1.f2), .int .i64 ((rd_T65 l2 x23_1).f2), .int .i64 0, .int .i64 0, .int .i64 0, .bool false, .string (⟨#[]⟩ : ByteArray), .bool false, .string (⟨#[]⟩ : ByteArray), .int .i64 0]) ?_ 5 _ rfl; refine blk_put (cs := #[.int .i64 ((rd_T65 l2 x23_1).f0), .int .i64 ((rd_T65 l2 x23_1).f1.f0), .int .i64 ((rd_T65 l2 x23_1).f1.f1), .int .i64 ((rd_T65 l2 x23_1).f1.f2), .int .i64 0, .int .i64 0, .int .i64 0, .int .i64 0, .bool false, .string (⟨#[]⟩ : ByteArray), .bool false, .string (⟨#[]⟩ : ByteArray), .int .i64 0]) ?_ 4 _ rfl; refine blk_put (cs := #[.int .i64 ((rd_T65 l2 x23_1).f0), .int .i64 ((rd_T65 l2 x23_1).f1.f0), .int .i64 ((rd_T65 l2 x23_1).f1.f1), .int .i64 0, .int .i64 0, .int .i64 0, .int .i64 0, .int .i64 0, .bool false, .string (⟨#[]⟩ : ByteArray), .bool false, .string (⟨#[]⟩ : ByteArray), .int .i64 0]) ?_ 3 _ rfl; refine blk_put (cs := #[.int .i64 ((rd_T65 l2 x23_1).f0), .int .i64 ((rd_T65 l2 x23_1).f1.f0), .int .i64 0, .int .i64 0, .int .i64 0, .int .i64 0, .int .i64 0, .int .i64 0, .bool false, .string (⟨#[]⟩ : ByteArray), .bool false, .string (⟨#[]⟩ : ByteArray), .int .i64 0]) ?_ 2 _ rfl; refine blk_put (cs := #[.int .i64 ((rd_T65 l2 x23_1).f0), .int .i64 0, .int .i64 0, .int .i64 0, .int .i64 0, .int .i64 0, .int .i64 0, .int .i64 0, .bool false, .string (⟨#[]⟩ : ByteArray), .bool false, .string (⟨#[]⟩ : ByteArray), .int .i64 0]) ?_ 1 _ rfl; refine blk_put (cs := #[.int .i64 0, .int .i64 0, .int .i64 0, .int .i64 0, .int .i64 0, .int .i64 0, .int .i64 0, .int .i64 0, .bool false, .string (⟨#[]⟩ : ByteArray), .bool false, .string (⟨#[]⟩ : ByteArray), .int .i64 0]) ?_ 0 _ rfl; (with_reducible repeat (first | refine blk_drewN ?_ _ | refine blk_drew ?_ | refine blk_alloc ?_ _)); exact BK108.out) hb); have n4_ := Aside0.mk (below_step (by repeat (first | (with_reducible first | exact HB.out | apply below_alloc | apply pw_below_drewN | apply below_drew1 | refine below_set ?_ GE101.out | refine below_set ?_ GE102.out | refine below_set ?_ GE108.out) | exact HB.out)) hb); clear HO_102001; clear BK101; clear BK102; clear BK108; clear HB; have HO_102001 := n0_; have BK101 := n1_; have BK102 := n2_; have BK108 := n3_; have HB := n4_; clear n0_ n1_ n2_ n3_ n4_; (try clear hb); (try clear hb2); (try clear hk); (try clear hi)))
         go_meet
         case rel => exact ⟨_, (true), (by first | rfl | (simp; done) | (simp [*]; done)), H', ⟨by have := HK1.out; first | omega | exact Nat.le_refl _⟩, ⟨by (with_reducible repeat (first | apply Kd.R_alloc | apply Kd.R_drewN | apply Kd.R_drew)); exact HO_102001.out⟩, ⟨by (with_reducible repeat (first | refine blk_drewN ?_ _ | refine blk_drew ?_ | refine blk_alloc ?_ _)); exact BK101.out⟩, ⟨by (with_reducible repeat (first | refine blk_drewN ?_ _ | refine blk_drew ?_ | refine blk_alloc ?_ _)); exact BK102.out⟩, ⟨by (with_reducible repeat (first | refine blk_drewN ?_ _ | refine blk_drew ?_ | refine blk_alloc ?_ _)); exact BK108.out⟩, ⟨by repeat (first | (with_reducible first | exact HB.out | apply below_alloc | apply pw_below_drewN | apply below_drew1 | refine below_set ?_ GE101.out | refine below_set ?_ GE102.out | refine below_set ?_ GE108.out) | exact HB.out)⟩⟩
       case rest =>
        clear HC19
        try clear c1
        try clear p1
        try clear q1
        try clear hx1
        try clear c2
        try clear p2
        try clear c3
        try clear c5
        try clear c7
        try clear c9
        try clear p10
        try clear q10
        try clear hx10
        try clear c11
        try clear c16
        try clear c16b0
        try clear c17
        try clear c17b0
        try clear c18
        try clear c18b0
        try clear c21
        try clear c22
        try clear c25
        try clear c26
        try clear c27
        try clear c31
        try clear c32
        try clear c34
        try clear hcz10_0
        try clear hcz10_1
        try clear hcz12_0
        try clear hcz12_1
        try clear hcz15_0
        try clear hcz15_1
        try clear hcz23_0
        try clear hcz23_1
        try clear hcz23_10
        try clear hcz23_11
        try clear hcz23_12
        try clear hcz23_2
        try clear hcz23_3
        try clear hcz23_4
        try clear hcz23_5
        try clear hcz23_6
        try clear hcz23_7
        try clear hcz23_8
        try clear hcz23_9
        try clear hcz28_0
        try clear hcz28_1
        try clear hcz28_10
        try clear hcz28_11
        try clear hcz28_12
        try clear hcz28_2
        try clear hcz28_3
        try clear hcz28_4
        try clear hcz28_5
        try clear hcz28_6
        try clear hcz28_7
        try clear hcz28_8
        try clear hcz28_9
        try clear hcz30_0
        try clear hcz30_1
        try clear hcz30_10
        try clear hcz30_11
        try clear hcz30_12
        try clear hcz30_2
        try clear hcz30_3
        try clear hcz30_4
        try clear hcz30_5
        try clear hcz30_6
        try clear hcz30_7
        try clear hcz30_8
        try clear hcz30_9
        try clear hcz33_0
        try clear hcz33_1
        try clear hcz33_10
        try clear hcz33_11
        try clear hcz33_12
        try clear hcz33_2
        try clear hcz33_3
        try clear hcz33_4
        try clear hcz33_5
        try clear hcz33_6
        try clear hcz33_7
        try clear hcz33_8
        try clear hcz33_9
        try clear hfz10_0
        try clear hfz10_1
        try clear hfz12_0
        try clear hfz12_1
        try clear hfz15_0
        try clear hfz15_1
        try clear hfz23_0
        try clear hfz23_1
        try clear hfz23_10
        try clear hfz23_11
        try clear hfz23_12
        try clear hfz23_2
        try clear hfz23_3
        try clear hfz23_4
        try clear hfz23_5
        try clear hfz23_6
        try clear hfz23_7
        try clear hfz23_8
        try clear hfz23_9
        try clear hfz28_0
        try clear hfz28_1
        try clear hfz28_10
        try clear hfz28_11
        try clear hfz28_12
        try clear hfz28_2
        try clear hfz28_3
        try clear hfz28_4
        try clear hfz28_5
        try clear hfz28_6
        try clear hfz28_7
        try clear hfz28_8
        try clear hfz28_9
        try clear hfz30_0
        try clear hfz30_1
        try clear hfz30_10
        try clear hfz30_11
        try clear hfz30_12
        try clear hfz30_2
        try clear hfz30_3
        try clear hfz30_4
        try clear hfz30_5
        try clear hfz30_6
        try clear hfz30_7
        try clear hfz30_8
        try clear hfz30_9
        try clear hfz33_0
        try clear hfz33_1
        try clear hfz33_10
        try clear hfz33_11
        try clear hfz33_12
        try clear hfz33_2
        try clear hfz33_3
        try clear hfz33_4
        try clear hfz33_5
        try clear hfz33_6
        try clear hfz33_7
        try clear hfz33_8
        try clear hfz33_9
        try clear hx107_0
        try clear hx107_1
        try clear hx107_10
        try clear hx107_11
        try clear hx107_12
        try clear hx107_2
        try clear hx107_3
        try clear hx107_4
        try clear hx107_5
        try clear hx107_6
        try clear hx107_7
        try clear hx107_8
        try clear hx107_9
        try clear p107
        try clear p2
        try clear q107
        obtain ⟨kq, x35_18, rfl, HA, HJ18, HO_102001, BK101, BK102, BK108, HB⟩ := hcut
        cases kq with
        | zero => exact absurd HA.out (by simp [patch_All.j1])
        | succ kj18 =>
         have H := HA.out
         clear HA
         simp only [patch_All.j1] at H
         by_cases c35 : x35_18 = true
         ·subst c35
          have H1 : (patch_All.l0 kj18 a1 l2 (l2.length : Int) (wrap64 (x23_1 + 1)) x102000_1 x102001_1) = some (r1, r2, r3) := by rw [if_pos rfl] at H; exact H
          clear H
          have H := H1
          clear H1
          have H' := Aside0.mk H
          clear H
          go_wp2
          go_roundg kj18
          case measure => have := HK1.out; have := HJ18.out; omega
          case rel => exact ⟨(wrap64 (x23_1 + 1)), (x102000_1), (x102001_1), (x103000_1), (u102001), (by first | rfl | (simp; done) | (simp [*]; done)), H', ⟨by have := HK1.out; have := HJ18.out; omega⟩, ⟨by (with_reducible repeat (first | apply Kd.R_alloc | apply Kd.R_drewN | apply Kd.R_drew)); exact HO_102001.out⟩, ⟨by (with_reducible repeat (first | refine blk_drewN ?_ _ | refine blk_drew ?_ | refine blk_alloc ?_ _)); exact BK101.out⟩, ⟨by (with_reducible repeat (first | refine blk_drewN ?_ _ | refine blk_drew ?_ | refine blk_alloc ?_ _)); exact BK102.out⟩, ⟨by repeat (first | (with_reducible first | exact HB.out | apply below_alloc | apply pw_below_drewN | apply below_drew1 | refine below_set ?_ GE101.out | refine below_set ?_ GE102.out | refine below_set ?_ GE108.out) | exact HB.out)⟩⟩
         ·replace c35 := Bool.eq_false_iff.mpr c35
          subst c35
          have H1 : ((patRedo.f x102000_1 x102001_1 ((rd_T65 l2 x23_1).f0) ((rd_T65 l2 x23_1).f1.f0) ((rd_T65 l2 x23_1).f1.f1) ((rd_T65 l2 x23_1).f1.f2) ((rd_T65 l2 x23_1).f2) ((rd_T65 l2 x23_1).f3) ((rd_T65 l2 x23_1).f4) ((rd_T65 l2 x23_1).f5) ((rd_T65 l2 x23_1).f6.f0) ((rd_T65 l2 x23_1).f6.f1) ((rd_T65 l2 x23_1).f7.f0) ((rd_T65 l2 x23_1).f7.f1) ((rd_T65 l2 x23_1).f8)).bind fun bt110 => (if bt110.2.2.2 = 0 then (patch_All.l0 kj18 a1 l2 (l2.length : Int) (wrap64 (x23_1 + 1)) bt110.1 bt110.2.1) else (some (0, ([] : List (S33)), bt110.2.2.2)))) = some (r1, r2, r3) := by rw [if_neg (show ¬ (false = true) by decide)] at H; exact H
          clear H
          have H := H1
          clear H1
          replace H := Option.bind_eq_some_iff.mp H
          obtain ⟨⟨t110, t111, t114, t115⟩, A360, H⟩ := H
          replace H : (if t115 = 0 then (patch_All.l0 kj18 a1 l2 (l2.length : Int) (wrap64 (x23_1 + 1)) t110 t111) else (some (0, ([] : List (S33)), t115))) = some (r1, r2, r3) := H
          have A36 := Aside0.mk A360
          clear A360
          by_cases c37 : t115 = 0
          ·rw [if_pos c37] at H
           have c37b0 : (t115 == 0) = true := beq_iff_eq.mpr c37
           have c37b1 : (t115 != 0) = false := bne_eq_false_iff_eq.mpr c37
           clear c37
           have H' := Aside0.mk H
           clear H
           have hnb38 := NB101_102.out
           have hnc38 := NB102_101.out
           have hnb39 := NB101_108.out
           have hnc39 := NB108_101.out
           obtain ⟨hcz40_0, hcz40_1⟩ := cl2 (W := wc) BK101.out
           obtain ⟨hfz40_0, hfz40_1⟩ := fr2 BK101.out
           have hnb41 := NB108_102.out
           have hnc41 := NB102_108.out
           obtain ⟨hcz42_0, hcz42_1, hcz42_2, hcz42_3, hcz42_4, hcz42_5, hcz42_6, hcz42_7, hcz42_8, hcz42_9, hcz42_10, hcz42_11, hcz42_12⟩ := cl13 (W := wc) BK108.out
           obtain ⟨hfz42_0, hfz42_1, hfz42_2, hfz42_3, hfz42_4, hfz42_5, hfz42_6, hfz42_7, hfz42_8, hfz42_9, hfz42_10, hfz42_11, hfz42_12⟩ := fr13 BK108.out
           obtain ⟨Ao43, co43, eo43⟩ := Kd.R_slice HO_102001.out
           subst eo43
           go_wp2_with (first | ((with_reducible refine gate_callee (f := 67) rfl ?_); refine goesL_ (some 39) rfl rfl Try.func67 (by kernel_rfl) rfl #[.agg #[.int .i64 x102000_1, .slice Ao43 x102001_1.length co43], .agg #[.int .i64 ((rd_T65 l2 x23_1).f0), .int .i64 ((rd_T65 l2 x23_1).f1.f0), .int .i64 ((rd_T65 l2 x23_1).f1.f1), .int .i64 ((rd_T65 l2 x23_1).f1.f2), .int .i64 ((rd_T65 l2 x23_1).f2), .int .i64 ((rd_T65 l2 x23_1).f3), .int .i64 ((rd_T65 l2 x23_1).f4), .int .i64 ((rd_T65 l2 x23_1).f5), .bool ((rd_T65 l2 x23_1).f6.f0), .string ((rd_T65 l2 x23_1).f6.f1), .bool ((rd_T65 l2 x23_1).f7.f0), .string ((rd_T65 l2 x23_1).f7.f1), .int .i64 ((rd_T65 l2 x23_1).f8)]] rfl (by (try simp only [List.map_toArray, List.map_cons, List.map_nil]); first | done | rfl | (simp only [List.length_drop, List.length_take]; rfl)) ?_; (with_reducible refine (patRedo.calls x102000_1 _ _ x102001_1 ((rd_T65 l2 x23_1).f0) ((rd_T65 l2 x23_1).f1.f0) ((rd_T65 l2 x23_1).f1.f1) ((rd_T65 l2 x23_1).f1.f2) ((rd_T65 l2 x23_1).f2) ((rd_T65 l2 x23_1).f3) ((rd_T65 l2 x23_1).f4) ((rd_T65 l2 x23_1).f5) ((rd_T65 l2 x23_1).f6.f0) ((rd_T65 l2 x23_1).f6.f1) ((rd_T65 l2 x23_1).f7.f0) ((rd_T65 l2 x23_1).f7.f1) ((rd_T65 l2 x23_1).f8) t110 t111 t114 t115 _ ?side1 ?side2 A36.out).mono ?_); (case side1 => repeat (first | exact (Kd.R_reads' HO_102001.out).2.2 | (with_reducible refine Kd.C_alloc ?_ _) | (with_reducible refine Kd.C_drewN ?_ _) | (with_reducible refine Kd.C_drew ?_))); (case side2 => exact (Kd.R_reads' HO_102001.out).2.1); rintro e w44 ⟨v112, rfl, ho0, hb⟩; refine ⟨_, rfl, ?_⟩; have n0_ := Aside0.mk (Kd.R_elder' (by (with_reducible repeat (first | apply Kd.R_alloc | apply Kd.R_drewN | apply Kd.R_drew)); exact HO_102001.out) (Kd.R_base ho0) hb); have n1_ := Aside0.mk (Kd.R_lower (Kd.R_new' ho0 (Kd.R_lt (by (with_reducible repeat (first | apply Kd.R_alloc | apply Kd.R_drewN | apply Kd.R_drew)); exact HO_102001.out))) (below_size (by repeat (first | (with_reducible first | exact HB.out | apply below_alloc | apply pw_below_drewN | apply below_drew1 | refine below_set ?_ GE101.out | refine below_set ?_ GE102.out | refine below_set ?_ GE108.out) | exact HB.out)))); have n2_ := Aside0.mk (blk_below (g := gb101) (o := .cells #[.int .i64 x102000_1, .slice Ao43 x102001_1.length co43] 24 (0, 0)) (by (with_reducible repeat (first | refine blk_drewN ?_ _ | refine blk_drew ?_ | refine blk_alloc ?_ _)); exact BK101.out) hb); have n3_ := Aside0.mk (blk_below (g := gb102) (o := .cells #[.int .i64 x103000_1, .slice none 0 0] 24 (0, 0)) (by (with_reducible repeat (first | refine blk_drewN ?_ _ | refine blk_drew ?_ | refine blk_alloc ?_ _)); exact BK102.out) hb); have n4_ := Aside0.mk (blk_below (g := gb108) (o := .cells #[.int .i64 ((rd_T65 l2 x23_1).f0), .int .i64 ((rd_T65 l2 x23_1).f1.f0), .int .i64 ((rd_T65 l2 x23_1).f1.f1), .int .i64 ((rd_T65 l2 x23_1).f1.f2), .int .i64 ((rd_T65 l2 x23_1).f2), .int .i64 ((rd_T65 l2 x23_1).f3), .int .i64 ((rd_T65 l2 x23_1).f4), .int .i64 ((rd_T65 l2 x23_1).f5), .bool ((rd_T65 l2 x23_1).f6.f0), .string ((rd_T65 l2 x23_1).f6.f1), .bool ((rd_T65 l2 x23_1).f7.f0), .string ((rd_T65 l2 x23_1).f7.f1), .int .i64 ((rd_T65 l2 x23_1).f8)] 65 (0, 0)) (by (with_reducible repeat (first | refine blk_drewN ?_ _ | refine blk_drew ?_ | refine blk_alloc ?_ _)); exact BK108.out) hb); have n5_ := Aside0.mk (below_step (by repeat (first | (with_reducible first | exact HB.out | apply below_alloc | apply pw_below_drewN | apply below_drew1 | refine below_set ?_ GE101.out | refine below_set ?_ GE102.out | refine below_set ?_ GE108.out) | exact HB.out)) hb); clear HO_102001; clear BK101; clear BK102; clear BK108; clear HB; have HO_102001 := n0_; have HO113 := n1_; have BK101 := n2_; have BK102 := n3_; have BK108 := n4_; have HB := n5_; clear n0_ n1_ n2_ n3_ n4_ n5_; (try clear hb); (try clear hb2); (try clear hk); (try clear hi); (try clear ho0)) | ((with_reducible refine gate_dst (N := 10) rfl ?_); refine box_event ?hg (N := 10) ?hd (cs := #[.int .i64 0, .slice none 0 0]) (t := 24) ?hr ?_; (case hd => rfl); (case hg => rfl); (case hr => first | (go_simp; done) | (go_simp; rfl)); intro gb116 hg w45 hbox hb; have n0_ := Aside0.mk (Kd.R_below (by (with_reducible repeat (first | apply Kd.R_alloc | apply Kd.R_drewN | apply Kd.R_drew)); exact HO_102001.out) hb); have n1_ := Aside0.mk (Kd.R_below (by (with_reducible repeat (first | apply Kd.R_alloc | apply Kd.R_drewN | apply Kd.R_drew)); exact HO113.out) hb); have n2_ := Aside0.mk (blk_below (g := gb101) (o := .cells #[.int .i64 x102000_1, .slice Ao43 x102001_1.length co43] 24 (0, 0)) (by (with_reducible repeat (first | refine blk_drewN ?_ _ | refine blk_drew ?_ | refine blk_alloc ?_ _)); exact BK101.out) hb); have n3_ := Aside0.mk (blk_below (g := gb102) (o := .cells #[.int .i64 x103000_1, .slice none 0 0] 24 (0, 0)) (by (with_reducible repeat (first | refine blk_drewN ?_ _ | refine blk_drew ?_ | refine blk_alloc ?_ _)); exact BK102.out) hb); have n4_ := Aside0.mk (blk_below (g := gb108) (o := .cells #[.int .i64 ((rd_T65 l2 x23_1).f0), .int .i64 ((rd_T65 l2 x23_1).f1.f0), .int .i64 ((rd_T65 l2 x23_1).f1.f1), .int .i64 ((rd_T65 l2 x23_1).f1.f2), .int .i64 ((rd_T65 l2 x23_1).f2), .int .i64 ((rd_T65 l2 x23_1).f3), .int .i64 ((rd_T65 l2 x23_1).f4), .int .i64 ((rd_T65 l2 x23_1).f5), .bool ((rd_T65 l2 x23_1).f6.f0), .string ((rd_T65 l2 x23_1).f6.f1), .bool ((rd_T65 l2 x23_1).f7.f0), .string ((rd_T65 l2 x23_1).f7.f1), .int .i64 ((rd_T65 l2 x23_1).f8)] 65 (0, 0)) (by (with_reducible repeat (first | refine blk_drewN ?_ _ | refine blk_drew ?_ | refine blk_alloc ?_ _)); exact BK108.out) hb); have n5_ := Aside0.mk (below_step (by repeat (first | (with_reducible first | exact HB.out | apply below_alloc | apply pw_below_drewN | apply below_drew1 | refine below_set ?_ GE101.out | refine below_set ?_ GE102.out | refine below_set ?_ GE108.out) | exact HB.out)) hb); have n6_ := Aside0.mk (hbox); have n7_ := Aside0.mk ((by rw [hg]; exact (below_size (by repeat (first | (with_reducible first | exact HB.out | apply below_alloc | apply pw_below_drewN | apply below_drew1 | refine below_set ?_ GE101.out | refine below_set ?_ GE102.out | refine below_set ?_ GE108.out) | exact HB.out))) : w.heap.size ≤ gb116)); have n8_ := Aside0.mk ((by rw [hg]; exact (below_size (by repeat (first | (with_reducible first | exact HB.out | apply below_alloc | apply pw_below_drewN | apply below_drew1 | refine below_set ?_ GE101.out | refine below_set ?_ GE102.out | refine below_set ?_ GE108.out) | exact HB.out))) : w.heap.size ≤ gb116)); have n9_ := Aside0.mk ((by rw [hg]; exact Nat.ne_of_lt (blk_lt (g := gb101) (o := .cells #[.int .i64 x102000_1, .slice Ao43 x102001_1.length co43] 24 (0, 0)) (by (with_reducible repeat (first | refine blk_drewN ?_ _ | refine blk_drew ?_ | refine blk_alloc ?_ _)); exact BK101.out)) : gb101 ≠ gb116)); have n10_ := Aside0.mk ((by rw [hg]; exact Nat.ne_of_gt (blk_lt (g := gb101) (o := .cells #[.int .i64 x102000_1, .slice Ao43 x102001_1.length co43] 24 (0, 0)) (by (with_reducible repeat (first | refine blk_drewN ?_ _ | refine blk_drew ?_ | refine blk_alloc ?_ _)); exact BK101.out)) : gb116 ≠ gb101)); have n11_ := Aside0.mk ((by rw [hg]; exact Nat.ne_of_lt (blk_lt (g := gb102) (o := .cells #[.int .i64 x103000_1, .slice none 0 0] 24 (0, 0)) (by (with_reducible repeat (first | refine blk_drewN ?_ _ | refine blk_drew ?_ | refine blk_alloc ?_ _)); exact BK102.out)) : gb102 ≠ gb116)); have n12_ := Aside0.mk ((by rw [hg]; exact Nat.ne_of_gt (blk_lt (g := gb102) (o := .cells #[.int .i64 x103000_1, .slice none 0 0] 24 (0, 0)) (by (with_reducible repeat (first | refine blk_drewN ?_ _ | refine blk_drew ?_ | refine blk_alloc ?_ _)); exact BK102.out)) : gb116 ≠ gb102)); have n13_ := Aside0.mk ((by rw [hg]; exact Nat.ne_of_lt (blk_lt (g := gb108) (o := .cells #[.int .i64 ((rd_T65 l2 x23_1).f0), .int .i64 ((rd_T65 l2 x23_1).f1.f0), .int .i64 ((rd_T65 l2 x23_1).f1.f1), .int .i64 ((rd_T65 l2 x23_1).f1.f2), .int .i64 ((rd_T65 l2 x23_1).f2), .int .i64 ((rd_T65 l2 x23_1).f3), .int .i64 ((rd_T65 l2 x23_1).f4), .int .i64 ((rd_T65 l2 x23_1).f5), .bool ((rd_T65 l2 x23_1).f6.f0), .string ((rd_T65 l2 x23_1).f6.f1), .bool ((rd_T65 l2 x23_1).f7.f0), .string ((rd_T65 l2 x23_1).f7.f1), .int .i64 ((rd_T65 l2 x23_1).f8)] 65 (0, 0)) (by (with_reducible repeat (first | refine blk_drewN ?_ _ | refine blk_drew ?_ | refine blk_alloc ?_ _)); exact BK108.out)) : gb108 ≠ gb116)); have n14_ := Aside0.mk ((by rw [hg]; exact Nat.ne_of_gt (blk_lt (g := gb108) (o := .cells #[.int .i64 ((rd_T65 l2 x23_1).f0), .int .i64 ((rd_T65 l2 x23_1).f1.f0), .int .i64 ((rd_T65 l2 x23_1).f1.f1), .int .i64 ((rd_T65 l2 x23_1).f1.f2), .int .i64 ((rd_T65 l2 x23_1).f2), .int .i64 ((rd_T65 l2 x23_1).f3), .int .i64 ((rd_T65 l2 x23_1).f4), .int .i64 ((rd_T65 l2 x23_1).f5), .bool ((rd_T65 l2 x23_1).f6.f0), .string ((rd_T65 l2 x23_1).f6.f1), .bool ((rd_T65 l2 x23_1).f7.f0), .string ((rd_T65 l2 x23_1).f7.f1), .int .i64 ((rd_T65 l2 x23_1).f8)] 65 (0, 0)) (by (with_reducible repeat (first | refine blk_drewN ?_ _ | refine blk_drew ?_ | refine blk_alloc ?_ _)); exact BK108.out)) : gb116 ≠ gb108)); clear HO_102001; clear HO113; clear BK101; clear BK102; clear BK108; clear HB; have HO_102001 := n0_; have HO113 := n1_; have BK101 := n2_; have BK102 := n3_; have BK108 := n4_; have HB := n5_; have BK116 := n6_; have GW116 := n7_; have GE116 := n8_; have NB101_116 := n9_; have NB116_101 := n10_; have NB102_116 := n11_; have NB116_102 := n12_; have NB108_116 := n13_; have NB116_108 := n14_; clear n0_ n1_ n2_ n3_ n4_ n5_ n6_ n7_ n8_ n9_ n10_ n11_ n12_ n13_ n14_; clear hb hbox hg; have hnb46 := NB116_101.out; have hnc46 := NB101_116.out; have hnb47 := NB116_102.out; have hnc47 := NB102_116.out; have hnb48 := NB116_108.out; have hnc48 := NB108_116.out; obtain ⟨hcz49_0, hcz49_1⟩ := cl2 (W := w45) BK116.out; obtain ⟨hfz49_0, hfz49_1⟩ := fr2 BK116.out; obtain ⟨Ao50, co50, eo50⟩ := Kd.R_slice HO113.out; subst eo50; obtain ⟨hcz51_0, hcz51_1⟩ := cl2 (W := w45) BK101.out; obtain ⟨hfz51_0, hfz51_1⟩ := fr2 BK101.out))
           go_roundg kj18
           case measure => have := HK1.out; have := HJ18.out; omega
           case rel => exact ⟨(wrap64 (x23_1 + 1)), (t110), (t111), (x103000_1), (.slice Ao50 t111.length co50), (by first | rfl | (simp; done) | (simp [*]; done)), H', ⟨by have := HK1.out; have := HJ18.out; omega⟩, ⟨by (with_reducible repeat (first | apply Kd.R_alloc | apply Kd.R_drewN | apply Kd.R_drew)); exact Kd.R_mono (Kd.R_far (p := ⟨gb101, 1, none⟩) (Kd.R_far (p := ⟨gb101, 0, none⟩) (Kd.R_far (p := ⟨gb116, 1, none⟩) (Kd.R_far (p := ⟨gb116, 0, none⟩) (Kd.R_types (Kd.R_types HO113.out BK116.out (by decide)) BK101.out (by decide)) (fun _ hk => hk.1.2) (.int .i64 t110)) (fun _ hk => hk.1.2) (.slice Ao50 t111.length co50)) (fun _ hk => hk.2) (.int .i64 t110)) (fun _ hk => hk.2) (.slice Ao50 t111.length co50)) (fun _ hk => trivial)⟩, ⟨by (with_reducible repeat (first | refine blk_drewN ?_ _ | refine blk_drew ?_ | refine blk_alloc ?_ _)); refine blk_put (cs := #[.int .i64 t110, .slice Ao43 x102001_1.length co43]) ?_ 1 _ rfl; refine blk_put (cs := #[.int .i64 x102000_1, .slice Ao43 x102001_1.length co43]) ?_ 0 _ rfl; refine blk_far ?_ NB101_116.out _; refine blk_far ?_ NB101_116.out _; (with_reducible repeat (first | refine blk_drewN ?_ _ | refine blk_drew ?_ | refine blk_alloc ?_ _)); exact BK101.out⟩, ⟨by (with_reducible repeat (first | refine blk_drewN ?_ _ | refine blk_drew ?_ | refine blk_alloc ?_ _)); refine blk_far ?_ NB102_101.out _; refine blk_far ?_ NB102_101.out _; refine blk_far ?_ NB102_116.out _; refine blk_far ?_ NB102_116.out _; (with_reducible repeat (first | refine blk_drewN ?_ _ | refine blk_drew ?_ | refine blk_alloc ?_ _)); exact BK102.out⟩, ⟨by repeat (first | (with_reducible first | exact HB.out | apply below_alloc | apply pw_below_drewN | apply below_drew1 | refine below_set ?_ GE101.out | refine below_set ?_ GE102.out | refine below_set ?_ GE108.out | refine below_set ?_ GE116.out) | exact HB.out)⟩⟩
          ·rw [if_neg c37] at H
           have c37b0 : (t115 == 0) = false := beq_eq_false_iff_ne.mpr c37
           have c37b1 : (t115 != 0) = true := bne_iff_ne.mpr c37
           simp only [Option.some.injEq, Prod.mk.injEq] at H
           obtain ⟨rfl, rfl, rfl⟩ := H
           have hnb52 := NB101_102.out
           have hnc52 := NB102_101.out
           have hnb53 := NB101_108.out
           have hnc53 := NB108_101.out
           obtain ⟨hcz54_0, hcz54_1⟩ := cl2 (W := wc) BK101.out
           obtain ⟨hfz54_0, hfz54_1⟩ := fr2 BK101.out
           have hnb55 := NB108_102.out
           have hnc55 := NB102_108.out
           obtain ⟨hcz56_0, hcz56_1, hcz56_2, hcz56_3, hcz56_4, hcz56_5, hcz56_6, hcz56_7, hcz56_8, hcz56_9, hcz56_10, hcz56_11, hcz56_12⟩ := cl13 (W := wc) BK108.out
           obtain ⟨hfz56_0, hfz56_1, hfz56_2, hfz56_3, hfz56_4, hfz56_5, hfz56_6, hfz56_7, hfz56_8, hfz56_9, hfz56_10, hfz56_11, hfz56_12⟩ := fr13 BK108.out
           obtain ⟨Ao57, co57, eo57⟩ := Kd.R_slice HO_102001.out
           subst eo57
           go_wp2_with (first | ((with_reducible refine gate_callee (f := 67) rfl ?_); refine goesL_ (some 39) rfl rfl Try.func67 (by kernel_rfl) rfl #[.agg #[.int .i64 x102000_1, .slice Ao57 x102001_1.length co57], .agg #[.int .i64 ((rd_T65 l2 x23_1).f0), .int .i64 ((rd_T65 l2 x23_1).f1.f0), .int .i64 ((rd_T65 l2 x23_1).f1.f1), .int .i64 ((rd_T65 l2 x23_1).f1.f2), .int .i64 ((rd_T65 l2 x23_1).f2), .int .i64 ((rd_T65 l2 x23_1).f3), .int .i64 ((rd_T65 l2 x23_1).f4), .int .i64 ((rd_T65 l2 x23_1).f5), .bool ((rd_T65 l2 x23_1).f6.f0), .string ((rd_T65 l2 x23_1).f6.f1), .bool ((rd_T65 l2 x23_1).f7.f0), .string ((rd_T65 l2 x23_1).f7.f1), .int .i64 ((rd_T65 l2 x23_1).f8)]] rfl (by (try simp only [List.map_toArray, List.map_cons, List.map_nil]); first | done | rfl | (simp only [List.length_drop, List.length_take]; rfl)) ?_; (with_reducible refine (patRedo.calls x102000_1 _ _ x102001_1 ((rd_T65 l2 x23_1).f0) ((rd_T65 l2 x23_1).f1.f0) ((rd_T65 l2 x23_1).f1.f1) ((rd_T65 l2 x23_1).f1.f2) ((rd_T65 l2 x23_1).f2) ((rd_T65 l2 x23_1).f3) ((rd_T65 l2 x23_1).f4) ((rd_T65 l2 x23_1).f5) ((rd_T65 l2 x23_1).f6.f0) ((rd_T65 l2 x23_1).f6.f1) ((rd_T65 l2 x23_1).f7.f0) ((rd_T65 l2 x23_1).f7.f1) ((rd_T65 l2 x23_1).f8) t110 t111 t114 t115 _ ?side1 ?side2 A36.out).mono ?_); (case side1 => repeat (first | exact (Kd.R_reads' HO_102001.out).2.2 | (with_reducible refine Kd.C_alloc ?_ _) | (with_reducible refine Kd.C_drewN ?_ _) | (with_reducible refine Kd.C_drew ?_))); (case side2 => exact (Kd.R_reads' HO_102001.out).2.1); rintro e w58 ⟨v112, rfl, ho0, hb⟩; refine ⟨_, rfl, ?_⟩; have n0_ := Aside0.mk (Kd.R_elder' (by (with_reducible repeat (first | apply Kd.R_alloc | apply Kd.R_drewN | apply Kd.R_drew)); exact HO_102001.out) (Kd.R_base ho0) hb); have n1_ := Aside0.mk (Kd.R_lower (Kd.R_new' ho0 (Kd.R_lt (by (with_reducible repeat (first | apply Kd.R_alloc | apply Kd.R_drewN | apply Kd.R_drew)); exact HO_102001.out))) (below_size (by repeat (first | (with_reducible first | exact HB.out | apply below_alloc | apply pw_below_drewN | apply below_drew1 | refine below_set ?_ GE101.out | refine below_set ?_ GE102.out | refine below_set ?_ GE108.out) | exact HB.out)))); have n2_ := Aside0.mk (blk_below (g := gb101) (o := .cells #[.int .i64 x102000_1, .slice Ao57 x102001_1.length co57] 24 (0, 0)) (by (with_reducible repeat (first | refine blk_drewN ?_ _ | refine blk_drew ?_ | refine blk_alloc ?_ _)); exact BK101.out) hb); have n3_ := Aside0.mk (blk_below (g := gb102) (o := .cells #[.int .i64 x103000_1, .slice none 0 0] 24 (0, 0)) (by (with_reducible repeat (first | refine blk_drewN ?_ _ | refine blk_drew ?_ | refine blk_alloc ?_ _)); exact BK102.out) hb); have n4_ := Aside0.mk (blk_below (g := gb108) (o := .cells #[.int .i64 ((rd_T65 l2 x23_1).f0), .int .i64 ((rd_T65 l2 x23_1).f1.f0), .int .i64 ((rd_T65 l2 x23_1).f1.f1), .int .i64 ((rd_T65 l2 x23_1).f1.f2), .int .i64 ((rd_T65 l2 x23_1).f2), .int .i64 ((rd_T65 l2 x23_1).f3), .int .i64 ((rd_T65 l2 x23_1).f4), .int .i64 ((rd_T65 l2 x23_1).f5), .bool ((rd_T65 l2 x23_1).f6.f0), .string ((rd_T65 l2 x23_1).f6.f1), .bool ((rd_T65 l2 x23_1).f7.f0), .string ((rd_T65 l2 x23_1).f7.f1), .int .i64 ((rd_T65 l2 x23_1).f8)] 65 (0, 0)) (by (with_reducible repeat (first | refine blk_drewN ?_ _ | refine blk_drew ?_ | refine blk_alloc ?_ _)); exact BK108.out) hb); have n5_ := Aside0.mk (below_step (by repeat (first | (with_reducible first | exact HB.out | apply below_alloc | apply pw_below_drewN | apply below_drew1 | refine below_set ?_ GE101.out | refine below_set ?_ GE102.out | refine below_set ?_ GE108.out) | exact HB.out)) hb); clear HO_102001; clear BK101; clear BK102; clear BK108; clear HB; have HO_102001 := n0_; have HO113 := n1_; have BK101 := n2_; have BK102 := n3_; have BK108 := n4_; have HB := n5_; clear n0_ n1_ n2_ n3_ n4_ n5_; (try clear hb); (try clear hb2); (try clear hk); (try clear hi); (try clear ho0)) | ((with_reducible refine gate_dst (N := 10) rfl ?_); refine box_event ?hg (N := 10) ?hd (cs := #[.int .i64 0, .slice none 0 0]) (t := 24) ?hr ?_; (case hd => rfl); (case hg => rfl); (case hr => first | (go_simp; done) | (go_simp; rfl)); intro gb116 hg w59 hbox hb; have n0_ := Aside0.mk (Kd.R_below (by (with_reducible repeat (first | apply Kd.R_alloc | apply Kd.R_drewN | apply Kd.R_drew)); exact HO_102001.out) hb); have n1_ := Aside0.mk (Kd.R_below (by (with_reducible repeat (first | apply Kd.R_alloc | apply Kd.R_drewN | apply Kd.R_drew)); exact HO113.out) hb); have n2_ := Aside0.mk (blk_below (g := gb101) (o := .cells #[.int .i64 x102000_1, .slice Ao57 x102001_1.length co57] 24 (0, 0)) (by (with_reducible repeat (first | refine blk_drewN ?_ _ | refine blk_drew ?_ | refine blk_alloc ?_ _)); exact BK101.out) hb); have n3_ := Aside0.mk (blk_below (g := gb102) (o := .cells #[.int .i64 x103000_1, .slice none 0 0] 24 (0, 0)) (by (with_reducible repeat (first | refine blk_drewN ?_ _ | refine blk_drew ?_ | refine blk_alloc ?_ _)); exact BK102.out) hb); have n4_ := Aside0.mk (blk_below (g := gb108) (o := .cells #[.int .i64 ((rd_T65 l2 x23_1).f0), .int .i64 ((rd_T65 l2 x23_1).f1.f0), .int .i64 ((rd_T65 l2 x23_1).f1.f1), .int .i64 ((rd_T65 l2 x23_1).f1.f2), .int .i64 ((rd_T65 l2 x23_1).f2), .int .i64 ((rd_T65 l2 x23_1).f3), .int .i64 ((rd_T65 l2 x23_1).f4), .int .i64 ((rd_T65 l2 x23_1).f5), .bool ((rd_T65 l2 x23_1).f6.f0), .string ((rd_T65 l2 x23_1).f6.f1), .bool ((rd_T65 l2 x23_1).f7.f0), .string ((rd_T65 l2 x23_1).f7.f1), .int .i64 ((rd_T65 l2 x23_1).f8)] 65 (0, 0)) (by (with_reducible repeat (first | refine blk_drewN ?_ _ | refine blk_drew ?_ | refine blk_alloc ?_ _)); exact BK108.out) hb); have n5_ := Aside0.mk (below_step (by repeat (first | (with_reducible first | exact HB.out | apply below_alloc | apply pw_below_drewN | apply below_drew1 | refine below_set ?_ GE101.out | refine below_set ?_ GE102.out | refine below_set ?_ GE108.out) | exact HB.out)) hb); have n6_ := Aside0.mk (hbox); have n7_ := Aside0.mk ((by rw [hg]; exact (below_size (by repeat (first | (with_reducible first | exact HB.out | apply below_alloc | apply pw_below_drewN | apply below_drew1 | refine below_set ?_ GE101.out | refine below_set ?_ GE102.out | refine below_set ?_ GE108.out) | exact HB.out))) : w.heap.size ≤ gb116)); have n8_ := Aside0.mk ((by rw [hg]; exact (below_size (by repeat (first | (with_reducible first | exact HB.out | apply below_alloc | apply pw_below_drewN | apply below_drew1 | refine below_set ?_ GE101.out | refine below_set ?_ GE102.out | refine below_set ?_ GE108.out) | exact HB.out))) : w.heap.size ≤ gb116)); have n9_ := Aside0.mk ((by rw [hg]; exact Nat.ne_of_lt (blk_lt (g := gb101) (o := .cells #[.int .i64 x102000_1, .slice Ao57 x102001_1.length co57] 24 (0, 0)) (by (with_reducible repeat (first | refine blk_drewN ?_ _ | refine blk_drew ?_ | refine blk_alloc ?_ _)); exact BK101.out)) : gb101 ≠ gb116)); have n10_ := Aside0.mk ((by rw [hg]; exact Nat.ne_of_gt (blk_lt (g := gb101) (o := .cells #[.int .i64 x102000_1, .slice Ao57 x102001_1.length co57] 24 (0, 0)) (by (with_reducible repeat (first | refine blk_drewN ?_ _ | refine blk_drew ?_ | refine blk_alloc ?_ _)); exact BK101.out)) : gb116 ≠ gb101)); have n11_ := Aside0.mk ((by rw [hg]; exact Nat.ne_of_lt (blk_lt (g := gb102) (o := .cells #[.int .i64 x103000_1, .slice none 0 0] 24 (0, 0)) (by (with_reducible repeat (first | refine blk_drewN ?_ _ | refine blk_drew ?_ | refine blk_alloc ?_ _)); exact BK102.out)) : gb102 ≠ gb116)); have n12_ := Aside0.mk ((by rw [hg]; exact Nat.ne_of_gt (blk_lt (g := gb102) (o := .cells #[.int .i64 x103000_1, .slice none 0 0] 24 (0, 0)) (by (with_reducible repeat (first | refine blk_drewN ?_ _ | refine blk_drew ?_ | refine blk_alloc ?_ _)); exact BK102.out)) : gb116 ≠ gb102)); have n13_ := Aside0.mk ((by rw [hg]; exact Nat.ne_of_lt (blk_lt (g := gb108) (o := .cells #[.int .i64 ((rd_T65 l2 x23_1).f0), .int .i64 ((rd_T65 l2 x23_1).f1.f0), .int .i64 ((rd_T65 l2 x23_1).f1.f1), .int .i64 ((rd_T65 l2 x23_1).f1.f2), .int .i64 ((rd_T65 l2 x23_1).f2), .int .i64 ((rd_T65 l2 x23_1).f3), .int .i64 ((rd_T65 l2 x23_1).f4), .int .i64 ((rd_T65 l2 x23_1).f5), .bool ((rd_T65 l2 x23_1).f6.f0), .string ((rd_T65 l2 x23_1).f6.f1), .bool ((rd_T65 l2 x23_1).f7.f0), .string ((rd_T65 l2 x23_1).f7.f1), .int .i64 ((rd_T65 l2 x23_1).f8)] 65 (0, 0)) (by (with_reducible repeat (first | refine blk_drewN ?_ _ | refine blk_drew ?_ | refine blk_alloc ?_ _)); exact BK108.out)) : gb108 ≠ gb116)); have n14_ := Aside0.mk ((by rw [hg]; exact Nat.ne_of_gt (blk_lt (g := gb108) (o := .cells #[.int .i64 ((rd_T65 l2 x23_1).f0), .int .i64 ((rd_T65 l2 x23_1).f1.f0), .int .i64 ((rd_T65 l2 x23_1).f1.f1), .int .i64 ((rd_T65 l2 x23_1).f1.f2), .int .i64 ((rd_T65 l2 x23_1).f2), .int .i64 ((rd_T65 l2 x23_1).f3), .int .i64 ((rd_T65 l2 x23_1).f4), .int .i64 ((rd_T65 l2 x23_1).f5), .bool ((rd_T65 l2 x23_1).f6.f0), .string ((rd_T65 l2 x23_1).f6.f1), .bool ((rd_T65 l2 x23_1).f7.f0), .string ((rd_T65 l2 x23_1).f7.f1), .int .i64 ((rd_T65 l2 x23_1).f8)] 65 (0, 0)) (by (with_reducible repeat (first | refine blk_drewN ?_ _ | refine blk_drew ?_ | refine blk_alloc ?_ _)); exact BK108.out)) : gb116 ≠ gb108)); clear HO_102001; clear HO113; clear BK101; clear BK102; clear BK108; clear HB; have HO_102001 := n0_; have HO113 := n1_; have BK101 := n2_; have BK102 := n3_; have BK108 := n4_; have HB := n5_; have BK116 := n6_; have GW116 := n7_; have GE116 := n8_; have NB101_116 := n9_; have NB116_101 := n10_; have NB102_116 := n11_; have NB116_102 := n12_; have NB108_116 := n13_; have NB116_108 := n14_; clear n0_ n1_ n2_ n3_ n4_ n5_ n6_ n7_ n8_ n9_ n10_ n11_ n12_ n13_ n14_; clear hb hbox hg; have hnb60 := NB116_101.out; have hnc60 := NB101_116.out; have hnb61 := NB116_102.out; have hnc61 := NB102_116.out; have hnb62 := NB116_108.out; have hnc62 := NB108_116.out; obtain ⟨hcz63_0, hcz63_1⟩ := cl2 (W := w59) BK116.out; obtain ⟨hfz63_0, hfz63_1⟩ := fr2 BK116.out; obtain ⟨Ao64, co64, eo64⟩ := Kd.R_slice HO113.out; subst eo64; obtain ⟨hcz65_0, hcz65_1⟩ := cl2 (W := w59) BK102.out; obtain ⟨hfz65_0, hfz65_1⟩ := fr2 BK102.out))
           refine bodyPost_ret (results_ct rfl _ _ gb102 24 #[.int .i64 0, .slice none 0 0] (0, 0) _ rfl (by (with_reducible repeat (first | refine blk_drewN ?_ _ | refine blk_drew ?_ | refine blk_alloc ?_ _)); refine blk_put (cs := #[.int .i64 0, .slice none 0 0]) ?_ 1 _ rfl; refine blk_put (cs := #[.int .i64 x103000_1, .slice none 0 0]) ?_ 0 _ rfl; refine blk_far ?_ NB102_116.out _; refine blk_far ?_ NB102_116.out _; (with_reducible repeat (first | refine blk_drewN ?_ _ | refine blk_drew ?_ | refine blk_alloc ?_ _)); exact BK102.out) Try.underlying24 rfl (by kernel_rfl)) rfl ?_
           exact ⟨_, by first | rfl | (simp [errW_none, errW_some] <;> rfl) | (simp [*, errW_none, errW_some] <;> rfl), by first | exact Kd.R_nil _ _ _ _ _ | exact Kd.N_nil _ _ _ _ _ | exact Kd.V_nil _ _ _ _ _ | exact Kd.Q_nil _ _ _ _ _ | exact Kd.S_nil _ _ _ _ _, by repeat (first | (with_reducible first | exact HB.out | apply below_alloc | apply pw_below_drewN | apply below_drew1 | refine below_set ?_ GE101.out | refine below_set ?_ GE102.out | refine below_set ?_ GE108.out | refine below_set ?_ GE116.out) | exact HB.out)⟩
      ·rw [if_neg c18] at H
       exact absurd H (by simp)
     ·rw [if_neg c17] at H
      exact absurd H (by simp)
    ·rw [if_neg c16] at H
     have c16b0 : decide (x23_1 < (l2.length : Int)) = false := decide_eq_false c16
     clear c16
     simp only [Option.some.injEq, Prod.mk.injEq] at H
     obtain ⟨rfl, rfl, rfl⟩ := H
     have hnb66 := NB101_102.out
     have hnc66 := NB102_101.out
     obtain ⟨hcz67_0, hcz67_1⟩ := cl2 (W := wr) BK101.out
     obtain ⟨hfz67_0, hfz67_1⟩ := fr2 BK101.out
     obtain ⟨hcz68_0, hcz68_1⟩ := cl2 (W := wr) BK102.out
     obtain ⟨hfz68_0, hfz68_1⟩ := fr2 BK102.out
     obtain ⟨Ao69, co69, eo69⟩ := Kd.R_slice HO_102001.out
     subst eo69
     go_wp2
     refine bodyPost_ret (results_ct rfl _ _ gb102 24 #[.int .i64 x102000_1, .slice Ao69 x102001_1.length co69] (0, 0) _ rfl (by (with_reducible repeat (first | refine blk_drewN ?_ _ | refine blk_drew ?_ | refine blk_alloc ?_ _)); refine blk_put (cs := #[.int .i64 x102000_1, .slice none 0 0]) ?_ 1 _ rfl; refine blk_put (cs := #[.int .i64 x103000_1, .slice none 0 0]) ?_ 0 _ rfl; (with_reducible repeat (first | refine blk_drewN ?_ _ | refine blk_drew ?_ | refine blk_alloc ?_ _)); exact BK102.out) Try.underlying24 rfl (by kernel_rfl)) rfl ?_
     exact ⟨_, by first | rfl | (simp [errW_none, errW_some] <;> rfl) | (simp [*, errW_none, errW_some] <;> rfl), by (with_reducible repeat (first | apply Kd.R_alloc | apply Kd.R_drewN | apply Kd.R_drew)); exact Kd.R_mono (Kd.R_far (p := ⟨gb102, 1, none⟩) (Kd.R_far (p := ⟨gb102, 0, none⟩) (Kd.R_types HO_102001.out BK102.out (by decide)) (fun _ hk => hk.2) (.int .i64 x102000_1)) (fun _ hk => hk.2) (.slice Ao69 x102001_1.length co69)) (fun _ hk => trivial), by repeat (first | (with_reducible first | exact HB.out | apply below_alloc | apply pw_below_drewN | apply below_drew1 | refine below_set ?_ GE101.out | refine below_set ?_ GE102.out) | exact HB.out)⟩
 ·replace c5 := Bool.eq_false_iff.mpr c5
  subst c5
  have H1 : (some (0, ([] : List (S33)), 1)) = some (r1, r2, r3) := by rw [if_neg (show ¬ (false = true) by decide)] at H; exact H
  clear H
  have H := H1
  clear H1
  simp only [Option.some.injEq, Prod.mk.injEq] at H
  obtain ⟨rfl, rfl, rfl⟩ := H
  go_enter Try.func71, Try.ntmps71
  go_wp2_with (first | ((with_reducible refine gate_dst (N := 3) rfl ?_); refine box_event ?hg (N := 3) ?hd (cs := #[.int .i64 a0_0, .slice A0_1 l0_1.length c0_1]) (t := 24) ?hr ?_; (case hd => rfl); (case hg => rfl); (case hr => first | (go_simp; done) | (go_simp; rfl)); intro gb101 hg w70 hbox hb; have n0_ := Aside0.mk (below_step (by repeat (first | (with_reducible first | exact HB.out | apply below_alloc | apply pw_below_drewN | apply below_drew1) | exact HB.out)) hb); have n1_ := Aside0.mk (hbox); have n2_ := Aside0.mk ((by rw [hg]; exact (below_size (by repeat (first | (with_reducible first | exact HB.out | apply below_alloc | apply pw_below_drewN | apply below_drew1) | exact HB.out))) : w.heap.size ≤ gb101)); have n3_ := Aside0.mk ((by rw [hg]; exact (below_size (by repeat (first | (with_reducible first | exact HB.out | apply below_alloc | apply pw_below_drewN | apply below_drew1) | exact HB.out))) : w.heap.size ≤ gb101)); clear HB; have HB := n0_; have BK101 := n1_; have GW101 := n2_; have GE101 := n3_; clear n0_ n1_ n2_ n3_; clear hb hbox hg) | ((with_reducible refine gate_dst (N := 6) rfl ?_); refine box_event ?hg (N := 6) ?hd (cs := #[.int .i64 0, .slice none 0 0]) (t := 24) ?hr ?_; (case hd => rfl); (case hg => rfl); (case hr => first | (go_simp; done) | (go_simp; rfl)); intro gb102 hg w71 hbox hb; have n0_ := Aside0.mk (blk_below (g := gb101) (o := .cells #[.int .i64 a0_0, .slice A0_1 l0_1.length c0_1] 24 (0, 0)) (by (with_reducible repeat (first | refine blk_drewN ?_ _ | refine blk_drew ?_ | refine blk_alloc ?_ _)); exact BK101.out) hb); have n1_ := Aside0.mk (below_step (by repeat (first | (with_reducible first | exact HB.out | apply below_alloc | apply pw_below_drewN | apply below_drew1 | refine below_set ?_ GE101.out) | exact HB.out)) hb); have n2_ := Aside0.mk (hbox); have n3_ := Aside0.mk ((by rw [hg]; exact (below_size (by repeat (first | (with_reducible first | exact HB.out | apply below_alloc | apply pw_below_drewN | apply below_drew1 | refine below_set ?_ GE101.out) | exact HB.out))) : w.heap.size ≤ gb102)); have n4_ := Aside0.mk ((by rw [hg]; exact (below_size (by repeat (first | (with_reducible first | exact HB.out | apply below_alloc | apply pw_below_drewN | apply below_drew1 | refine below_set ?_ GE101.out) | exact HB.out))) : w.heap.size ≤ gb102)); have n5_ := Aside0.mk ((by rw [hg]; exact Nat.ne_of_lt (blk_lt (g := gb101) (o := .cells #[.int .i64 a0_0, .slice A0_1 l0_1.length c0_1] 24 (0, 0)) (by (with_reducible repeat (first | refine blk_drewN ?_ _ | refine blk_drew ?_ | refine blk_alloc ?_ _)); exact BK101.out)) : gb101 ≠ gb102)); have n6_ := Aside0.mk ((by rw [hg]; exact Nat.ne_of_gt (blk_lt (g := gb101) (o := .cells #[.int .i64 a0_0, .slice A0_1 l0_1.length c0_1] 24 (0, 0)) (by (with_reducible repeat (first | refine blk_drewN ?_ _ | refine blk_drew ?_ | refine blk_alloc ?_ _)); exact BK101.out)) : gb102 ≠ gb101)); clear BK101; clear HB; have BK101 := n0_; have HB := n1_; have BK102 := n2_; have GW102 := n3_; have GE102 := n4_; have NB101_102 := n5_; have NB102_101 := n6_; clear n0_ n1_ n2_ n3_ n4_ n5_ n6_; clear hb hbox hg; have hnb72 := NB101_102.out; have hnc72 := NB102_101.out; obtain ⟨hcz73_0, hcz73_1⟩ := cl2 (W := w71) BK101.out; obtain ⟨hfz73_0, hfz73_1⟩ := fr2 BK101.out) | ((with_reducible refine gate_callee (f := 34) rfl ?_); refine goesL_ (some 14) rfl rfl Try.func34 (by kernel_rfl) rfl #[.agg #[.int .i64 a0_0, .slice A0_1 l0_1.length c0_1]] rfl (by (try simp only [List.map_toArray, List.map_cons, List.map_nil]); first | done | rfl | (simp only [List.length_drop, List.length_take]; rfl)) ?_; (with_reducible refine (slabGood.calls a0_0 _ _ l0_1 false _ ?side1 ?side2 A4.out).mono ?_); (case side1 => repeat (first | exact (Kd.C_below HR0_1.out HB.out) | (with_reducible refine Kd.C_alloc ?_ _) | (with_reducible refine Kd.C_drewN ?_ _) | (with_reducible refine Kd.C_drew ?_))); (case side2 => exact HC0_1.out); rintro e w74 ⟨rfl, hb⟩; refine ⟨_, rfl, ?_⟩; have n0_ := Aside0.mk (blk_below (g := gb101) (o := .cells #[.int .i64 a0_0, .slice A0_1 l0_1.length c0_1] 24 (0, 0)) (by (with_reducible repeat (first | refine blk_drewN ?_ _ | refine blk_drew ?_ | refine blk_alloc ?_ _)); exact BK101.out) hb); have n1_ := Aside0.mk (blk_below (g := gb102) (o := .cells #[.int .i64 0, .slice none 0 0] 24 (0, 0)) (by (with_reducible repeat (first | refine blk_drewN ?_ _ | refine blk_drew ?_ | refine blk_alloc ?_ _)); exact BK102.out) hb); have n2_ := Aside0.mk (below_step (by repeat (first | (with_reducible first | exact HB.out | apply below_alloc | apply pw_below_drewN | apply below_drew1 | refine below_set ?_ GE101.out | refine below_set ?_ GE102.out) | exact HB.out)) hb); clear BK101; clear BK102; clear HB; have BK101 := n0_; have BK102 := n1_; have HB := n2_; clear n0_ n1_ n2_; (try clear hb); (try clear hb2); (try clear hk); (try clear hi); obtain ⟨hcz75_0, hcz75_1⟩ := cl2 (W := w74) BK102.out; obtain ⟨hfz75_0, hfz75_1⟩ := fr2 BK102.out))
  refine bodyPost_ret (results_ct rfl _ _ gb102 24 #[.int .i64 0, .slice none 0 0] (0, 0) _ rfl (by (with_reducible repeat (first | refine blk_drewN ?_ _ | refine blk_drew ?_ | refine blk_alloc ?_ _)); refine blk_put (cs := #[.int .i64 0, .slice none 0 0]) ?_ 1 _ rfl; refine blk_put (cs := #[.int .i64 0, .slice none 0 0]) ?_ 0 _ rfl; (with_reducible repeat (first | refine blk_drewN ?_ _ | refine blk_drew ?_ | refine blk_alloc ?_ _)); exact BK102.out) Try.underlying24 rfl (by kernel_rfl)) rfl ?_
  exact ⟨_, by first | rfl | (simp [errW_none, errW_some] <;> rfl) | (simp [*, errW_none, errW_some] <;> rfl), by first | exact Kd.R_nil _ _ _ _ _ | exact Kd.N_nil _ _ _ _ _ | exact Kd.V_nil _ _ _ _ _ | exact Kd.Q_nil _ _ _ _ _ | exact Kd.S_nil _ _ _ _ _, by repeat (first | (with_reducible first | exact HB.out | apply below_alloc | apply pw_below_drewN | apply below_drew1 | refine below_set ?_ GE101.out | refine below_set ?_ GE102.out) | exact HB.out)⟩
end Go.Proofs.Ytfjmnaobfbmllaa.M
namespace Go.Proofs.Ytfjmnaobfbmllaa.M
open Go.RowKit Go.Proofs.YtfjmnaobfbmllaaW.PrintWords Go.Proofs.YtfjmnaobfbmllaaW.PrintLast Go.Proofs.YtfjmnaobfbmllaaW.PrintMore
set_option linter.unusedVariables false
set_option linter.unusedSimpArgs false
theorem rd65i (l : List S65) (i : Nat) (h : i < l.length) : rd_T65 l (i : Int) = l[i] := by simp [rd_T65, h]
theorem all_loop (p : Int) (list : List S65) (hn : list.length ≤ 9223372036854775807) (d : Nat) : ∀ (k i : Nat) (a : Int) (l : List S33), i + d = list.length → 2 * d < k → patch_All.l0 k p list (list.length : Int) i a l = some (allF p a l (list.drop i)) := by
  induction d with
  | zero =>
    intro k i a l hi hk
    obtain ⟨k, rfl⟩ : ∃ m, k = m + 1 := ⟨k - 1, by omega⟩
    simp only [patch_All.l0]
    rw [if_neg (by omega), List.drop_of_length_le (by omega)]
    rfl
  | succ d ih =>
    intro k i a l hi hk
    obtain ⟨k, rfl⟩ : ∃ m, k = m + 2 := ⟨k - 2, by omega⟩
    have hlt : i < list.length := by omega
    have hw : wrap64 ((i : Int) + 1) = ((i + 1 : Nat) : Int) := by rw [w64 _ (by omega) (by omega)]; omega
    have hj : ∀ b, (b = true ↔ ¬ hits p list[i]) → patch_All.j1 (k + 1) p list (list.length : Int) i b a l list[i].f0 list[i].f1.f0 list[i].f1.f1 list[i].f1.f2 list[i].f2 list[i].f3 list[i].f4 list[i].f5 list[i].f6.f0 list[i].f6.f1 list[i].f7.f0 list[i].f7.f1 list[i].f8 = some (allF p a l (list.drop i)) := by
      intro b hb
      simp only [patch_All.j1]
      rw [List.drop_eq_getElem_cons hlt, hw]
      simp only [allF]
      cases b with
      | true =>
        rw [if_pos rfl, if_neg (hb.mp rfl)]
        exact ih k (i + 1) a l (by omega) (by omega)
      | false =>
        have hh : hits p list[i] := Decidable.byContradiction fun h => by have := hb.mpr h; cases this
        rw [if_neg Bool.false_ne_true, if_pos hh]
        unfold patRedo.f
        rw [mk_eq, Option.bind_some]
        by_cases h0 : (redoP a l list[i]).2.2.2 = 0
        · rw [if_pos h0, if_pos h0]
          exact ih k (i + 1) _ _ (by omega) (by omega)
        · rw [if_neg h0, if_neg h0]
    have e2 : k + 2 = (k + 1) + 1 := rfl
    rw [e2]
    simp only [patch_All.l0]
    rw [if_pos (by omega), if_pos (by omega), if_pos (by omega), rd65i list i hlt, changes_eq, Option.bind_some]
    by_cases hc : list[i].f0 = 1 ∨ list[i].f0 = 2
    · rw [decide_eq_true hc, if_pos rfl]
      exact hj _ ⟨fun h h2 => by have := h2.2; simp [this] at h, fun h => by
        have : list[i].f4 ≠ p := fun e => h ⟨hc, e⟩
        simpa using this⟩
    · rw [decide_eq_false hc, if_neg Bool.false_ne_true]
      exact hj _ ⟨fun _ h => hc h.1, fun _ => rfl⟩
theorem all_pure (a : Int) (l : List S33) (p : Int) (list : List S65) (hn : list.length ≤ 9223372036854775807) : patch_All.f (2 * list.length + 1) a l p list = some (allP a l p list) := by
  unfold patch_All.f slabGood.f allP
  rw [Option.bind_some]
  by_cases hg : goodP a l = true
  · obtain ⟨_, _, hlen, _⟩ := (good_iff a l).mp hg
    rw [if_pos hg, if_pos hg]
    unfold slices_Clone.f
    rw [if_pos (by omega), Option.bind_some]
    have := all_loop p list hn list.length (2 * list.length + 1) 0 a l (by omega) (by omega)
    rwa [List.drop_zero] at this
  · rw [if_neg hg, if_neg hg]
def patAll.f (a : Int) (l : List S33) (p : Int) (list : List S65) : Option (Int × List S33 × Int) := some (allP a l p list)
theorem patAll.calls (a : Int) (A : Option Addr) (c : Nat) (l : List S33) (p : Int) (B : Option Addr) (c2 : Nat) (list : List S65) (r1 : Int) (r2 : List S33) (r3 : Int) (w : World) (hr : Kd.C k33 w A l.length l) (hc : l.length ≤ c) (hr2 : Kd.C k65 w B list.length list) (hc2 : list.length ≤ c2) (h : patAll.f a l p list = some (r1, r2, r3)) :
    Calls Try.prog 71 #[.agg #[.int .i64 a, .slice A l.length c], .int .i64 p, .slice B list.length c2] w fun e w' => ∃ v1_ : Value, e = .returned (.tuple #[.agg #[.int .i64 r1, v1_], .int .i64 r3]) ∧ Kd.R k33 33 w' w.heap.size (fun _ => True) v1_ r2 ∧ Below w.heap.size w w' :=
  patch_All.calls _ a A c l p B c2 list r1 r2 r3 w hr hc hr2 hc2 (by rw [← h]; exact all_pure a l p list (Kd.C_max hr2))
end Go.Proofs.Ytfjmnaobfbmllaa.M
namespace Go.Proofs.Ytfjmnaobfbmllaa.M
open Go.RowKit Go.Proofs.YtfjmnaobfbmllaaW.PrintWords Go.Proofs.YtfjmnaobfbmllaaW.PrintLast Go.Proofs.YtfjmnaobfbmllaaW.PrintMore
def vp1 : List S33 := [⟨true, ⟨#[97]⟩⟩]
theorem v65_1 : seneschallaw05_insert.f = some (1, 1, 1, 1, 5, 0, 0, 0, false, (⟨#[]⟩ : ByteArray), true, (⟨#[97]⟩ : ByteArray), 0) := by kernel_rfl
theorem v65_2 : patRedo.f 0 ([] : List S33) 1 1 1 1 5 0 0 0 false (⟨#[]⟩ : ByteArray) true (⟨#[97]⟩ : ByteArray) 0 = some (5, vp1, true, 0) := by decide +kernel
theorem v65_3 : patRedo.f 5 vp1 1 1 1 1 5 0 0 0 false (⟨#[]⟩ : ByteArray) true (⟨#[97]⟩ : ByteArray) 0 = some (5, vp1, false, 0) := by decide +kernel
theorem v65_4 : patTurn.f 1 1 1 1 5 0 0 0 false (⟨#[]⟩ : ByteArray) true (⟨#[97]⟩ : ByteArray) 0 6 5 = some (2, 1, 1, 1, 6, 5, 0, 0, true, (⟨#[97]⟩ : ByteArray), false, (⟨#[]⟩ : ByteArray), 0, 0) := by kernel_rfl
theorem v65_5 : patAll.f 5 vp1 0 [(⟨1, (⟨1, 1, 1⟩ : S52), 5, 0, 0, 0, (⟨false, (⟨#[]⟩ : ByteArray)⟩ : S33), (⟨true, (⟨#[97]⟩ : ByteArray)⟩ : S33), 0⟩ : S65), (⟨2, (⟨1, 1, 1⟩ : S52), 6, 5, 0, 0, (⟨true, (⟨#[97]⟩ : ByteArray)⟩ : S33), (⟨false, (⟨#[]⟩ : ByteArray)⟩ : S33), 0⟩ : S65)] = some (6, ([] : List S33), 0) := by decide +kernel
end Go.Proofs.Ytfjmnaobfbmllaa.M
namespace Go.Proofs.Ytfjmnaobfbmllaa.M
open Go.RowKit Go.Proofs.YtfjmnaobfbmllaaW.PrintWords Go.Proofs.YtfjmnaobfbmllaaW.PrintLast Go.Proofs.YtfjmnaobfbmllaaW.PrintMore
attribute [local go_sem] max2_int min2_int max_two min_two max_three min_three max_four min_four   -- for this text's walks alone
set_option linter.unusedVariables false
set_option linter.unusedSimpArgs false
end Go.Proofs.Ytfjmnaobfbmllaa.M
