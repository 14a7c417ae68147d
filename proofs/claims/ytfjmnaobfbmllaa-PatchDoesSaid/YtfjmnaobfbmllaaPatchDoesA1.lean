/- The law PatchDoes: it returns true for every input, and its arguments read as they did. No condition. Part 2 of 5. -/
import Derived.Test.YtfjmnaobfbmllaaProg
import Derived.Test.YtfjmnaobfbmllaaRows
import Derived.Test.YtfjmnaobfbmllaaUApart
import Derived.Test.YtfjmnaobfbmllaaUEqStruct
import Derived.Test.YtfjmnaobfbmllaaUFoot
import Derived.Test.YtfjmnaobfbmllaaUGuard
import Derived.Test.YtfjmnaobfbmllaaUKept
import Derived.Test.YtfjmnaobfbmllaaULast
import Derived.Test.YtfjmnaobfbmllaaUMore
import Derived.Test.YtfjmnaobfbmllaaUN
import Derived.Test.YtfjmnaobfbmllaaURepsOne
import Derived.Test.YtfjmnaobfbmllaaUShare
import Derived.Test.YtfjmnaobfbmllaaUTab
import Derived.Test.YtfjmnaobfbmllaaUWords
import Derived.ArgAppend
import Derived.Below
import Derived.BigQuiet
import Derived.Carry
import Derived.ChangeArms
import Derived.ChangeMaps
import Derived.ChangeOld
import Derived.Deep.AppendLies
import Derived.Deep.CutBlock
import Derived.Deep.DeepCutAuto
import Derived.Deep.Draws
import Derived.Deep.LoopGhost
import Derived.Deep.OwnRows
import Derived.Deep.QuietTactic
import Derived.Deep.RegionHeld3
import Derived.Deep.Slices
import Derived.KernelRfl
import Derived.Laws.Bits64
import Derived.Laws.Bits64b
import Derived.Laws.BitsAllLaws
import Derived.Laws.BitsLemmas
import Derived.Laws.BytesArg
import Derived.Laws.CopyOwn
import Derived.Laws.IdiomCopy
import Derived.Laws.MakeOwn
import Derived.Laws.OwnMore
import Derived.Laws.Rows
import Derived.Laws.Slices
import Derived.Lib.AppendStr
import Derived.Lib.ConvBytes
import Derived.Maps.AppendAt
import Derived.OpenShut
import Derived.OrdersHeld
import Derived.OwnWalk
import Derived.ProofKit
import Derived.RowKit
import Derived.RowKit3
import Derived.ShutString
import Derived.SizedLaws
import Derived.Tactics
import Derived.WalkKit
import Derived.WalkSpells
import Derived.WideLaws
import Derived.Test.YtfjmnaobfbmllaaPatchDoesA0
namespace Go.Proofs.Ytfjmnaobfbmllaa.M
open Go.RowKit Go.Proofs.YtfjmnaobfbmllaaW.PrintWords Go.Proofs.YtfjmnaobfbmllaaW.PrintLast Go.Proofs.YtfjmnaobfbmllaaW.PrintMore
attribute [local go_sem] max2_int min2_int max_two min_two max_three min_three max_four min_four   -- for this text's walks alone
set_option linter.unusedVariables false
set_option linter.unusedSimpArgs false
attribute [local go_sem high] eqA65
set_option maxHeartbeats 8000000 in
set_option maxRecDepth 100000 in
theorem entry_Good.calls (k : Nat) (a0_0 : Int) (a0_1 : Int) (a0_2 : Int) (a0_3 : Int) (a0_4 : Int) (a0_5 : Int) (a0_6 : Int) (a0_7 : Int) (a0_8 : Bool) (a0_9 : ByteArray) (a0_10 : Bool) (a0_11 : ByteArray) (a0_12 : Int) (r : Bool) (w : World) (h : entry_Good.f k a0_0 a0_1 a0_2 a0_3 a0_4 a0_5 a0_6 a0_7 a0_8 a0_9 a0_10 a0_11 a0_12 = some r) :
  Calls Try.prog 55 #[.agg #[.int .i64 a0_0, .int .i64 a0_1, .int .i64 a0_2, .int .i64 a0_3, .int .i64 a0_4, .int .i64 a0_5, .int .i64 a0_6, .int .i64 a0_7, .bool a0_8, .string a0_9, .bool a0_10, .string a0_11, .int .i64 a0_12]] w fun e w' => e = .returned (.bool r) ∧ Below w.heap.size w w' := by
 have hu65 := Try.underlying65
 have hu52 := Try.underlying52
 have hu33 := Try.underlying33
 have HB := Aside0.mk (Below.refl w.heap.size w)
 have H : ((entKnown.f a0_1 a0_2 a0_3).bind fun t102 => (if t102 = true then ((entry_within.f a0_4 1 1099511627776).bind fun t103 => (if t103 = true then ((entry_within.f a0_5 0 (wrap64 (a0_4 - 1))).bind fun t104 => (entry_Good.j0 k (!t104) a0_0 a0_1 a0_2 a0_3 a0_4 a0_5 a0_6 a0_7 a0_8 a0_9 a0_10 a0_11 a0_12)) else (entry_Good.j0 k true a0_0 a0_1 a0_2 a0_3 a0_4 a0_5 a0_6 a0_7 a0_8 a0_9 a0_10 a0_11 a0_12))) else (entry_Good.j0 k true a0_0 a0_1 a0_2 a0_3 a0_4 a0_5 a0_6 a0_7 a0_8 a0_9 a0_10 a0_11 a0_12))) = some r := h
 clear h
 have HC2 := Aside0.mk H
 clear H
 go_enter Try.func55, Try.ntmps55
 go_upto_region 1 with (first | ((with_reducible refine gate_dst (N := 1) rfl ?_); refine box_event ?hg (N := 1) ?hd (cs := #[.int .i64 a0_0, .int .i64 a0_1, .int .i64 a0_2, .int .i64 a0_3, .int .i64 a0_4, .int .i64 a0_5, .int .i64 a0_6, .int .i64 a0_7, .bool a0_8, .string a0_9, .bool a0_10, .string a0_11, .int .i64 a0_12]) (t := 65) ?hr ?_; (case hd => rfl); (case hg => rfl); (case hr => first | (go_simp; done) | (go_simp; rfl)); intro gb101 hg w3 hbox hb; have n0_ := Aside0.mk (below_step (by repeat (first | (with_reducible first | exact HB.out | apply below_alloc | apply pw_below_drewN | apply below_drew1) | exact HB.out)) hb); have n1_ := Aside0.mk (hbox); have n2_ := Aside0.mk ((by rw [hg]; exact (below_size (by repeat (first | (with_reducible first | exact HB.out | apply below_alloc | apply pw_below_drewN | apply below_drew1) | exact HB.out))) : w.heap.size ≤ gb101)); have n3_ := Aside0.mk ((by rw [hg]; exact (below_size (by repeat (first | (with_reducible first | exact HB.out | apply below_alloc | apply pw_below_drewN | apply below_drew1) | exact HB.out))) : w.heap.size ≤ gb101)); clear HB; have HB := n0_; have BK101 := n1_; have GW101 := n2_; have GE101 := n3_; clear n0_ n1_ n2_ n3_; clear hb hbox hg))
 (try simp only [Act.put, List.setIfInBounds_toArray, List.set_cons_zero, List.set_cons_succ])
 go_cut [22] (fun v22 wc => ∃ (kq : Nat) (x22_1 : Bool), v22 = .bool x22_1 ∧ Aside0 (entry_Good.j0 kq x22_1 a0_0 a0_1 a0_2 a0_3 a0_4 a0_5 a0_6 a0_7 a0_8 a0_9 a0_10 a0_11 a0_12 = some r) ∧ Aside0 (kq ≤ k) ∧ Aside0 (wc.heap[gb101]? = some (.cells #[.int .i64 a0_0, .int .i64 a0_1, .int .i64 a0_2, .int .i64 a0_3, .int .i64 a0_4, .int .i64 a0_5, .int .i64 a0_6, .int .i64 a0_7, .bool a0_8, .string a0_9, .bool a0_10, .string a0_11, .int .i64 a0_12] 65 (0, 0))) ∧ Aside0 (Below w.heap.size w wc))
 case first =>
  have H := HC2.out
  clear HC2
  replace H := Option.bind_eq_some_iff.mp H
  obtain ⟨t102, A40, H⟩ := H
  replace H : (if t102 = true then ((entry_within.f a0_4 1 1099511627776).bind fun t103 => (if t103 = true then ((entry_within.f a0_5 0 (wrap64 (a0_4 - 1))).bind fun t104 => (entry_Good.j0 k (!t104) a0_0 a0_1 a0_2 a0_3 a0_4 a0_5 a0_6 a0_7 a0_8 a0_9 a0_10 a0_11 a0_12)) else (entry_Good.j0 k true a0_0 a0_1 a0_2 a0_3 a0_4 a0_5 a0_6 a0_7 a0_8 a0_9 a0_10 a0_11 a0_12))) else (entry_Good.j0 k true a0_0 a0_1 a0_2 a0_3 a0_4 a0_5 a0_6 a0_7 a0_8 a0_9 a0_10 a0_11 a0_12)) = some r := H
  have A4 := Aside0.mk A40
  clear A40
  by_cases c5 : t102 = true
  ·subst c5
   have H1 : ((entry_within.f a0_4 1 1099511627776).bind fun t103 => (if t103 = true then ((entry_within.f a0_5 0 (wrap64 (a0_4 - 1))).bind fun t104 => (entry_Good.j0 k (!t104) a0_0 a0_1 a0_2 a0_3 a0_4 a0_5 a0_6 a0_7 a0_8 a0_9 a0_10 a0_11 a0_12)) else (entry_Good.j0 k true a0_0 a0_1 a0_2 a0_3 a0_4 a0_5 a0_6 a0_7 a0_8 a0_9 a0_10 a0_11 a0_12))) = some r := by rw [if_pos rfl] at H; exact H
   clear H
   have H := H1
   clear H1
   replace H := Option.bind_eq_some_iff.mp H
   obtain ⟨t103, A60, H⟩ := H
   replace H : (if t103 = true then ((entry_within.f a0_5 0 (wrap64 (a0_4 - 1))).bind fun t104 => (entry_Good.j0 k (!t104) a0_0 a0_1 a0_2 a0_3 a0_4 a0_5 a0_6 a0_7 a0_8 a0_9 a0_10 a0_11 a0_12)) else (entry_Good.j0 k true a0_0 a0_1 a0_2 a0_3 a0_4 a0_5 a0_6 a0_7 a0_8 a0_9 a0_10 a0_11 a0_12)) = some r := H
   have A6 := Aside0.mk A60
   clear A60
   by_cases c7 : t103 = true
   ·subst c7
    have H1 : ((entry_within.f a0_5 0 (wrap64 (a0_4 - 1))).bind fun t104 => (entry_Good.j0 k (!t104) a0_0 a0_1 a0_2 a0_3 a0_4 a0_5 a0_6 a0_7 a0_8 a0_9 a0_10 a0_11 a0_12)) = some r := by rw [if_pos rfl] at H; exact H
    clear H
    have H := H1
    clear H1
    replace H := Option.bind_eq_some_iff.mp H
    obtain ⟨t104, A80, H⟩ := H
    replace H : (entry_Good.j0 k (!t104) a0_0 a0_1 a0_2 a0_3 a0_4 a0_5 a0_6 a0_7 a0_8 a0_9 a0_10 a0_11 a0_12) = some r := H
    have A8 := Aside0.mk A80
    clear A80
    have H' := Aside0.mk H
    clear H
    obtain ⟨hcz9_0, hcz9_1, hcz9_2, hcz9_3, hcz9_4, hcz9_5, hcz9_6, hcz9_7, hcz9_8, hcz9_9, hcz9_10, hcz9_11, hcz9_12⟩ := cl13 (W := w3) BK101.out
    obtain ⟨hfz9_0, hfz9_1, hfz9_2, hfz9_3, hfz9_4, hfz9_5, hfz9_6, hfz9_7, hfz9_8, hfz9_9, hfz9_10, hfz9_11, hfz9_12⟩ := fr13 BK101.out
    go_wp2_with (first | ((with_reducible refine gate_callee (f := 59) rfl ?_); refine goesL_ (some 6) rfl rfl Try.func59 (by kernel_rfl) rfl #[.agg #[.int .i64 a0_1, .int .i64 a0_2, .int .i64 a0_3]] rfl (by (try simp only [List.map_toArray, List.map_cons, List.map_nil]); first | done | rfl | (simp only [List.length_drop, List.length_take]; rfl)) ?_; (with_reducible refine (entKnown.calls a0_1 a0_2 a0_3 true _ A4.out).mono ?_); rintro e w10 ⟨rfl, hb⟩; refine ⟨_, rfl, ?_⟩; have n0_ := Aside0.mk (blk_below (g := gb101) (o := .cells #[.int .i64 a0_0, .int .i64 a0_1, .int .i64 a0_2, .int .i64 a0_3, .int .i64 a0_4, .int .i64 a0_5, .int .i64 a0_6, .int .i64 a0_7, .bool a0_8, .string a0_9, .bool a0_10, .string a0_11, .int .i64 a0_12] 65 (0, 0)) (by (with_reducible repeat (first | refine blk_drewN ?_ _ | refine blk_drew ?_ | refine blk_alloc ?_ _)); exact BK101.out) hb); have n1_ := Aside0.mk (below_step (by repeat (first | (with_reducible first | exact HB.out | apply below_alloc | apply pw_below_drewN | apply below_drew1 | refine below_set ?_ GE101.out) | exact HB.out)) hb); clear BK101; clear HB; have BK101 := n0_; have HB := n1_; clear n0_ n1_; (try clear hb); (try clear hb2); (try clear hk); (try clear hi); obtain ⟨hcz11_0, hcz11_1, hcz11_2, hcz11_3, hcz11_4, hcz11_5, hcz11_6, hcz11_7, hcz11_8, hcz11_9, hcz11_10, hcz11_11, hcz11_12⟩ := cl13 (W := w10) BK101.out; obtain ⟨hfz11_0, hfz11_1, hfz11_2, hfz11_3, hfz11_4, hfz11_5, hfz11_6, hfz11_7, hfz11_8, hfz11_9, hfz11_10, hfz11_11, hfz11_12⟩ := fr13 BK101.out) | (go_at_call 102; (with_reducible refine (entry_within.calls a0_4 1 1099511627776 true _ A6.out).mono ?_); rintro e w' ⟨rfl, ⟨nd, rfl⟩⟩) | (go_at_call 102; (with_reducible refine (entry_within.calls a0_5 0 (wrap64 (a0_4 - 1)) t104 _ A8.out).mono ?_); rintro e w' ⟨rfl, ⟨nd, rfl⟩⟩))
    go_meet
    case rel => exact ⟨_, (!t104), (by first | rfl | (simp; done) | (simp [*]; done)), H', ⟨by first | omega | exact Nat.le_refl _⟩, ⟨by (with_reducible repeat (first | refine blk_drewN ?_ _ | refine blk_drew ?_ | refine blk_alloc ?_ _)); exact BK101.out⟩, ⟨by repeat (first | (with_reducible first | exact HB.out | apply below_alloc | apply pw_below_drewN | apply below_drew1 | refine below_set ?_ GE101.out) | exact HB.out)⟩⟩
   ·replace c7 := Bool.eq_false_iff.mpr c7
    subst c7
    have H1 : (entry_Good.j0 k true a0_0 a0_1 a0_2 a0_3 a0_4 a0_5 a0_6 a0_7 a0_8 a0_9 a0_10 a0_11 a0_12) = some r := by rw [if_neg (show ¬ (false = true) by decide)] at H; exact H
    clear H
    have H := H1
    clear H1
    have H' := Aside0.mk H
    clear H
    obtain ⟨hcz12_0, hcz12_1, hcz12_2, hcz12_3, hcz12_4, hcz12_5, hcz12_6, hcz12_7, hcz12_8, hcz12_9, hcz12_10, hcz12_11, hcz12_12⟩ := cl13 (W := w3) BK101.out
    obtain ⟨hfz12_0, hfz12_1, hfz12_2, hfz12_3, hfz12_4, hfz12_5, hfz12_6, hfz12_7, hfz12_8, hfz12_9, hfz12_10, hfz12_11, hfz12_12⟩ := fr13 BK101.out
    go_wp2_with (first | ((with_reducible refine gate_callee (f := 59) rfl ?_); refine goesL_ (some 6) rfl rfl Try.func59 (by kernel_rfl) rfl #[.agg #[.int .i64 a0_1, .int .i64 a0_2, .int .i64 a0_3]] rfl (by (try simp only [List.map_toArray, List.map_cons, List.map_nil]); first | done | rfl | (simp only [List.length_drop, List.length_take]; rfl)) ?_; (with_reducible refine (entKnown.calls a0_1 a0_2 a0_3 true _ A4.out).mono ?_); rintro e w13 ⟨rfl, hb⟩; refine ⟨_, rfl, ?_⟩; have n0_ := Aside0.mk (blk_below (g := gb101) (o := .cells #[.int .i64 a0_0, .int .i64 a0_1, .int .i64 a0_2, .int .i64 a0_3, .int .i64 a0_4, .int .i64 a0_5, .int .i64 a0_6, .int .i64 a0_7, .bool a0_8, .string a0_9, .bool a0_10, .string a0_11, .int .i64 a0_12] 65 (0, 0)) (by (with_reducible repeat (first | refine blk_drewN ?_ _ | refine blk_drew ?_ | refine blk_alloc ?_ _)); exact BK101.out) hb); have n1_ := Aside0.mk (below_step (by repeat (first | (with_reducible first | exact HB.out | apply below_alloc | apply pw_below_drewN | apply below_drew1 | refine below_set ?_ GE101.out) | exact HB.out)) hb); clear BK101; clear HB; have BK101 := n0_; have HB := n1_; clear n0_ n1_; (try clear hb); (try clear hb2); (try clear hk); (try clear hi); obtain ⟨hcz14_0, hcz14_1, hcz14_2, hcz14_3, hcz14_4, hcz14_5, hcz14_6, hcz14_7, hcz14_8, hcz14_9, hcz14_10, hcz14_11, hcz14_12⟩ := cl13 (W := w13) BK101.out; obtain ⟨hfz14_0, hfz14_1, hfz14_2, hfz14_3, hfz14_4, hfz14_5, hfz14_6, hfz14_7, hfz14_8, hfz14_9, hfz14_10, hfz14_11, hfz14_12⟩ := fr13 BK101.out) | (go_at_call 102; (with_reducible refine (entry_within.calls a0_4 1 1099511627776 false _ A6.out).mono ?_); rintro e w' ⟨rfl, ⟨nd, rfl⟩⟩))
    go_meet
    case rel => exact ⟨_, (true), (by first | rfl | (simp; done) | (simp [*]; done)), H', ⟨by first | omega | exact Nat.le_refl _⟩, ⟨by (with_reducible repeat (first | refine blk_drewN ?_ _ | refine blk_drew ?_ | refine blk_alloc ?_ _)); exact BK101.out⟩, ⟨by repeat (first | (with_reducible first | exact HB.out | apply below_alloc | apply pw_below_drewN | apply below_drew1 | refine below_set ?_ GE101.out) | exact HB.out)⟩⟩
  ·replace c5 := Bool.eq_false_iff.mpr c5
   subst c5
   have H1 : (entry_Good.j0 k true a0_0 a0_1 a0_2 a0_3 a0_4 a0_5 a0_6 a0_7 a0_8 a0_9 a0_10 a0_11 a0_12) = some r := by rw [if_neg (show ¬ (false = true) by decide)] at H; exact H
   clear H
   have H := H1
   clear H1
   have H' := Aside0.mk H
   clear H
   obtain ⟨hcz15_0, hcz15_1, hcz15_2, hcz15_3, hcz15_4, hcz15_5, hcz15_6, hcz15_7, hcz15_8, hcz15_9, hcz15_10, hcz15_11, hcz15_12⟩ := cl13 (W := w3) BK101.out
   obtain ⟨hfz15_0, hfz15_1, hfz15_2, hfz15_3, hfz15_4, hfz15_5, hfz15_6, hfz15_7, hfz15_8, hfz15_9, hfz15_10, hfz15_11, hfz15_12⟩ := fr13 BK101.out
   go_wp2_with (first | ((with_reducible refine gate_callee (f := 59) rfl ?_); refine goesL_ (some 6) rfl rfl Try.func59 (by kernel_rfl) rfl #[.agg #[.int .i64 a0_1, .int .i64 a0_2, .int .i64 a0_3]] rfl (by (try simp only [List.map_toArray, List.map_cons, List.map_nil]); first | done | rfl | (simp only [List.length_drop, List.length_take]; rfl)) ?_; (with_reducible refine (entKnown.calls a0_1 a0_2 a0_3 false _ A4.out).mono ?_); rintro e w16 ⟨rfl, hb⟩; refine ⟨_, rfl, ?_⟩; have n0_ := Aside0.mk (blk_below (g := gb101) (o := .cells #[.int .i64 a0_0, .int .i64 a0_1, .int .i64 a0_2, .int .i64 a0_3, .int .i64 a0_4, .int .i64 a0_5, .int .i64 a0_6, .int .i64 a0_7, .bool a0_8, .string a0_9, .bool a0_10, .string a0_11, .int .i64 a0_12] 65 (0, 0)) (by (with_reducible repeat (first | refine blk_drewN ?_ _ | refine blk_drew ?_ | refine blk_alloc ?_ _)); exact BK101.out) hb); have n1_ := Aside0.mk (below_step (by repeat (first | (with_reducible first | exact HB.out | apply below_alloc | apply pw_below_drewN | apply below_drew1 | refine below_set ?_ GE101.out) | exact HB.out)) hb); clear BK101; clear HB; have BK101 := n0_; have HB := n1_; clear n0_ n1_; (try clear hb); (try clear hb2); (try clear hk); (try clear hi)))
   go_meet
   case rel => exact ⟨_, (true), (by first | rfl | (simp; done) | (simp [*]; done)), H', ⟨by first | omega | exact Nat.le_refl _⟩, ⟨by (with_reducible repeat (first | refine blk_drewN ?_ _ | refine blk_drew ?_ | refine blk_alloc ?_ _)); exact BK101.out⟩, ⟨by repeat (first | (with_reducible first | exact HB.out | apply below_alloc | apply pw_below_drewN | apply below_drew1 | refine below_set ?_ GE101.out) | exact HB.out)⟩⟩
 case rest =>
  clear HC2
  try clear p2
  try clear c5
  try clear p6
  try clear c7
  try clear hcz11_0
  try clear hcz11_1
  try clear hcz11_10
  try clear hcz11_11
  try clear hcz11_12
  try clear hcz11_2
  try clear hcz11_3
  try clear hcz11_4
  try clear hcz11_5
  try clear hcz11_6
  try clear hcz11_7
  try clear hcz11_8
  try clear hcz11_9
  try clear hcz12_0
  try clear hcz12_1
  try clear hcz12_10
  try clear hcz12_11
  try clear hcz12_12
  try clear hcz12_2
  try clear hcz12_3
  try clear hcz12_4
  try clear hcz12_5
  try clear hcz12_6
  try clear hcz12_7
  try clear hcz12_8
  try clear hcz12_9
  try clear hcz14_0
  try clear hcz14_1
  try clear hcz14_10
  try clear hcz14_11
  try clear hcz14_12
  try clear hcz14_2
  try clear hcz14_3
  try clear hcz14_4
  try clear hcz14_5
  try clear hcz14_6
  try clear hcz14_7
  try clear hcz14_8
  try clear hcz14_9
  try clear hcz15_0
  try clear hcz15_1
  try clear hcz15_10
  try clear hcz15_11
  try clear hcz15_12
  try clear hcz15_2
  try clear hcz15_3
  try clear hcz15_4
  try clear hcz15_5
  try clear hcz15_6
  try clear hcz15_7
  try clear hcz15_8
  try clear hcz15_9
  try clear hcz9_0
  try clear hcz9_1
  try clear hcz9_10
  try clear hcz9_11
  try clear hcz9_12
  try clear hcz9_2
  try clear hcz9_3
  try clear hcz9_4
  try clear hcz9_5
  try clear hcz9_6
  try clear hcz9_7
  try clear hcz9_8
  try clear hcz9_9
  try clear hfz11_0
  try clear hfz11_1
  try clear hfz11_10
  try clear hfz11_11
  try clear hfz11_12
  try clear hfz11_2
  try clear hfz11_3
  try clear hfz11_4
  try clear hfz11_5
  try clear hfz11_6
  try clear hfz11_7
  try clear hfz11_8
  try clear hfz11_9
  try clear hfz12_0
  try clear hfz12_1
  try clear hfz12_10
  try clear hfz12_11
  try clear hfz12_12
  try clear hfz12_2
  try clear hfz12_3
  try clear hfz12_4
  try clear hfz12_5
  try clear hfz12_6
  try clear hfz12_7
  try clear hfz12_8
  try clear hfz12_9
  try clear hfz14_0
  try clear hfz14_1
  try clear hfz14_10
  try clear hfz14_11
  try clear hfz14_12
  try clear hfz14_2
  try clear hfz14_3
  try clear hfz14_4
  try clear hfz14_5
  try clear hfz14_6
  try clear hfz14_7
  try clear hfz14_8
  try clear hfz14_9
  try clear hfz15_0
  try clear hfz15_1
  try clear hfz15_10
  try clear hfz15_11
  try clear hfz15_12
  try clear hfz15_2
  try clear hfz15_3
  try clear hfz15_4
  try clear hfz15_5
  try clear hfz15_6
  try clear hfz15_7
  try clear hfz15_8
  try clear hfz15_9
  try clear hfz9_0
  try clear hfz9_1
  try clear hfz9_10
  try clear hfz9_11
  try clear hfz9_12
  try clear hfz9_2
  try clear hfz9_3
  try clear hfz9_4
  try clear hfz9_5
  try clear hfz9_6
  try clear hfz9_7
  try clear hfz9_8
  try clear hfz9_9
  obtain ⟨kq, x22_1, rfl, HA, HJ1, BK101, HB⟩ := hcut
  cases kq with
  | zero => exact absurd HA.out (by simp [entry_Good.j0])
  | succ kj1 =>
   have H := HA.out
   clear HA
   simp only [entry_Good.j0] at H
   by_cases c17 : x22_1 = true
   ·subst c17
    have H1 : (some false) = some r := by rw [if_pos rfl] at H; exact H
    clear H
    have H := H1
    clear H1
    obtain rfl := Option.some.inj H
    go_wp2
    go_ret
    exact ⟨by first | rfl | (simp [errW_none, errW_some] <;> rfl) | (simp [*, errW_none, errW_some] <;> rfl), by repeat (first | (with_reducible first | exact HB.out | apply below_alloc | apply pw_below_drewN | apply below_drew1 | refine below_set ?_ GE101.out) | exact HB.out)⟩
   ·replace c17 := Bool.eq_false_iff.mpr c17
    subst c17
    have H1 : ((entry_within.f a0_6 0 1023).bind fun t105 => (if t105 = true then ((entry_within.f a0_7 0 31).bind fun t106 => (if t106 = true then ((entry_isSlot.f a0_8 a0_9).bind fun t107 => (if t107 = true then ((entry_isSlot.f a0_10 a0_11).bind fun t108 => (entry_Good.j1 kj1 t108 a0_0 a0_1 a0_2 a0_3 a0_4 a0_5 a0_6 a0_7 a0_8 a0_9 a0_10 a0_11 a0_12)) else (entry_Good.j1 kj1 false a0_0 a0_1 a0_2 a0_3 a0_4 a0_5 a0_6 a0_7 a0_8 a0_9 a0_10 a0_11 a0_12))) else (entry_Good.j1 kj1 false a0_0 a0_1 a0_2 a0_3 a0_4 a0_5 a0_6 a0_7 a0_8 a0_9 a0_10 a0_11 a0_12))) else (entry_Good.j1 kj1 false a0_0 a0_1 a0_2 a0_3 a0_4 a0_5 a0_6 a0_7 a0_8 a0_9 a0_10 a0_11 a0_12))) = some r := by rw [if_neg (show ¬ (false = true) by decide)] at H; exact H
    clear H
    have H := H1
    clear H1
    have HC18 := Aside0.mk H
    clear H
    go_upto_region 3 with (fail)
    go_cut [3] (fun v3 wc => ∃ (kq : Nat) (x3_17 : Bool), v3 = .bool x3_17 ∧ Aside0 (entry_Good.j1 kq x3_17 a0_0 a0_1 a0_2 a0_3 a0_4 a0_5 a0_6 a0_7 a0_8 a0_9 a0_10 a0_11 a0_12 = some r) ∧ Aside0 (kq ≤ kj1) ∧ Aside0 (wc.heap[gb101]? = some (.cells #[.int .i64 a0_0, .int .i64 a0_1, .int .i64 a0_2, .int .i64 a0_3, .int .i64 a0_4, .int .i64 a0_5, .int .i64 a0_6, .int .i64 a0_7, .bool a0_8, .string a0_9, .bool a0_10, .string a0_11, .int .i64 a0_12] 65 (0, 0))) ∧ Aside0 (Below w.heap.size w wc))
    case first =>
     have H := HC18.out
     clear HC18
     replace H := Option.bind_eq_some_iff.mp H
     obtain ⟨t105, A190, H⟩ := H
     replace H : (if t105 = true then ((entry_within.f a0_7 0 31).bind fun t106 => (if t106 = true then ((entry_isSlot.f a0_8 a0_9).bind fun t107 => (if t107 = true then ((entry_isSlot.f a0_10 a0_11).bind fun t108 => (entry_Good.j1 kj1 t108 a0_0 a0_1 a0_2 a0_3 a0_4 a0_5 a0_6 a0_7 a0_8 a0_9 a0_10 a0_11 a0_12)) else (entry_Good.j1 kj1 false a0_0 a0_1 a0_2 a0_3 a0_4 a0_5 a0_6 a0_7 a0_8 a0_9 a0_10 a0_11 a0_12))) else (entry_Good.j1 kj1 false a0_0 a0_1 a0_2 a0_3 a0_4 a0_5 a0_6 a0_7 a0_8 a0_9 a0_10 a0_11 a0_12))) else (entry_Good.j1 kj1 false a0_0 a0_1 a0_2 a0_3 a0_4 a0_5 a0_6 a0_7 a0_8 a0_9 a0_10 a0_11 a0_12)) = some r := H
     have A19 := Aside0.mk A190
     clear A190
     by_cases c20 : t105 = true
     ·subst c20
      have H1 : ((entry_within.f a0_7 0 31).bind fun t106 => (if t106 = true then ((entry_isSlot.f a0_8 a0_9).bind fun t107 => (if t107 = true then ((entry_isSlot.f a0_10 a0_11).bind fun t108 => (entry_Good.j1 kj1 t108 a0_0 a0_1 a0_2 a0_3 a0_4 a0_5 a0_6 a0_7 a0_8 a0_9 a0_10 a0_11 a0_12)) else (entry_Good.j1 kj1 false a0_0 a0_1 a0_2 a0_3 a0_4 a0_5 a0_6 a0_7 a0_8 a0_9 a0_10 a0_11 a0_12))) else (entry_Good.j1 kj1 false a0_0 a0_1 a0_2 a0_3 a0_4 a0_5 a0_6 a0_7 a0_8 a0_9 a0_10 a0_11 a0_12))) = some r := by rw [if_pos rfl] at H; exact H
      clear H
      have H := H1
      clear H1
      replace H := Option.bind_eq_some_iff.mp H
      obtain ⟨t106, A210, H⟩ := H
      replace H : (if t106 = true then ((entry_isSlot.f a0_8 a0_9).bind fun t107 => (if t107 = true then ((entry_isSlot.f a0_10 a0_11).bind fun t108 => (entry_Good.j1 kj1 t108 a0_0 a0_1 a0_2 a0_3 a0_4 a0_5 a0_6 a0_7 a0_8 a0_9 a0_10 a0_11 a0_12)) else (entry_Good.j1 kj1 false a0_0 a0_1 a0_2 a0_3 a0_4 a0_5 a0_6 a0_7 a0_8 a0_9 a0_10 a0_11 a0_12))) else (entry_Good.j1 kj1 false a0_0 a0_1 a0_2 a0_3 a0_4 a0_5 a0_6 a0_7 a0_8 a0_9 a0_10 a0_11 a0_12)) = some r := H
      have A21 := Aside0.mk A210
      clear A210
      by_cases c22 : t106 = true
      ·subst c22
       have H1 : ((entry_isSlot.f a0_8 a0_9).bind fun t107 => (if t107 = true then ((entry_isSlot.f a0_10 a0_11).bind fun t108 => (entry_Good.j1 kj1 t108 a0_0 a0_1 a0_2 a0_3 a0_4 a0_5 a0_6 a0_7 a0_8 a0_9 a0_10 a0_11 a0_12)) else (entry_Good.j1 kj1 false a0_0 a0_1 a0_2 a0_3 a0_4 a0_5 a0_6 a0_7 a0_8 a0_9 a0_10 a0_11 a0_12))) = some r := by rw [if_pos rfl] at H; exact H
       clear H
       have H := H1
       clear H1
       replace H := Option.bind_eq_some_iff.mp H
       obtain ⟨t107, A230, H⟩ := H
       replace H : (if t107 = true then ((entry_isSlot.f a0_10 a0_11).bind fun t108 => (entry_Good.j1 kj1 t108 a0_0 a0_1 a0_2 a0_3 a0_4 a0_5 a0_6 a0_7 a0_8 a0_9 a0_10 a0_11 a0_12)) else (entry_Good.j1 kj1 false a0_0 a0_1 a0_2 a0_3 a0_4 a0_5 a0_6 a0_7 a0_8 a0_9 a0_10 a0_11 a0_12)) = some r := H
       have A23 := Aside0.mk A230
       clear A230
       by_cases c24 : t107 = true
       ·subst c24
        have H1 : ((entry_isSlot.f a0_10 a0_11).bind fun t108 => (entry_Good.j1 kj1 t108 a0_0 a0_1 a0_2 a0_3 a0_4 a0_5 a0_6 a0_7 a0_8 a0_9 a0_10 a0_11 a0_12)) = some r := by rw [if_pos rfl] at H; exact H
        clear H
        have H := H1
        clear H1
        replace H := Option.bind_eq_some_iff.mp H
        obtain ⟨t108, A250, H⟩ := H
        replace H : (entry_Good.j1 kj1 t108 a0_0 a0_1 a0_2 a0_3 a0_4 a0_5 a0_6 a0_7 a0_8 a0_9 a0_10 a0_11 a0_12) = some r := H
        have A25 := Aside0.mk A250
        clear A250
        have H' := Aside0.mk H
        clear H
        obtain ⟨hcz26_0, hcz26_1, hcz26_2, hcz26_3, hcz26_4, hcz26_5, hcz26_6, hcz26_7, hcz26_8, hcz26_9, hcz26_10, hcz26_11, hcz26_12⟩ := cl13 (W := wc) BK101.out
        obtain ⟨hfz26_0, hfz26_1, hfz26_2, hfz26_3, hfz26_4, hfz26_5, hfz26_6, hfz26_7, hfz26_8, hfz26_9, hfz26_10, hfz26_11, hfz26_12⟩ := fr13 BK101.out
        go_wp2_with (first | ((with_reducible refine gate_callee (f := 102) rfl ?_); refine goesL_ (some 25) rfl rfl Try.func102 (by kernel_rfl) rfl #[.int .i64 a0_6, .int .i64 0, .int .i64 1023] rfl (by (try simp only [List.map_toArray, List.map_cons, List.map_nil]); first | done | rfl | (simp only [List.length_drop, List.length_take]; rfl)) ?_; (with_reducible refine (entry_within.calls a0_6 0 1023 true _ A19.out).mono ?_); rintro e w' ⟨rfl, ⟨nd, rfl⟩⟩; refine ⟨_, rfl, ?_⟩) | (go_at_call 102; (with_reducible refine (entry_within.calls a0_7 0 31 true _ A21.out).mono ?_); rintro e w' ⟨rfl, ⟨nd, rfl⟩⟩) | (go_at_call 103; (with_reducible refine (entry_isSlot.calls a0_8 a0_9 true _ A23.out).mono ?_); rintro e w27 ⟨rfl, hb⟩; have n0_ := Aside0.mk (blk_below (g := gb101) (o := .cells #[.int .i64 a0_0, .int .i64 a0_1, .int .i64 a0_2, .int .i64 a0_3, .int .i64 a0_4, .int .i64 a0_5, .int .i64 a0_6, .int .i64 a0_7, .bool a0_8, .string a0_9, .bool a0_10, .string a0_11, .int .i64 a0_12] 65 (0, 0)) (by (with_reducible repeat (first | refine blk_drewN ?_ _ | refine blk_drew ?_ | refine blk_alloc ?_ _)); exact BK101.out) hb); have n1_ := Aside0.mk (below_step (by repeat (first | (with_reducible first | exact HB.out | apply below_alloc | apply pw_below_drewN | apply below_drew1 | refine below_set ?_ GE101.out) | exact HB.out)) hb); clear BK101; clear HB; have BK101 := n0_; have HB := n1_; clear n0_ n1_; (try clear hb); (try clear hb2); (try clear hk); (try clear hi); obtain ⟨hcz28_0, hcz28_1, hcz28_2, hcz28_3, hcz28_4, hcz28_5, hcz28_6, hcz28_7, hcz28_8, hcz28_9, hcz28_10, hcz28_11, hcz28_12⟩ := cl13 (W := w27) BK101.out; obtain ⟨hfz28_0, hfz28_1, hfz28_2, hfz28_3, hfz28_4, hfz28_5, hfz28_6, hfz28_7, hfz28_8, hfz28_9, hfz28_10, hfz28_11, hfz28_12⟩ := fr13 BK101.out) | (go_at_call 103; (with_reducible refine (entry_isSlot.calls a0_10 a0_11 t108 _ A25.out).mono ?_); rintro e w29 ⟨rfl, hb⟩; have n0_ := Aside0.mk (blk_below (g := gb101) (o := .cells #[.int .i64 a0_0, .int .i64 a0_1, .int .i64 a0_2, .int .i64 a0_3, .int .i64 a0_4, .int .i64 a0_5, .int .i64 a0_6, .int .i64 a0_7, .bool a0_8, .string a0_9, .bool a0_10, .string a0_11, .int .i64 a0_12] 65 (0, 0)) (by (with_reducible repeat (first | refine blk_drewN ?_ _ | refine blk_drew ?_ | refine blk_alloc ?_ _)); exact BK101.out) hb); have n1_ := Aside0.mk (below_step (by repeat (first | (with_reducible first | exact HB.out | apply below_alloc | apply pw_below_drewN | apply below_drew1 | refine below_set ?_ GE101.out) | exact HB.out)) hb); clear BK101; clear HB; have BK101 := n0_; have HB := n1_; clear n0_ n1_; (try clear hb); (try clear hb2); (try clear hk); (try clear hi)))
        go_meet
        case rel => exact ⟨_, (t108), (by first | rfl | (simp; done) | (simp [*]; done)), H', ⟨by have := HJ1.out; first | omega | exact Nat.le_refl _⟩, ⟨by (with_reducible repeat (first | refine blk_drewN ?_ _ | refine blk_drew ?_ | refine blk_alloc ?_ _)); exact BK101.out⟩, ⟨by repeat (first | (with_reducible first | exact HB.out | apply below_alloc | apply pw_below_drewN | apply below_drew1 | refine below_set ?_ GE101.out) | exact HB.out)⟩⟩
       ·replace c24 := Bool.eq_false_iff.mpr c24
        subst c24
        have H1 : (entry_Good.j1 kj1 false a0_0 a0_1 a0_2 a0_3 a0_4 a0_5 a0_6 a0_7 a0_8 a0_9 a0_10 a0_11 a0_12) = some r := by rw [if_neg (show ¬ (false = true) by decide)] at H; exact H
        clear H
        have H := H1
        clear H1
        have H' := Aside0.mk H
        clear H
        obtain ⟨hcz30_0, hcz30_1, hcz30_2, hcz30_3, hcz30_4, hcz30_5, hcz30_6, hcz30_7, hcz30_8, hcz30_9, hcz30_10, hcz30_11, hcz30_12⟩ := cl13 (W := wc) BK101.out
        obtain ⟨hfz30_0, hfz30_1, hfz30_2, hfz30_3, hfz30_4, hfz30_5, hfz30_6, hfz30_7, hfz30_8, hfz30_9, hfz30_10, hfz30_11, hfz30_12⟩ := fr13 BK101.out
        go_wp2_with (first | ((with_reducible refine gate_callee (f := 102) rfl ?_); refine goesL_ (some 25) rfl rfl Try.func102 (by kernel_rfl) rfl #[.int .i64 a0_6, .int .i64 0, .int .i64 1023] rfl (by (try simp only [List.map_toArray, List.map_cons, List.map_nil]); first | done | rfl | (simp only [List.length_drop, List.length_take]; rfl)) ?_; (with_reducible refine (entry_within.calls a0_6 0 1023 true _ A19.out).mono ?_); rintro e w' ⟨rfl, ⟨nd, rfl⟩⟩; refine ⟨_, rfl, ?_⟩) | (go_at_call 102; (with_reducible refine (entry_within.calls a0_7 0 31 true _ A21.out).mono ?_); rintro e w' ⟨rfl, ⟨nd, rfl⟩⟩) | (go_at_call 103; (with_reducible refine (entry_isSlot.calls a0_8 a0_9 false _ A23.out).mono ?_); rintro e w31 ⟨rfl, hb⟩; have n0_ := Aside0.mk (blk_below (g := gb101) (o := .cells #[.int .i64 a0_0, .int .i64 a0_1, .int .i64 a0_2, .int .i64 a0_3, .int .i64 a0_4, .int .i64 a0_5, .int .i64 a0_6, .int .i64 a0_7, .bool a0_8, .string a0_9, .bool a0_10, .string a0_11, .int .i64 a0_12] 65 (0, 0)) (by (with_reducible repeat (first | refine blk_drewN ?_ _ | refine blk_drew ?_ | refine blk_alloc ?_ _)); exact BK101.out) hb); have n1_ := Aside0.mk (below_step (by repeat (first | (with_reducible first | exact HB.out | apply below_alloc | apply pw_below_drewN | apply below_drew1 | refine below_set ?_ GE101.out) | exact HB.out)) hb); clear BK101; clear HB; have BK101 := n0_; have HB := n1_; clear n0_ n1_; (try clear hb); (try clear hb2); (try clear hk); (try clear hi)))
        go_meet
        case rel => exact ⟨_, (false), (by first | rfl | (simp; done) | (simp [*]; done)), H', ⟨by have := HJ1.out; first | omega | exact Nat.le_refl _⟩, ⟨by (with_reducible repeat (first | refine blk_drewN ?_ _ | refine blk_drew ?_ | refine blk_alloc ?_ _)); exact BK101.out⟩, ⟨by repeat (first | (with_reducible first | exact HB.out | apply below_alloc | apply pw_below_drewN | apply below_drew1 | refine below_set ?_ GE101.out) | exact HB.out)⟩⟩
      ·replace c22 := Bool.eq_false_iff.mpr c22
       subst c22
       have H1 : (entry_Good.j1 kj1 false a0_0 a0_1 a0_2 a0_3 a0_4 a0_5 a0_6 a0_7 a0_8 a0_9 a0_10 a0_11 a0_12) = some r := by rw [if_neg (show ¬ (false = true) by decide)] at H; exact H
       clear H
       have H := H1
       clear H1
       have H' := Aside0.mk H
       clear H
       obtain ⟨hcz32_0, hcz32_1, hcz32_2, hcz32_3, hcz32_4, hcz32_5, hcz32_6, hcz32_7, hcz32_8, hcz32_9, hcz32_10, hcz32_11, hcz32_12⟩ := cl13 (W := wc) BK101.out
       obtain ⟨hfz32_0, hfz32_1, hfz32_2, hfz32_3, hfz32_4, hfz32_5, hfz32_6, hfz32_7, hfz32_8, hfz32_9, hfz32_10, hfz32_11, hfz32_12⟩ := fr13 BK101.out
       go_wp2_with (first | ((with_reducible refine gate_callee (f := 102) rfl ?_); refine goesL_ (some 25) rfl rfl Try.func102 (by kernel_rfl) rfl #[.int .i64 a0_6, .int .i64 0, .int .i64 1023] rfl (by (try simp only [List.map_toArray, List.map_cons, List.map_nil]); first | done | rfl | (simp only [List.length_drop, List.length_take]; rfl)) ?_; (with_reducible refine (entry_within.calls a0_6 0 1023 true _ A19.out).mono ?_); rintro e w' ⟨rfl, ⟨nd, rfl⟩⟩; refine ⟨_, rfl, ?_⟩) | (go_at_call 102; (with_reducible refine (entry_within.calls a0_7 0 31 false _ A21.out).mono ?_); rintro e w' ⟨rfl, ⟨nd, rfl⟩⟩))
       go_meet
       case rel => exact ⟨_, (false), (by first | rfl | (simp; done) | (simp [*]; done)), H', ⟨by have := HJ1.out; first | omega | exact Nat.le_refl _⟩, ⟨by (with_reducible repeat (first | refine blk_drewN ?_ _ | refine blk_drew ?_ | refine blk_alloc ?_ _)); exact BK101.out⟩, ⟨by repeat (first | (with_reducible first | exact HB.out | apply below_alloc | apply pw_below_drewN | apply below_drew1 | refine below_set ?_ GE101.out) | exact HB.out)⟩⟩
     ·replace c20 := Bool.eq_false_iff.mpr c20
      subst c20
      have H1 : (entry_Good.j1 kj1 false a0_0 a0_1 a0_2 a0_3 a0_4 a0_5 a0_6 a0_7 a0_8 a0_9 a0_10 a0_11 a0_12) = some r := by rw [if_neg (show ¬ (false = true) by decide)] at H; exact H
      clear H
      have H := H1
      clear H1
      have H' := Aside0.mk H
      clear H
      obtain ⟨hcz33_0, hcz33_1, hcz33_2, hcz33_3, hcz33_4, hcz33_5, hcz33_6, hcz33_7, hcz33_8, hcz33_9, hcz33_10, hcz33_11, hcz33_12⟩ := cl13 (W := wc) BK101.out
      obtain ⟨hfz33_0, hfz33_1, hfz33_2, hfz33_3, hfz33_4, hfz33_5, hfz33_6, hfz33_7, hfz33_8, hfz33_9, hfz33_10, hfz33_11, hfz33_12⟩ := fr13 BK101.out
      go_wp2_with (first | ((with_reducible refine gate_callee (f := 102) rfl ?_); refine goesL_ (some 25) rfl rfl Try.func102 (by kernel_rfl) rfl #[.int .i64 a0_6, .int .i64 0, .int .i64 1023] rfl (by (try simp only [List.map_toArray, List.map_cons, List.map_nil]); first | done | rfl | (simp only [List.length_drop, List.length_take]; rfl)) ?_; (with_reducible refine (entry_within.calls a0_6 0 1023 false _ A19.out).mono ?_); rintro e w' ⟨rfl, ⟨nd, rfl⟩⟩; refine ⟨_, rfl, ?_⟩))
      go_meet
      case rel => exact ⟨_, (false), (by first | rfl | (simp; done) | (simp [*]; done)), H', ⟨by have := HJ1.out; first | omega | exact Nat.le_refl _⟩, ⟨by (with_reducible repeat (first | refine blk_drewN ?_ _ | refine blk_drew ?_ | refine blk_alloc ?_ _)); exact BK101.out⟩, ⟨by repeat (first | (with_reducible first | exact HB.out | apply below_alloc | apply pw_below_drewN | apply below_drew1 | refine below_set ?_ GE101.out) | exact HB.out)⟩⟩
    case rest =>
     clear HC18
     try clear c1
     try clear c2
     try clear p2
     try clear c5
     try clear p6
     try clear c7
     try clear c10
     try clear c17
     try clear c20
     try clear c22
     try clear c24
     try clear hcz11_0
     try clear hcz11_1
     try clear hcz11_10
     try clear hcz11_11
     try clear hcz11_12
     try clear hcz11_2
     try clear hcz11_3
     try clear hcz11_4
     try clear hcz11_5
     try clear hcz11_6
     try clear hcz11_7
     try clear hcz11_8
     try clear hcz11_9
     try clear hcz12_0
     try clear hcz12_1
     try clear hcz12_10
     try clear hcz12_11
     try clear hcz12_12
     try clear hcz12_2
     try clear hcz12_3
     try clear hcz12_4
     try clear hcz12_5
     try clear hcz12_6
     try clear hcz12_7
     try clear hcz12_8
     try clear hcz12_9
     try clear hcz14_0
     try clear hcz14_1
     try clear hcz14_10
     try clear hcz14_11
     try clear hcz14_12
     try clear hcz14_2
     try clear hcz14_3
     try clear hcz14_4
     try clear hcz14_5
     try clear hcz14_6
     try clear hcz14_7
     try clear hcz14_8
     try clear hcz14_9
     try clear hcz15_0
     try clear hcz15_1
     try clear hcz15_10
     try clear hcz15_11
     try clear hcz15_12
     try clear hcz15_2
     try clear hcz15_3
     try clear hcz15_4
     try clear hcz15_5
     try clear hcz15_6
     try clear hcz15_7
     try clear hcz15_8
     try clear hcz15_9
     try clear hcz26_0
     try clear hcz26_1
     try clear hcz26_10
     try clear hcz26_11
     try clear hcz26_12
     try clear hcz26_2
     try clear hcz26_3
     try clear hcz26_4
     try clear hcz26_5
     try clear hcz26_6
     try clear hcz26_7
     try clear hcz26_8
     try clear hcz26_9
     try clear hcz28_0
     try clear hcz28_1
     try clear hcz28_10
     try clear hcz28_11
     try clear hcz28_12
     try clear hcz28_2
     try clear hcz28_3
     try clear hcz28_4
     try clear hcz28_5
     try clear hcz28_6
     try clear hcz28_7
     try clear hcz28_8
     try clear hcz28_9
     try clear hcz30_0
     try clear hcz30_1
     try clear hcz30_10
     try clear hcz30_11
     try clear hcz30_12
     try clear hcz30_2
     try clear hcz30_3
     try clear hcz30_4
     try clear hcz30_5
     try clear hcz30_6
     try clear hcz30_7
     try clear hcz30_8
     try clear hcz30_9
     try clear hcz32_0
     try clear hcz32_1
     try clear hcz32_10
     try clear hcz32_11
     try clear hcz32_12
     try clear hcz32_2
     try clear hcz32_3
     try clear hcz32_4
     try clear hcz32_5
     try clear hcz32_6
     try clear hcz32_7
     try clear hcz32_8
     try clear hcz32_9
     try clear hcz33_0
     try clear hcz33_1
     try clear hcz33_10
     try clear hcz33_11
     try clear hcz33_12
     try clear hcz33_2
     try clear hcz33_3
     try clear hcz33_4
     try clear hcz33_5
     try clear hcz33_6
     try clear hcz33_7
     try clear hcz33_8
     try clear hcz33_9
     try clear hcz9_0
     try clear hcz9_1
     try clear hcz9_10
     try clear hcz9_11
     try clear hcz9_12
     try clear hcz9_2
     try clear hcz9_3
     try clear hcz9_4
     try clear hcz9_5
     try clear hcz9_6
     try clear hcz9_7
     try clear hcz9_8
     try clear hcz9_9
     try clear hfz11_0
     try clear hfz11_1
     try clear hfz11_10
     try clear hfz11_11
     try clear hfz11_12
     try clear hfz11_2
     try clear hfz11_3
     try clear hfz11_4
     try clear hfz11_5
     try clear hfz11_6
     try clear hfz11_7
     try clear hfz11_8
     try clear hfz11_9
     try clear hfz12_0
     try clear hfz12_1
     try clear hfz12_10
     try clear hfz12_11
     try clear hfz12_12
     try clear hfz12_2
     try clear hfz12_3
     try clear hfz12_4
     try clear hfz12_5
     try clear hfz12_6
     try clear hfz12_7
     try clear hfz12_8
     try clear hfz12_9
     try clear hfz14_0
     try clear hfz14_1
     try clear hfz14_10
     try clear hfz14_11
     try clear hfz14_12
     try clear hfz14_2
     try clear hfz14_3
     try clear hfz14_4
     try clear hfz14_5
     try clear hfz14_6
     try clear hfz14_7
     try clear hfz14_8
     try clear hfz14_9
     try clear hfz15_0
     try clear hfz15_1
     try clear hfz15_10
     try clear hfz15_11
     try clear hfz15_12
     try clear hfz15_2
     try clear hfz15_3
     try clear hfz15_4
     try clear hfz15_5
     try clear hfz15_6
     try clear hfz15_7
     try clear hfz15_8
     try clear hfz15_9
     try clear hfz26_0
     try clear hfz26_1
     try clear hfz26_10
     try clear hfz26_11
     try clear hfz26_12
     try clear hfz26_2
     try clear hfz26_3
     try clear hfz26_4
     try clear hfz26_5
     try clear hfz26_6
     try clear hfz26_7
     try clear hfz26_8
     try clear hfz26_9
     try clear hfz28_0
     try clear hfz28_1
     try clear hfz28_10
     try clear hfz28_11
     try clear hfz28_12
     try clear hfz28_2
     try clear hfz28_3
     try clear hfz28_4
     try clear hfz28_5
     try clear hfz28_6
     try clear hfz28_7
     try clear hfz28_8
     try clear hfz28_9
     try clear hfz30_0
     try clear hfz30_1
     try clear hfz30_10
     try clear hfz30_11
     try clear hfz30_12
     try clear hfz30_2
     try clear hfz30_3
     try clear hfz30_4
     try clear hfz30_5
     try clear hfz30_6
     try clear hfz30_7
     try clear hfz30_8
     try clear hfz30_9
     try clear hfz32_0
     try clear hfz32_1
     try clear hfz32_10
     try clear hfz32_11
     try clear hfz32_12
     try clear hfz32_2
     try clear hfz32_3
     try clear hfz32_4
     try clear hfz32_5
     try clear hfz32_6
     try clear hfz32_7
     try clear hfz32_8
     try clear hfz32_9
     try clear hfz33_0
     try clear hfz33_1
     try clear hfz33_10
     try clear hfz33_11
     try clear hfz33_12
     try clear hfz33_2
     try clear hfz33_3
     try clear hfz33_4
     try clear hfz33_5
     try clear hfz33_6
     try clear hfz33_7
     try clear hfz33_8
     try clear hfz33_9
     try clear hfz9_0
     try clear hfz9_1
     try clear hfz9_10
     try clear hfz9_11
     try clear hfz9_12
     try clear hfz9_2
     try clear hfz9_3
     try clear hfz9_4
     try clear hfz9_5
     try clear hfz9_6
     try clear hfz9_7
     try clear hfz9_8
     try clear hfz9_9
     try clear p2
     try clear p6
     obtain ⟨kq, x3_17, rfl, HA, HJ17, BK101, HB⟩ := hcut
     cases kq with
     | zero => exact absurd HA.out (by simp [entry_Good.j1])
     | succ kj17 =>
      have H := HA.out
      clear HA
      simp only [entry_Good.j1] at H
      by_cases c34 : a0_0 = 1
      ·rw [if_pos c34] at H
       have c34b0 : (a0_0 == 1) = true := beq_iff_eq.mpr c34
       have c34b1 : (a0_0 != 1) = false := bne_eq_false_iff_eq.mpr c34
       clear c34
       by_cases c35 : x3_17 = true
       ·subst c35
        have H1 : (some (a0_12 == 0)) = some r := by rw [if_pos rfl] at H; exact H
        clear H
        have H := H1
        clear H1
        obtain rfl := Option.some.inj H
        obtain ⟨hcz36_0, hcz36_1, hcz36_2, hcz36_3, hcz36_4, hcz36_5, hcz36_6, hcz36_7, hcz36_8, hcz36_9, hcz36_10, hcz36_11, hcz36_12⟩ := cl13 (W := wc) BK101.out
        obtain ⟨hfz36_0, hfz36_1, hfz36_2, hfz36_3, hfz36_4, hfz36_5, hfz36_6, hfz36_7, hfz36_8, hfz36_9, hfz36_10, hfz36_11, hfz36_12⟩ := fr13 BK101.out
        go_wp2
        go_ret
        exact ⟨by first | rfl | (simp [errW_none, errW_some] <;> rfl) | (simp [*, errW_none, errW_some] <;> rfl), by repeat (first | (with_reducible first | exact HB.out | apply below_alloc | apply pw_below_drewN | apply below_drew1 | refine below_set ?_ GE101.out) | exact HB.out)⟩
       ·replace c35 := Bool.eq_false_iff.mpr c35
        subst c35
        have H1 : (some false) = some r := by rw [if_neg (show ¬ (false = true) by decide)] at H; exact H
        clear H
        have H := H1
        clear H1
        obtain rfl := Option.some.inj H
        obtain ⟨hcz37_0, hcz37_1, hcz37_2, hcz37_3, hcz37_4, hcz37_5, hcz37_6, hcz37_7, hcz37_8, hcz37_9, hcz37_10, hcz37_11, hcz37_12⟩ := cl13 (W := wc) BK101.out
        obtain ⟨hfz37_0, hfz37_1, hfz37_2, hfz37_3, hfz37_4, hfz37_5, hfz37_6, hfz37_7, hfz37_8, hfz37_9, hfz37_10, hfz37_11, hfz37_12⟩ := fr13 BK101.out
        go_wp2
        go_ret
        exact ⟨by first | rfl | (simp [errW_none, errW_some] <;> rfl) | (simp [*, errW_none, errW_some] <;> rfl), by repeat (first | (with_reducible first | exact HB.out | apply below_alloc | apply pw_below_drewN | apply below_drew1 | refine below_set ?_ GE101.out) | exact HB.out)⟩
      ·rw [if_neg c34] at H
       have c34b0 : (a0_0 == 1) = false := beq_eq_false_iff_ne.mpr c34
       have c34b1 : (a0_0 != 1) = true := bne_iff_ne.mpr c34
       by_cases c38 : a0_0 = 2
       ·rw [if_pos c38] at H
        have c38b0 : (a0_0 == 2) = true := beq_iff_eq.mpr c38
        have c38b1 : (a0_0 != 2) = false := bne_eq_false_iff_eq.mpr c38
        clear c38
        by_cases c39 : x3_17 = true
        ·subst c39
         have H1 : ((entry_within.f a0_12 0 a0_5).bind fun t109 => (some t109)) = some r := by rw [if_pos rfl] at H; exact H
         clear H
         have H := H1
         clear H1
         replace H := Option.bind_eq_some_iff.mp H
         obtain ⟨t109, A400, H⟩ := H
         replace H : (some t109) = some r := H
         have A40 := Aside0.mk A400
         clear A400
         obtain rfl := Option.some.inj H
         obtain ⟨hcz41_0, hcz41_1, hcz41_2, hcz41_3, hcz41_4, hcz41_5, hcz41_6, hcz41_7, hcz41_8, hcz41_9, hcz41_10, hcz41_11, hcz41_12⟩ := cl13 (W := wc) BK101.out
         obtain ⟨hfz41_0, hfz41_1, hfz41_2, hfz41_3, hfz41_4, hfz41_5, hfz41_6, hfz41_7, hfz41_8, hfz41_9, hfz41_10, hfz41_11, hfz41_12⟩ := fr13 BK101.out
         go_wp2_with (first | (go_at_call 102; (with_reducible refine (entry_within.calls a0_12 0 a0_5 t109 _ A40.out).mono ?_); rintro e w' ⟨rfl, ⟨nd, rfl⟩⟩))
         go_ret
         exact ⟨by first | rfl | (simp [errW_none, errW_some] <;> rfl) | (simp [*, errW_none, errW_some] <;> rfl), by repeat (first | (with_reducible first | exact HB.out | apply below_alloc | apply pw_below_drewN | apply below_drew1 | refine below_set ?_ GE101.out) | exact HB.out)⟩
        ·replace c39 := Bool.eq_false_iff.mpr c39
         subst c39
         have H1 : (some false) = some r := by rw [if_neg (show ¬ (false = true) by decide)] at H; exact H
         clear H
         have H := H1
         clear H1
         obtain rfl := Option.some.inj H
         obtain ⟨hcz42_0, hcz42_1, hcz42_2, hcz42_3, hcz42_4, hcz42_5, hcz42_6, hcz42_7, hcz42_8, hcz42_9, hcz42_10, hcz42_11, hcz42_12⟩ := cl13 (W := wc) BK101.out
         obtain ⟨hfz42_0, hfz42_1, hfz42_2, hfz42_3, hfz42_4, hfz42_5, hfz42_6, hfz42_7, hfz42_8, hfz42_9, hfz42_10, hfz42_11, hfz42_12⟩ := fr13 BK101.out
         go_wp2
         go_ret
         exact ⟨by first | rfl | (simp [errW_none, errW_some] <;> rfl) | (simp [*, errW_none, errW_some] <;> rfl), by repeat (first | (with_reducible first | exact HB.out | apply below_alloc | apply pw_below_drewN | apply below_drew1 | refine below_set ?_ GE101.out) | exact HB.out)⟩
       ·rw [if_neg c38] at H
        have c38b0 : (a0_0 == 2) = false := beq_eq_false_iff_ne.mpr c38
        have c38b1 : (a0_0 != 2) = true := bne_iff_ne.mpr c38
        by_cases c43 : a0_0 = 3
        ·rw [if_pos c43] at H
         have c43b0 : (a0_0 == 3) = true := beq_iff_eq.mpr c43
         have c43b1 : (a0_0 != 3) = false := bne_eq_false_iff_eq.mpr c43
         clear c43
         replace H := Option.bind_eq_some_iff.mp H
         obtain ⟨⟨t110, t111, t112, t113, t114, t115, t116, t117, t118, t119, t120, t121, t122⟩, A440, H⟩ := H
         replace H : (some (a0_0 == t110 && ((a0_1 == t111 && (a0_2 == t112 && (a0_3 == t113))) && (a0_4 == t114 && (a0_5 == t115 && (a0_6 == t116 && (a0_7 == t117 && ((a0_8 == t118 && (a0_9.toList == t119.toList)) && ((a0_10 == t120 && (a0_11.toList == t121.toList)) && (a0_12 == t122)))))))))) = some r := H
         have A44 := Aside0.mk A440
         clear A440
         obtain rfl := Option.some.inj H
         obtain ⟨hcz45_0, hcz45_1, hcz45_2, hcz45_3, hcz45_4, hcz45_5, hcz45_6, hcz45_7, hcz45_8, hcz45_9, hcz45_10, hcz45_11, hcz45_12⟩ := cl13 (W := wc) BK101.out
         obtain ⟨hfz45_0, hfz45_1, hfz45_2, hfz45_3, hfz45_4, hfz45_5, hfz45_6, hfz45_7, hfz45_8, hfz45_9, hfz45_10, hfz45_11, hfz45_12⟩ := fr13 BK101.out
         try go_wp2
         have n0_ := Aside0.mk (blk_drew BK101.out)
         have n1_ := Aside0.mk (below_drew1 HB.out)
         clear BK101
         clear HB
         have BK101 := n0_
         have HB := n1_
         clear n0_ n1_
         refine start_ (n := 5) (S := fun w' => w'.cell? ⟨gb101, 0, none⟩ = some (.int .i64 a0_0) ∧ w'.cell? ⟨gb101, 1, none⟩ = some (.int .i64 a0_1) ∧ w'.cell? ⟨gb101, 2, none⟩ = some (.int .i64 a0_2) ∧ w'.cell? ⟨gb101, 3, none⟩ = some (.int .i64 a0_3) ∧ w'.cell? ⟨gb101, 4, none⟩ = some (.int .i64 a0_4) ∧ w'.cell? ⟨gb101, 5, none⟩ = some (.int .i64 a0_5) ∧ w'.cell? ⟨gb101, 6, none⟩ = some (.int .i64 a0_6) ∧ w'.cell? ⟨gb101, 7, none⟩ = some (.int .i64 a0_7) ∧ w'.cell? ⟨gb101, 8, none⟩ = some (.bool a0_8) ∧ w'.cell? ⟨gb101, 9, none⟩ = some (.string a0_9) ∧ w'.cell? ⟨gb101, 10, none⟩ = some (.bool a0_10) ∧ w'.cell? ⟨gb101, 11, none⟩ = some (.string a0_11) ∧ w'.cell? ⟨gb101, 12, none⟩ = some (.int .i64 a0_12)) (ds := []) #[false, false, false, false, false] (by kernel_rfl) rfl rfl ⟨(blk_cell BK101.out 0).trans rfl, (blk_cell BK101.out 1).trans rfl, (blk_cell BK101.out 2).trans rfl, (blk_cell BK101.out 3).trans rfl, (blk_cell BK101.out 4).trans rfl, (blk_cell BK101.out 5).trans rfl, (blk_cell BK101.out 6).trans rfl, (blk_cell BK101.out 7).trans rfl, (blk_cell BK101.out 8).trans rfl, (blk_cell BK101.out 9).trans rfl, (blk_cell BK101.out 10).trans rfl, (blk_cell BK101.out 11).trans rfl, (blk_cell BK101.out 12).trans rfl⟩ (fun hHeld => ?_)
         generalize wc.drew = w46 at BK101 HB hHeld ⊢
         refine take_ (i := 0) (N := some 64) (v := ?_) (a' := ?_) #[true, false, false, false, false] rfl rfl (by kernel_rfl) (fun _ _ _ h => h) (Or.inl ⟨by rfl, ?_⟩) hHeld ?_ ?_
         rotate_left
         ·rintro w' ⟨s0, s1, s2, s3, s4, s5, s6, s7, s8, s9, s10, s11, s12⟩
          go_simp
          with_reducible rfl
         rotate_left
         ·simp only [Act.put, List.setIfInBounds_toArray, List.set_cons_zero, List.set_cons_succ, i64_w, i32_w]
          rfl
         refine take_ (i := 1) (N := some 65) (v := ?_) (a' := ?_) #[true, true, false, false, false] rfl rfl (by kernel_rfl) (fun _ _ _ h => h) (Or.inl ⟨by rfl, ?_⟩) hHeld ?_ ?_
         rotate_left
         ·rintro w' ⟨s0, s1, s2, s3, s4, s5, s6, s7, s8, s9, s10, s11, s12⟩
          go_simp
          with_reducible rfl
         rotate_left
         ·simp only [Act.put, List.setIfInBounds_toArray, List.set_cons_zero, List.set_cons_succ, i64_w, i32_w]
          rfl
         refine one_ (i := 2) (N := some 66) #[true, true, true, false, false] rfl rfl (by kernel_rfl) (by decide) (fun K hK => ?_)
         refine goes_ Try.func104 (by kernel_rfl) rfl #[.agg #[.int .i64 a0_0, .int .i64 a0_1, .int .i64 a0_2, .int .i64 a0_3, .int .i64 a0_4, .int .i64 a0_5, .int .i64 a0_6, .int .i64 a0_7, .bool a0_8, .string a0_9, .bool a0_10, .string a0_11, .int .i64 a0_12]] (by rfl) rfl rfl (by (try simp only [List.map_toArray, List.map_cons, List.map_nil]); first | done | rfl | (simp only [List.length_drop, List.length_take]; rfl)) ?_
         with_reducible refine (entry_plain.calls a0_0 a0_1 a0_2 a0_3 a0_4 a0_5 a0_6 a0_7 a0_8 a0_9 a0_10 a0_11 a0_12 t110 t111 t112 t113 t114 t115 t116 t117 t118 t119 t120 t121 t122 _ A44.out).mono ?_
         rintro e w47 ⟨rfl, hb⟩
         refine ⟨_, rfl, ?_⟩
         have n0_ := Aside0.mk (blk_below (g := gb101) (o := .cells #[.int .i64 a0_0, .int .i64 a0_1, .int .i64 a0_2, .int .i64 a0_3, .int .i64 a0_4, .int .i64 a0_5, .int .i64 a0_6, .int .i64 a0_7, .bool a0_8, .string a0_9, .bool a0_10, .string a0_11, .int .i64 a0_12] 65 (0, 0)) (by (with_reducible repeat (first | refine blk_drewN ?_ _ | refine blk_drew ?_ | refine blk_alloc ?_ _)); exact BK101.out) hb)
         have n1_ := Aside0.mk (below_step (by repeat (first | (with_reducible first | exact HB.out | apply below_alloc | apply pw_below_drewN | apply below_drew1 | refine below_set ?_ GE101.out) | exact HB.out)) hb)
         clear BK101
         clear HB
         have BK101 := n0_
         have HB := n1_
         clear n0_ n1_
         (try clear hb)
         (try clear hb2)
         (try clear hk)
         (try clear hi)
         refine hK.out _ _ ⟨(blk_cell BK101.out 0).trans rfl, (blk_cell BK101.out 1).trans rfl, (blk_cell BK101.out 2).trans rfl, (blk_cell BK101.out 3).trans rfl, (blk_cell BK101.out 4).trans rfl, (blk_cell BK101.out 5).trans rfl, (blk_cell BK101.out 6).trans rfl, (blk_cell BK101.out 7).trans rfl, (blk_cell BK101.out 8).trans rfl, (blk_cell BK101.out 9).trans rfl, (blk_cell BK101.out 10).trans rfl, (blk_cell BK101.out 11).trans rfl, (blk_cell BK101.out 12).trans rfl⟩ (fun hHeld => ?_)
         clear hK K
         refine norm_ (a' := ?_) ?_ ?_
         rotate_left
         ·show Act.put _ (some 66) _ = _
          simp only [Act.put, List.setIfInBounds_toArray, List.set_cons_zero, List.set_cons_succ, i64_w, i32_w]
          rfl
         refine pure_ (i := 3) (N := some 67) (v := ?_) (a' := ?_) #[true, true, true, true, false] rfl rfl (by kernel_rfl) (fun _ _ _ h => h) (Or.inl ⟨by rfl, ?_⟩) ?_ ?_
         rotate_left
         ·intro w'
          go_simp
          with_reducible rfl
         rotate_left
         ·simp only [Act.put, List.setIfInBounds_toArray, List.set_cons_zero, List.set_cons_succ, i64_w, i32_w]
          rfl
         refine pure_ (i := 4) (N := some 2) (v := ?_) (a' := ?_) #[true, true, true, true, true] rfl rfl (by kernel_rfl) (fun _ _ _ h => h) (Or.inl ⟨by rfl, ?_⟩) ?_ ?_
         rotate_left
         ·intro w'
          go_simp
          with_reducible rfl
         rotate_left
         ·simp only [Act.put, List.setIfInBounds_toArray, List.set_cons_zero, List.set_cons_succ, i64_w, i32_w]
          rfl
         refine done_ (by kernel_rfl) ?_
         try go_wp2
         go_ret
         exact ⟨by first | rfl | (simp [errW_none, errW_some] <;> rfl) | (simp [*, errW_none, errW_some] <;> rfl), by repeat (first | (with_reducible first | exact HB.out | apply below_alloc | apply pw_below_drewN | apply below_drew1 | refine below_set ?_ GE101.out) | exact HB.out)⟩
        ·rw [if_neg c43] at H
         have c43b0 : (a0_0 == 3) = false := beq_eq_false_iff_ne.mpr c43
         have c43b1 : (a0_0 != 3) = true := bne_iff_ne.mpr c43
         by_cases c48 : a0_0 = 4
         ·rw [if_pos c48] at H
          have c48b0 : (a0_0 == 4) = true := beq_iff_eq.mpr c48
          have c48b1 : (a0_0 != 4) = false := bne_eq_false_iff_eq.mpr c48
          clear c48
          replace H := Option.bind_eq_some_iff.mp H
          obtain ⟨⟨t123, t124, t125, t126, t127, t128, t129, t130, t131, t132, t133, t134, t135⟩, A490, H⟩ := H
          replace H : (some (a0_0 == t123 && ((a0_1 == t124 && (a0_2 == t125 && (a0_3 == t126))) && (a0_4 == t127 && (a0_5 == t128 && (a0_6 == t129 && (a0_7 == t130 && ((a0_8 == t131 && (a0_9.toList == t132.toList)) && ((a0_10 == t133 && (a0_11.toList == t134.toList)) && (a0_12 == t135)))))))))) = some r := H
          have A49 := Aside0.mk A490
          clear A490
          obtain rfl := Option.some.inj H
          obtain ⟨hcz50_0, hcz50_1, hcz50_2, hcz50_3, hcz50_4, hcz50_5, hcz50_6, hcz50_7, hcz50_8, hcz50_9, hcz50_10, hcz50_11, hcz50_12⟩ := cl13 (W := wc) BK101.out
          obtain ⟨hfz50_0, hfz50_1, hfz50_2, hfz50_3, hfz50_4, hfz50_5, hfz50_6, hfz50_7, hfz50_8, hfz50_9, hfz50_10, hfz50_11, hfz50_12⟩ := fr13 BK101.out
          try go_wp2
          have n0_ := Aside0.mk (blk_drew BK101.out)
          have n1_ := Aside0.mk (below_drew1 HB.out)
          clear BK101
          clear HB
          have BK101 := n0_
          have HB := n1_
          clear n0_ n1_
          refine start_ (n := 5) (S := fun w' => w'.cell? ⟨gb101, 0, none⟩ = some (.int .i64 a0_0) ∧ w'.cell? ⟨gb101, 1, none⟩ = some (.int .i64 a0_1) ∧ w'.cell? ⟨gb101, 2, none⟩ = some (.int .i64 a0_2) ∧ w'.cell? ⟨gb101, 3, none⟩ = some (.int .i64 a0_3) ∧ w'.cell? ⟨gb101, 4, none⟩ = some (.int .i64 a0_4) ∧ w'.cell? ⟨gb101, 5, none⟩ = some (.int .i64 a0_5) ∧ w'.cell? ⟨gb101, 6, none⟩ = some (.int .i64 a0_6) ∧ w'.cell? ⟨gb101, 7, none⟩ = some (.int .i64 a0_7) ∧ w'.cell? ⟨gb101, 8, none⟩ = some (.bool a0_8) ∧ w'.cell? ⟨gb101, 9, none⟩ = some (.string a0_9) ∧ w'.cell? ⟨gb101, 10, none⟩ = some (.bool a0_10) ∧ w'.cell? ⟨gb101, 11, none⟩ = some (.string a0_11) ∧ w'.cell? ⟨gb101, 12, none⟩ = some (.int .i64 a0_12)) (ds := []) #[false, false, false, false, false] (by kernel_rfl) rfl rfl ⟨(blk_cell BK101.out 0).trans rfl, (blk_cell BK101.out 1).trans rfl, (blk_cell BK101.out 2).trans rfl, (blk_cell BK101.out 3).trans rfl, (blk_cell BK101.out 4).trans rfl, (blk_cell BK101.out 5).trans rfl, (blk_cell BK101.out 6).trans rfl, (blk_cell BK101.out 7).trans rfl, (blk_cell BK101.out 8).trans rfl, (blk_cell BK101.out 9).trans rfl, (blk_cell BK101.out 10).trans rfl, (blk_cell BK101.out 11).trans rfl, (blk_cell BK101.out 12).trans rfl⟩ (fun hHeld => ?_)
          generalize wc.drew = w51 at BK101 HB hHeld ⊢
          refine take_ (i := 0) (N := some 64) (v := ?_) (a' := ?_) #[true, false, false, false, false] rfl rfl (by kernel_rfl) (fun _ _ _ h => h) (Or.inl ⟨by rfl, ?_⟩) hHeld ?_ ?_
          rotate_left
          ·rintro w' ⟨s0, s1, s2, s3, s4, s5, s6, s7, s8, s9, s10, s11, s12⟩
           go_simp
           with_reducible rfl
          rotate_left
          ·simp only [Act.put, List.setIfInBounds_toArray, List.set_cons_zero, List.set_cons_succ, i64_w, i32_w]
           rfl
          refine take_ (i := 1) (N := some 65) (v := ?_) (a' := ?_) #[true, true, false, false, false] rfl rfl (by kernel_rfl) (fun _ _ _ h => h) (Or.inl ⟨by rfl, ?_⟩) hHeld ?_ ?_
          rotate_left
          ·rintro w' ⟨s0, s1, s2, s3, s4, s5, s6, s7, s8, s9, s10, s11, s12⟩
           go_simp
           with_reducible rfl
          rotate_left
          ·simp only [Act.put, List.setIfInBounds_toArray, List.set_cons_zero, List.set_cons_succ, i64_w, i32_w]
           rfl
          refine one_ (i := 2) (N := some 66) #[true, true, true, false, false] rfl rfl (by kernel_rfl) (by decide) (fun K hK => ?_)
          refine goes_ Try.func104 (by kernel_rfl) rfl #[.agg #[.int .i64 a0_0, .int .i64 a0_1, .int .i64 a0_2, .int .i64 a0_3, .int .i64 a0_4, .int .i64 a0_5, .int .i64 a0_6, .int .i64 a0_7, .bool a0_8, .string a0_9, .bool a0_10, .string a0_11, .int .i64 a0_12]] (by rfl) rfl rfl (by (try simp only [List.map_toArray, List.map_cons, List.map_nil]); first | done | rfl | (simp only [List.length_drop, List.length_take]; rfl)) ?_
          with_reducible refine (entry_plain.calls a0_0 a0_1 a0_2 a0_3 a0_4 a0_5 a0_6 a0_7 a0_8 a0_9 a0_10 a0_11 a0_12 t123 t124 t125 t126 t127 t128 t129 t130 t131 t132 t133 t134 t135 _ A49.out).mono ?_
          rintro e w52 ⟨rfl, hb⟩
          refine ⟨_, rfl, ?_⟩
          have n0_ := Aside0.mk (blk_below (g := gb101) (o := .cells #[.int .i64 a0_0, .int .i64 a0_1, .int .i64 a0_2, .int .i64 a0_3, .int .i64 a0_4, .int .i64 a0_5, .int .i64 a0_6, .int .i64 a0_7, .bool a0_8, .string a0_9, .bool a0_10, .string a0_11, .int .i64 a0_12] 65 (0, 0)) (by (with_reducible repeat (first | refine blk_drewN ?_ _ | refine blk_drew ?_ | refine blk_alloc ?_ _)); exact BK101.out) hb)
          have n1_ := Aside0.mk (below_step (by repeat (first | (with_reducible first | exact HB.out | apply below_alloc | apply pw_below_drewN | apply below_drew1 | refine below_set ?_ GE101.out) | exact HB.out)) hb)
          clear BK101
          clear HB
          have BK101 := n0_
          have HB := n1_
          clear n0_ n1_
          (try clear hb)
          (try clear hb2)
          (try clear hk)
          (try clear hi)
          refine hK.out _ _ ⟨(blk_cell BK101.out 0).trans rfl, (blk_cell BK101.out 1).trans rfl, (blk_cell BK101.out 2).trans rfl, (blk_cell BK101.out 3).trans rfl, (blk_cell BK101.out 4).trans rfl, (blk_cell BK101.out 5).trans rfl, (blk_cell BK101.out 6).trans rfl, (blk_cell BK101.out 7).trans rfl, (blk_cell BK101.out 8).trans rfl, (blk_cell BK101.out 9).trans rfl, (blk_cell BK101.out 10).trans rfl, (blk_cell BK101.out 11).trans rfl, (blk_cell BK101.out 12).trans rfl⟩ (fun hHeld => ?_)
          clear hK K
          refine norm_ (a' := ?_) ?_ ?_
          rotate_left
          ·show Act.put _ (some 66) _ = _
           simp only [Act.put, List.setIfInBounds_toArray, List.set_cons_zero, List.set_cons_succ, i64_w, i32_w]
           rfl
          refine pure_ (i := 3) (N := some 67) (v := ?_) (a' := ?_) #[true, true, true, true, false] rfl rfl (by kernel_rfl) (fun _ _ _ h => h) (Or.inl ⟨by rfl, ?_⟩) ?_ ?_
          rotate_left
          ·intro w'
           go_simp
           with_reducible rfl
          rotate_left
          ·simp only [Act.put, List.setIfInBounds_toArray, List.set_cons_zero, List.set_cons_succ, i64_w, i32_w]
           rfl
          refine pure_ (i := 4) (N := some 2) (v := ?_) (a' := ?_) #[true, true, true, true, true] rfl rfl (by kernel_rfl) (fun _ _ _ h => h) (Or.inl ⟨by rfl, ?_⟩) ?_ ?_
          rotate_left
          ·intro w'
           go_simp
           with_reducible rfl
          rotate_left
          ·simp only [Act.put, List.setIfInBounds_toArray, List.set_cons_zero, List.set_cons_succ, i64_w, i32_w]
           rfl
          refine done_ (by kernel_rfl) ?_
          try go_wp2
          go_ret
          exact ⟨by first | rfl | (simp [errW_none, errW_some] <;> rfl) | (simp [*, errW_none, errW_some] <;> rfl), by repeat (first | (with_reducible first | exact HB.out | apply below_alloc | apply pw_below_drewN | apply below_drew1 | refine below_set ?_ GE101.out) | exact HB.out)⟩
         ·rw [if_neg c48] at H
          have c48b0 : (a0_0 == 4) = false := beq_eq_false_iff_ne.mpr c48
          have c48b1 : (a0_0 != 4) = true := bne_iff_ne.mpr c48
          obtain rfl := Option.some.inj H
          obtain ⟨hcz53_0, hcz53_1, hcz53_2, hcz53_3, hcz53_4, hcz53_5, hcz53_6, hcz53_7, hcz53_8, hcz53_9, hcz53_10, hcz53_11, hcz53_12⟩ := cl13 (W := wc) BK101.out
          obtain ⟨hfz53_0, hfz53_1, hfz53_2, hfz53_3, hfz53_4, hfz53_5, hfz53_6, hfz53_7, hfz53_8, hfz53_9, hfz53_10, hfz53_11, hfz53_12⟩ := fr13 BK101.out
          go_wp2
          go_ret
          exact ⟨by first | rfl | (simp [errW_none, errW_some] <;> rfl) | (simp [*, errW_none, errW_some] <;> rfl), by repeat (first | (with_reducible first | exact HB.out | apply below_alloc | apply pw_below_drewN | apply below_drew1 | refine below_set ?_ GE101.out) | exact HB.out)⟩
end Go.Proofs.Ytfjmnaobfbmllaa.M
namespace Go.Proofs.Ytfjmnaobfbmllaa.M
open Go.RowKit Go.Proofs.YtfjmnaobfbmllaaW.PrintWords Go.Proofs.YtfjmnaobfbmllaaW.PrintLast Go.Proofs.YtfjmnaobfbmllaaW.PrintMore
set_option linter.unusedVariables false
set_option linter.unusedSimpArgs false
def Chg (p s : Int) (x y : S33) : Prop := (0 ≤ p ∧ p ≤ 1023) ∧ (0 ≤ s ∧ s ≤ 31) ∧ oddS x = false ∧ oddS y = false
instance decChg (p s : Int) (x y : S33) : Decidable (Chg p s x y) := by unfold Chg; infer_instance
def KindE (k prev p s : Int) (x y : S33) (next : Int) : Prop :=
  (k = 1 ∧ Chg p s x y ∧ next = 0) ∨ (k = 2 ∧ Chg p s x y ∧ 0 ≤ next ∧ next ≤ prev) ∨ ((k = 3 ∨ k = 4) ∧ p = 0 ∧ s = 0 ∧ next = 0 ∧ x = z33 ∧ y = z33)
instance decKind (k prev p s : Int) (x y : S33) (next : Int) : Decidable (KindE k prev p s x y next) := by unfold KindE; infer_instance
def GoodE (x : S65) : Prop := KnownP x.f1.f0 x.f1.f1 x.f1.f2 ∧ (1 ≤ x.f2 ∧ x.f2 ≤ 1099511627776) ∧ (0 ≤ x.f3 ∧ x.f3 < x.f2) ∧ KindE x.f0 x.f3 x.f4 x.f5 x.f6 x.f7 x.f8
instance decGood (x : S65) : Decidable (GoodE x) := by unfold GoodE; infer_instance
def mkE (k c e n lsn prev p s : Int) (u : Bool) (d : ByteArray) (u2 : Bool) (d2 : ByteArray) (next : Int) : S65 := ⟨k, ⟨c, e, n⟩, lsn, prev, p, s, ⟨u, d⟩, ⟨u2, d2⟩, next⟩
theorem isSlot_eq (u : Bool) (d : ByteArray) : entry_isSlot.f u d = some (decide (oddS ⟨u, d⟩ = false)) := by
  unfold entry_isSlot.f oddS
  by_cases h : (d.size : Int) ≤ 200
  · rw [if_pos h, decide_eq_false (show ¬ 200 < d.size by omega)]
    cases u with
    | true => rw [if_pos rfl]; simp
    | false =>
      rw [if_neg Bool.false_ne_true]
      cases hd : d.toList <;> simp [hd]
  · rw [if_neg h, decide_eq_true (show 200 < d.size by omega)]; simp
theorem good_j1 (q : Nat) (b : Bool) (k c e n lsn prev p s : Int) (u : Bool) (d : ByteArray) (u2 : Bool) (d2 : ByteArray) (next : Int) (hb : b = decide (Chg p s ⟨u, d⟩ ⟨u2, d2⟩)) :
    entry_Good.j1 (q + 1) b k c e n lsn prev p s u d u2 d2 next = some (decide (KindE k prev p s ⟨u, d⟩ ⟨u2, d2⟩ next)) := by
  subst hb
  simp only [entry_Good.j1]
  by_cases h1 : k = 1
  · rw [if_pos h1]
    by_cases hc : Chg p s ⟨u, d⟩ ⟨u2, d2⟩
    · rw [decide_eq_true hc, if_pos rfl]; congr 1; rw [Bool.eq_iff_iff]; simp [KindE, hc, h1]
    · rw [decide_eq_false hc, if_neg Bool.false_ne_true]; congr 1; rw [Bool.eq_iff_iff]; simp [KindE, hc, h1]
  rw [if_neg h1]
  by_cases h2 : k = 2
  · rw [if_pos h2]
    by_cases hc : Chg p s ⟨u, d⟩ ⟨u2, d2⟩
    · rw [decide_eq_true hc, if_pos rfl, within_eq, Option.bind_some]; congr 1; rw [Bool.eq_iff_iff]; simp [KindE, hc, h2]
    · rw [decide_eq_false hc, if_neg Bool.false_ne_true]; congr 1; rw [Bool.eq_iff_iff]; simp [KindE, hc, h2]
  rw [if_neg h2]
  by_cases h3 : k = 3
  · rw [if_pos h3]
    unfold entry_plain.f
    rw [Option.bind_some]; congr 1; rw [Bool.eq_iff_iff]; simp [KindE, h3, s33_ext, z33, ba_nil, ba_inj, and_assoc]
    intro _ _
    constructor
    · rintro ⟨a3, a4, a5, a6, a7⟩; exact ⟨a7, a3, a4, a5, a6⟩
    · rintro ⟨a7, a3, a4, a5, a6⟩; exact ⟨a3, a4, a5, a6, a7⟩
  rw [if_neg h3]
  by_cases h4 : k = 4
  · rw [if_pos h4]
    unfold entry_plain.f
    rw [Option.bind_some]; congr 1; rw [Bool.eq_iff_iff]; simp [KindE, h4, s33_ext, z33, ba_nil, ba_inj, and_assoc]
    intro _ _
    constructor
    · rintro ⟨a3, a4, a5, a6, a7⟩; exact ⟨a7, a3, a4, a5, a6⟩
    · rintro ⟨a7, a3, a4, a5, a6⟩; exact ⟨a3, a4, a5, a6, a7⟩
  rw [if_neg h4]; congr 1; exact (decide_eq_false (by unfold KindE; omega)).symm
theorem good_j0 (q : Nat) (k c e n lsn prev p s : Int) (u : Bool) (d : ByteArray) (u2 : Bool) (d2 : ByteArray) (next : Int) :
    entry_Good.j0 (q + 2) false k c e n lsn prev p s u d u2 d2 next = some (decide (KindE k prev p s ⟨u, d⟩ ⟨u2, d2⟩ next)) := by
  simp only [entry_Good.j0]
  rw [if_neg Bool.false_ne_true, within_eq, within_eq, isSlot_eq, isSlot_eq, Option.bind_some, Option.bind_some, Option.bind_some, Option.bind_some]
  by_cases h1 : 0 ≤ p ∧ p ≤ 1023
  · rw [decide_eq_true h1, if_pos rfl]
    by_cases h2 : 0 ≤ s ∧ s ≤ 31
    · rw [decide_eq_true h2, if_pos rfl]
      by_cases h3 : oddS ⟨u, d⟩ = false
      · rw [decide_eq_true h3, if_pos rfl]
        refine good_j1 q _ k c e n lsn prev p s u d u2 d2 next ?_
        exact decide_eq_decide.mpr ⟨fun h => ⟨h1, h2, h3, h⟩, fun h => h.2.2.2⟩
      · rw [decide_eq_false h3, if_neg Bool.false_ne_true]
        refine good_j1 q _ k c e n lsn prev p s u d u2 d2 next ?_
        exact (decide_eq_false (fun h => h3 h.2.2.1)).symm
    · rw [decide_eq_false h2, if_neg Bool.false_ne_true]
      refine good_j1 q _ k c e n lsn prev p s u d u2 d2 next ?_
      exact (decide_eq_false (fun h => h2 h.2.1)).symm
  · rw [decide_eq_false h1, if_neg Bool.false_ne_true]
    refine good_j1 q _ k c e n lsn prev p s u d u2 d2 next ?_
    exact (decide_eq_false (fun h => h1 h.1)).symm
theorem goodE_pure (k c e n lsn prev p s : Int) (u : Bool) (d : ByteArray) (u2 : Bool) (d2 : ByteArray) (next : Int) :
    entry_Good.f 2 k c e n lsn prev p s u d u2 d2 next = some (decide (GoodE (mkE k c e n lsn prev p s u d u2 d2 next))) := by
  have hbad : entry_Good.j0 2 true k c e n lsn prev p s u d u2 d2 next = some false := by simp only [entry_Good.j0]; exact if_pos trivial
  unfold entry_Good.f
  rw [show entKnown.f c e n = some (decide (KnownP c e n)) from rfl, within_eq, Option.bind_some, Option.bind_some]
  by_cases h1 : KnownP c e n
  · rw [decide_eq_true h1, if_pos rfl]
    by_cases h2 : 1 ≤ lsn ∧ lsn ≤ 1099511627776
    · rw [decide_eq_true h2, if_pos rfl, w64 (lsn - 1) (by omega) (by omega), within_eq, Option.bind_some]
      by_cases h3 : 0 ≤ prev ∧ prev ≤ lsn - 1
      · rw [decide_eq_true h3, Bool.not_true, good_j0 0]
        congr 1
        exact decide_eq_decide.mpr ⟨fun h => ⟨h1, h2, ⟨h3.1, by show prev < lsn; omega⟩, h⟩, fun h => h.2.2.2⟩
      · rw [decide_eq_false h3, Bool.not_false, hbad]
        congr 1
        exact (decide_eq_false (fun h => by have h5 : 0 ≤ prev ∧ prev < lsn := h.2.2.1; omega)).symm
    · rw [decide_eq_false h2, if_neg Bool.false_ne_true, hbad]
      congr 1
      exact (decide_eq_false (fun h => h2 h.2.1)).symm
  · rw [decide_eq_false h1, if_neg Bool.false_ne_true, hbad]
    congr 1
    exact (decide_eq_false (fun h => h1 h.1)).symm
def entGood.f (k c e n lsn prev p s : Int) (u : Bool) (d : ByteArray) (u2 : Bool) (d2 : ByteArray) (next : Int) : Option Bool := some (decide (GoodE (mkE k c e n lsn prev p s u d u2 d2 next)))
theorem entGood.calls (k c e n lsn prev p s : Int) (u : Bool) (d : ByteArray) (u2 : Bool) (d2 : ByteArray) (next : Int) (r : Bool) (w : World) (h : entGood.f k c e n lsn prev p s u d u2 d2 next = some r) :
    Calls Try.prog 55 #[.agg #[.int .i64 k, .int .i64 c, .int .i64 e, .int .i64 n, .int .i64 lsn, .int .i64 prev, .int .i64 p, .int .i64 s, .bool u, .string d, .bool u2, .string d2, .int .i64 next]] w fun e w' => e = .returned (.bool r) ∧ Below w.heap.size w w' :=
  entry_Good.calls 2 k c e n lsn prev p s u d u2 d2 next r w (by rw [goodE_pure]; exact h)
end Go.Proofs.Ytfjmnaobfbmllaa.M
namespace Go.Proofs.Ytfjmnaobfbmllaa.M
open Go.RowKit Go.Proofs.YtfjmnaobfbmllaaW.PrintWords Go.Proofs.YtfjmnaobfbmllaaW.PrintLast Go.Proofs.YtfjmnaobfbmllaaW.PrintMore
set_option linter.unusedVariables false
set_option linter.unusedSimpArgs false
def redoP (a : Int) (l : List S33) (x : S65) : Int × List S33 × Bool × Int :=
  if goodP a l = true ∧ GoodE x ∧ (x.f0 = 1 ∨ x.f0 = 2) then
    (if x.f2 ≤ a then (a, l, false, 0)
     else if slotL l x.f5.toNat = x.f6 then (if 240 < rawSize (putL l x.f5.toNat x.f7) then (0, [], false, 22) else (x.f2, putL l x.f5.toNat x.f7, true, 0))
     else (0, [], false, 21))
  else (0, [], false, 1)
def undoE (x : S65) (lsn prev : Int) : S65 := ⟨2, x.f1, lsn, prev, x.f4, x.f5, x.f7, x.f6, x.f3⟩
def zE5 : S65 := ⟨0, ⟨0, 0, 0⟩, 0, 0, 0, 0, z33, z33, 0⟩
def turnP (x : S65) (lsn prev : Int) : S65 × Int := if GoodE x ∧ x.f0 = 1 ∧ GoodE (undoE x lsn prev) then (undoE x lsn prev, 0) else (zE5, 1)
def hits (p : Int) (x : S65) : Prop := (x.f0 = 1 ∨ x.f0 = 2) ∧ x.f4 = p
instance decHits (p : Int) (x : S65) : Decidable (hits p x) := by unfold hits; infer_instance
def allF (p : Int) : Int → List S33 → List S65 → Int × List S33 × Int
  | a, l, [] => (a, l, 0)
  | a, l, x :: xs => if hits p x then (if (redoP a l x).2.2.2 = 0 then allF p (redoP a l x).1 (redoP a l x).2.1 xs else (0, [], (redoP a l x).2.2.2)) else allF p a l xs
def allP (a : Int) (l : List S33) (p : Int) (xs : List S65) : Int × List S33 × Int := if goodP a l = true then allF p a l xs else (0, [], 1)
theorem chg_of {x : S65} (hg : GoodE x) (hk : x.f0 = 1 ∨ x.f0 = 2) : Chg x.f4 x.f5 x.f6 x.f7 := by
  rcases hg.2.2.2 with h | h | h
  · exact h.2.1
  · exact h.2.1
  · omega
theorem slot_of {x : S65} (hg : GoodE x) (hk : x.f0 = 1 ∨ x.f0 = 2) : ∃ s : Nat, x.f5 = s ∧ s < 32 := by
  have h := (chg_of hg hk).2.1
  obtain ⟨s, hs⟩ := Int.eq_ofNat_of_zero_le h.1
  exact ⟨s, hs, by omega⟩
theorem is_fine {x : S65} (hg : GoodE x) (hk : x.f0 = 1 ∨ x.f0 = 2) : fineS x.f6 ∧ fineS x.f7 := by
  have h := chg_of hg hk
  exact ⟨(odd_fine _).mp h.2.2.1, (odd_fine _).mp h.2.2.2⟩
theorem redo_ok {a : Int} {l : List S33} {x : S65} (h : (redoP a l x).2.2.2 = 0) :
    goodP a l = true ∧ GoodE x ∧ (x.f0 = 1 ∨ x.f0 = 2) ∧ ((x.f2 ≤ a ∧ redoP a l x = (a, l, false, 0)) ∨
      (a < x.f2 ∧ slotL l x.f5.toNat = x.f6 ∧ rawSize (putL l x.f5.toNat x.f7) ≤ 240 ∧ redoP a l x = (x.f2, putL l x.f5.toNat x.f7, true, 0))) := by
  unfold redoP at h ⊢
  by_cases hc : goodP a l = true ∧ GoodE x ∧ (x.f0 = 1 ∨ x.f0 = 2)
  · rw [if_pos hc] at h ⊢
    refine ⟨hc.1, hc.2.1, hc.2.2, ?_⟩
    by_cases h1 : x.f2 ≤ a
    · rw [if_pos h1]; exact .inl ⟨h1, rfl⟩
    · rw [if_neg h1] at h ⊢
      by_cases h2 : slotL l x.f5.toNat = x.f6
      · rw [if_pos h2] at h ⊢
        by_cases h3 : 240 < rawSize (putL l x.f5.toNat x.f7)
        · rw [if_pos h3] at h; cases h
        · rw [if_neg h3]; exact .inr ⟨by omega, h2, by omega, rfl⟩
      · rw [if_neg h2] at h; cases h
  · rw [if_neg hc] at h; cases h
theorem redo_fail {a : Int} {l : List S33} {x : S65} (h : (redoP a l x).2.2.2 ≠ 0) : (redoP a l x).1 = 0 ∧ (redoP a l x).2.1 = [] ∧ (redoP a l x).2.2.1 = false := by
  unfold redoP at h ⊢
  by_cases hc : goodP a l = true ∧ GoodE x ∧ (x.f0 = 1 ∨ x.f0 = 2)
  · rw [if_pos hc] at h ⊢
    by_cases h1 : x.f2 ≤ a
    · rw [if_pos h1] at h; exact absurd rfl h
    · rw [if_neg h1] at h ⊢
      by_cases h2 : slotL l x.f5.toNat = x.f6
      · rw [if_pos h2] at h ⊢
        by_cases h3 : 240 < rawSize (putL l x.f5.toNat x.f7)
        · rw [if_pos h3]; exact ⟨rfl, rfl, rfl⟩
        · rw [if_neg h3] at h; exact absurd rfl h
      · rw [if_neg h2]; exact ⟨rfl, rfl, rfl⟩
  · rw [if_neg hc]; exact ⟨rfl, rfl, rfl⟩
theorem lsn_of {x : S65} (hg : GoodE x) : 1 ≤ x.f2 ∧ x.f2 ≤ 1099511627776 := hg.2.1
theorem good_lsn {a b : Int} {l : List S33} (h : goodP a l = true) (h0 : 0 ≤ b) (h1 : b ≤ 1099511627776) : goodP b l = true := by
  rw [good_iff] at h ⊢
  exact ⟨h0, h1, h.2.2⟩
theorem redo_good {a : Int} {l : List S33} {x : S65} (h : (redoP a l x).2.2.2 = 0) :
    goodP (redoP a l x).1 (redoP a l x).2.1 = true ∧ a ≤ (redoP a l x).1 ∧ x.f2 ≤ (redoP a l x).1 := by
  obtain ⟨hg, hx, hk, h1 | h1⟩ := redo_ok h
  · rw [h1.2]; exact ⟨hg, Int.le_refl _, h1.1⟩
  · rw [h1.2.2.2]
    obtain ⟨s, hs, hs2⟩ := slot_of hx hk
    have hz := h1.2.2.1
    rw [hs, Int.toNat_natCast] at hz ⊢
    have hl := lsn_of hx
    exact ⟨good_lsn (put_good hg hs2 (is_fine hx hk).2 hz) (by omega) hl.2, by omega, Int.le_refl _⟩
end Go.Proofs.Ytfjmnaobfbmllaa.M
namespace Go.Proofs.Ytfjmnaobfbmllaa.M
open Go.RowKit Go.Proofs.YtfjmnaobfbmllaaW.PrintWords Go.Proofs.YtfjmnaobfbmllaaW.PrintLast Go.Proofs.YtfjmnaobfbmllaaW.PrintMore
set_option linter.unusedVariables false
set_option linter.unusedSimpArgs false
def unfoldI (u : Nat) : Int := if u % 2 = 1 then -((u / 2 : Nat) : Int) - 1 else ((u / 2 : Nat) : Int)
def takeV : Nat → Nat → List Int → Option (Nat × List Int)
  | _, _, [] => none
  | i, u, b :: bs => if 10 ≤ i then none else if b < 128 then (if (i = 9 ∧ 1 < b) ∨ (0 < i ∧ b = 0) then none else some (u + b.toNat * 2 ^ (7 * i), bs))
      else if i = 9 then none else takeV (i + 1) (u + (b - 128).toNat * 2 ^ (7 * i)) bs
end Go.Proofs.Ytfjmnaobfbmllaa.M
namespace Go.Proofs.Ytfjmnaobfbmllaa.M
open Go.RowKit Go.Proofs.YtfjmnaobfbmllaaW.PrintWords Go.Proofs.YtfjmnaobfbmllaaW.PrintLast Go.Proofs.YtfjmnaobfbmllaaW.PrintMore
set_option linter.unusedVariables false
set_option linter.unusedSimpArgs false
def takeI (bs : List Int) : Option (Int × List Int) := (takeV 0 0 bs).map fun r => (unfoldI r.1, r.2)
def takeT (bs : List Int) : Option (ByteArray × List Int) := (takeI bs).bind fun r => if 0 ≤ r.1 ∧ r.1 ≤ 200 ∧ r.1 ≤ r.2.length then some (strOfNums (r.2.take r.1.toNat), r.2.drop r.1.toNat) else none
end Go.Proofs.Ytfjmnaobfbmllaa.M
namespace Go.Proofs.Ytfjmnaobfbmllaa.M
open Go.RowKit Go.Proofs.YtfjmnaobfbmllaaW.PrintWords Go.Proofs.YtfjmnaobfbmllaaW.PrintLast Go.Proofs.YtfjmnaobfbmllaaW.PrintMore
attribute [local go_sem] max2_int min2_int max_two min_two max_three min_three max_four min_four   -- for this text's walks alone
set_option linter.unusedVariables false
set_option linter.unusedSimpArgs false
def IsS127 (w0 W : World) (g : Nat) (f0 : ByteArray) (f1 : Bool) : Prop := W.heap[g]? = some (.cells #[.string f0, .bool f1] 127 (0, 0)) ∧ w0.heap.size ≤ g
theorem IsS127.grown {w0 W : World} {g : Nat} {f0 : ByteArray} {f1 : Bool} {W1 : World} {row : Option Nat} (h : IsS127 w0 W g f0 f1) (hw : W.grownBy W1 row) (hne : some g ≠ row) : IsS127 w0 W1 g f0 f1 := by
 obtain ⟨hb, hg⟩ := h
 exact ⟨blk_grown hb hw hne, hg⟩
theorem IsS127.kept {w0 W : World} {g : Nat} {f0 : ByteArray} {f1 : Bool} {W1 : World} {S : Nat → Prop} (h : IsS127 w0 W g f0 f1) (hk : Kept W W1 S) (hne : ¬ S g) : IsS127 w0 W1 g f0 f1 := by
 obtain ⟨hb, hg⟩ := h
 exact ⟨blk_kept hb hk hne, hg⟩
theorem IsS127.below {w0 W : World} {g : Nat} {f0 : ByteArray} {f1 : Bool} {W1 : World} (h : IsS127 w0 W g f0 f1) (hw : Below W.heap.size W W1) : IsS127 w0 W1 g f0 f1 := h.grown (grown_of_below hw none) (by simp)
theorem IsS127.alloc {w0 W : World} {g : Nat} {f0 : ByteArray} {f1 : Bool} (h : IsS127 w0 W g f0 f1) (o : Obj) : IsS127 w0 (W.alloc o) g f0 f1 := h.below (below_alloc (Below.refl _ _) o)
theorem IsS127.drewN {w0 W : World} {g : Nat} {f0 : ByteArray} {f1 : Bool} (h : IsS127 w0 W g f0 f1) (m : Nat) : IsS127 w0 (W.drewN m) g f0 f1 := h
theorem IsS127.drew {w0 W : World} {g : Nat} {f0 : ByteArray} {f1 : Bool} (h : IsS127 w0 W g f0 f1) : IsS127 w0 W.drew g f0 f1 := h
theorem IsS127.apart {w0 W : World} {g : Nat} {f0 : ByteArray} {f1 : Bool} {α : Type} {d : Kd α} {e : Nat} {base : Nat} {ok : Nat → Prop} {v : Value} {xs : List α} (h : IsS127 w0 W g f0 f1) (ho : d.R e W base ok v xs) (ht : ∀ q, q ∈ e :: d.E → q ≠ 127) : d.R e W base (fun k => ok k ∧ k ≠ g) v xs := by
 obtain ⟨hb, hg⟩ := h
 exact Kd.R_types ho hb ht
theorem IsS127.own_ne {w0 W : World} {g : Nat} {f0 : ByteArray} {f1 : Bool} {α : Type} {d : Kd α} {e : Nat} {base : Nat} {ok : Nat → Prop} {v : Value} {xs : List α} (h : IsS127 w0 W g f0 f1) (ho : d.R e W base ok v xs) (ht : e ≠ 127) : some g ≠ v.ownBlock := by
 obtain ⟨hb, hg⟩ := h
 exact Kd.R_ne ho hb ht
end Go.Proofs.Ytfjmnaobfbmllaa.M
namespace Go.Proofs.Ytfjmnaobfbmllaa.M
open Go.RowKit Go.Proofs.YtfjmnaobfbmllaaW.PrintWords Go.Proofs.YtfjmnaobfbmllaaW.PrintLast Go.Proofs.YtfjmnaobfbmllaaW.PrintMore
set_option linter.unusedVariables false
set_option linter.unusedSimpArgs false
theorem s65_ext (x y : S65) : x = y ↔ x.f0 = y.f0 ∧ ((x.f1.f0 = y.f1.f0 ∧ x.f1.f1 = y.f1.f1 ∧ x.f1.f2 = y.f1.f2) ∧ x.f2 = y.f2 ∧ x.f3 = y.f3 ∧ x.f4 = y.f4 ∧ x.f5 = y.f5 ∧ (x.f6.f0 = y.f6.f0 ∧ x.f6.f1 = y.f6.f1) ∧ (x.f7.f0 = y.f7.f0 ∧ x.f7.f1 = y.f7.f1) ∧ x.f8 = y.f8) := by
  obtain ⟨a0, ⟨a1, a2, a3⟩, a4, a5, a6, a7, ⟨a8, a9⟩, ⟨a10, a11⟩, a12⟩ := x
  obtain ⟨b0, ⟨b1, b2, b3⟩, b4, b5, b6, b7, ⟨b8, b9⟩, ⟨b10, b11⟩, b12⟩ := y
  simp
instance decS65 : DecidableEq S65 := fun x y => decidable_of_iff _ (s65_ext x y).symm
theorem s65_beq (x y : S65) : (x.f0 == y.f0 && ((x.f1.f0 == y.f1.f0 && (x.f1.f1 == y.f1.f1 && (x.f1.f2 == y.f1.f2))) && (x.f2 == y.f2 && (x.f3 == y.f3 && (x.f4 == y.f4 && (x.f5 == y.f5 && ((x.f6.f0 == y.f6.f0 && (x.f6.f1.toList == y.f6.f1.toList)) && ((x.f7.f0 == y.f7.f0 && (x.f7.f1.toList == y.f7.f1.toList)) && (x.f8 == y.f8))))))))) = decide (x = y) := by
  rw [Bool.eq_iff_iff, decide_eq_true_iff, s65_ext]
  simp [ba_inj, and_assoc]
def greatE (x : S65) : Bool := decide (4096 < x.f6.f1.size) || decide (4096 < x.f7.f1.size)
theorem mk_eq (x : S65) : mkE x.f0 x.f1.f0 x.f1.f1 x.f1.f2 x.f2 x.f3 x.f4 x.f5 x.f6.f0 x.f6.f1 x.f7.f0 x.f7.f1 x.f8 = x := rfl
end Go.Proofs.Ytfjmnaobfbmllaa.M
namespace Go.Proofs.Ytfjmnaobfbmllaa.M
open Go.RowKit Go.Proofs.YtfjmnaobfbmllaaW.PrintWords Go.Proofs.YtfjmnaobfbmllaaW.PrintLast Go.Proofs.YtfjmnaobfbmllaaW.PrintMore
attribute [local go_sem] max2_int min2_int max_two min_two max_three min_three max_four min_four   -- for this text's walks alone
set_option linter.unusedVariables false
set_option linter.unusedSimpArgs false
def slices_Clone.f (l0 : List S33) : Option (List S33) := if l0.length < 5864062014805 then some l0 else none
set_option maxHeartbeats 8000000 in
set_option maxRecDepth 100000 in
theorem slices_Clone.calls (A0 : Option Addr) (c0 : Nat) (l0 : List S33) (r : List S33) (w : World) (hr0 : Kd.C k33 w A0 l0.length l0) (hc0 : l0.length ≤ c0) (h : slices_Clone.f l0 = some r) :
    Calls Try.prog 113 #[.slice A0 l0.length c0] w fun e w' => ∃ v0_ : Value, e = .returned (v0_) ∧ Kd.R k33 33 w' w.heap.size (fun _ => True) v0_ r ∧ Below w.heap.size w w' := by
  unfold slices_Clone.f at h
  split at h
  case isFalse => cases h
  case isTrue hl =>
  obtain rfl := Option.some.inj h
  clear h
  cases A0 with
  | none =>
    have hn : l0 = [] := by
      cases l0 with
      | nil => rfl
      | cons x l =>
        obtain ⟨ad, e, _⟩ := at_T33 hr0 0 (by omega) (by simp)
        cases e
    subst hn
    clear hr0 hc0 hl
    have hq := Lib.run_eql_slice_nil (P := Try.prog)
    have hu22 := Try.underlying22
    go_enter Try.func113, Try.ntmps113
    go_wp2
    go_ret
    exact ⟨_, rfl, Kd.R_nil _ _ _ _ _, Below.refl _ _⟩
  | some ad =>
    have HR0 := Aside0.mk hr0
    have HC0 := Aside0.mk hc0
    have LM := Aside0.mk hl
    clear hr0 hc0 hl
    have HB := Aside0.mk (Below.refl w.heap.size w)
    have hu22 := Try.underlying22
    have hq := Lib.run_eql_slice_nil (P := Try.prog)
    obtain ⟨y104, hy104⟩ : ∃ y_ : List (S33), y_ = (([] : List S33) ++ l0) := ⟨_, rfl⟩
    have Ny104 := Aside0.mk hy104
    clear hy104
    go_enter Try.func113, Try.ntmps113
    go_wp2_with (first | ((with_reducible refine gate_dst (N := 5) rfl ?_); refine Kd.R_lit k33 _ 33 ?hg (N := 5) ?hd (xs := ([] : List (S33))) (inner := []) (ok := fun _ => True) (okp := fun _ => True) ?hr ?hp (fun _ hk => hk) trivial (Below.refl _ _) (Nat.le_refl _) (by simp) ?_; (case hd => rfl); (case hg => rfl); (case hr => first | (go_simp; done) | (go_simp; rfl)); (case hp => exact (Reps.none _ _)); intro v102 w3 ho4 hb hg_ hnew_; clear hg_ hnew_; have n0_ := Aside0.mk (Kd.R_lower ho4 (below_size (by repeat (first | (with_reducible first | exact HB.out | apply below_alloc | apply pw_below_drewN | apply below_drew1) | exact HB.out)))); have n1_ := Aside0.mk (below_step (by repeat (first | (with_reducible first | exact HB.out | apply below_alloc | apply pw_below_drewN | apply below_drew1) | exact HB.out)) hb); clear HB; have HO103 := n0_; have HB := n1_; clear n0_ n1_; clear hb ho4) | ((with_reducible refine gate_builtin (b := .append) (xs := #[.tmp 5, .tmp 6]) rfl ?_); at_builtin; refine Kd.R_append_rows k33 (w0 := w) w.heap.size rfl (.tmp 5) (.tmp 6) 22 33 (.agg #[(.bool false), (.string ⟨#[]⟩)]) 24 rfl Try.underlying22 info33 rfl (by decide) (by omega) v102 ([] : List S33) l0 _ _ _ (fun _ => True) (fun _ => False) rfl rfl ?aO ?aR (fun _ _ h => h) (fun _ h => h.elim) ?aF ?aB ?aS ?aL ?_; (case aR => repeat (first | exact (Kd.C_below HR0.out HB.out) | (with_reducible refine Kd.C_alloc ?_ _) | (with_reducible refine Kd.C_drewN ?_ _) | (with_reducible refine Kd.C_drew ?_))); (case aB => exact (by repeat (first | (with_reducible first | exact HB.out | apply below_alloc | apply pw_below_drewN | apply below_drew1) | exact HB.out))); (case aF => exact (fun _ _ => trivial)); (case aO => exact (by (with_reducible repeat (first | apply Kd.R_alloc | apply Kd.R_drewN | apply Kd.R_drew)); exact HO103.out)); (case aS => exact (below_size (by repeat (first | (with_reducible first | exact HB.out | apply below_alloc | apply pw_below_drewN | apply below_drew1) | exact HB.out)))); (case aL => have := LM.out; simp; omega); intro v105 w5 ho hb hg hat; rw [← Ny104.out] at ho; have n0_ := Aside0.mk (hb); have n1_ := Aside0.mk (ho); clear HB; clear HO103; have HB := n0_; have HO106 := n1_; clear n0_ n1_; clear ho hb hg hat))
    go_ret
    exact ⟨_, by first | rfl | (simp [errW_none, errW_some] <;> rfl) | (simp [*, errW_none, errW_some] <;> rfl), by (with_reducible repeat (first | apply Kd.R_alloc | apply Kd.R_drewN | apply Kd.R_drew)); (have ho_ := HO106.out; rw [Ny104.out, List.nil_append] at ho_; exact ho_), by repeat (first | (with_reducible first | exact HB.out | apply below_alloc | apply pw_below_drewN | apply below_drew1) | exact HB.out)⟩
end Go.Proofs.Ytfjmnaobfbmllaa.M
namespace Go.Proofs.Ytfjmnaobfbmllaa.M
open Go.RowKit Go.Proofs.YtfjmnaobfbmllaaW.PrintWords Go.Proofs.YtfjmnaobfbmllaaW.PrintLast Go.Proofs.YtfjmnaobfbmllaaW.PrintMore
attribute [local go_sem] max2_int min2_int max_two min_two max_three min_three max_four min_four   -- for this text's walks alone
set_option linter.unusedVariables false
set_option linter.unusedSimpArgs false
def patch_changes.f (a0_0 : Int) (a0_1 : Int) (a0_2 : Int) (a0_3 : Int) (a0_4 : Int) (a0_5 : Int) (a0_6 : Int) (a0_7 : Int) (a0_8 : Bool) (a0_9 : ByteArray) (a0_10 : Bool) (a0_11 : ByteArray) (a0_12 : Int) : Option (Bool) := if a0_0 = 1 then (some true) else (some (a0_0 == 2))
set_option maxHeartbeats 8000000 in
set_option maxRecDepth 100000 in
theorem patch_changes.calls (a0_0 : Int) (a0_1 : Int) (a0_2 : Int) (a0_3 : Int) (a0_4 : Int) (a0_5 : Int) (a0_6 : Int) (a0_7 : Int) (a0_8 : Bool) (a0_9 : ByteArray) (a0_10 : Bool) (a0_11 : ByteArray) (a0_12 : Int) (r : Bool) (w : World) (h : patch_changes.f a0_0 a0_1 a0_2 a0_3 a0_4 a0_5 a0_6 a0_7 a0_8 a0_9 a0_10 a0_11 a0_12 = some r) :
  Calls Try.prog 112 #[.agg #[.int .i64 a0_0, .int .i64 a0_1, .int .i64 a0_2, .int .i64 a0_3, .int .i64 a0_4, .int .i64 a0_5, .int .i64 a0_6, .int .i64 a0_7, .bool a0_8, .string a0_9, .bool a0_10, .string a0_11, .int .i64 a0_12]] w fun e w' => e = .returned (.bool r) ∧ Below w.heap.size w w' := by
 have hu65 := Try.underlying65
 have HB := Aside0.mk (Below.refl w.heap.size w)
 have H : (if a0_0 = 1 then (some true) else (some (a0_0 == 2))) = some r := h
 clear h
 by_cases c2 : a0_0 = 1
 ·rw [if_pos c2] at H
  have c2b0 : (a0_0 == 1) = true := beq_iff_eq.mpr c2
  have c2b1 : (a0_0 != 1) = false := bne_eq_false_iff_eq.mpr c2
  clear c2
  obtain rfl := Option.some.inj H
  go_enter Try.func112, Try.ntmps112
  go_wp2_with (first | ((with_reducible refine gate_dst (N := 1) rfl ?_); refine box_event ?hg (N := 1) ?hd (cs := #[.int .i64 a0_0, .int .i64 a0_1, .int .i64 a0_2, .int .i64 a0_3, .int .i64 a0_4, .int .i64 a0_5, .int .i64 a0_6, .int .i64 a0_7, .bool a0_8, .string a0_9, .bool a0_10, .string a0_11, .int .i64 a0_12]) (t := 65) ?hr ?_; (case hd => rfl); (case hg => rfl); (case hr => first | (go_simp; done) | (go_simp; rfl)); intro gb101 hg w3 hbox hb; have n0_ := Aside0.mk (below_step HB.out hb); have n1_ := Aside0.mk (hbox); have n2_ := Aside0.mk ((by rw [hg]; exact below_size HB.out : w.heap.size ≤ gb101)); have n3_ := Aside0.mk ((by rw [hg]; exact below_size HB.out : w.heap.size ≤ gb101)); clear HB; have HB := n0_; have BK101 := n1_; have GW101 := n2_; have GE101 := n3_; clear n0_ n1_ n2_ n3_; clear hb hbox hg; obtain ⟨hcz4_0, hcz4_1, hcz4_2, hcz4_3, hcz4_4, hcz4_5, hcz4_6, hcz4_7, hcz4_8, hcz4_9, hcz4_10, hcz4_11, hcz4_12⟩ := cl13 (W := w3) BK101.out; obtain ⟨hfz4_0, hfz4_1, hfz4_2, hfz4_3, hfz4_4, hfz4_5, hfz4_6, hfz4_7, hfz4_8, hfz4_9, hfz4_10, hfz4_11, hfz4_12⟩ := fr13 BK101.out))
  go_ret
  exact ⟨by first | rfl | (simp [errW_none, errW_some] <;> rfl) | (simp [*, errW_none, errW_some] <;> rfl), by repeat (first | (with_reducible first | exact HB.out | apply below_alloc | apply pw_below_drewN | apply below_drew1 | refine below_set ?_ GE101.out) | exact HB.out)⟩
 ·rw [if_neg c2] at H
  have c2b0 : (a0_0 == 1) = false := beq_eq_false_iff_ne.mpr c2
  have c2b1 : (a0_0 != 1) = true := bne_iff_ne.mpr c2
  obtain rfl := Option.some.inj H
  go_enter Try.func112, Try.ntmps112
  go_wp2_with (first | ((with_reducible refine gate_dst (N := 1) rfl ?_); refine box_event ?hg (N := 1) ?hd (cs := #[.int .i64 a0_0, .int .i64 a0_1, .int .i64 a0_2, .int .i64 a0_3, .int .i64 a0_4, .int .i64 a0_5, .int .i64 a0_6, .int .i64 a0_7, .bool a0_8, .string a0_9, .bool a0_10, .string a0_11, .int .i64 a0_12]) (t := 65) ?hr ?_; (case hd => rfl); (case hg => rfl); (case hr => first | (go_simp; done) | (go_simp; rfl)); intro gb101 hg w5 hbox hb; have n0_ := Aside0.mk (below_step HB.out hb); have n1_ := Aside0.mk (hbox); have n2_ := Aside0.mk ((by rw [hg]; exact below_size HB.out : w.heap.size ≤ gb101)); have n3_ := Aside0.mk ((by rw [hg]; exact below_size HB.out : w.heap.size ≤ gb101)); clear HB; have HB := n0_; have BK101 := n1_; have GW101 := n2_; have GE101 := n3_; clear n0_ n1_ n2_ n3_; clear hb hbox hg; obtain ⟨hcz6_0, hcz6_1, hcz6_2, hcz6_3, hcz6_4, hcz6_5, hcz6_6, hcz6_7, hcz6_8, hcz6_9, hcz6_10, hcz6_11, hcz6_12⟩ := cl13 (W := w5) BK101.out; obtain ⟨hfz6_0, hfz6_1, hfz6_2, hfz6_3, hfz6_4, hfz6_5, hfz6_6, hfz6_7, hfz6_8, hfz6_9, hfz6_10, hfz6_11, hfz6_12⟩ := fr13 BK101.out))
  go_ret
  exact ⟨by first | rfl | (simp [errW_none, errW_some] <;> rfl) | (simp [*, errW_none, errW_some] <;> rfl), by repeat (first | (with_reducible first | exact HB.out | apply below_alloc | apply pw_below_drewN | apply below_drew1 | refine below_set ?_ GE101.out) | exact HB.out)⟩
end Go.Proofs.Ytfjmnaobfbmllaa.M
namespace Go.Proofs.Ytfjmnaobfbmllaa.M
open Go.RowKit Go.Proofs.YtfjmnaobfbmllaaW.PrintWords Go.Proofs.YtfjmnaobfbmllaaW.PrintLast Go.Proofs.YtfjmnaobfbmllaaW.PrintMore
attribute [local go_sem] max2_int min2_int max_two min_two max_three min_three max_four min_four   -- for this text's walks alone
set_option linter.unusedVariables false
set_option linter.unusedSimpArgs false
def slab_At.f (a0_0 : Int) (l0_1 : List (S33)) (a1 : Int) : Option (Bool × ByteArray) := (slabGood.f a0_0 l0_1).bind fun t103 => (if t103 = true then (if a1 < 0 then (some (false, (⟨#[]⟩ : ByteArray))) else (if a1 ≥ (l0_1.length : Int) then (some (false, (⟨#[]⟩ : ByteArray))) else (if 0 ≤ a1 then (if a1 < (l0_1.length : Int) then (some ((rd_T33 l0_1 a1).f0, (rd_T33 l0_1 a1).f1)) else (none)) else (none)))) else (some (false, (⟨#[]⟩ : ByteArray))))
set_option maxHeartbeats 8000000 in
set_option maxRecDepth 100000 in
theorem slab_At.calls (a0_0 : Int) (A0_1 : Option Addr) (c0_1 : Nat) (l0_1 : List (S33)) (a1 : Int) (r1 : Bool) (r2 : ByteArray) (w : World) (hr0_1 : Kd.C k33 w A0_1 l0_1.length l0_1) (hc0_1 : l0_1.length ≤ c0_1) (h : slab_At.f a0_0 l0_1 a1 = some (r1, r2)) :
  Calls Try.prog 39 #[.agg #[.int .i64 a0_0, .slice A0_1 l0_1.length c0_1], .int .i64 a1] w fun e w' => e = .returned (.agg #[.bool r1, .string r2]) ∧ Below w.heap.size w w' := by
 have hu24 := Try.underlying24
 have hu33 := Try.underlying33
 have HR0_1 := Aside0.mk hr0_1
 have HC0_1 := Aside0.mk hc0_1
 clear hr0_1 hc0_1
 have HB := Aside0.mk (Below.refl w.heap.size w)
 have H : ((slabGood.f a0_0 l0_1).bind fun t103 => (if t103 = true then (if a1 < 0 then (some (false, (⟨#[]⟩ : ByteArray))) else (if a1 ≥ (l0_1.length : Int) then (some (false, (⟨#[]⟩ : ByteArray))) else (if 0 ≤ a1 then (if a1 < (l0_1.length : Int) then (some ((rd_T33 l0_1 a1).f0, (rd_T33 l0_1 a1).f1)) else (none)) else (none)))) else (some (false, (⟨#[]⟩ : ByteArray))))) = some (r1, r2) := h
 clear h
 replace H := Option.bind_eq_some_iff.mp H
 obtain ⟨t103, A30, H⟩ := H
 replace H : (if t103 = true then (if a1 < 0 then (some (false, (⟨#[]⟩ : ByteArray))) else (if a1 ≥ (l0_1.length : Int) then (some (false, (⟨#[]⟩ : ByteArray))) else (if 0 ≤ a1 then (if a1 < (l0_1.length : Int) then (some ((rd_T33 l0_1 a1).f0, (rd_T33 l0_1 a1).f1)) else (none)) else (none)))) else (some (false, (⟨#[]⟩ : ByteArray)))) = some (r1, r2) := H
 have A3 := Aside0.mk A30
 clear A30
 by_cases c4 : t103 = true
 ·subst c4
  have H1 : (if a1 < 0 then (some (false, (⟨#[]⟩ : ByteArray))) else (if a1 ≥ (l0_1.length : Int) then (some (false, (⟨#[]⟩ : ByteArray))) else (if 0 ≤ a1 then (if a1 < (l0_1.length : Int) then (some ((rd_T33 l0_1 a1).f0, (rd_T33 l0_1 a1).f1)) else (none)) else (none)))) = some (r1, r2) := by rw [if_pos rfl] at H; exact H
  clear H
  have H := H1
  clear H1
  by_cases c5 : a1 < 0
  ·rw [if_pos c5] at H
   have c5b0 : decide (a1 < 0) = true := decide_eq_true c5
   clear c5
   simp only [Option.some.injEq, Prod.mk.injEq] at H
   obtain ⟨rfl, rfl⟩ := H
   go_enter Try.func39, Try.ntmps39
   go_wp2_with (first | ((with_reducible refine gate_dst (N := 2) rfl ?_); (try (refine gate_guard (by rfl) ?_; dsimp only)); refine box_event ?hg (N := 2) ?hd (cs := #[.int .i64 a0_0, .slice A0_1 l0_1.length c0_1]) (t := 24) ?hr ?_; (case hd => rfl); (case hg => rfl); (case hr => first | (go_simp; done) | (go_simp; rfl)); intro gb101 hg w6 hbox hb; have n0_ := Aside0.mk (below_step HB.out hb); have n1_ := Aside0.mk (hbox); have n2_ := Aside0.mk ((by rw [hg]; exact below_size HB.out : w.heap.size ≤ gb101)); have n3_ := Aside0.mk ((by rw [hg]; exact below_size HB.out : w.heap.size ≤ gb101)); clear HB; have HB := n0_; have BK101 := n1_; have GW101 := n2_; have GE101 := n3_; clear n0_ n1_ n2_ n3_; clear hb hbox hg) | ((with_reducible refine gate_dst (N := 4) rfl ?_); (try (refine gate_guard (by rfl) ?_; dsimp only)); refine box_event ?hg (N := 4) ?hd (cs := #[.bool false, .string (⟨#[]⟩ : ByteArray)]) (t := 33) ?hr ?_; (case hd => rfl); (case hg => rfl); (case hr => first | (go_simp; done) | (go_simp; rfl)); intro gb102 hg w7 hbox hb; have n0_ := Aside0.mk (blk_below BK101.out hb); have n1_ := Aside0.mk (below_step HB.out hb); have n2_ := Aside0.mk (hbox); have n3_ := Aside0.mk ((by rw [hg]; exact below_size HB.out : w.heap.size ≤ gb102)); have n4_ := Aside0.mk ((by rw [hg]; exact below_size HB.out : w.heap.size ≤ gb102)); have n5_ := Aside0.mk ((by rw [hg]; exact Nat.ne_of_lt (blk_lt BK101.out) : gb101 ≠ gb102)); have n6_ := Aside0.mk ((by rw [hg]; exact Nat.ne_of_gt (blk_lt BK101.out) : gb102 ≠ gb101)); clear BK101; clear HB; have BK101 := n0_; have HB := n1_; have BK102 := n2_; have GW102 := n3_; have GE102 := n4_; have NB101_102 := n5_; have NB102_101 := n6_; clear n0_ n1_ n2_ n3_ n4_ n5_ n6_; clear hb hbox hg; have hnb8 := NB101_102.out; have hnc8 := NB102_101.out; obtain ⟨hcz9_0, hcz9_1⟩ := cl2 (W := w7) BK101.out; obtain ⟨hfz9_0, hfz9_1⟩ := fr2 BK101.out) | ((with_reducible refine gate_callee (f := 34) rfl ?_); refine goesL_ (some 6) rfl rfl Try.func34 (by kernel_rfl) rfl #[.agg #[.int .i64 a0_0, .slice A0_1 l0_1.length c0_1]] rfl (by (try simp only [List.map_toArray, List.map_cons, List.map_nil]); first | done | rfl | (simp only [List.length_drop, List.length_take]; rfl)) ?_; (with_reducible refine (slabGood.calls a0_0 _ _ l0_1 true _ ?side1 ?side2 A3.out).mono ?_); (case side1 => repeat (first | exact (Kd.C_below HR0_1.out HB.out) | (with_reducible refine Kd.C_alloc ?_ _) | (with_reducible refine Kd.C_drewN ?_ _) | (with_reducible refine Kd.C_drew ?_))); (case side2 => exact HC0_1.out); rintro e w10 ⟨rfl, hb⟩; refine ⟨_, rfl, ?_⟩; have n0_ := Aside0.mk (blk_below BK101.out hb); have n1_ := Aside0.mk (blk_below (g := gb102) (o := .cells #[.bool false, .string (⟨#[]⟩ : ByteArray)] 33 (0, 0)) (by (with_reducible repeat (first | refine blk_drewN ?_ _ | refine blk_drew ?_ | refine blk_alloc ?_ _)); exact BK102.out) hb); have n2_ := Aside0.mk (below_step HB.out hb); clear BK101; clear BK102; clear HB; have BK101 := n0_; have BK102 := n1_; have HB := n2_; clear n0_ n1_ n2_; (try clear hb); (try clear hb2); (try clear hk); (try clear hi); obtain ⟨hcz11_0, hcz11_1⟩ := cl2 (W := w10) BK102.out; obtain ⟨hfz11_0, hfz11_1⟩ := fr2 BK102.out))
   refine bodyPost_ret (results_cell_row rfl _ _ gb102 33 #[.bool false, .string (⟨#[]⟩ : ByteArray)] (0, 0) _ rfl (by (with_reducible repeat (first | refine blk_drewN ?_ _ | refine blk_drew ?_ | refine blk_alloc ?_ _)); refine blk_put (cs := #[.bool false, .string (⟨#[]⟩ : ByteArray)]) ?_ 1 _ rfl; refine blk_put (cs := #[.bool false, .string (⟨#[]⟩ : ByteArray)]) ?_ 0 _ rfl; (with_reducible repeat (first | refine blk_drewN ?_ _ | refine blk_drew ?_ | refine blk_alloc ?_ _)); exact BK102.out) Try.underlying33 rfl (by kernel_rfl)) rfl ?_
   exact ⟨by first | rfl | (simp [errW_none, errW_some] <;> rfl) | (simp [*, errW_none, errW_some] <;> rfl), by repeat (first | (with_reducible first | exact HB.out | apply below_alloc | apply pw_below_drewN | apply below_drew1 | refine below_set ?_ GE101.out | refine below_set ?_ GE102.out) | exact HB.out)⟩
  ·rw [if_neg c5] at H
   have c5b0 : decide (a1 < 0) = false := decide_eq_false c5
   clear c5
   by_cases c12 : a1 ≥ (l0_1.length : Int)
   ·rw [if_pos c12] at H
    have c12b0 : decide ((l0_1.length : Int) ≤ a1) = true := decide_eq_true c12
    clear c12
    simp only [Option.some.injEq, Prod.mk.injEq] at H
    obtain ⟨rfl, rfl⟩ := H
    go_enter Try.func39, Try.ntmps39
    go_wp2_with (first | ((with_reducible refine gate_dst (N := 2) rfl ?_); (try (refine gate_guard (by rfl) ?_; dsimp only)); refine box_event ?hg (N := 2) ?hd (cs := #[.int .i64 a0_0, .slice A0_1 l0_1.length c0_1]) (t := 24) ?hr ?_; (case hd => rfl); (case hg => rfl); (case hr => first | (go_simp; done) | (go_simp; rfl)); intro gb101 hg w13 hbox hb; have n0_ := Aside0.mk (below_step HB.out hb); have n1_ := Aside0.mk (hbox); have n2_ := Aside0.mk ((by rw [hg]; exact below_size HB.out : w.heap.size ≤ gb101)); have n3_ := Aside0.mk ((by rw [hg]; exact below_size HB.out : w.heap.size ≤ gb101)); clear HB; have HB := n0_; have BK101 := n1_; have GW101 := n2_; have GE101 := n3_; clear n0_ n1_ n2_ n3_; clear hb hbox hg) | ((with_reducible refine gate_dst (N := 4) rfl ?_); (try (refine gate_guard (by rfl) ?_; dsimp only)); refine box_event ?hg (N := 4) ?hd (cs := #[.bool false, .string (⟨#[]⟩ : ByteArray)]) (t := 33) ?hr ?_; (case hd => rfl); (case hg => rfl); (case hr => first | (go_simp; done) | (go_simp; rfl)); intro gb102 hg w14 hbox hb; have n0_ := Aside0.mk (blk_below BK101.out hb); have n1_ := Aside0.mk (below_step HB.out hb); have n2_ := Aside0.mk (hbox); have n3_ := Aside0.mk ((by rw [hg]; exact below_size HB.out : w.heap.size ≤ gb102)); have n4_ := Aside0.mk ((by rw [hg]; exact below_size HB.out : w.heap.size ≤ gb102)); have n5_ := Aside0.mk ((by rw [hg]; exact Nat.ne_of_lt (blk_lt BK101.out) : gb101 ≠ gb102)); have n6_ := Aside0.mk ((by rw [hg]; exact Nat.ne_of_gt (blk_lt BK101.out) : gb102 ≠ gb101)); clear BK101; clear HB; have BK101 := n0_; have HB := n1_; have BK102 := n2_; have GW102 := n3_; have GE102 := n4_; have NB101_102 := n5_; have NB102_101 := n6_; clear n0_ n1_ n2_ n3_ n4_ n5_ n6_; clear hb hbox hg; have hnb15 := NB101_102.out; have hnc15 := NB102_101.out; obtain ⟨hcz16_0, hcz16_1⟩ := cl2 (W := w14) BK101.out; obtain ⟨hfz16_0, hfz16_1⟩ := fr2 BK101.out) | ((with_reducible refine gate_callee (f := 34) rfl ?_); refine goesL_ (some 6) rfl rfl Try.func34 (by kernel_rfl) rfl #[.agg #[.int .i64 a0_0, .slice A0_1 l0_1.length c0_1]] rfl (by (try simp only [List.map_toArray, List.map_cons, List.map_nil]); first | done | rfl | (simp only [List.length_drop, List.length_take]; rfl)) ?_; (with_reducible refine (slabGood.calls a0_0 _ _ l0_1 true _ ?side1 ?side2 A3.out).mono ?_); (case side1 => repeat (first | exact (Kd.C_below HR0_1.out HB.out) | (with_reducible refine Kd.C_alloc ?_ _) | (with_reducible refine Kd.C_drewN ?_ _) | (with_reducible refine Kd.C_drew ?_))); (case side2 => exact HC0_1.out); rintro e w17 ⟨rfl, hb⟩; refine ⟨_, rfl, ?_⟩; have n0_ := Aside0.mk (blk_below BK101.out hb); have n1_ := Aside0.mk (blk_below (g := gb102) (o := .cells #[.bool false, .string (⟨#[]⟩ : ByteArray)] 33 (0, 0)) (by (with_reducible repeat (first | refine blk_drewN ?_ _ | refine blk_drew ?_ | refine blk_alloc ?_ _)); exact BK102.out) hb); have n2_ := Aside0.mk (below_step HB.out hb); clear BK101; clear BK102; clear HB; have BK101 := n0_; have BK102 := n1_; have HB := n2_; clear n0_ n1_ n2_; (try clear hb); (try clear hb2); (try clear hk); (try clear hi); obtain ⟨hcz18_0, hcz18_1⟩ := cl2 (W := w17) BK101.out; obtain ⟨hfz18_0, hfz18_1⟩ := fr2 BK101.out; obtain ⟨hcz19_0, hcz19_1⟩ := cl2 (W := w17) BK102.out; obtain ⟨hfz19_0, hfz19_1⟩ := fr2 BK102.out))
    refine bodyPost_ret (results_cell_row rfl _ _ gb102 33 #[.bool false, .string (⟨#[]⟩ : ByteArray)] (0, 0) _ rfl (by (with_reducible repeat (first | refine blk_drewN ?_ _ | refine blk_drew ?_ | refine blk_alloc ?_ _)); refine blk_put (cs := #[.bool false, .string (⟨#[]⟩ : ByteArray)]) ?_ 1 _ rfl; refine blk_put (cs := #[.bool false, .string (⟨#[]⟩ : ByteArray)]) ?_ 0 _ rfl; (with_reducible repeat (first | refine blk_drewN ?_ _ | refine blk_drew ?_ | refine blk_alloc ?_ _)); exact BK102.out) Try.underlying33 rfl (by kernel_rfl)) rfl ?_
    exact ⟨by first | rfl | (simp [errW_none, errW_some] <;> rfl) | (simp [*, errW_none, errW_some] <;> rfl), by repeat (first | (with_reducible first | exact HB.out | apply below_alloc | apply pw_below_drewN | apply below_drew1 | refine below_set ?_ GE101.out | refine below_set ?_ GE102.out) | exact HB.out)⟩
   ·rw [if_neg c12] at H
    have c12b0 : decide ((l0_1.length : Int) ≤ a1) = false := decide_eq_false c12
    clear c12
    by_cases c20 : 0 ≤ a1
    ·rw [if_pos c20] at H
     have c20b0 : decide (0 ≤ a1) = true := decide_eq_true c20
     clear c20
     by_cases c21 : a1 < (l0_1.length : Int)
     ·rw [if_pos c21] at H
      have c21b0 : decide (a1 < (l0_1.length : Int)) = true := decide_eq_true c21
      clear c21
      simp only [Option.some.injEq, Prod.mk.injEq] at H
      obtain ⟨rfl, rfl⟩ := H
      go_enter Try.func39, Try.ntmps39
      go_wp2_with (first | ((with_reducible refine gate_dst (N := 2) rfl ?_); (try (refine gate_guard (by rfl) ?_; dsimp only)); refine box_event ?hg (N := 2) ?hd (cs := #[.int .i64 a0_0, .slice A0_1 l0_1.length c0_1]) (t := 24) ?hr ?_; (case hd => rfl); (case hg => rfl); (case hr => first | (go_simp; done) | (go_simp; rfl)); intro gb101 hg w22 hbox hb; have n0_ := Aside0.mk (below_step HB.out hb); have n1_ := Aside0.mk (hbox); have n2_ := Aside0.mk ((by rw [hg]; exact below_size HB.out : w.heap.size ≤ gb101)); have n3_ := Aside0.mk ((by rw [hg]; exact below_size HB.out : w.heap.size ≤ gb101)); clear HB; have HB := n0_; have BK101 := n1_; have GW101 := n2_; have GE101 := n3_; clear n0_ n1_ n2_ n3_; clear hb hbox hg) | ((with_reducible refine gate_dst (N := 4) rfl ?_); (try (refine gate_guard (by rfl) ?_; dsimp only)); refine box_event ?hg (N := 4) ?hd (cs := #[.bool false, .string (⟨#[]⟩ : ByteArray)]) (t := 33) ?hr ?_; (case hd => rfl); (case hg => rfl); (case hr => first | (go_simp; done) | (go_simp; rfl)); intro gb102 hg w23 hbox hb; have n0_ := Aside0.mk (blk_below BK101.out hb); have n1_ := Aside0.mk (below_step HB.out hb); have n2_ := Aside0.mk (hbox); have n3_ := Aside0.mk ((by rw [hg]; exact below_size HB.out : w.heap.size ≤ gb102)); have n4_ := Aside0.mk ((by rw [hg]; exact below_size HB.out : w.heap.size ≤ gb102)); have n5_ := Aside0.mk ((by rw [hg]; exact Nat.ne_of_lt (blk_lt BK101.out) : gb101 ≠ gb102)); have n6_ := Aside0.mk ((by rw [hg]; exact Nat.ne_of_gt (blk_lt BK101.out) : gb102 ≠ gb101)); clear BK101; clear HB; have BK101 := n0_; have HB := n1_; have BK102 := n2_; have GW102 := n3_; have GE102 := n4_; have NB101_102 := n5_; have NB102_101 := n6_; clear n0_ n1_ n2_ n3_ n4_ n5_ n6_; clear hb hbox hg; have hnb24 := NB101_102.out; have hnc24 := NB102_101.out; obtain ⟨hcz25_0, hcz25_1⟩ := cl2 (W := w23) BK101.out; obtain ⟨hfz25_0, hfz25_1⟩ := fr2 BK101.out) | ((with_reducible refine gate_callee (f := 34) rfl ?_); refine goesL_ (some 6) rfl rfl Try.func34 (by kernel_rfl) rfl #[.agg #[.int .i64 a0_0, .slice A0_1 l0_1.length c0_1]] rfl (by (try simp only [List.map_toArray, List.map_cons, List.map_nil]); first | done | rfl | (simp only [List.length_drop, List.length_take]; rfl)) ?_; (with_reducible refine (slabGood.calls a0_0 _ _ l0_1 true _ ?side1 ?side2 A3.out).mono ?_); (case side1 => repeat (first | exact (Kd.C_below HR0_1.out HB.out) | (with_reducible refine Kd.C_alloc ?_ _) | (with_reducible refine Kd.C_drewN ?_ _) | (with_reducible refine Kd.C_drew ?_))); (case side2 => exact HC0_1.out); rintro e w26 ⟨rfl, hb⟩; refine ⟨_, rfl, ?_⟩; have n0_ := Aside0.mk (blk_below BK101.out hb); have n1_ := Aside0.mk (blk_below (g := gb102) (o := .cells #[.bool false, .string (⟨#[]⟩ : ByteArray)] 33 (0, 0)) (by (with_reducible repeat (first | refine blk_drewN ?_ _ | refine blk_drew ?_ | refine blk_alloc ?_ _)); exact BK102.out) hb); have n2_ := Aside0.mk (below_step HB.out hb); clear BK101; clear BK102; clear HB; have BK101 := n0_; have BK102 := n1_; have HB := n2_; clear n0_ n1_ n2_; (try clear hb); (try clear hb2); (try clear hk); (try clear hi); obtain ⟨hcz27_0, hcz27_1⟩ := cl2 (W := w26) BK101.out; obtain ⟨hfz27_0, hfz27_1⟩ := fr2 BK101.out; have p104 : 0 ≤ (a1 : Int) := of_decide_eq_true (by first | (with_reducible assumption) | assumption); have q104 : a1 < (l0_1.length : Int) := of_decide_eq_true (by first | (with_reducible assumption) | assumption); obtain ⟨ad104, e104, hx104_0, hx104_1⟩ := at_T33 HR0_1.out a1 p104 q104; cases e104; replace hx104_0 := pw_cell_below HB.out hx104_0; replace hx104_1 := pw_cell_below HB.out hx104_1; replace p104 := eq_true p104; replace q104 := eq_true q104; obtain ⟨hcz28_0, hcz28_1⟩ := cl2 (W := w26) BK102.out; obtain ⟨hfz28_0, hfz28_1⟩ := fr2 BK102.out))
      refine bodyPost_ret (results_cell_row rfl _ _ gb102 33 #[.bool ((rd_T33 l0_1 a1).f0), .string ((rd_T33 l0_1 a1).f1)] (0, 0) _ rfl (by (with_reducible repeat (first | refine blk_drewN ?_ _ | refine blk_drew ?_ | refine blk_alloc ?_ _)); refine blk_put (cs := #[.bool ((rd_T33 l0_1 a1).f0), .string (⟨#[]⟩ : ByteArray)]) ?_ 1 _ rfl; refine blk_put (cs := #[.bool false, .string (⟨#[]⟩ : ByteArray)]) ?_ 0 _ rfl; (with_reducible repeat (first | refine blk_drewN ?_ _ | refine blk_drew ?_ | refine blk_alloc ?_ _)); exact BK102.out) Try.underlying33 rfl (by kernel_rfl)) rfl ?_
      exact ⟨by first | rfl | (simp [errW_none, errW_some] <;> rfl) | (simp [*, errW_none, errW_some] <;> rfl), by repeat (first | (with_reducible first | exact HB.out | apply below_alloc | apply pw_below_drewN | apply below_drew1 | refine below_set ?_ GE101.out | refine below_set ?_ GE102.out) | exact HB.out)⟩
     ·rw [if_neg c21] at H
      exact absurd H (by simp)
    ·rw [if_neg c20] at H
     exact absurd H (by simp)
 ·replace c4 := Bool.eq_false_iff.mpr c4
  subst c4
  have H1 : (some (false, (⟨#[]⟩ : ByteArray))) = some (r1, r2) := by rw [if_neg (show ¬ (false = true) by decide)] at H; exact H
  clear H
  have H := H1
  clear H1
  simp only [Option.some.injEq, Prod.mk.injEq] at H
  obtain ⟨rfl, rfl⟩ := H
  go_enter Try.func39, Try.ntmps39
  go_wp2_with (first | ((with_reducible refine gate_dst (N := 2) rfl ?_); (try (refine gate_guard (by rfl) ?_; dsimp only)); refine box_event ?hg (N := 2) ?hd (cs := #[.int .i64 a0_0, .slice A0_1 l0_1.length c0_1]) (t := 24) ?hr ?_; (case hd => rfl); (case hg => rfl); (case hr => first | (go_simp; done) | (go_simp; rfl)); intro gb101 hg w29 hbox hb; have n0_ := Aside0.mk (below_step HB.out hb); have n1_ := Aside0.mk (hbox); have n2_ := Aside0.mk ((by rw [hg]; exact below_size HB.out : w.heap.size ≤ gb101)); have n3_ := Aside0.mk ((by rw [hg]; exact below_size HB.out : w.heap.size ≤ gb101)); clear HB; have HB := n0_; have BK101 := n1_; have GW101 := n2_; have GE101 := n3_; clear n0_ n1_ n2_ n3_; clear hb hbox hg) | ((with_reducible refine gate_dst (N := 4) rfl ?_); (try (refine gate_guard (by rfl) ?_; dsimp only)); refine box_event ?hg (N := 4) ?hd (cs := #[.bool false, .string (⟨#[]⟩ : ByteArray)]) (t := 33) ?hr ?_; (case hd => rfl); (case hg => rfl); (case hr => first | (go_simp; done) | (go_simp; rfl)); intro gb102 hg w30 hbox hb; have n0_ := Aside0.mk (blk_below BK101.out hb); have n1_ := Aside0.mk (below_step HB.out hb); have n2_ := Aside0.mk (hbox); have n3_ := Aside0.mk ((by rw [hg]; exact below_size HB.out : w.heap.size ≤ gb102)); have n4_ := Aside0.mk ((by rw [hg]; exact below_size HB.out : w.heap.size ≤ gb102)); have n5_ := Aside0.mk ((by rw [hg]; exact Nat.ne_of_lt (blk_lt BK101.out) : gb101 ≠ gb102)); have n6_ := Aside0.mk ((by rw [hg]; exact Nat.ne_of_gt (blk_lt BK101.out) : gb102 ≠ gb101)); clear BK101; clear HB; have BK101 := n0_; have HB := n1_; have BK102 := n2_; have GW102 := n3_; have GE102 := n4_; have NB101_102 := n5_; have NB102_101 := n6_; clear n0_ n1_ n2_ n3_ n4_ n5_ n6_; clear hb hbox hg; have hnb31 := NB101_102.out; have hnc31 := NB102_101.out; obtain ⟨hcz32_0, hcz32_1⟩ := cl2 (W := w30) BK101.out; obtain ⟨hfz32_0, hfz32_1⟩ := fr2 BK101.out) | ((with_reducible refine gate_callee (f := 34) rfl ?_); refine goesL_ (some 6) rfl rfl Try.func34 (by kernel_rfl) rfl #[.agg #[.int .i64 a0_0, .slice A0_1 l0_1.length c0_1]] rfl (by (try simp only [List.map_toArray, List.map_cons, List.map_nil]); first | done | rfl | (simp only [List.length_drop, List.length_take]; rfl)) ?_; (with_reducible refine (slabGood.calls a0_0 _ _ l0_1 false _ ?side1 ?side2 A3.out).mono ?_); (case side1 => repeat (first | exact (Kd.C_below HR0_1.out HB.out) | (with_reducible refine Kd.C_alloc ?_ _) | (with_reducible refine Kd.C_drewN ?_ _) | (with_reducible refine Kd.C_drew ?_))); (case side2 => exact HC0_1.out); rintro e w33 ⟨rfl, hb⟩; refine ⟨_, rfl, ?_⟩; have n0_ := Aside0.mk (blk_below BK101.out hb); have n1_ := Aside0.mk (blk_below (g := gb102) (o := .cells #[.bool false, .string (⟨#[]⟩ : ByteArray)] 33 (0, 0)) (by (with_reducible repeat (first | refine blk_drewN ?_ _ | refine blk_drew ?_ | refine blk_alloc ?_ _)); exact BK102.out) hb); have n2_ := Aside0.mk (below_step HB.out hb); clear BK101; clear BK102; clear HB; have BK101 := n0_; have BK102 := n1_; have HB := n2_; clear n0_ n1_ n2_; (try clear hb); (try clear hb2); (try clear hk); (try clear hi); obtain ⟨hcz34_0, hcz34_1⟩ := cl2 (W := w33) BK102.out; obtain ⟨hfz34_0, hfz34_1⟩ := fr2 BK102.out))
  refine bodyPost_ret (results_cell_row rfl _ _ gb102 33 #[.bool false, .string (⟨#[]⟩ : ByteArray)] (0, 0) _ rfl (by (with_reducible repeat (first | refine blk_drewN ?_ _ | refine blk_drew ?_ | refine blk_alloc ?_ _)); refine blk_put (cs := #[.bool false, .string (⟨#[]⟩ : ByteArray)]) ?_ 1 _ rfl; refine blk_put (cs := #[.bool false, .string (⟨#[]⟩ : ByteArray)]) ?_ 0 _ rfl; (with_reducible repeat (first | refine blk_drewN ?_ _ | refine blk_drew ?_ | refine blk_alloc ?_ _)); exact BK102.out) Try.underlying33 rfl (by kernel_rfl)) rfl ?_
  exact ⟨by first | rfl | (simp [errW_none, errW_some] <;> rfl) | (simp [*, errW_none, errW_some] <;> rfl), by repeat (first | (with_reducible first | exact HB.out | apply below_alloc | apply pw_below_drewN | apply below_drew1 | refine below_set ?_ GE101.out | refine below_set ?_ GE102.out) | exact HB.out)⟩
end Go.Proofs.Ytfjmnaobfbmllaa.M
namespace Go.Proofs.Ytfjmnaobfbmllaa.M
open Go.RowKit Go.Proofs.YtfjmnaobfbmllaaW.PrintWords Go.Proofs.YtfjmnaobfbmllaaW.PrintLast Go.Proofs.YtfjmnaobfbmllaaW.PrintMore
set_option linter.unusedVariables false
set_option linter.unusedSimpArgs false
theorem at_pure (a : Int) (l : List S33) (i : Int) : slab_At.f a l i = some ((atP a l i).f0, (atP a l i).f1) := by
  unfold slab_At.f slabGood.f atP
  rw [Option.bind_some]
  cases goodP a l with
  | false => rw [if_neg (by simp), if_neg (by simp)]; rfl
  | true =>
    rw [if_pos rfl]
    by_cases h0 : i < 0
    · rw [if_pos h0, if_neg (by omega)]; rfl
    · have hc : true = true ∧ 0 ≤ i := ⟨rfl, by omega⟩
      rw [if_neg h0, if_pos hc]
      by_cases h1 : i ≥ (l.length : Int)
      · rw [if_pos h1, slot_ge l _ (by omega)]; rfl
      · rw [if_neg h1, if_pos (by omega), if_pos (by omega)]; rfl
def slabAt.f (a : Int) (l : List S33) (i : Int) : Option (Bool × ByteArray) := some ((atP a l i).f0, (atP a l i).f1)
theorem slabAt.calls (a : Int) (A : Option Addr) (c : Nat) (l : List S33) (i : Int) (r1 : Bool) (r2 : ByteArray) (w : World) (hr : Kd.C k33 w A l.length l) (hc : l.length ≤ c) (h : slabAt.f a l i = some (r1, r2)) :
    Calls Try.prog 39 #[.agg #[.int .i64 a, .slice A l.length c], .int .i64 i] w fun e w' => e = .returned (.agg #[.bool r1, .string r2]) ∧ Below w.heap.size w w' :=
  slab_At.calls a A c l i r1 r2 w hr hc (by rw [at_pure]; exact h)
end Go.Proofs.Ytfjmnaobfbmllaa.M
namespace Go.Proofs.Ytfjmnaobfbmllaa.M
open Go.RowKit Go.Proofs.YtfjmnaobfbmllaaW.PrintWords Go.Proofs.YtfjmnaobfbmllaaW.PrintLast Go.Proofs.YtfjmnaobfbmllaaW.PrintMore
attribute [local go_sem] max2_int min2_int max_two min_two max_three min_three max_four min_four   -- for this text's walks alone
set_option linter.unusedVariables false
set_option linter.unusedSimpArgs false
attribute [local go_sem high] eqA33
def patch_Redo.j0 : Nat → Bool → Int → List (S33) → Int → Int → Int → Int → Int → Int → Int → Int → Bool → ByteArray → Bool → ByteArray → Int → Option (Int × (List (S33)) × Bool × Int)
 | 0, _, _, _, _, _, _, _, _, _, _, _, _, _, _, _, _ => none
 | k + 1, x9, x102000, x102001, x103000, x103001, x103002, x103003, x103004, x103005, x103006, x103007, x103008, x103009, x103010, x103011, x103012 => if x9 = true then (some (0, ([] : List (S33)), false, 1)) else (if x103004 ≤ x102000 then ((slices_Clone.f x102001).bind fun t107 => (some (x102000, t107, false, 0))) else ((slabAt.f x102000 x102001 x103007).bind fun bt110 => (if (!(bt110.1 == x103008) || (!(bt110.2.toList == x103009.toList))) = true then (some (0, ([] : List (S33)), false, 21)) else ((slabPut.f x102000 x102001 x103007 x103010 x103011).bind fun bt112 => (if bt112.2.2 = 0 then (some (x103004, bt112.2.1, true, 0)) else (some (0, ([] : List (S33)), false, bt112.2.2)))))))
def patch_Redo.f (k : Nat) (a0_0 : Int) (l0_1 : List (S33)) (a1_0 : Int) (a1_1 : Int) (a1_2 : Int) (a1_3 : Int) (a1_4 : Int) (a1_5 : Int) (a1_6 : Int) (a1_7 : Int) (a1_8 : Bool) (a1_9 : ByteArray) (a1_10 : Bool) (a1_11 : ByteArray) (a1_12 : Int) : Option (Int × (List (S33)) × Bool × Int) := (slabGood.f a0_0 l0_1).bind fun t104 => (if t104 = true then ((entGood.f a1_0 a1_1 a1_2 a1_3 a1_4 a1_5 a1_6 a1_7 a1_8 a1_9 a1_10 a1_11 a1_12).bind fun t105 => (if t105 = true then ((patch_changes.f a1_0 a1_1 a1_2 a1_3 a1_4 a1_5 a1_6 a1_7 a1_8 a1_9 a1_10 a1_11 a1_12).bind fun t106 => (patch_Redo.j0 k (!t106) a0_0 l0_1 a1_0 a1_1 a1_2 a1_3 a1_4 a1_5 a1_6 a1_7 a1_8 a1_9 a1_10 a1_11 a1_12)) else (patch_Redo.j0 k true a0_0 l0_1 a1_0 a1_1 a1_2 a1_3 a1_4 a1_5 a1_6 a1_7 a1_8 a1_9 a1_10 a1_11 a1_12))) else (patch_Redo.j0 k true a0_0 l0_1 a1_0 a1_1 a1_2 a1_3 a1_4 a1_5 a1_6 a1_7 a1_8 a1_9 a1_10 a1_11 a1_12))
def patch_Redo.T6 : Bool × List (List Nat × List Nat) := (true, [([], []), ([], []), ([1], [1]), ([0, 2], [0, 2]), ([], []), ([4], [4]), ([3, 5], [3, 5]), ([6, 3], [6])])
def patch_Redo.B6 : List Nat := [0, 0, 2, 7, 0, 16, 63, 127]
theorem patch_Redo.tab6 : rtab .any (opsOf Try.f67 6) = patch_Redo.T6 := by kernel_rfl
theorem patch_Redo.bits6 : waitsOk patch_Redo.T6.2 patch_Redo.B6 = true := by kernel_rfl
set_option maxHeartbeats 8000000 in
set_option maxRecDepth 100000 in
theorem patch_Redo.calls (k : Nat) (a0_0 : Int) (A0_1 : Option Addr) (c0_1 : Nat) (l0_1 : List (S33)) (a1_0 : Int) (a1_1 : Int) (a1_2 : Int) (a1_3 : Int) (a1_4 : Int) (a1_5 : Int) (a1_6 : Int) (a1_7 : Int) (a1_8 : Bool) (a1_9 : ByteArray) (a1_10 : Bool) (a1_11 : ByteArray) (a1_12 : Int) (r1 : Int) (r2 : List (S33)) (r3 : Bool) (r4 : Int) (w : World) (hr0_1 : Kd.C k33 w A0_1 l0_1.length l0_1) (hc0_1 : l0_1.length ≤ c0_1) (h : patch_Redo.f k a0_0 l0_1 a1_0 a1_1 a1_2 a1_3 a1_4 a1_5 a1_6 a1_7 a1_8 a1_9 a1_10 a1_11 a1_12 = some (r1, r2, r3, r4)) :
  Calls Try.prog 67 #[.agg #[.int .i64 a0_0, .slice A0_1 l0_1.length c0_1], .agg #[.int .i64 a1_0, .int .i64 a1_1, .int .i64 a1_2, .int .i64 a1_3, .int .i64 a1_4, .int .i64 a1_5, .int .i64 a1_6, .int .i64 a1_7, .bool a1_8, .string a1_9, .bool a1_10, .string a1_11, .int .i64 a1_12]] w fun e w' => ∃ v1_ : Value, e = .returned (.tuple #[.agg #[.int .i64 r1, v1_], .bool r3, .int .i64 r4]) ∧ Kd.R k33 33 w' w.heap.size (fun _ => True) v1_ r2 ∧ Below w.heap.size w w' := by
 have hu24 := Try.underlying24
 have hu65 := Try.underlying65
 have hu33 := Try.underlying33
 have HR0_1 := Aside0.mk hr0_1
 have HC0_1 := Aside0.mk hc0_1
 clear hr0_1 hc0_1
 have HB := Aside0.mk (Below.refl w.heap.size w)
 have H : ((slabGood.f a0_0 l0_1).bind fun t104 => (if t104 = true then ((entGood.f a1_0 a1_1 a1_2 a1_3 a1_4 a1_5 a1_6 a1_7 a1_8 a1_9 a1_10 a1_11 a1_12).bind fun t105 => (if t105 = true then ((patch_changes.f a1_0 a1_1 a1_2 a1_3 a1_4 a1_5 a1_6 a1_7 a1_8 a1_9 a1_10 a1_11 a1_12).bind fun t106 => (patch_Redo.j0 k (!t106) a0_0 l0_1 a1_0 a1_1 a1_2 a1_3 a1_4 a1_5 a1_6 a1_7 a1_8 a1_9 a1_10 a1_11 a1_12)) else (patch_Redo.j0 k true a0_0 l0_1 a1_0 a1_1 a1_2 a1_3 a1_4 a1_5 a1_6 a1_7 a1_8 a1_9 a1_10 a1_11 a1_12))) else (patch_Redo.j0 k true a0_0 l0_1 a1_0 a1_1 a1_2 a1_3 a1_4 a1_5 a1_6 a1_7 a1_8 a1_9 a1_10 a1_11 a1_12))) = some (r1, r2, r3, r4) := h
 clear h
 have HC3 := Aside0.mk H
 clear H
 go_enter Try.func67, Try.ntmps67
 go_upto_region 1 with (first | ((with_reducible refine gate_dst (N := 2) rfl ?_); refine box_event ?hg (N := 2) ?hd (cs := #[.int .i64 a0_0, .slice A0_1 l0_1.length c0_1]) (t := 24) ?hr ?_; (case hd => rfl); (case hg => rfl); (case hr => first | (go_simp; done) | (go_simp; rfl)); intro gb101 hg w4 hbox hb; have n0_ := Aside0.mk (below_step HB.out hb); have n1_ := Aside0.mk (hbox); have n2_ := Aside0.mk ((by rw [hg]; exact below_size HB.out : w.heap.size ≤ gb101)); have n3_ := Aside0.mk ((by rw [hg]; exact below_size HB.out : w.heap.size ≤ gb101)); clear HB; have HB := n0_; have BK101 := n1_; have GW101 := n2_; have GE101 := n3_; clear n0_ n1_ n2_ n3_; clear hb hbox hg) | ((with_reducible refine gate_dst (N := 3) rfl ?_); refine box_event ?hg (N := 3) ?hd (cs := #[.int .i64 a1_0, .int .i64 a1_1, .int .i64 a1_2, .int .i64 a1_3, .int .i64 a1_4, .int .i64 a1_5, .int .i64 a1_6, .int .i64 a1_7, .bool a1_8, .string a1_9, .bool a1_10, .string a1_11, .int .i64 a1_12]) (t := 65) ?hr ?_; (case hd => rfl); (case hg => rfl); (case hr => first | (go_simp; done) | (go_simp; rfl)); intro gb102 hg w5 hbox hb; have n0_ := Aside0.mk (blk_below BK101.out hb); have n1_ := Aside0.mk (below_step HB.out hb); have n2_ := Aside0.mk (hbox); have n3_ := Aside0.mk ((by rw [hg]; exact below_size HB.out : w.heap.size ≤ gb102)); have n4_ := Aside0.mk ((by rw [hg]; exact below_size HB.out : w.heap.size ≤ gb102)); have n5_ := Aside0.mk ((by rw [hg]; exact Nat.ne_of_lt (blk_lt BK101.out) : gb101 ≠ gb102)); have n6_ := Aside0.mk ((by rw [hg]; exact Nat.ne_of_gt (blk_lt BK101.out) : gb102 ≠ gb101)); clear BK101; clear HB; have BK101 := n0_; have HB := n1_; have BK102 := n2_; have GW102 := n3_; have GE102 := n4_; have NB101_102 := n5_; have NB102_101 := n6_; clear n0_ n1_ n2_ n3_ n4_ n5_ n6_; clear hb hbox hg) | ((with_reducible refine gate_dst (N := 4) rfl ?_); refine box_event ?hg (N := 4) ?hd (cs := #[.int .i64 0, .slice none 0 0]) (t := 24) ?hr ?_; (case hd => rfl); (case hg => rfl); (case hr => first | (go_simp; done) | (go_simp; rfl)); intro gb103 hg w6 hbox hb; have n0_ := Aside0.mk (blk_below BK101.out hb); have n1_ := Aside0.mk (blk_below BK102.out hb); have n2_ := Aside0.mk (below_step HB.out hb); have n3_ := Aside0.mk (hbox); have n4_ := Aside0.mk ((by rw [hg]; exact below_size HB.out : w.heap.size ≤ gb103)); have n5_ := Aside0.mk ((by rw [hg]; exact below_size HB.out : w.heap.size ≤ gb103)); have n6_ := Aside0.mk ((by rw [hg]; exact Nat.ne_of_lt (blk_lt BK101.out) : gb101 ≠ gb103)); have n7_ := Aside0.mk ((by rw [hg]; exact Nat.ne_of_gt (blk_lt BK101.out) : gb103 ≠ gb101)); have n8_ := Aside0.mk ((by rw [hg]; exact Nat.ne_of_lt (blk_lt BK102.out) : gb102 ≠ gb103)); have n9_ := Aside0.mk ((by rw [hg]; exact Nat.ne_of_gt (blk_lt BK102.out) : gb103 ≠ gb102)); clear BK101; clear BK102; clear HB; have BK101 := n0_; have BK102 := n1_; have HB := n2_; have BK103 := n3_; have GW103 := n4_; have GE103 := n5_; have NB101_103 := n6_; have NB103_101 := n7_; have NB102_103 := n8_; have NB103_102 := n9_; clear n0_ n1_ n2_ n3_ n4_ n5_ n6_ n7_ n8_ n9_; clear hb hbox hg))
 (try simp only [Act.put, List.setIfInBounds_toArray, List.set_cons_zero, List.set_cons_succ])
 go_cut [9] (fun v9 wc => ∃ (kq : Nat) (x9_2 : Bool), v9 = .bool x9_2 ∧ Aside0 (patch_Redo.j0 kq x9_2 a0_0 l0_1 a1_0 a1_1 a1_2 a1_3 a1_4 a1_5 a1_6 a1_7 a1_8 a1_9 a1_10 a1_11 a1_12 = some (r1, r2, r3, r4)) ∧ Aside0 (kq ≤ k) ∧ Aside0 (wc.heap[gb101]? = some (.cells #[.int .i64 a0_0, (.slice A0_1 l0_1.length c0_1)] 24 (0, 0))) ∧ Aside0 (wc.heap[gb102]? = some (.cells #[.int .i64 a1_0, .int .i64 a1_1, .int .i64 a1_2, .int .i64 a1_3, .int .i64 a1_4, .int .i64 a1_5, .int .i64 a1_6, .int .i64 a1_7, .bool a1_8, .string a1_9, .bool a1_10, .string a1_11, .int .i64 a1_12] 65 (0, 0))) ∧ Aside0 (wc.heap[gb103]? = some (.cells #[.int .i64 0, (.slice none 0 0)] 24 (0, 0))) ∧ Aside0 (Below w.heap.size w wc))
 case first =>
  have H := HC3.out
  clear HC3
  replace H := Option.bind_eq_some_iff.mp H
  obtain ⟨t104, A70, H⟩ := H
  replace H : (if t104 = true then ((entGood.f a1_0 a1_1 a1_2 a1_3 a1_4 a1_5 a1_6 a1_7 a1_8 a1_9 a1_10 a1_11 a1_12).bind fun t105 => (if t105 = true then ((patch_changes.f a1_0 a1_1 a1_2 a1_3 a1_4 a1_5 a1_6 a1_7 a1_8 a1_9 a1_10 a1_11 a1_12).bind fun t106 => (patch_Redo.j0 k (!t106) a0_0 l0_1 a1_0 a1_1 a1_2 a1_3 a1_4 a1_5 a1_6 a1_7 a1_8 a1_9 a1_10 a1_11 a1_12)) else (patch_Redo.j0 k true a0_0 l0_1 a1_0 a1_1 a1_2 a1_3 a1_4 a1_5 a1_6 a1_7 a1_8 a1_9 a1_10 a1_11 a1_12))) else (patch_Redo.j0 k true a0_0 l0_1 a1_0 a1_1 a1_2 a1_3 a1_4 a1_5 a1_6 a1_7 a1_8 a1_9 a1_10 a1_11 a1_12)) = some (r1, r2, r3, r4) := H
  have A7 := Aside0.mk A70
  clear A70
  by_cases c8 : t104 = true
  ·subst c8
   have H1 : ((entGood.f a1_0 a1_1 a1_2 a1_3 a1_4 a1_5 a1_6 a1_7 a1_8 a1_9 a1_10 a1_11 a1_12).bind fun t105 => (if t105 = true then ((patch_changes.f a1_0 a1_1 a1_2 a1_3 a1_4 a1_5 a1_6 a1_7 a1_8 a1_9 a1_10 a1_11 a1_12).bind fun t106 => (patch_Redo.j0 k (!t106) a0_0 l0_1 a1_0 a1_1 a1_2 a1_3 a1_4 a1_5 a1_6 a1_7 a1_8 a1_9 a1_10 a1_11 a1_12)) else (patch_Redo.j0 k true a0_0 l0_1 a1_0 a1_1 a1_2 a1_3 a1_4 a1_5 a1_6 a1_7 a1_8 a1_9 a1_10 a1_11 a1_12))) = some (r1, r2, r3, r4) := by rw [if_pos rfl] at H; exact H
   clear H
   have H := H1
   clear H1
   replace H := Option.bind_eq_some_iff.mp H
   obtain ⟨t105, A90, H⟩ := H
   replace H : (if t105 = true then ((patch_changes.f a1_0 a1_1 a1_2 a1_3 a1_4 a1_5 a1_6 a1_7 a1_8 a1_9 a1_10 a1_11 a1_12).bind fun t106 => (patch_Redo.j0 k (!t106) a0_0 l0_1 a1_0 a1_1 a1_2 a1_3 a1_4 a1_5 a1_6 a1_7 a1_8 a1_9 a1_10 a1_11 a1_12)) else (patch_Redo.j0 k true a0_0 l0_1 a1_0 a1_1 a1_2 a1_3 a1_4 a1_5 a1_6 a1_7 a1_8 a1_9 a1_10 a1_11 a1_12)) = some (r1, r2, r3, r4) := H
   have A9 := Aside0.mk A90
   clear A90
   by_cases c10 : t105 = true
   ·subst c10
    have H1 : ((patch_changes.f a1_0 a1_1 a1_2 a1_3 a1_4 a1_5 a1_6 a1_7 a1_8 a1_9 a1_10 a1_11 a1_12).bind fun t106 => (patch_Redo.j0 k (!t106) a0_0 l0_1 a1_0 a1_1 a1_2 a1_3 a1_4 a1_5 a1_6 a1_7 a1_8 a1_9 a1_10 a1_11 a1_12)) = some (r1, r2, r3, r4) := by rw [if_pos rfl] at H; exact H
    clear H
    have H := H1
    clear H1
    replace H := Option.bind_eq_some_iff.mp H
    obtain ⟨t106, A110, H⟩ := H
    replace H : (patch_Redo.j0 k (!t106) a0_0 l0_1 a1_0 a1_1 a1_2 a1_3 a1_4 a1_5 a1_6 a1_7 a1_8 a1_9 a1_10 a1_11 a1_12) = some (r1, r2, r3, r4) := H
    have A11 := Aside0.mk A110
    clear A110
    have H' := Aside0.mk H
    clear H
    have hnb12 := NB101_102.out
    have hnc12 := NB102_101.out
    have hnb13 := NB101_103.out
    have hnc13 := NB103_101.out
    obtain ⟨hcz14_0, hcz14_1⟩ := cl2 (W := w6) BK101.out
    obtain ⟨hfz14_0, hfz14_1⟩ := fr2 BK101.out
    go_wp2_with (first | ((with_reducible refine gate_callee (f := 34) rfl ?_); refine goesL_ (some 11) rfl rfl Try.func34 (by kernel_rfl) rfl #[.agg #[.int .i64 a0_0, .slice A0_1 l0_1.length c0_1]] rfl (by (try simp only [List.map_toArray, List.map_cons, List.map_nil]); first | done | rfl | (simp only [List.length_drop, List.length_take]; rfl)) ?_; (with_reducible refine (slabGood.calls a0_0 _ _ l0_1 true _ ?side1 ?side2 A7.out).mono ?_); (case side1 => repeat (first | exact (Kd.C_below HR0_1.out HB.out) | (with_reducible refine Kd.C_alloc ?_ _) | (with_reducible refine Kd.C_drewN ?_ _) | (with_reducible refine Kd.C_drew ?_))); (case side2 => exact HC0_1.out); rintro e w15 ⟨rfl, hb⟩; refine ⟨_, rfl, ?_⟩; have n0_ := Aside0.mk (blk_below BK101.out hb); have n1_ := Aside0.mk (blk_below BK102.out hb); have n2_ := Aside0.mk (blk_below BK103.out hb); have n3_ := Aside0.mk (below_step HB.out hb); clear BK101; clear BK102; clear BK103; clear HB; have BK101 := n0_; have BK102 := n1_; have BK103 := n2_; have HB := n3_; clear n0_ n1_ n2_ n3_; (try clear hb); (try clear hb2); (try clear hk); (try clear hi); have hnb16 := NB102_103.out; have hnc16 := NB103_102.out; obtain ⟨hcz17_0, hcz17_1, hcz17_2, hcz17_3, hcz17_4, hcz17_5, hcz17_6, hcz17_7, hcz17_8, hcz17_9, hcz17_10, hcz17_11, hcz17_12⟩ := cl13 (W := w15) BK102.out; obtain ⟨hfz17_0, hfz17_1, hfz17_2, hfz17_3, hfz17_4, hfz17_5, hfz17_6, hfz17_7, hfz17_8, hfz17_9, hfz17_10, hfz17_11, hfz17_12⟩ := fr13 BK102.out) | (go_at_call 55; (with_reducible refine (entGood.calls a1_0 a1_1 a1_2 a1_3 a1_4 a1_5 a1_6 a1_7 a1_8 a1_9 a1_10 a1_11 a1_12 true _ A9.out).mono ?_); rintro e w18 ⟨rfl, hb⟩; have n0_ := Aside0.mk (blk_below BK101.out hb); have n1_ := Aside0.mk (blk_below BK102.out hb); have n2_ := Aside0.mk (blk_below BK103.out hb); have n3_ := Aside0.mk (below_step HB.out hb); clear BK101; clear BK102; clear BK103; clear HB; have BK101 := n0_; have BK102 := n1_; have BK103 := n2_; have HB := n3_; clear n0_ n1_ n2_ n3_; (try clear hb); (try clear hb2); (try clear hk); (try clear hi); obtain ⟨hcz19_0, hcz19_1, hcz19_2, hcz19_3, hcz19_4, hcz19_5, hcz19_6, hcz19_7, hcz19_8, hcz19_9, hcz19_10, hcz19_11, hcz19_12⟩ := cl13 (W := w18) BK102.out; obtain ⟨hfz19_0, hfz19_1, hfz19_2, hfz19_3, hfz19_4, hfz19_5, hfz19_6, hfz19_7, hfz19_8, hfz19_9, hfz19_10, hfz19_11, hfz19_12⟩ := fr13 BK102.out) | (go_at_call 112; (with_reducible refine (patch_changes.calls a1_0 a1_1 a1_2 a1_3 a1_4 a1_5 a1_6 a1_7 a1_8 a1_9 a1_10 a1_11 a1_12 t106 _ A11.out).mono ?_); rintro e w20 ⟨rfl, hb⟩; have n0_ := Aside0.mk (blk_below BK101.out hb); have n1_ := Aside0.mk (blk_below BK102.out hb); have n2_ := Aside0.mk (blk_below BK103.out hb); have n3_ := Aside0.mk (below_step HB.out hb); clear BK101; clear BK102; clear BK103; clear HB; have BK101 := n0_; have BK102 := n1_; have BK103 := n2_; have HB := n3_; clear n0_ n1_ n2_ n3_; (try clear hb); (try clear hb2); (try clear hk); (try clear hi)))
    go_meet
    case rel => exact ⟨_, (!t106), (by first | rfl | (simp; done) | (simp [*]; done)), H', ⟨by first | omega | exact Nat.le_refl _⟩, ⟨by (with_reducible repeat (first | refine blk_drewN ?_ _ | refine blk_drew ?_ | refine blk_alloc ?_ _)); exact BK101.out⟩, ⟨by (with_reducible repeat (first | refine blk_drewN ?_ _ | refine blk_drew ?_ | refine blk_alloc ?_ _)); exact BK102.out⟩, ⟨by (with_reducible repeat (first | refine blk_drewN ?_ _ | refine blk_drew ?_ | refine blk_alloc ?_ _)); exact BK103.out⟩, ⟨by repeat (first | (with_reducible first | exact HB.out | apply below_alloc | apply pw_below_drewN | apply below_drew1 | refine below_set ?_ GE101.out | refine below_set ?_ GE102.out | refine below_set ?_ GE103.out) | exact HB.out)⟩⟩
   ·replace c10 := Bool.eq_false_iff.mpr c10
    subst c10
    have H1 : (patch_Redo.j0 k true a0_0 l0_1 a1_0 a1_1 a1_2 a1_3 a1_4 a1_5 a1_6 a1_7 a1_8 a1_9 a1_10 a1_11 a1_12) = some (r1, r2, r3, r4) := by rw [if_neg (show ¬ (false = true) by decide)] at H; exact H
    clear H
    have H := H1
    clear H1
    have H' := Aside0.mk H
    clear H
    have hnb21 := NB101_102.out
    have hnc21 := NB102_101.out
    have hnb22 := NB101_103.out
    have hnc22 := NB103_101.out
    obtain ⟨hcz23_0, hcz23_1⟩ := cl2 (W := w6) BK101.out
    obtain ⟨hfz23_0, hfz23_1⟩ := fr2 BK101.out
    go_wp2_with (first | ((with_reducible refine gate_callee (f := 34) rfl ?_); refine goesL_ (some 11) rfl rfl Try.func34 (by kernel_rfl) rfl #[.agg #[.int .i64 a0_0, .slice A0_1 l0_1.length c0_1]] rfl (by (try simp only [List.map_toArray, List.map_cons, List.map_nil]); first | done | rfl | (simp only [List.length_drop, List.length_take]; rfl)) ?_; (with_reducible refine (slabGood.calls a0_0 _ _ l0_1 true _ ?side1 ?side2 A7.out).mono ?_); (case side1 => repeat (first | exact (Kd.C_below HR0_1.out HB.out) | (with_reducible refine Kd.C_alloc ?_ _) | (with_reducible refine Kd.C_drewN ?_ _) | (with_reducible refine Kd.C_drew ?_))); (case side2 => exact HC0_1.out); rintro e w24 ⟨rfl, hb⟩; refine ⟨_, rfl, ?_⟩; have n0_ := Aside0.mk (blk_below BK101.out hb); have n1_ := Aside0.mk (blk_below BK102.out hb); have n2_ := Aside0.mk (blk_below BK103.out hb); have n3_ := Aside0.mk (below_step HB.out hb); clear BK101; clear BK102; clear BK103; clear HB; have BK101 := n0_; have BK102 := n1_; have BK103 := n2_; have HB := n3_; clear n0_ n1_ n2_ n3_; (try clear hb); (try clear hb2); (try clear hk); (try clear hi); have hnb25 := NB102_103.out; have hnc25 := NB103_102.out; obtain ⟨hcz26_0, hcz26_1, hcz26_2, hcz26_3, hcz26_4, hcz26_5, hcz26_6, hcz26_7, hcz26_8, hcz26_9, hcz26_10, hcz26_11, hcz26_12⟩ := cl13 (W := w24) BK102.out; obtain ⟨hfz26_0, hfz26_1, hfz26_2, hfz26_3, hfz26_4, hfz26_5, hfz26_6, hfz26_7, hfz26_8, hfz26_9, hfz26_10, hfz26_11, hfz26_12⟩ := fr13 BK102.out) | (go_at_call 55; (with_reducible refine (entGood.calls a1_0 a1_1 a1_2 a1_3 a1_4 a1_5 a1_6 a1_7 a1_8 a1_9 a1_10 a1_11 a1_12 false _ A9.out).mono ?_); rintro e w27 ⟨rfl, hb⟩; have n0_ := Aside0.mk (blk_below BK101.out hb); have n1_ := Aside0.mk (blk_below BK102.out hb); have n2_ := Aside0.mk (blk_below BK103.out hb); have n3_ := Aside0.mk (below_step HB.out hb); clear BK101; clear BK102; clear BK103; clear HB; have BK101 := n0_; have BK102 := n1_; have BK103 := n2_; have HB := n3_; clear n0_ n1_ n2_ n3_; (try clear hb); (try clear hb2); (try clear hk); (try clear hi)))
    go_meet
    case rel => exact ⟨_, (true), (by first | rfl | (simp; done) | (simp [*]; done)), H', ⟨by first | omega | exact Nat.le_refl _⟩, ⟨by (with_reducible repeat (first | refine blk_drewN ?_ _ | refine blk_drew ?_ | refine blk_alloc ?_ _)); exact BK101.out⟩, ⟨by (with_reducible repeat (first | refine blk_drewN ?_ _ | refine blk_drew ?_ | refine blk_alloc ?_ _)); exact BK102.out⟩, ⟨by (with_reducible repeat (first | refine blk_drewN ?_ _ | refine blk_drew ?_ | refine blk_alloc ?_ _)); exact BK103.out⟩, ⟨by repeat (first | (with_reducible first | exact HB.out | apply below_alloc | apply pw_below_drewN | apply below_drew1 | refine below_set ?_ GE101.out | refine below_set ?_ GE102.out | refine below_set ?_ GE103.out) | exact HB.out)⟩⟩
  ·replace c8 := Bool.eq_false_iff.mpr c8
   subst c8
   have H1 : (patch_Redo.j0 k true a0_0 l0_1 a1_0 a1_1 a1_2 a1_3 a1_4 a1_5 a1_6 a1_7 a1_8 a1_9 a1_10 a1_11 a1_12) = some (r1, r2, r3, r4) := by rw [if_neg (show ¬ (false = true) by decide)] at H; exact H
   clear H
   have H := H1
   clear H1
   have H' := Aside0.mk H
   clear H
   have hnb28 := NB101_102.out
   have hnc28 := NB102_101.out
   have hnb29 := NB101_103.out
   have hnc29 := NB103_101.out
   obtain ⟨hcz30_0, hcz30_1⟩ := cl2 (W := w6) BK101.out
   obtain ⟨hfz30_0, hfz30_1⟩ := fr2 BK101.out
   go_wp2_with (first | ((with_reducible refine gate_callee (f := 34) rfl ?_); refine goesL_ (some 11) rfl rfl Try.func34 (by kernel_rfl) rfl #[.agg #[.int .i64 a0_0, .slice A0_1 l0_1.length c0_1]] rfl (by (try simp only [List.map_toArray, List.map_cons, List.map_nil]); first | done | rfl | (simp only [List.length_drop, List.length_take]; rfl)) ?_; (with_reducible refine (slabGood.calls a0_0 _ _ l0_1 false _ ?side1 ?side2 A7.out).mono ?_); (case side1 => repeat (first | exact (Kd.C_below HR0_1.out HB.out) | (with_reducible refine Kd.C_alloc ?_ _) | (with_reducible refine Kd.C_drewN ?_ _) | (with_reducible refine Kd.C_drew ?_))); (case side2 => exact HC0_1.out); rintro e w31 ⟨rfl, hb⟩; refine ⟨_, rfl, ?_⟩; have n0_ := Aside0.mk (blk_below BK101.out hb); have n1_ := Aside0.mk (blk_below BK102.out hb); have n2_ := Aside0.mk (blk_below BK103.out hb); have n3_ := Aside0.mk (below_step HB.out hb); clear BK101; clear BK102; clear BK103; clear HB; have BK101 := n0_; have BK102 := n1_; have BK103 := n2_; have HB := n3_; clear n0_ n1_ n2_ n3_; (try clear hb); (try clear hb2); (try clear hk); (try clear hi)))
   go_meet
   case rel => exact ⟨_, (true), (by first | rfl | (simp; done) | (simp [*]; done)), H', ⟨by first | omega | exact Nat.le_refl _⟩, ⟨by (with_reducible repeat (first | refine blk_drewN ?_ _ | refine blk_drew ?_ | refine blk_alloc ?_ _)); exact BK101.out⟩, ⟨by (with_reducible repeat (first | refine blk_drewN ?_ _ | refine blk_drew ?_ | refine blk_alloc ?_ _)); exact BK102.out⟩, ⟨by (with_reducible repeat (first | refine blk_drewN ?_ _ | refine blk_drew ?_ | refine blk_alloc ?_ _)); exact BK103.out⟩, ⟨by repeat (first | (with_reducible first | exact HB.out | apply below_alloc | apply pw_below_drewN | apply below_drew1 | refine below_set ?_ GE101.out | refine below_set ?_ GE102.out | refine below_set ?_ GE103.out) | exact HB.out)⟩⟩
 case rest =>
  clear HC3
  try clear c1
  try clear c2
  try clear p2
  try clear c3
  try clear c6
  try clear c8
  try clear c10
  try clear c12
  try clear c13
  try clear c16
  try clear c21
  try clear c22
  try clear c25
  try clear c28
  try clear c29
  try clear hcz14_0
  try clear hcz14_1
  try clear hcz17_0
  try clear hcz17_1
  try clear hcz17_10
  try clear hcz17_11
  try clear hcz17_12
  try clear hcz17_2
  try clear hcz17_3
  try clear hcz17_4
  try clear hcz17_5
  try clear hcz17_6
  try clear hcz17_7
  try clear hcz17_8
  try clear hcz17_9
  try clear hcz19_0
  try clear hcz19_1
  try clear hcz19_10
  try clear hcz19_11
  try clear hcz19_12
  try clear hcz19_2
  try clear hcz19_3
  try clear hcz19_4
  try clear hcz19_5
  try clear hcz19_6
  try clear hcz19_7
  try clear hcz19_8
  try clear hcz19_9
  try clear hcz23_0
  try clear hcz23_1
  try clear hcz26_0
  try clear hcz26_1
  try clear hcz26_10
  try clear hcz26_11
  try clear hcz26_12
  try clear hcz26_2
  try clear hcz26_3
  try clear hcz26_4
  try clear hcz26_5
  try clear hcz26_6
  try clear hcz26_7
  try clear hcz26_8
  try clear hcz26_9
  try clear hcz30_0
  try clear hcz30_1
  try clear hfz14_0
  try clear hfz14_1
  try clear hfz17_0
  try clear hfz17_1
  try clear hfz17_10
  try clear hfz17_11
  try clear hfz17_12
  try clear hfz17_2
  try clear hfz17_3
  try clear hfz17_4
  try clear hfz17_5
  try clear hfz17_6
  try clear hfz17_7
  try clear hfz17_8
  try clear hfz17_9
  try clear hfz19_0
  try clear hfz19_1
  try clear hfz19_10
  try clear hfz19_11
  try clear hfz19_12
  try clear hfz19_2
  try clear hfz19_3
  try clear hfz19_4
  try clear hfz19_5
  try clear hfz19_6
  try clear hfz19_7
  try clear hfz19_8
  try clear hfz19_9
  try clear hfz23_0
  try clear hfz23_1
  try clear hfz26_0
  try clear hfz26_1
  try clear hfz26_10
  try clear hfz26_11
  try clear hfz26_12
  try clear hfz26_2
  try clear hfz26_3
  try clear hfz26_4
  try clear hfz26_5
  try clear hfz26_6
  try clear hfz26_7
  try clear hfz26_8
  try clear hfz26_9
  try clear hfz30_0
  try clear hfz30_1
  obtain ⟨kq, x9_2, rfl, HA, HJ2, BK101, BK102, BK103, HB⟩ := hcut
  cases kq with
  | zero => exact absurd HA.out (by simp [patch_Redo.j0])
  | succ kj2 =>
   have H := HA.out
   clear HA
   simp only [patch_Redo.j0] at H
   by_cases c32 : x9_2 = true
   ·subst c32
    have H1 : (some (0, ([] : List (S33)), false, 1)) = some (r1, r2, r3, r4) := by rw [if_pos rfl] at H; exact H
    clear H
    have H := H1
    clear H1
    simp only [Option.some.injEq, Prod.mk.injEq] at H
    obtain ⟨rfl, rfl, rfl, rfl⟩ := H
    have hnb33 := NB103_101.out
    have hnc33 := NB101_103.out
    have hnb34 := NB103_102.out
    have hnc34 := NB102_103.out
    obtain ⟨hcz35_0, hcz35_1⟩ := cl2 (W := wc) BK103.out
    obtain ⟨hfz35_0, hfz35_1⟩ := fr2 BK103.out
    go_wp2
    refine bodyPost_ret (results_ctt rfl _ _ gb103 24 #[.int .i64 0, .slice none 0 0] (0, 0) _ rfl (by (with_reducible repeat (first | refine blk_drewN ?_ _ | refine blk_drew ?_ | refine blk_alloc ?_ _)); refine blk_put (cs := #[.int .i64 0, .slice none 0 0]) ?_ 1 _ rfl; refine blk_put (cs := #[.int .i64 0, .slice none 0 0]) ?_ 0 _ rfl; (with_reducible repeat (first | refine blk_drewN ?_ _ | refine blk_drew ?_ | refine blk_alloc ?_ _)); exact BK103.out) Try.underlying24 rfl (by kernel_rfl)) rfl ?_
    exact ⟨_, by first | rfl | (simp [errW_none, errW_some] <;> rfl) | (simp [*, errW_none, errW_some] <;> rfl), by first | exact Kd.R_nil _ _ _ _ _ | exact Kd.N_nil _ _ _ _ _ | exact Kd.V_nil _ _ _ _ _ | exact Kd.Q_nil _ _ _ _ _ | exact Kd.S_nil _ _ _ _ _, by repeat (first | (with_reducible first | exact HB.out | apply below_alloc | apply pw_below_drewN | apply below_drew1 | refine below_set ?_ GE101.out | refine below_set ?_ GE102.out | refine below_set ?_ GE103.out) | exact HB.out)⟩
   ·replace c32 := Bool.eq_false_iff.mpr c32
    subst c32
    have H1 : (if a1_4 ≤ a0_0 then ((slices_Clone.f l0_1).bind fun t107 => (some (a0_0, t107, false, 0))) else ((slabAt.f a0_0 l0_1 a1_7).bind fun bt110 => (if (!(bt110.1 == a1_8) || (!(bt110.2.toList == a1_9.toList))) = true then (some (0, ([] : List (S33)), false, 21)) else ((slabPut.f a0_0 l0_1 a1_7 a1_10 a1_11).bind fun bt112 => (if bt112.2.2 = 0 then (some (a1_4, bt112.2.1, true, 0)) else (some (0, ([] : List (S33)), false, bt112.2.2))))))) = some (r1, r2, r3, r4) := by rw [if_neg (show ¬ (false = true) by decide)] at H; exact H
    clear H
    have H := H1
    clear H1
    by_cases c36 : a1_4 ≤ a0_0
    ·rw [if_pos c36] at H
     have c36b0 : decide (a1_4 ≤ a0_0) = true := decide_eq_true c36
     clear c36
     replace H := Option.bind_eq_some_iff.mp H
     obtain ⟨t107, A370, H⟩ := H
     replace H : (some (a0_0, t107, false, 0)) = some (r1, r2, r3, r4) := H
     have A37 := Aside0.mk A370
     clear A370
     simp only [Option.some.injEq, Prod.mk.injEq] at H
     obtain ⟨rfl, rfl, rfl, rfl⟩ := H
     have hnb38 := NB102_101.out
     have hnc38 := NB101_102.out
     have hnb39 := NB102_103.out
     have hnc39 := NB103_102.out
     obtain ⟨hcz40_0, hcz40_1, hcz40_2, hcz40_3, hcz40_4, hcz40_5, hcz40_6, hcz40_7, hcz40_8, hcz40_9, hcz40_10, hcz40_11, hcz40_12⟩ := cl13 (W := wc) BK102.out
     obtain ⟨hfz40_0, hfz40_1, hfz40_2, hfz40_3, hfz40_4, hfz40_5, hfz40_6, hfz40_7, hfz40_8, hfz40_9, hfz40_10, hfz40_11, hfz40_12⟩ := fr13 BK102.out
     have hnb41 := NB101_103.out
     have hnc41 := NB103_101.out
     obtain ⟨hcz42_0, hcz42_1⟩ := cl2 (W := wc) BK101.out
     obtain ⟨hfz42_0, hfz42_1⟩ := fr2 BK101.out
     go_wp2_with (first | ((with_reducible refine gate_callee (f := 113) rfl ?_); refine goesL_ (some 32) rfl rfl Try.func113 (by kernel_rfl) rfl #[.slice A0_1 l0_1.length c0_1] rfl (by (try simp only [List.map_toArray, List.map_cons, List.map_nil]); first | done | rfl | (simp only [List.length_drop, List.length_take]; rfl)) ?_; (with_reducible refine (slices_Clone.calls _ _ l0_1 t107 _ ?side1 ?side2 A37.out).mono ?_); (case side1 => repeat (first | exact (Kd.C_below HR0_1.out HB.out) | (with_reducible refine Kd.C_alloc ?_ _) | (with_reducible refine Kd.C_drewN ?_ _) | (with_reducible refine Kd.C_drew ?_))); (case side2 => exact HC0_1.out); rintro e w43 ⟨v108, rfl, ho0, hb⟩; refine ⟨_, rfl, ?_⟩; have n0_ := Aside0.mk (Kd.R_lower ho0 (below_size (by repeat (first | (with_reducible first | exact HB.out | apply below_alloc | apply pw_below_drewN | apply below_drew1 | refine below_set ?_ GE101.out | refine below_set ?_ GE102.out | refine below_set ?_ GE103.out) | exact HB.out)))); have n1_ := Aside0.mk (blk_below BK101.out hb); have n2_ := Aside0.mk (blk_below BK102.out hb); have n3_ := Aside0.mk (blk_below BK103.out hb); have n4_ := Aside0.mk (below_step HB.out hb); clear BK101; clear BK102; clear BK103; clear HB; have HO109 := n0_; have BK101 := n1_; have BK102 := n2_; have BK103 := n3_; have HB := n4_; clear n0_ n1_ n2_ n3_ n4_; (try clear hb); (try clear hb2); (try clear hk); (try clear hi); (try clear ho0); obtain ⟨Ao44, co44, eo44⟩ := Kd.R_slice HO109.out; subst eo44; obtain ⟨hcz45_0, hcz45_1⟩ := cl2 (W := w43) BK101.out; obtain ⟨hfz45_0, hfz45_1⟩ := fr2 BK101.out; obtain ⟨hcz46_0, hcz46_1⟩ := cl2 (W := w43) BK103.out; obtain ⟨hfz46_0, hfz46_1⟩ := fr2 BK103.out))
     refine bodyPost_ret (results_ctt rfl _ _ gb103 24 #[.int .i64 a0_0, .slice Ao44 t107.length co44] (0, 0) _ rfl (by (with_reducible repeat (first | refine blk_drewN ?_ _ | refine blk_drew ?_ | refine blk_alloc ?_ _)); refine blk_put (cs := #[.int .i64 a0_0, .slice none 0 0]) ?_ 1 _ rfl; refine blk_put (cs := #[.int .i64 0, .slice none 0 0]) ?_ 0 _ rfl; refine blk_far ?_ NB103_101.out _; (with_reducible repeat (first | refine blk_drewN ?_ _ | refine blk_drew ?_ | refine blk_alloc ?_ _)); exact BK103.out) Try.underlying24 rfl (by kernel_rfl)) rfl ?_
     exact ⟨_, by first | rfl | (simp [errW_none, errW_some] <;> rfl) | (simp [*, errW_none, errW_some] <;> rfl), by (with_reducible repeat (first | apply Kd.R_alloc | apply Kd.R_drewN | apply Kd.R_drew)); exact Kd.R_mono (Kd.R_far (p := ⟨gb103, 1, none⟩) (Kd.R_far (p := ⟨gb103, 0, none⟩) (Kd.R_far (p := ⟨gb101, 1, none⟩) (Kd.R_types (Kd.R_types HO109.out BK101.out (by decide)) BK103.out (by decide)) (fun _ hk => hk.1.2) (.slice Ao44 t107.length co44)) (fun _ hk => hk.2) (.int .i64 a0_0)) (fun _ hk => hk.2) (.slice Ao44 t107.length co44)) (fun _ hk => trivial), by repeat (first | (with_reducible first | exact HB.out | apply below_alloc | apply pw_below_drewN | apply below_drew1 | refine below_set ?_ GE101.out | refine below_set ?_ GE102.out | refine below_set ?_ GE103.out) | exact HB.out)⟩
    ·rw [if_neg c36] at H
     have c36b0 : decide (a1_4 ≤ a0_0) = false := decide_eq_false c36
     clear c36
     replace H := Option.bind_eq_some_iff.mp H
     obtain ⟨⟨t110, t111⟩, A470, H⟩ := H
     replace H : (if (!(t110 == a1_8) || (!(t111.toList == a1_9.toList))) = true then (some (0, ([] : List (S33)), false, 21)) else ((slabPut.f a0_0 l0_1 a1_7 a1_10 a1_11).bind fun bt112 => (if bt112.2.2 = 0 then (some (a1_4, bt112.2.1, true, 0)) else (some (0, ([] : List (S33)), false, bt112.2.2))))) = some (r1, r2, r3, r4) := H
     have A47 := Aside0.mk A470
     clear A470
     by_cases c48 : (!(t110 == a1_8) || (!(t111.toList == a1_9.toList))) = true
     ·rw [if_pos c48] at H
      have c48b0 : (!(t110 == a1_8) || (!(t111.toList == a1_9.toList))) = true := c48
      clear c48
      simp only [Option.some.injEq, Prod.mk.injEq] at H
      obtain ⟨rfl, rfl, rfl, rfl⟩ := H
      have hnb49 := NB102_101.out
      have hnc49 := NB101_102.out
      have hnb50 := NB102_103.out
      have hnc50 := NB103_102.out
      obtain ⟨hcz51_0, hcz51_1, hcz51_2, hcz51_3, hcz51_4, hcz51_5, hcz51_6, hcz51_7, hcz51_8, hcz51_9, hcz51_10, hcz51_11, hcz51_12⟩ := cl13 (W := wc) BK102.out
      obtain ⟨hfz51_0, hfz51_1, hfz51_2, hfz51_3, hfz51_4, hfz51_5, hfz51_6, hfz51_7, hfz51_8, hfz51_9, hfz51_10, hfz51_11, hfz51_12⟩ := fr13 BK102.out
      have hnb52 := NB101_103.out
      have hnc52 := NB103_101.out
      obtain ⟨hcz53_0, hcz53_1⟩ := cl2 (W := wc) BK101.out
      obtain ⟨hfz53_0, hfz53_1⟩ := fr2 BK101.out
      try go_wp2
      have n0_ := Aside0.mk (blk_drew BK101.out)
      have n1_ := Aside0.mk (blk_drew BK102.out)
      have n2_ := Aside0.mk (blk_drew BK103.out)
      have n3_ := Aside0.mk (below_drew1 HB.out)
      clear BK101
      clear BK102
      clear BK103
      clear HB
      have BK101 := n0_
      have BK102 := n1_
      have BK103 := n2_
      have HB := n3_
      clear n0_ n1_ n2_ n3_
      refine start_ (n := 8) (S := fun w' => w'.cell? ⟨gb101, 0, none⟩ = some (.int .i64 a0_0) ∧ w'.cell? ⟨gb101, 1, none⟩ = some (.slice A0_1 l0_1.length c0_1) ∧ w'.cell? ⟨gb102, 0, none⟩ = some (.int .i64 a1_0) ∧ w'.cell? ⟨gb102, 1, none⟩ = some (.int .i64 a1_1) ∧ w'.cell? ⟨gb102, 2, none⟩ = some (.int .i64 a1_2) ∧ w'.cell? ⟨gb102, 3, none⟩ = some (.int .i64 a1_3) ∧ w'.cell? ⟨gb102, 4, none⟩ = some (.int .i64 a1_4) ∧ w'.cell? ⟨gb102, 5, none⟩ = some (.int .i64 a1_5) ∧ w'.cell? ⟨gb102, 6, none⟩ = some (.int .i64 a1_6) ∧ w'.cell? ⟨gb102, 7, none⟩ = some (.int .i64 a1_7) ∧ w'.cell? ⟨gb102, 8, none⟩ = some (.bool a1_8) ∧ w'.cell? ⟨gb102, 9, none⟩ = some (.string a1_9) ∧ w'.cell? ⟨gb102, 10, none⟩ = some (.bool a1_10) ∧ w'.cell? ⟨gb102, 11, none⟩ = some (.string a1_11) ∧ w'.cell? ⟨gb102, 12, none⟩ = some (.int .i64 a1_12)) (ds := []) #[false, false, false, false, false, false, false, false] (by kernel_rfl) rfl rfl ⟨(blk_cell BK101.out 0).trans rfl, (blk_cell BK101.out 1).trans rfl, (blk_cell BK102.out 0).trans rfl, (blk_cell BK102.out 1).trans rfl, (blk_cell BK102.out 2).trans rfl, (blk_cell BK102.out 3).trans rfl, (blk_cell BK102.out 4).trans rfl, (blk_cell BK102.out 5).trans rfl, (blk_cell BK102.out 6).trans rfl, (blk_cell BK102.out 7).trans rfl, (blk_cell BK102.out 8).trans rfl, (blk_cell BK102.out 9).trans rfl, (blk_cell BK102.out 10).trans rfl, (blk_cell BK102.out 11).trans rfl, (blk_cell BK102.out 12).trans rfl⟩ (fun hHeld => ?_); refine with_tabW patch_Redo.tab6 patch_Redo.bits6 (fun HT_ HW_ => ?_)
      generalize wc.drew = w54 at BK101 BK102 BK103 HB hHeld ⊢
      refine pure_ (i := 1) (N := some 37) (v := ?_) (a' := ?_) #[false, true, false, false, false, false, false, false] rfl rfl (any_of HT_.out (by kernel_rfl)) (fun _ _ _ h => h) (Or.inl ⟨by rfl, ?_⟩) ?_ ?_
      rotate_left
      ·intro w'
       go_simp
       with_reducible rfl
      rotate_left
      ·simp only [Act.put, List.setIfInBounds_toArray, List.set_cons_zero, List.set_cons_succ, i64_w, i32_w]
       rfl
      refine pure_ (i := 4) (N := some 40) (v := ?_) (a' := ?_) #[false, true, false, false, true, false, false, false] rfl rfl (any_of HT_.out (by kernel_rfl)) (fun _ _ _ h => h) (Or.inl ⟨by rfl, ?_⟩) ?_ ?_
      rotate_left
      ·intro w'
       go_simp
       with_reducible rfl
      rotate_left
      ·simp only [Act.put, List.setIfInBounds_toArray, List.set_cons_zero, List.set_cons_succ, i64_w, i32_w]
       rfl
      refine take_ (i := 0) (N := some 36) (v := ?_) (a' := ?_) #[true, true, false, false, true, false, false, false] rfl rfl (take_ofW HT_.out HW_.out (by kernel_rfl)) (fun _ _ _ h => h) (Or.inl ⟨by rfl, ?_⟩) hHeld ?_ ?_
      rotate_left
      ·rintro w' ⟨s0, s1, s2, s3, s4, s5, s6, s7, s8, s9, s10, s11, s12, s13, s14⟩
       go_simp
       with_reducible rfl
      rotate_left
      ·simp only [Act.put, List.setIfInBounds_toArray, List.set_cons_zero, List.set_cons_succ, i64_w, i32_w]
       rfl
      refine take_ (i := 2) (N := some 38) (v := ?_) (a' := ?_) #[true, true, true, false, true, false, false, false] rfl rfl (take_ofW HT_.out HW_.out (by kernel_rfl)) (fun _ _ _ h => h) (Or.inl ⟨by rfl, ?_⟩) hHeld ?_ ?_
      rotate_left
      ·rintro w' ⟨s0, s1, s2, s3, s4, s5, s6, s7, s8, s9, s10, s11, s12, s13, s14⟩
       go_simp
       with_reducible rfl
      rotate_left
      ·simp only [Act.put, List.setIfInBounds_toArray, List.set_cons_zero, List.set_cons_succ, i64_w, i32_w]
       rfl
      refine take_ (i := 5) (N := some 41) (v := ?_) (a' := ?_) #[true, true, true, false, true, true, false, false] rfl rfl (take_ofW HT_.out HW_.out (by kernel_rfl)) (fun _ _ _ h => h) (Or.inl ⟨by rfl, ?_⟩) hHeld ?_ ?_
      rotate_left
      ·rintro w' ⟨s0, s1, s2, s3, s4, s5, s6, s7, s8, s9, s10, s11, s12, s13, s14⟩
       go_simp
       with_reducible rfl
      rotate_left
      ·simp only [Act.put, List.setIfInBounds_toArray, List.set_cons_zero, List.set_cons_succ, i64_w, i32_w]
       rfl
      refine one_ (i := 3) (N := some 39) #[true, true, true, true, true, true, false, false] rfl rfl (one_of HT_.out (by kernel_rfl)) (by decide) (fun K hK => ?_)
      refine goes_ Try.func39 (by kernel_rfl) rfl #[.agg #[.int .i64 a0_0, .slice A0_1 l0_1.length c0_1], .int .i64 a1_7] (by rfl) rfl rfl (by (try simp only [List.map_toArray, List.map_cons, List.map_nil]); first | done | rfl | (simp only [List.length_drop, List.length_take]; rfl)) ?_
      with_reducible refine (slabAt.calls a0_0 _ _ l0_1 a1_7 t110 t111 _ ?side1 ?side2 A47.out).mono ?_
      (case side1 => repeat (first | exact (Kd.C_below HR0_1.out HB.out) | (with_reducible refine Kd.C_alloc ?_ _) | (with_reducible refine Kd.C_drewN ?_ _) | (with_reducible refine Kd.C_drew ?_)))
      (case side2 => exact HC0_1.out)
      rintro e w55 ⟨rfl, hb⟩
      refine ⟨_, rfl, ?_⟩
      have n0_ := Aside0.mk (blk_below BK101.out hb)
      have n1_ := Aside0.mk (blk_below BK102.out hb)
      have n2_ := Aside0.mk (blk_below BK103.out hb)
      have n3_ := Aside0.mk (below_step HB.out hb)
      clear BK101
      clear BK102
      clear BK103
      clear HB
      have BK101 := n0_
      have BK102 := n1_
      have BK103 := n2_
      have HB := n3_
      clear n0_ n1_ n2_ n3_
      (try clear hb)
      (try clear hb2)
      (try clear hk)
      (try clear hi)
      refine hK.out _ _ ⟨(blk_cell BK101.out 0).trans rfl, (blk_cell BK101.out 1).trans rfl, (blk_cell BK102.out 0).trans rfl, (blk_cell BK102.out 1).trans rfl, (blk_cell BK102.out 2).trans rfl, (blk_cell BK102.out 3).trans rfl, (blk_cell BK102.out 4).trans rfl, (blk_cell BK102.out 5).trans rfl, (blk_cell BK102.out 6).trans rfl, (blk_cell BK102.out 7).trans rfl, (blk_cell BK102.out 8).trans rfl, (blk_cell BK102.out 9).trans rfl, (blk_cell BK102.out 10).trans rfl, (blk_cell BK102.out 11).trans rfl, (blk_cell BK102.out 12).trans rfl⟩ (fun hHeld => ?_)
      clear hK K
      refine norm_ (a' := ?_) ?_ ?_
      rotate_left
      ·show Act.put _ (some 39) _ = _
       simp only [Act.put, List.setIfInBounds_toArray, List.set_cons_zero, List.set_cons_succ, i64_w, i32_w]
       rfl
      refine pure_ (i := 6) (N := some 42) (v := ?_) (a' := ?_) #[true, true, true, true, true, true, true, false] rfl rfl (any_of HT_.out (by kernel_rfl)) (fun _ _ _ h => h) (Or.inl ⟨by rfl, ?_⟩) ?_ ?_
      rotate_left
      ·intro w'
       go_simp
       with_reducible rfl
      rotate_left
      ·simp only [Act.put, List.setIfInBounds_toArray, List.set_cons_zero, List.set_cons_succ, i64_w, i32_w]
       rfl
      refine pure_ (i := 7) (N := some 35) (v := ?_) (a' := ?_) #[true, true, true, true, true, true, true, true] rfl rfl (any_of HT_.out (by kernel_rfl)) (fun _ _ _ h => h) (Or.inl ⟨by rfl, ?_⟩) ?_ ?_
      rotate_left
      ·intro w'
       go_simp
       with_reducible rfl
      rotate_left
      ·simp only [Act.put, List.setIfInBounds_toArray, List.set_cons_zero, List.set_cons_succ, i64_w, i32_w]
       rfl
      refine done_ (done_of HT_.out (by kernel_rfl)) ?_
      obtain ⟨hcz56_0, hcz56_1⟩ := cl2 (W := w55) BK103.out
      obtain ⟨hfz56_0, hfz56_1⟩ := fr2 BK103.out
      try go_wp2
      refine bodyPost_ret (results_ctt rfl _ _ gb103 24 #[.int .i64 0, .slice none 0 0] (0, 0) _ rfl (by (with_reducible repeat (first | refine blk_drewN ?_ _ | refine blk_drew ?_ | refine blk_alloc ?_ _)); refine blk_put (cs := #[.int .i64 0, .slice none 0 0]) ?_ 1 _ rfl; refine blk_put (cs := #[.int .i64 0, .slice none 0 0]) ?_ 0 _ rfl; (with_reducible repeat (first | refine blk_drewN ?_ _ | refine blk_drew ?_ | refine blk_alloc ?_ _)); exact BK103.out) Try.underlying24 rfl (by kernel_rfl)) rfl ?_
      exact ⟨_, by first | rfl | (simp [errW_none, errW_some] <;> rfl) | (simp [*, errW_none, errW_some] <;> rfl), by first | exact Kd.R_nil _ _ _ _ _ | exact Kd.N_nil _ _ _ _ _ | exact Kd.V_nil _ _ _ _ _ | exact Kd.Q_nil _ _ _ _ _ | exact Kd.S_nil _ _ _ _ _, by repeat (first | (with_reducible first | exact HB.out | apply below_alloc | apply pw_below_drewN | apply below_drew1 | refine below_set ?_ GE101.out | refine below_set ?_ GE102.out | refine below_set ?_ GE103.out) | exact HB.out)⟩
     ·rw [if_neg c48] at H
      have c48b0 : (!(t110 == a1_8) || (!(t111.toList == a1_9.toList))) = false := by simpa using c48
      clear c48
      replace H := Option.bind_eq_some_iff.mp H
      obtain ⟨⟨t112, t113, t116⟩, A570, H⟩ := H
      replace H : (if t116 = 0 then (some (a1_4, t113, true, 0)) else (some (0, ([] : List (S33)), false, t116))) = some (r1, r2, r3, r4) := H
      have A57 := Aside0.mk A570
      clear A570
      by_cases c58 : t116 = 0
      ·rw [if_pos c58] at H
       have c58b0 : (t116 == 0) = true := beq_iff_eq.mpr c58
       have c58b1 : (t116 != 0) = false := bne_eq_false_iff_eq.mpr c58
       clear c58
       simp only [Option.some.injEq, Prod.mk.injEq] at H
       obtain ⟨rfl, rfl, rfl, rfl⟩ := H
       have hnb59 := NB102_101.out
       have hnc59 := NB101_102.out
       have hnb60 := NB102_103.out
       have hnc60 := NB103_102.out
       obtain ⟨hcz61_0, hcz61_1, hcz61_2, hcz61_3, hcz61_4, hcz61_5, hcz61_6, hcz61_7, hcz61_8, hcz61_9, hcz61_10, hcz61_11, hcz61_12⟩ := cl13 (W := wc) BK102.out
       obtain ⟨hfz61_0, hfz61_1, hfz61_2, hfz61_3, hfz61_4, hfz61_5, hfz61_6, hfz61_7, hfz61_8, hfz61_9, hfz61_10, hfz61_11, hfz61_12⟩ := fr13 BK102.out
       have hnb62 := NB101_103.out
       have hnc62 := NB103_101.out
       obtain ⟨hcz63_0, hcz63_1⟩ := cl2 (W := wc) BK101.out
       obtain ⟨hfz63_0, hfz63_1⟩ := fr2 BK101.out
       try go_wp2
       have n0_ := Aside0.mk (blk_drew BK101.out)
       have n1_ := Aside0.mk (blk_drew BK102.out)
       have n2_ := Aside0.mk (blk_drew BK103.out)
       have n3_ := Aside0.mk (below_drew1 HB.out)
       clear BK101
       clear BK102
       clear BK103
       clear HB
       have BK101 := n0_
       have BK102 := n1_
       have BK103 := n2_
       have HB := n3_
       clear n0_ n1_ n2_ n3_
       refine start_ (n := 8) (S := fun w' => w'.cell? ⟨gb101, 0, none⟩ = some (.int .i64 a0_0) ∧ w'.cell? ⟨gb101, 1, none⟩ = some (.slice A0_1 l0_1.length c0_1) ∧ w'.cell? ⟨gb102, 0, none⟩ = some (.int .i64 a1_0) ∧ w'.cell? ⟨gb102, 1, none⟩ = some (.int .i64 a1_1) ∧ w'.cell? ⟨gb102, 2, none⟩ = some (.int .i64 a1_2) ∧ w'.cell? ⟨gb102, 3, none⟩ = some (.int .i64 a1_3) ∧ w'.cell? ⟨gb102, 4, none⟩ = some (.int .i64 a1_4) ∧ w'.cell? ⟨gb102, 5, none⟩ = some (.int .i64 a1_5) ∧ w'.cell? ⟨gb102, 6, none⟩ = some (.int .i64 a1_6) ∧ w'.cell? ⟨gb102, 7, none⟩ = some (.int .i64 a1_7) ∧ w'.cell? ⟨gb102, 8, none⟩ = some (.bool a1_8) ∧ w'.cell? ⟨gb102, 9, none⟩ = some (.string a1_9) ∧ w'.cell? ⟨gb102, 10, none⟩ = some (.bool a1_10) ∧ w'.cell? ⟨gb102, 11, none⟩ = some (.string a1_11) ∧ w'.cell? ⟨gb102, 12, none⟩ = some (.int .i64 a1_12)) (ds := []) #[false, false, false, false, false, false, false, false] (by kernel_rfl) rfl rfl ⟨(blk_cell BK101.out 0).trans rfl, (blk_cell BK101.out 1).trans rfl, (blk_cell BK102.out 0).trans rfl, (blk_cell BK102.out 1).trans rfl, (blk_cell BK102.out 2).trans rfl, (blk_cell BK102.out 3).trans rfl, (blk_cell BK102.out 4).trans rfl, (blk_cell BK102.out 5).trans rfl, (blk_cell BK102.out 6).trans rfl, (blk_cell BK102.out 7).trans rfl, (blk_cell BK102.out 8).trans rfl, (blk_cell BK102.out 9).trans rfl, (blk_cell BK102.out 10).trans rfl, (blk_cell BK102.out 11).trans rfl, (blk_cell BK102.out 12).trans rfl⟩ (fun hHeld => ?_); refine with_tabW patch_Redo.tab6 patch_Redo.bits6 (fun HT_ HW_ => ?_)
       generalize wc.drew = w64 at BK101 BK102 BK103 HB hHeld ⊢
       refine pure_ (i := 1) (N := some 37) (v := ?_) (a' := ?_) #[false, true, false, false, false, false, false, false] rfl rfl (any_of HT_.out (by kernel_rfl)) (fun _ _ _ h => h) (Or.inl ⟨by rfl, ?_⟩) ?_ ?_
       rotate_left
       ·intro w'
        go_simp
        with_reducible rfl
       rotate_left
       ·simp only [Act.put, List.setIfInBounds_toArray, List.set_cons_zero, List.set_cons_succ, i64_w, i32_w]
        rfl
       refine pure_ (i := 4) (N := some 40) (v := ?_) (a' := ?_) #[false, true, false, false, true, false, false, false] rfl rfl (any_of HT_.out (by kernel_rfl)) (fun _ _ _ h => h) (Or.inl ⟨by rfl, ?_⟩) ?_ ?_
       rotate_left
       ·intro w'
        go_simp
        with_reducible rfl
       rotate_left
       ·simp only [Act.put, List.setIfInBounds_toArray, List.set_cons_zero, List.set_cons_succ, i64_w, i32_w]
        rfl
       refine take_ (i := 0) (N := some 36) (v := ?_) (a' := ?_) #[true, true, false, false, true, false, false, false] rfl rfl (take_ofW HT_.out HW_.out (by kernel_rfl)) (fun _ _ _ h => h) (Or.inl ⟨by rfl, ?_⟩) hHeld ?_ ?_
       rotate_left
       ·rintro w' ⟨s0, s1, s2, s3, s4, s5, s6, s7, s8, s9, s10, s11, s12, s13, s14⟩
        go_simp
        with_reducible rfl
       rotate_left
       ·simp only [Act.put, List.setIfInBounds_toArray, List.set_cons_zero, List.set_cons_succ, i64_w, i32_w]
        rfl
       refine take_ (i := 2) (N := some 38) (v := ?_) (a' := ?_) #[true, true, true, false, true, false, false, false] rfl rfl (take_ofW HT_.out HW_.out (by kernel_rfl)) (fun _ _ _ h => h) (Or.inl ⟨by rfl, ?_⟩) hHeld ?_ ?_
       rotate_left
       ·rintro w' ⟨s0, s1, s2, s3, s4, s5, s6, s7, s8, s9, s10, s11, s12, s13, s14⟩
        go_simp
        with_reducible rfl
       rotate_left
       ·simp only [Act.put, List.setIfInBounds_toArray, List.set_cons_zero, List.set_cons_succ, i64_w, i32_w]
        rfl
       refine take_ (i := 5) (N := some 41) (v := ?_) (a' := ?_) #[true, true, true, false, true, true, false, false] rfl rfl (take_ofW HT_.out HW_.out (by kernel_rfl)) (fun _ _ _ h => h) (Or.inl ⟨by rfl, ?_⟩) hHeld ?_ ?_
       rotate_left
       ·rintro w' ⟨s0, s1, s2, s3, s4, s5, s6, s7, s8, s9, s10, s11, s12, s13, s14⟩
        go_simp
        with_reducible rfl
       rotate_left
       ·simp only [Act.put, List.setIfInBounds_toArray, List.set_cons_zero, List.set_cons_succ, i64_w, i32_w]
        rfl
       refine one_ (i := 3) (N := some 39) #[true, true, true, true, true, true, false, false] rfl rfl (one_of HT_.out (by kernel_rfl)) (by decide) (fun K hK => ?_)
       refine goes_ Try.func39 (by kernel_rfl) rfl #[.agg #[.int .i64 a0_0, .slice A0_1 l0_1.length c0_1], .int .i64 a1_7] (by rfl) rfl rfl (by (try simp only [List.map_toArray, List.map_cons, List.map_nil]); first | done | rfl | (simp only [List.length_drop, List.length_take]; rfl)) ?_
       with_reducible refine (slabAt.calls a0_0 _ _ l0_1 a1_7 t110 t111 _ ?side1 ?side2 A47.out).mono ?_
       (case side1 => repeat (first | exact (Kd.C_below HR0_1.out HB.out) | (with_reducible refine Kd.C_alloc ?_ _) | (with_reducible refine Kd.C_drewN ?_ _) | (with_reducible refine Kd.C_drew ?_)))
       (case side2 => exact HC0_1.out)
       rintro e w65 ⟨rfl, hb⟩
       refine ⟨_, rfl, ?_⟩
       have n0_ := Aside0.mk (blk_below BK101.out hb)
       have n1_ := Aside0.mk (blk_below BK102.out hb)
       have n2_ := Aside0.mk (blk_below BK103.out hb)
       have n3_ := Aside0.mk (below_step HB.out hb)
       clear BK101
       clear BK102
       clear BK103
       clear HB
       have BK101 := n0_
       have BK102 := n1_
       have BK103 := n2_
       have HB := n3_
       clear n0_ n1_ n2_ n3_
       (try clear hb)
       (try clear hb2)
       (try clear hk)
       (try clear hi)
       refine hK.out _ _ ⟨(blk_cell BK101.out 0).trans rfl, (blk_cell BK101.out 1).trans rfl, (blk_cell BK102.out 0).trans rfl, (blk_cell BK102.out 1).trans rfl, (blk_cell BK102.out 2).trans rfl, (blk_cell BK102.out 3).trans rfl, (blk_cell BK102.out 4).trans rfl, (blk_cell BK102.out 5).trans rfl, (blk_cell BK102.out 6).trans rfl, (blk_cell BK102.out 7).trans rfl, (blk_cell BK102.out 8).trans rfl, (blk_cell BK102.out 9).trans rfl, (blk_cell BK102.out 10).trans rfl, (blk_cell BK102.out 11).trans rfl, (blk_cell BK102.out 12).trans rfl⟩ (fun hHeld => ?_)
       clear hK K
       refine norm_ (a' := ?_) ?_ ?_
       rotate_left
       ·show Act.put _ (some 39) _ = _
        simp only [Act.put, List.setIfInBounds_toArray, List.set_cons_zero, List.set_cons_succ, i64_w, i32_w]
        rfl
       refine pure_ (i := 6) (N := some 42) (v := ?_) (a' := ?_) #[true, true, true, true, true, true, true, false] rfl rfl (any_of HT_.out (by kernel_rfl)) (fun _ _ _ h => h) (Or.inl ⟨by rfl, ?_⟩) ?_ ?_
       rotate_left
       ·intro w'
        go_simp
        with_reducible rfl
       rotate_left
       ·simp only [Act.put, List.setIfInBounds_toArray, List.set_cons_zero, List.set_cons_succ, i64_w, i32_w]
        rfl
       refine pure_ (i := 7) (N := some 35) (v := ?_) (a' := ?_) #[true, true, true, true, true, true, true, true] rfl rfl (any_of HT_.out (by kernel_rfl)) (fun _ _ _ h => h) (Or.inl ⟨by rfl, ?_⟩) ?_ ?_
       rotate_left
       ·intro w'
        go_simp
        with_reducible rfl
       rotate_left
       ·simp only [Act.put, List.setIfInBounds_toArray, List.set_cons_zero, List.set_cons_succ, i64_w, i32_w]
        rfl
       refine done_ (done_of HT_.out (by kernel_rfl)) ?_
       obtain ⟨hcz66_0, hcz66_1⟩ := cl2 (W := w65) BK101.out
       obtain ⟨hfz66_0, hfz66_1⟩ := fr2 BK101.out
       obtain ⟨hcz67_0, hcz67_1, hcz67_2, hcz67_3, hcz67_4, hcz67_5, hcz67_6, hcz67_7, hcz67_8, hcz67_9, hcz67_10, hcz67_11, hcz67_12⟩ := cl13 (W := w65) BK102.out
       obtain ⟨hfz67_0, hfz67_1, hfz67_2, hfz67_3, hfz67_4, hfz67_5, hfz67_6, hfz67_7, hfz67_8, hfz67_9, hfz67_10, hfz67_11, hfz67_12⟩ := fr13 BK102.out
       try go_wp2_with (first | ((with_reducible refine gate_callee (f := 38) rfl ?_); refine goesL_ (some 50) rfl rfl Try.func38 (by kernel_rfl) rfl #[.agg #[.int .i64 a0_0, .slice A0_1 l0_1.length c0_1], .int .i64 a1_7, .agg #[.bool a1_10, .string a1_11]] rfl (by (try simp only [List.map_toArray, List.map_cons, List.map_nil]); first | done | rfl | (simp only [List.length_drop, List.length_take]; rfl)) ?_; (with_reducible refine (slabPut.calls a0_0 _ _ l0_1 a1_7 a1_10 a1_11 t112 t113 t116 _ ?side1 ?side2 A57.out).mono ?_); (case side1 => repeat (first | exact (Kd.C_below HR0_1.out HB.out) | (with_reducible refine Kd.C_alloc ?_ _) | (with_reducible refine Kd.C_drewN ?_ _) | (with_reducible refine Kd.C_drew ?_))); (case side2 => exact HC0_1.out); rintro e w68 ⟨v114, rfl, ho0, hb⟩; refine ⟨_, rfl, ?_⟩; have n0_ := Aside0.mk (Kd.R_lower ho0 (below_size (by repeat (first | (with_reducible first | exact HB.out | apply below_alloc | apply pw_below_drewN | apply below_drew1 | refine below_set ?_ GE101.out | refine below_set ?_ GE102.out | refine below_set ?_ GE103.out) | exact HB.out)))); have n1_ := Aside0.mk (blk_below BK101.out hb); have n2_ := Aside0.mk (blk_below BK102.out hb); have n3_ := Aside0.mk (blk_below BK103.out hb); have n4_ := Aside0.mk (below_step HB.out hb); clear BK101; clear BK102; clear BK103; clear HB; have HO115 := n0_; have BK101 := n1_; have BK102 := n2_; have BK103 := n3_; have HB := n4_; clear n0_ n1_ n2_ n3_ n4_; (try clear hb); (try clear hb2); (try clear hk); (try clear hi); (try clear ho0)) | ((with_reducible refine gate_dst (N := 7) rfl ?_); refine box_event ?hg (N := 7) ?hd (cs := #[.int .i64 0, .slice none 0 0]) (t := 24) ?hr ?_; (case hd => rfl); (case hg => rfl); (case hr => first | (go_simp; done) | (go_simp; rfl)); intro gb117 hg w69 hbox hb; have n0_ := Aside0.mk (Kd.R_below (by (with_reducible repeat (first | apply Kd.R_alloc | apply Kd.R_drewN | apply Kd.R_drew)); exact HO115.out) hb); have n1_ := Aside0.mk (blk_below BK101.out hb); have n2_ := Aside0.mk (blk_below BK102.out hb); have n3_ := Aside0.mk (blk_below BK103.out hb); have n4_ := Aside0.mk (below_step HB.out hb); have n5_ := Aside0.mk (hbox); have n6_ := Aside0.mk ((by rw [hg]; exact below_size HB.out : w.heap.size ≤ gb117)); have n7_ := Aside0.mk ((by rw [hg]; exact below_size HB.out : w.heap.size ≤ gb117)); have n8_ := Aside0.mk ((by rw [hg]; exact Nat.ne_of_lt (blk_lt BK101.out) : gb101 ≠ gb117)); have n9_ := Aside0.mk ((by rw [hg]; exact Nat.ne_of_gt (blk_lt BK101.out) : gb117 ≠ gb101)); have n10_ := Aside0.mk ((by rw [hg]; exact Nat.ne_of_lt (blk_lt BK102.out) : gb102 ≠ gb117)); have n11_ := Aside0.mk ((by rw [hg]; exact Nat.ne_of_gt (blk_lt BK102.out) : gb117 ≠ gb102)); have n12_ := Aside0.mk ((by rw [hg]; exact Nat.ne_of_lt (blk_lt BK103.out) : gb103 ≠ gb117)); have n13_ := Aside0.mk ((by rw [hg]; exact Nat.ne_of_gt (blk_lt BK103.out) : gb117 ≠ gb103)); clear HO115; clear BK101; clear BK102; clear BK103; clear HB; have HO115 := n0_; have BK101 := n1_; have BK102 := n2_; have BK103 := n3_; have HB := n4_; have BK117 := n5_; have GW117 := n6_; have GE117 := n7_; have NB101_117 := n8_; have NB117_101 := n9_; have NB102_117 := n10_; have NB117_102 := n11_; have NB103_117 := n12_; have NB117_103 := n13_; clear n0_ n1_ n2_ n3_ n4_ n5_ n6_ n7_ n8_ n9_ n10_ n11_ n12_ n13_; clear hb hbox hg; have hnb70 := NB117_101.out; have hnc70 := NB101_117.out; have hnb71 := NB117_102.out; have hnc71 := NB102_117.out; have hnb72 := NB117_103.out; have hnc72 := NB103_117.out; obtain ⟨hcz73_0, hcz73_1⟩ := cl2 (W := w69) BK117.out; obtain ⟨hfz73_0, hfz73_1⟩ := fr2 BK117.out; obtain ⟨Ao74, co74, eo74⟩ := Kd.R_slice HO115.out; subst eo74; obtain ⟨hcz75_0, hcz75_1, hcz75_2, hcz75_3, hcz75_4, hcz75_5, hcz75_6, hcz75_7, hcz75_8, hcz75_9, hcz75_10, hcz75_11, hcz75_12⟩ := cl13 (W := w69) BK102.out; obtain ⟨hfz75_0, hfz75_1, hfz75_2, hfz75_3, hfz75_4, hfz75_5, hfz75_6, hfz75_7, hfz75_8, hfz75_9, hfz75_10, hfz75_11, hfz75_12⟩ := fr13 BK102.out; obtain ⟨hcz76_0, hcz76_1⟩ := cl2 (W := w69) BK103.out; obtain ⟨hfz76_0, hfz76_1⟩ := fr2 BK103.out))
       refine bodyPost_ret (results_ctt rfl _ _ gb103 24 #[.int .i64 a1_4, .slice Ao74 t113.length co74] (0, 0) _ rfl (by (with_reducible repeat (first | refine blk_drewN ?_ _ | refine blk_drew ?_ | refine blk_alloc ?_ _)); refine blk_put (cs := #[.int .i64 a1_4, .slice none 0 0]) ?_ 1 _ rfl; refine blk_put (cs := #[.int .i64 0, .slice none 0 0]) ?_ 0 _ rfl; refine blk_far ?_ NB103_117.out _; refine blk_far ?_ NB103_117.out _; refine blk_far ?_ NB103_117.out _; (with_reducible repeat (first | refine blk_drewN ?_ _ | refine blk_drew ?_ | refine blk_alloc ?_ _)); exact BK103.out) Try.underlying24 rfl (by kernel_rfl)) rfl ?_
       exact ⟨_, by first | rfl | (simp [errW_none, errW_some] <;> rfl) | (simp [*, errW_none, errW_some] <;> rfl), by (with_reducible repeat (first | apply Kd.R_alloc | apply Kd.R_drewN | apply Kd.R_drew)); exact Kd.R_mono (Kd.R_far (p := ⟨gb103, 1, none⟩) (Kd.R_far (p := ⟨gb103, 0, none⟩) (Kd.R_far (p := ⟨gb117, 0, none⟩) (Kd.R_far (p := ⟨gb117, 1, none⟩) (Kd.R_far (p := ⟨gb117, 0, none⟩) (Kd.R_types (Kd.R_types HO115.out BK117.out (by decide)) BK103.out (by decide)) (fun _ hk => hk.1.2) (.int .i64 t112)) (fun _ hk => hk.1.2) (.slice Ao74 t113.length co74)) (fun _ hk => hk.1.2) (.int .i64 a1_4)) (fun _ hk => hk.2) (.int .i64 a1_4)) (fun _ hk => hk.2) (.slice Ao74 t113.length co74)) (fun _ hk => trivial), by repeat (first | (with_reducible first | exact HB.out | apply below_alloc | apply pw_below_drewN | apply below_drew1 | refine below_set ?_ GE101.out | refine below_set ?_ GE102.out | refine below_set ?_ GE103.out | refine below_set ?_ GE117.out) | exact HB.out)⟩
      ·rw [if_neg c58] at H
       have c58b0 : (t116 == 0) = false := beq_eq_false_iff_ne.mpr c58
       have c58b1 : (t116 != 0) = true := bne_iff_ne.mpr c58
       simp only [Option.some.injEq, Prod.mk.injEq] at H
       obtain ⟨rfl, rfl, rfl, rfl⟩ := H
       have hnb77 := NB102_101.out
       have hnc77 := NB101_102.out
       have hnb78 := NB102_103.out
       have hnc78 := NB103_102.out
       obtain ⟨hcz79_0, hcz79_1, hcz79_2, hcz79_3, hcz79_4, hcz79_5, hcz79_6, hcz79_7, hcz79_8, hcz79_9, hcz79_10, hcz79_11, hcz79_12⟩ := cl13 (W := wc) BK102.out
       obtain ⟨hfz79_0, hfz79_1, hfz79_2, hfz79_3, hfz79_4, hfz79_5, hfz79_6, hfz79_7, hfz79_8, hfz79_9, hfz79_10, hfz79_11, hfz79_12⟩ := fr13 BK102.out
       have hnb80 := NB101_103.out
       have hnc80 := NB103_101.out
       obtain ⟨hcz81_0, hcz81_1⟩ := cl2 (W := wc) BK101.out
       obtain ⟨hfz81_0, hfz81_1⟩ := fr2 BK101.out
       try go_wp2
       have n0_ := Aside0.mk (blk_drew BK101.out)
       have n1_ := Aside0.mk (blk_drew BK102.out)
       have n2_ := Aside0.mk (blk_drew BK103.out)
       have n3_ := Aside0.mk (below_drew1 HB.out)
       clear BK101
       clear BK102
       clear BK103
       clear HB
       have BK101 := n0_
       have BK102 := n1_
       have BK103 := n2_
       have HB := n3_
       clear n0_ n1_ n2_ n3_
       refine start_ (n := 8) (S := fun w' => w'.cell? ⟨gb101, 0, none⟩ = some (.int .i64 a0_0) ∧ w'.cell? ⟨gb101, 1, none⟩ = some (.slice A0_1 l0_1.length c0_1) ∧ w'.cell? ⟨gb102, 0, none⟩ = some (.int .i64 a1_0) ∧ w'.cell? ⟨gb102, 1, none⟩ = some (.int .i64 a1_1) ∧ w'.cell? ⟨gb102, 2, none⟩ = some (.int .i64 a1_2) ∧ w'.cell? ⟨gb102, 3, none⟩ = some (.int .i64 a1_3) ∧ w'.cell? ⟨gb102, 4, none⟩ = some (.int .i64 a1_4) ∧ w'.cell? ⟨gb102, 5, none⟩ = some (.int .i64 a1_5) ∧ w'.cell? ⟨gb102, 6, none⟩ = some (.int .i64 a1_6) ∧ w'.cell? ⟨gb102, 7, none⟩ = some (.int .i64 a1_7) ∧ w'.cell? ⟨gb102, 8, none⟩ = some (.bool a1_8) ∧ w'.cell? ⟨gb102, 9, none⟩ = some (.string a1_9) ∧ w'.cell? ⟨gb102, 10, none⟩ = some (.bool a1_10) ∧ w'.cell? ⟨gb102, 11, none⟩ = some (.string a1_11) ∧ w'.cell? ⟨gb102, 12, none⟩ = some (.int .i64 a1_12)) (ds := []) #[false, false, false, false, false, false, false, false] (by kernel_rfl) rfl rfl ⟨(blk_cell BK101.out 0).trans rfl, (blk_cell BK101.out 1).trans rfl, (blk_cell BK102.out 0).trans rfl, (blk_cell BK102.out 1).trans rfl, (blk_cell BK102.out 2).trans rfl, (blk_cell BK102.out 3).trans rfl, (blk_cell BK102.out 4).trans rfl, (blk_cell BK102.out 5).trans rfl, (blk_cell BK102.out 6).trans rfl, (blk_cell BK102.out 7).trans rfl, (blk_cell BK102.out 8).trans rfl, (blk_cell BK102.out 9).trans rfl, (blk_cell BK102.out 10).trans rfl, (blk_cell BK102.out 11).trans rfl, (blk_cell BK102.out 12).trans rfl⟩ (fun hHeld => ?_); refine with_tabW patch_Redo.tab6 patch_Redo.bits6 (fun HT_ HW_ => ?_)
       generalize wc.drew = w82 at BK101 BK102 BK103 HB hHeld ⊢
       refine pure_ (i := 1) (N := some 37) (v := ?_) (a' := ?_) #[false, true, false, false, false, false, false, false] rfl rfl (any_of HT_.out (by kernel_rfl)) (fun _ _ _ h => h) (Or.inl ⟨by rfl, ?_⟩) ?_ ?_
       rotate_left
       ·intro w'
        go_simp
        with_reducible rfl
       rotate_left
       ·simp only [Act.put, List.setIfInBounds_toArray, List.set_cons_zero, List.set_cons_succ, i64_w, i32_w]
        rfl
       refine pure_ (i := 4) (N := some 40) (v := ?_) (a' := ?_) #[false, true, false, false, true, false, false, false] rfl rfl (any_of HT_.out (by kernel_rfl)) (fun _ _ _ h => h) (Or.inl ⟨by rfl, ?_⟩) ?_ ?_
       rotate_left
       ·intro w'
        go_simp
        with_reducible rfl
       rotate_left
       ·simp only [Act.put, List.setIfInBounds_toArray, List.set_cons_zero, List.set_cons_succ, i64_w, i32_w]
        rfl
       refine take_ (i := 0) (N := some 36) (v := ?_) (a' := ?_) #[true, true, false, false, true, false, false, false] rfl rfl (take_ofW HT_.out HW_.out (by kernel_rfl)) (fun _ _ _ h => h) (Or.inl ⟨by rfl, ?_⟩) hHeld ?_ ?_
       rotate_left
       ·rintro w' ⟨s0, s1, s2, s3, s4, s5, s6, s7, s8, s9, s10, s11, s12, s13, s14⟩
        go_simp
        with_reducible rfl
       rotate_left
       ·simp only [Act.put, List.setIfInBounds_toArray, List.set_cons_zero, List.set_cons_succ, i64_w, i32_w]
        rfl
       refine take_ (i := 2) (N := some 38) (v := ?_) (a' := ?_) #[true, true, true, false, true, false, false, false] rfl rfl (take_ofW HT_.out HW_.out (by kernel_rfl)) (fun _ _ _ h => h) (Or.inl ⟨by rfl, ?_⟩) hHeld ?_ ?_
       rotate_left
       ·rintro w' ⟨s0, s1, s2, s3, s4, s5, s6, s7, s8, s9, s10, s11, s12, s13, s14⟩
        go_simp
        with_reducible rfl
       rotate_left
       ·simp only [Act.put, List.setIfInBounds_toArray, List.set_cons_zero, List.set_cons_succ, i64_w, i32_w]
        rfl
       refine take_ (i := 5) (N := some 41) (v := ?_) (a' := ?_) #[true, true, true, false, true, true, false, false] rfl rfl (take_ofW HT_.out HW_.out (by kernel_rfl)) (fun _ _ _ h => h) (Or.inl ⟨by rfl, ?_⟩) hHeld ?_ ?_
       rotate_left
       ·rintro w' ⟨s0, s1, s2, s3, s4, s5, s6, s7, s8, s9, s10, s11, s12, s13, s14⟩
        go_simp
        with_reducible rfl
       rotate_left
       ·simp only [Act.put, List.setIfInBounds_toArray, List.set_cons_zero, List.set_cons_succ, i64_w, i32_w]
        rfl
       refine one_ (i := 3) (N := some 39) #[true, true, true, true, true, true, false, false] rfl rfl (one_of HT_.out (by kernel_rfl)) (by decide) (fun K hK => ?_)
       refine goes_ Try.func39 (by kernel_rfl) rfl #[.agg #[.int .i64 a0_0, .slice A0_1 l0_1.length c0_1], .int .i64 a1_7] (by rfl) rfl rfl (by (try simp only [List.map_toArray, List.map_cons, List.map_nil]); first | done | rfl | (simp only [List.length_drop, List.length_take]; rfl)) ?_
       with_reducible refine (slabAt.calls a0_0 _ _ l0_1 a1_7 t110 t111 _ ?side1 ?side2 A47.out).mono ?_
       (case side1 => repeat (first | exact (Kd.C_below HR0_1.out HB.out) | (with_reducible refine Kd.C_alloc ?_ _) | (with_reducible refine Kd.C_drewN ?_ _) | (with_reducible refine Kd.C_drew ?_)))
       (case side2 => exact HC0_1.out)
       rintro e w83 ⟨rfl, hb⟩
       refine ⟨_, rfl, ?_⟩
       have n0_ := Aside0.mk (blk_below BK101.out hb)
       have n1_ := Aside0.mk (blk_below BK102.out hb)
       have n2_ := Aside0.mk (blk_below BK103.out hb)
       have n3_ := Aside0.mk (below_step HB.out hb)
       clear BK101
       clear BK102
       clear BK103
       clear HB
       have BK101 := n0_
       have BK102 := n1_
       have BK103 := n2_
       have HB := n3_
       clear n0_ n1_ n2_ n3_
       (try clear hb)
       (try clear hb2)
       (try clear hk)
       (try clear hi)
       refine hK.out _ _ ⟨(blk_cell BK101.out 0).trans rfl, (blk_cell BK101.out 1).trans rfl, (blk_cell BK102.out 0).trans rfl, (blk_cell BK102.out 1).trans rfl, (blk_cell BK102.out 2).trans rfl, (blk_cell BK102.out 3).trans rfl, (blk_cell BK102.out 4).trans rfl, (blk_cell BK102.out 5).trans rfl, (blk_cell BK102.out 6).trans rfl, (blk_cell BK102.out 7).trans rfl, (blk_cell BK102.out 8).trans rfl, (blk_cell BK102.out 9).trans rfl, (blk_cell BK102.out 10).trans rfl, (blk_cell BK102.out 11).trans rfl, (blk_cell BK102.out 12).trans rfl⟩ (fun hHeld => ?_)
       clear hK K
       refine norm_ (a' := ?_) ?_ ?_
       rotate_left
       ·show Act.put _ (some 39) _ = _
        simp only [Act.put, List.setIfInBounds_toArray, List.set_cons_zero, List.set_cons_succ, i64_w, i32_w]
        rfl
       refine pure_ (i := 6) (N := some 42) (v := ?_) (a' := ?_) #[true, true, true, true, true, true, true, false] rfl rfl (any_of HT_.out (by kernel_rfl)) (fun _ _ _ h => h) (Or.inl ⟨by rfl, ?_⟩) ?_ ?_
       rotate_left
       ·intro w'
        go_simp
        with_reducible rfl
       rotate_left
       ·simp only [Act.put, List.setIfInBounds_toArray, List.set_cons_zero, List.set_cons_succ, i64_w, i32_w]
        rfl
       refine pure_ (i := 7) (N := some 35) (v := ?_) (a' := ?_) #[true, true, true, true, true, true, true, true] rfl rfl (any_of HT_.out (by kernel_rfl)) (fun _ _ _ h => h) (Or.inl ⟨by rfl, ?_⟩) ?_ ?_
       rotate_left
       ·intro w'
        go_simp
        with_reducible rfl
       rotate_left
       ·simp only [Act.put, List.setIfInBounds_toArray, List.set_cons_zero, List.set_cons_succ, i64_w, i32_w]
        rfl
       refine done_ (done_of HT_.out (by kernel_rfl)) ?_
       obtain ⟨hcz84_0, hcz84_1⟩ := cl2 (W := w83) BK101.out
       obtain ⟨hfz84_0, hfz84_1⟩ := fr2 BK101.out
       obtain ⟨hcz85_0, hcz85_1, hcz85_2, hcz85_3, hcz85_4, hcz85_5, hcz85_6, hcz85_7, hcz85_8, hcz85_9, hcz85_10, hcz85_11, hcz85_12⟩ := cl13 (W := w83) BK102.out
       obtain ⟨hfz85_0, hfz85_1, hfz85_2, hfz85_3, hfz85_4, hfz85_5, hfz85_6, hfz85_7, hfz85_8, hfz85_9, hfz85_10, hfz85_11, hfz85_12⟩ := fr13 BK102.out
       try go_wp2_with (first | ((with_reducible refine gate_callee (f := 38) rfl ?_); refine goesL_ (some 50) rfl rfl Try.func38 (by kernel_rfl) rfl #[.agg #[.int .i64 a0_0, .slice A0_1 l0_1.length c0_1], .int .i64 a1_7, .agg #[.bool a1_10, .string a1_11]] rfl (by (try simp only [List.map_toArray, List.map_cons, List.map_nil]); first | done | rfl | (simp only [List.length_drop, List.length_take]; rfl)) ?_; (with_reducible refine (slabPut.calls a0_0 _ _ l0_1 a1_7 a1_10 a1_11 t112 t113 t116 _ ?side1 ?side2 A57.out).mono ?_); (case side1 => repeat (first | exact (Kd.C_below HR0_1.out HB.out) | (with_reducible refine Kd.C_alloc ?_ _) | (with_reducible refine Kd.C_drewN ?_ _) | (with_reducible refine Kd.C_drew ?_))); (case side2 => exact HC0_1.out); rintro e w86 ⟨v114, rfl, ho0, hb⟩; refine ⟨_, rfl, ?_⟩; have n0_ := Aside0.mk (Kd.R_lower ho0 (below_size (by repeat (first | (with_reducible first | exact HB.out | apply below_alloc | apply pw_below_drewN | apply below_drew1 | refine below_set ?_ GE101.out | refine below_set ?_ GE102.out | refine below_set ?_ GE103.out) | exact HB.out)))); have n1_ := Aside0.mk (blk_below BK101.out hb); have n2_ := Aside0.mk (blk_below BK102.out hb); have n3_ := Aside0.mk (blk_below BK103.out hb); have n4_ := Aside0.mk (below_step HB.out hb); clear BK101; clear BK102; clear BK103; clear HB; have HO115 := n0_; have BK101 := n1_; have BK102 := n2_; have BK103 := n3_; have HB := n4_; clear n0_ n1_ n2_ n3_ n4_; (try clear hb); (try clear hb2); (try clear hk); (try clear hi); (try clear ho0)) | ((with_reducible refine gate_dst (N := 7) rfl ?_); refine box_event ?hg (N := 7) ?hd (cs := #[.int .i64 0, .slice none 0 0]) (t := 24) ?hr ?_; (case hd => rfl); (case hg => rfl); (case hr => first | (go_simp; done) | (go_simp; rfl)); intro gb117 hg w87 hbox hb; have n0_ := Aside0.mk (Kd.R_below (by (with_reducible repeat (first | apply Kd.R_alloc | apply Kd.R_drewN | apply Kd.R_drew)); exact HO115.out) hb); have n1_ := Aside0.mk (blk_below BK101.out hb); have n2_ := Aside0.mk (blk_below BK102.out hb); have n3_ := Aside0.mk (blk_below BK103.out hb); have n4_ := Aside0.mk (below_step HB.out hb); have n5_ := Aside0.mk (hbox); have n6_ := Aside0.mk ((by rw [hg]; exact below_size HB.out : w.heap.size ≤ gb117)); have n7_ := Aside0.mk ((by rw [hg]; exact below_size HB.out : w.heap.size ≤ gb117)); have n8_ := Aside0.mk ((by rw [hg]; exact Nat.ne_of_lt (blk_lt BK101.out) : gb101 ≠ gb117)); have n9_ := Aside0.mk ((by rw [hg]; exact Nat.ne_of_gt (blk_lt BK101.out) : gb117 ≠ gb101)); have n10_ := Aside0.mk ((by rw [hg]; exact Nat.ne_of_lt (blk_lt BK102.out) : gb102 ≠ gb117)); have n11_ := Aside0.mk ((by rw [hg]; exact Nat.ne_of_gt (blk_lt BK102.out) : gb117 ≠ gb102)); have n12_ := Aside0.mk ((by rw [hg]; exact Nat.ne_of_lt (blk_lt BK103.out) : gb103 ≠ gb117)); have n13_ := Aside0.mk ((by rw [hg]; exact Nat.ne_of_gt (blk_lt BK103.out) : gb117 ≠ gb103)); clear HO115; clear BK101; clear BK102; clear BK103; clear HB; have HO115 := n0_; have BK101 := n1_; have BK102 := n2_; have BK103 := n3_; have HB := n4_; have BK117 := n5_; have GW117 := n6_; have GE117 := n7_; have NB101_117 := n8_; have NB117_101 := n9_; have NB102_117 := n10_; have NB117_102 := n11_; have NB103_117 := n12_; have NB117_103 := n13_; clear n0_ n1_ n2_ n3_ n4_ n5_ n6_ n7_ n8_ n9_ n10_ n11_ n12_ n13_; clear hb hbox hg; have hnb88 := NB117_101.out; have hnc88 := NB101_117.out; have hnb89 := NB117_102.out; have hnc89 := NB102_117.out; have hnb90 := NB117_103.out; have hnc90 := NB103_117.out; obtain ⟨hcz91_0, hcz91_1⟩ := cl2 (W := w87) BK117.out; obtain ⟨hfz91_0, hfz91_1⟩ := fr2 BK117.out; obtain ⟨Ao92, co92, eo92⟩ := Kd.R_slice HO115.out; subst eo92; obtain ⟨hcz93_0, hcz93_1⟩ := cl2 (W := w87) BK103.out; obtain ⟨hfz93_0, hfz93_1⟩ := fr2 BK103.out))
       refine bodyPost_ret (results_ctt rfl _ _ gb103 24 #[.int .i64 0, .slice none 0 0] (0, 0) _ rfl (by (with_reducible repeat (first | refine blk_drewN ?_ _ | refine blk_drew ?_ | refine blk_alloc ?_ _)); refine blk_put (cs := #[.int .i64 0, .slice none 0 0]) ?_ 1 _ rfl; refine blk_put (cs := #[.int .i64 0, .slice none 0 0]) ?_ 0 _ rfl; refine blk_far ?_ NB103_117.out _; refine blk_far ?_ NB103_117.out _; (with_reducible repeat (first | refine blk_drewN ?_ _ | refine blk_drew ?_ | refine blk_alloc ?_ _)); exact BK103.out) Try.underlying24 rfl (by kernel_rfl)) rfl ?_
       exact ⟨_, by first | rfl | (simp [errW_none, errW_some] <;> rfl) | (simp [*, errW_none, errW_some] <;> rfl), by first | exact Kd.R_nil _ _ _ _ _ | exact Kd.N_nil _ _ _ _ _ | exact Kd.V_nil _ _ _ _ _ | exact Kd.Q_nil _ _ _ _ _ | exact Kd.S_nil _ _ _ _ _, by repeat (first | (with_reducible first | exact HB.out | apply below_alloc | apply pw_below_drewN | apply below_drew1 | refine below_set ?_ GE101.out | refine below_set ?_ GE102.out | refine below_set ?_ GE103.out | refine below_set ?_ GE117.out) | exact HB.out)⟩
end Go.Proofs.Ytfjmnaobfbmllaa.M
namespace Go.Proofs.Ytfjmnaobfbmllaa.M
open Go.RowKit Go.Proofs.YtfjmnaobfbmllaaW.PrintWords Go.Proofs.YtfjmnaobfbmllaaW.PrintLast Go.Proofs.YtfjmnaobfbmllaaW.PrintMore
set_option linter.unusedVariables false
set_option linter.unusedSimpArgs false
theorem changes_eq (x : S65) : patch_changes.f x.f0 x.f1.f0 x.f1.f1 x.f1.f2 x.f2 x.f3 x.f4 x.f5 x.f6.f0 x.f6.f1 x.f7.f0 x.f7.f1 x.f8 = some (decide (x.f0 = 1 ∨ x.f0 = 2)) := by
  unfold patch_changes.f
  by_cases h : x.f0 = 1
  · rw [if_pos h, decide_eq_true (.inl h)]
  · rw [if_neg h]
    congr 1
    rw [Bool.eq_iff_iff, beq_iff_eq, decide_eq_true_iff]
    exact ⟨fun h2 => .inr h2, fun h2 => h2.resolve_left h⟩
theorem predo_j0 (k : Nat) (b : Bool) (a : Int) (l : List S33) (x : S65) (h : b = false ↔ goodP a l = true ∧ GoodE x ∧ (x.f0 = 1 ∨ x.f0 = 2)) : patch_Redo.j0 (k + 1) b a l x.f0 x.f1.f0 x.f1.f1 x.f1.f2 x.f2 x.f3 x.f4 x.f5 x.f6.f0 x.f6.f1 x.f7.f0 x.f7.f1 x.f8 = some (redoP a l x) := by
  simp only [patch_Redo.j0]
  unfold redoP
  by_cases hc : goodP a l = true ∧ GoodE x ∧ (x.f0 = 1 ∨ x.f0 = 2)
  · obtain rfl := h.mpr hc
    obtain ⟨hg, hx, hk⟩ := hc
    obtain ⟨_, _, hlen, _⟩ := (good_iff a l).mp hg
    have hc2 : goodP a l = true ∧ GoodE x ∧ (x.f0 = 1 ∨ x.f0 = 2) := ⟨hg, hx, hk⟩
    rw [if_neg Bool.false_ne_true, if_pos hc2]
    by_cases h1 : x.f2 ≤ a
    · rw [if_pos h1, if_pos h1]
      unfold slices_Clone.f
      rw [if_pos (by omega), Option.bind_some]
    · rw [if_neg h1, if_neg h1]
      obtain ⟨s, hs, hs2⟩ := slot_of hx hk
      have ea : atP a l x.f5 = slotL l x.f5.toNat := by
        unfold atP
        rw [if_pos ⟨hg, by omega⟩]
      unfold slabAt.f
      rw [Option.bind_some]
      simp only
      rw [ea]
      by_cases h2 : slotL l x.f5.toNat = x.f6
      · rw [if_neg (fun h => (s33_ne _ _).mp h h2), if_pos h2]
        unfold slabPut.f
        rw [Option.bind_some]
        have ep : putP a l x.f5 ⟨x.f7.f0, x.f7.f1⟩ = if 240 < rawSize (putL l x.f5.toNat x.f7) then (0, [], 22) else (a, putL l x.f5.toNat x.f7, 0) := by
          rw [hs, Int.toNat_natCast]
          exact put_done hg hs2 (is_fine hx hk).2
        rw [ep]
        by_cases h3 : 240 < rawSize (putL l x.f5.toNat x.f7)
        · rw [if_pos h3, if_pos h3]; rfl
        · rw [if_neg h3, if_neg h3]; rfl
      · rw [if_pos ((s33_ne _ _).mpr h2), if_neg h2]
  · have hb : b = true := by
      cases b with
      | true => rfl
      | false => exact absurd (h.mp rfl) hc
    rw [hb, if_pos rfl, if_neg hc]
theorem predo_pure (k : Nat) (a : Int) (l : List S33) (x : S65) : patch_Redo.f (k + 1) a l x.f0 x.f1.f0 x.f1.f1 x.f1.f2 x.f2 x.f3 x.f4 x.f5 x.f6.f0 x.f6.f1 x.f7.f0 x.f7.f1 x.f8 = some (redoP a l x) := by
  unfold patch_Redo.f slabGood.f entGood.f
  rw [Option.bind_some]
  by_cases hg : goodP a l = true
  · rw [if_pos hg, Option.bind_some, mk_eq]
    by_cases hx : GoodE x
    · rw [decide_eq_true hx, if_pos rfl]
      rw [changes_eq, Option.bind_some]
      exact predo_j0 k _ a l x ⟨fun h => ⟨hg, hx, by rw [Bool.not_eq_false'] at h; exact of_decide_eq_true h⟩, fun h => by rw [Bool.not_eq_false']; exact decide_eq_true h.2.2⟩
    · rw [decide_eq_false hx, if_neg Bool.false_ne_true]
      exact predo_j0 k _ a l x ⟨fun h => (by cases h), fun h => absurd h.2.1 hx⟩
  · rw [if_neg hg]
    exact predo_j0 k _ a l x ⟨fun h => (by cases h), fun h => absurd h.1 hg⟩
def patRedo.f (a : Int) (l : List S33) (k c e n lsn prev p s : Int) (u : Bool) (d : ByteArray) (u2 : Bool) (d2 : ByteArray) (next : Int) : Option (Int × List S33 × Bool × Int) := some (redoP a l (mkE k c e n lsn prev p s u d u2 d2 next))
theorem patRedo.calls (a : Int) (A : Option Addr) (c0 : Nat) (l : List S33) (k c e n lsn prev p s : Int) (u : Bool) (d : ByteArray) (u2 : Bool) (d2 : ByteArray) (next : Int) (r1 : Int) (r2 : List S33) (r3 : Bool) (r4 : Int) (w : World) (hr : Kd.C k33 w A l.length l) (hc : l.length ≤ c0) (h : patRedo.f a l k c e n lsn prev p s u d u2 d2 next = some (r1, r2, r3, r4)) :
    Calls Try.prog 67 #[.agg #[.int .i64 a, .slice A l.length c0], .agg #[.int .i64 k, .int .i64 c, .int .i64 e, .int .i64 n, .int .i64 lsn, .int .i64 prev, .int .i64 p, .int .i64 s, .bool u, .string d, .bool u2, .string d2, .int .i64 next]] w fun e w' => ∃ v1_ : Value, e = .returned (.tuple #[.agg #[.int .i64 r1, v1_], .bool r3, .int .i64 r4]) ∧ Kd.R k33 33 w' w.heap.size (fun _ => True) v1_ r2 ∧ Below w.heap.size w w' :=
  patch_Redo.calls 1 a A c0 l k c e n lsn prev p s u d u2 d2 next r1 r2 r3 r4 w hr hc (by rw [← h]; exact predo_pure 0 a l (mkE k c e n lsn prev p s u d u2 d2 next))
end Go.Proofs.Ytfjmnaobfbmllaa.M
namespace Go.Proofs.Ytfjmnaobfbmllaa.M
open Go.RowKit Go.Proofs.YtfjmnaobfbmllaaW.PrintWords Go.Proofs.YtfjmnaobfbmllaaW.PrintLast Go.Proofs.YtfjmnaobfbmllaaW.PrintMore
attribute [local go_sem] max2_int min2_int max_two min_two max_three min_three max_four min_four   -- for this text's walks alone
set_option linter.unusedVariables false
set_option linter.unusedSimpArgs false
def seneschalref04_Known.f (a0_0 : Int) (a0_1 : Int) (a0_2 : Int) : Option (Bool) := if a0_0 ≥ 1 then (if a0_0 ≤ 8 then (if a0_1 ≥ 1 then (if a0_1 ≤ 1073741824 then (if a0_2 ≥ 1 then (some (decide (a0_2 ≤ 1073741824))) else (some false)) else (some false)) else (some false)) else (some false)) else (some false)
set_option maxHeartbeats 8000000 in
set_option maxRecDepth 100000 in
theorem seneschalref04_Known.calls (a0_0 : Int) (a0_1 : Int) (a0_2 : Int) (r : Bool) (w : World) (h : seneschalref04_Known.f a0_0 a0_1 a0_2 = some r) :
  Calls Try.prog 60 #[.agg #[.int .i64 a0_0, .int .i64 a0_1, .int .i64 a0_2]] w fun e w' => e = .returned (.bool r) ∧ Below w.heap.size w w' := by
 have hu52 := Try.underlying52
 have HB := Aside0.mk (Below.refl w.heap.size w)
 have H : (if a0_0 ≥ 1 then (if a0_0 ≤ 8 then (if a0_1 ≥ 1 then (if a0_1 ≤ 1073741824 then (if a0_2 ≥ 1 then (some (decide (a0_2 ≤ 1073741824))) else (some false)) else (some false)) else (some false)) else (some false)) else (some false)) = some r := h
 clear h
 by_cases c2 : a0_0 ≥ 1
 ·rw [if_pos c2] at H
  have c2b0 : decide (1 ≤ a0_0) = true := decide_eq_true c2
  clear c2
  by_cases c3 : a0_0 ≤ 8
  ·rw [if_pos c3] at H
   have c3b0 : decide (a0_0 ≤ 8) = true := decide_eq_true c3
   clear c3
   by_cases c4 : a0_1 ≥ 1
   ·rw [if_pos c4] at H
    have c4b0 : decide (1 ≤ a0_1) = true := decide_eq_true c4
    clear c4
    by_cases c5 : a0_1 ≤ 1073741824
    ·rw [if_pos c5] at H
     have c5b0 : decide (a0_1 ≤ 1073741824) = true := decide_eq_true c5
     clear c5
     by_cases c6 : a0_2 ≥ 1
     ·rw [if_pos c6] at H
      have c6b0 : decide (1 ≤ a0_2) = true := decide_eq_true c6
      clear c6
      obtain rfl := Option.some.inj H
      go_enter Try.func60, Try.ntmps60
      go_wp2_with (first | ((with_reducible refine gate_dst (N := 1) rfl ?_); refine box_event ?hg (N := 1) ?hd (cs := #[.int .i64 a0_0, .int .i64 a0_1, .int .i64 a0_2]) (t := 52) ?hr ?_; (case hd => rfl); (case hg => rfl); (case hr => first | (go_simp; done) | (go_simp; rfl)); intro gb101 hg w7 hbox hb; have n0_ := Aside0.mk (below_step HB.out hb); have n1_ := Aside0.mk (hbox); have n2_ := Aside0.mk ((by rw [hg]; exact below_size HB.out : w.heap.size ≤ gb101)); have n3_ := Aside0.mk ((by rw [hg]; exact below_size HB.out : w.heap.size ≤ gb101)); clear HB; have HB := n0_; have BK101 := n1_; have GW101 := n2_; have GE101 := n3_; clear n0_ n1_ n2_ n3_; clear hb hbox hg; obtain ⟨hcz8_0, hcz8_1, hcz8_2⟩ := cl3 (W := w7) BK101.out; obtain ⟨hfz8_0, hfz8_1, hfz8_2⟩ := fr3 BK101.out))
      go_ret
      exact ⟨by first | rfl | (simp [errW_none, errW_some] <;> rfl) | (simp [*, errW_none, errW_some] <;> rfl), by repeat (first | (with_reducible first | exact HB.out | apply below_alloc | apply pw_below_drewN | apply below_drew1 | refine below_set ?_ GE101.out) | exact HB.out)⟩
     ·rw [if_neg c6] at H
      have c6b0 : decide (1 ≤ a0_2) = false := decide_eq_false c6
      clear c6
      obtain rfl := Option.some.inj H
      go_enter Try.func60, Try.ntmps60
      go_wp2_with (first | ((with_reducible refine gate_dst (N := 1) rfl ?_); refine box_event ?hg (N := 1) ?hd (cs := #[.int .i64 a0_0, .int .i64 a0_1, .int .i64 a0_2]) (t := 52) ?hr ?_; (case hd => rfl); (case hg => rfl); (case hr => first | (go_simp; done) | (go_simp; rfl)); intro gb101 hg w9 hbox hb; have n0_ := Aside0.mk (below_step HB.out hb); have n1_ := Aside0.mk (hbox); have n2_ := Aside0.mk ((by rw [hg]; exact below_size HB.out : w.heap.size ≤ gb101)); have n3_ := Aside0.mk ((by rw [hg]; exact below_size HB.out : w.heap.size ≤ gb101)); clear HB; have HB := n0_; have BK101 := n1_; have GW101 := n2_; have GE101 := n3_; clear n0_ n1_ n2_ n3_; clear hb hbox hg; obtain ⟨hcz10_0, hcz10_1, hcz10_2⟩ := cl3 (W := w9) BK101.out; obtain ⟨hfz10_0, hfz10_1, hfz10_2⟩ := fr3 BK101.out))
      go_ret
      exact ⟨by first | rfl | (simp [errW_none, errW_some] <;> rfl) | (simp [*, errW_none, errW_some] <;> rfl), by repeat (first | (with_reducible first | exact HB.out | apply below_alloc | apply pw_below_drewN | apply below_drew1 | refine below_set ?_ GE101.out) | exact HB.out)⟩
    ·rw [if_neg c5] at H
     have c5b0 : decide (a0_1 ≤ 1073741824) = false := decide_eq_false c5
     clear c5
     obtain rfl := Option.some.inj H
     go_enter Try.func60, Try.ntmps60
     go_wp2_with (first | ((with_reducible refine gate_dst (N := 1) rfl ?_); refine box_event ?hg (N := 1) ?hd (cs := #[.int .i64 a0_0, .int .i64 a0_1, .int .i64 a0_2]) (t := 52) ?hr ?_; (case hd => rfl); (case hg => rfl); (case hr => first | (go_simp; done) | (go_simp; rfl)); intro gb101 hg w11 hbox hb; have n0_ := Aside0.mk (below_step HB.out hb); have n1_ := Aside0.mk (hbox); have n2_ := Aside0.mk ((by rw [hg]; exact below_size HB.out : w.heap.size ≤ gb101)); have n3_ := Aside0.mk ((by rw [hg]; exact below_size HB.out : w.heap.size ≤ gb101)); clear HB; have HB := n0_; have BK101 := n1_; have GW101 := n2_; have GE101 := n3_; clear n0_ n1_ n2_ n3_; clear hb hbox hg; obtain ⟨hcz12_0, hcz12_1, hcz12_2⟩ := cl3 (W := w11) BK101.out; obtain ⟨hfz12_0, hfz12_1, hfz12_2⟩ := fr3 BK101.out))
     go_ret
     exact ⟨by first | rfl | (simp [errW_none, errW_some] <;> rfl) | (simp [*, errW_none, errW_some] <;> rfl), by repeat (first | (with_reducible first | exact HB.out | apply below_alloc | apply pw_below_drewN | apply below_drew1 | refine below_set ?_ GE101.out) | exact HB.out)⟩
   ·rw [if_neg c4] at H
    have c4b0 : decide (1 ≤ a0_1) = false := decide_eq_false c4
    clear c4
    obtain rfl := Option.some.inj H
    go_enter Try.func60, Try.ntmps60
    go_wp2_with (first | ((with_reducible refine gate_dst (N := 1) rfl ?_); refine box_event ?hg (N := 1) ?hd (cs := #[.int .i64 a0_0, .int .i64 a0_1, .int .i64 a0_2]) (t := 52) ?hr ?_; (case hd => rfl); (case hg => rfl); (case hr => first | (go_simp; done) | (go_simp; rfl)); intro gb101 hg w13 hbox hb; have n0_ := Aside0.mk (below_step HB.out hb); have n1_ := Aside0.mk (hbox); have n2_ := Aside0.mk ((by rw [hg]; exact below_size HB.out : w.heap.size ≤ gb101)); have n3_ := Aside0.mk ((by rw [hg]; exact below_size HB.out : w.heap.size ≤ gb101)); clear HB; have HB := n0_; have BK101 := n1_; have GW101 := n2_; have GE101 := n3_; clear n0_ n1_ n2_ n3_; clear hb hbox hg; obtain ⟨hcz14_0, hcz14_1, hcz14_2⟩ := cl3 (W := w13) BK101.out; obtain ⟨hfz14_0, hfz14_1, hfz14_2⟩ := fr3 BK101.out))
    go_ret
    exact ⟨by first | rfl | (simp [errW_none, errW_some] <;> rfl) | (simp [*, errW_none, errW_some] <;> rfl), by repeat (first | (with_reducible first | exact HB.out | apply below_alloc | apply pw_below_drewN | apply below_drew1 | refine below_set ?_ GE101.out) | exact HB.out)⟩
  ·rw [if_neg c3] at H
   have c3b0 : decide (a0_0 ≤ 8) = false := decide_eq_false c3
   clear c3
   obtain rfl := Option.some.inj H
   go_enter Try.func60, Try.ntmps60
   go_wp2_with (first | ((with_reducible refine gate_dst (N := 1) rfl ?_); refine box_event ?hg (N := 1) ?hd (cs := #[.int .i64 a0_0, .int .i64 a0_1, .int .i64 a0_2]) (t := 52) ?hr ?_; (case hd => rfl); (case hg => rfl); (case hr => first | (go_simp; done) | (go_simp; rfl)); intro gb101 hg w15 hbox hb; have n0_ := Aside0.mk (below_step HB.out hb); have n1_ := Aside0.mk (hbox); have n2_ := Aside0.mk ((by rw [hg]; exact below_size HB.out : w.heap.size ≤ gb101)); have n3_ := Aside0.mk ((by rw [hg]; exact below_size HB.out : w.heap.size ≤ gb101)); clear HB; have HB := n0_; have BK101 := n1_; have GW101 := n2_; have GE101 := n3_; clear n0_ n1_ n2_ n3_; clear hb hbox hg; obtain ⟨hcz16_0, hcz16_1, hcz16_2⟩ := cl3 (W := w15) BK101.out; obtain ⟨hfz16_0, hfz16_1, hfz16_2⟩ := fr3 BK101.out))
   go_ret
   exact ⟨by first | rfl | (simp [errW_none, errW_some] <;> rfl) | (simp [*, errW_none, errW_some] <;> rfl), by repeat (first | (with_reducible first | exact HB.out | apply below_alloc | apply pw_below_drewN | apply below_drew1 | refine below_set ?_ GE101.out) | exact HB.out)⟩
 ·rw [if_neg c2] at H
  have c2b0 : decide (1 ≤ a0_0) = false := decide_eq_false c2
  clear c2
  obtain rfl := Option.some.inj H
  go_enter Try.func60, Try.ntmps60
  go_wp2_with (first | ((with_reducible refine gate_dst (N := 1) rfl ?_); refine box_event ?hg (N := 1) ?hd (cs := #[.int .i64 a0_0, .int .i64 a0_1, .int .i64 a0_2]) (t := 52) ?hr ?_; (case hd => rfl); (case hg => rfl); (case hr => first | (go_simp; done) | (go_simp; rfl)); intro gb101 hg w17 hbox hb; have n0_ := Aside0.mk (below_step HB.out hb); have n1_ := Aside0.mk (hbox); have n2_ := Aside0.mk ((by rw [hg]; exact below_size HB.out : w.heap.size ≤ gb101)); have n3_ := Aside0.mk ((by rw [hg]; exact below_size HB.out : w.heap.size ≤ gb101)); clear HB; have HB := n0_; have BK101 := n1_; have GW101 := n2_; have GE101 := n3_; clear n0_ n1_ n2_ n3_; clear hb hbox hg; obtain ⟨hcz18_0, hcz18_1, hcz18_2⟩ := cl3 (W := w17) BK101.out; obtain ⟨hfz18_0, hfz18_1, hfz18_2⟩ := fr3 BK101.out))
  go_ret
  exact ⟨by first | rfl | (simp [errW_none, errW_some] <;> rfl) | (simp [*, errW_none, errW_some] <;> rfl), by repeat (first | (with_reducible first | exact HB.out | apply below_alloc | apply pw_below_drewN | apply below_drew1 | refine below_set ?_ GE101.out) | exact HB.out)⟩
end Go.Proofs.Ytfjmnaobfbmllaa.M
namespace Go.Proofs.Ytfjmnaobfbmllaa.M
open Go.RowKit Go.Proofs.YtfjmnaobfbmllaaW.PrintWords Go.Proofs.YtfjmnaobfbmllaaW.PrintLast Go.Proofs.YtfjmnaobfbmllaaW.PrintMore
set_option linter.unusedVariables false
set_option linter.unusedSimpArgs false
theorem rknown_eq (c e n : Int) : seneschalref04_Known.f c e n = some (decide (KnownP c e n)) := by
  unfold seneschalref04_Known.f
  by_cases h1 : c ≥ 1
  · rw [if_pos h1]
    by_cases h2 : c ≤ 8
    · rw [if_pos h2]
      by_cases h3 : e ≥ 1
      · rw [if_pos h3]
        by_cases h4 : e ≤ 1073741824
        · rw [if_pos h4]
          by_cases h5 : n ≥ 1
          · rw [if_pos h5]; congr 1; exact decide_eq_decide.mpr (by unfold KnownP; omega)
          · rw [if_neg h5]; congr 1; exact (decide_eq_false (by unfold KnownP; omega)).symm
        · rw [if_neg h4]; congr 1; exact (decide_eq_false (by unfold KnownP; omega)).symm
      · rw [if_neg h3]; congr 1; exact (decide_eq_false (by unfold KnownP; omega)).symm
    · rw [if_neg h2]; congr 1; exact (decide_eq_false (by unfold KnownP; omega)).symm
  · rw [if_neg h1]; congr 1; exact (decide_eq_false (by unfold KnownP; omega)).symm
def refKnown4.f (c e n : Int) : Option Bool := some (decide (KnownP c e n))
theorem refKnown4.calls (c e n : Int) (r : Bool) (w : World) (h : refKnown4.f c e n = some r) : Calls Try.prog 60 #[.agg #[.int .i64 c, .int .i64 e, .int .i64 n]] w fun e w' => e = .returned (.bool r) ∧ Below w.heap.size w w' :=
  seneschalref04_Known.calls c e n r w (by rw [rknown_eq]; exact h)
end Go.Proofs.Ytfjmnaobfbmllaa.M
namespace Go.Proofs.Ytfjmnaobfbmllaa.M
open Go.RowKit Go.Proofs.YtfjmnaobfbmllaaW.PrintWords Go.Proofs.YtfjmnaobfbmllaaW.PrintLast Go.Proofs.YtfjmnaobfbmllaaW.PrintMore
theorem beq_nil (l : List UInt8) : (l == ([] : List UInt8)) = l.isEmpty := by cases l <;> rfl
end Go.Proofs.Ytfjmnaobfbmllaa.M
namespace Go.Proofs.Ytfjmnaobfbmllaa.M
open Go.RowKit Go.Proofs.YtfjmnaobfbmllaaW.PrintWords Go.Proofs.YtfjmnaobfbmllaaW.PrintLast Go.Proofs.YtfjmnaobfbmllaaW.PrintMore
attribute [local go_sem] max2_int min2_int max_two min_two max_three min_three max_four min_four   -- for this text's walks alone
set_option linter.unusedVariables false
set_option linter.unusedSimpArgs false
def seneschalref04_slot.f (a0_0 : Bool) (a0_1 : ByteArray) : Option (Bool) := if (a0_1.size : Int) ≤ 200 then (if a0_0 = true then (some true) else (some (a0_1.toList == ([] : List UInt8)))) else (some false)
set_option maxHeartbeats 8000000 in
set_option maxRecDepth 100000 in
theorem seneschalref04_slot.calls (a0_0 : Bool) (a0_1 : ByteArray) (r : Bool) (w : World) (h : seneschalref04_slot.f a0_0 a0_1 = some r) :
  Calls Try.prog 105 #[.agg #[.bool a0_0, .string a0_1]] w fun e w' => e = .returned (.bool r) ∧ Below w.heap.size w w' := by
 have hu33 := Try.underlying33
 have HB := Aside0.mk (Below.refl w.heap.size w)
 have H : (if (a0_1.size : Int) ≤ 200 then (if a0_0 = true then (some true) else (some (a0_1.toList == ([] : List UInt8)))) else (some false)) = some r := h
 clear h
 by_cases c2 : (a0_1.size : Int) ≤ 200
 ·rw [if_pos c2] at H
  have c2b0 : decide ((a0_1.size : Int) ≤ 200) = true := decide_eq_true c2
  have c2b1 : decide (a0_1.size ≤ 200) = true := decide_eq_true (by omega)
  clear c2
  by_cases c3 : a0_0 = true
  ·subst c3
   have H1 : (some true) = some r := by rw [if_pos rfl] at H; exact H
   clear H
   have H := H1
   clear H1
   obtain rfl := Option.some.inj H
   go_enter Try.func105, Try.ntmps105
   go_wp2_with (first | ((with_reducible refine gate_dst (N := 1) rfl ?_); refine box_event ?hg (N := 1) ?hd (cs := #[.bool true, .string a0_1]) (t := 33) ?hr ?_; (case hd => rfl); (case hg => rfl); (case hr => first | (go_simp; done) | (go_simp; rfl)); intro gb101 hg w4 hbox hb; have n0_ := Aside0.mk (below_step HB.out hb); have n1_ := Aside0.mk (hbox); have n2_ := Aside0.mk ((by rw [hg]; exact below_size HB.out : w.heap.size ≤ gb101)); have n3_ := Aside0.mk ((by rw [hg]; exact below_size HB.out : w.heap.size ≤ gb101)); clear HB; have HB := n0_; have BK101 := n1_; have GW101 := n2_; have GE101 := n3_; clear n0_ n1_ n2_ n3_; clear hb hbox hg; obtain ⟨hcz5_0, hcz5_1⟩ := cl2 (W := w4) BK101.out; obtain ⟨hfz5_0, hfz5_1⟩ := fr2 BK101.out))
   go_ret
   exact ⟨by first | rfl | (simp [errW_none, errW_some] <;> rfl) | (simp [*, errW_none, errW_some] <;> rfl), by repeat (first | (with_reducible first | exact HB.out | apply below_alloc | apply pw_below_drewN | apply below_drew1 | refine below_set ?_ GE101.out) | exact HB.out)⟩
  ·replace c3 := Bool.eq_false_iff.mpr c3
   subst c3
   have H1 : (some (a0_1.toList == ([] : List UInt8))) = some r := by rw [if_neg (show ¬ (false = true) by decide)] at H; exact H
   clear H
   have H := H1
   clear H1
   obtain rfl := Option.some.inj H
   go_enter Try.func105, Try.ntmps105
   go_wp2_with (first | ((with_reducible refine gate_dst (N := 1) rfl ?_); refine box_event ?hg (N := 1) ?hd (cs := #[.bool false, .string a0_1]) (t := 33) ?hr ?_; (case hd => rfl); (case hg => rfl); (case hr => first | (go_simp; done) | (go_simp; rfl)); intro gb101 hg w6 hbox hb; have n0_ := Aside0.mk (below_step HB.out hb); have n1_ := Aside0.mk (hbox); have n2_ := Aside0.mk ((by rw [hg]; exact below_size HB.out : w.heap.size ≤ gb101)); have n3_ := Aside0.mk ((by rw [hg]; exact below_size HB.out : w.heap.size ≤ gb101)); clear HB; have HB := n0_; have BK101 := n1_; have GW101 := n2_; have GE101 := n3_; clear n0_ n1_ n2_ n3_; clear hb hbox hg; obtain ⟨hcz7_0, hcz7_1⟩ := cl2 (W := w6) BK101.out; obtain ⟨hfz7_0, hfz7_1⟩ := fr2 BK101.out))
   go_ret
   exact ⟨by first | rfl | (simp [errW_none, errW_some] <;> rfl) | (simp [*, errW_none, errW_some] <;> rfl), by repeat (first | (with_reducible first | exact HB.out | apply below_alloc | apply pw_below_drewN | apply below_drew1 | refine below_set ?_ GE101.out) | exact HB.out)⟩
 ·rw [if_neg c2] at H
  have c2b0 : decide ((a0_1.size : Int) ≤ 200) = false := decide_eq_false c2
  have c2b1 : decide (a0_1.size ≤ 200) = false := decide_eq_false (by omega)
  clear c2
  obtain rfl := Option.some.inj H
  go_enter Try.func105, Try.ntmps105
  go_wp2_with (first | ((with_reducible refine gate_dst (N := 1) rfl ?_); refine box_event ?hg (N := 1) ?hd (cs := #[.bool a0_0, .string a0_1]) (t := 33) ?hr ?_; (case hd => rfl); (case hg => rfl); (case hr => first | (go_simp; done) | (go_simp; rfl)); intro gb101 hg w8 hbox hb; have n0_ := Aside0.mk (below_step HB.out hb); have n1_ := Aside0.mk (hbox); have n2_ := Aside0.mk ((by rw [hg]; exact below_size HB.out : w.heap.size ≤ gb101)); have n3_ := Aside0.mk ((by rw [hg]; exact below_size HB.out : w.heap.size ≤ gb101)); clear HB; have HB := n0_; have BK101 := n1_; have GW101 := n2_; have GE101 := n3_; clear n0_ n1_ n2_ n3_; clear hb hbox hg; obtain ⟨hcz9_0, hcz9_1⟩ := cl2 (W := w8) BK101.out; obtain ⟨hfz9_0, hfz9_1⟩ := fr2 BK101.out))
  go_ret
  exact ⟨by first | rfl | (simp [errW_none, errW_some] <;> rfl) | (simp [*, errW_none, errW_some] <;> rfl), by repeat (first | (with_reducible first | exact HB.out | apply below_alloc | apply pw_below_drewN | apply below_drew1 | refine below_set ?_ GE101.out) | exact HB.out)⟩
end Go.Proofs.Ytfjmnaobfbmllaa.M
namespace Go.Proofs.Ytfjmnaobfbmllaa.M
open Go.RowKit Go.Proofs.YtfjmnaobfbmllaaW.PrintWords Go.Proofs.YtfjmnaobfbmllaaW.PrintLast Go.Proofs.YtfjmnaobfbmllaaW.PrintMore
attribute [local go_sem] max2_int min2_int max_two min_two max_three min_three max_four min_four   -- for this text's walks alone
set_option linter.unusedVariables false
set_option linter.unusedSimpArgs false
attribute [local go_sem high] eqA33
mutual
def seneschalref04_Good.j0 : Nat → Bool → Int → Int → Int → Int → Int → Int → Int → Int → Bool → ByteArray → Bool → ByteArray → Int → Option (Bool)
 | 0, _, _, _, _, _, _, _, _, _, _, _, _, _, _ => none
 | k + 1, x29, x102000, x102001, x102002, x102003, x102004, x102005, x102006, x102007, x102008, x102009, x102010, x102011, x102012 => if x29 = true then (some false) else (if x102000 = 1 then (seneschalref04_Good.j1 k x102000 (x102000 == 1) x102000 x102001 x102002 x102003 x102004 x102005 x102006 x102007 x102008 x102009 x102010 x102011 x102012) else (seneschalref04_Good.j1 k x102000 (x102000 == 2) x102000 x102001 x102002 x102003 x102004 x102005 x102006 x102007 x102008 x102009 x102010 x102011 x102012))
def seneschalref04_Good.j1 : Nat → Int → Bool → Int → Int → Int → Int → Int → Int → Int → Int → Bool → ByteArray → Bool → ByteArray → Int → Option (Bool)
 | 0, _, _, _, _, _, _, _, _, _, _, _, _, _, _, _ => none
 | k + 1, x31, x32, x102000, x102001, x102002, x102003, x102004, x102005, x102006, x102007, x102008, x102009, x102010, x102011, x102012 => if x32 = true then (if x102006 < 0 then (some false) else (if x102006 > 1023 then (some false) else (if x102007 < 0 then (some false) else (if x102007 > 31 then (some false) else ((seneschalref04_slot.f x102008 x102009).bind fun t103 => (if t103 = true then ((seneschalref04_slot.f x102010 x102011).bind fun t104 => (if t104 = true then (if x102012 = 0 then (some true) else (if x102000 = 2 then (if x102012 > 0 then (some (decide (x102012 ≤ x102005))) else (some false)) else (some false))) else (some false))) else (some false))))))) else (if x31 = 3 then (if x102006 = 0 then (if x102007 = 0 then (if x102012 = 0 then (if (!x102008 && (x102009.toList == ([] : List UInt8))) = true then (some (!x102010 && (x102011.toList == ([] : List UInt8)))) else (some false)) else (some false)) else (some false)) else (some false)) else (if x31 = 4 then (if x102006 = 0 then (if x102007 = 0 then (if x102012 = 0 then (if (!x102008 && (x102009.toList == ([] : List UInt8))) = true then (some (!x102010 && (x102011.toList == ([] : List UInt8)))) else (some false)) else (some false)) else (some false)) else (some false)) else (some false)))
end
def seneschalref04_Good.f (k : Nat) (a0_0 : Int) (a0_1 : Int) (a0_2 : Int) (a0_3 : Int) (a0_4 : Int) (a0_5 : Int) (a0_6 : Int) (a0_7 : Int) (a0_8 : Bool) (a0_9 : ByteArray) (a0_10 : Bool) (a0_11 : ByteArray) (a0_12 : Int) : Option (Bool) := (refKnown4.f a0_1 a0_2 a0_3).bind fun t102 => (if t102 = true then (if a0_4 < 1 then (seneschalref04_Good.j0 k true a0_0 a0_1 a0_2 a0_3 a0_4 a0_5 a0_6 a0_7 a0_8 a0_9 a0_10 a0_11 a0_12) else (if a0_4 > 1099511627776 then (seneschalref04_Good.j0 k true a0_0 a0_1 a0_2 a0_3 a0_4 a0_5 a0_6 a0_7 a0_8 a0_9 a0_10 a0_11 a0_12) else (if a0_5 < 0 then (seneschalref04_Good.j0 k true a0_0 a0_1 a0_2 a0_3 a0_4 a0_5 a0_6 a0_7 a0_8 a0_9 a0_10 a0_11 a0_12) else (seneschalref04_Good.j0 k (decide (a0_5 ≥ a0_4)) a0_0 a0_1 a0_2 a0_3 a0_4 a0_5 a0_6 a0_7 a0_8 a0_9 a0_10 a0_11 a0_12)))) else (seneschalref04_Good.j0 k true a0_0 a0_1 a0_2 a0_3 a0_4 a0_5 a0_6 a0_7 a0_8 a0_9 a0_10 a0_11 a0_12))
set_option maxHeartbeats 8000000 in
set_option maxRecDepth 100000 in
theorem seneschalref04_Good.calls (k : Nat) (a0_0 : Int) (a0_1 : Int) (a0_2 : Int) (a0_3 : Int) (a0_4 : Int) (a0_5 : Int) (a0_6 : Int) (a0_7 : Int) (a0_8 : Bool) (a0_9 : ByteArray) (a0_10 : Bool) (a0_11 : ByteArray) (a0_12 : Int) (r : Bool) (w : World) (h : seneschalref04_Good.f k a0_0 a0_1 a0_2 a0_3 a0_4 a0_5 a0_6 a0_7 a0_8 a0_9 a0_10 a0_11 a0_12 = some r) :
  Calls Try.prog 56 #[.agg #[.int .i64 a0_0, .int .i64 a0_1, .int .i64 a0_2, .int .i64 a0_3, .int .i64 a0_4, .int .i64 a0_5, .int .i64 a0_6, .int .i64 a0_7, .bool a0_8, .string a0_9, .bool a0_10, .string a0_11, .int .i64 a0_12]] w fun e w' => e = .returned (.bool r) ∧ Below w.heap.size w w' := by
 have hu65 := Try.underlying65
 have hu52 := Try.underlying52
 have hu33 := Try.underlying33
 have HB := Aside0.mk (Below.refl w.heap.size w)
 have H : ((refKnown4.f a0_1 a0_2 a0_3).bind fun t102 => (if t102 = true then (if a0_4 < 1 then (seneschalref04_Good.j0 k true a0_0 a0_1 a0_2 a0_3 a0_4 a0_5 a0_6 a0_7 a0_8 a0_9 a0_10 a0_11 a0_12) else (if a0_4 > 1099511627776 then (seneschalref04_Good.j0 k true a0_0 a0_1 a0_2 a0_3 a0_4 a0_5 a0_6 a0_7 a0_8 a0_9 a0_10 a0_11 a0_12) else (if a0_5 < 0 then (seneschalref04_Good.j0 k true a0_0 a0_1 a0_2 a0_3 a0_4 a0_5 a0_6 a0_7 a0_8 a0_9 a0_10 a0_11 a0_12) else (seneschalref04_Good.j0 k (decide (a0_5 ≥ a0_4)) a0_0 a0_1 a0_2 a0_3 a0_4 a0_5 a0_6 a0_7 a0_8 a0_9 a0_10 a0_11 a0_12)))) else (seneschalref04_Good.j0 k true a0_0 a0_1 a0_2 a0_3 a0_4 a0_5 a0_6 a0_7 a0_8 a0_9 a0_10 a0_11 a0_12))) = some r := h
 clear h
 have HC2 := Aside0.mk H
 clear H
 go_enter Try.func56, Try.ntmps56
 go_upto_region 1 with (first | ((with_reducible refine gate_dst (N := 1) rfl ?_); refine box_event ?hg (N := 1) ?hd (cs := #[.int .i64 a0_0, .int .i64 a0_1, .int .i64 a0_2, .int .i64 a0_3, .int .i64 a0_4, .int .i64 a0_5, .int .i64 a0_6, .int .i64 a0_7, .bool a0_8, .string a0_9, .bool a0_10, .string a0_11, .int .i64 a0_12]) (t := 65) ?hr ?_; (case hd => rfl); (case hg => rfl); (case hr => first | (go_simp; done) | (go_simp; rfl)); intro gb101 hg w3 hbox hb; have n0_ := Aside0.mk (below_step HB.out hb); have n1_ := Aside0.mk (hbox); have n2_ := Aside0.mk ((by rw [hg]; exact below_size HB.out : w.heap.size ≤ gb101)); have n3_ := Aside0.mk ((by rw [hg]; exact below_size HB.out : w.heap.size ≤ gb101)); clear HB; have HB := n0_; have BK101 := n1_; have GW101 := n2_; have GE101 := n3_; clear n0_ n1_ n2_ n3_; clear hb hbox hg))
 (try simp only [Act.put, List.setIfInBounds_toArray, List.set_cons_zero, List.set_cons_succ])
 go_cut [29] (fun v29 wc => ∃ (kq : Nat) (x29_1 : Bool), v29 = .bool x29_1 ∧ Aside0 (seneschalref04_Good.j0 kq x29_1 a0_0 a0_1 a0_2 a0_3 a0_4 a0_5 a0_6 a0_7 a0_8 a0_9 a0_10 a0_11 a0_12 = some r) ∧ Aside0 (kq ≤ k) ∧ Aside0 (wc.heap[gb101]? = some (.cells #[.int .i64 a0_0, .int .i64 a0_1, .int .i64 a0_2, .int .i64 a0_3, .int .i64 a0_4, .int .i64 a0_5, .int .i64 a0_6, .int .i64 a0_7, .bool a0_8, .string a0_9, .bool a0_10, .string a0_11, .int .i64 a0_12] 65 (0, 0))) ∧ Aside0 (Below w.heap.size w wc))
 case first =>
  have H := HC2.out
  clear HC2
  replace H := Option.bind_eq_some_iff.mp H
  obtain ⟨t102, A40, H⟩ := H
  replace H : (if t102 = true then (if a0_4 < 1 then (seneschalref04_Good.j0 k true a0_0 a0_1 a0_2 a0_3 a0_4 a0_5 a0_6 a0_7 a0_8 a0_9 a0_10 a0_11 a0_12) else (if a0_4 > 1099511627776 then (seneschalref04_Good.j0 k true a0_0 a0_1 a0_2 a0_3 a0_4 a0_5 a0_6 a0_7 a0_8 a0_9 a0_10 a0_11 a0_12) else (if a0_5 < 0 then (seneschalref04_Good.j0 k true a0_0 a0_1 a0_2 a0_3 a0_4 a0_5 a0_6 a0_7 a0_8 a0_9 a0_10 a0_11 a0_12) else (seneschalref04_Good.j0 k (decide (a0_5 ≥ a0_4)) a0_0 a0_1 a0_2 a0_3 a0_4 a0_5 a0_6 a0_7 a0_8 a0_9 a0_10 a0_11 a0_12)))) else (seneschalref04_Good.j0 k true a0_0 a0_1 a0_2 a0_3 a0_4 a0_5 a0_6 a0_7 a0_8 a0_9 a0_10 a0_11 a0_12)) = some r := H
  have A4 := Aside0.mk A40
  clear A40
  by_cases c5 : t102 = true
  ·subst c5
   have H1 : (if a0_4 < 1 then (seneschalref04_Good.j0 k true a0_0 a0_1 a0_2 a0_3 a0_4 a0_5 a0_6 a0_7 a0_8 a0_9 a0_10 a0_11 a0_12) else (if a0_4 > 1099511627776 then (seneschalref04_Good.j0 k true a0_0 a0_1 a0_2 a0_3 a0_4 a0_5 a0_6 a0_7 a0_8 a0_9 a0_10 a0_11 a0_12) else (if a0_5 < 0 then (seneschalref04_Good.j0 k true a0_0 a0_1 a0_2 a0_3 a0_4 a0_5 a0_6 a0_7 a0_8 a0_9 a0_10 a0_11 a0_12) else (seneschalref04_Good.j0 k (decide (a0_5 ≥ a0_4)) a0_0 a0_1 a0_2 a0_3 a0_4 a0_5 a0_6 a0_7 a0_8 a0_9 a0_10 a0_11 a0_12)))) = some r := by rw [if_pos rfl] at H; exact H
   clear H
   have H := H1
   clear H1
   by_cases c6 : a0_4 < 1
   ·rw [if_pos c6] at H
    have c6b0 : decide (a0_4 < 1) = true := decide_eq_true c6
    clear c6
    (first | rw [c6b0] | (simp only [i64_w, i32_w]; rw [c6b0]) | skip)
    have H' := Aside0.mk H
    clear H
    obtain ⟨hcz7_0, hcz7_1, hcz7_2, hcz7_3, hcz7_4, hcz7_5, hcz7_6, hcz7_7, hcz7_8, hcz7_9, hcz7_10, hcz7_11, hcz7_12⟩ := cl13 (W := w3) BK101.out
    obtain ⟨hfz7_0, hfz7_1, hfz7_2, hfz7_3, hfz7_4, hfz7_5, hfz7_6, hfz7_7, hfz7_8, hfz7_9, hfz7_10, hfz7_11, hfz7_12⟩ := fr13 BK101.out
    go_wp2_with (first | ((with_reducible refine gate_callee (f := 60) rfl ?_); refine goesL_ (some 6) rfl rfl Try.func60 (by kernel_rfl) rfl #[.agg #[.int .i64 a0_1, .int .i64 a0_2, .int .i64 a0_3]] rfl (by (try simp only [List.map_toArray, List.map_cons, List.map_nil]); first | done | rfl | (simp only [List.length_drop, List.length_take]; rfl)) ?_; (with_reducible refine (refKnown4.calls a0_1 a0_2 a0_3 true _ A4.out).mono ?_); rintro e w8 ⟨rfl, hb⟩; refine ⟨_, rfl, ?_⟩; have n0_ := Aside0.mk (blk_below BK101.out hb); have n1_ := Aside0.mk (below_step HB.out hb); clear BK101; clear HB; have BK101 := n0_; have HB := n1_; clear n0_ n1_; (try clear hb); (try clear hb2); (try clear hk); (try clear hi); obtain ⟨hcz9_0, hcz9_1, hcz9_2, hcz9_3, hcz9_4, hcz9_5, hcz9_6, hcz9_7, hcz9_8, hcz9_9, hcz9_10, hcz9_11, hcz9_12⟩ := cl13 (W := w8) BK101.out; obtain ⟨hfz9_0, hfz9_1, hfz9_2, hfz9_3, hfz9_4, hfz9_5, hfz9_6, hfz9_7, hfz9_8, hfz9_9, hfz9_10, hfz9_11, hfz9_12⟩ := fr13 BK101.out))
    go_meet
    case rel => exact ⟨_, (true), (by first | rfl | (simp; done) | (simp [*]; done)), H', ⟨by first | omega | exact Nat.le_refl _⟩, ⟨by (with_reducible repeat (first | refine blk_drewN ?_ _ | refine blk_drew ?_ | refine blk_alloc ?_ _)); exact BK101.out⟩, ⟨by repeat (first | (with_reducible first | exact HB.out | apply below_alloc | apply pw_below_drewN | apply below_drew1 | refine below_set ?_ GE101.out) | exact HB.out)⟩⟩
   ·rw [if_neg c6] at H
    have c6b0 : decide (a0_4 < 1) = false := decide_eq_false c6
    clear c6
    (first | rw [c6b0] | (simp only [i64_w, i32_w]; rw [c6b0]) | skip)
    by_cases c10 : a0_4 > 1099511627776
    ·rw [if_pos c10] at H
     have c10b0 : decide (1099511627776 < a0_4) = true := decide_eq_true c10
     clear c10
     have H' := Aside0.mk H
     clear H
     obtain ⟨hcz11_0, hcz11_1, hcz11_2, hcz11_3, hcz11_4, hcz11_5, hcz11_6, hcz11_7, hcz11_8, hcz11_9, hcz11_10, hcz11_11, hcz11_12⟩ := cl13 (W := w3) BK101.out
     obtain ⟨hfz11_0, hfz11_1, hfz11_2, hfz11_3, hfz11_4, hfz11_5, hfz11_6, hfz11_7, hfz11_8, hfz11_9, hfz11_10, hfz11_11, hfz11_12⟩ := fr13 BK101.out
     go_wp2_with (first | ((with_reducible refine gate_callee (f := 60) rfl ?_); refine goesL_ (some 6) rfl rfl Try.func60 (by kernel_rfl) rfl #[.agg #[.int .i64 a0_1, .int .i64 a0_2, .int .i64 a0_3]] rfl (by (try simp only [List.map_toArray, List.map_cons, List.map_nil]); first | done | rfl | (simp only [List.length_drop, List.length_take]; rfl)) ?_; (with_reducible refine (refKnown4.calls a0_1 a0_2 a0_3 true _ A4.out).mono ?_); rintro e w12 ⟨rfl, hb⟩; refine ⟨_, rfl, ?_⟩; have n0_ := Aside0.mk (blk_below BK101.out hb); have n1_ := Aside0.mk (below_step HB.out hb); clear BK101; clear HB; have BK101 := n0_; have HB := n1_; clear n0_ n1_; (try clear hb); (try clear hb2); (try clear hk); (try clear hi); obtain ⟨hcz13_0, hcz13_1, hcz13_2, hcz13_3, hcz13_4, hcz13_5, hcz13_6, hcz13_7, hcz13_8, hcz13_9, hcz13_10, hcz13_11, hcz13_12⟩ := cl13 (W := w12) BK101.out; obtain ⟨hfz13_0, hfz13_1, hfz13_2, hfz13_3, hfz13_4, hfz13_5, hfz13_6, hfz13_7, hfz13_8, hfz13_9, hfz13_10, hfz13_11, hfz13_12⟩ := fr13 BK101.out))
     go_meet
     case rel => exact ⟨_, (true), (by first | rfl | (simp; done) | (simp [*]; done)), H', ⟨by first | omega | exact Nat.le_refl _⟩, ⟨by (with_reducible repeat (first | refine blk_drewN ?_ _ | refine blk_drew ?_ | refine blk_alloc ?_ _)); exact BK101.out⟩, ⟨by repeat (first | (with_reducible first | exact HB.out | apply below_alloc | apply pw_below_drewN | apply below_drew1 | refine below_set ?_ GE101.out) | exact HB.out)⟩⟩
    ·rw [if_neg c10] at H
     have c10b0 : decide (1099511627776 < a0_4) = false := decide_eq_false c10
     clear c10
     by_cases c14 : a0_5 < 0
     ·rw [if_pos c14] at H
      have c14b0 : decide (a0_5 < 0) = true := decide_eq_true c14
      clear c14
      have H' := Aside0.mk H
      clear H
      obtain ⟨hcz15_0, hcz15_1, hcz15_2, hcz15_3, hcz15_4, hcz15_5, hcz15_6, hcz15_7, hcz15_8, hcz15_9, hcz15_10, hcz15_11, hcz15_12⟩ := cl13 (W := w3) BK101.out
      obtain ⟨hfz15_0, hfz15_1, hfz15_2, hfz15_3, hfz15_4, hfz15_5, hfz15_6, hfz15_7, hfz15_8, hfz15_9, hfz15_10, hfz15_11, hfz15_12⟩ := fr13 BK101.out
      go_wp2_with (first | ((with_reducible refine gate_callee (f := 60) rfl ?_); refine goesL_ (some 6) rfl rfl Try.func60 (by kernel_rfl) rfl #[.agg #[.int .i64 a0_1, .int .i64 a0_2, .int .i64 a0_3]] rfl (by (try simp only [List.map_toArray, List.map_cons, List.map_nil]); first | done | rfl | (simp only [List.length_drop, List.length_take]; rfl)) ?_; (with_reducible refine (refKnown4.calls a0_1 a0_2 a0_3 true _ A4.out).mono ?_); rintro e w16 ⟨rfl, hb⟩; refine ⟨_, rfl, ?_⟩; have n0_ := Aside0.mk (blk_below BK101.out hb); have n1_ := Aside0.mk (below_step HB.out hb); clear BK101; clear HB; have BK101 := n0_; have HB := n1_; clear n0_ n1_; (try clear hb); (try clear hb2); (try clear hk); (try clear hi); obtain ⟨hcz17_0, hcz17_1, hcz17_2, hcz17_3, hcz17_4, hcz17_5, hcz17_6, hcz17_7, hcz17_8, hcz17_9, hcz17_10, hcz17_11, hcz17_12⟩ := cl13 (W := w16) BK101.out; obtain ⟨hfz17_0, hfz17_1, hfz17_2, hfz17_3, hfz17_4, hfz17_5, hfz17_6, hfz17_7, hfz17_8, hfz17_9, hfz17_10, hfz17_11, hfz17_12⟩ := fr13 BK101.out))
      go_meet
      case rel => exact ⟨_, (true), (by first | rfl | (simp; done) | (simp [*]; done)), H', ⟨by first | omega | exact Nat.le_refl _⟩, ⟨by (with_reducible repeat (first | refine blk_drewN ?_ _ | refine blk_drew ?_ | refine blk_alloc ?_ _)); exact BK101.out⟩, ⟨by repeat (first | (with_reducible first | exact HB.out | apply below_alloc | apply pw_below_drewN | apply below_drew1 | refine below_set ?_ GE101.out) | exact HB.out)⟩⟩
     ·rw [if_neg c14] at H
      have c14b0 : decide (a0_5 < 0) = false := decide_eq_false c14
      clear c14
      have H' := Aside0.mk H
      clear H
      obtain ⟨hcz18_0, hcz18_1, hcz18_2, hcz18_3, hcz18_4, hcz18_5, hcz18_6, hcz18_7, hcz18_8, hcz18_9, hcz18_10, hcz18_11, hcz18_12⟩ := cl13 (W := w3) BK101.out
      obtain ⟨hfz18_0, hfz18_1, hfz18_2, hfz18_3, hfz18_4, hfz18_5, hfz18_6, hfz18_7, hfz18_8, hfz18_9, hfz18_10, hfz18_11, hfz18_12⟩ := fr13 BK101.out
      go_wp2_with (first | ((with_reducible refine gate_callee (f := 60) rfl ?_); refine goesL_ (some 6) rfl rfl Try.func60 (by kernel_rfl) rfl #[.agg #[.int .i64 a0_1, .int .i64 a0_2, .int .i64 a0_3]] rfl (by (try simp only [List.map_toArray, List.map_cons, List.map_nil]); first | done | rfl | (simp only [List.length_drop, List.length_take]; rfl)) ?_; (with_reducible refine (refKnown4.calls a0_1 a0_2 a0_3 true _ A4.out).mono ?_); rintro e w19 ⟨rfl, hb⟩; refine ⟨_, rfl, ?_⟩; have n0_ := Aside0.mk (blk_below BK101.out hb); have n1_ := Aside0.mk (below_step HB.out hb); clear BK101; clear HB; have BK101 := n0_; have HB := n1_; clear n0_ n1_; (try clear hb); (try clear hb2); (try clear hk); (try clear hi); obtain ⟨hcz20_0, hcz20_1, hcz20_2, hcz20_3, hcz20_4, hcz20_5, hcz20_6, hcz20_7, hcz20_8, hcz20_9, hcz20_10, hcz20_11, hcz20_12⟩ := cl13 (W := w19) BK101.out; obtain ⟨hfz20_0, hfz20_1, hfz20_2, hfz20_3, hfz20_4, hfz20_5, hfz20_6, hfz20_7, hfz20_8, hfz20_9, hfz20_10, hfz20_11, hfz20_12⟩ := fr13 BK101.out))
      go_meet
      case rel => exact ⟨_, (decide (a0_5 ≥ a0_4)), (by first | rfl | (simp; done) | (simp [*]; done)), H', ⟨by first | omega | exact Nat.le_refl _⟩, ⟨by (with_reducible repeat (first | refine blk_drewN ?_ _ | refine blk_drew ?_ | refine blk_alloc ?_ _)); exact BK101.out⟩, ⟨by repeat (first | (with_reducible first | exact HB.out | apply below_alloc | apply pw_below_drewN | apply below_drew1 | refine below_set ?_ GE101.out) | exact HB.out)⟩⟩
  ·replace c5 := Bool.eq_false_iff.mpr c5
   subst c5
   have H1 : (seneschalref04_Good.j0 k true a0_0 a0_1 a0_2 a0_3 a0_4 a0_5 a0_6 a0_7 a0_8 a0_9 a0_10 a0_11 a0_12) = some r := by rw [if_neg (show ¬ (false = true) by decide)] at H; exact H
   clear H
   have H := H1
   clear H1
   have H' := Aside0.mk H
   clear H
   obtain ⟨hcz21_0, hcz21_1, hcz21_2, hcz21_3, hcz21_4, hcz21_5, hcz21_6, hcz21_7, hcz21_8, hcz21_9, hcz21_10, hcz21_11, hcz21_12⟩ := cl13 (W := w3) BK101.out
   obtain ⟨hfz21_0, hfz21_1, hfz21_2, hfz21_3, hfz21_4, hfz21_5, hfz21_6, hfz21_7, hfz21_8, hfz21_9, hfz21_10, hfz21_11, hfz21_12⟩ := fr13 BK101.out
   go_wp2_with (first | ((with_reducible refine gate_callee (f := 60) rfl ?_); refine goesL_ (some 6) rfl rfl Try.func60 (by kernel_rfl) rfl #[.agg #[.int .i64 a0_1, .int .i64 a0_2, .int .i64 a0_3]] rfl (by (try simp only [List.map_toArray, List.map_cons, List.map_nil]); first | done | rfl | (simp only [List.length_drop, List.length_take]; rfl)) ?_; (with_reducible refine (refKnown4.calls a0_1 a0_2 a0_3 false _ A4.out).mono ?_); rintro e w22 ⟨rfl, hb⟩; refine ⟨_, rfl, ?_⟩; have n0_ := Aside0.mk (blk_below BK101.out hb); have n1_ := Aside0.mk (below_step HB.out hb); clear BK101; clear HB; have BK101 := n0_; have HB := n1_; clear n0_ n1_; (try clear hb); (try clear hb2); (try clear hk); (try clear hi)))
   go_meet
   case rel => exact ⟨_, (true), (by first | rfl | (simp; done) | (simp [*]; done)), H', ⟨by first | omega | exact Nat.le_refl _⟩, ⟨by (with_reducible repeat (first | refine blk_drewN ?_ _ | refine blk_drew ?_ | refine blk_alloc ?_ _)); exact BK101.out⟩, ⟨by repeat (first | (with_reducible first | exact HB.out | apply below_alloc | apply pw_below_drewN | apply below_drew1 | refine below_set ?_ GE101.out) | exact HB.out)⟩⟩
 case rest =>
  clear HC2
  try clear c1
  try clear p2
  try clear c5
  try clear c6
  try clear c6b0
  try clear c10
  try clear c10b0
  try clear c14
  try clear c14b0
  try clear hcz11_0
  try clear hcz11_1
  try clear hcz11_10
  try clear hcz11_11
  try clear hcz11_12
  try clear hcz11_2
  try clear hcz11_3
  try clear hcz11_4
  try clear hcz11_5
  try clear hcz11_6
  try clear hcz11_7
  try clear hcz11_8
  try clear hcz11_9
  try clear hcz13_0
  try clear hcz13_1
  try clear hcz13_10
  try clear hcz13_11
  try clear hcz13_12
  try clear hcz13_2
  try clear hcz13_3
  try clear hcz13_4
  try clear hcz13_5
  try clear hcz13_6
  try clear hcz13_7
  try clear hcz13_8
  try clear hcz13_9
  try clear hcz15_0
  try clear hcz15_1
  try clear hcz15_10
  try clear hcz15_11
  try clear hcz15_12
  try clear hcz15_2
  try clear hcz15_3
  try clear hcz15_4
  try clear hcz15_5
  try clear hcz15_6
  try clear hcz15_7
  try clear hcz15_8
  try clear hcz15_9
  try clear hcz17_0
  try clear hcz17_1
  try clear hcz17_10
  try clear hcz17_11
  try clear hcz17_12
  try clear hcz17_2
  try clear hcz17_3
  try clear hcz17_4
  try clear hcz17_5
  try clear hcz17_6
  try clear hcz17_7
  try clear hcz17_8
  try clear hcz17_9
  try clear hcz18_0
  try clear hcz18_1
  try clear hcz18_10
  try clear hcz18_11
  try clear hcz18_12
  try clear hcz18_2
  try clear hcz18_3
  try clear hcz18_4
  try clear hcz18_5
  try clear hcz18_6
  try clear hcz18_7
  try clear hcz18_8
  try clear hcz18_9
  try clear hcz20_0
  try clear hcz20_1
  try clear hcz20_10
  try clear hcz20_11
  try clear hcz20_12
  try clear hcz20_2
  try clear hcz20_3
  try clear hcz20_4
  try clear hcz20_5
  try clear hcz20_6
  try clear hcz20_7
  try clear hcz20_8
  try clear hcz20_9
  try clear hcz21_0
  try clear hcz21_1
  try clear hcz21_10
  try clear hcz21_11
  try clear hcz21_12
  try clear hcz21_2
  try clear hcz21_3
  try clear hcz21_4
  try clear hcz21_5
  try clear hcz21_6
  try clear hcz21_7
  try clear hcz21_8
  try clear hcz21_9
  try clear hcz7_0
  try clear hcz7_1
  try clear hcz7_10
  try clear hcz7_11
  try clear hcz7_12
  try clear hcz7_2
  try clear hcz7_3
  try clear hcz7_4
  try clear hcz7_5
  try clear hcz7_6
  try clear hcz7_7
  try clear hcz7_8
  try clear hcz7_9
  try clear hcz9_0
  try clear hcz9_1
  try clear hcz9_10
  try clear hcz9_11
  try clear hcz9_12
  try clear hcz9_2
  try clear hcz9_3
  try clear hcz9_4
  try clear hcz9_5
  try clear hcz9_6
  try clear hcz9_7
  try clear hcz9_8
  try clear hcz9_9
  try clear hfz11_0
  try clear hfz11_1
  try clear hfz11_10
  try clear hfz11_11
  try clear hfz11_12
  try clear hfz11_2
  try clear hfz11_3
  try clear hfz11_4
  try clear hfz11_5
  try clear hfz11_6
  try clear hfz11_7
  try clear hfz11_8
  try clear hfz11_9
  try clear hfz13_0
  try clear hfz13_1
  try clear hfz13_10
  try clear hfz13_11
  try clear hfz13_12
  try clear hfz13_2
  try clear hfz13_3
  try clear hfz13_4
  try clear hfz13_5
  try clear hfz13_6
  try clear hfz13_7
  try clear hfz13_8
  try clear hfz13_9
  try clear hfz15_0
  try clear hfz15_1
  try clear hfz15_10
  try clear hfz15_11
  try clear hfz15_12
  try clear hfz15_2
  try clear hfz15_3
  try clear hfz15_4
  try clear hfz15_5
  try clear hfz15_6
  try clear hfz15_7
  try clear hfz15_8
  try clear hfz15_9
  try clear hfz17_0
  try clear hfz17_1
  try clear hfz17_10
  try clear hfz17_11
  try clear hfz17_12
  try clear hfz17_2
  try clear hfz17_3
  try clear hfz17_4
  try clear hfz17_5
  try clear hfz17_6
  try clear hfz17_7
  try clear hfz17_8
  try clear hfz17_9
  try clear hfz18_0
  try clear hfz18_1
  try clear hfz18_10
  try clear hfz18_11
  try clear hfz18_12
  try clear hfz18_2
  try clear hfz18_3
  try clear hfz18_4
  try clear hfz18_5
  try clear hfz18_6
  try clear hfz18_7
  try clear hfz18_8
  try clear hfz18_9
  try clear hfz20_0
  try clear hfz20_1
  try clear hfz20_10
  try clear hfz20_11
  try clear hfz20_12
  try clear hfz20_2
  try clear hfz20_3
  try clear hfz20_4
  try clear hfz20_5
  try clear hfz20_6
  try clear hfz20_7
  try clear hfz20_8
  try clear hfz20_9
  try clear hfz21_0
  try clear hfz21_1
  try clear hfz21_10
  try clear hfz21_11
  try clear hfz21_12
  try clear hfz21_2
  try clear hfz21_3
  try clear hfz21_4
  try clear hfz21_5
  try clear hfz21_6
  try clear hfz21_7
  try clear hfz21_8
  try clear hfz21_9
  try clear hfz7_0
  try clear hfz7_1
  try clear hfz7_10
  try clear hfz7_11
  try clear hfz7_12
  try clear hfz7_2
  try clear hfz7_3
  try clear hfz7_4
  try clear hfz7_5
  try clear hfz7_6
  try clear hfz7_7
  try clear hfz7_8
  try clear hfz7_9
  try clear hfz9_0
  try clear hfz9_1
  try clear hfz9_10
  try clear hfz9_11
  try clear hfz9_12
  try clear hfz9_2
  try clear hfz9_3
  try clear hfz9_4
  try clear hfz9_5
  try clear hfz9_6
  try clear hfz9_7
  try clear hfz9_8
  try clear hfz9_9
  obtain ⟨kq, x29_1, rfl, HA, HJ1, BK101, HB⟩ := hcut
  cases kq with
  | zero => exact absurd HA.out (by simp [seneschalref04_Good.j0])
  | succ kj1 =>
   have H := HA.out
   clear HA
   simp only [seneschalref04_Good.j0] at H
   by_cases c23 : x29_1 = true
   ·subst c23
    have H1 : (some false) = some r := by rw [if_pos rfl] at H; exact H
    clear H
    have H := H1
    clear H1
    obtain rfl := Option.some.inj H
    go_wp2
    go_ret
    exact ⟨by first | rfl | (simp [errW_none, errW_some] <;> rfl) | (simp [*, errW_none, errW_some] <;> rfl), by repeat (first | (with_reducible first | exact HB.out | apply below_alloc | apply pw_below_drewN | apply below_drew1 | refine below_set ?_ GE101.out) | exact HB.out)⟩
   ·replace c23 := Bool.eq_false_iff.mpr c23
    subst c23
    have H1 : (if a0_0 = 1 then (seneschalref04_Good.j1 kj1 a0_0 (a0_0 == 1) a0_0 a0_1 a0_2 a0_3 a0_4 a0_5 a0_6 a0_7 a0_8 a0_9 a0_10 a0_11 a0_12) else (seneschalref04_Good.j1 kj1 a0_0 (a0_0 == 2) a0_0 a0_1 a0_2 a0_3 a0_4 a0_5 a0_6 a0_7 a0_8 a0_9 a0_10 a0_11 a0_12)) = some r := by rw [if_neg (show ¬ (false = true) by decide)] at H; exact H
    clear H
    have H := H1
    clear H1
    have HC24 := Aside0.mk H
    clear H
    obtain ⟨hcz25_0, hcz25_1, hcz25_2, hcz25_3, hcz25_4, hcz25_5, hcz25_6, hcz25_7, hcz25_8, hcz25_9, hcz25_10, hcz25_11, hcz25_12⟩ := cl13 (W := wc) BK101.out
    obtain ⟨hfz25_0, hfz25_1, hfz25_2, hfz25_3, hfz25_4, hfz25_5, hfz25_6, hfz25_7, hfz25_8, hfz25_9, hfz25_10, hfz25_11, hfz25_12⟩ := fr13 BK101.out
    go_upto_if 32 with (fail)
    go_cut [32] (fun v32 wc => ∃ (kq : Nat) (x32_23 : Bool), v32 = .bool x32_23 ∧ Aside0 (seneschalref04_Good.j1 kq a0_0 x32_23 a0_0 a0_1 a0_2 a0_3 a0_4 a0_5 a0_6 a0_7 a0_8 a0_9 a0_10 a0_11 a0_12 = some r) ∧ Aside0 (kq ≤ kj1) ∧ Aside0 (wc.heap[gb101]? = some (.cells #[.int .i64 a0_0, .int .i64 a0_1, .int .i64 a0_2, .int .i64 a0_3, .int .i64 a0_4, .int .i64 a0_5, .int .i64 a0_6, .int .i64 a0_7, .bool a0_8, .string a0_9, .bool a0_10, .string a0_11, .int .i64 a0_12] 65 (0, 0))) ∧ Aside0 (Below w.heap.size w wc))
    case first =>
     have H := HC24.out
     clear HC24
     by_cases c26 : a0_0 = 1
     ·rw [if_pos c26] at H
      have c26b0 : (a0_0 == 1) = true := beq_iff_eq.mpr c26
      have c26b1 : (a0_0 != 1) = false := bne_eq_false_iff_eq.mpr c26
      clear c26
      (first | rw [c26b0] | (simp only [i64_w, i32_w]; rw [c26b0]) | skip)
      have H' := Aside0.mk H
      clear H
      go_wp2
      go_meet
      case rel => exact ⟨_, ((a0_0 == 1)), (by first | rfl | (simp; done) | (simp [*]; done)), H', ⟨by have := HJ1.out; first | omega | exact Nat.le_refl _⟩, ⟨by (with_reducible repeat (first | refine blk_drewN ?_ _ | refine blk_drew ?_ | refine blk_alloc ?_ _)); exact BK101.out⟩, ⟨by repeat (first | (with_reducible first | exact HB.out | apply below_alloc | apply pw_below_drewN | apply below_drew1 | refine below_set ?_ GE101.out) | exact HB.out)⟩⟩
     ·rw [if_neg c26] at H
      have c26b0 : (a0_0 == 1) = false := beq_eq_false_iff_ne.mpr c26
      have c26b1 : (a0_0 != 1) = true := bne_iff_ne.mpr c26
      (first | rw [c26b0] | (simp only [i64_w, i32_w]; rw [c26b0]) | skip)
      have H' := Aside0.mk H
      clear H
      go_wp2
      go_meet
      case rel => exact ⟨_, ((a0_0 == 2)), (by first | rfl | (simp; done) | (simp [*]; done)), H', ⟨by have := HJ1.out; first | omega | exact Nat.le_refl _⟩, ⟨by (with_reducible repeat (first | refine blk_drewN ?_ _ | refine blk_drew ?_ | refine blk_alloc ?_ _)); exact BK101.out⟩, ⟨by repeat (first | (with_reducible first | exact HB.out | apply below_alloc | apply pw_below_drewN | apply below_drew1 | refine below_set ?_ GE101.out) | exact HB.out)⟩⟩
    case rest =>
     clear HC24
     try clear c1
     try clear c2
     try clear p2
     try clear c5
     try clear c6
     try clear c6b0
     try clear c10
     try clear c10b0
     try clear c14
     try clear c14b0
     try clear c23
     try clear c26
     try clear c26b0
     try clear c26b1
     try clear hcz11_0
     try clear hcz11_1
     try clear hcz11_10
     try clear hcz11_11
     try clear hcz11_12
     try clear hcz11_2
     try clear hcz11_3
     try clear hcz11_4
     try clear hcz11_5
     try clear hcz11_6
     try clear hcz11_7
     try clear hcz11_8
     try clear hcz11_9
     try clear hcz13_0
     try clear hcz13_1
     try clear hcz13_10
     try clear hcz13_11
     try clear hcz13_12
     try clear hcz13_2
     try clear hcz13_3
     try clear hcz13_4
     try clear hcz13_5
     try clear hcz13_6
     try clear hcz13_7
     try clear hcz13_8
     try clear hcz13_9
     try clear hcz15_0
     try clear hcz15_1
     try clear hcz15_10
     try clear hcz15_11
     try clear hcz15_12
     try clear hcz15_2
     try clear hcz15_3
     try clear hcz15_4
     try clear hcz15_5
     try clear hcz15_6
     try clear hcz15_7
     try clear hcz15_8
     try clear hcz15_9
     try clear hcz17_0
     try clear hcz17_1
     try clear hcz17_10
     try clear hcz17_11
     try clear hcz17_12
     try clear hcz17_2
     try clear hcz17_3
     try clear hcz17_4
     try clear hcz17_5
     try clear hcz17_6
     try clear hcz17_7
     try clear hcz17_8
     try clear hcz17_9
     try clear hcz18_0
     try clear hcz18_1
     try clear hcz18_10
     try clear hcz18_11
     try clear hcz18_12
     try clear hcz18_2
     try clear hcz18_3
     try clear hcz18_4
     try clear hcz18_5
     try clear hcz18_6
     try clear hcz18_7
     try clear hcz18_8
     try clear hcz18_9
     try clear hcz20_0
     try clear hcz20_1
     try clear hcz20_10
     try clear hcz20_11
     try clear hcz20_12
     try clear hcz20_2
     try clear hcz20_3
     try clear hcz20_4
     try clear hcz20_5
     try clear hcz20_6
     try clear hcz20_7
     try clear hcz20_8
     try clear hcz20_9
     try clear hcz21_0
     try clear hcz21_1
     try clear hcz21_10
     try clear hcz21_11
     try clear hcz21_12
     try clear hcz21_2
     try clear hcz21_3
     try clear hcz21_4
     try clear hcz21_5
     try clear hcz21_6
     try clear hcz21_7
     try clear hcz21_8
     try clear hcz21_9
     try clear hcz25_0
     try clear hcz25_1
     try clear hcz25_10
     try clear hcz25_11
     try clear hcz25_12
     try clear hcz25_2
     try clear hcz25_3
     try clear hcz25_4
     try clear hcz25_5
     try clear hcz25_6
     try clear hcz25_7
     try clear hcz25_8
     try clear hcz25_9
     try clear hcz7_0
     try clear hcz7_1
     try clear hcz7_10
     try clear hcz7_11
     try clear hcz7_12
     try clear hcz7_2
     try clear hcz7_3
     try clear hcz7_4
     try clear hcz7_5
     try clear hcz7_6
     try clear hcz7_7
     try clear hcz7_8
     try clear hcz7_9
     try clear hcz9_0
     try clear hcz9_1
     try clear hcz9_10
     try clear hcz9_11
     try clear hcz9_12
     try clear hcz9_2
     try clear hcz9_3
     try clear hcz9_4
     try clear hcz9_5
     try clear hcz9_6
     try clear hcz9_7
     try clear hcz9_8
     try clear hcz9_9
     try clear hfz11_0
     try clear hfz11_1
     try clear hfz11_10
     try clear hfz11_11
     try clear hfz11_12
     try clear hfz11_2
     try clear hfz11_3
     try clear hfz11_4
     try clear hfz11_5
     try clear hfz11_6
     try clear hfz11_7
     try clear hfz11_8
     try clear hfz11_9
     try clear hfz13_0
     try clear hfz13_1
     try clear hfz13_10
     try clear hfz13_11
     try clear hfz13_12
     try clear hfz13_2
     try clear hfz13_3
     try clear hfz13_4
     try clear hfz13_5
     try clear hfz13_6
     try clear hfz13_7
     try clear hfz13_8
     try clear hfz13_9
     try clear hfz15_0
     try clear hfz15_1
     try clear hfz15_10
     try clear hfz15_11
     try clear hfz15_12
     try clear hfz15_2
     try clear hfz15_3
     try clear hfz15_4
     try clear hfz15_5
     try clear hfz15_6
     try clear hfz15_7
     try clear hfz15_8
     try clear hfz15_9
     try clear hfz17_0
     try clear hfz17_1
     try clear hfz17_10
     try clear hfz17_11
     try clear hfz17_12
     try clear hfz17_2
     try clear hfz17_3
     try clear hfz17_4
     try clear hfz17_5
     try clear hfz17_6
     try clear hfz17_7
     try clear hfz17_8
     try clear hfz17_9
     try clear hfz18_0
     try clear hfz18_1
     try clear hfz18_10
     try clear hfz18_11
     try clear hfz18_12
     try clear hfz18_2
     try clear hfz18_3
     try clear hfz18_4
     try clear hfz18_5
     try clear hfz18_6
     try clear hfz18_7
     try clear hfz18_8
     try clear hfz18_9
     try clear hfz20_0
     try clear hfz20_1
     try clear hfz20_10
     try clear hfz20_11
     try clear hfz20_12
     try clear hfz20_2
     try clear hfz20_3
     try clear hfz20_4
     try clear hfz20_5
     try clear hfz20_6
     try clear hfz20_7
     try clear hfz20_8
     try clear hfz20_9
     try clear hfz21_0
     try clear hfz21_1
     try clear hfz21_10
     try clear hfz21_11
     try clear hfz21_12
     try clear hfz21_2
     try clear hfz21_3
     try clear hfz21_4
     try clear hfz21_5
     try clear hfz21_6
     try clear hfz21_7
     try clear hfz21_8
     try clear hfz21_9
     try clear hfz25_0
     try clear hfz25_1
     try clear hfz25_10
     try clear hfz25_11
     try clear hfz25_12
     try clear hfz25_2
     try clear hfz25_3
     try clear hfz25_4
     try clear hfz25_5
     try clear hfz25_6
     try clear hfz25_7
     try clear hfz25_8
     try clear hfz25_9
     try clear hfz7_0
     try clear hfz7_1
     try clear hfz7_10
     try clear hfz7_11
     try clear hfz7_12
     try clear hfz7_2
     try clear hfz7_3
     try clear hfz7_4
     try clear hfz7_5
     try clear hfz7_6
     try clear hfz7_7
     try clear hfz7_8
     try clear hfz7_9
     try clear hfz9_0
     try clear hfz9_1
     try clear hfz9_10
     try clear hfz9_11
     try clear hfz9_12
     try clear hfz9_2
     try clear hfz9_3
     try clear hfz9_4
     try clear hfz9_5
     try clear hfz9_6
     try clear hfz9_7
     try clear hfz9_8
     try clear hfz9_9
     try clear p2
     obtain ⟨kq, x32_23, rfl, HA, HJ23, BK101, HB⟩ := hcut
     cases kq with
     | zero => exact absurd HA.out (by simp [seneschalref04_Good.j1])
     | succ kj23 =>
      have H := HA.out
      clear HA
      simp only [seneschalref04_Good.j1] at H
      by_cases c27 : x32_23 = true
      ·subst c27
       have H1 : (if a0_6 < 0 then (some false) else (if a0_6 > 1023 then (some false) else (if a0_7 < 0 then (some false) else (if a0_7 > 31 then (some false) else ((seneschalref04_slot.f a0_8 a0_9).bind fun t103 => (if t103 = true then ((seneschalref04_slot.f a0_10 a0_11).bind fun t104 => (if t104 = true then (if a0_12 = 0 then (some true) else (if a0_0 = 2 then (if a0_12 > 0 then (some (decide (a0_12 ≤ a0_5))) else (some false)) else (some false))) else (some false))) else (some false))))))) = some r := by rw [if_pos rfl] at H; exact H
       clear H
       have H := H1
       clear H1
       by_cases c28 : a0_6 < 0
       ·rw [if_pos c28] at H
        have c28b0 : decide (a0_6 < 0) = true := decide_eq_true c28
        clear c28
        obtain rfl := Option.some.inj H
        obtain ⟨hcz29_0, hcz29_1, hcz29_2, hcz29_3, hcz29_4, hcz29_5, hcz29_6, hcz29_7, hcz29_8, hcz29_9, hcz29_10, hcz29_11, hcz29_12⟩ := cl13 (W := wc) BK101.out
        obtain ⟨hfz29_0, hfz29_1, hfz29_2, hfz29_3, hfz29_4, hfz29_5, hfz29_6, hfz29_7, hfz29_8, hfz29_9, hfz29_10, hfz29_11, hfz29_12⟩ := fr13 BK101.out
        go_wp2
        go_ret
        exact ⟨by first | rfl | (simp [errW_none, errW_some] <;> rfl) | (simp [*, errW_none, errW_some] <;> rfl), by repeat (first | (with_reducible first | exact HB.out | apply below_alloc | apply pw_below_drewN | apply below_drew1 | refine below_set ?_ GE101.out) | exact HB.out)⟩
       ·rw [if_neg c28] at H
        have c28b0 : decide (a0_6 < 0) = false := decide_eq_false c28
        clear c28
        by_cases c30 : a0_6 > 1023
        ·rw [if_pos c30] at H
         have c30b0 : decide (1023 < a0_6) = true := decide_eq_true c30
         clear c30
         obtain rfl := Option.some.inj H
         obtain ⟨hcz31_0, hcz31_1, hcz31_2, hcz31_3, hcz31_4, hcz31_5, hcz31_6, hcz31_7, hcz31_8, hcz31_9, hcz31_10, hcz31_11, hcz31_12⟩ := cl13 (W := wc) BK101.out
         obtain ⟨hfz31_0, hfz31_1, hfz31_2, hfz31_3, hfz31_4, hfz31_5, hfz31_6, hfz31_7, hfz31_8, hfz31_9, hfz31_10, hfz31_11, hfz31_12⟩ := fr13 BK101.out
         go_wp2
         go_ret
         exact ⟨by first | rfl | (simp [errW_none, errW_some] <;> rfl) | (simp [*, errW_none, errW_some] <;> rfl), by repeat (first | (with_reducible first | exact HB.out | apply below_alloc | apply pw_below_drewN | apply below_drew1 | refine below_set ?_ GE101.out) | exact HB.out)⟩
        ·rw [if_neg c30] at H
         have c30b0 : decide (1023 < a0_6) = false := decide_eq_false c30
         clear c30
         by_cases c32 : a0_7 < 0
         ·rw [if_pos c32] at H
          have c32b0 : decide (a0_7 < 0) = true := decide_eq_true c32
          clear c32
          obtain rfl := Option.some.inj H
          obtain ⟨hcz33_0, hcz33_1, hcz33_2, hcz33_3, hcz33_4, hcz33_5, hcz33_6, hcz33_7, hcz33_8, hcz33_9, hcz33_10, hcz33_11, hcz33_12⟩ := cl13 (W := wc) BK101.out
          obtain ⟨hfz33_0, hfz33_1, hfz33_2, hfz33_3, hfz33_4, hfz33_5, hfz33_6, hfz33_7, hfz33_8, hfz33_9, hfz33_10, hfz33_11, hfz33_12⟩ := fr13 BK101.out
          go_wp2
          go_ret
          exact ⟨by first | rfl | (simp [errW_none, errW_some] <;> rfl) | (simp [*, errW_none, errW_some] <;> rfl), by repeat (first | (with_reducible first | exact HB.out | apply below_alloc | apply pw_below_drewN | apply below_drew1 | refine below_set ?_ GE101.out) | exact HB.out)⟩
         ·rw [if_neg c32] at H
          have c32b0 : decide (a0_7 < 0) = false := decide_eq_false c32
          clear c32
          by_cases c34 : a0_7 > 31
          ·rw [if_pos c34] at H
           have c34b0 : decide (31 < a0_7) = true := decide_eq_true c34
           clear c34
           obtain rfl := Option.some.inj H
           obtain ⟨hcz35_0, hcz35_1, hcz35_2, hcz35_3, hcz35_4, hcz35_5, hcz35_6, hcz35_7, hcz35_8, hcz35_9, hcz35_10, hcz35_11, hcz35_12⟩ := cl13 (W := wc) BK101.out
           obtain ⟨hfz35_0, hfz35_1, hfz35_2, hfz35_3, hfz35_4, hfz35_5, hfz35_6, hfz35_7, hfz35_8, hfz35_9, hfz35_10, hfz35_11, hfz35_12⟩ := fr13 BK101.out
           go_wp2
           go_ret
           exact ⟨by first | rfl | (simp [errW_none, errW_some] <;> rfl) | (simp [*, errW_none, errW_some] <;> rfl), by repeat (first | (with_reducible first | exact HB.out | apply below_alloc | apply pw_below_drewN | apply below_drew1 | refine below_set ?_ GE101.out) | exact HB.out)⟩
          ·rw [if_neg c34] at H
           have c34b0 : decide (31 < a0_7) = false := decide_eq_false c34
           clear c34
           replace H := Option.bind_eq_some_iff.mp H
           obtain ⟨t103, A360, H⟩ := H
           replace H : (if t103 = true then ((seneschalref04_slot.f a0_10 a0_11).bind fun t104 => (if t104 = true then (if a0_12 = 0 then (some true) else (if a0_0 = 2 then (if a0_12 > 0 then (some (decide (a0_12 ≤ a0_5))) else (some false)) else (some false))) else (some false))) else (some false)) = some r := H
           have A36 := Aside0.mk A360
           clear A360
           by_cases c37 : t103 = true
           ·subst c37
            have H1 : ((seneschalref04_slot.f a0_10 a0_11).bind fun t104 => (if t104 = true then (if a0_12 = 0 then (some true) else (if a0_0 = 2 then (if a0_12 > 0 then (some (decide (a0_12 ≤ a0_5))) else (some false)) else (some false))) else (some false))) = some r := by rw [if_pos rfl] at H; exact H
            clear H
            have H := H1
            clear H1
            replace H := Option.bind_eq_some_iff.mp H
            obtain ⟨t104, A380, H⟩ := H
            replace H : (if t104 = true then (if a0_12 = 0 then (some true) else (if a0_0 = 2 then (if a0_12 > 0 then (some (decide (a0_12 ≤ a0_5))) else (some false)) else (some false))) else (some false)) = some r := H
            have A38 := Aside0.mk A380
            clear A380
            by_cases c39 : t104 = true
            ·subst c39
             have H1 : (if a0_12 = 0 then (some true) else (if a0_0 = 2 then (if a0_12 > 0 then (some (decide (a0_12 ≤ a0_5))) else (some false)) else (some false))) = some r := by rw [if_pos rfl] at H; exact H
             clear H
             have H := H1
             clear H1
             by_cases c40 : a0_12 = 0
             ·rw [if_pos c40] at H
              have c40b0 : (a0_12 == 0) = true := beq_iff_eq.mpr c40
              have c40b1 : (a0_12 != 0) = false := bne_eq_false_iff_eq.mpr c40
              clear c40
              obtain rfl := Option.some.inj H
              obtain ⟨hcz41_0, hcz41_1, hcz41_2, hcz41_3, hcz41_4, hcz41_5, hcz41_6, hcz41_7, hcz41_8, hcz41_9, hcz41_10, hcz41_11, hcz41_12⟩ := cl13 (W := wc) BK101.out
              obtain ⟨hfz41_0, hfz41_1, hfz41_2, hfz41_3, hfz41_4, hfz41_5, hfz41_6, hfz41_7, hfz41_8, hfz41_9, hfz41_10, hfz41_11, hfz41_12⟩ := fr13 BK101.out
              go_wp2_with (first | (go_at_call 105; (with_reducible refine (seneschalref04_slot.calls a0_8 a0_9 true _ A36.out).mono ?_); rintro e w42 ⟨rfl, hb⟩; have n0_ := Aside0.mk (blk_below BK101.out hb); have n1_ := Aside0.mk (below_step HB.out hb); clear BK101; clear HB; have BK101 := n0_; have HB := n1_; clear n0_ n1_; (try clear hb); (try clear hb2); (try clear hk); (try clear hi); obtain ⟨hcz43_0, hcz43_1, hcz43_2, hcz43_3, hcz43_4, hcz43_5, hcz43_6, hcz43_7, hcz43_8, hcz43_9, hcz43_10, hcz43_11, hcz43_12⟩ := cl13 (W := w42) BK101.out; obtain ⟨hfz43_0, hfz43_1, hfz43_2, hfz43_3, hfz43_4, hfz43_5, hfz43_6, hfz43_7, hfz43_8, hfz43_9, hfz43_10, hfz43_11, hfz43_12⟩ := fr13 BK101.out) | (go_at_call 105; (with_reducible refine (seneschalref04_slot.calls a0_10 a0_11 true _ A38.out).mono ?_); rintro e w44 ⟨rfl, hb⟩; have n0_ := Aside0.mk (blk_below BK101.out hb); have n1_ := Aside0.mk (below_step HB.out hb); clear BK101; clear HB; have BK101 := n0_; have HB := n1_; clear n0_ n1_; (try clear hb); (try clear hb2); (try clear hk); (try clear hi); obtain ⟨hcz45_0, hcz45_1, hcz45_2, hcz45_3, hcz45_4, hcz45_5, hcz45_6, hcz45_7, hcz45_8, hcz45_9, hcz45_10, hcz45_11, hcz45_12⟩ := cl13 (W := w44) BK101.out; obtain ⟨hfz45_0, hfz45_1, hfz45_2, hfz45_3, hfz45_4, hfz45_5, hfz45_6, hfz45_7, hfz45_8, hfz45_9, hfz45_10, hfz45_11, hfz45_12⟩ := fr13 BK101.out))
              go_ret
              exact ⟨by first | rfl | (simp [errW_none, errW_some] <;> rfl) | (simp [*, errW_none, errW_some] <;> rfl), by repeat (first | (with_reducible first | exact HB.out | apply below_alloc | apply pw_below_drewN | apply below_drew1 | refine below_set ?_ GE101.out) | exact HB.out)⟩
             ·rw [if_neg c40] at H
              have c40b0 : (a0_12 == 0) = false := beq_eq_false_iff_ne.mpr c40
              have c40b1 : (a0_12 != 0) = true := bne_iff_ne.mpr c40
              by_cases c46 : a0_0 = 2
              ·rw [if_pos c46] at H
               have c46b0 : (a0_0 == 2) = true := beq_iff_eq.mpr c46
               have c46b1 : (a0_0 != 2) = false := bne_eq_false_iff_eq.mpr c46
               clear c46
               by_cases c47 : a0_12 > 0
               ·rw [if_pos c47] at H
                have c47b0 : decide (0 < a0_12) = true := decide_eq_true c47
                clear c47
                obtain rfl := Option.some.inj H
                obtain ⟨hcz48_0, hcz48_1, hcz48_2, hcz48_3, hcz48_4, hcz48_5, hcz48_6, hcz48_7, hcz48_8, hcz48_9, hcz48_10, hcz48_11, hcz48_12⟩ := cl13 (W := wc) BK101.out
                obtain ⟨hfz48_0, hfz48_1, hfz48_2, hfz48_3, hfz48_4, hfz48_5, hfz48_6, hfz48_7, hfz48_8, hfz48_9, hfz48_10, hfz48_11, hfz48_12⟩ := fr13 BK101.out
                go_wp2_with (first | (go_at_call 105; (with_reducible refine (seneschalref04_slot.calls a0_8 a0_9 true _ A36.out).mono ?_); rintro e w49 ⟨rfl, hb⟩; have n0_ := Aside0.mk (blk_below BK101.out hb); have n1_ := Aside0.mk (below_step HB.out hb); clear BK101; clear HB; have BK101 := n0_; have HB := n1_; clear n0_ n1_; (try clear hb); (try clear hb2); (try clear hk); (try clear hi); obtain ⟨hcz50_0, hcz50_1, hcz50_2, hcz50_3, hcz50_4, hcz50_5, hcz50_6, hcz50_7, hcz50_8, hcz50_9, hcz50_10, hcz50_11, hcz50_12⟩ := cl13 (W := w49) BK101.out; obtain ⟨hfz50_0, hfz50_1, hfz50_2, hfz50_3, hfz50_4, hfz50_5, hfz50_6, hfz50_7, hfz50_8, hfz50_9, hfz50_10, hfz50_11, hfz50_12⟩ := fr13 BK101.out) | (go_at_call 105; (with_reducible refine (seneschalref04_slot.calls a0_10 a0_11 true _ A38.out).mono ?_); rintro e w51 ⟨rfl, hb⟩; have n0_ := Aside0.mk (blk_below BK101.out hb); have n1_ := Aside0.mk (below_step HB.out hb); clear BK101; clear HB; have BK101 := n0_; have HB := n1_; clear n0_ n1_; (try clear hb); (try clear hb2); (try clear hk); (try clear hi); obtain ⟨hcz52_0, hcz52_1, hcz52_2, hcz52_3, hcz52_4, hcz52_5, hcz52_6, hcz52_7, hcz52_8, hcz52_9, hcz52_10, hcz52_11, hcz52_12⟩ := cl13 (W := w51) BK101.out; obtain ⟨hfz52_0, hfz52_1, hfz52_2, hfz52_3, hfz52_4, hfz52_5, hfz52_6, hfz52_7, hfz52_8, hfz52_9, hfz52_10, hfz52_11, hfz52_12⟩ := fr13 BK101.out))
                go_ret
                exact ⟨by first | rfl | (simp [errW_none, errW_some] <;> rfl) | (simp [*, errW_none, errW_some] <;> rfl), by repeat (first | (with_reducible first | exact HB.out | apply below_alloc | apply pw_below_drewN | apply below_drew1 | refine below_set ?_ GE101.out) | exact HB.out)⟩
               ·rw [if_neg c47] at H
                have c47b0 : decide (0 < a0_12) = false := decide_eq_false c47
                clear c47
                obtain rfl := Option.some.inj H
                obtain ⟨hcz53_0, hcz53_1, hcz53_2, hcz53_3, hcz53_4, hcz53_5, hcz53_6, hcz53_7, hcz53_8, hcz53_9, hcz53_10, hcz53_11, hcz53_12⟩ := cl13 (W := wc) BK101.out
                obtain ⟨hfz53_0, hfz53_1, hfz53_2, hfz53_3, hfz53_4, hfz53_5, hfz53_6, hfz53_7, hfz53_8, hfz53_9, hfz53_10, hfz53_11, hfz53_12⟩ := fr13 BK101.out
                go_wp2_with (first | (go_at_call 105; (with_reducible refine (seneschalref04_slot.calls a0_8 a0_9 true _ A36.out).mono ?_); rintro e w54 ⟨rfl, hb⟩; have n0_ := Aside0.mk (blk_below BK101.out hb); have n1_ := Aside0.mk (below_step HB.out hb); clear BK101; clear HB; have BK101 := n0_; have HB := n1_; clear n0_ n1_; (try clear hb); (try clear hb2); (try clear hk); (try clear hi); obtain ⟨hcz55_0, hcz55_1, hcz55_2, hcz55_3, hcz55_4, hcz55_5, hcz55_6, hcz55_7, hcz55_8, hcz55_9, hcz55_10, hcz55_11, hcz55_12⟩ := cl13 (W := w54) BK101.out; obtain ⟨hfz55_0, hfz55_1, hfz55_2, hfz55_3, hfz55_4, hfz55_5, hfz55_6, hfz55_7, hfz55_8, hfz55_9, hfz55_10, hfz55_11, hfz55_12⟩ := fr13 BK101.out) | (go_at_call 105; (with_reducible refine (seneschalref04_slot.calls a0_10 a0_11 true _ A38.out).mono ?_); rintro e w56 ⟨rfl, hb⟩; have n0_ := Aside0.mk (blk_below BK101.out hb); have n1_ := Aside0.mk (below_step HB.out hb); clear BK101; clear HB; have BK101 := n0_; have HB := n1_; clear n0_ n1_; (try clear hb); (try clear hb2); (try clear hk); (try clear hi); obtain ⟨hcz57_0, hcz57_1, hcz57_2, hcz57_3, hcz57_4, hcz57_5, hcz57_6, hcz57_7, hcz57_8, hcz57_9, hcz57_10, hcz57_11, hcz57_12⟩ := cl13 (W := w56) BK101.out; obtain ⟨hfz57_0, hfz57_1, hfz57_2, hfz57_3, hfz57_4, hfz57_5, hfz57_6, hfz57_7, hfz57_8, hfz57_9, hfz57_10, hfz57_11, hfz57_12⟩ := fr13 BK101.out))
                go_ret
                exact ⟨by first | rfl | (simp [errW_none, errW_some] <;> rfl) | (simp [*, errW_none, errW_some] <;> rfl), by repeat (first | (with_reducible first | exact HB.out | apply below_alloc | apply pw_below_drewN | apply below_drew1 | refine below_set ?_ GE101.out) | exact HB.out)⟩
              ·rw [if_neg c46] at H
               have c46b0 : (a0_0 == 2) = false := beq_eq_false_iff_ne.mpr c46
               have c46b1 : (a0_0 != 2) = true := bne_iff_ne.mpr c46
               obtain rfl := Option.some.inj H
               obtain ⟨hcz58_0, hcz58_1, hcz58_2, hcz58_3, hcz58_4, hcz58_5, hcz58_6, hcz58_7, hcz58_8, hcz58_9, hcz58_10, hcz58_11, hcz58_12⟩ := cl13 (W := wc) BK101.out
               obtain ⟨hfz58_0, hfz58_1, hfz58_2, hfz58_3, hfz58_4, hfz58_5, hfz58_6, hfz58_7, hfz58_8, hfz58_9, hfz58_10, hfz58_11, hfz58_12⟩ := fr13 BK101.out
               go_wp2_with (first | (go_at_call 105; (with_reducible refine (seneschalref04_slot.calls a0_8 a0_9 true _ A36.out).mono ?_); rintro e w59 ⟨rfl, hb⟩; have n0_ := Aside0.mk (blk_below BK101.out hb); have n1_ := Aside0.mk (below_step HB.out hb); clear BK101; clear HB; have BK101 := n0_; have HB := n1_; clear n0_ n1_; (try clear hb); (try clear hb2); (try clear hk); (try clear hi); obtain ⟨hcz60_0, hcz60_1, hcz60_2, hcz60_3, hcz60_4, hcz60_5, hcz60_6, hcz60_7, hcz60_8, hcz60_9, hcz60_10, hcz60_11, hcz60_12⟩ := cl13 (W := w59) BK101.out; obtain ⟨hfz60_0, hfz60_1, hfz60_2, hfz60_3, hfz60_4, hfz60_5, hfz60_6, hfz60_7, hfz60_8, hfz60_9, hfz60_10, hfz60_11, hfz60_12⟩ := fr13 BK101.out) | (go_at_call 105; (with_reducible refine (seneschalref04_slot.calls a0_10 a0_11 true _ A38.out).mono ?_); rintro e w61 ⟨rfl, hb⟩; have n0_ := Aside0.mk (blk_below BK101.out hb); have n1_ := Aside0.mk (below_step HB.out hb); clear BK101; clear HB; have BK101 := n0_; have HB := n1_; clear n0_ n1_; (try clear hb); (try clear hb2); (try clear hk); (try clear hi); obtain ⟨hcz62_0, hcz62_1, hcz62_2, hcz62_3, hcz62_4, hcz62_5, hcz62_6, hcz62_7, hcz62_8, hcz62_9, hcz62_10, hcz62_11, hcz62_12⟩ := cl13 (W := w61) BK101.out; obtain ⟨hfz62_0, hfz62_1, hfz62_2, hfz62_3, hfz62_4, hfz62_5, hfz62_6, hfz62_7, hfz62_8, hfz62_9, hfz62_10, hfz62_11, hfz62_12⟩ := fr13 BK101.out))
               go_ret
               exact ⟨by first | rfl | (simp [errW_none, errW_some] <;> rfl) | (simp [*, errW_none, errW_some] <;> rfl), by repeat (first | (with_reducible first | exact HB.out | apply below_alloc | apply pw_below_drewN | apply below_drew1 | refine below_set ?_ GE101.out) | exact HB.out)⟩
            ·replace c39 := Bool.eq_false_iff.mpr c39
             subst c39
             have H1 : (some false) = some r := by rw [if_neg (show ¬ (false = true) by decide)] at H; exact H
             clear H
             have H := H1
             clear H1
             obtain rfl := Option.some.inj H
             obtain ⟨hcz63_0, hcz63_1, hcz63_2, hcz63_3, hcz63_4, hcz63_5, hcz63_6, hcz63_7, hcz63_8, hcz63_9, hcz63_10, hcz63_11, hcz63_12⟩ := cl13 (W := wc) BK101.out
             obtain ⟨hfz63_0, hfz63_1, hfz63_2, hfz63_3, hfz63_4, hfz63_5, hfz63_6, hfz63_7, hfz63_8, hfz63_9, hfz63_10, hfz63_11, hfz63_12⟩ := fr13 BK101.out
             go_wp2_with (first | (go_at_call 105; (with_reducible refine (seneschalref04_slot.calls a0_8 a0_9 true _ A36.out).mono ?_); rintro e w64 ⟨rfl, hb⟩; have n0_ := Aside0.mk (blk_below BK101.out hb); have n1_ := Aside0.mk (below_step HB.out hb); clear BK101; clear HB; have BK101 := n0_; have HB := n1_; clear n0_ n1_; (try clear hb); (try clear hb2); (try clear hk); (try clear hi); obtain ⟨hcz65_0, hcz65_1, hcz65_2, hcz65_3, hcz65_4, hcz65_5, hcz65_6, hcz65_7, hcz65_8, hcz65_9, hcz65_10, hcz65_11, hcz65_12⟩ := cl13 (W := w64) BK101.out; obtain ⟨hfz65_0, hfz65_1, hfz65_2, hfz65_3, hfz65_4, hfz65_5, hfz65_6, hfz65_7, hfz65_8, hfz65_9, hfz65_10, hfz65_11, hfz65_12⟩ := fr13 BK101.out) | (go_at_call 105; (with_reducible refine (seneschalref04_slot.calls a0_10 a0_11 false _ A38.out).mono ?_); rintro e w66 ⟨rfl, hb⟩; have n0_ := Aside0.mk (blk_below BK101.out hb); have n1_ := Aside0.mk (below_step HB.out hb); clear BK101; clear HB; have BK101 := n0_; have HB := n1_; clear n0_ n1_; (try clear hb); (try clear hb2); (try clear hk); (try clear hi)))
             go_ret
             exact ⟨by first | rfl | (simp [errW_none, errW_some] <;> rfl) | (simp [*, errW_none, errW_some] <;> rfl), by repeat (first | (with_reducible first | exact HB.out | apply below_alloc | apply pw_below_drewN | apply below_drew1 | refine below_set ?_ GE101.out) | exact HB.out)⟩
           ·replace c37 := Bool.eq_false_iff.mpr c37
            subst c37
            have H1 : (some false) = some r := by rw [if_neg (show ¬ (false = true) by decide)] at H; exact H
            clear H
            have H := H1
            clear H1
            obtain rfl := Option.some.inj H
            obtain ⟨hcz67_0, hcz67_1, hcz67_2, hcz67_3, hcz67_4, hcz67_5, hcz67_6, hcz67_7, hcz67_8, hcz67_9, hcz67_10, hcz67_11, hcz67_12⟩ := cl13 (W := wc) BK101.out
            obtain ⟨hfz67_0, hfz67_1, hfz67_2, hfz67_3, hfz67_4, hfz67_5, hfz67_6, hfz67_7, hfz67_8, hfz67_9, hfz67_10, hfz67_11, hfz67_12⟩ := fr13 BK101.out
            go_wp2_with (first | (go_at_call 105; (with_reducible refine (seneschalref04_slot.calls a0_8 a0_9 false _ A36.out).mono ?_); rintro e w68 ⟨rfl, hb⟩; have n0_ := Aside0.mk (blk_below BK101.out hb); have n1_ := Aside0.mk (below_step HB.out hb); clear BK101; clear HB; have BK101 := n0_; have HB := n1_; clear n0_ n1_; (try clear hb); (try clear hb2); (try clear hk); (try clear hi)))
            go_ret
            exact ⟨by first | rfl | (simp [errW_none, errW_some] <;> rfl) | (simp [*, errW_none, errW_some] <;> rfl), by repeat (first | (with_reducible first | exact HB.out | apply below_alloc | apply pw_below_drewN | apply below_drew1 | refine below_set ?_ GE101.out) | exact HB.out)⟩
      ·replace c27 := Bool.eq_false_iff.mpr c27
       subst c27
       have H1 : (if a0_0 = 3 then (if a0_6 = 0 then (if a0_7 = 0 then (if a0_12 = 0 then (if (!a0_8 && (a0_9.toList == ([] : List UInt8))) = true then (some (!a0_10 && (a0_11.toList == ([] : List UInt8)))) else (some false)) else (some false)) else (some false)) else (some false)) else (if a0_0 = 4 then (if a0_6 = 0 then (if a0_7 = 0 then (if a0_12 = 0 then (if (!a0_8 && (a0_9.toList == ([] : List UInt8))) = true then (some (!a0_10 && (a0_11.toList == ([] : List UInt8)))) else (some false)) else (some false)) else (some false)) else (some false)) else (some false))) = some r := by rw [if_neg (show ¬ (false = true) by decide)] at H; exact H
       clear H
       have H := H1
       clear H1
       by_cases c69 : a0_0 = 3
       ·rw [if_pos c69] at H
        have c69b0 : (a0_0 == 3) = true := beq_iff_eq.mpr c69
        have c69b1 : (a0_0 != 3) = false := bne_eq_false_iff_eq.mpr c69
        clear c69
        by_cases c70 : a0_6 = 0
        ·rw [if_pos c70] at H
         have c70b0 : (a0_6 == 0) = true := beq_iff_eq.mpr c70
         have c70b1 : (a0_6 != 0) = false := bne_eq_false_iff_eq.mpr c70
         clear c70
         by_cases c71 : a0_7 = 0
         ·rw [if_pos c71] at H
          have c71b0 : (a0_7 == 0) = true := beq_iff_eq.mpr c71
          have c71b1 : (a0_7 != 0) = false := bne_eq_false_iff_eq.mpr c71
          clear c71
          by_cases c72 : a0_12 = 0
          ·rw [if_pos c72] at H
           have c72b0 : (a0_12 == 0) = true := beq_iff_eq.mpr c72
           have c72b1 : (a0_12 != 0) = false := bne_eq_false_iff_eq.mpr c72
           clear c72
           by_cases c73 : (!a0_8 && (a0_9.toList == ([] : List UInt8))) = true
           ·rw [if_pos c73] at H
            have c73b0 : (!a0_8 && (a0_9.toList == ([] : List UInt8))) = true := (c73); have c73b9 : (!a0_8 && a0_9.toList.isEmpty) = true := (by rw [← beq_nil]; exact c73b0)
            clear c73
            obtain rfl := Option.some.inj H
            go_wp2_with (first | ((with_reducible refine gate_dst (N := 3) rfl ?_); refine box_event ?hg (N := 3) ?hd (cs := #[.bool false, .string (⟨#[]⟩ : ByteArray)]) (t := 33) ?hr ?_; (case hd => rfl); (case hg => rfl); (case hr => first | (go_simp; done) | (go_simp; rfl)); intro gb105 hg w74 hbox hb; have n0_ := Aside0.mk (blk_below BK101.out hb); have n1_ := Aside0.mk (below_step HB.out hb); have n2_ := Aside0.mk (hbox); have n3_ := Aside0.mk ((by rw [hg]; exact below_size HB.out : w.heap.size ≤ gb105)); have n4_ := Aside0.mk ((by rw [hg]; exact below_size HB.out : w.heap.size ≤ gb105)); have n5_ := Aside0.mk ((by rw [hg]; exact Nat.ne_of_lt (blk_lt BK101.out) : gb101 ≠ gb105)); have n6_ := Aside0.mk ((by rw [hg]; exact Nat.ne_of_gt (blk_lt BK101.out) : gb105 ≠ gb101)); clear BK101; clear HB; have BK101 := n0_; have HB := n1_; have BK105 := n2_; have GW105 := n3_; have GE105 := n4_; have NB101_105 := n5_; have NB105_101 := n6_; clear n0_ n1_ n2_ n3_ n4_ n5_ n6_; clear hb hbox hg; have hnb75 := NB105_101.out; have hnc75 := NB101_105.out; obtain ⟨hcz76_0, hcz76_1⟩ := cl2 (W := w74) BK105.out; obtain ⟨hfz76_0, hfz76_1⟩ := fr2 BK105.out; obtain ⟨hcz77_0, hcz77_1, hcz77_2, hcz77_3, hcz77_4, hcz77_5, hcz77_6, hcz77_7, hcz77_8, hcz77_9, hcz77_10, hcz77_11, hcz77_12⟩ := cl13 (W := w74) BK101.out; obtain ⟨hfz77_0, hfz77_1, hfz77_2, hfz77_3, hfz77_4, hfz77_5, hfz77_6, hfz77_7, hfz77_8, hfz77_9, hfz77_10, hfz77_11, hfz77_12⟩ := fr13 BK101.out))
            go_ret
            exact ⟨by first | rfl | (simp [errW_none, errW_some] <;> rfl) | (simp [*, errW_none, errW_some] <;> rfl), by repeat (first | (with_reducible first | exact HB.out | apply below_alloc | apply pw_below_drewN | apply below_drew1 | refine below_set ?_ GE101.out | refine below_set ?_ GE105.out) | exact HB.out)⟩
           ·rw [if_neg c73] at H
            have c73b0 : (!a0_8 && (a0_9.toList == ([] : List UInt8))) = false := (by simpa using c73); have c73b9 : (!a0_8 && a0_9.toList.isEmpty) = false := (by rw [← beq_nil]; exact c73b0)
            clear c73
            obtain rfl := Option.some.inj H
            go_wp2_with (first | ((with_reducible refine gate_dst (N := 3) rfl ?_); refine box_event ?hg (N := 3) ?hd (cs := #[.bool false, .string (⟨#[]⟩ : ByteArray)]) (t := 33) ?hr ?_; (case hd => rfl); (case hg => rfl); (case hr => first | (go_simp; done) | (go_simp; rfl)); intro gb105 hg w78 hbox hb; have n0_ := Aside0.mk (blk_below BK101.out hb); have n1_ := Aside0.mk (below_step HB.out hb); have n2_ := Aside0.mk (hbox); have n3_ := Aside0.mk ((by rw [hg]; exact below_size HB.out : w.heap.size ≤ gb105)); have n4_ := Aside0.mk ((by rw [hg]; exact below_size HB.out : w.heap.size ≤ gb105)); have n5_ := Aside0.mk ((by rw [hg]; exact Nat.ne_of_lt (blk_lt BK101.out) : gb101 ≠ gb105)); have n6_ := Aside0.mk ((by rw [hg]; exact Nat.ne_of_gt (blk_lt BK101.out) : gb105 ≠ gb101)); clear BK101; clear HB; have BK101 := n0_; have HB := n1_; have BK105 := n2_; have GW105 := n3_; have GE105 := n4_; have NB101_105 := n5_; have NB105_101 := n6_; clear n0_ n1_ n2_ n3_ n4_ n5_ n6_; clear hb hbox hg; have hnb79 := NB105_101.out; have hnc79 := NB101_105.out; obtain ⟨hcz80_0, hcz80_1⟩ := cl2 (W := w78) BK105.out; obtain ⟨hfz80_0, hfz80_1⟩ := fr2 BK105.out; obtain ⟨hcz81_0, hcz81_1, hcz81_2, hcz81_3, hcz81_4, hcz81_5, hcz81_6, hcz81_7, hcz81_8, hcz81_9, hcz81_10, hcz81_11, hcz81_12⟩ := cl13 (W := w78) BK101.out; obtain ⟨hfz81_0, hfz81_1, hfz81_2, hfz81_3, hfz81_4, hfz81_5, hfz81_6, hfz81_7, hfz81_8, hfz81_9, hfz81_10, hfz81_11, hfz81_12⟩ := fr13 BK101.out))
            go_ret
            exact ⟨by first | rfl | (simp [errW_none, errW_some] <;> rfl) | (simp [*, errW_none, errW_some] <;> rfl), by repeat (first | (with_reducible first | exact HB.out | apply below_alloc | apply pw_below_drewN | apply below_drew1 | refine below_set ?_ GE101.out | refine below_set ?_ GE105.out) | exact HB.out)⟩
          ·rw [if_neg c72] at H
           have c72b0 : (a0_12 == 0) = false := beq_eq_false_iff_ne.mpr c72
           have c72b1 : (a0_12 != 0) = true := bne_iff_ne.mpr c72
           obtain rfl := Option.some.inj H
           go_wp2_with (first | ((with_reducible refine gate_dst (N := 3) rfl ?_); refine box_event ?hg (N := 3) ?hd (cs := #[.bool false, .string (⟨#[]⟩ : ByteArray)]) (t := 33) ?hr ?_; (case hd => rfl); (case hg => rfl); (case hr => first | (go_simp; done) | (go_simp; rfl)); intro gb105 hg w82 hbox hb; have n0_ := Aside0.mk (blk_below BK101.out hb); have n1_ := Aside0.mk (below_step HB.out hb); have n2_ := Aside0.mk (hbox); have n3_ := Aside0.mk ((by rw [hg]; exact below_size HB.out : w.heap.size ≤ gb105)); have n4_ := Aside0.mk ((by rw [hg]; exact below_size HB.out : w.heap.size ≤ gb105)); have n5_ := Aside0.mk ((by rw [hg]; exact Nat.ne_of_lt (blk_lt BK101.out) : gb101 ≠ gb105)); have n6_ := Aside0.mk ((by rw [hg]; exact Nat.ne_of_gt (blk_lt BK101.out) : gb105 ≠ gb101)); clear BK101; clear HB; have BK101 := n0_; have HB := n1_; have BK105 := n2_; have GW105 := n3_; have GE105 := n4_; have NB101_105 := n5_; have NB105_101 := n6_; clear n0_ n1_ n2_ n3_ n4_ n5_ n6_; clear hb hbox hg; have hnb83 := NB105_101.out; have hnc83 := NB101_105.out; obtain ⟨hcz84_0, hcz84_1⟩ := cl2 (W := w82) BK105.out; obtain ⟨hfz84_0, hfz84_1⟩ := fr2 BK105.out; obtain ⟨hcz85_0, hcz85_1, hcz85_2, hcz85_3, hcz85_4, hcz85_5, hcz85_6, hcz85_7, hcz85_8, hcz85_9, hcz85_10, hcz85_11, hcz85_12⟩ := cl13 (W := w82) BK101.out; obtain ⟨hfz85_0, hfz85_1, hfz85_2, hfz85_3, hfz85_4, hfz85_5, hfz85_6, hfz85_7, hfz85_8, hfz85_9, hfz85_10, hfz85_11, hfz85_12⟩ := fr13 BK101.out))
           go_ret
           exact ⟨by first | rfl | (simp [errW_none, errW_some] <;> rfl) | (simp [*, errW_none, errW_some] <;> rfl), by repeat (first | (with_reducible first | exact HB.out | apply below_alloc | apply pw_below_drewN | apply below_drew1 | refine below_set ?_ GE101.out | refine below_set ?_ GE105.out) | exact HB.out)⟩
         ·rw [if_neg c71] at H
          have c71b0 : (a0_7 == 0) = false := beq_eq_false_iff_ne.mpr c71
          have c71b1 : (a0_7 != 0) = true := bne_iff_ne.mpr c71
          obtain rfl := Option.some.inj H
          go_wp2_with (first | ((with_reducible refine gate_dst (N := 3) rfl ?_); refine box_event ?hg (N := 3) ?hd (cs := #[.bool false, .string (⟨#[]⟩ : ByteArray)]) (t := 33) ?hr ?_; (case hd => rfl); (case hg => rfl); (case hr => first | (go_simp; done) | (go_simp; rfl)); intro gb105 hg w86 hbox hb; have n0_ := Aside0.mk (blk_below BK101.out hb); have n1_ := Aside0.mk (below_step HB.out hb); have n2_ := Aside0.mk (hbox); have n3_ := Aside0.mk ((by rw [hg]; exact below_size HB.out : w.heap.size ≤ gb105)); have n4_ := Aside0.mk ((by rw [hg]; exact below_size HB.out : w.heap.size ≤ gb105)); have n5_ := Aside0.mk ((by rw [hg]; exact Nat.ne_of_lt (blk_lt BK101.out) : gb101 ≠ gb105)); have n6_ := Aside0.mk ((by rw [hg]; exact Nat.ne_of_gt (blk_lt BK101.out) : gb105 ≠ gb101)); clear BK101; clear HB; have BK101 := n0_; have HB := n1_; have BK105 := n2_; have GW105 := n3_; have GE105 := n4_; have NB101_105 := n5_; have NB105_101 := n6_; clear n0_ n1_ n2_ n3_ n4_ n5_ n6_; clear hb hbox hg; have hnb87 := NB105_101.out; have hnc87 := NB101_105.out; obtain ⟨hcz88_0, hcz88_1⟩ := cl2 (W := w86) BK105.out; obtain ⟨hfz88_0, hfz88_1⟩ := fr2 BK105.out; obtain ⟨hcz89_0, hcz89_1, hcz89_2, hcz89_3, hcz89_4, hcz89_5, hcz89_6, hcz89_7, hcz89_8, hcz89_9, hcz89_10, hcz89_11, hcz89_12⟩ := cl13 (W := w86) BK101.out; obtain ⟨hfz89_0, hfz89_1, hfz89_2, hfz89_3, hfz89_4, hfz89_5, hfz89_6, hfz89_7, hfz89_8, hfz89_9, hfz89_10, hfz89_11, hfz89_12⟩ := fr13 BK101.out))
          go_ret
          exact ⟨by first | rfl | (simp [errW_none, errW_some] <;> rfl) | (simp [*, errW_none, errW_some] <;> rfl), by repeat (first | (with_reducible first | exact HB.out | apply below_alloc | apply pw_below_drewN | apply below_drew1 | refine below_set ?_ GE101.out | refine below_set ?_ GE105.out) | exact HB.out)⟩
        ·rw [if_neg c70] at H
         have c70b0 : (a0_6 == 0) = false := beq_eq_false_iff_ne.mpr c70
         have c70b1 : (a0_6 != 0) = true := bne_iff_ne.mpr c70
         obtain rfl := Option.some.inj H
         go_wp2_with (first | ((with_reducible refine gate_dst (N := 3) rfl ?_); refine box_event ?hg (N := 3) ?hd (cs := #[.bool false, .string (⟨#[]⟩ : ByteArray)]) (t := 33) ?hr ?_; (case hd => rfl); (case hg => rfl); (case hr => first | (go_simp; done) | (go_simp; rfl)); intro gb105 hg w90 hbox hb; have n0_ := Aside0.mk (blk_below BK101.out hb); have n1_ := Aside0.mk (below_step HB.out hb); have n2_ := Aside0.mk (hbox); have n3_ := Aside0.mk ((by rw [hg]; exact below_size HB.out : w.heap.size ≤ gb105)); have n4_ := Aside0.mk ((by rw [hg]; exact below_size HB.out : w.heap.size ≤ gb105)); have n5_ := Aside0.mk ((by rw [hg]; exact Nat.ne_of_lt (blk_lt BK101.out) : gb101 ≠ gb105)); have n6_ := Aside0.mk ((by rw [hg]; exact Nat.ne_of_gt (blk_lt BK101.out) : gb105 ≠ gb101)); clear BK101; clear HB; have BK101 := n0_; have HB := n1_; have BK105 := n2_; have GW105 := n3_; have GE105 := n4_; have NB101_105 := n5_; have NB105_101 := n6_; clear n0_ n1_ n2_ n3_ n4_ n5_ n6_; clear hb hbox hg; have hnb91 := NB105_101.out; have hnc91 := NB101_105.out; obtain ⟨hcz92_0, hcz92_1⟩ := cl2 (W := w90) BK105.out; obtain ⟨hfz92_0, hfz92_1⟩ := fr2 BK105.out; obtain ⟨hcz93_0, hcz93_1, hcz93_2, hcz93_3, hcz93_4, hcz93_5, hcz93_6, hcz93_7, hcz93_8, hcz93_9, hcz93_10, hcz93_11, hcz93_12⟩ := cl13 (W := w90) BK101.out; obtain ⟨hfz93_0, hfz93_1, hfz93_2, hfz93_3, hfz93_4, hfz93_5, hfz93_6, hfz93_7, hfz93_8, hfz93_9, hfz93_10, hfz93_11, hfz93_12⟩ := fr13 BK101.out))
         go_ret
         exact ⟨by first | rfl | (simp [errW_none, errW_some] <;> rfl) | (simp [*, errW_none, errW_some] <;> rfl), by repeat (first | (with_reducible first | exact HB.out | apply below_alloc | apply pw_below_drewN | apply below_drew1 | refine below_set ?_ GE101.out | refine below_set ?_ GE105.out) | exact HB.out)⟩
       ·rw [if_neg c69] at H
        have c69b0 : (a0_0 == 3) = false := beq_eq_false_iff_ne.mpr c69
        have c69b1 : (a0_0 != 3) = true := bne_iff_ne.mpr c69
        by_cases c94 : a0_0 = 4
        ·rw [if_pos c94] at H
         have c94b0 : (a0_0 == 4) = true := beq_iff_eq.mpr c94
         have c94b1 : (a0_0 != 4) = false := bne_eq_false_iff_eq.mpr c94
         clear c94
         by_cases c95 : a0_6 = 0
         ·rw [if_pos c95] at H
          have c95b0 : (a0_6 == 0) = true := beq_iff_eq.mpr c95
          have c95b1 : (a0_6 != 0) = false := bne_eq_false_iff_eq.mpr c95
          clear c95
          by_cases c96 : a0_7 = 0
          ·rw [if_pos c96] at H
           have c96b0 : (a0_7 == 0) = true := beq_iff_eq.mpr c96
           have c96b1 : (a0_7 != 0) = false := bne_eq_false_iff_eq.mpr c96
           clear c96
           by_cases c97 : a0_12 = 0
           ·rw [if_pos c97] at H
            have c97b0 : (a0_12 == 0) = true := beq_iff_eq.mpr c97
            have c97b1 : (a0_12 != 0) = false := bne_eq_false_iff_eq.mpr c97
            clear c97
            by_cases c98 : (!a0_8 && (a0_9.toList == ([] : List UInt8))) = true
            ·rw [if_pos c98] at H
             have c98b0 : (!a0_8 && (a0_9.toList == ([] : List UInt8))) = true := (c98); have c98b9 : (!a0_8 && a0_9.toList.isEmpty) = true := (by rw [← beq_nil]; exact c98b0)
             clear c98
             obtain rfl := Option.some.inj H
             go_wp2_with (first | ((with_reducible refine gate_dst (N := 3) rfl ?_); refine box_event ?hg (N := 3) ?hd (cs := #[.bool false, .string (⟨#[]⟩ : ByteArray)]) (t := 33) ?hr ?_; (case hd => rfl); (case hg => rfl); (case hr => first | (go_simp; done) | (go_simp; rfl)); intro gb106 hg w99 hbox hb; have n0_ := Aside0.mk (blk_below BK101.out hb); have n1_ := Aside0.mk (below_step HB.out hb); have n2_ := Aside0.mk (hbox); have n3_ := Aside0.mk ((by rw [hg]; exact below_size HB.out : w.heap.size ≤ gb106)); have n4_ := Aside0.mk ((by rw [hg]; exact below_size HB.out : w.heap.size ≤ gb106)); have n5_ := Aside0.mk ((by rw [hg]; exact Nat.ne_of_lt (blk_lt BK101.out) : gb101 ≠ gb106)); have n6_ := Aside0.mk ((by rw [hg]; exact Nat.ne_of_gt (blk_lt BK101.out) : gb106 ≠ gb101)); clear BK101; clear HB; have BK101 := n0_; have HB := n1_; have BK106 := n2_; have GW106 := n3_; have GE106 := n4_; have NB101_106 := n5_; have NB106_101 := n6_; clear n0_ n1_ n2_ n3_ n4_ n5_ n6_; clear hb hbox hg; have hnb100 := NB106_101.out; have hnc100 := NB101_106.out; obtain ⟨hcz101_0, hcz101_1⟩ := cl2 (W := w99) BK106.out; obtain ⟨hfz101_0, hfz101_1⟩ := fr2 BK106.out; obtain ⟨hcz102_0, hcz102_1, hcz102_2, hcz102_3, hcz102_4, hcz102_5, hcz102_6, hcz102_7, hcz102_8, hcz102_9, hcz102_10, hcz102_11, hcz102_12⟩ := cl13 (W := w99) BK101.out; obtain ⟨hfz102_0, hfz102_1, hfz102_2, hfz102_3, hfz102_4, hfz102_5, hfz102_6, hfz102_7, hfz102_8, hfz102_9, hfz102_10, hfz102_11, hfz102_12⟩ := fr13 BK101.out))
             go_ret
             exact ⟨by first | rfl | (simp [errW_none, errW_some] <;> rfl) | (simp [*, errW_none, errW_some] <;> rfl), by repeat (first | (with_reducible first | exact HB.out | apply below_alloc | apply pw_below_drewN | apply below_drew1 | refine below_set ?_ GE101.out | refine below_set ?_ GE106.out) | exact HB.out)⟩
            ·rw [if_neg c98] at H
             have c98b0 : (!a0_8 && (a0_9.toList == ([] : List UInt8))) = false := (by simpa using c98); have c98b9 : (!a0_8 && a0_9.toList.isEmpty) = false := (by rw [← beq_nil]; exact c98b0)
             clear c98
             obtain rfl := Option.some.inj H
             go_wp2_with (first | ((with_reducible refine gate_dst (N := 3) rfl ?_); refine box_event ?hg (N := 3) ?hd (cs := #[.bool false, .string (⟨#[]⟩ : ByteArray)]) (t := 33) ?hr ?_; (case hd => rfl); (case hg => rfl); (case hr => first | (go_simp; done) | (go_simp; rfl)); intro gb106 hg w103 hbox hb; have n0_ := Aside0.mk (blk_below BK101.out hb); have n1_ := Aside0.mk (below_step HB.out hb); have n2_ := Aside0.mk (hbox); have n3_ := Aside0.mk ((by rw [hg]; exact below_size HB.out : w.heap.size ≤ gb106)); have n4_ := Aside0.mk ((by rw [hg]; exact below_size HB.out : w.heap.size ≤ gb106)); have n5_ := Aside0.mk ((by rw [hg]; exact Nat.ne_of_lt (blk_lt BK101.out) : gb101 ≠ gb106)); have n6_ := Aside0.mk ((by rw [hg]; exact Nat.ne_of_gt (blk_lt BK101.out) : gb106 ≠ gb101)); clear BK101; clear HB; have BK101 := n0_; have HB := n1_; have BK106 := n2_; have GW106 := n3_; have GE106 := n4_; have NB101_106 := n5_; have NB106_101 := n6_; clear n0_ n1_ n2_ n3_ n4_ n5_ n6_; clear hb hbox hg; have hnb104 := NB106_101.out; have hnc104 := NB101_106.out; obtain ⟨hcz105_0, hcz105_1⟩ := cl2 (W := w103) BK106.out; obtain ⟨hfz105_0, hfz105_1⟩ := fr2 BK106.out; obtain ⟨hcz106_0, hcz106_1, hcz106_2, hcz106_3, hcz106_4, hcz106_5, hcz106_6, hcz106_7, hcz106_8, hcz106_9, hcz106_10, hcz106_11, hcz106_12⟩ := cl13 (W := w103) BK101.out; obtain ⟨hfz106_0, hfz106_1, hfz106_2, hfz106_3, hfz106_4, hfz106_5, hfz106_6, hfz106_7, hfz106_8, hfz106_9, hfz106_10, hfz106_11, hfz106_12⟩ := fr13 BK101.out))
             go_ret
             exact ⟨by first | rfl | (simp [errW_none, errW_some] <;> rfl) | (simp [*, errW_none, errW_some] <;> rfl), by repeat (first | (with_reducible first | exact HB.out | apply below_alloc | apply pw_below_drewN | apply below_drew1 | refine below_set ?_ GE101.out | refine below_set ?_ GE106.out) | exact HB.out)⟩
           ·rw [if_neg c97] at H
            have c97b0 : (a0_12 == 0) = false := beq_eq_false_iff_ne.mpr c97
            have c97b1 : (a0_12 != 0) = true := bne_iff_ne.mpr c97
            obtain rfl := Option.some.inj H
            go_wp2_with (first | ((with_reducible refine gate_dst (N := 3) rfl ?_); refine box_event ?hg (N := 3) ?hd (cs := #[.bool false, .string (⟨#[]⟩ : ByteArray)]) (t := 33) ?hr ?_; (case hd => rfl); (case hg => rfl); (case hr => first | (go_simp; done) | (go_simp; rfl)); intro gb106 hg w107 hbox hb; have n0_ := Aside0.mk (blk_below BK101.out hb); have n1_ := Aside0.mk (below_step HB.out hb); have n2_ := Aside0.mk (hbox); have n3_ := Aside0.mk ((by rw [hg]; exact below_size HB.out : w.heap.size ≤ gb106)); have n4_ := Aside0.mk ((by rw [hg]; exact below_size HB.out : w.heap.size ≤ gb106)); have n5_ := Aside0.mk ((by rw [hg]; exact Nat.ne_of_lt (blk_lt BK101.out) : gb101 ≠ gb106)); have n6_ := Aside0.mk ((by rw [hg]; exact Nat.ne_of_gt (blk_lt BK101.out) : gb106 ≠ gb101)); clear BK101; clear HB; have BK101 := n0_; have HB := n1_; have BK106 := n2_; have GW106 := n3_; have GE106 := n4_; have NB101_106 := n5_; have NB106_101 := n6_; clear n0_ n1_ n2_ n3_ n4_ n5_ n6_; clear hb hbox hg; have hnb108 := NB106_101.out; have hnc108 := NB101_106.out; obtain ⟨hcz109_0, hcz109_1⟩ := cl2 (W := w107) BK106.out; obtain ⟨hfz109_0, hfz109_1⟩ := fr2 BK106.out; obtain ⟨hcz110_0, hcz110_1, hcz110_2, hcz110_3, hcz110_4, hcz110_5, hcz110_6, hcz110_7, hcz110_8, hcz110_9, hcz110_10, hcz110_11, hcz110_12⟩ := cl13 (W := w107) BK101.out; obtain ⟨hfz110_0, hfz110_1, hfz110_2, hfz110_3, hfz110_4, hfz110_5, hfz110_6, hfz110_7, hfz110_8, hfz110_9, hfz110_10, hfz110_11, hfz110_12⟩ := fr13 BK101.out))
            go_ret
            exact ⟨by first | rfl | (simp [errW_none, errW_some] <;> rfl) | (simp [*, errW_none, errW_some] <;> rfl), by repeat (first | (with_reducible first | exact HB.out | apply below_alloc | apply pw_below_drewN | apply below_drew1 | refine below_set ?_ GE101.out | refine below_set ?_ GE106.out) | exact HB.out)⟩
          ·rw [if_neg c96] at H
           have c96b0 : (a0_7 == 0) = false := beq_eq_false_iff_ne.mpr c96
           have c96b1 : (a0_7 != 0) = true := bne_iff_ne.mpr c96
           obtain rfl := Option.some.inj H
           go_wp2_with (first | ((with_reducible refine gate_dst (N := 3) rfl ?_); refine box_event ?hg (N := 3) ?hd (cs := #[.bool false, .string (⟨#[]⟩ : ByteArray)]) (t := 33) ?hr ?_; (case hd => rfl); (case hg => rfl); (case hr => first | (go_simp; done) | (go_simp; rfl)); intro gb106 hg w111 hbox hb; have n0_ := Aside0.mk (blk_below BK101.out hb); have n1_ := Aside0.mk (below_step HB.out hb); have n2_ := Aside0.mk (hbox); have n3_ := Aside0.mk ((by rw [hg]; exact below_size HB.out : w.heap.size ≤ gb106)); have n4_ := Aside0.mk ((by rw [hg]; exact below_size HB.out : w.heap.size ≤ gb106)); have n5_ := Aside0.mk ((by rw [hg]; exact Nat.ne_of_lt (blk_lt BK101.out) : gb101 ≠ gb106)); have n6_ := Aside0.mk ((by rw [hg]; exact Nat.ne_of_gt (blk_lt BK101.out) : gb106 ≠ gb101)); clear BK101; clear HB; have BK101 := n0_; have HB := n1_; have BK106 := n2_; have GW106 := n3_; have GE106 := n4_; have NB101_106 := n5_; have NB106_101 := n6_; clear n0_ n1_ n2_ n3_ n4_ n5_ n6_; clear hb hbox hg; have hnb112 := NB106_101.out; have hnc112 := NB101_106.out; obtain ⟨hcz113_0, hcz113_1⟩ := cl2 (W := w111) BK106.out; obtain ⟨hfz113_0, hfz113_1⟩ := fr2 BK106.out; obtain ⟨hcz114_0, hcz114_1, hcz114_2, hcz114_3, hcz114_4, hcz114_5, hcz114_6, hcz114_7, hcz114_8, hcz114_9, hcz114_10, hcz114_11, hcz114_12⟩ := cl13 (W := w111) BK101.out; obtain ⟨hfz114_0, hfz114_1, hfz114_2, hfz114_3, hfz114_4, hfz114_5, hfz114_6, hfz114_7, hfz114_8, hfz114_9, hfz114_10, hfz114_11, hfz114_12⟩ := fr13 BK101.out))
           go_ret
           exact ⟨by first | rfl | (simp [errW_none, errW_some] <;> rfl) | (simp [*, errW_none, errW_some] <;> rfl), by repeat (first | (with_reducible first | exact HB.out | apply below_alloc | apply pw_below_drewN | apply below_drew1 | refine below_set ?_ GE101.out | refine below_set ?_ GE106.out) | exact HB.out)⟩
         ·rw [if_neg c95] at H
          have c95b0 : (a0_6 == 0) = false := beq_eq_false_iff_ne.mpr c95
          have c95b1 : (a0_6 != 0) = true := bne_iff_ne.mpr c95
          obtain rfl := Option.some.inj H
          go_wp2_with (first | ((with_reducible refine gate_dst (N := 3) rfl ?_); refine box_event ?hg (N := 3) ?hd (cs := #[.bool false, .string (⟨#[]⟩ : ByteArray)]) (t := 33) ?hr ?_; (case hd => rfl); (case hg => rfl); (case hr => first | (go_simp; done) | (go_simp; rfl)); intro gb106 hg w115 hbox hb; have n0_ := Aside0.mk (blk_below BK101.out hb); have n1_ := Aside0.mk (below_step HB.out hb); have n2_ := Aside0.mk (hbox); have n3_ := Aside0.mk ((by rw [hg]; exact below_size HB.out : w.heap.size ≤ gb106)); have n4_ := Aside0.mk ((by rw [hg]; exact below_size HB.out : w.heap.size ≤ gb106)); have n5_ := Aside0.mk ((by rw [hg]; exact Nat.ne_of_lt (blk_lt BK101.out) : gb101 ≠ gb106)); have n6_ := Aside0.mk ((by rw [hg]; exact Nat.ne_of_gt (blk_lt BK101.out) : gb106 ≠ gb101)); clear BK101; clear HB; have BK101 := n0_; have HB := n1_; have BK106 := n2_; have GW106 := n3_; have GE106 := n4_; have NB101_106 := n5_; have NB106_101 := n6_; clear n0_ n1_ n2_ n3_ n4_ n5_ n6_; clear hb hbox hg; have hnb116 := NB106_101.out; have hnc116 := NB101_106.out; obtain ⟨hcz117_0, hcz117_1⟩ := cl2 (W := w115) BK106.out; obtain ⟨hfz117_0, hfz117_1⟩ := fr2 BK106.out; obtain ⟨hcz118_0, hcz118_1, hcz118_2, hcz118_3, hcz118_4, hcz118_5, hcz118_6, hcz118_7, hcz118_8, hcz118_9, hcz118_10, hcz118_11, hcz118_12⟩ := cl13 (W := w115) BK101.out; obtain ⟨hfz118_0, hfz118_1, hfz118_2, hfz118_3, hfz118_4, hfz118_5, hfz118_6, hfz118_7, hfz118_8, hfz118_9, hfz118_10, hfz118_11, hfz118_12⟩ := fr13 BK101.out))
          go_ret
          exact ⟨by first | rfl | (simp [errW_none, errW_some] <;> rfl) | (simp [*, errW_none, errW_some] <;> rfl), by repeat (first | (with_reducible first | exact HB.out | apply below_alloc | apply pw_below_drewN | apply below_drew1 | refine below_set ?_ GE101.out | refine below_set ?_ GE106.out) | exact HB.out)⟩
        ·rw [if_neg c94] at H
         have c94b0 : (a0_0 == 4) = false := beq_eq_false_iff_ne.mpr c94
         have c94b1 : (a0_0 != 4) = true := bne_iff_ne.mpr c94
         obtain rfl := Option.some.inj H
         go_wp2
         go_ret
         exact ⟨by first | rfl | (simp [errW_none, errW_some] <;> rfl) | (simp [*, errW_none, errW_some] <;> rfl), by repeat (first | (with_reducible first | exact HB.out | apply below_alloc | apply pw_below_drewN | apply below_drew1 | refine below_set ?_ GE101.out) | exact HB.out)⟩
end Go.Proofs.Ytfjmnaobfbmllaa.M
namespace Go.Proofs.Ytfjmnaobfbmllaa.M
open Go.RowKit Go.Proofs.YtfjmnaobfbmllaaW.PrintWords Go.Proofs.YtfjmnaobfbmllaaW.PrintLast Go.Proofs.YtfjmnaobfbmllaaW.PrintMore
set_option linter.unusedVariables false
set_option linter.unusedSimpArgs false
theorem rslot_eq (u : Bool) (d : ByteArray) : seneschalref04_slot.f u d = some (decide (oddS ⟨u, d⟩ = false)) := by
  rw [← isSlot_eq]; rfl
theorem rkind3 (k prev p s : Int) (u : Bool) (d : ByteArray) (u2 : Bool) (d2 : ByteArray) (next : Int) (h1 : ¬ k = 1) (h2 : ¬ k = 2) (h3 : k = 3 ∨ k = 4) :
    (if p = 0 then (if s = 0 then (if next = 0 then (if (!u && (d.toList == ([] : List UInt8))) = true then (some (!u2 && (d2.toList == ([] : List UInt8)))) else (some false)) else (some false)) else (some false)) else (some false))
      = some (decide (KindE k prev p s ⟨u, d⟩ ⟨u2, d2⟩ next)) := by
  by_cases a1 : p = 0
  · rw [if_pos a1]
    by_cases a2 : s = 0
    · rw [if_pos a2]
      by_cases a3 : next = 0
      · rw [if_pos a3]
        by_cases a4 : (!u && (d.toList == ([] : List UInt8))) = true
        · rw [if_pos a4]; congr 1; rw [Bool.eq_iff_iff]
          have a5 : u = false ∧ d = ⟨#[]⟩ := by simpa [ba_nil] using a4
          simp [KindE, h1, h2, h3, a1, a2, a3, s33_ext, z33, ba_nil, a5.1, a5.2]
        · rw [if_neg a4]; congr 1
          refine (decide_eq_false (fun h => a4 ?_)).symm
          rcases h with h | h | h
          · exact absurd h.1 h1
          · exact absurd h.1 h2
          · have := h.2.2.2.2.1
            rw [s33_ext] at this
            simp [z33] at this
            simp [this.1, this.2, ba_nil]
      · rw [if_neg a3]; congr 1; exact (decide_eq_false (by rintro (h | h | h); exact h1 h.1; exact h2 h.1; exact a3 h.2.2.2.1)).symm
    · rw [if_neg a2]; congr 1; exact (decide_eq_false (by rintro (h | h | h); exact h1 h.1; exact h2 h.1; exact a2 h.2.2.1)).symm
  · rw [if_neg a1]; congr 1; exact (decide_eq_false (by rintro (h | h | h); exact h1 h.1; exact h2 h.1; exact a1 h.2.1)).symm
theorem rgood_chg (q : Nat) (k c e n lsn prev p s : Int) (u : Bool) (d : ByteArray) (u2 : Bool) (d2 : ByteArray) (next : Int) (hk : k = 1 ∨ k = 2) (hp : 0 ≤ prev) :
    seneschalref04_Good.j1 (q + 1) k true k c e n lsn prev p s u d u2 d2 next = some (decide (KindE k prev p s ⟨u, d⟩ ⟨u2, d2⟩ next)) := by
  have hbad : ¬ Chg p s ⟨u, d⟩ ⟨u2, d2⟩ → some false = some (decide (KindE k prev p s ⟨u, d⟩ ⟨u2, d2⟩ next)) := fun hn => by
    congr 1; exact (decide_eq_false (by rintro (h | h | h); exact hn h.2.1; exact hn h.2.1; omega)).symm
  simp only [seneschalref04_Good.j1]
  rw [if_pos trivial]
  by_cases a1 : p < 0
  · rw [if_pos a1]; exact hbad (fun h => by have := h.1; omega)
  rw [if_neg a1]
  by_cases a2 : p > 1023
  · rw [if_pos a2]; exact hbad (fun h => by have := h.1; omega)
  rw [if_neg a2]
  by_cases a3 : s < 0
  · rw [if_pos a3]; exact hbad (fun h => by have := h.2.1; omega)
  rw [if_neg a3]
  by_cases a4 : s > 31
  · rw [if_pos a4]; exact hbad (fun h => by have := h.2.1; omega)
  rw [if_neg a4, rslot_eq, Option.bind_some]
  by_cases a5 : oddS ⟨u, d⟩ = false
  · rw [decide_eq_true a5, if_pos rfl, rslot_eq, Option.bind_some]
    by_cases a6 : oddS ⟨u2, d2⟩ = false
    · have hc : Chg p s ⟨u, d⟩ ⟨u2, d2⟩ := ⟨by omega, by omega, a5, a6⟩
      rw [decide_eq_true a6, if_pos rfl]
      by_cases a7 : next = 0
      · rw [if_pos a7]; congr 1
        refine (decide_eq_true ?_).symm
        rcases hk with hk | hk
        · exact .inl ⟨hk, hc, a7⟩
        · exact .inr (.inl ⟨hk, hc, by omega, by omega⟩)
      · rw [if_neg a7]
        by_cases a8 : k = 2
        · rw [if_pos a8]
          by_cases a9 : next > 0
          · rw [if_pos a9]; congr 1
            exact decide_eq_decide.mpr ⟨fun h => .inr (.inl ⟨a8, hc, by omega, h⟩), fun h => by
              rcases h with h | h | h
              · omega
              · exact h.2.2.2
              · omega⟩
          · rw [if_neg a9]; congr 1
            exact (decide_eq_false (by rintro (h | h | h) <;> omega)).symm
        · rw [if_neg a8]; congr 1
          exact (decide_eq_false (by rintro (h | h | h) <;> omega)).symm
    · rw [decide_eq_false a6, if_neg Bool.false_ne_true]; exact hbad (fun h => a6 h.2.2.2)
  · rw [decide_eq_false a5, if_neg Bool.false_ne_true]; exact hbad (fun h => a5 h.2.2.1)
theorem rgood_j0 (q : Nat) (k c e n lsn prev p s : Int) (u : Bool) (d : ByteArray) (u2 : Bool) (d2 : ByteArray) (next : Int) (hp : 0 ≤ prev) :
    seneschalref04_Good.j0 (q + 2) false k c e n lsn prev p s u d u2 d2 next = some (decide (KindE k prev p s ⟨u, d⟩ ⟨u2, d2⟩ next)) := by
  have hoth : ¬ k = 1 → ¬ k = 2 → seneschalref04_Good.j1 (q + 1) k false k c e n lsn prev p s u d u2 d2 next = some (decide (KindE k prev p s ⟨u, d⟩ ⟨u2, d2⟩ next)) := by
    intro h1 h2
    simp only [seneschalref04_Good.j1]
    rw [if_neg Bool.false_ne_true]
    by_cases h3 : k = 3
    · rw [if_pos h3]; exact rkind3 k prev p s u d u2 d2 next h1 h2 (.inl h3)
    · rw [if_neg h3]
      by_cases h4 : k = 4
      · rw [if_pos h4]; exact rkind3 k prev p s u d u2 d2 next h1 h2 (.inr h4)
      · rw [if_neg h4]; congr 1; exact (decide_eq_false (by unfold KindE; omega)).symm
  simp only [seneschalref04_Good.j0]
  rw [if_neg Bool.false_ne_true]
  by_cases h1 : k = 1
  · rw [if_pos h1, show (k == 1) = true by simp [h1]]
    exact rgood_chg q k c e n lsn prev p s u d u2 d2 next (.inl h1) hp
  · rw [if_neg h1]
    by_cases h2 : k = 2
    · rw [show (k == 2) = true by simp [h2]]
      exact rgood_chg q k c e n lsn prev p s u d u2 d2 next (.inr h2) hp
    · rw [show (k == 2) = false by simp [h2]]
      exact hoth h1 h2
theorem rgoodE_pure (k c e n lsn prev p s : Int) (u : Bool) (d : ByteArray) (u2 : Bool) (d2 : ByteArray) (next : Int) :
    seneschalref04_Good.f 2 k c e n lsn prev p s u d u2 d2 next = some (decide (GoodE (mkE k c e n lsn prev p s u d u2 d2 next))) := by
  have hbad : seneschalref04_Good.j0 2 true k c e n lsn prev p s u d u2 d2 next = some false := by simp only [seneschalref04_Good.j0]; exact if_pos trivial
  have hno : ¬ GoodE (mkE k c e n lsn prev p s u d u2 d2 next) → some false = some (decide (GoodE (mkE k c e n lsn prev p s u d u2 d2 next))) := fun h => by rw [decide_eq_false h]
  unfold seneschalref04_Good.f
  rw [show refKnown4.f c e n = some (decide (KnownP c e n)) from rfl, Option.bind_some]
  by_cases h1 : KnownP c e n
  · rw [decide_eq_true h1, if_pos rfl]
    by_cases a1 : lsn < 1
    · rw [if_pos a1, hbad]; exact hno (fun h => by have h5 : 1 ≤ lsn ∧ lsn ≤ 1099511627776 := h.2.1; omega)
    rw [if_neg a1]
    by_cases a2 : lsn > 1099511627776
    · rw [if_pos a2, hbad]; exact hno (fun h => by have h5 : 1 ≤ lsn ∧ lsn ≤ 1099511627776 := h.2.1; omega)
    rw [if_neg a2]
    by_cases a3 : prev < 0
    · rw [if_pos a3, hbad]; exact hno (fun h => by have h5 : 0 ≤ prev ∧ prev < lsn := h.2.2.1; omega)
    rw [if_neg a3]
    by_cases a4 : prev ≥ lsn
    · rw [decide_eq_true a4, hbad]; exact hno (fun h => by have h5 : 0 ≤ prev ∧ prev < lsn := h.2.2.1; omega)
    · rw [decide_eq_false a4, rgood_j0 0 k c e n lsn prev p s u d u2 d2 next (by omega)]
      congr 1
      exact decide_eq_decide.mpr ⟨fun h => ⟨h1, ⟨by show 1 ≤ lsn; omega, by show lsn ≤ 1099511627776; omega⟩, ⟨by show 0 ≤ prev; omega, by show prev < lsn; omega⟩, h⟩, fun h => h.2.2.2⟩
  · rw [decide_eq_false h1, if_neg Bool.false_ne_true, hbad]; exact hno (fun h => h1 h.1)
def refGood4.f (k c e n lsn prev p s : Int) (u : Bool) (d : ByteArray) (u2 : Bool) (d2 : ByteArray) (next : Int) : Option Bool := some (decide (GoodE (mkE k c e n lsn prev p s u d u2 d2 next)))
theorem refGood4.calls (k c e n lsn prev p s : Int) (u : Bool) (d : ByteArray) (u2 : Bool) (d2 : ByteArray) (next : Int) (r : Bool) (w : World) (h : refGood4.f k c e n lsn prev p s u d u2 d2 next = some r) :
    Calls Try.prog 56 #[.agg #[.int .i64 k, .int .i64 c, .int .i64 e, .int .i64 n, .int .i64 lsn, .int .i64 prev, .int .i64 p, .int .i64 s, .bool u, .string d, .bool u2, .string d2, .int .i64 next]] w fun e w' => e = .returned (.bool r) ∧ Below w.heap.size w w' :=
  seneschalref04_Good.calls 2 k c e n lsn prev p s u d u2 d2 next r w (by rw [rgoodE_pure]; exact h)
end Go.Proofs.Ytfjmnaobfbmllaa.M
namespace Go.Proofs.Ytfjmnaobfbmllaa.M
open Go.RowKit Go.Proofs.YtfjmnaobfbmllaaW.PrintWords Go.Proofs.YtfjmnaobfbmllaaW.PrintLast Go.Proofs.YtfjmnaobfbmllaaW.PrintMore
attribute [local go_sem] max2_int min2_int max_two min_two max_three min_three max_four min_four   -- for this text's walks alone
set_option linter.unusedVariables false
set_option linter.unusedSimpArgs false
end Go.Proofs.Ytfjmnaobfbmllaa.M
