/- The law PatchAll: it returns true for every input, and its arguments read as they did. No condition. Part 4 of 5. -/
import Derived.Test.YtfjmnaobfbmllaaProg
import Derived.Test.YtfjmnaobfbmllaaRows
import Derived.Test.YtfjmnaobfbmllaaUApart
import Derived.Test.YtfjmnaobfbmllaaUEqStruct
import Derived.Test.YtfjmnaobfbmllaaUFoot
import Derived.Test.YtfjmnaobfbmllaaUGuard
import Derived.Test.YtfjmnaobfbmllaaUKept
import Derived.Test.YtfjmnaobfbmllaaULast
import Derived.Test.YtfjmnaobfbmllaaUMore
import Derived.Test.YtfjmnaobfbmllaaUN
import Derived.Test.YtfjmnaobfbmllaaURepsOne
import Derived.Test.YtfjmnaobfbmllaaUShare
import Derived.Test.YtfjmnaobfbmllaaUTab
import Derived.Test.YtfjmnaobfbmllaaUWords
import Derived.ArgAppend
import Derived.Below
import Derived.BigQuiet
import Derived.Carry
import Derived.ChangeArms
import Derived.ChangeMaps
import Derived.ChangeOld
import Derived.Deep.AppendLies
import Derived.Deep.CutBlock
import Derived.Deep.DeepCutAuto
import Derived.Deep.Draws
import Derived.Deep.LoopGhost
import Derived.Deep.OwnRows
import Derived.Deep.QuietTactic
import Derived.Deep.RegionHeld3
import Derived.Deep.Slices
import Derived.KernelRfl
import Derived.Laws.Bits64
import Derived.Laws.Bits64b
import Derived.Laws.BitsAllLaws
import Derived.Laws.BitsLemmas
import Derived.Laws.BytesArg
import Derived.Laws.CopyOwn
import Derived.Laws.IdiomCopy
import Derived.Laws.MakeOwn
import Derived.Laws.OwnMore
import Derived.Laws.Rows
import Derived.Laws.Slices
import Derived.Lib.AppendStr
import Derived.Lib.ConvBytes
import Derived.Maps.AppendAt
import Derived.OpenShut
import Derived.OrdersHeld
import Derived.OwnWalk
import Derived.ProofKit
import Derived.RowKit
import Derived.RowKit3
import Derived.ShutString
import Derived.SizedLaws
import Derived.Tactics
import Derived.WalkKit
import Derived.WalkSpells
import Derived.WideLaws
import Derived.Test.YtfjmnaobfbmllaaPatchAllA0
import Derived.Test.YtfjmnaobfbmllaaPatchAllA1
import Derived.Test.YtfjmnaobfbmllaaPatchAllA2
namespace Go.Proofs.Ytfjmnaobfbmllaa.M
open Go.RowKit Go.Proofs.YtfjmnaobfbmllaaW.PrintWords Go.Proofs.YtfjmnaobfbmllaaW.PrintLast Go.Proofs.YtfjmnaobfbmllaaW.PrintMore
attribute [local go_sem] max2_int min2_int max_two min_two max_three min_three max_four min_four   -- for this text's walks alone
set_option linter.unusedVariables false
set_option linter.unusedSimpArgs false
attribute [local go_sem high] eqA33
set_option maxHeartbeats 8000000 in
set_option maxRecDepth 100000 in
theorem seneschalref05_Redo.calls (k : Nat) (a0_0 : Int) (P0_1_ : Nat → Prop) (A0_1 : Option Addr) (c0_1 : Nat) (l0_1 : List (S33)) (a1_0 : Int) (a1_1 : Int) (a1_2 : Int) (a1_3 : Int) (a1_4 : Int) (a1_5 : Int) (a1_6 : Int) (a1_7 : Int) (a1_8 : Bool) (a1_9 : ByteArray) (a1_10 : Bool) (a1_11 : ByteArray) (a1_12 : Int) (r1 : Int) (r2 : List (S33)) (r3 : Bool) (r4 : Int) (w : World) (hs0_1 : Kd.V k33 33 w w.heap.size (fun k_ => P0_1_ k_) (.slice A0_1 l0_1.length c0_1) l0_1) (h : seneschalref05_Redo.f k a0_0 l0_1 a1_0 a1_1 a1_2 a1_3 a1_4 a1_5 a1_6 a1_7 a1_8 a1_9 a1_10 a1_11 a1_12 = some (r1, r2, r3, r4)) :
  Calls Try.prog 68 #[.agg #[.int .i64 a0_0, .slice A0_1 l0_1.length c0_1], .agg #[.int .i64 a1_0, .int .i64 a1_1, .int .i64 a1_2, .int .i64 a1_3, .int .i64 a1_4, .int .i64 a1_5, .int .i64 a1_6, .int .i64 a1_7, .bool a1_8, .string a1_9, .bool a1_10, .string a1_11, .int .i64 a1_12]] w fun e w' => ∃ v1_ : Value, e = .returned (.tuple #[.agg #[.int .i64 r1, v1_], .bool r3, .int .i64 r4]) ∧ Kd.V k33 33 w' w.heap.size (fun k_ => (P0_1_ k_ ∨ w.heap.size ≤ k_)) v1_ r2 ∧ Below w.heap.size w w' := by
 have hu24 := Try.underlying24
 have hu65 := Try.underlying65
 have hu33 := Try.underlying33
 have HO0_1 := Aside0.mk (show Kd.V k33 33 w w.heap.size (fun k_ => (P0_1_ k_ ∨ w.heap.size ≤ k_)) (.slice A0_1 l0_1.length c0_1) l0_1 from Kd.V_mono hs0_1 (fun k_ hk => .inl hk))
 have HB := Aside0.mk (Below.refl w.heap.size w)
 have H : ((refGood3.f a0_0 l0_1).bind fun t104 => (if t104 = true then ((refGood4.f a1_0 a1_1 a1_2 a1_3 a1_4 a1_5 a1_6 a1_7 a1_8 a1_9 a1_10 a1_11 a1_12).bind fun t105 => (if t105 = true then (seneschalref05_Redo.j0 k (decide (a1_0 > 2)) a0_0 l0_1 a1_0 a1_1 a1_2 a1_3 a1_4 a1_5 a1_6 a1_7 a1_8 a1_9 a1_10 a1_11 a1_12) else (seneschalref05_Redo.j0 k true a0_0 l0_1 a1_0 a1_1 a1_2 a1_3 a1_4 a1_5 a1_6 a1_7 a1_8 a1_9 a1_10 a1_11 a1_12))) else (seneschalref05_Redo.j0 k true a0_0 l0_1 a1_0 a1_1 a1_2 a1_3 a1_4 a1_5 a1_6 a1_7 a1_8 a1_9 a1_10 a1_11 a1_12))) = some (r1, r2, r3, r4) := h
 clear h
 have HC3 := Aside0.mk H
 clear H
 go_enter Try.func68, Try.ntmps68
 go_upto_region 1 with (first | ((with_reducible refine gate_dst (N := 2) rfl ?_); refine box_event ?hg (N := 2) ?hd (cs := #[.int .i64 a0_0, .slice A0_1 l0_1.length c0_1]) (t := 24) ?hr ?_; (case hd => rfl); (case hg => rfl); (case hr => first | (go_simp; done) | (go_simp; rfl)); intro gb101 hg w4 hbox hb; have n0_ := Aside0.mk (Kd.V_below (Kd.V_elderB (by (with_reducible repeat (first | apply Kd.V_alloc | apply Kd.V_drewN | apply Kd.V_drew)); exact HO0_1.out) gb101 (Nat.le_of_eq hg.symm)) hb); have n1_ := Aside0.mk (below_step HB.out hb); have n2_ := Aside0.mk (hbox); have n3_ := Aside0.mk ((by rw [hg]; exact below_size HB.out : w.heap.size ≤ gb101)); have n4_ := Aside0.mk ((by rw [hg]; exact below_size HB.out : w.heap.size ≤ gb101)); clear HO0_1; clear HB; have HO0_1 := n0_; have HB := n1_; have BK101 := n2_; have GW101 := n3_; have GE101 := n4_; clear n0_ n1_ n2_ n3_ n4_; clear hb hbox hg) | ((with_reducible refine gate_dst (N := 3) rfl ?_); refine box_event ?hg (N := 3) ?hd (cs := #[.int .i64 a1_0, .int .i64 a1_1, .int .i64 a1_2, .int .i64 a1_3, .int .i64 a1_4, .int .i64 a1_5, .int .i64 a1_6, .int .i64 a1_7, .bool a1_8, .string a1_9, .bool a1_10, .string a1_11, .int .i64 a1_12]) (t := 65) ?hr ?_; (case hd => rfl); (case hg => rfl); (case hr => first | (go_simp; done) | (go_simp; rfl)); intro gb102 hg w5 hbox hb; have n0_ := Aside0.mk (Kd.V_below (Kd.V_elderB (by (with_reducible repeat (first | apply Kd.V_alloc | apply Kd.V_drewN | apply Kd.V_drew)); exact HO0_1.out) gb102 (Nat.le_of_eq hg.symm)) hb); have n1_ := Aside0.mk (blk_below BK101.out hb); have n2_ := Aside0.mk (below_step HB.out hb); have n3_ := Aside0.mk (hbox); have n4_ := Aside0.mk ((by rw [hg]; exact below_size HB.out : w.heap.size ≤ gb102)); have n5_ := Aside0.mk ((by rw [hg]; exact below_size HB.out : w.heap.size ≤ gb102)); have n6_ := Aside0.mk ((by rw [hg]; exact Nat.ne_of_lt (blk_lt BK101.out) : gb101 ≠ gb102)); have n7_ := Aside0.mk ((by rw [hg]; exact Nat.ne_of_gt (blk_lt BK101.out) : gb102 ≠ gb101)); clear HO0_1; clear BK101; clear HB; have HO0_1 := n0_; have BK101 := n1_; have HB := n2_; have BK102 := n3_; have GW102 := n4_; have GE102 := n5_; have NB101_102 := n6_; have NB102_101 := n7_; clear n0_ n1_ n2_ n3_ n4_ n5_ n6_ n7_; clear hb hbox hg) | ((with_reducible refine gate_dst (N := 4) rfl ?_); refine box_event ?hg (N := 4) ?hd (cs := #[.int .i64 0, .slice none 0 0]) (t := 24) ?hr ?_; (case hd => rfl); (case hg => rfl); (case hr => first | (go_simp; done) | (go_simp; rfl)); intro gb103 hg w6 hbox hb; have n0_ := Aside0.mk (Kd.V_below (Kd.V_elderB (by (with_reducible repeat (first | apply Kd.V_alloc | apply Kd.V_drewN | apply Kd.V_drew)); exact HO0_1.out) gb103 (Nat.le_of_eq hg.symm)) hb); have n1_ := Aside0.mk (blk_below BK101.out hb); have n2_ := Aside0.mk (blk_below BK102.out hb); have n3_ := Aside0.mk (below_step HB.out hb); have n4_ := Aside0.mk (hbox); have n5_ := Aside0.mk ((by rw [hg]; exact below_size HB.out : w.heap.size ≤ gb103)); have n6_ := Aside0.mk ((by rw [hg]; exact below_size HB.out : w.heap.size ≤ gb103)); have n7_ := Aside0.mk ((by rw [hg]; exact Nat.ne_of_lt (blk_lt BK101.out) : gb101 ≠ gb103)); have n8_ := Aside0.mk ((by rw [hg]; exact Nat.ne_of_gt (blk_lt BK101.out) : gb103 ≠ gb101)); have n9_ := Aside0.mk ((by rw [hg]; exact Nat.ne_of_lt (blk_lt BK102.out) : gb102 ≠ gb103)); have n10_ := Aside0.mk ((by rw [hg]; exact Nat.ne_of_gt (blk_lt BK102.out) : gb103 ≠ gb102)); clear HO0_1; clear BK101; clear BK102; clear HB; have HO0_1 := n0_; have BK101 := n1_; have BK102 := n2_; have HB := n3_; have BK103 := n4_; have GW103 := n5_; have GE103 := n6_; have NB101_103 := n7_; have NB103_101 := n8_; have NB102_103 := n9_; have NB103_102 := n10_; clear n0_ n1_ n2_ n3_ n4_ n5_ n6_ n7_ n8_ n9_ n10_; clear hb hbox hg))
 (try simp only [Act.put, List.setIfInBounds_toArray, List.set_cons_zero, List.set_cons_succ])
 go_cut [21] (fun v21 wc => ∃ (kq : Nat) (x21_2 : Bool), v21 = .bool x21_2 ∧ Aside0 (seneschalref05_Redo.j0 kq x21_2 a0_0 l0_1 a1_0 a1_1 a1_2 a1_3 a1_4 a1_5 a1_6 a1_7 a1_8 a1_9 a1_10 a1_11 a1_12 = some (r1, r2, r3, r4)) ∧ Aside0 (kq ≤ k) ∧ Aside0 (Kd.V k33 33 wc w.heap.size (fun k_ => (P0_1_ k_ ∨ w.heap.size ≤ k_) ∧ k_ ≠ gb101 ∧ k_ ≠ gb102 ∧ k_ ≠ gb103) (.slice A0_1 l0_1.length c0_1) l0_1) ∧ Aside0 (wc.heap[gb101]? = some (.cells #[.int .i64 a0_0, (.slice A0_1 l0_1.length c0_1)] 24 (0, 0))) ∧ Aside0 (wc.heap[gb102]? = some (.cells #[.int .i64 a1_0, .int .i64 a1_1, .int .i64 a1_2, .int .i64 a1_3, .int .i64 a1_4, .int .i64 a1_5, .int .i64 a1_6, .int .i64 a1_7, .bool a1_8, .string a1_9, .bool a1_10, .string a1_11, .int .i64 a1_12] 65 (0, 0))) ∧ Aside0 (wc.heap[gb103]? = some (.cells #[.int .i64 0, (.slice none 0 0)] 24 (0, 0))) ∧ Aside0 (Below w.heap.size w wc))
 case first =>
  have H := HC3.out
  clear HC3
  replace H := Option.bind_eq_some_iff.mp H
  obtain ⟨t104, A70, H⟩ := H
  replace H : (if t104 = true then ((refGood4.f a1_0 a1_1 a1_2 a1_3 a1_4 a1_5 a1_6 a1_7 a1_8 a1_9 a1_10 a1_11 a1_12).bind fun t105 => (if t105 = true then (seneschalref05_Redo.j0 k (decide (a1_0 > 2)) a0_0 l0_1 a1_0 a1_1 a1_2 a1_3 a1_4 a1_5 a1_6 a1_7 a1_8 a1_9 a1_10 a1_11 a1_12) else (seneschalref05_Redo.j0 k true a0_0 l0_1 a1_0 a1_1 a1_2 a1_3 a1_4 a1_5 a1_6 a1_7 a1_8 a1_9 a1_10 a1_11 a1_12))) else (seneschalref05_Redo.j0 k true a0_0 l0_1 a1_0 a1_1 a1_2 a1_3 a1_4 a1_5 a1_6 a1_7 a1_8 a1_9 a1_10 a1_11 a1_12)) = some (r1, r2, r3, r4) := H
  have A7 := Aside0.mk A70
  clear A70
  by_cases c8 : t104 = true
  ·subst c8
   have H1 : ((refGood4.f a1_0 a1_1 a1_2 a1_3 a1_4 a1_5 a1_6 a1_7 a1_8 a1_9 a1_10 a1_11 a1_12).bind fun t105 => (if t105 = true then (seneschalref05_Redo.j0 k (decide (a1_0 > 2)) a0_0 l0_1 a1_0 a1_1 a1_2 a1_3 a1_4 a1_5 a1_6 a1_7 a1_8 a1_9 a1_10 a1_11 a1_12) else (seneschalref05_Redo.j0 k true a0_0 l0_1 a1_0 a1_1 a1_2 a1_3 a1_4 a1_5 a1_6 a1_7 a1_8 a1_9 a1_10 a1_11 a1_12))) = some (r1, r2, r3, r4) := by rw [if_pos rfl] at H; exact H
   clear H
   have H := H1
   clear H1
   replace H := Option.bind_eq_some_iff.mp H
   obtain ⟨t105, A90, H⟩ := H
   replace H : (if t105 = true then (seneschalref05_Redo.j0 k (decide (a1_0 > 2)) a0_0 l0_1 a1_0 a1_1 a1_2 a1_3 a1_4 a1_5 a1_6 a1_7 a1_8 a1_9 a1_10 a1_11 a1_12) else (seneschalref05_Redo.j0 k true a0_0 l0_1 a1_0 a1_1 a1_2 a1_3 a1_4 a1_5 a1_6 a1_7 a1_8 a1_9 a1_10 a1_11 a1_12)) = some (r1, r2, r3, r4) := H
   have A9 := Aside0.mk A90
   clear A90
   by_cases c10 : t105 = true
   ·subst c10
    have H1 : (seneschalref05_Redo.j0 k (decide (a1_0 > 2)) a0_0 l0_1 a1_0 a1_1 a1_2 a1_3 a1_4 a1_5 a1_6 a1_7 a1_8 a1_9 a1_10 a1_11 a1_12) = some (r1, r2, r3, r4) := by rw [if_pos rfl] at H; exact H
    clear H
    have H := H1
    clear H1
    have H' := Aside0.mk H
    clear H
    have hnb11 := NB101_102.out
    have hnc11 := NB102_101.out
    have hnb12 := NB101_103.out
    have hnc12 := NB103_101.out
    obtain ⟨hcz13_0, hcz13_1⟩ := cl2 (W := w6) BK101.out
    obtain ⟨hfz13_0, hfz13_1⟩ := fr2 BK101.out
    go_wp2_with (first | ((with_reducible refine gate_callee (f := 35) rfl ?_); refine goesL_ (some 10) rfl rfl Try.func35 (by kernel_rfl) rfl #[.agg #[.int .i64 a0_0, .slice A0_1 l0_1.length c0_1]] rfl (by (try simp only [List.map_toArray, List.map_cons, List.map_nil]); first | done | rfl | (simp only [List.length_drop, List.length_take]; rfl)) ?_; (with_reducible refine (refGood3.calls a0_0 _ _ l0_1 true _ ?side1 ?side2 A7.out).mono ?_); (case side1 => repeat (first | exact (Kd.V_reads' HO0_1.out).2.2 | (with_reducible refine Kd.C_alloc ?_ _) | (with_reducible refine Kd.C_drewN ?_ _) | (with_reducible refine Kd.C_drew ?_))); (case side2 => exact (Kd.V_reads' HO0_1.out).2.1); rintro e w14 ⟨rfl, hb⟩; refine ⟨_, rfl, ?_⟩; have n0_ := Aside0.mk (Kd.V_below (by (with_reducible repeat (first | apply Kd.V_alloc | apply Kd.V_drewN | apply Kd.V_drew)); exact HO0_1.out) hb); have n1_ := Aside0.mk (blk_below BK101.out hb); have n2_ := Aside0.mk (blk_below BK102.out hb); have n3_ := Aside0.mk (blk_below BK103.out hb); have n4_ := Aside0.mk (below_step HB.out hb); clear HO0_1; clear BK101; clear BK102; clear BK103; clear HB; have HO0_1 := n0_; have BK101 := n1_; have BK102 := n2_; have BK103 := n3_; have HB := n4_; clear n0_ n1_ n2_ n3_ n4_; (try clear hb); (try clear hb2); (try clear hk); (try clear hi); have hnb15 := NB102_103.out; have hnc15 := NB103_102.out; obtain ⟨hcz16_0, hcz16_1, hcz16_2, hcz16_3, hcz16_4, hcz16_5, hcz16_6, hcz16_7, hcz16_8, hcz16_9, hcz16_10, hcz16_11, hcz16_12⟩ := cl13 (W := w14) BK102.out; obtain ⟨hfz16_0, hfz16_1, hfz16_2, hfz16_3, hfz16_4, hfz16_5, hfz16_6, hfz16_7, hfz16_8, hfz16_9, hfz16_10, hfz16_11, hfz16_12⟩ := fr13 BK102.out) | (go_at_call 56; (with_reducible refine (refGood4.calls a1_0 a1_1 a1_2 a1_3 a1_4 a1_5 a1_6 a1_7 a1_8 a1_9 a1_10 a1_11 a1_12 true _ A9.out).mono ?_); rintro e w17 ⟨rfl, hb⟩; have n0_ := Aside0.mk (Kd.V_below (by (with_reducible repeat (first | apply Kd.V_alloc | apply Kd.V_drewN | apply Kd.V_drew)); exact HO0_1.out) hb); have n1_ := Aside0.mk (blk_below BK101.out hb); have n2_ := Aside0.mk (blk_below BK102.out hb); have n3_ := Aside0.mk (blk_below BK103.out hb); have n4_ := Aside0.mk (below_step HB.out hb); clear HO0_1; clear BK101; clear BK102; clear BK103; clear HB; have HO0_1 := n0_; have BK101 := n1_; have BK102 := n2_; have BK103 := n3_; have HB := n4_; clear n0_ n1_ n2_ n3_ n4_; (try clear hb); (try clear hb2); (try clear hk); (try clear hi); obtain ⟨hcz18_0, hcz18_1, hcz18_2, hcz18_3, hcz18_4, hcz18_5, hcz18_6, hcz18_7, hcz18_8, hcz18_9, hcz18_10, hcz18_11, hcz18_12⟩ := cl13 (W := w17) BK102.out; obtain ⟨hfz18_0, hfz18_1, hfz18_2, hfz18_3, hfz18_4, hfz18_5, hfz18_6, hfz18_7, hfz18_8, hfz18_9, hfz18_10, hfz18_11, hfz18_12⟩ := fr13 BK102.out))
    go_meet
    case rel => exact ⟨_, (decide (a1_0 > 2)), (by first | rfl | (simp; done) | (simp [*]; done)), H', ⟨by first | omega | exact Nat.le_refl _⟩, ⟨by (with_reducible repeat (first | apply Kd.V_alloc | apply Kd.V_drewN | apply Kd.V_drew)); exact Kd.V_mono HO0_1.out (fun _ hk => ⟨hk.1.1.1, ⟨hk.1.1.2, ⟨hk.1.2, hk.2⟩⟩⟩)⟩, ⟨by (with_reducible repeat (first | refine blk_drewN ?_ _ | refine blk_drew ?_ | refine blk_alloc ?_ _)); exact BK101.out⟩, ⟨by (with_reducible repeat (first | refine blk_drewN ?_ _ | refine blk_drew ?_ | refine blk_alloc ?_ _)); exact BK102.out⟩, ⟨by (with_reducible repeat (first | refine blk_drewN ?_ _ | refine blk_drew ?_ | refine blk_alloc ?_ _)); exact BK103.out⟩, ⟨by repeat (first | (with_reducible first | exact HB.out | apply below_alloc | apply pw_below_drewN | apply below_drew1 | refine below_set ?_ GE101.out | refine below_set ?_ GE102.out | refine below_set ?_ GE103.out) | exact HB.out)⟩⟩
   ·replace c10 := Bool.eq_false_iff.mpr c10
    subst c10
    have H1 : (seneschalref05_Redo.j0 k true a0_0 l0_1 a1_0 a1_1 a1_2 a1_3 a1_4 a1_5 a1_6 a1_7 a1_8 a1_9 a1_10 a1_11 a1_12) = some (r1, r2, r3, r4) := by rw [if_neg (show ¬ (false = true) by decide)] at H; exact H
    clear H
    have H := H1
    clear H1
    have H' := Aside0.mk H
    clear H
    have hnb19 := NB101_102.out
    have hnc19 := NB102_101.out
    have hnb20 := NB101_103.out
    have hnc20 := NB103_101.out
    obtain ⟨hcz21_0, hcz21_1⟩ := cl2 (W := w6) BK101.out
    obtain ⟨hfz21_0, hfz21_1⟩ := fr2 BK101.out
    go_wp2_with (first | ((with_reducible refine gate_callee (f := 35) rfl ?_); refine goesL_ (some 10) rfl rfl Try.func35 (by kernel_rfl) rfl #[.agg #[.int .i64 a0_0, .slice A0_1 l0_1.length c0_1]] rfl (by (try simp only [List.map_toArray, List.map_cons, List.map_nil]); first | done | rfl | (simp only [List.length_drop, List.length_take]; rfl)) ?_; (with_reducible refine (refGood3.calls a0_0 _ _ l0_1 true _ ?side1 ?side2 A7.out).mono ?_); (case side1 => repeat (first | exact (Kd.V_reads' HO0_1.out).2.2 | (with_reducible refine Kd.C_alloc ?_ _) | (with_reducible refine Kd.C_drewN ?_ _) | (with_reducible refine Kd.C_drew ?_))); (case side2 => exact (Kd.V_reads' HO0_1.out).2.1); rintro e w22 ⟨rfl, hb⟩; refine ⟨_, rfl, ?_⟩; have n0_ := Aside0.mk (Kd.V_below (by (with_reducible repeat (first | apply Kd.V_alloc | apply Kd.V_drewN | apply Kd.V_drew)); exact HO0_1.out) hb); have n1_ := Aside0.mk (blk_below BK101.out hb); have n2_ := Aside0.mk (blk_below BK102.out hb); have n3_ := Aside0.mk (blk_below BK103.out hb); have n4_ := Aside0.mk (below_step HB.out hb); clear HO0_1; clear BK101; clear BK102; clear BK103; clear HB; have HO0_1 := n0_; have BK101 := n1_; have BK102 := n2_; have BK103 := n3_; have HB := n4_; clear n0_ n1_ n2_ n3_ n4_; (try clear hb); (try clear hb2); (try clear hk); (try clear hi); have hnb23 := NB102_103.out; have hnc23 := NB103_102.out; obtain ⟨hcz24_0, hcz24_1, hcz24_2, hcz24_3, hcz24_4, hcz24_5, hcz24_6, hcz24_7, hcz24_8, hcz24_9, hcz24_10, hcz24_11, hcz24_12⟩ := cl13 (W := w22) BK102.out; obtain ⟨hfz24_0, hfz24_1, hfz24_2, hfz24_3, hfz24_4, hfz24_5, hfz24_6, hfz24_7, hfz24_8, hfz24_9, hfz24_10, hfz24_11, hfz24_12⟩ := fr13 BK102.out) | (go_at_call 56; (with_reducible refine (refGood4.calls a1_0 a1_1 a1_2 a1_3 a1_4 a1_5 a1_6 a1_7 a1_8 a1_9 a1_10 a1_11 a1_12 false _ A9.out).mono ?_); rintro e w25 ⟨rfl, hb⟩; have n0_ := Aside0.mk (Kd.V_below (by (with_reducible repeat (first | apply Kd.V_alloc | apply Kd.V_drewN | apply Kd.V_drew)); exact HO0_1.out) hb); have n1_ := Aside0.mk (blk_below BK101.out hb); have n2_ := Aside0.mk (blk_below BK102.out hb); have n3_ := Aside0.mk (blk_below BK103.out hb); have n4_ := Aside0.mk (below_step HB.out hb); clear HO0_1; clear BK101; clear BK102; clear BK103; clear HB; have HO0_1 := n0_; have BK101 := n1_; have BK102 := n2_; have BK103 := n3_; have HB := n4_; clear n0_ n1_ n2_ n3_ n4_; (try clear hb); (try clear hb2); (try clear hk); (try clear hi)))
    go_meet
    case rel => exact ⟨_, (true), (by first | rfl | (simp; done) | (simp [*]; done)), H', ⟨by first | omega | exact Nat.le_refl _⟩, ⟨by (with_reducible repeat (first | apply Kd.V_alloc | apply Kd.V_drewN | apply Kd.V_drew)); exact Kd.V_mono HO0_1.out (fun _ hk => ⟨hk.1.1.1, ⟨hk.1.1.2, ⟨hk.1.2, hk.2⟩⟩⟩)⟩, ⟨by (with_reducible repeat (first | refine blk_drewN ?_ _ | refine blk_drew ?_ | refine blk_alloc ?_ _)); exact BK101.out⟩, ⟨by (with_reducible repeat (first | refine blk_drewN ?_ _ | refine blk_drew ?_ | refine blk_alloc ?_ _)); exact BK102.out⟩, ⟨by (with_reducible repeat (first | refine blk_drewN ?_ _ | refine blk_drew ?_ | refine blk_alloc ?_ _)); exact BK103.out⟩, ⟨by repeat (first | (with_reducible first | exact HB.out | apply below_alloc | apply pw_below_drewN | apply below_drew1 | refine below_set ?_ GE101.out | refine below_set ?_ GE102.out | refine below_set ?_ GE103.out) | exact HB.out)⟩⟩
  ·replace c8 := Bool.eq_false_iff.mpr c8
   subst c8
   have H1 : (seneschalref05_Redo.j0 k true a0_0 l0_1 a1_0 a1_1 a1_2 a1_3 a1_4 a1_5 a1_6 a1_7 a1_8 a1_9 a1_10 a1_11 a1_12) = some (r1, r2, r3, r4) := by rw [if_neg (show ¬ (false = true) by decide)] at H; exact H
   clear H
   have H := H1
   clear H1
   have H' := Aside0.mk H
   clear H
   have hnb26 := NB101_102.out
   have hnc26 := NB102_101.out
   have hnb27 := NB101_103.out
   have hnc27 := NB103_101.out
   obtain ⟨hcz28_0, hcz28_1⟩ := cl2 (W := w6) BK101.out
   obtain ⟨hfz28_0, hfz28_1⟩ := fr2 BK101.out
   go_wp2_with (first | ((with_reducible refine gate_callee (f := 35) rfl ?_); refine goesL_ (some 10) rfl rfl Try.func35 (by kernel_rfl) rfl #[.agg #[.int .i64 a0_0, .slice A0_1 l0_1.length c0_1]] rfl (by (try simp only [List.map_toArray, List.map_cons, List.map_nil]); first | done | rfl | (simp only [List.length_drop, List.length_take]; rfl)) ?_; (with_reducible refine (refGood3.calls a0_0 _ _ l0_1 false _ ?side1 ?side2 A7.out).mono ?_); (case side1 => repeat (first | exact (Kd.V_reads' HO0_1.out).2.2 | (with_reducible refine Kd.C_alloc ?_ _) | (with_reducible refine Kd.C_drewN ?_ _) | (with_reducible refine Kd.C_drew ?_))); (case side2 => exact (Kd.V_reads' HO0_1.out).2.1); rintro e w29 ⟨rfl, hb⟩; refine ⟨_, rfl, ?_⟩; have n0_ := Aside0.mk (Kd.V_below (by (with_reducible repeat (first | apply Kd.V_alloc | apply Kd.V_drewN | apply Kd.V_drew)); exact HO0_1.out) hb); have n1_ := Aside0.mk (blk_below BK101.out hb); have n2_ := Aside0.mk (blk_below BK102.out hb); have n3_ := Aside0.mk (blk_below BK103.out hb); have n4_ := Aside0.mk (below_step HB.out hb); clear HO0_1; clear BK101; clear BK102; clear BK103; clear HB; have HO0_1 := n0_; have BK101 := n1_; have BK102 := n2_; have BK103 := n3_; have HB := n4_; clear n0_ n1_ n2_ n3_ n4_; (try clear hb); (try clear hb2); (try clear hk); (try clear hi)))
   go_meet
   case rel => exact ⟨_, (true), (by first | rfl | (simp; done) | (simp [*]; done)), H', ⟨by first | omega | exact Nat.le_refl _⟩, ⟨by (with_reducible repeat (first | apply Kd.V_alloc | apply Kd.V_drewN | apply Kd.V_drew)); exact Kd.V_mono HO0_1.out (fun _ hk => ⟨hk.1.1.1, ⟨hk.1.1.2, ⟨hk.1.2, hk.2⟩⟩⟩)⟩, ⟨by (with_reducible repeat (first | refine blk_drewN ?_ _ | refine blk_drew ?_ | refine blk_alloc ?_ _)); exact BK101.out⟩, ⟨by (with_reducible repeat (first | refine blk_drewN ?_ _ | refine blk_drew ?_ | refine blk_alloc ?_ _)); exact BK102.out⟩, ⟨by (with_reducible repeat (first | refine blk_drewN ?_ _ | refine blk_drew ?_ | refine blk_alloc ?_ _)); exact BK103.out⟩, ⟨by repeat (first | (with_reducible first | exact HB.out | apply below_alloc | apply pw_below_drewN | apply below_drew1 | refine below_set ?_ GE101.out | refine below_set ?_ GE102.out | refine below_set ?_ GE103.out) | exact HB.out)⟩⟩
 case rest =>
  clear HC3
  try clear c1
  try clear c2
  try clear p2
  try clear c3
  try clear c6
  try clear c8
  try clear c10
  try clear c11
  try clear c12
  try clear c15
  try clear c19
  try clear c20
  try clear c23
  try clear c26
  try clear c27
  try clear hcz13_0
  try clear hcz13_1
  try clear hcz16_0
  try clear hcz16_1
  try clear hcz16_10
  try clear hcz16_11
  try clear hcz16_12
  try clear hcz16_2
  try clear hcz16_3
  try clear hcz16_4
  try clear hcz16_5
  try clear hcz16_6
  try clear hcz16_7
  try clear hcz16_8
  try clear hcz16_9
  try clear hcz18_0
  try clear hcz18_1
  try clear hcz18_10
  try clear hcz18_11
  try clear hcz18_12
  try clear hcz18_2
  try clear hcz18_3
  try clear hcz18_4
  try clear hcz18_5
  try clear hcz18_6
  try clear hcz18_7
  try clear hcz18_8
  try clear hcz18_9
  try clear hcz21_0
  try clear hcz21_1
  try clear hcz24_0
  try clear hcz24_1
  try clear hcz24_10
  try clear hcz24_11
  try clear hcz24_12
  try clear hcz24_2
  try clear hcz24_3
  try clear hcz24_4
  try clear hcz24_5
  try clear hcz24_6
  try clear hcz24_7
  try clear hcz24_8
  try clear hcz24_9
  try clear hcz28_0
  try clear hcz28_1
  try clear hfz13_0
  try clear hfz13_1
  try clear hfz16_0
  try clear hfz16_1
  try clear hfz16_10
  try clear hfz16_11
  try clear hfz16_12
  try clear hfz16_2
  try clear hfz16_3
  try clear hfz16_4
  try clear hfz16_5
  try clear hfz16_6
  try clear hfz16_7
  try clear hfz16_8
  try clear hfz16_9
  try clear hfz18_0
  try clear hfz18_1
  try clear hfz18_10
  try clear hfz18_11
  try clear hfz18_12
  try clear hfz18_2
  try clear hfz18_3
  try clear hfz18_4
  try clear hfz18_5
  try clear hfz18_6
  try clear hfz18_7
  try clear hfz18_8
  try clear hfz18_9
  try clear hfz21_0
  try clear hfz21_1
  try clear hfz24_0
  try clear hfz24_1
  try clear hfz24_10
  try clear hfz24_11
  try clear hfz24_12
  try clear hfz24_2
  try clear hfz24_3
  try clear hfz24_4
  try clear hfz24_5
  try clear hfz24_6
  try clear hfz24_7
  try clear hfz24_8
  try clear hfz24_9
  try clear hfz28_0
  try clear hfz28_1
  obtain ⟨kq, x21_2, rfl, HA, HJ2, HO_102001, BK101, BK102, BK103, HB⟩ := hcut
  cases kq with
  | zero => exact absurd HA.out (by simp [seneschalref05_Redo.j0])
  | succ kj2 =>
   have H := HA.out
   clear HA
   simp only [seneschalref05_Redo.j0] at H
   by_cases c30 : x21_2 = true
   ·subst c30
    have H1 : (some (0, ([] : List (S33)), false, 1)) = some (r1, r2, r3, r4) := by rw [if_pos rfl] at H; exact H
    clear H
    have H := H1
    clear H1
    simp only [Option.some.injEq, Prod.mk.injEq] at H
    obtain ⟨rfl, rfl, rfl, rfl⟩ := H
    have hnb31 := NB103_101.out
    have hnc31 := NB101_103.out
    have hnb32 := NB103_102.out
    have hnc32 := NB102_103.out
    obtain ⟨hcz33_0, hcz33_1⟩ := cl2 (W := wc) BK103.out
    obtain ⟨hfz33_0, hfz33_1⟩ := fr2 BK103.out
    go_wp2
    refine bodyPost_ret (results_ctt rfl _ _ gb103 24 #[.int .i64 0, .slice none 0 0] (0, 0) _ rfl (by (with_reducible repeat (first | refine blk_drewN ?_ _ | refine blk_drew ?_ | refine blk_alloc ?_ _)); refine blk_put (cs := #[.int .i64 0, .slice none 0 0]) ?_ 1 _ rfl; refine blk_put (cs := #[.int .i64 0, .slice none 0 0]) ?_ 0 _ rfl; (with_reducible repeat (first | refine blk_drewN ?_ _ | refine blk_drew ?_ | refine blk_alloc ?_ _)); exact BK103.out) Try.underlying24 rfl (by kernel_rfl)) rfl ?_
    exact ⟨_, by first | rfl | (simp [errW_none, errW_some] <;> rfl) | (simp [*, errW_none, errW_some] <;> rfl), Kd.V_nil _ _ _ _ _, by repeat (first | (with_reducible first | exact HB.out | apply below_alloc | apply pw_below_drewN | apply below_drew1 | refine below_set ?_ GE101.out | refine below_set ?_ GE102.out | refine below_set ?_ GE103.out) | exact HB.out)⟩
   ·replace c30 := Bool.eq_false_iff.mpr c30
    subst c30
    have H1 : (if a1_4 ≤ a0_0 then (some (a0_0, l0_1, false, 0)) else ((refAt.f a0_0 l0_1 a1_7).bind fun bt106 => (if (!(bt106.1 == a1_8) || (!(bt106.2.toList == a1_9.toList))) = true then (some (0, ([] : List (S33)), false, 21)) else ((refPut.f a0_0 l0_1 a1_7 a1_10 a1_11).bind fun bt108 => (if bt108.2.2 = 0 then (some (a1_4, bt108.2.1, true, 0)) else (some (0, ([] : List (S33)), false, bt108.2.2))))))) = some (r1, r2, r3, r4) := by rw [if_neg (show ¬ (false = true) by decide)] at H; exact H
    clear H
    have H := H1
    clear H1
    by_cases c34 : a1_4 ≤ a0_0
    ·rw [if_pos c34] at H
     have c34b0 : decide (a1_4 ≤ a0_0) = true := decide_eq_true c34
     clear c34
     simp only [Option.some.injEq, Prod.mk.injEq] at H
     obtain ⟨rfl, rfl, rfl, rfl⟩ := H
     have hnb35 := NB102_101.out
     have hnc35 := NB101_102.out
     have hnb36 := NB102_103.out
     have hnc36 := NB103_102.out
     obtain ⟨hcz37_0, hcz37_1, hcz37_2, hcz37_3, hcz37_4, hcz37_5, hcz37_6, hcz37_7, hcz37_8, hcz37_9, hcz37_10, hcz37_11, hcz37_12⟩ := cl13 (W := wc) BK102.out
     obtain ⟨hfz37_0, hfz37_1, hfz37_2, hfz37_3, hfz37_4, hfz37_5, hfz37_6, hfz37_7, hfz37_8, hfz37_9, hfz37_10, hfz37_11, hfz37_12⟩ := fr13 BK102.out
     have hnb38 := NB101_103.out
     have hnc38 := NB103_101.out
     obtain ⟨hcz39_0, hcz39_1⟩ := cl2 (W := wc) BK101.out
     obtain ⟨hfz39_0, hfz39_1⟩ := fr2 BK101.out
     obtain ⟨hcz40_0, hcz40_1⟩ := cl2 (W := wc) BK103.out
     obtain ⟨hfz40_0, hfz40_1⟩ := fr2 BK103.out
     go_wp2
     refine bodyPost_ret (results_ctt rfl _ _ gb103 24 #[.int .i64 a0_0, .slice A0_1 l0_1.length c0_1] (0, 0) _ rfl (by (with_reducible repeat (first | refine blk_drewN ?_ _ | refine blk_drew ?_ | refine blk_alloc ?_ _)); refine blk_put (cs := #[.int .i64 a0_0, .slice none 0 0]) ?_ 1 _ rfl; refine blk_put (cs := #[.int .i64 0, .slice none 0 0]) ?_ 0 _ rfl; (with_reducible repeat (first | refine blk_drewN ?_ _ | refine blk_drew ?_ | refine blk_alloc ?_ _)); exact BK103.out) Try.underlying24 rfl (by kernel_rfl)) rfl ?_
     exact ⟨_, by first | rfl | (simp [errW_none, errW_some] <;> rfl) | (simp [*, errW_none, errW_some] <;> rfl), by (with_reducible repeat (first | apply Kd.V_alloc | apply Kd.V_drewN | apply Kd.V_drew)); exact Kd.V_mono (Kd.V_far (p := ⟨gb103, 1, none⟩) (Kd.V_far (p := ⟨gb103, 0, none⟩) (Kd.V_mono HO_102001.out (fun k_ hk => (⟨hk, hk.2.2.2⟩ : _ ∧ k_ ≠ gb103))) (fun _ hk => hk.2) (.int .i64 a0_0)) (fun _ hk => hk.2) (.slice A0_1 l0_1.length c0_1)) (fun _ hk => hk.1.1), by repeat (first | (with_reducible first | exact HB.out | apply below_alloc | apply pw_below_drewN | apply below_drew1 | refine below_set ?_ GE101.out | refine below_set ?_ GE102.out | refine below_set ?_ GE103.out) | exact HB.out)⟩
    ·rw [if_neg c34] at H
     have c34b0 : decide (a1_4 ≤ a0_0) = false := decide_eq_false c34
     clear c34
     replace H := Option.bind_eq_some_iff.mp H
     obtain ⟨⟨t106, t107⟩, A410, H⟩ := H
     replace H : (if (!(t106 == a1_8) || (!(t107.toList == a1_9.toList))) = true then (some (0, ([] : List (S33)), false, 21)) else ((refPut.f a0_0 l0_1 a1_7 a1_10 a1_11).bind fun bt108 => (if bt108.2.2 = 0 then (some (a1_4, bt108.2.1, true, 0)) else (some (0, ([] : List (S33)), false, bt108.2.2))))) = some (r1, r2, r3, r4) := H
     have A41 := Aside0.mk A410
     clear A410
     by_cases c42 : (!(t106 == a1_8) || (!(t107.toList == a1_9.toList))) = true
     ·rw [if_pos c42] at H
      have c42b0 : (!(t106 == a1_8) || (!(t107.toList == a1_9.toList))) = true := c42
      clear c42
      simp only [Option.some.injEq, Prod.mk.injEq] at H
      obtain ⟨rfl, rfl, rfl, rfl⟩ := H
      have hnb43 := NB102_101.out
      have hnc43 := NB101_102.out
      have hnb44 := NB102_103.out
      have hnc44 := NB103_102.out
      obtain ⟨hcz45_0, hcz45_1, hcz45_2, hcz45_3, hcz45_4, hcz45_5, hcz45_6, hcz45_7, hcz45_8, hcz45_9, hcz45_10, hcz45_11, hcz45_12⟩ := cl13 (W := wc) BK102.out
      obtain ⟨hfz45_0, hfz45_1, hfz45_2, hfz45_3, hfz45_4, hfz45_5, hfz45_6, hfz45_7, hfz45_8, hfz45_9, hfz45_10, hfz45_11, hfz45_12⟩ := fr13 BK102.out
      have hnb46 := NB101_103.out
      have hnc46 := NB103_101.out
      obtain ⟨hcz47_0, hcz47_1⟩ := cl2 (W := wc) BK101.out
      obtain ⟨hfz47_0, hfz47_1⟩ := fr2 BK101.out
      try go_wp2
      have n0_ := Aside0.mk (Kd.V_drew HO_102001.out)
      have n1_ := Aside0.mk (blk_drew BK101.out)
      have n2_ := Aside0.mk (blk_drew BK102.out)
      have n3_ := Aside0.mk (blk_drew BK103.out)
      have n4_ := Aside0.mk (below_drew1 HB.out)
      clear HO_102001
      clear BK101
      clear BK102
      clear BK103
      clear HB
      have HO_102001 := n0_
      have BK101 := n1_
      have BK102 := n2_
      have BK103 := n3_
      have HB := n4_
      clear n0_ n1_ n2_ n3_ n4_
      refine start_ (n := 7) (S := fun w' => w'.cell? ⟨gb101, 0, none⟩ = some (.int .i64 a0_0) ∧ w'.cell? ⟨gb101, 1, none⟩ = some (.slice A0_1 l0_1.length c0_1) ∧ w'.cell? ⟨gb102, 0, none⟩ = some (.int .i64 a1_0) ∧ w'.cell? ⟨gb102, 1, none⟩ = some (.int .i64 a1_1) ∧ w'.cell? ⟨gb102, 2, none⟩ = some (.int .i64 a1_2) ∧ w'.cell? ⟨gb102, 3, none⟩ = some (.int .i64 a1_3) ∧ w'.cell? ⟨gb102, 4, none⟩ = some (.int .i64 a1_4) ∧ w'.cell? ⟨gb102, 5, none⟩ = some (.int .i64 a1_5) ∧ w'.cell? ⟨gb102, 6, none⟩ = some (.int .i64 a1_6) ∧ w'.cell? ⟨gb102, 7, none⟩ = some (.int .i64 a1_7) ∧ w'.cell? ⟨gb102, 8, none⟩ = some (.bool a1_8) ∧ w'.cell? ⟨gb102, 9, none⟩ = some (.string a1_9) ∧ w'.cell? ⟨gb102, 10, none⟩ = some (.bool a1_10) ∧ w'.cell? ⟨gb102, 11, none⟩ = some (.string a1_11) ∧ w'.cell? ⟨gb102, 12, none⟩ = some (.int .i64 a1_12)) (ds := []) #[false, false, false, false, false, false, false] (by kernel_rfl) rfl rfl ⟨(blk_cell BK101.out 0).trans rfl, (blk_cell BK101.out 1).trans rfl, (blk_cell BK102.out 0).trans rfl, (blk_cell BK102.out 1).trans rfl, (blk_cell BK102.out 2).trans rfl, (blk_cell BK102.out 3).trans rfl, (blk_cell BK102.out 4).trans rfl, (blk_cell BK102.out 5).trans rfl, (blk_cell BK102.out 6).trans rfl, (blk_cell BK102.out 7).trans rfl, (blk_cell BK102.out 8).trans rfl, (blk_cell BK102.out 9).trans rfl, (blk_cell BK102.out 10).trans rfl, (blk_cell BK102.out 11).trans rfl, (blk_cell BK102.out 12).trans rfl⟩ (fun hHeld => ?_)
      generalize wc.drew = w48 at HO_102001 BK101 BK102 BK103 HB hHeld ⊢
      refine pure_ (i := 1) (N := some 30) (v := ?_) (a' := ?_) #[false, true, false, false, false, false, false] rfl rfl (by kernel_rfl) (fun _ _ _ h => h) (Or.inl ⟨by rfl, ?_⟩) ?_ ?_
      rotate_left
      ·intro w'
       go_simp
       with_reducible rfl
      rotate_left
      ·simp only [Act.put, List.setIfInBounds_toArray, List.set_cons_zero, List.set_cons_succ, i64_w, i32_w]
       rfl
      refine pure_ (i := 4) (N := some 33) (v := ?_) (a' := ?_) #[false, true, false, false, true, false, false] rfl rfl (by kernel_rfl) (fun _ _ _ h => h) (Or.inl ⟨by rfl, ?_⟩) ?_ ?_
      rotate_left
      ·intro w'
       go_simp
       with_reducible rfl
      rotate_left
      ·simp only [Act.put, List.setIfInBounds_toArray, List.set_cons_zero, List.set_cons_succ, i64_w, i32_w]
       rfl
      refine take_ (i := 0) (N := some 29) (v := ?_) (a' := ?_) #[true, true, false, false, true, false, false] rfl rfl (by kernel_rfl) (fun _ _ _ h => h) (Or.inl ⟨by rfl, ?_⟩) hHeld ?_ ?_
      rotate_left
      ·rintro w' ⟨s0, s1, s2, s3, s4, s5, s6, s7, s8, s9, s10, s11, s12, s13, s14⟩
       go_simp
       with_reducible rfl
      rotate_left
      ·simp only [Act.put, List.setIfInBounds_toArray, List.set_cons_zero, List.set_cons_succ, i64_w, i32_w]
       rfl
      refine take_ (i := 2) (N := some 31) (v := ?_) (a' := ?_) #[true, true, true, false, true, false, false] rfl rfl (by kernel_rfl) (fun _ _ _ h => h) (Or.inl ⟨by rfl, ?_⟩) hHeld ?_ ?_
      rotate_left
      ·rintro w' ⟨s0, s1, s2, s3, s4, s5, s6, s7, s8, s9, s10, s11, s12, s13, s14⟩
       go_simp
       with_reducible rfl
      rotate_left
      ·simp only [Act.put, List.setIfInBounds_toArray, List.set_cons_zero, List.set_cons_succ, i64_w, i32_w]
       rfl
      refine take_ (i := 5) (N := some 34) (v := ?_) (a' := ?_) #[true, true, true, false, true, true, false] rfl rfl (by kernel_rfl) (fun _ _ _ h => h) (Or.inl ⟨by rfl, ?_⟩) hHeld ?_ ?_
      rotate_left
      ·rintro w' ⟨s0, s1, s2, s3, s4, s5, s6, s7, s8, s9, s10, s11, s12, s13, s14⟩
       go_simp
       with_reducible rfl
      rotate_left
      ·simp only [Act.put, List.setIfInBounds_toArray, List.set_cons_zero, List.set_cons_succ, i64_w, i32_w]
       rfl
      refine one_ (i := 3) (N := some 32) #[true, true, true, true, true, true, false] rfl rfl (by kernel_rfl) (by decide) (fun K hK => ?_)
      refine goes_ Try.func40 (by kernel_rfl) rfl #[.agg #[.int .i64 a0_0, .slice A0_1 l0_1.length c0_1], .int .i64 a1_7] (by rfl) rfl rfl (by (try simp only [List.map_toArray, List.map_cons, List.map_nil]); first | done | rfl | (simp only [List.length_drop, List.length_take]; rfl)) ?_
      with_reducible refine (refAt.calls a0_0 _ _ l0_1 a1_7 t106 t107 _ ?side1 ?side2 A41.out).mono ?_
      (case side1 => repeat (first | exact (Kd.V_reads' HO_102001.out).2.2 | (with_reducible refine Kd.C_alloc ?_ _) | (with_reducible refine Kd.C_drewN ?_ _) | (with_reducible refine Kd.C_drew ?_)))
      (case side2 => exact (Kd.V_reads' HO_102001.out).2.1)
      rintro e w49 ⟨rfl, hb⟩
      refine ⟨_, rfl, ?_⟩
      have n0_ := Aside0.mk (Kd.V_below (by (with_reducible repeat (first | apply Kd.V_alloc | apply Kd.V_drewN | apply Kd.V_drew)); exact HO_102001.out) hb)
      have n1_ := Aside0.mk (blk_below BK101.out hb)
      have n2_ := Aside0.mk (blk_below BK102.out hb)
      have n3_ := Aside0.mk (blk_below BK103.out hb)
      have n4_ := Aside0.mk (below_step HB.out hb)
      clear HO_102001
      clear BK101
      clear BK102
      clear BK103
      clear HB
      have HO_102001 := n0_
      have BK101 := n1_
      have BK102 := n2_
      have BK103 := n3_
      have HB := n4_
      clear n0_ n1_ n2_ n3_ n4_
      (try clear hb)
      (try clear hb2)
      (try clear hk)
      (try clear hi)
      refine hK.out _ _ ⟨(blk_cell BK101.out 0).trans rfl, (blk_cell BK101.out 1).trans rfl, (blk_cell BK102.out 0).trans rfl, (blk_cell BK102.out 1).trans rfl, (blk_cell BK102.out 2).trans rfl, (blk_cell BK102.out 3).trans rfl, (blk_cell BK102.out 4).trans rfl, (blk_cell BK102.out 5).trans rfl, (blk_cell BK102.out 6).trans rfl, (blk_cell BK102.out 7).trans rfl, (blk_cell BK102.out 8).trans rfl, (blk_cell BK102.out 9).trans rfl, (blk_cell BK102.out 10).trans rfl, (blk_cell BK102.out 11).trans rfl, (blk_cell BK102.out 12).trans rfl⟩ (fun hHeld => ?_)
      clear hK K
      refine norm_ (a' := ?_) ?_ ?_
      rotate_left
      ·show Act.put _ (some 32) _ = _
       simp only [Act.put, List.setIfInBounds_toArray, List.set_cons_zero, List.set_cons_succ, i64_w, i32_w]
       rfl
      refine pure_ (i := 6) (N := some 35) (v := ?_) (a' := ?_) #[true, true, true, true, true, true, true] rfl rfl (by kernel_rfl) (fun _ _ _ h => h) (Or.inl ⟨by rfl, ?_⟩) ?_ ?_
      rotate_left
      ·intro w'
       go_simp
       with_reducible rfl
      rotate_left
      ·simp only [Act.put, List.setIfInBounds_toArray, List.set_cons_zero, List.set_cons_succ, i64_w, i32_w]
       rfl
      refine done_ (by kernel_rfl) ?_
      obtain ⟨hcz50_0, hcz50_1⟩ := cl2 (W := w49) BK103.out
      obtain ⟨hfz50_0, hfz50_1⟩ := fr2 BK103.out
      try go_wp2
      refine bodyPost_ret (results_ctt rfl _ _ gb103 24 #[.int .i64 0, .slice none 0 0] (0, 0) _ rfl (by (with_reducible repeat (first | refine blk_drewN ?_ _ | refine blk_drew ?_ | refine blk_alloc ?_ _)); refine blk_put (cs := #[.int .i64 0, .slice none 0 0]) ?_ 1 _ rfl; refine blk_put (cs := #[.int .i64 0, .slice none 0 0]) ?_ 0 _ rfl; (with_reducible repeat (first | refine blk_drewN ?_ _ | refine blk_drew ?_ | refine blk_alloc ?_ _)); exact BK103.out) Try.underlying24 rfl (by kernel_rfl)) rfl ?_
      exact ⟨_, by first | rfl | (simp [errW_none, errW_some] <;> rfl) | (simp [*, errW_none, errW_some] <;> rfl), Kd.V_nil _ _ _ _ _, by repeat (first | (with_reducible first | exact HB.out | apply below_alloc | apply pw_below_drewN | apply below_drew1 | refine below_set ?_ GE101.out | refine below_set ?_ GE102.out | refine below_set ?_ GE103.out) | exact HB.out)⟩
     ·rw [if_neg c42] at H
      have c42b0 : (!(t106 == a1_8) || (!(t107.toList == a1_9.toList))) = false := by simpa using c42
      clear c42
      replace H := Option.bind_eq_some_iff.mp H
      obtain ⟨⟨t108, t109, t112⟩, A510, H⟩ := H
      replace H : (if t112 = 0 then (some (a1_4, t109, true, 0)) else (some (0, ([] : List (S33)), false, t112))) = some (r1, r2, r3, r4) := H
      have A51 := Aside0.mk A510
      clear A510
      by_cases c52 : t112 = 0
      ·rw [if_pos c52] at H
       have c52b0 : (t112 == 0) = true := beq_iff_eq.mpr c52
       have c52b1 : (t112 != 0) = false := bne_eq_false_iff_eq.mpr c52
       clear c52
       simp only [Option.some.injEq, Prod.mk.injEq] at H
       obtain ⟨rfl, rfl, rfl, rfl⟩ := H
       have hnb53 := NB102_101.out
       have hnc53 := NB101_102.out
       have hnb54 := NB102_103.out
       have hnc54 := NB103_102.out
       obtain ⟨hcz55_0, hcz55_1, hcz55_2, hcz55_3, hcz55_4, hcz55_5, hcz55_6, hcz55_7, hcz55_8, hcz55_9, hcz55_10, hcz55_11, hcz55_12⟩ := cl13 (W := wc) BK102.out
       obtain ⟨hfz55_0, hfz55_1, hfz55_2, hfz55_3, hfz55_4, hfz55_5, hfz55_6, hfz55_7, hfz55_8, hfz55_9, hfz55_10, hfz55_11, hfz55_12⟩ := fr13 BK102.out
       have hnb56 := NB101_103.out
       have hnc56 := NB103_101.out
       obtain ⟨hcz57_0, hcz57_1⟩ := cl2 (W := wc) BK101.out
       obtain ⟨hfz57_0, hfz57_1⟩ := fr2 BK101.out
       try go_wp2
       have n0_ := Aside0.mk (Kd.V_drew HO_102001.out)
       have n1_ := Aside0.mk (blk_drew BK101.out)
       have n2_ := Aside0.mk (blk_drew BK102.out)
       have n3_ := Aside0.mk (blk_drew BK103.out)
       have n4_ := Aside0.mk (below_drew1 HB.out)
       clear HO_102001
       clear BK101
       clear BK102
       clear BK103
       clear HB
       have HO_102001 := n0_
       have BK101 := n1_
       have BK102 := n2_
       have BK103 := n3_
       have HB := n4_
       clear n0_ n1_ n2_ n3_ n4_
       refine start_ (n := 7) (S := fun w' => w'.cell? ⟨gb101, 0, none⟩ = some (.int .i64 a0_0) ∧ w'.cell? ⟨gb101, 1, none⟩ = some (.slice A0_1 l0_1.length c0_1) ∧ w'.cell? ⟨gb102, 0, none⟩ = some (.int .i64 a1_0) ∧ w'.cell? ⟨gb102, 1, none⟩ = some (.int .i64 a1_1) ∧ w'.cell? ⟨gb102, 2, none⟩ = some (.int .i64 a1_2) ∧ w'.cell? ⟨gb102, 3, none⟩ = some (.int .i64 a1_3) ∧ w'.cell? ⟨gb102, 4, none⟩ = some (.int .i64 a1_4) ∧ w'.cell? ⟨gb102, 5, none⟩ = some (.int .i64 a1_5) ∧ w'.cell? ⟨gb102, 6, none⟩ = some (.int .i64 a1_6) ∧ w'.cell? ⟨gb102, 7, none⟩ = some (.int .i64 a1_7) ∧ w'.cell? ⟨gb102, 8, none⟩ = some (.bool a1_8) ∧ w'.cell? ⟨gb102, 9, none⟩ = some (.string a1_9) ∧ w'.cell? ⟨gb102, 10, none⟩ = some (.bool a1_10) ∧ w'.cell? ⟨gb102, 11, none⟩ = some (.string a1_11) ∧ w'.cell? ⟨gb102, 12, none⟩ = some (.int .i64 a1_12)) (ds := []) #[false, false, false, false, false, false, false] (by kernel_rfl) rfl rfl ⟨(blk_cell BK101.out 0).trans rfl, (blk_cell BK101.out 1).trans rfl, (blk_cell BK102.out 0).trans rfl, (blk_cell BK102.out 1).trans rfl, (blk_cell BK102.out 2).trans rfl, (blk_cell BK102.out 3).trans rfl, (blk_cell BK102.out 4).trans rfl, (blk_cell BK102.out 5).trans rfl, (blk_cell BK102.out 6).trans rfl, (blk_cell BK102.out 7).trans rfl, (blk_cell BK102.out 8).trans rfl, (blk_cell BK102.out 9).trans rfl, (blk_cell BK102.out 10).trans rfl, (blk_cell BK102.out 11).trans rfl, (blk_cell BK102.out 12).trans rfl⟩ (fun hHeld => ?_)
       generalize wc.drew = w58 at HO_102001 BK101 BK102 BK103 HB hHeld ⊢
       refine pure_ (i := 1) (N := some 30) (v := ?_) (a' := ?_) #[false, true, false, false, false, false, false] rfl rfl (by kernel_rfl) (fun _ _ _ h => h) (Or.inl ⟨by rfl, ?_⟩) ?_ ?_
       rotate_left
       ·intro w'
        go_simp
        with_reducible rfl
       rotate_left
       ·simp only [Act.put, List.setIfInBounds_toArray, List.set_cons_zero, List.set_cons_succ, i64_w, i32_w]
        rfl
       refine pure_ (i := 4) (N := some 33) (v := ?_) (a' := ?_) #[false, true, false, false, true, false, false] rfl rfl (by kernel_rfl) (fun _ _ _ h => h) (Or.inl ⟨by rfl, ?_⟩) ?_ ?_
       rotate_left
       ·intro w'
        go_simp
        with_reducible rfl
       rotate_left
       ·simp only [Act.put, List.setIfInBounds_toArray, List.set_cons_zero, List.set_cons_succ, i64_w, i32_w]
        rfl
       refine take_ (i := 0) (N := some 29) (v := ?_) (a' := ?_) #[true, true, false, false, true, false, false] rfl rfl (by kernel_rfl) (fun _ _ _ h => h) (Or.inl ⟨by rfl, ?_⟩) hHeld ?_ ?_
       rotate_left
       ·rintro w' ⟨s0, s1, s2, s3, s4, s5, s6, s7, s8, s9, s10, s11, s12, s13, s14⟩
        go_simp
        with_reducible rfl
       rotate_left
       ·simp only [Act.put, List.setIfInBounds_toArray, List.set_cons_zero, List.set_cons_succ, i64_w, i32_w]
        rfl
       refine take_ (i := 2) (N := some 31) (v := ?_) (a' := ?_) #[true, true, true, false, true, false, false] rfl rfl (by kernel_rfl) (fun _ _ _ h => h) (Or.inl ⟨by rfl, ?_⟩) hHeld ?_ ?_
       rotate_left
       ·rintro w' ⟨s0, s1, s2, s3, s4, s5, s6, s7, s8, s9, s10, s11, s12, s13, s14⟩
        go_simp
        with_reducible rfl
       rotate_left
       ·simp only [Act.put, List.setIfInBounds_toArray, List.set_cons_zero, List.set_cons_succ, i64_w, i32_w]
        rfl
       refine take_ (i := 5) (N := some 34) (v := ?_) (a' := ?_) #[true, true, true, false, true, true, false] rfl rfl (by kernel_rfl) (fun _ _ _ h => h) (Or.inl ⟨by rfl, ?_⟩) hHeld ?_ ?_
       rotate_left
       ·rintro w' ⟨s0, s1, s2, s3, s4, s5, s6, s7, s8, s9, s10, s11, s12, s13, s14⟩
        go_simp
        with_reducible rfl
       rotate_left
       ·simp only [Act.put, List.setIfInBounds_toArray, List.set_cons_zero, List.set_cons_succ, i64_w, i32_w]
        rfl
       refine one_ (i := 3) (N := some 32) #[true, true, true, true, true, true, false] rfl rfl (by kernel_rfl) (by decide) (fun K hK => ?_)
       refine goes_ Try.func40 (by kernel_rfl) rfl #[.agg #[.int .i64 a0_0, .slice A0_1 l0_1.length c0_1], .int .i64 a1_7] (by rfl) rfl rfl (by (try simp only [List.map_toArray, List.map_cons, List.map_nil]); first | done | rfl | (simp only [List.length_drop, List.length_take]; rfl)) ?_
       with_reducible refine (refAt.calls a0_0 _ _ l0_1 a1_7 t106 t107 _ ?side1 ?side2 A41.out).mono ?_
       (case side1 => repeat (first | exact (Kd.V_reads' HO_102001.out).2.2 | (with_reducible refine Kd.C_alloc ?_ _) | (with_reducible refine Kd.C_drewN ?_ _) | (with_reducible refine Kd.C_drew ?_)))
       (case side2 => exact (Kd.V_reads' HO_102001.out).2.1)
       rintro e w59 ⟨rfl, hb⟩
       refine ⟨_, rfl, ?_⟩
       have n0_ := Aside0.mk (Kd.V_below (by (with_reducible repeat (first | apply Kd.V_alloc | apply Kd.V_drewN | apply Kd.V_drew)); exact HO_102001.out) hb)
       have n1_ := Aside0.mk (blk_below BK101.out hb)
       have n2_ := Aside0.mk (blk_below BK102.out hb)
       have n3_ := Aside0.mk (blk_below BK103.out hb)
       have n4_ := Aside0.mk (below_step HB.out hb)
       clear HO_102001
       clear BK101
       clear BK102
       clear BK103
       clear HB
       have HO_102001 := n0_
       have BK101 := n1_
       have BK102 := n2_
       have BK103 := n3_
       have HB := n4_
       clear n0_ n1_ n2_ n3_ n4_
       (try clear hb)
       (try clear hb2)
       (try clear hk)
       (try clear hi)
       refine hK.out _ _ ⟨(blk_cell BK101.out 0).trans rfl, (blk_cell BK101.out 1).trans rfl, (blk_cell BK102.out 0).trans rfl, (blk_cell BK102.out 1).trans rfl, (blk_cell BK102.out 2).trans rfl, (blk_cell BK102.out 3).trans rfl, (blk_cell BK102.out 4).trans rfl, (blk_cell BK102.out 5).trans rfl, (blk_cell BK102.out 6).trans rfl, (blk_cell BK102.out 7).trans rfl, (blk_cell BK102.out 8).trans rfl, (blk_cell BK102.out 9).trans rfl, (blk_cell BK102.out 10).trans rfl, (blk_cell BK102.out 11).trans rfl, (blk_cell BK102.out 12).trans rfl⟩ (fun hHeld => ?_)
       clear hK K
       refine norm_ (a' := ?_) ?_ ?_
       rotate_left
       ·show Act.put _ (some 32) _ = _
        simp only [Act.put, List.setIfInBounds_toArray, List.set_cons_zero, List.set_cons_succ, i64_w, i32_w]
        rfl
       refine pure_ (i := 6) (N := some 35) (v := ?_) (a' := ?_) #[true, true, true, true, true, true, true] rfl rfl (by kernel_rfl) (fun _ _ _ h => h) (Or.inl ⟨by rfl, ?_⟩) ?_ ?_
       rotate_left
       ·intro w'
        go_simp
        with_reducible rfl
       rotate_left
       ·simp only [Act.put, List.setIfInBounds_toArray, List.set_cons_zero, List.set_cons_succ, i64_w, i32_w]
        rfl
       refine done_ (by kernel_rfl) ?_
       obtain ⟨hcz60_0, hcz60_1⟩ := cl2 (W := w59) BK101.out
       obtain ⟨hfz60_0, hfz60_1⟩ := fr2 BK101.out
       obtain ⟨hcz61_0, hcz61_1, hcz61_2, hcz61_3, hcz61_4, hcz61_5, hcz61_6, hcz61_7, hcz61_8, hcz61_9, hcz61_10, hcz61_11, hcz61_12⟩ := cl13 (W := w59) BK102.out
       obtain ⟨hfz61_0, hfz61_1, hfz61_2, hfz61_3, hfz61_4, hfz61_5, hfz61_6, hfz61_7, hfz61_8, hfz61_9, hfz61_10, hfz61_11, hfz61_12⟩ := fr13 BK102.out
       try go_wp2_with (first | ((with_reducible refine gate_callee (f := 41) rfl ?_); refine goesL_ (some 43) rfl rfl Try.func41 (by kernel_rfl) rfl #[.agg #[.int .i64 a0_0, .slice A0_1 l0_1.length c0_1], .int .i64 a1_7, .agg #[.bool a1_10, .string a1_11]] rfl (by (try simp only [List.map_toArray, List.map_cons, List.map_nil]); first | done | rfl | (simp only [List.length_drop, List.length_take]; rfl)) ?_; (with_reducible refine (refPut.calls a0_0 _ _ l0_1 a1_7 a1_10 a1_11 t108 t109 t112 _ ?side1 ?side2 A51.out).mono ?_); (case side1 => repeat (first | exact (Kd.V_reads' HO_102001.out).2.2 | (with_reducible refine Kd.C_alloc ?_ _) | (with_reducible refine Kd.C_drewN ?_ _) | (with_reducible refine Kd.C_drew ?_))); (case side2 => exact (Kd.V_reads' HO_102001.out).2.1); rintro e w62 ⟨v110, rfl, ho0, hb⟩; refine ⟨_, rfl, ?_⟩; have n0_ := Aside0.mk (Kd.V_elder' (by (with_reducible repeat (first | apply Kd.V_alloc | apply Kd.V_drewN | apply Kd.V_drew)); exact HO_102001.out) (Kd.R_base ho0) hb); have n1_ := Aside0.mk (Kd.R_lower (Kd.R_newM (M := fun k_ => (w.heap.size ≤ k_)) ho0 (below_size (by repeat (first | (with_reducible first | exact HB.out | apply below_alloc | apply pw_below_drewN | apply below_drew1 | refine below_set ?_ GE101.out | refine below_set ?_ GE102.out | refine below_set ?_ GE103.out) | exact HB.out))) (fun k_ h_ => h_)) (below_size (by repeat (first | (with_reducible first | exact HB.out | apply below_alloc | apply pw_below_drewN | apply below_drew1 | refine below_set ?_ GE101.out | refine below_set ?_ GE102.out | refine below_set ?_ GE103.out) | exact HB.out)))); have n2_ := Aside0.mk (blk_below BK101.out hb); have n3_ := Aside0.mk (blk_below BK102.out hb); have n4_ := Aside0.mk (blk_below BK103.out hb); have n5_ := Aside0.mk (below_step HB.out hb); clear HO_102001; clear BK101; clear BK102; clear BK103; clear HB; have HO_102001 := n0_; have HO111 := n1_; have BK101 := n2_; have BK102 := n3_; have BK103 := n4_; have HB := n5_; clear n0_ n1_ n2_ n3_ n4_ n5_; (try clear hb); (try clear hb2); (try clear hk); (try clear hi); (try clear ho0)) | ((with_reducible refine gate_dst (N := 7) rfl ?_); refine box_event ?hg (N := 7) ?hd (cs := #[.int .i64 0, .slice none 0 0]) (t := 24) ?hr ?_; (case hd => rfl); (case hg => rfl); (case hr => first | (go_simp; done) | (go_simp; rfl)); intro gb113 hg w63 hbox hb; have n0_ := Aside0.mk (Kd.V_below (Kd.V_elderB (by (with_reducible repeat (first | apply Kd.V_alloc | apply Kd.V_drewN | apply Kd.V_drew)); exact HO_102001.out) gb113 (Nat.le_of_eq hg.symm)) hb); have n1_ := Aside0.mk (Kd.R_below (by (with_reducible repeat (first | apply Kd.R_alloc | apply Kd.R_drewN | apply Kd.R_drew)); exact HO111.out) hb); have n2_ := Aside0.mk (blk_below BK101.out hb); have n3_ := Aside0.mk (blk_below BK102.out hb); have n4_ := Aside0.mk (blk_below BK103.out hb); have n5_ := Aside0.mk (below_step HB.out hb); have n6_ := Aside0.mk (hbox); have n7_ := Aside0.mk ((by rw [hg]; exact below_size HB.out : w.heap.size ≤ gb113)); have n8_ := Aside0.mk ((by rw [hg]; exact below_size HB.out : w.heap.size ≤ gb113)); have n9_ := Aside0.mk ((by rw [hg]; exact Nat.ne_of_lt (blk_lt BK101.out) : gb101 ≠ gb113)); have n10_ := Aside0.mk ((by rw [hg]; exact Nat.ne_of_gt (blk_lt BK101.out) : gb113 ≠ gb101)); have n11_ := Aside0.mk ((by rw [hg]; exact Nat.ne_of_lt (blk_lt BK102.out) : gb102 ≠ gb113)); have n12_ := Aside0.mk ((by rw [hg]; exact Nat.ne_of_gt (blk_lt BK102.out) : gb113 ≠ gb102)); have n13_ := Aside0.mk ((by rw [hg]; exact Nat.ne_of_lt (blk_lt BK103.out) : gb103 ≠ gb113)); have n14_ := Aside0.mk ((by rw [hg]; exact Nat.ne_of_gt (blk_lt BK103.out) : gb113 ≠ gb103)); clear HO_102001; clear HO111; clear BK101; clear BK102; clear BK103; clear HB; have HO_102001 := n0_; have HO111 := n1_; have BK101 := n2_; have BK102 := n3_; have BK103 := n4_; have HB := n5_; have BK113 := n6_; have GW113 := n7_; have GE113 := n8_; have NB101_113 := n9_; have NB113_101 := n10_; have NB102_113 := n11_; have NB113_102 := n12_; have NB103_113 := n13_; have NB113_103 := n14_; clear n0_ n1_ n2_ n3_ n4_ n5_ n6_ n7_ n8_ n9_ n10_ n11_ n12_ n13_ n14_; clear hb hbox hg; have hnb64 := NB113_101.out; have hnc64 := NB101_113.out; have hnb65 := NB113_102.out; have hnc65 := NB102_113.out; have hnb66 := NB113_103.out; have hnc66 := NB103_113.out; obtain ⟨hcz67_0, hcz67_1⟩ := cl2 (W := w63) BK113.out; obtain ⟨hfz67_0, hfz67_1⟩ := fr2 BK113.out; obtain ⟨Ao68, co68, eo68⟩ := Kd.R_slice HO111.out; subst eo68; obtain ⟨hcz69_0, hcz69_1, hcz69_2, hcz69_3, hcz69_4, hcz69_5, hcz69_6, hcz69_7, hcz69_8, hcz69_9, hcz69_10, hcz69_11, hcz69_12⟩ := cl13 (W := w63) BK102.out; obtain ⟨hfz69_0, hfz69_1, hfz69_2, hfz69_3, hfz69_4, hfz69_5, hfz69_6, hfz69_7, hfz69_8, hfz69_9, hfz69_10, hfz69_11, hfz69_12⟩ := fr13 BK102.out; obtain ⟨hcz70_0, hcz70_1⟩ := cl2 (W := w63) BK103.out; obtain ⟨hfz70_0, hfz70_1⟩ := fr2 BK103.out))
       refine bodyPost_ret (results_ctt rfl _ _ gb103 24 #[.int .i64 a1_4, .slice Ao68 t109.length co68] (0, 0) _ rfl (by (with_reducible repeat (first | refine blk_drewN ?_ _ | refine blk_drew ?_ | refine blk_alloc ?_ _)); refine blk_put (cs := #[.int .i64 a1_4, .slice none 0 0]) ?_ 1 _ rfl; refine blk_put (cs := #[.int .i64 0, .slice none 0 0]) ?_ 0 _ rfl; refine blk_far ?_ NB103_113.out _; refine blk_far ?_ NB103_113.out _; refine blk_far ?_ NB103_113.out _; (with_reducible repeat (first | refine blk_drewN ?_ _ | refine blk_drew ?_ | refine blk_alloc ?_ _)); exact BK103.out) Try.underlying24 rfl (by kernel_rfl)) rfl ?_
       exact ⟨_, by first | rfl | (simp [errW_none, errW_some] <;> rfl) | (simp [*, errW_none, errW_some] <;> rfl), Kd.V_mono (Kd.R_V (by (with_reducible repeat (first | apply Kd.R_alloc | apply Kd.R_drewN | apply Kd.R_drew)); exact Kd.R_mono (Kd.R_far (p := ⟨gb103, 1, none⟩) (Kd.R_far (p := ⟨gb103, 0, none⟩) (Kd.R_far (p := ⟨gb113, 0, none⟩) (Kd.R_far (p := ⟨gb113, 1, none⟩) (Kd.R_far (p := ⟨gb113, 0, none⟩) (Kd.R_types (Kd.R_types HO111.out BK113.out (by decide)) BK103.out (by decide)) (fun _ hk => hk.1.2) (.int .i64 t108)) (fun _ hk => hk.1.2) (.slice Ao68 t109.length co68)) (fun _ hk => hk.1.2) (.int .i64 a1_4)) (fun _ hk => hk.2) (.int .i64 a1_4)) (fun _ hk => hk.2) (.slice Ao68 t109.length co68)) (fun _ hk => hk.1.1.1))) (fun k_ hk => by first | exact ⟨(.inr (hk.1)), hk.2⟩ | exact (.inr (hk))), by repeat (first | (with_reducible first | exact HB.out | apply below_alloc | apply pw_below_drewN | apply below_drew1 | refine below_set ?_ GE101.out | refine below_set ?_ GE102.out | refine below_set ?_ GE103.out | refine below_set ?_ GE113.out) | exact HB.out)⟩
      ·rw [if_neg c52] at H
       have c52b0 : (t112 == 0) = false := beq_eq_false_iff_ne.mpr c52
       have c52b1 : (t112 != 0) = true := bne_iff_ne.mpr c52
       simp only [Option.some.injEq, Prod.mk.injEq] at H
       obtain ⟨rfl, rfl, rfl, rfl⟩ := H
       have hnb71 := NB102_101.out
       have hnc71 := NB101_102.out
       have hnb72 := NB102_103.out
       have hnc72 := NB103_102.out
       obtain ⟨hcz73_0, hcz73_1, hcz73_2, hcz73_3, hcz73_4, hcz73_5, hcz73_6, hcz73_7, hcz73_8, hcz73_9, hcz73_10, hcz73_11, hcz73_12⟩ := cl13 (W := wc) BK102.out
       obtain ⟨hfz73_0, hfz73_1, hfz73_2, hfz73_3, hfz73_4, hfz73_5, hfz73_6, hfz73_7, hfz73_8, hfz73_9, hfz73_10, hfz73_11, hfz73_12⟩ := fr13 BK102.out
       have hnb74 := NB101_103.out
       have hnc74 := NB103_101.out
       obtain ⟨hcz75_0, hcz75_1⟩ := cl2 (W := wc) BK101.out
       obtain ⟨hfz75_0, hfz75_1⟩ := fr2 BK101.out
       try go_wp2
       have n0_ := Aside0.mk (Kd.V_drew HO_102001.out)
       have n1_ := Aside0.mk (blk_drew BK101.out)
       have n2_ := Aside0.mk (blk_drew BK102.out)
       have n3_ := Aside0.mk (blk_drew BK103.out)
       have n4_ := Aside0.mk (below_drew1 HB.out)
       clear HO_102001
       clear BK101
       clear BK102
       clear BK103
       clear HB
       have HO_102001 := n0_
       have BK101 := n1_
       have BK102 := n2_
       have BK103 := n3_
       have HB := n4_
       clear n0_ n1_ n2_ n3_ n4_
       refine start_ (n := 7) (S := fun w' => w'.cell? ⟨gb101, 0, none⟩ = some (.int .i64 a0_0) ∧ w'.cell? ⟨gb101, 1, none⟩ = some (.slice A0_1 l0_1.length c0_1) ∧ w'.cell? ⟨gb102, 0, none⟩ = some (.int .i64 a1_0) ∧ w'.cell? ⟨gb102, 1, none⟩ = some (.int .i64 a1_1) ∧ w'.cell? ⟨gb102, 2, none⟩ = some (.int .i64 a1_2) ∧ w'.cell? ⟨gb102, 3, none⟩ = some (.int .i64 a1_3) ∧ w'.cell? ⟨gb102, 4, none⟩ = some (.int .i64 a1_4) ∧ w'.cell? ⟨gb102, 5, none⟩ = some (.int .i64 a1_5) ∧ w'.cell? ⟨gb102, 6, none⟩ = some (.int .i64 a1_6) ∧ w'.cell? ⟨gb102, 7, none⟩ = some (.int .i64 a1_7) ∧ w'.cell? ⟨gb102, 8, none⟩ = some (.bool a1_8) ∧ w'.cell? ⟨gb102, 9, none⟩ = some (.string a1_9) ∧ w'.cell? ⟨gb102, 10, none⟩ = some (.bool a1_10) ∧ w'.cell? ⟨gb102, 11, none⟩ = some (.string a1_11) ∧ w'.cell? ⟨gb102, 12, none⟩ = some (.int .i64 a1_12)) (ds := []) #[false, false, false, false, false, false, false] (by kernel_rfl) rfl rfl ⟨(blk_cell BK101.out 0).trans rfl, (blk_cell BK101.out 1).trans rfl, (blk_cell BK102.out 0).trans rfl, (blk_cell BK102.out 1).trans rfl, (blk_cell BK102.out 2).trans rfl, (blk_cell BK102.out 3).trans rfl, (blk_cell BK102.out 4).trans rfl, (blk_cell BK102.out 5).trans rfl, (blk_cell BK102.out 6).trans rfl, (blk_cell BK102.out 7).trans rfl, (blk_cell BK102.out 8).trans rfl, (blk_cell BK102.out 9).trans rfl, (blk_cell BK102.out 10).trans rfl, (blk_cell BK102.out 11).trans rfl, (blk_cell BK102.out 12).trans rfl⟩ (fun hHeld => ?_)
       generalize wc.drew = w76 at HO_102001 BK101 BK102 BK103 HB hHeld ⊢
       refine pure_ (i := 1) (N := some 30) (v := ?_) (a' := ?_) #[false, true, false, false, false, false, false] rfl rfl (by kernel_rfl) (fun _ _ _ h => h) (Or.inl ⟨by rfl, ?_⟩) ?_ ?_
       rotate_left
       ·intro w'
        go_simp
        with_reducible rfl
       rotate_left
       ·simp only [Act.put, List.setIfInBounds_toArray, List.set_cons_zero, List.set_cons_succ, i64_w, i32_w]
        rfl
       refine pure_ (i := 4) (N := some 33) (v := ?_) (a' := ?_) #[false, true, false, false, true, false, false] rfl rfl (by kernel_rfl) (fun _ _ _ h => h) (Or.inl ⟨by rfl, ?_⟩) ?_ ?_
       rotate_left
       ·intro w'
        go_simp
        with_reducible rfl
       rotate_left
       ·simp only [Act.put, List.setIfInBounds_toArray, List.set_cons_zero, List.set_cons_succ, i64_w, i32_w]
        rfl
       refine take_ (i := 0) (N := some 29) (v := ?_) (a' := ?_) #[true, true, false, false, true, false, false] rfl rfl (by kernel_rfl) (fun _ _ _ h => h) (Or.inl ⟨by rfl, ?_⟩) hHeld ?_ ?_
       rotate_left
       ·rintro w' ⟨s0, s1, s2, s3, s4, s5, s6, s7, s8, s9, s10, s11, s12, s13, s14⟩
        go_simp
        with_reducible rfl
       rotate_left
       ·simp only [Act.put, List.setIfInBounds_toArray, List.set_cons_zero, List.set_cons_succ, i64_w, i32_w]
        rfl
       refine take_ (i := 2) (N := some 31) (v := ?_) (a' := ?_) #[true, true, true, false, true, false, false] rfl rfl (by kernel_rfl) (fun _ _ _ h => h) (Or.inl ⟨by rfl, ?_⟩) hHeld ?_ ?_
       rotate_left
       ·rintro w' ⟨s0, s1, s2, s3, s4, s5, s6, s7, s8, s9, s10, s11, s12, s13, s14⟩
        go_simp
        with_reducible rfl
       rotate_left
       ·simp only [Act.put, List.setIfInBounds_toArray, List.set_cons_zero, List.set_cons_succ, i64_w, i32_w]
        rfl
       refine take_ (i := 5) (N := some 34) (v := ?_) (a' := ?_) #[true, true, true, false, true, true, false] rfl rfl (by kernel_rfl) (fun _ _ _ h => h) (Or.inl ⟨by rfl, ?_⟩) hHeld ?_ ?_
       rotate_left
       ·rintro w' ⟨s0, s1, s2, s3, s4, s5, s6, s7, s8, s9, s10, s11, s12, s13, s14⟩
        go_simp
        with_reducible rfl
       rotate_left
       ·simp only [Act.put, List.setIfInBounds_toArray, List.set_cons_zero, List.set_cons_succ, i64_w, i32_w]
        rfl
       refine one_ (i := 3) (N := some 32) #[true, true, true, true, true, true, false] rfl rfl (by kernel_rfl) (by decide) (fun K hK => ?_)
       refine goes_ Try.func40 (by kernel_rfl) rfl #[.agg #[.int .i64 a0_0, .slice A0_1 l0_1.length c0_1], .int .i64 a1_7] (by rfl) rfl rfl (by (try simp only [List.map_toArray, List.map_cons, List.map_nil]); first | done | rfl | (simp only [List.length_drop, List.length_take]; rfl)) ?_
       with_reducible refine (refAt.calls a0_0 _ _ l0_1 a1_7 t106 t107 _ ?side1 ?side2 A41.out).mono ?_
       (case side1 => repeat (first | exact (Kd.V_reads' HO_102001.out).2.2 | (with_reducible refine Kd.C_alloc ?_ _) | (with_reducible refine Kd.C_drewN ?_ _) | (with_reducible refine Kd.C_drew ?_)))
       (case side2 => exact (Kd.V_reads' HO_102001.out).2.1)
       rintro e w77 ⟨rfl, hb⟩
       refine ⟨_, rfl, ?_⟩
       have n0_ := Aside0.mk (Kd.V_below (by (with_reducible repeat (first | apply Kd.V_alloc | apply Kd.V_drewN | apply Kd.V_drew)); exact HO_102001.out) hb)
       have n1_ := Aside0.mk (blk_below BK101.out hb)
       have n2_ := Aside0.mk (blk_below BK102.out hb)
       have n3_ := Aside0.mk (blk_below BK103.out hb)
       have n4_ := Aside0.mk (below_step HB.out hb)
       clear HO_102001
       clear BK101
       clear BK102
       clear BK103
       clear HB
       have HO_102001 := n0_
       have BK101 := n1_
       have BK102 := n2_
       have BK103 := n3_
       have HB := n4_
       clear n0_ n1_ n2_ n3_ n4_
       (try clear hb)
       (try clear hb2)
       (try clear hk)
       (try clear hi)
       refine hK.out _ _ ⟨(blk_cell BK101.out 0).trans rfl, (blk_cell BK101.out 1).trans rfl, (blk_cell BK102.out 0).trans rfl, (blk_cell BK102.out 1).trans rfl, (blk_cell BK102.out 2).trans rfl, (blk_cell BK102.out 3).trans rfl, (blk_cell BK102.out 4).trans rfl, (blk_cell BK102.out 5).trans rfl, (blk_cell BK102.out 6).trans rfl, (blk_cell BK102.out 7).trans rfl, (blk_cell BK102.out 8).trans rfl, (blk_cell BK102.out 9).trans rfl, (blk_cell BK102.out 10).trans rfl, (blk_cell BK102.out 11).trans rfl, (blk_cell BK102.out 12).trans rfl⟩ (fun hHeld => ?_)
       clear hK K
       refine norm_ (a' := ?_) ?_ ?_
       rotate_left
       ·show Act.put _ (some 32) _ = _
        simp only [Act.put, List.setIfInBounds_toArray, List.set_cons_zero, List.set_cons_succ, i64_w, i32_w]
        rfl
       refine pure_ (i := 6) (N := some 35) (v := ?_) (a' := ?_) #[true, true, true, true, true, true, true] rfl rfl (by kernel_rfl) (fun _ _ _ h => h) (Or.inl ⟨by rfl, ?_⟩) ?_ ?_
       rotate_left
       ·intro w'
        go_simp
        with_reducible rfl
       rotate_left
       ·simp only [Act.put, List.setIfInBounds_toArray, List.set_cons_zero, List.set_cons_succ, i64_w, i32_w]
        rfl
       refine done_ (by kernel_rfl) ?_
       obtain ⟨hcz78_0, hcz78_1⟩ := cl2 (W := w77) BK101.out
       obtain ⟨hfz78_0, hfz78_1⟩ := fr2 BK101.out
       obtain ⟨hcz79_0, hcz79_1, hcz79_2, hcz79_3, hcz79_4, hcz79_5, hcz79_6, hcz79_7, hcz79_8, hcz79_9, hcz79_10, hcz79_11, hcz79_12⟩ := cl13 (W := w77) BK102.out
       obtain ⟨hfz79_0, hfz79_1, hfz79_2, hfz79_3, hfz79_4, hfz79_5, hfz79_6, hfz79_7, hfz79_8, hfz79_9, hfz79_10, hfz79_11, hfz79_12⟩ := fr13 BK102.out
       try go_wp2_with (first | ((with_reducible refine gate_callee (f := 41) rfl ?_); refine goesL_ (some 43) rfl rfl Try.func41 (by kernel_rfl) rfl #[.agg #[.int .i64 a0_0, .slice A0_1 l0_1.length c0_1], .int .i64 a1_7, .agg #[.bool a1_10, .string a1_11]] rfl (by (try simp only [List.map_toArray, List.map_cons, List.map_nil]); first | done | rfl | (simp only [List.length_drop, List.length_take]; rfl)) ?_; (with_reducible refine (refPut.calls a0_0 _ _ l0_1 a1_7 a1_10 a1_11 t108 t109 t112 _ ?side1 ?side2 A51.out).mono ?_); (case side1 => repeat (first | exact (Kd.V_reads' HO_102001.out).2.2 | (with_reducible refine Kd.C_alloc ?_ _) | (with_reducible refine Kd.C_drewN ?_ _) | (with_reducible refine Kd.C_drew ?_))); (case side2 => exact (Kd.V_reads' HO_102001.out).2.1); rintro e w80 ⟨v110, rfl, ho0, hb⟩; refine ⟨_, rfl, ?_⟩; have n0_ := Aside0.mk (Kd.V_elder' (by (with_reducible repeat (first | apply Kd.V_alloc | apply Kd.V_drewN | apply Kd.V_drew)); exact HO_102001.out) (Kd.R_base ho0) hb); have n1_ := Aside0.mk (Kd.R_lower (Kd.R_newM (M := fun k_ => (w.heap.size ≤ k_)) ho0 (below_size (by repeat (first | (with_reducible first | exact HB.out | apply below_alloc | apply pw_below_drewN | apply below_drew1 | refine below_set ?_ GE101.out | refine below_set ?_ GE102.out | refine below_set ?_ GE103.out) | exact HB.out))) (fun k_ h_ => h_)) (below_size (by repeat (first | (with_reducible first | exact HB.out | apply below_alloc | apply pw_below_drewN | apply below_drew1 | refine below_set ?_ GE101.out | refine below_set ?_ GE102.out | refine below_set ?_ GE103.out) | exact HB.out)))); have n2_ := Aside0.mk (blk_below BK101.out hb); have n3_ := Aside0.mk (blk_below BK102.out hb); have n4_ := Aside0.mk (blk_below BK103.out hb); have n5_ := Aside0.mk (below_step HB.out hb); clear HO_102001; clear BK101; clear BK102; clear BK103; clear HB; have HO_102001 := n0_; have HO111 := n1_; have BK101 := n2_; have BK102 := n3_; have BK103 := n4_; have HB := n5_; clear n0_ n1_ n2_ n3_ n4_ n5_; (try clear hb); (try clear hb2); (try clear hk); (try clear hi); (try clear ho0)) | ((with_reducible refine gate_dst (N := 7) rfl ?_); refine box_event ?hg (N := 7) ?hd (cs := #[.int .i64 0, .slice none 0 0]) (t := 24) ?hr ?_; (case hd => rfl); (case hg => rfl); (case hr => first | (go_simp; done) | (go_simp; rfl)); intro gb113 hg w81 hbox hb; have n0_ := Aside0.mk (Kd.V_below (Kd.V_elderB (by (with_reducible repeat (first | apply Kd.V_alloc | apply Kd.V_drewN | apply Kd.V_drew)); exact HO_102001.out) gb113 (Nat.le_of_eq hg.symm)) hb); have n1_ := Aside0.mk (Kd.R_below (by (with_reducible repeat (first | apply Kd.R_alloc | apply Kd.R_drewN | apply Kd.R_drew)); exact HO111.out) hb); have n2_ := Aside0.mk (blk_below BK101.out hb); have n3_ := Aside0.mk (blk_below BK102.out hb); have n4_ := Aside0.mk (blk_below BK103.out hb); have n5_ := Aside0.mk (below_step HB.out hb); have n6_ := Aside0.mk (hbox); have n7_ := Aside0.mk ((by rw [hg]; exact below_size HB.out : w.heap.size ≤ gb113)); have n8_ := Aside0.mk ((by rw [hg]; exact below_size HB.out : w.heap.size ≤ gb113)); have n9_ := Aside0.mk ((by rw [hg]; exact Nat.ne_of_lt (blk_lt BK101.out) : gb101 ≠ gb113)); have n10_ := Aside0.mk ((by rw [hg]; exact Nat.ne_of_gt (blk_lt BK101.out) : gb113 ≠ gb101)); have n11_ := Aside0.mk ((by rw [hg]; exact Nat.ne_of_lt (blk_lt BK102.out) : gb102 ≠ gb113)); have n12_ := Aside0.mk ((by rw [hg]; exact Nat.ne_of_gt (blk_lt BK102.out) : gb113 ≠ gb102)); have n13_ := Aside0.mk ((by rw [hg]; exact Nat.ne_of_lt (blk_lt BK103.out) : gb103 ≠ gb113)); have n14_ := Aside0.mk ((by rw [hg]; exact Nat.ne_of_gt (blk_lt BK103.out) : gb113 ≠ gb103)); clear HO_102001; clear HO111; clear BK101; clear BK102; clear BK103; clear HB; have HO_102001 := n0_; have HO111 := n1_; have BK101 := n2_; have BK102 := n3_; have BK103 := n4_; have HB := n5_; have BK113 := n6_; have GW113 := n7_; have GE113 := n8_; have NB101_113 := n9_; have NB113_101 := n10_; have NB102_113 := n11_; have NB113_102 := n12_; have NB103_113 := n13_; have NB113_103 := n14_; clear n0_ n1_ n2_ n3_ n4_ n5_ n6_ n7_ n8_ n9_ n10_ n11_ n12_ n13_ n14_; clear hb hbox hg; have hnb82 := NB113_101.out; have hnc82 := NB101_113.out; have hnb83 := NB113_102.out; have hnc83 := NB102_113.out; have hnb84 := NB113_103.out; have hnc84 := NB103_113.out; obtain ⟨hcz85_0, hcz85_1⟩ := cl2 (W := w81) BK113.out; obtain ⟨hfz85_0, hfz85_1⟩ := fr2 BK113.out; obtain ⟨Ao86, co86, eo86⟩ := Kd.R_slice HO111.out; subst eo86; obtain ⟨hcz87_0, hcz87_1⟩ := cl2 (W := w81) BK103.out; obtain ⟨hfz87_0, hfz87_1⟩ := fr2 BK103.out))
       refine bodyPost_ret (results_ctt rfl _ _ gb103 24 #[.int .i64 0, .slice none 0 0] (0, 0) _ rfl (by (with_reducible repeat (first | refine blk_drewN ?_ _ | refine blk_drew ?_ | refine blk_alloc ?_ _)); refine blk_put (cs := #[.int .i64 0, .slice none 0 0]) ?_ 1 _ rfl; refine blk_put (cs := #[.int .i64 0, .slice none 0 0]) ?_ 0 _ rfl; refine blk_far ?_ NB103_113.out _; refine blk_far ?_ NB103_113.out _; (with_reducible repeat (first | refine blk_drewN ?_ _ | refine blk_drew ?_ | refine blk_alloc ?_ _)); exact BK103.out) Try.underlying24 rfl (by kernel_rfl)) rfl ?_
       exact ⟨_, by first | rfl | (simp [errW_none, errW_some] <;> rfl) | (simp [*, errW_none, errW_some] <;> rfl), Kd.V_nil _ _ _ _ _, by repeat (first | (with_reducible first | exact HB.out | apply below_alloc | apply pw_below_drewN | apply below_drew1 | refine below_set ?_ GE101.out | refine below_set ?_ GE102.out | refine below_set ?_ GE103.out | refine below_set ?_ GE113.out) | exact HB.out)⟩
end Go.Proofs.Ytfjmnaobfbmllaa.M
namespace Go.Proofs.Ytfjmnaobfbmllaa.M
open Go.RowKit Go.Proofs.YtfjmnaobfbmllaaW.PrintWords Go.Proofs.YtfjmnaobfbmllaaW.PrintLast Go.Proofs.YtfjmnaobfbmllaaW.PrintMore
set_option linter.unusedVariables false
set_option linter.unusedSimpArgs false
theorem rredo_j0 (k : Nat) (b : Bool) (a : Int) (l : List S33) (x : S65) (h : b = false ↔ goodP a l = true ∧ GoodE x ∧ (x.f0 = 1 ∨ x.f0 = 2)) : seneschalref05_Redo.j0 (k + 1) b a l x.f0 x.f1.f0 x.f1.f1 x.f1.f2 x.f2 x.f3 x.f4 x.f5 x.f6.f0 x.f6.f1 x.f7.f0 x.f7.f1 x.f8 = some (redoP a l x) := by
  simp only [seneschalref05_Redo.j0]
  unfold redoP
  by_cases hc : goodP a l = true ∧ GoodE x ∧ (x.f0 = 1 ∨ x.f0 = 2)
  · obtain rfl := h.mpr hc
    obtain ⟨hg, hx, hk⟩ := hc
    obtain ⟨_, _, hlen, _⟩ := (good_iff a l).mp hg
    have hc2 : goodP a l = true ∧ GoodE x ∧ (x.f0 = 1 ∨ x.f0 = 2) := ⟨hg, hx, hk⟩
    rw [if_neg Bool.false_ne_true, if_pos hc2]
    by_cases h1 : x.f2 ≤ a
    · rw [if_pos h1, if_pos h1]
    · rw [if_neg h1, if_neg h1]
      obtain ⟨s, hs, hs2⟩ := slot_of hx hk
      have ea : atP a l x.f5 = slotL l x.f5.toNat := by
        unfold atP
        rw [if_pos ⟨hg, by omega⟩]
      unfold refAt.f
      rw [Option.bind_some]
      simp only
      rw [ea]
      by_cases h2 : slotL l x.f5.toNat = x.f6
      · rw [if_neg (fun h => (s33_ne _ _).mp h h2), if_pos h2]
        unfold refPut.f
        rw [Option.bind_some]
        have ep : putP a l x.f5 ⟨x.f7.f0, x.f7.f1⟩ = if 240 < rawSize (putL l x.f5.toNat x.f7) then (0, [], 22) else (a, putL l x.f5.toNat x.f7, 0) := by
          rw [hs, Int.toNat_natCast]
          exact put_done hg hs2 (is_fine hx hk).2
        rw [ep]
        by_cases h3 : 240 < rawSize (putL l x.f5.toNat x.f7)
        · rw [if_pos h3, if_pos h3]; rfl
        · rw [if_neg h3, if_neg h3]; rfl
      · rw [if_pos ((s33_ne _ _).mpr h2), if_neg h2]
  · have hb : b = true := by
      cases b with
      | true => rfl
      | false => exact absurd (h.mp rfl) hc
    rw [hb, if_pos rfl, if_neg hc]
theorem rredo_pure (k : Nat) (a : Int) (l : List S33) (x : S65) : seneschalref05_Redo.f (k + 1) a l x.f0 x.f1.f0 x.f1.f1 x.f1.f2 x.f2 x.f3 x.f4 x.f5 x.f6.f0 x.f6.f1 x.f7.f0 x.f7.f1 x.f8 = some (redoP a l x) := by
  unfold seneschalref05_Redo.f refGood3.f refGood4.f
  rw [Option.bind_some]
  by_cases hg : goodP a l = true
  · rw [if_pos hg, Option.bind_some, mk_eq]
    by_cases hx : GoodE x
    · rw [decide_eq_true hx, if_pos rfl]
      have hk : 1 ≤ x.f0 ∧ x.f0 ≤ 4 := by rcases hx.2.2.2 with h | h | h <;> omega
      exact rredo_j0 k _ a l x ⟨fun h => ⟨hg, hx, by have := of_decide_eq_false h; omega⟩, fun h => decide_eq_false (by have := h.2.2; omega)⟩
    · rw [decide_eq_false hx, if_neg Bool.false_ne_true]
      exact rredo_j0 k _ a l x ⟨fun h => (by cases h), fun h => absurd h.2.1 hx⟩
  · rw [if_neg hg]
    exact rredo_j0 k _ a l x ⟨fun h => (by cases h), fun h => absurd h.1 hg⟩
def refRedo5.f (a : Int) (l : List S33) (k c e n lsn prev p s : Int) (u : Bool) (d : ByteArray) (u2 : Bool) (d2 : ByteArray) (next : Int) : Option (Int × List S33 × Bool × Int) := some (redoP a l (mkE k c e n lsn prev p s u d u2 d2 next))
theorem refRedo5.calls (a : Int) (P : Nat → Prop) (A : Option Addr) (c0 : Nat) (l : List S33) (k c e n lsn prev p s : Int) (u : Bool) (d : ByteArray) (u2 : Bool) (d2 : ByteArray) (next : Int) (r1 : Int) (r2 : List S33) (r3 : Bool) (r4 : Int) (w : World) (hs : Kd.V k33 33 w w.heap.size (fun k_ => P k_) (.slice A l.length c0) l) (h : refRedo5.f a l k c e n lsn prev p s u d u2 d2 next = some (r1, r2, r3, r4)) :
    Calls Try.prog 68 #[.agg #[.int .i64 a, .slice A l.length c0], .agg #[.int .i64 k, .int .i64 c, .int .i64 e, .int .i64 n, .int .i64 lsn, .int .i64 prev, .int .i64 p, .int .i64 s, .bool u, .string d, .bool u2, .string d2, .int .i64 next]] w fun e w' => ∃ v1_ : Value, e = .returned (.tuple #[.agg #[.int .i64 r1, v1_], .bool r3, .int .i64 r4]) ∧ Kd.V k33 33 w' w.heap.size (fun k_ => (P k_ ∨ w.heap.size ≤ k_)) v1_ r2 ∧ Below w.heap.size w w' :=
  seneschalref05_Redo.calls 1 a P A c0 l k c e n lsn prev p s u d u2 d2 next r1 r2 r3 r4 w hs (by rw [← h]; exact rredo_pure 0 a l (mkE k c e n lsn prev p s u d u2 d2 next))
end Go.Proofs.Ytfjmnaobfbmllaa.M
namespace Go.Proofs.Ytfjmnaobfbmllaa.M
open Go.RowKit Go.Proofs.YtfjmnaobfbmllaaW.PrintWords Go.Proofs.YtfjmnaobfbmllaaW.PrintLast Go.Proofs.YtfjmnaobfbmllaaW.PrintMore
attribute [local go_sem] max2_int min2_int max_two min_two max_three min_three max_four min_four   -- for this text's walks alone
set_option linter.unusedVariables false
set_option linter.unusedSimpArgs false
mutual
def seneschalref05_All.l0 : Nat → Int → List (S65) → Int → Int → List (S33) → Option (Int × (List (S33)) × Int)
 | 0, _, _, _, _, _ => none
 | k + 1, x1, x2, x8, x102000, x102001 => if x8 < (x2.length : Int) then (if 0 ≤ x8 then (if ((rd_T65 x2 x8).f0) = 1 then (seneschalref05_All.j1 k x1 x2 x8 (((rd_T65 x2 x8).f4) != x1) x102000 x102001) else (if ((rd_T65 x2 x8).f0) = 2 then (seneschalref05_All.j1 k x1 x2 x8 (((rd_T65 x2 x8).f4) != x1) x102000 x102001) else (seneschalref05_All.j1 k x1 x2 x8 true x102000 x102001))) else (none)) else (some (x102000, x102001, 0))
def seneschalref05_All.j1 : Nat → Int → List (S65) → Int → Bool → Int → List (S33) → Option (Int × (List (S33)) × Int)
 | 0, _, _, _, _, _, _ => none
 | k + 1, x1, x2, x8, x44, x102000, x102001 => if x44 = true then (seneschalref05_All.l0 k x1 x2 (wrap64 (x8 + 1)) x102000 x102001) else (if 0 ≤ x8 then (if x8 < (x2.length : Int) then ((refRedo5.f x102000 x102001 ((rd_T65 x2 x8).f0) ((rd_T65 x2 x8).f1.f0) ((rd_T65 x2 x8).f1.f1) ((rd_T65 x2 x8).f1.f2) ((rd_T65 x2 x8).f2) ((rd_T65 x2 x8).f3) ((rd_T65 x2 x8).f4) ((rd_T65 x2 x8).f5) ((rd_T65 x2 x8).f6.f0) ((rd_T65 x2 x8).f6.f1) ((rd_T65 x2 x8).f7.f0) ((rd_T65 x2 x8).f7.f1) ((rd_T65 x2 x8).f8)).bind fun bt109 => (if bt109.2.2.2 = 0 then (seneschalref05_All.l0 k x1 x2 (wrap64 (x8 + 1)) bt109.1 bt109.2.1) else (some (0, ([] : List (S33)), bt109.2.2.2)))) else (none)) else (none))
end
def seneschalref05_All.f (k : Nat) (a0_0 : Int) (l0_1 : List (S33)) (a1 : Int) (l2 : List (S65)) : Option (Int × (List (S33)) × Int) := (refGood3.f a0_0 l0_1).bind fun t103 => (if t103 = true then (seneschalref05_All.l0 k a1 l2 0 a0_0 l0_1) else (some (0, ([] : List (S33)), 1)))
def seneschalref05_All.T7 : Bool × List (List Nat × List Nat) := (true, [([], []), ([], []), ([], []), ([1, 2], [1, 2]), ([3], [3]), ([0, 4], [0, 4]), ([5], [5]), ([6], [6]), ([6], [6]), ([6], [6]), ([], []), ([10, 7, 5, 0, 1, 2, 3, 4, 5, 6, 7, 10], [7, 10]), ([8, 11, 0, 1, 2, 3, 4, 5, 6, 7, 8, 10, 11], [8]), ([9, 12, 0, 1, 2, 3, 4, 5, 6, 7, 8, 9, 10, 11, 12], [9])])
def seneschalref05_All.B7 : List Nat := [0, 0, 0, 6, 14, 31, 63, 127, 127, 127, 0, 1279, 3583, 8191]
theorem seneschalref05_All.tab7 : rtab .any (opsOf Try.f72 7) = seneschalref05_All.T7 := by kernel_rfl
theorem seneschalref05_All.bits7 : waitsOk seneschalref05_All.T7.2 seneschalref05_All.B7 = true := by kernel_rfl
set_option maxHeartbeats 8000000 in
set_option maxRecDepth 100000 in
theorem seneschalref05_All.calls (k : Nat) (a0_0 : Int) (P0_1_ : Nat → Prop) (A0_1 : Option Addr) (c0_1 : Nat) (l0_1 : List (S33)) (a1 : Int) (A2 : Option Addr) (c2 : Nat) (l2 : List (S65)) (r1 : Int) (r2 : List (S33)) (r3 : Int) (w : World) (hs0_1 : Kd.V k33 33 w w.heap.size (fun k_ => P0_1_ k_) (.slice A0_1 l0_1.length c0_1) l0_1) (hr2 : Kd.C k65 w A2 l2.length l2) (hc2 : l2.length ≤ c2) (h : seneschalref05_All.f k a0_0 l0_1 a1 l2 = some (r1, r2, r3)) :
  Calls Try.prog 72 #[.agg #[.int .i64 a0_0, .slice A0_1 l0_1.length c0_1], .int .i64 a1, .slice A2 l2.length c2] w fun e w' => ∃ v1_ : Value, e = .returned (.tuple #[.agg #[.int .i64 r1, v1_], .int .i64 r3]) ∧ Kd.V k33 33 w' w.heap.size (fun k_ => (P0_1_ k_ ∨ w.heap.size ≤ k_)) v1_ r2 ∧ Below w.heap.size w w' := by
 have hu24 := Try.underlying24
 have hu65 := Try.underlying65
 have HO0_1 := Aside0.mk (show Kd.V k33 33 w w.heap.size (fun k_ => (P0_1_ k_ ∨ w.heap.size ≤ k_)) (.slice A0_1 l0_1.length c0_1) l0_1 from Kd.V_mono hs0_1 (fun k_ hk => .inl hk))
 have HR2 := Aside0.mk hr2
 have HC2 := Aside0.mk hc2
 clear hr2 hc2
 have HB := Aside0.mk (Below.refl w.heap.size w)
 have H : ((refGood3.f a0_0 l0_1).bind fun t103 => (if t103 = true then (seneschalref05_All.l0 k a1 l2 0 a0_0 l0_1) else (some (0, ([] : List (S33)), 1)))) = some (r1, r2, r3) := h
 clear h
 replace H := Option.bind_eq_some_iff.mp H
 obtain ⟨t103, A40, H⟩ := H
 replace H : (if t103 = true then (seneschalref05_All.l0 k a1 l2 0 a0_0 l0_1) else (some (0, ([] : List (S33)), 1))) = some (r1, r2, r3) := H
 have A4 := Aside0.mk A40
 clear A40
 by_cases c5 : t103 = true
 ·subst c5
  have H1 : (seneschalref05_All.l0 k a1 l2 0 a0_0 l0_1) = some (r1, r2, r3) := by rw [if_pos rfl] at H; exact H
  clear H
  have H := H1
  clear H1
  have H' := Aside0.mk H
  clear H
  go_enter Try.func72, Try.ntmps72
  go_wp2_with (first | ((with_reducible refine gate_dst (N := 3) rfl ?_); refine box_event ?hg (N := 3) ?hd (cs := #[.int .i64 a0_0, .slice A0_1 l0_1.length c0_1]) (t := 24) ?hr ?_; (case hd => rfl); (case hg => rfl); (case hr => first | (go_simp; done) | (go_simp; rfl)); intro gb101 hg w6 hbox hb; have n0_ := Aside0.mk (Kd.V_below (Kd.V_elderB (by (with_reducible repeat (first | apply Kd.V_alloc | apply Kd.V_drewN | apply Kd.V_drew)); exact HO0_1.out) gb101 (Nat.le_of_eq hg.symm)) hb); have n1_ := Aside0.mk (below_step HB.out hb); have n2_ := Aside0.mk (hbox); have n3_ := Aside0.mk ((by rw [hg]; exact below_size HB.out : w.heap.size ≤ gb101)); have n4_ := Aside0.mk ((by rw [hg]; exact below_size HB.out : w.heap.size ≤ gb101)); clear HO0_1; clear HB; have HO0_1 := n0_; have HB := n1_; have BK101 := n2_; have GW101 := n3_; have GE101 := n4_; clear n0_ n1_ n2_ n3_ n4_; clear hb hbox hg) | ((with_reducible refine gate_dst (N := 6) rfl ?_); refine box_event ?hg (N := 6) ?hd (cs := #[.int .i64 0, .slice none 0 0]) (t := 24) ?hr ?_; (case hd => rfl); (case hg => rfl); (case hr => first | (go_simp; done) | (go_simp; rfl)); intro gb102 hg w7 hbox hb; have n0_ := Aside0.mk (Kd.V_below (Kd.V_elderB (by (with_reducible repeat (first | apply Kd.V_alloc | apply Kd.V_drewN | apply Kd.V_drew)); exact HO0_1.out) gb102 (Nat.le_of_eq hg.symm)) hb); have n1_ := Aside0.mk (blk_below BK101.out hb); have n2_ := Aside0.mk (below_step HB.out hb); have n3_ := Aside0.mk (hbox); have n4_ := Aside0.mk ((by rw [hg]; exact below_size HB.out : w.heap.size ≤ gb102)); have n5_ := Aside0.mk ((by rw [hg]; exact below_size HB.out : w.heap.size ≤ gb102)); have n6_ := Aside0.mk ((by rw [hg]; exact Nat.ne_of_lt (blk_lt BK101.out) : gb101 ≠ gb102)); have n7_ := Aside0.mk ((by rw [hg]; exact Nat.ne_of_gt (blk_lt BK101.out) : gb102 ≠ gb101)); clear HO0_1; clear BK101; clear HB; have HO0_1 := n0_; have BK101 := n1_; have HB := n2_; have BK102 := n3_; have GW102 := n4_; have GE102 := n5_; have NB101_102 := n6_; have NB102_101 := n7_; clear n0_ n1_ n2_ n3_ n4_ n5_ n6_ n7_; clear hb hbox hg; have hnb8 := NB101_102.out; have hnc8 := NB102_101.out; obtain ⟨hcz9_0, hcz9_1⟩ := cl2 (W := w7) BK101.out; obtain ⟨hfz9_0, hfz9_1⟩ := fr2 BK101.out) | ((with_reducible refine gate_callee (f := 35) rfl ?_); refine goesL_ (some 13) rfl rfl Try.func35 (by kernel_rfl) rfl #[.agg #[.int .i64 a0_0, .slice A0_1 l0_1.length c0_1]] rfl (by (try simp only [List.map_toArray, List.map_cons, List.map_nil]); first | done | rfl | (simp only [List.length_drop, List.length_take]; rfl)) ?_; (with_reducible refine (refGood3.calls a0_0 _ _ l0_1 true _ ?side1 ?side2 A4.out).mono ?_); (case side1 => repeat (first | exact (Kd.V_reads' HO0_1.out).2.2 | (with_reducible refine Kd.C_alloc ?_ _) | (with_reducible refine Kd.C_drewN ?_ _) | (with_reducible refine Kd.C_drew ?_))); (case side2 => exact (Kd.V_reads' HO0_1.out).2.1); rintro e w10 ⟨rfl, hb⟩; refine ⟨_, rfl, ?_⟩; have n0_ := Aside0.mk (Kd.V_below (by (with_reducible repeat (first | apply Kd.V_alloc | apply Kd.V_drewN | apply Kd.V_drew)); exact HO0_1.out) hb); have n1_ := Aside0.mk (blk_below BK101.out hb); have n2_ := Aside0.mk (blk_below BK102.out hb); have n3_ := Aside0.mk (below_step HB.out hb); clear HO0_1; clear BK101; clear BK102; clear HB; have HO0_1 := n0_; have BK101 := n1_; have BK102 := n2_; have HB := n3_; clear n0_ n1_ n2_ n3_; (try clear hb); (try clear hb2); (try clear hk); (try clear hi)))
  go_loopg [8] k (fun kq v8 w' => ∃ (x8_1 : Int) (x102000_1 : Int) (x102001_1 : List (S33)) (x103000_1 : Int) (u102001 : Value), v8 = .int .i64 x8_1 ∧ Aside0 (seneschalref05_All.l0 kq a1 l2 x8_1 x102000_1 x102001_1 = some (r1, r2, r3)) ∧ Aside0 (kq ≤ k) ∧ Aside0 (Kd.V k33 33 w' w.heap.size (fun k_ => (P0_1_ k_ ∨ w.heap.size ≤ k_) ∧ k_ ≠ gb101 ∧ k_ ≠ gb102) u102001 x102001_1) ∧ Aside0 (w'.heap[gb101]? = some (.cells #[.int .i64 x102000_1, u102001] 24 (0, 0))) ∧ Aside0 (w'.heap[gb102]? = some (.cells #[.int .i64 x103000_1, (.slice none 0 0)] 24 (0, 0))) ∧ Aside0 (Below w.heap.size w w'))
  case atStart => exact ⟨(0), (a0_0), (l0_1), (0), (.slice A0_1 l0_1.length c0_1), (by first | rfl | (simp; done) | (simp [*]; done)), H', ⟨Nat.le_refl _⟩, ⟨by (with_reducible repeat (first | apply Kd.V_alloc | apply Kd.V_drewN | apply Kd.V_drew)); exact Kd.V_mono HO0_1.out (fun _ hk => ⟨hk.1.1, ⟨hk.1.2, hk.2⟩⟩)⟩, ⟨by (with_reducible repeat (first | refine blk_drewN ?_ _ | refine blk_drew ?_ | refine blk_alloc ?_ _)); exact BK101.out⟩, ⟨by (with_reducible repeat (first | refine blk_drewN ?_ _ | refine blk_drew ?_ | refine blk_alloc ?_ _)); exact BK102.out⟩, ⟨by repeat (first | (with_reducible first | exact HB.out | apply below_alloc | apply pw_below_drewN | apply below_drew1 | refine below_set ?_ GE101.out | refine below_set ?_ GE102.out) | exact HB.out)⟩⟩
  case round =>
   clear H'
   try clear c2
   try clear p2
   try clear c3
   try clear c5
   try clear c7
   try clear c8
   try clear hcz9_0
   try clear hcz9_1
   try clear hfz9_0
   try clear hfz9_1
   obtain ⟨x8_1, x102000_1, x102001_1, x103000_1, u102001, rfl, HA, HK1, HO_102001, BK101, BK102, HB⟩ := hrel
   cases gk with
   | zero => exact absurd HA.out (by simp [seneschalref05_All.l0])
   | succ k1 =>
    have H := HA.out
    clear HA
    simp only [seneschalref05_All.l0] at H
    by_cases c11 : x8_1 < (l2.length : Int)
    ·rw [if_pos c11] at H
     have c11b0 : decide (x8_1 < (l2.length : Int)) = true := decide_eq_true c11
     clear c11
     have HC12 := Aside0.mk H
     clear H
     go_upto_region 6 with (fail)
     go_cut [44] (fun v44 wc => ∃ (kq : Nat) (x44_11 : Bool), v44 = .bool x44_11 ∧ Aside0 (seneschalref05_All.j1 kq a1 l2 x8_1 x44_11 x102000_1 x102001_1 = some (r1, r2, r3)) ∧ Aside0 (kq ≤ k1) ∧ Aside0 (Kd.V k33 33 wc w.heap.size (fun k_ => (P0_1_ k_ ∨ w.heap.size ≤ k_) ∧ k_ ≠ gb101 ∧ k_ ≠ gb102) u102001 x102001_1) ∧ Aside0 (wc.heap[gb101]? = some (.cells #[.int .i64 x102000_1, u102001] 24 (0, 0))) ∧ Aside0 (wc.heap[gb102]? = some (.cells #[.int .i64 x103000_1, (.slice none 0 0)] 24 (0, 0))) ∧ Aside0 (Below w.heap.size w wc))
     case first =>
      have H := HC12.out
      clear HC12
      by_cases c13 : 0 ≤ x8_1
      ·rw [if_pos c13] at H
       have c13b0 : decide (0 ≤ x8_1) = true := decide_eq_true c13
       clear c13
       (first | rw [c13b0] | (simp only [i64_w, i32_w]; rw [c13b0]) | skip)
       by_cases c14 : ((rd_T65 l2 x8_1).f0) = 1
       ·rw [if_pos c14] at H
        have c14b0 : (((rd_T65 l2 x8_1).f0) == 1) = true := beq_iff_eq.mpr c14
        have c14b1 : (((rd_T65 l2 x8_1).f0) != 1) = false := bne_eq_false_iff_eq.mpr c14
        clear c14
        have H' := Aside0.mk H
        clear H
        have p104 : 0 ≤ (x8_1 : Int) := of_decide_eq_true (by first | (with_reducible assumption) | assumption)
        have q104 : x8_1 < (l2.length : Int) := of_decide_eq_true (by first | (with_reducible assumption) | assumption)
        obtain ⟨ad104, e104, hx104_0, hx104_1, hx104_2, hx104_3, hx104_4, hx104_5, hx104_6, hx104_7, hx104_8, hx104_9, hx104_10, hx104_11, hx104_12⟩ := at_T65 HR2.out x8_1 p104 q104
        cases e104
        replace hx104_0 := pw_cell_below HB.out hx104_0
        replace hx104_1 := pw_cell_below HB.out hx104_1
        replace hx104_2 := pw_cell_below HB.out hx104_2
        replace hx104_3 := pw_cell_below HB.out hx104_3
        replace hx104_4 := pw_cell_below HB.out hx104_4
        replace hx104_5 := pw_cell_below HB.out hx104_5
        replace hx104_6 := pw_cell_below HB.out hx104_6
        replace hx104_7 := pw_cell_below HB.out hx104_7
        replace hx104_8 := pw_cell_below HB.out hx104_8
        replace hx104_9 := pw_cell_below HB.out hx104_9
        replace hx104_10 := pw_cell_below HB.out hx104_10
        replace hx104_11 := pw_cell_below HB.out hx104_11
        replace hx104_12 := pw_cell_below HB.out hx104_12
        replace p104 := eq_true p104
        replace q104 := eq_true q104
        have p105 : 0 ≤ (x8_1 : Int) := of_decide_eq_true (by first | (with_reducible assumption) | assumption)
        have q105 : x8_1 < (l2.length : Int) := of_decide_eq_true (by first | (with_reducible assumption) | assumption)
        obtain ⟨ad105, e105, hx105_0, hx105_1, hx105_2, hx105_3, hx105_4, hx105_5, hx105_6, hx105_7, hx105_8, hx105_9, hx105_10, hx105_11, hx105_12⟩ := at_T65 HR2.out x8_1 p105 q105
        obtain rfl : ad104 = ad105 := (by injection e105)
        replace hx105_0 := pw_cell_below HB.out hx105_0
        replace hx105_1 := pw_cell_below HB.out hx105_1
        replace hx105_2 := pw_cell_below HB.out hx105_2
        replace hx105_3 := pw_cell_below HB.out hx105_3
        replace hx105_4 := pw_cell_below HB.out hx105_4
        replace hx105_5 := pw_cell_below HB.out hx105_5
        replace hx105_6 := pw_cell_below HB.out hx105_6
        replace hx105_7 := pw_cell_below HB.out hx105_7
        replace hx105_8 := pw_cell_below HB.out hx105_8
        replace hx105_9 := pw_cell_below HB.out hx105_9
        replace hx105_10 := pw_cell_below HB.out hx105_10
        replace hx105_11 := pw_cell_below HB.out hx105_11
        replace hx105_12 := pw_cell_below HB.out hx105_12
        replace p105 := eq_true p105
        replace q105 := eq_true q105
        go_wp2
        go_meet
        case rel => exact ⟨_, ((((rd_T65 l2 x8_1).f4) != a1)), (by first | rfl | (simp; done) | (simp [*]; done)), H', ⟨by have := HK1.out; first | omega | exact Nat.le_refl _⟩, ⟨by (with_reducible repeat (first | apply Kd.V_alloc | apply Kd.V_drewN | apply Kd.V_drew)); exact HO_102001.out⟩, ⟨by (with_reducible repeat (first | refine blk_drewN ?_ _ | refine blk_drew ?_ | refine blk_alloc ?_ _)); exact BK101.out⟩, ⟨by (with_reducible repeat (first | refine blk_drewN ?_ _ | refine blk_drew ?_ | refine blk_alloc ?_ _)); exact BK102.out⟩, ⟨by repeat (first | (with_reducible first | exact HB.out | apply below_alloc | apply pw_below_drewN | apply below_drew1 | refine below_set ?_ GE101.out | refine below_set ?_ GE102.out) | exact HB.out)⟩⟩
       ·rw [if_neg c14] at H
        have c14b0 : (((rd_T65 l2 x8_1).f0) == 1) = false := beq_eq_false_iff_ne.mpr c14
        have c14b1 : (((rd_T65 l2 x8_1).f0) != 1) = true := bne_iff_ne.mpr c14
        by_cases c15 : ((rd_T65 l2 x8_1).f0) = 2
        ·rw [if_pos c15] at H
         have c15b0 : (((rd_T65 l2 x8_1).f0) == 2) = true := beq_iff_eq.mpr c15
         have c15b1 : (((rd_T65 l2 x8_1).f0) != 2) = false := bne_eq_false_iff_eq.mpr c15
         clear c15
         have H' := Aside0.mk H
         clear H
         have p104 : 0 ≤ (x8_1 : Int) := of_decide_eq_true (by first | (with_reducible assumption) | assumption)
         have q104 : x8_1 < (l2.length : Int) := of_decide_eq_true (by first | (with_reducible assumption) | assumption)
         obtain ⟨ad104, e104, hx104_0, hx104_1, hx104_2, hx104_3, hx104_4, hx104_5, hx104_6, hx104_7, hx104_8, hx104_9, hx104_10, hx104_11, hx104_12⟩ := at_T65 HR2.out x8_1 p104 q104
         cases e104
         replace hx104_0 := pw_cell_below HB.out hx104_0
         replace hx104_1 := pw_cell_below HB.out hx104_1
         replace hx104_2 := pw_cell_below HB.out hx104_2
         replace hx104_3 := pw_cell_below HB.out hx104_3
         replace hx104_4 := pw_cell_below HB.out hx104_4
         replace hx104_5 := pw_cell_below HB.out hx104_5
         replace hx104_6 := pw_cell_below HB.out hx104_6
         replace hx104_7 := pw_cell_below HB.out hx104_7
         replace hx104_8 := pw_cell_below HB.out hx104_8
         replace hx104_9 := pw_cell_below HB.out hx104_9
         replace hx104_10 := pw_cell_below HB.out hx104_10
         replace hx104_11 := pw_cell_below HB.out hx104_11
         replace hx104_12 := pw_cell_below HB.out hx104_12
         replace p104 := eq_true p104
         replace q104 := eq_true q104
         have p106 : 0 ≤ (x8_1 : Int) := of_decide_eq_true (by first | (with_reducible assumption) | assumption)
         have q106 : x8_1 < (l2.length : Int) := of_decide_eq_true (by first | (with_reducible assumption) | assumption)
         obtain ⟨ad106, e106, hx106_0, hx106_1, hx106_2, hx106_3, hx106_4, hx106_5, hx106_6, hx106_7, hx106_8, hx106_9, hx106_10, hx106_11, hx106_12⟩ := at_T65 HR2.out x8_1 p106 q106
         obtain rfl : ad104 = ad106 := (by injection e106)
         replace hx106_0 := pw_cell_below HB.out hx106_0
         replace hx106_1 := pw_cell_below HB.out hx106_1
         replace hx106_2 := pw_cell_below HB.out hx106_2
         replace hx106_3 := pw_cell_below HB.out hx106_3
         replace hx106_4 := pw_cell_below HB.out hx106_4
         replace hx106_5 := pw_cell_below HB.out hx106_5
         replace hx106_6 := pw_cell_below HB.out hx106_6
         replace hx106_7 := pw_cell_below HB.out hx106_7
         replace hx106_8 := pw_cell_below HB.out hx106_8
         replace hx106_9 := pw_cell_below HB.out hx106_9
         replace hx106_10 := pw_cell_below HB.out hx106_10
         replace hx106_11 := pw_cell_below HB.out hx106_11
         replace hx106_12 := pw_cell_below HB.out hx106_12
         replace p106 := eq_true p106
         replace q106 := eq_true q106
         have p107 : 0 ≤ (x8_1 : Int) := of_decide_eq_true (by first | (with_reducible assumption) | assumption)
         have q107 : x8_1 < (l2.length : Int) := of_decide_eq_true (by first | (with_reducible assumption) | assumption)
         obtain ⟨ad107, e107, hx107_0, hx107_1, hx107_2, hx107_3, hx107_4, hx107_5, hx107_6, hx107_7, hx107_8, hx107_9, hx107_10, hx107_11, hx107_12⟩ := at_T65 HR2.out x8_1 p107 q107
         obtain rfl : ad104 = ad107 := (by injection e107)
         replace hx107_0 := pw_cell_below HB.out hx107_0
         replace hx107_1 := pw_cell_below HB.out hx107_1
         replace hx107_2 := pw_cell_below HB.out hx107_2
         replace hx107_3 := pw_cell_below HB.out hx107_3
         replace hx107_4 := pw_cell_below HB.out hx107_4
         replace hx107_5 := pw_cell_below HB.out hx107_5
         replace hx107_6 := pw_cell_below HB.out hx107_6
         replace hx107_7 := pw_cell_below HB.out hx107_7
         replace hx107_8 := pw_cell_below HB.out hx107_8
         replace hx107_9 := pw_cell_below HB.out hx107_9
         replace hx107_10 := pw_cell_below HB.out hx107_10
         replace hx107_11 := pw_cell_below HB.out hx107_11
         replace hx107_12 := pw_cell_below HB.out hx107_12
         replace p107 := eq_true p107
         replace q107 := eq_true q107
         go_wp2
         go_meet
         case rel => exact ⟨_, ((((rd_T65 l2 x8_1).f4) != a1)), (by first | rfl | (simp; done) | (simp [*]; done)), H', ⟨by have := HK1.out; first | omega | exact Nat.le_refl _⟩, ⟨by (with_reducible repeat (first | apply Kd.V_alloc | apply Kd.V_drewN | apply Kd.V_drew)); exact HO_102001.out⟩, ⟨by (with_reducible repeat (first | refine blk_drewN ?_ _ | refine blk_drew ?_ | refine blk_alloc ?_ _)); exact BK101.out⟩, ⟨by (with_reducible repeat (first | refine blk_drewN ?_ _ | refine blk_drew ?_ | refine blk_alloc ?_ _)); exact BK102.out⟩, ⟨by repeat (first | (with_reducible first | exact HB.out | apply below_alloc | apply pw_below_drewN | apply below_drew1 | refine below_set ?_ GE101.out | refine below_set ?_ GE102.out) | exact HB.out)⟩⟩
        ·rw [if_neg c15] at H
         have c15b0 : (((rd_T65 l2 x8_1).f0) == 2) = false := beq_eq_false_iff_ne.mpr c15
         have c15b1 : (((rd_T65 l2 x8_1).f0) != 2) = true := bne_iff_ne.mpr c15
         have H' := Aside0.mk H
         clear H
         have p104 : 0 ≤ (x8_1 : Int) := of_decide_eq_true (by first | (with_reducible assumption) | assumption)
         have q104 : x8_1 < (l2.length : Int) := of_decide_eq_true (by first | (with_reducible assumption) | assumption)
         obtain ⟨ad104, e104, hx104_0, hx104_1, hx104_2, hx104_3, hx104_4, hx104_5, hx104_6, hx104_7, hx104_8, hx104_9, hx104_10, hx104_11, hx104_12⟩ := at_T65 HR2.out x8_1 p104 q104
         cases e104
         replace hx104_0 := pw_cell_below HB.out hx104_0
         replace hx104_1 := pw_cell_below HB.out hx104_1
         replace hx104_2 := pw_cell_below HB.out hx104_2
         replace hx104_3 := pw_cell_below HB.out hx104_3
         replace hx104_4 := pw_cell_below HB.out hx104_4
         replace hx104_5 := pw_cell_below HB.out hx104_5
         replace hx104_6 := pw_cell_below HB.out hx104_6
         replace hx104_7 := pw_cell_below HB.out hx104_7
         replace hx104_8 := pw_cell_below HB.out hx104_8
         replace hx104_9 := pw_cell_below HB.out hx104_9
         replace hx104_10 := pw_cell_below HB.out hx104_10
         replace hx104_11 := pw_cell_below HB.out hx104_11
         replace hx104_12 := pw_cell_below HB.out hx104_12
         replace p104 := eq_true p104
         replace q104 := eq_true q104
         have p106 : 0 ≤ (x8_1 : Int) := of_decide_eq_true (by first | (with_reducible assumption) | assumption)
         have q106 : x8_1 < (l2.length : Int) := of_decide_eq_true (by first | (with_reducible assumption) | assumption)
         obtain ⟨ad106, e106, hx106_0, hx106_1, hx106_2, hx106_3, hx106_4, hx106_5, hx106_6, hx106_7, hx106_8, hx106_9, hx106_10, hx106_11, hx106_12⟩ := at_T65 HR2.out x8_1 p106 q106
         obtain rfl : ad104 = ad106 := (by injection e106)
         replace hx106_0 := pw_cell_below HB.out hx106_0
         replace hx106_1 := pw_cell_below HB.out hx106_1
         replace hx106_2 := pw_cell_below HB.out hx106_2
         replace hx106_3 := pw_cell_below HB.out hx106_3
         replace hx106_4 := pw_cell_below HB.out hx106_4
         replace hx106_5 := pw_cell_below HB.out hx106_5
         replace hx106_6 := pw_cell_below HB.out hx106_6
         replace hx106_7 := pw_cell_below HB.out hx106_7
         replace hx106_8 := pw_cell_below HB.out hx106_8
         replace hx106_9 := pw_cell_below HB.out hx106_9
         replace hx106_10 := pw_cell_below HB.out hx106_10
         replace hx106_11 := pw_cell_below HB.out hx106_11
         replace hx106_12 := pw_cell_below HB.out hx106_12
         replace p106 := eq_true p106
         replace q106 := eq_true q106
         go_wp2
         go_meet
         case rel => exact ⟨_, (true), (by first | rfl | (simp; done) | (simp [*]; done)), H', ⟨by have := HK1.out; first | omega | exact Nat.le_refl _⟩, ⟨by (with_reducible repeat (first | apply Kd.V_alloc | apply Kd.V_drewN | apply Kd.V_drew)); exact HO_102001.out⟩, ⟨by (with_reducible repeat (first | refine blk_drewN ?_ _ | refine blk_drew ?_ | refine blk_alloc ?_ _)); exact BK101.out⟩, ⟨by (with_reducible repeat (first | refine blk_drewN ?_ _ | refine blk_drew ?_ | refine blk_alloc ?_ _)); exact BK102.out⟩, ⟨by repeat (first | (with_reducible first | exact HB.out | apply below_alloc | apply pw_below_drewN | apply below_drew1 | refine below_set ?_ GE101.out | refine below_set ?_ GE102.out) | exact HB.out)⟩⟩
      ·rw [if_neg c13] at H
       exact absurd H (by simp)
     case rest =>
      clear HC12
      try clear c1
      try clear p1
      try clear q1
      try clear hx1
      try clear c2
      try clear p2
      try clear c3
      try clear c5
      try clear c7
      try clear c8
      try clear p10
      try clear q10
      try clear hx10
      try clear c11
      try clear c11b0
      try clear c13
      try clear c13b0
      try clear c14
      try clear c14b0
      try clear c14b1
      try clear c15
      try clear c15b0
      try clear c15b1
      try clear hcz9_0
      try clear hcz9_1
      try clear hfz9_0
      try clear hfz9_1
      try clear hx104_0
      try clear hx104_1
      try clear hx104_10
      try clear hx104_11
      try clear hx104_12
      try clear hx104_2
      try clear hx104_3
      try clear hx104_4
      try clear hx104_5
      try clear hx104_6
      try clear hx104_7
      try clear hx104_8
      try clear hx104_9
      try clear hx105_0
      try clear hx105_1
      try clear hx105_10
      try clear hx105_11
      try clear hx105_12
      try clear hx105_2
      try clear hx105_3
      try clear hx105_4
      try clear hx105_5
      try clear hx105_6
      try clear hx105_7
      try clear hx105_8
      try clear hx105_9
      try clear hx106_0
      try clear hx106_1
      try clear hx106_10
      try clear hx106_11
      try clear hx106_12
      try clear hx106_2
      try clear hx106_3
      try clear hx106_4
      try clear hx106_5
      try clear hx106_6
      try clear hx106_7
      try clear hx106_8
      try clear hx106_9
      try clear hx107_0
      try clear hx107_1
      try clear hx107_10
      try clear hx107_11
      try clear hx107_12
      try clear hx107_2
      try clear hx107_3
      try clear hx107_4
      try clear hx107_5
      try clear hx107_6
      try clear hx107_7
      try clear hx107_8
      try clear hx107_9
      try clear p104
      try clear p105
      try clear p106
      try clear p107
      try clear p2
      try clear q104
      try clear q105
      try clear q106
      try clear q107
      obtain ⟨kq, x44_11, rfl, HA, HJ11, HO_102001, BK101, BK102, HB⟩ := hcut
      cases kq with
      | zero => exact absurd HA.out (by simp [seneschalref05_All.j1])
      | succ kj11 =>
       have H := HA.out
       clear HA
       simp only [seneschalref05_All.j1] at H
       by_cases c16 : x44_11 = true
       ·subst c16
        have H1 : (seneschalref05_All.l0 kj11 a1 l2 (wrap64 (x8_1 + 1)) x102000_1 x102001_1) = some (r1, r2, r3) := by rw [if_pos rfl] at H; exact H
        clear H
        have H := H1
        clear H1
        have H' := Aside0.mk H
        clear H
        go_wp2
        go_roundg kj11
        case measure => have := HK1.out; have := HJ11.out; omega
        case rel => exact ⟨(wrap64 (x8_1 + 1)), (x102000_1), (x102001_1), (x103000_1), (u102001), (by first | rfl | (simp; done) | (simp [*]; done)), H', ⟨by have := HK1.out; have := HJ11.out; omega⟩, ⟨by (with_reducible repeat (first | apply Kd.V_alloc | apply Kd.V_drewN | apply Kd.V_drew)); exact HO_102001.out⟩, ⟨by (with_reducible repeat (first | refine blk_drewN ?_ _ | refine blk_drew ?_ | refine blk_alloc ?_ _)); exact BK101.out⟩, ⟨by (with_reducible repeat (first | refine blk_drewN ?_ _ | refine blk_drew ?_ | refine blk_alloc ?_ _)); exact BK102.out⟩, ⟨by repeat (first | (with_reducible first | exact HB.out | apply below_alloc | apply pw_below_drewN | apply below_drew1 | refine below_set ?_ GE101.out | refine below_set ?_ GE102.out) | exact HB.out)⟩⟩
       ·replace c16 := Bool.eq_false_iff.mpr c16
        subst c16
        have H1 : (if 0 ≤ x8_1 then (if x8_1 < (l2.length : Int) then ((refRedo5.f x102000_1 x102001_1 ((rd_T65 l2 x8_1).f0) ((rd_T65 l2 x8_1).f1.f0) ((rd_T65 l2 x8_1).f1.f1) ((rd_T65 l2 x8_1).f1.f2) ((rd_T65 l2 x8_1).f2) ((rd_T65 l2 x8_1).f3) ((rd_T65 l2 x8_1).f4) ((rd_T65 l2 x8_1).f5) ((rd_T65 l2 x8_1).f6.f0) ((rd_T65 l2 x8_1).f6.f1) ((rd_T65 l2 x8_1).f7.f0) ((rd_T65 l2 x8_1).f7.f1) ((rd_T65 l2 x8_1).f8)).bind fun bt109 => (if bt109.2.2.2 = 0 then (seneschalref05_All.l0 kj11 a1 l2 (wrap64 (x8_1 + 1)) bt109.1 bt109.2.1) else (some (0, ([] : List (S33)), bt109.2.2.2)))) else (none)) else (none)) = some (r1, r2, r3) := by rw [if_neg (show ¬ (false = true) by decide)] at H; exact H
        clear H
        have H := H1
        clear H1
        by_cases c17 : 0 ≤ x8_1
        ·rw [if_pos c17] at H
         have c17b0 : decide (0 ≤ x8_1) = true := decide_eq_true c17
         clear c17
         by_cases c18 : x8_1 < (l2.length : Int)
         ·rw [if_pos c18] at H
          have c18b0 : decide (x8_1 < (l2.length : Int)) = true := decide_eq_true c18
          clear c18
          replace H := Option.bind_eq_some_iff.mp H
          obtain ⟨⟨t109, t110, t113, t114⟩, A190, H⟩ := H
          replace H : (if t114 = 0 then (seneschalref05_All.l0 kj11 a1 l2 (wrap64 (x8_1 + 1)) t109 t110) else (some (0, ([] : List (S33)), t114))) = some (r1, r2, r3) := H
          have A19 := Aside0.mk A190
          clear A190
          by_cases c20 : t114 = 0
          ·rw [if_pos c20] at H
           have c20b0 : (t114 == 0) = true := beq_iff_eq.mpr c20
           have c20b1 : (t114 != 0) = false := bne_eq_false_iff_eq.mpr c20
           clear c20
           have H' := Aside0.mk H
           clear H
           obtain ⟨Ao21, co21, eo21⟩ := Kd.V_slice HO_102001.out
           subst eo21
           try go_wp2
           have n0_ := Aside0.mk (Kd.V_drew HO_102001.out)
           have n1_ := Aside0.mk (blk_drew BK101.out)
           have n2_ := Aside0.mk (blk_drew BK102.out)
           have n3_ := Aside0.mk (below_drew1 HB.out)
           clear HO_102001
           clear BK101
           clear BK102
           clear HB
           have HO_102001 := n0_
           have BK101 := n1_
           have BK102 := n2_
           have HB := n3_
           clear n0_ n1_ n2_ n3_
           have p108 : 0 ≤ (x8_1 : Int) := of_decide_eq_true (by first | (with_reducible assumption) | assumption)
           have q108 : x8_1 < (l2.length : Int) := of_decide_eq_true (by first | (with_reducible assumption) | assumption)
           obtain ⟨ad108, e108, hx108_0, hx108_1, hx108_2, hx108_3, hx108_4, hx108_5, hx108_6, hx108_7, hx108_8, hx108_9, hx108_10, hx108_11, hx108_12⟩ := at_T65 HR2.out x8_1 p108 q108
           have hw108_12 := hx108_12
           have hw108_11 := hx108_11
           have hw108_10 := hx108_10
           have hw108_9 := hx108_9
           have hw108_8 := hx108_8
           have hw108_7 := hx108_7
           have hw108_6 := hx108_6
           have hw108_5 := hx108_5
           have hw108_4 := hx108_4
           have hw108_3 := hx108_3
           have hw108_2 := hx108_2
           have hw108_1 := hx108_1
           have hw108_0 := hx108_0
           cases e108
           replace hx108_0 := pw_cell_below HB.out hx108_0
           replace hx108_1 := pw_cell_below HB.out hx108_1
           replace hx108_2 := pw_cell_below HB.out hx108_2
           replace hx108_3 := pw_cell_below HB.out hx108_3
           replace hx108_4 := pw_cell_below HB.out hx108_4
           replace hx108_5 := pw_cell_below HB.out hx108_5
           replace hx108_6 := pw_cell_below HB.out hx108_6
           replace hx108_7 := pw_cell_below HB.out hx108_7
           replace hx108_8 := pw_cell_below HB.out hx108_8
           replace hx108_9 := pw_cell_below HB.out hx108_9
           replace hx108_10 := pw_cell_below HB.out hx108_10
           replace hx108_11 := pw_cell_below HB.out hx108_11
           replace hx108_12 := pw_cell_below HB.out hx108_12
           replace p108 := eq_true p108
           replace q108 := eq_true q108
           refine start_ (n := 14) (S := fun w' => w'.cell? ⟨gb101, 0, none⟩ = some (.int .i64 x102000_1) ∧ w'.cell? ⟨gb101, 1, none⟩ = some (.slice Ao21 x102001_1.length co21) ∧ w'.cell? (ad108.add ((x8_1).toNat * 13)) = some (.int .i64 ((rd_T65 l2 x8_1).f0)) ∧ w'.cell? ⟨(ad108.add ((x8_1).toNat * 13)).block, (ad108.add ((x8_1).toNat * 13)).off + 1, none⟩ = some (.int .i64 ((rd_T65 l2 x8_1).f1.f0)) ∧ w'.cell? ⟨(ad108.add ((x8_1).toNat * 13)).block, (ad108.add ((x8_1).toNat * 13)).off + 2, none⟩ = some (.int .i64 ((rd_T65 l2 x8_1).f1.f1)) ∧ w'.cell? ⟨(ad108.add ((x8_1).toNat * 13)).block, (ad108.add ((x8_1).toNat * 13)).off + 3, none⟩ = some (.int .i64 ((rd_T65 l2 x8_1).f1.f2)) ∧ w'.cell? ⟨(ad108.add ((x8_1).toNat * 13)).block, (ad108.add ((x8_1).toNat * 13)).off + 4, none⟩ = some (.int .i64 ((rd_T65 l2 x8_1).f2)) ∧ w'.cell? ⟨(ad108.add ((x8_1).toNat * 13)).block, (ad108.add ((x8_1).toNat * 13)).off + 5, none⟩ = some (.int .i64 ((rd_T65 l2 x8_1).f3)) ∧ w'.cell? ⟨(ad108.add ((x8_1).toNat * 13)).block, (ad108.add ((x8_1).toNat * 13)).off + 6, none⟩ = some (.int .i64 ((rd_T65 l2 x8_1).f4)) ∧ w'.cell? ⟨(ad108.add ((x8_1).toNat * 13)).block, (ad108.add ((x8_1).toNat * 13)).off + 7, none⟩ = some (.int .i64 ((rd_T65 l2 x8_1).f5)) ∧ w'.cell? ⟨(ad108.add ((x8_1).toNat * 13)).block, (ad108.add ((x8_1).toNat * 13)).off + 8, none⟩ = some (.bool ((rd_T65 l2 x8_1).f6.f0)) ∧ w'.cell? ⟨(ad108.add ((x8_1).toNat * 13)).block, (ad108.add ((x8_1).toNat * 13)).off + 9, none⟩ = some (.string ((rd_T65 l2 x8_1).f6.f1)) ∧ w'.cell? ⟨(ad108.add ((x8_1).toNat * 13)).block, (ad108.add ((x8_1).toNat * 13)).off + 10, none⟩ = some (.bool ((rd_T65 l2 x8_1).f7.f0)) ∧ w'.cell? ⟨(ad108.add ((x8_1).toNat * 13)).block, (ad108.add ((x8_1).toNat * 13)).off + 11, none⟩ = some (.string ((rd_T65 l2 x8_1).f7.f1)) ∧ w'.cell? ⟨(ad108.add ((x8_1).toNat * 13)).block, (ad108.add ((x8_1).toNat * 13)).off + 12, none⟩ = some (.int .i64 ((rd_T65 l2 x8_1).f8))) (ds := []) #[false, false, false, false, false, false, false, false, false, false, false, false, false, false] (by kernel_rfl) rfl rfl ⟨(blk_cell BK101.out 0).trans rfl, (blk_cell BK101.out 1).trans rfl, ((HB.out.cell (World.block_lt_of_cell? w _ hw108_0)).trans hw108_0), ((HB.out.cell (World.block_lt_of_cell? w _ hw108_1)).trans hw108_1), ((HB.out.cell (World.block_lt_of_cell? w _ hw108_2)).trans hw108_2), ((HB.out.cell (World.block_lt_of_cell? w _ hw108_3)).trans hw108_3), ((HB.out.cell (World.block_lt_of_cell? w _ hw108_4)).trans hw108_4), ((HB.out.cell (World.block_lt_of_cell? w _ hw108_5)).trans hw108_5), ((HB.out.cell (World.block_lt_of_cell? w _ hw108_6)).trans hw108_6), ((HB.out.cell (World.block_lt_of_cell? w _ hw108_7)).trans hw108_7), ((HB.out.cell (World.block_lt_of_cell? w _ hw108_8)).trans hw108_8), ((HB.out.cell (World.block_lt_of_cell? w _ hw108_9)).trans hw108_9), ((HB.out.cell (World.block_lt_of_cell? w _ hw108_10)).trans hw108_10), ((HB.out.cell (World.block_lt_of_cell? w _ hw108_11)).trans hw108_11), ((HB.out.cell (World.block_lt_of_cell? w _ hw108_12)).trans hw108_12)⟩ (fun hHeld => ?_); refine with_tabW seneschalref05_All.tab7 seneschalref05_All.bits7 (fun HT_ HW_ => ?_)
           generalize wc.drew = w22 at HO_102001 BK101 BK102 HB hx108_0 hx108_1 hx108_10 hx108_11 hx108_12 hx108_2 hx108_3 hx108_4 hx108_5 hx108_6 hx108_7 hx108_8 hx108_9 hHeld ⊢
           refine pure_ (i := 1) (N := some 47) (v := ?_) (a' := ?_) #[false, true, false, false, false, false, false, false, false, false, false, false, false, false] rfl rfl (any_of HT_.out (by kernel_rfl)) (fun _ _ _ h => h) (Or.inl ⟨by rfl, ?_⟩) ?_ ?_
           rotate_left
           ·intro w'
            go_simp
            with_reducible rfl
           rotate_left
           ·simp only [Act.put, List.setIfInBounds_toArray, List.set_cons_zero, List.set_cons_succ, i64_w, i32_w]
            rfl
           refine pure_ (i := 2) (N := some 48) (v := ?_) (a' := ?_) #[false, true, true, false, false, false, false, false, false, false, false, false, false, false] rfl rfl (any_of HT_.out (by kernel_rfl)) (fun _ _ _ h => h) (Or.inl ⟨by rfl, ?_⟩) ?_ ?_
           rotate_left
           ·intro w'
            go_simp
            with_reducible rfl
           rotate_left
           ·simp only [Act.put, List.setIfInBounds_toArray, List.set_cons_zero, List.set_cons_succ, i64_w, i32_w]
            rfl
           refine pure_ (i := 3) (N := some 49) (v := ?_) (a' := ?_) #[false, true, true, true, false, false, false, false, false, false, false, false, false, false] rfl rfl (any_of HT_.out (by kernel_rfl)) (fun _ _ _ h => h) (Or.inl ⟨by rfl, ?_⟩) ?_ ?_
           rotate_left
           ·intro w'
            go_simp
            with_reducible rfl
           rotate_left
           ·simp only [Act.put, List.setIfInBounds_toArray, List.set_cons_zero, List.set_cons_succ, i64_w, i32_w]
            rfl
           refine take_ (i := 0) (N := some 46) (v := ?_) (a' := ?_) #[true, true, true, true, false, false, false, false, false, false, false, false, false, false] rfl rfl (take_ofW HT_.out HW_.out (by kernel_rfl)) (fun _ _ _ h => h) (Or.inl ⟨by rfl, ?_⟩) hHeld ?_ ?_
           rotate_left
           ·rintro w' ⟨s0, s1, s2, s3, s4, s5, s6, s7, s8, s9, s10, s11, s12, s13, s14⟩
            go_simp
            with_reducible rfl
           rotate_left
           ·simp only [Act.put, List.setIfInBounds_toArray, List.set_cons_zero, List.set_cons_succ, i64_w, i32_w]
            rfl
           refine take_ (i := 4) (N := some 50) (v := ?_) (a' := ?_) #[true, true, true, true, true, false, false, false, false, false, false, false, false, false] rfl rfl (take_ofW HT_.out HW_.out (by kernel_rfl)) (fun _ _ _ h => h) (Or.inl ⟨by rfl, ?_⟩) hHeld ?_ ?_
           rotate_left
           ·rintro w' ⟨s0, s1, s2, s3, s4, s5, s6, s7, s8, s9, s10, s11, s12, s13, s14⟩
            go_simp
            with_reducible rfl
           rotate_left
           ·simp only [Act.put, List.setIfInBounds_toArray, List.set_cons_zero, List.set_cons_succ, i64_w, i32_w]
            rfl
           refine join_ (σ := Value × Nat) 3 #[true, true, true, true, true, true, true, true, true, true, true, false, false, false] (fun s_ => [(51, .tuple #[.agg #[.int .i64 t109, s_.1], .bool t113, .int .i64 t114]), (9, .pointer (some ⟨s_.2, 0, none⟩)), (45, .tuple #[.agg #[.int .i64 t109, s_.1], .bool t113, .int .i64 t114]), (52, .agg #[.int .i64 t109, s_.1]), (53, .bool t113), (54, .int .i64 t114)]) (fun s_ w' => (w'.cell? ⟨gb101, 0, none⟩ = some (.int .i64 x102000_1) ∧ w'.cell? ⟨gb101, 1, none⟩ = some (.slice Ao21 x102001_1.length co21) ∧ w'.cell? (ad108.add ((x8_1).toNat * 13)) = some (.int .i64 ((rd_T65 l2 x8_1).f0)) ∧ w'.cell? ⟨(ad108.add ((x8_1).toNat * 13)).block, (ad108.add ((x8_1).toNat * 13)).off + 1, none⟩ = some (.int .i64 ((rd_T65 l2 x8_1).f1.f0)) ∧ w'.cell? ⟨(ad108.add ((x8_1).toNat * 13)).block, (ad108.add ((x8_1).toNat * 13)).off + 2, none⟩ = some (.int .i64 ((rd_T65 l2 x8_1).f1.f1)) ∧ w'.cell? ⟨(ad108.add ((x8_1).toNat * 13)).block, (ad108.add ((x8_1).toNat * 13)).off + 3, none⟩ = some (.int .i64 ((rd_T65 l2 x8_1).f1.f2)) ∧ w'.cell? ⟨(ad108.add ((x8_1).toNat * 13)).block, (ad108.add ((x8_1).toNat * 13)).off + 4, none⟩ = some (.int .i64 ((rd_T65 l2 x8_1).f2)) ∧ w'.cell? ⟨(ad108.add ((x8_1).toNat * 13)).block, (ad108.add ((x8_1).toNat * 13)).off + 5, none⟩ = some (.int .i64 ((rd_T65 l2 x8_1).f3)) ∧ w'.cell? ⟨(ad108.add ((x8_1).toNat * 13)).block, (ad108.add ((x8_1).toNat * 13)).off + 6, none⟩ = some (.int .i64 ((rd_T65 l2 x8_1).f4)) ∧ w'.cell? ⟨(ad108.add ((x8_1).toNat * 13)).block, (ad108.add ((x8_1).toNat * 13)).off + 7, none⟩ = some (.int .i64 ((rd_T65 l2 x8_1).f5)) ∧ w'.cell? ⟨(ad108.add ((x8_1).toNat * 13)).block, (ad108.add ((x8_1).toNat * 13)).off + 8, none⟩ = some (.bool ((rd_T65 l2 x8_1).f6.f0)) ∧ w'.cell? ⟨(ad108.add ((x8_1).toNat * 13)).block, (ad108.add ((x8_1).toNat * 13)).off + 9, none⟩ = some (.string ((rd_T65 l2 x8_1).f6.f1)) ∧ w'.cell? ⟨(ad108.add ((x8_1).toNat * 13)).block, (ad108.add ((x8_1).toNat * 13)).off + 10, none⟩ = some (.bool ((rd_T65 l2 x8_1).f7.f0)) ∧ w'.cell? ⟨(ad108.add ((x8_1).toNat * 13)).block, (ad108.add ((x8_1).toNat * 13)).off + 11, none⟩ = some (.string ((rd_T65 l2 x8_1).f7.f1)) ∧ w'.cell? ⟨(ad108.add ((x8_1).toNat * 13)).block, (ad108.add ((x8_1).toNat * 13)).off + 12, none⟩ = some (.int .i64 ((rd_T65 l2 x8_1).f8))) ∧ (Kd.V k33 33 w' w.heap.size (fun k_ => (P0_1_ k_ ∨ w.heap.size ≤ k_) ∧ k_ ≠ gb101 ∧ k_ ≠ gb102 ∧ k_ ≠ s_.2) s_.1 t110) ∧ (Kd.V k33 33 w' w.heap.size (fun k_ => (P0_1_ k_ ∨ w.heap.size ≤ k_) ∧ k_ ≠ gb101 ∧ k_ ≠ gb102 ∧ k_ ≠ s_.2) (.slice Ao21 x102001_1.length co21) x102001_1) ∧ (w'.heap[gb101]? = some (.cells #[.int .i64 x102000_1, .slice Ao21 x102001_1.length co21] 24 (0, 0))) ∧ (w'.heap[gb102]? = some (.cells #[.int .i64 x103000_1, .slice none 0 0] 24 (0, 0))) ∧ (w'.heap[s_.2]? = some (.cells #[.int .i64 0, .slice none 0 0] 24 (0, 0))) ∧ (w.heap.size ≤ s_.2) ∧ (w.heap.size ≤ s_.2) ∧ (gb101 ≠ s_.2) ∧ (s_.2 ≠ gb101) ∧ (gb102 ≠ s_.2) ∧ (s_.2 ≠ gb102) ∧ (Below w.heap.size w w')) ?_ ?_
           rotate_left
           ·intro hCont
            refine two_ (i := 5) (j := 10) (Ni := some 51) (Nj := some 9) #[true, true, true, true, true, true, false, false, false, false, false, false, false, false] #[true, true, true, true, true, false, false, false, false, false, true, false, false, false] rfl rfl rfl rfl (two_of HT_.out (by kernel_rfl)) (by decide) (by decide) (fun K hK => ?_) (fun K hK => ?_)
            ·skip
             refine goes_ Try.func68 (by kernel_rfl) rfl #[.agg #[.int .i64 x102000_1, .slice Ao21 x102001_1.length co21], .agg #[.int .i64 ((rd_T65 l2 x8_1).f0), .int .i64 ((rd_T65 l2 x8_1).f1.f0), .int .i64 ((rd_T65 l2 x8_1).f1.f1), .int .i64 ((rd_T65 l2 x8_1).f1.f2), .int .i64 ((rd_T65 l2 x8_1).f2), .int .i64 ((rd_T65 l2 x8_1).f3), .int .i64 ((rd_T65 l2 x8_1).f4), .int .i64 ((rd_T65 l2 x8_1).f5), .bool ((rd_T65 l2 x8_1).f6.f0), .string ((rd_T65 l2 x8_1).f6.f1), .bool ((rd_T65 l2 x8_1).f7.f0), .string ((rd_T65 l2 x8_1).f7.f1), .int .i64 ((rd_T65 l2 x8_1).f8)]] (by rfl) rfl rfl (by (try simp only [List.map_toArray, List.map_cons, List.map_nil]); first | done | rfl | (simp only [List.length_drop, List.length_take]; rfl)) ?_
             with_reducible refine (refRedo5.calls x102000_1 (fun k_ => ((P0_1_ k_ ∨ w.heap.size ≤ k_) ∧ (k_ ≠ gb101 ∧ k_ ≠ gb102))) _ _ x102001_1 ((rd_T65 l2 x8_1).f0) ((rd_T65 l2 x8_1).f1.f0) ((rd_T65 l2 x8_1).f1.f1) ((rd_T65 l2 x8_1).f1.f2) ((rd_T65 l2 x8_1).f2) ((rd_T65 l2 x8_1).f3) ((rd_T65 l2 x8_1).f4) ((rd_T65 l2 x8_1).f5) ((rd_T65 l2 x8_1).f6.f0) ((rd_T65 l2 x8_1).f6.f1) ((rd_T65 l2 x8_1).f7.f0) ((rd_T65 l2 x8_1).f7.f1) ((rd_T65 l2 x8_1).f8) t109 t110 t113 t114 _ ?side1 A19.out).mono ?_
             (case side1 => exact HO_102001.out)
             rintro e w23 ⟨v111, rfl, ho0, hb⟩
             refine ⟨_, rfl, ?_⟩
             have n0_ := Aside0.mk (Kd.V_below (by (with_reducible repeat (first | apply Kd.V_alloc | apply Kd.V_drewN | apply Kd.V_drew)); exact HO_102001.out) hb)
             have n1_ := Aside0.mk (Kd.V_lower (Kd.V_mono (ok' := fun k_ => (P0_1_ k_ ∨ w.heap.size ≤ k_) ∧ k_ ≠ gb101 ∧ k_ ≠ gb102) ho0 (fun k_ hk_ => ⟨Or.elim hk_ (fun hs_ => hs_.1) (fun hn_ => (.inr (Nat.le_trans (below_size (by repeat (first | (with_reducible first | exact HB.out | apply below_alloc | apply pw_below_drewN | apply below_drew1 | refine below_set ?_ GE101.out | refine below_set ?_ GE102.out) | exact HB.out))) hn_))), Or.elim hk_ (fun hs_ => hs_.2.1) (fun hn_ => (Kd.freshB (g := gb101) (o := .cells #[.int .i64 x102000_1, .slice Ao21 x102001_1.length co21] 24 (0, 0)) (by (with_reducible repeat (first | refine blk_drewN ?_ _ | refine blk_drew ?_ | refine blk_alloc ?_ _)); exact BK101.out) k_ hn_)), Or.elim hk_ (fun hs_ => hs_.2.2) (fun hn_ => (Kd.freshB (g := gb102) (o := .cells #[.int .i64 x103000_1, .slice none 0 0] 24 (0, 0)) (by (with_reducible repeat (first | refine blk_drewN ?_ _ | refine blk_drew ?_ | refine blk_alloc ?_ _)); exact BK102.out) k_ hn_))⟩)) (below_size (by repeat (first | (with_reducible first | exact HB.out | apply below_alloc | apply pw_below_drewN | apply below_drew1 | refine below_set ?_ GE101.out | refine below_set ?_ GE102.out) | exact HB.out))))
             have n2_ := Aside0.mk (blk_below BK101.out hb)
             have n3_ := Aside0.mk (blk_below BK102.out hb)
             have n4_ := Aside0.mk (below_step HB.out hb)
             clear HO_102001
             clear BK101
             clear BK102
             clear HB
             have HO_102001 := n0_
             have HO112 := n1_
             have BK101 := n2_
             have BK102 := n3_
             have HB := n4_
             clear n0_ n1_ n2_ n3_ n4_
             (try clear hb)
             (try clear hb2)
             (try clear hk)
             (try clear hi)
             (try clear ho0)
             refine hK.out _ _ ⟨(blk_cell BK101.out 0).trans rfl, (blk_cell BK101.out 1).trans rfl, ((HB.out.cell (World.block_lt_of_cell? w _ hw108_0)).trans hw108_0), ((HB.out.cell (World.block_lt_of_cell? w _ hw108_1)).trans hw108_1), ((HB.out.cell (World.block_lt_of_cell? w _ hw108_2)).trans hw108_2), ((HB.out.cell (World.block_lt_of_cell? w _ hw108_3)).trans hw108_3), ((HB.out.cell (World.block_lt_of_cell? w _ hw108_4)).trans hw108_4), ((HB.out.cell (World.block_lt_of_cell? w _ hw108_5)).trans hw108_5), ((HB.out.cell (World.block_lt_of_cell? w _ hw108_6)).trans hw108_6), ((HB.out.cell (World.block_lt_of_cell? w _ hw108_7)).trans hw108_7), ((HB.out.cell (World.block_lt_of_cell? w _ hw108_8)).trans hw108_8), ((HB.out.cell (World.block_lt_of_cell? w _ hw108_9)).trans hw108_9), ((HB.out.cell (World.block_lt_of_cell? w _ hw108_10)).trans hw108_10), ((HB.out.cell (World.block_lt_of_cell? w _ hw108_11)).trans hw108_11), ((HB.out.cell (World.block_lt_of_cell? w _ hw108_12)).trans hw108_12)⟩ (fun hHeld => ?_)
             clear hK K
             refine norm_ (a' := ?_) ?_ ?_
             rotate_left
             ·show Act.put _ (some 51) _ = _
              simp only [Act.put, List.setIfInBounds_toArray, List.set_cons_zero, List.set_cons_succ, i64_w, i32_w]
              rfl
             refine pure_ (i := 6) (N := some 45) (v := ?_) (a' := ?_) #[true, true, true, true, true, true, true, false, false, false, false, false, false, false] rfl rfl (any_of HT_.out (by kernel_rfl)) (fun _ _ _ h => h) (Or.inl ⟨by rfl, ?_⟩) ?_ ?_
             rotate_left
             ·intro w'
              go_simp
              with_reducible rfl
             rotate_left
             ·simp only [Act.put, List.setIfInBounds_toArray, List.set_cons_zero, List.set_cons_succ, i64_w, i32_w]
              rfl
             refine pure_ (i := 7) (N := some 52) (v := ?_) (a' := ?_) #[true, true, true, true, true, true, true, true, false, false, false, false, false, false] rfl rfl (any_of HT_.out (by kernel_rfl)) (fun _ _ _ h => h) (Or.inl ⟨by rfl, ?_⟩) ?_ ?_
             rotate_left
             ·intro w'
              go_simp
              with_reducible rfl
             rotate_left
             ·simp only [Act.put, List.setIfInBounds_toArray, List.set_cons_zero, List.set_cons_succ, i64_w, i32_w]
              rfl
             refine pure_ (i := 8) (N := some 53) (v := ?_) (a' := ?_) #[true, true, true, true, true, true, true, true, true, false, false, false, false, false] rfl rfl (any_of HT_.out (by kernel_rfl)) (fun _ _ _ h => h) (Or.inl ⟨by rfl, ?_⟩) ?_ ?_
             rotate_left
             ·intro w'
              go_simp
              with_reducible rfl
             rotate_left
             ·simp only [Act.put, List.setIfInBounds_toArray, List.set_cons_zero, List.set_cons_succ, i64_w, i32_w]
              rfl
             refine pure_ (i := 9) (N := some 54) (v := ?_) (a' := ?_) #[true, true, true, true, true, true, true, true, true, true, false, false, false, false] rfl rfl (any_of HT_.out (by kernel_rfl)) (fun _ _ _ h => h) (Or.inl ⟨by rfl, ?_⟩) ?_ ?_
             rotate_left
             ·intro w'
              go_simp
              with_reducible rfl
             rotate_left
             ·simp only [Act.put, List.setIfInBounds_toArray, List.set_cons_zero, List.set_cons_succ, i64_w, i32_w]
              rfl
             refine one_ (i := 10) (N := some 9) #[true, true, true, true, true, true, true, true, true, true, true, false, false, false] rfl rfl (one_of HT_.out (by kernel_rfl)) (by decide) (fun K hK => ?_)
             refine box_step ?hg (N := 9) ?hd (cs := #[.int .i64 0, .slice none 0 0]) (t := 24) ?hr ?_; (case hd => rfl); (case hg => rfl); (case hr => first | (go_simp; done) | (go_simp; rfl))
             intro gb115 hg w24 hbox hb
             have n0_ := Aside0.mk (Kd.V_below (Kd.V_elderB (by (with_reducible repeat (first | apply Kd.V_alloc | apply Kd.V_drewN | apply Kd.V_drew)); exact HO_102001.out) gb115 (Nat.le_of_eq hg.symm)) hb)
             have n1_ := Aside0.mk (Kd.V_below (Kd.V_elderB (by (with_reducible repeat (first | apply Kd.V_alloc | apply Kd.V_drewN | apply Kd.V_drew)); exact HO112.out) gb115 (Nat.le_of_eq hg.symm)) hb)
             have n2_ := Aside0.mk (blk_below BK101.out hb)
             have n3_ := Aside0.mk (blk_below BK102.out hb)
             have n4_ := Aside0.mk (below_step HB.out hb)
             have n5_ := Aside0.mk (hbox)
             have n6_ := Aside0.mk ((by rw [hg]; exact below_size HB.out : w.heap.size ≤ gb115))
             have n7_ := Aside0.mk ((by rw [hg]; exact below_size HB.out : w.heap.size ≤ gb115))
             have n8_ := Aside0.mk ((by rw [hg]; exact Nat.ne_of_lt (blk_lt BK101.out) : gb101 ≠ gb115))
             have n9_ := Aside0.mk ((by rw [hg]; exact Nat.ne_of_gt (blk_lt BK101.out) : gb115 ≠ gb101))
             have n10_ := Aside0.mk ((by rw [hg]; exact Nat.ne_of_lt (blk_lt BK102.out) : gb102 ≠ gb115))
             have n11_ := Aside0.mk ((by rw [hg]; exact Nat.ne_of_gt (blk_lt BK102.out) : gb115 ≠ gb102))
             clear HO_102001
             clear HO112
             clear BK101
             clear BK102
             clear HB
             have HO_102001 := n0_
             have HO112 := n1_
             have BK101 := n2_
             have BK102 := n3_
             have HB := n4_
             have BK115 := n5_
             have GW115 := n6_
             have GE115 := n7_
             have NB101_115 := n8_
             have NB115_101 := n9_
             have NB102_115 := n10_
             have NB115_102 := n11_
             clear n0_ n1_ n2_ n3_ n4_ n5_ n6_ n7_ n8_ n9_ n10_ n11_
             clear hb hbox hg
             refine hK.out _ _ ⟨(blk_cell BK101.out 0).trans rfl, (blk_cell BK101.out 1).trans rfl, ((HB.out.cell (World.block_lt_of_cell? w _ hw108_0)).trans hw108_0), ((HB.out.cell (World.block_lt_of_cell? w _ hw108_1)).trans hw108_1), ((HB.out.cell (World.block_lt_of_cell? w _ hw108_2)).trans hw108_2), ((HB.out.cell (World.block_lt_of_cell? w _ hw108_3)).trans hw108_3), ((HB.out.cell (World.block_lt_of_cell? w _ hw108_4)).trans hw108_4), ((HB.out.cell (World.block_lt_of_cell? w _ hw108_5)).trans hw108_5), ((HB.out.cell (World.block_lt_of_cell? w _ hw108_6)).trans hw108_6), ((HB.out.cell (World.block_lt_of_cell? w _ hw108_7)).trans hw108_7), ((HB.out.cell (World.block_lt_of_cell? w _ hw108_8)).trans hw108_8), ((HB.out.cell (World.block_lt_of_cell? w _ hw108_9)).trans hw108_9), ((HB.out.cell (World.block_lt_of_cell? w _ hw108_10)).trans hw108_10), ((HB.out.cell (World.block_lt_of_cell? w _ hw108_11)).trans hw108_11), ((HB.out.cell (World.block_lt_of_cell? w _ hw108_12)).trans hw108_12)⟩ (fun hHeld => ?_)
             clear hK K
             refine norm_ (a' := ?_) ?_ ?_
             rotate_left
             ·show Act.put _ (some 9) _ = _
              simp only [Act.put, List.setIfInBounds_toArray, List.set_cons_zero, List.set_cons_succ, i64_w, i32_w]
              rfl
             exact norm_ (by simp only [putAll, Act.put, List.setIfInBounds_toArray, List.set_cons_zero, List.set_cons_succ]) (hCont (v111, gb115) _ ⟨hHeld, (by (with_reducible repeat (first | apply Kd.V_alloc | apply Kd.V_drewN | apply Kd.V_drew)); exact Kd.V_mono HO112.out (fun _ hk => ⟨hk.1.1, ⟨hk.1.2.1, ⟨hk.1.2.2, hk.2⟩⟩⟩)), (by (with_reducible repeat (first | apply Kd.V_alloc | apply Kd.V_drewN | apply Kd.V_drew)); exact Kd.V_mono HO_102001.out (fun _ hk => ⟨hk.1.1, ⟨hk.1.2.1, ⟨hk.1.2.2, hk.2⟩⟩⟩)), (by (with_reducible repeat (first | refine blk_drewN ?_ _ | refine blk_drew ?_ | refine blk_alloc ?_ _)); exact BK101.out), (by (with_reducible repeat (first | refine blk_drewN ?_ _ | refine blk_drew ?_ | refine blk_alloc ?_ _)); exact BK102.out), (by (with_reducible repeat (first | refine blk_drewN ?_ _ | refine blk_drew ?_ | refine blk_alloc ?_ _)); exact BK115.out), GW115.out, GE115.out, NB101_115.out, NB115_101.out, NB102_115.out, NB115_102.out, (by repeat (first | (with_reducible first | exact HB.out | apply below_alloc | apply pw_below_drewN | apply below_drew1 | refine below_set ?_ GE101.out | refine below_set ?_ GE102.out | refine below_set ?_ GE115.out) | exact HB.out))⟩)
            ·skip
             refine box_step ?hg (N := 9) ?hd (cs := #[.int .i64 0, .slice none 0 0]) (t := 24) ?hr ?_; (case hd => rfl); (case hg => rfl); (case hr => first | (go_simp; done) | (go_simp; rfl))
             intro gb115 hg w23 hbox hb
             have n0_ := Aside0.mk (Kd.V_below (Kd.V_elderB (by (with_reducible repeat (first | apply Kd.V_alloc | apply Kd.V_drewN | apply Kd.V_drew)); exact HO_102001.out) gb115 (Nat.le_of_eq hg.symm)) hb)
             have n1_ := Aside0.mk (blk_below BK101.out hb)
             have n2_ := Aside0.mk (blk_below BK102.out hb)
             have n3_ := Aside0.mk (below_step HB.out hb)
             have n4_ := Aside0.mk (hbox)
             have n5_ := Aside0.mk ((by rw [hg]; exact below_size HB.out : w.heap.size ≤ gb115))
             have n6_ := Aside0.mk ((by rw [hg]; exact below_size HB.out : w.heap.size ≤ gb115))
             have n7_ := Aside0.mk ((by rw [hg]; exact Nat.ne_of_lt (blk_lt BK101.out) : gb101 ≠ gb115))
             have n8_ := Aside0.mk ((by rw [hg]; exact Nat.ne_of_gt (blk_lt BK101.out) : gb115 ≠ gb101))
             have n9_ := Aside0.mk ((by rw [hg]; exact Nat.ne_of_lt (blk_lt BK102.out) : gb102 ≠ gb115))
             have n10_ := Aside0.mk ((by rw [hg]; exact Nat.ne_of_gt (blk_lt BK102.out) : gb115 ≠ gb102))
             clear HO_102001
             clear BK101
             clear BK102
             clear HB
             have HO_102001 := n0_
             have BK101 := n1_
             have BK102 := n2_
             have HB := n3_
             have BK115 := n4_
             have GW115 := n5_
             have GE115 := n6_
             have NB101_115 := n7_
             have NB115_101 := n8_
             have NB102_115 := n9_
             have NB115_102 := n10_
             clear n0_ n1_ n2_ n3_ n4_ n5_ n6_ n7_ n8_ n9_ n10_
             clear hb hbox hg
             refine hK.out _ _ ⟨(blk_cell BK101.out 0).trans rfl, (blk_cell BK101.out 1).trans rfl, ((HB.out.cell (World.block_lt_of_cell? w _ hw108_0)).trans hw108_0), ((HB.out.cell (World.block_lt_of_cell? w _ hw108_1)).trans hw108_1), ((HB.out.cell (World.block_lt_of_cell? w _ hw108_2)).trans hw108_2), ((HB.out.cell (World.block_lt_of_cell? w _ hw108_3)).trans hw108_3), ((HB.out.cell (World.block_lt_of_cell? w _ hw108_4)).trans hw108_4), ((HB.out.cell (World.block_lt_of_cell? w _ hw108_5)).trans hw108_5), ((HB.out.cell (World.block_lt_of_cell? w _ hw108_6)).trans hw108_6), ((HB.out.cell (World.block_lt_of_cell? w _ hw108_7)).trans hw108_7), ((HB.out.cell (World.block_lt_of_cell? w _ hw108_8)).trans hw108_8), ((HB.out.cell (World.block_lt_of_cell? w _ hw108_9)).trans hw108_9), ((HB.out.cell (World.block_lt_of_cell? w _ hw108_10)).trans hw108_10), ((HB.out.cell (World.block_lt_of_cell? w _ hw108_11)).trans hw108_11), ((HB.out.cell (World.block_lt_of_cell? w _ hw108_12)).trans hw108_12)⟩ (fun hHeld => ?_)
             clear hK K
             refine norm_ (a' := ?_) ?_ ?_
             rotate_left
             ·show Act.put _ (some 9) _ = _
              simp only [Act.put, List.setIfInBounds_toArray, List.set_cons_zero, List.set_cons_succ, i64_w, i32_w]
              rfl
             refine one_ (i := 5) (N := some 51) #[true, true, true, true, true, true, false, false, false, false, true, false, false, false] rfl rfl (one_of HT_.out (by kernel_rfl)) (by decide) (fun K hK => ?_)
             refine goes_ Try.func68 (by kernel_rfl) rfl #[.agg #[.int .i64 x102000_1, .slice Ao21 x102001_1.length co21], .agg #[.int .i64 ((rd_T65 l2 x8_1).f0), .int .i64 ((rd_T65 l2 x8_1).f1.f0), .int .i64 ((rd_T65 l2 x8_1).f1.f1), .int .i64 ((rd_T65 l2 x8_1).f1.f2), .int .i64 ((rd_T65 l2 x8_1).f2), .int .i64 ((rd_T65 l2 x8_1).f3), .int .i64 ((rd_T65 l2 x8_1).f4), .int .i64 ((rd_T65 l2 x8_1).f5), .bool ((rd_T65 l2 x8_1).f6.f0), .string ((rd_T65 l2 x8_1).f6.f1), .bool ((rd_T65 l2 x8_1).f7.f0), .string ((rd_T65 l2 x8_1).f7.f1), .int .i64 ((rd_T65 l2 x8_1).f8)]] (by rfl) rfl rfl (by (try simp only [List.map_toArray, List.map_cons, List.map_nil]); first | done | rfl | (simp only [List.length_drop, List.length_take]; rfl)) ?_
             with_reducible refine (refRedo5.calls x102000_1 (fun k_ => (((P0_1_ k_ ∨ w.heap.size ≤ k_) ∧ (k_ ≠ gb101 ∧ k_ ≠ gb102)) ∧ k_ ≠ gb115)) _ _ x102001_1 ((rd_T65 l2 x8_1).f0) ((rd_T65 l2 x8_1).f1.f0) ((rd_T65 l2 x8_1).f1.f1) ((rd_T65 l2 x8_1).f1.f2) ((rd_T65 l2 x8_1).f2) ((rd_T65 l2 x8_1).f3) ((rd_T65 l2 x8_1).f4) ((rd_T65 l2 x8_1).f5) ((rd_T65 l2 x8_1).f6.f0) ((rd_T65 l2 x8_1).f6.f1) ((rd_T65 l2 x8_1).f7.f0) ((rd_T65 l2 x8_1).f7.f1) ((rd_T65 l2 x8_1).f8) t109 t110 t113 t114 _ ?side1 A19.out).mono ?_
             (case side1 => exact HO_102001.out)
             rintro e w24 ⟨v111, rfl, ho0, hb⟩
             refine ⟨_, rfl, ?_⟩
             have n0_ := Aside0.mk (Kd.V_below (by (with_reducible repeat (first | apply Kd.V_alloc | apply Kd.V_drewN | apply Kd.V_drew)); exact HO_102001.out) hb)
             have n1_ := Aside0.mk (Kd.V_lower (Kd.V_mono (ok' := fun k_ => (P0_1_ k_ ∨ w.heap.size ≤ k_) ∧ k_ ≠ gb101 ∧ k_ ≠ gb102 ∧ k_ ≠ gb115) ho0 (fun k_ hk_ => ⟨Or.elim hk_ (fun hs_ => hs_.1.1) (fun hn_ => (.inr (Nat.le_trans (below_size (by repeat (first | (with_reducible first | exact HB.out | apply below_alloc | apply pw_below_drewN | apply below_drew1 | refine below_set ?_ GE101.out | refine below_set ?_ GE102.out | refine below_set ?_ GE115.out) | exact HB.out))) hn_))), Or.elim hk_ (fun hs_ => hs_.1.2.1) (fun hn_ => (Kd.freshB (g := gb101) (o := .cells #[.int .i64 x102000_1, .slice Ao21 x102001_1.length co21] 24 (0, 0)) (by (with_reducible repeat (first | refine blk_drewN ?_ _ | refine blk_drew ?_ | refine blk_alloc ?_ _)); exact BK101.out) k_ hn_)), Or.elim hk_ (fun hs_ => hs_.1.2.2) (fun hn_ => (Kd.freshB (g := gb102) (o := .cells #[.int .i64 x103000_1, .slice none 0 0] 24 (0, 0)) (by (with_reducible repeat (first | refine blk_drewN ?_ _ | refine blk_drew ?_ | refine blk_alloc ?_ _)); exact BK102.out) k_ hn_)), Or.elim hk_ (fun hs_ => hs_.2) (fun hn_ => (Kd.freshB (g := gb115) (o := .cells #[.int .i64 0, .slice none 0 0] 24 (0, 0)) (by (with_reducible repeat (first | refine blk_drewN ?_ _ | refine blk_drew ?_ | refine blk_alloc ?_ _)); exact BK115.out) k_ hn_))⟩)) (below_size (by repeat (first | (with_reducible first | exact HB.out | apply below_alloc | apply pw_below_drewN | apply below_drew1 | refine below_set ?_ GE101.out | refine below_set ?_ GE102.out | refine below_set ?_ GE115.out) | exact HB.out))))
             have n2_ := Aside0.mk (blk_below BK101.out hb)
             have n3_ := Aside0.mk (blk_below BK102.out hb)
             have n4_ := Aside0.mk (blk_below BK115.out hb)
             have n5_ := Aside0.mk (below_step HB.out hb)
             clear HO_102001
             clear BK101
             clear BK102
             clear BK115
             clear HB
             have HO_102001 := n0_
             have HO112 := n1_
             have BK101 := n2_
             have BK102 := n3_
             have BK115 := n4_
             have HB := n5_
             clear n0_ n1_ n2_ n3_ n4_ n5_
             (try clear hb)
             (try clear hb2)
             (try clear hk)
             (try clear hi)
             (try clear ho0)
             refine hK.out _ _ ⟨(blk_cell BK101.out 0).trans rfl, (blk_cell BK101.out 1).trans rfl, ((HB.out.cell (World.block_lt_of_cell? w _ hw108_0)).trans hw108_0), ((HB.out.cell (World.block_lt_of_cell? w _ hw108_1)).trans hw108_1), ((HB.out.cell (World.block_lt_of_cell? w _ hw108_2)).trans hw108_2), ((HB.out.cell (World.block_lt_of_cell? w _ hw108_3)).trans hw108_3), ((HB.out.cell (World.block_lt_of_cell? w _ hw108_4)).trans hw108_4), ((HB.out.cell (World.block_lt_of_cell? w _ hw108_5)).trans hw108_5), ((HB.out.cell (World.block_lt_of_cell? w _ hw108_6)).trans hw108_6), ((HB.out.cell (World.block_lt_of_cell? w _ hw108_7)).trans hw108_7), ((HB.out.cell (World.block_lt_of_cell? w _ hw108_8)).trans hw108_8), ((HB.out.cell (World.block_lt_of_cell? w _ hw108_9)).trans hw108_9), ((HB.out.cell (World.block_lt_of_cell? w _ hw108_10)).trans hw108_10), ((HB.out.cell (World.block_lt_of_cell? w _ hw108_11)).trans hw108_11), ((HB.out.cell (World.block_lt_of_cell? w _ hw108_12)).trans hw108_12)⟩ (fun hHeld => ?_)
             clear hK K
             refine norm_ (a' := ?_) ?_ ?_
             rotate_left
             ·show Act.put _ (some 51) _ = _
              simp only [Act.put, List.setIfInBounds_toArray, List.set_cons_zero, List.set_cons_succ, i64_w, i32_w]
              rfl
             refine pure_ (i := 6) (N := some 45) (v := ?_) (a' := ?_) #[true, true, true, true, true, true, true, false, false, false, true, false, false, false] rfl rfl (any_of HT_.out (by kernel_rfl)) (fun _ _ _ h => h) (Or.inl ⟨by rfl, ?_⟩) ?_ ?_
             rotate_left
             ·intro w'
              go_simp
              with_reducible rfl
             rotate_left
             ·simp only [Act.put, List.setIfInBounds_toArray, List.set_cons_zero, List.set_cons_succ, i64_w, i32_w]
              rfl
             refine pure_ (i := 7) (N := some 52) (v := ?_) (a' := ?_) #[true, true, true, true, true, true, true, true, false, false, true, false, false, false] rfl rfl (any_of HT_.out (by kernel_rfl)) (fun _ _ _ h => h) (Or.inl ⟨by rfl, ?_⟩) ?_ ?_
             rotate_left
             ·intro w'
              go_simp
              with_reducible rfl
             rotate_left
             ·simp only [Act.put, List.setIfInBounds_toArray, List.set_cons_zero, List.set_cons_succ, i64_w, i32_w]
              rfl
             refine pure_ (i := 8) (N := some 53) (v := ?_) (a' := ?_) #[true, true, true, true, true, true, true, true, true, false, true, false, false, false] rfl rfl (any_of HT_.out (by kernel_rfl)) (fun _ _ _ h => h) (Or.inl ⟨by rfl, ?_⟩) ?_ ?_
             rotate_left
             ·intro w'
              go_simp
              with_reducible rfl
             rotate_left
             ·simp only [Act.put, List.setIfInBounds_toArray, List.set_cons_zero, List.set_cons_succ, i64_w, i32_w]
              rfl
             refine pure_ (i := 9) (N := some 54) (v := ?_) (a' := ?_) #[true, true, true, true, true, true, true, true, true, true, true, false, false, false] rfl rfl (any_of HT_.out (by kernel_rfl)) (fun _ _ _ h => h) (Or.inl ⟨by rfl, ?_⟩) ?_ ?_
             rotate_left
             ·intro w'
              go_simp
              with_reducible rfl
             rotate_left
             ·simp only [Act.put, List.setIfInBounds_toArray, List.set_cons_zero, List.set_cons_succ, i64_w, i32_w]
              rfl
             exact norm_ (by simp only [putAll, Act.put, List.setIfInBounds_toArray, List.set_cons_zero, List.set_cons_succ]) (hCont (v111, gb115) _ ⟨hHeld, (by (with_reducible repeat (first | apply Kd.V_alloc | apply Kd.V_drewN | apply Kd.V_drew)); exact HO112.out), (by (with_reducible repeat (first | apply Kd.V_alloc | apply Kd.V_drewN | apply Kd.V_drew)); exact Kd.V_mono HO_102001.out (fun _ hk => ⟨hk.1.1, ⟨hk.1.2.1, ⟨hk.1.2.2, hk.2⟩⟩⟩)), (by (with_reducible repeat (first | refine blk_drewN ?_ _ | refine blk_drew ?_ | refine blk_alloc ?_ _)); exact BK101.out), (by (with_reducible repeat (first | refine blk_drewN ?_ _ | refine blk_drew ?_ | refine blk_alloc ?_ _)); exact BK102.out), (by (with_reducible repeat (first | refine blk_drewN ?_ _ | refine blk_drew ?_ | refine blk_alloc ?_ _)); exact BK115.out), GW115.out, GE115.out, NB101_115.out, NB115_101.out, NB102_115.out, NB115_102.out, (by repeat (first | (with_reducible first | exact HB.out | apply below_alloc | apply pw_below_drewN | apply below_drew1 | refine below_set ?_ GE101.out | refine below_set ?_ GE102.out | refine below_set ?_ GE115.out) | exact HB.out))⟩)
           rintro ⟨v111, gb115⟩ w25 ⟨hS_, h0_, h1_, h2_, h3_, h4_, h5_, h6_, h7_, h8_, h9_, h10_, h11_⟩
           have n0_ : Aside0 (Kd.V k33 33 w25 w.heap.size (fun k_ => (P0_1_ k_ ∨ w.heap.size ≤ k_) ∧ k_ ≠ gb101 ∧ k_ ≠ gb102 ∧ k_ ≠ gb115) v111 t110) := ⟨h0_⟩
           have n1_ : Aside0 (Kd.V k33 33 w25 w.heap.size (fun k_ => (P0_1_ k_ ∨ w.heap.size ≤ k_) ∧ k_ ≠ gb101 ∧ k_ ≠ gb102 ∧ k_ ≠ gb115) (.slice Ao21 x102001_1.length co21) x102001_1) := ⟨h1_⟩
           have n2_ : Aside0 (w25.heap[gb101]? = some (.cells #[.int .i64 x102000_1, .slice Ao21 x102001_1.length co21] 24 (0, 0))) := ⟨h2_⟩
           have n3_ : Aside0 (w25.heap[gb102]? = some (.cells #[.int .i64 x103000_1, .slice none 0 0] 24 (0, 0))) := ⟨h3_⟩
           have n4_ : Aside0 (w25.heap[gb115]? = some (.cells #[.int .i64 0, .slice none 0 0] 24 (0, 0))) := ⟨h4_⟩
           have n5_ : Aside0 (w.heap.size ≤ gb115) := ⟨h5_⟩
           have n6_ : Aside0 (w.heap.size ≤ gb115) := ⟨h6_⟩
           have n7_ : Aside0 (gb101 ≠ gb115) := ⟨h7_⟩
           have n8_ : Aside0 (gb115 ≠ gb101) := ⟨h8_⟩
           have n9_ : Aside0 (gb102 ≠ gb115) := ⟨h9_⟩
           have n10_ : Aside0 (gb115 ≠ gb102) := ⟨h10_⟩
           have n11_ : Aside0 (Below w.heap.size w w25) := ⟨h11_⟩
           clear HO_102001
           clear BK101
           clear BK102
           clear HB
           clear h0_ h1_ h2_ h3_ h4_ h5_ h6_ h7_ h8_ h9_ h10_ h11_
           have HO112 := n0_
           have HO_102001 := n1_
           have BK101 := n2_
           have BK102 := n3_
           have BK115 := n4_
           have GW115 := n5_
           have GE115 := n6_
           have NB101_115 := n7_
           have NB115_101 := n8_
           have NB102_115 := n9_
           have NB115_102 := n10_
           have HB := n11_
           clear n0_ n1_ n2_ n3_ n4_ n5_ n6_ n7_ n8_ n9_ n10_ n11_
           have hHeld : w25.cell? ⟨gb101, 0, none⟩ = some (.int .i64 x102000_1) ∧ w25.cell? ⟨gb101, 1, none⟩ = some (.slice Ao21 x102001_1.length co21) ∧ w25.cell? (ad108.add ((x8_1).toNat * 13)) = some (.int .i64 ((rd_T65 l2 x8_1).f0)) ∧ w25.cell? ⟨(ad108.add ((x8_1).toNat * 13)).block, (ad108.add ((x8_1).toNat * 13)).off + 1, none⟩ = some (.int .i64 ((rd_T65 l2 x8_1).f1.f0)) ∧ w25.cell? ⟨(ad108.add ((x8_1).toNat * 13)).block, (ad108.add ((x8_1).toNat * 13)).off + 2, none⟩ = some (.int .i64 ((rd_T65 l2 x8_1).f1.f1)) ∧ w25.cell? ⟨(ad108.add ((x8_1).toNat * 13)).block, (ad108.add ((x8_1).toNat * 13)).off + 3, none⟩ = some (.int .i64 ((rd_T65 l2 x8_1).f1.f2)) ∧ w25.cell? ⟨(ad108.add ((x8_1).toNat * 13)).block, (ad108.add ((x8_1).toNat * 13)).off + 4, none⟩ = some (.int .i64 ((rd_T65 l2 x8_1).f2)) ∧ w25.cell? ⟨(ad108.add ((x8_1).toNat * 13)).block, (ad108.add ((x8_1).toNat * 13)).off + 5, none⟩ = some (.int .i64 ((rd_T65 l2 x8_1).f3)) ∧ w25.cell? ⟨(ad108.add ((x8_1).toNat * 13)).block, (ad108.add ((x8_1).toNat * 13)).off + 6, none⟩ = some (.int .i64 ((rd_T65 l2 x8_1).f4)) ∧ w25.cell? ⟨(ad108.add ((x8_1).toNat * 13)).block, (ad108.add ((x8_1).toNat * 13)).off + 7, none⟩ = some (.int .i64 ((rd_T65 l2 x8_1).f5)) ∧ w25.cell? ⟨(ad108.add ((x8_1).toNat * 13)).block, (ad108.add ((x8_1).toNat * 13)).off + 8, none⟩ = some (.bool ((rd_T65 l2 x8_1).f6.f0)) ∧ w25.cell? ⟨(ad108.add ((x8_1).toNat * 13)).block, (ad108.add ((x8_1).toNat * 13)).off + 9, none⟩ = some (.string ((rd_T65 l2 x8_1).f6.f1)) ∧ w25.cell? ⟨(ad108.add ((x8_1).toNat * 13)).block, (ad108.add ((x8_1).toNat * 13)).off + 10, none⟩ = some (.bool ((rd_T65 l2 x8_1).f7.f0)) ∧ w25.cell? ⟨(ad108.add ((x8_1).toNat * 13)).block, (ad108.add ((x8_1).toNat * 13)).off + 11, none⟩ = some (.string ((rd_T65 l2 x8_1).f7.f1)) ∧ w25.cell? ⟨(ad108.add ((x8_1).toNat * 13)).block, (ad108.add ((x8_1).toNat * 13)).off + 12, none⟩ = some (.int .i64 ((rd_T65 l2 x8_1).f8)) := hS_
           obtain ⟨Ao27, co27, eo27⟩ := Kd.V_slice HO112.out
           (first | subst eo27 | (injection eo27 with f1_ f2_ f3_; have f4_ := f1_.symm; have f5_ := f3_.symm; clear f1_ f2_ f3_; subst f4_; subst f5_))
           refine norm_ (a' := ?_) ?_ ?_
           rotate_left
           ·simp only [putAll, Act.put, List.setIfInBounds_toArray, List.set_cons_zero, List.set_cons_succ]
            rfl
           refine one_ (i := 11) (N := none) #[true, true, true, true, true, true, true, true, true, true, true, true, false, false] rfl rfl (one_of HT_.out (by kernel_rfl)) (by decide) (fun K hK => ?_)
           have hs26 : w25.cell? ⟨gb115, 0, none⟩ = some (.int .i64 0) := (blk_cell BK115.out 0).trans rfl
           have hfs26 := blk_frozen BK115.out 0
           have hns26_0 := NB101_115.out
           have hns26_1 := NB102_115.out
           have hms26_0 := NB115_101.out
           have hms26_1 := NB115_102.out
           have hs28 : w25.cell? ⟨gb115, 1, none⟩ = some (.slice none 0 0) := (blk_cell BK115.out 1).trans rfl
           have hfs28 := blk_frozen BK115.out 1
           have hns28_0 := NB101_115.out
           have hns28_1 := NB102_115.out
           have hms28_0 := NB115_101.out
           have hms28_1 := NB115_102.out
           refine skip_ (w1 := ?_) (by rfl) rfl ?_ ?_
           rotate_left
           ·go_simp
            rfl
           refine hK.out _ _ ⟨((cell_far (p := ⟨gb115, _, none⟩) NB101_115.out _).trans (((cell_far (p := ⟨gb115, _, none⟩) NB101_115.out _).trans (hHeld.1)))), ((cell_far (p := ⟨gb115, _, none⟩) NB101_115.out _).trans (((cell_far (p := ⟨gb115, _, none⟩) NB101_115.out _).trans (hHeld.2.1)))), ((cell_far (p := ⟨gb115, _, none⟩) (by (first | rw [add_block] | (show (Addr.add _ _).block ≠ _; rw [add_block]) | skip); exact Nat.ne_of_lt (Nat.lt_of_lt_of_le (by have := World.block_lt_of_cell? _ _ hw108_0; first | rwa [add_block] at this | exact this) GW115.out)) _).trans (((cell_far (p := ⟨gb115, _, none⟩) (by (first | rw [add_block] | (show (Addr.add _ _).block ≠ _; rw [add_block]) | skip); exact Nat.ne_of_lt (Nat.lt_of_lt_of_le (by have := World.block_lt_of_cell? _ _ hw108_0; first | rwa [add_block] at this | exact this) GW115.out)) _).trans (hHeld.2.2.1)))), ((cell_far (p := ⟨gb115, _, none⟩) (by (first | rw [add_block] | (show (Addr.add _ _).block ≠ _; rw [add_block]) | skip); exact Nat.ne_of_lt (Nat.lt_of_lt_of_le (by have := World.block_lt_of_cell? _ _ hw108_1; first | rwa [add_block] at this | exact this) GW115.out)) _).trans (((cell_far (p := ⟨gb115, _, none⟩) (by (first | rw [add_block] | (show (Addr.add _ _).block ≠ _; rw [add_block]) | skip); exact Nat.ne_of_lt (Nat.lt_of_lt_of_le (by have := World.block_lt_of_cell? _ _ hw108_1; first | rwa [add_block] at this | exact this) GW115.out)) _).trans (hHeld.2.2.2.1)))), ((cell_far (p := ⟨gb115, _, none⟩) (by (first | rw [add_block] | (show (Addr.add _ _).block ≠ _; rw [add_block]) | skip); exact Nat.ne_of_lt (Nat.lt_of_lt_of_le (by have := World.block_lt_of_cell? _ _ hw108_2; first | rwa [add_block] at this | exact this) GW115.out)) _).trans (((cell_far (p := ⟨gb115, _, none⟩) (by (first | rw [add_block] | (show (Addr.add _ _).block ≠ _; rw [add_block]) | skip); exact Nat.ne_of_lt (Nat.lt_of_lt_of_le (by have := World.block_lt_of_cell? _ _ hw108_2; first | rwa [add_block] at this | exact this) GW115.out)) _).trans (hHeld.2.2.2.2.1)))), ((cell_far (p := ⟨gb115, _, none⟩) (by (first | rw [add_block] | (show (Addr.add _ _).block ≠ _; rw [add_block]) | skip); exact Nat.ne_of_lt (Nat.lt_of_lt_of_le (by have := World.block_lt_of_cell? _ _ hw108_3; first | rwa [add_block] at this | exact this) GW115.out)) _).trans (((cell_far (p := ⟨gb115, _, none⟩) (by (first | rw [add_block] | (show (Addr.add _ _).block ≠ _; rw [add_block]) | skip); exact Nat.ne_of_lt (Nat.lt_of_lt_of_le (by have := World.block_lt_of_cell? _ _ hw108_3; first | rwa [add_block] at this | exact this) GW115.out)) _).trans (hHeld.2.2.2.2.2.1)))), ((cell_far (p := ⟨gb115, _, none⟩) (by (first | rw [add_block] | (show (Addr.add _ _).block ≠ _; rw [add_block]) | skip); exact Nat.ne_of_lt (Nat.lt_of_lt_of_le (by have := World.block_lt_of_cell? _ _ hw108_4; first | rwa [add_block] at this | exact this) GW115.out)) _).trans (((cell_far (p := ⟨gb115, _, none⟩) (by (first | rw [add_block] | (show (Addr.add _ _).block ≠ _; rw [add_block]) | skip); exact Nat.ne_of_lt (Nat.lt_of_lt_of_le (by have := World.block_lt_of_cell? _ _ hw108_4; first | rwa [add_block] at this | exact this) GW115.out)) _).trans (hHeld.2.2.2.2.2.2.1)))), ((cell_far (p := ⟨gb115, _, none⟩) (by (first | rw [add_block] | (show (Addr.add _ _).block ≠ _; rw [add_block]) | skip); exact Nat.ne_of_lt (Nat.lt_of_lt_of_le (by have := World.block_lt_of_cell? _ _ hw108_5; first | rwa [add_block] at this | exact this) GW115.out)) _).trans (((cell_far (p := ⟨gb115, _, none⟩) (by (first | rw [add_block] | (show (Addr.add _ _).block ≠ _; rw [add_block]) | skip); exact Nat.ne_of_lt (Nat.lt_of_lt_of_le (by have := World.block_lt_of_cell? _ _ hw108_5; first | rwa [add_block] at this | exact this) GW115.out)) _).trans (hHeld.2.2.2.2.2.2.2.1)))), ((cell_far (p := ⟨gb115, _, none⟩) (by (first | rw [add_block] | (show (Addr.add _ _).block ≠ _; rw [add_block]) | skip); exact Nat.ne_of_lt (Nat.lt_of_lt_of_le (by have := World.block_lt_of_cell? _ _ hw108_6; first | rwa [add_block] at this | exact this) GW115.out)) _).trans (((cell_far (p := ⟨gb115, _, none⟩) (by (first | rw [add_block] | (show (Addr.add _ _).block ≠ _; rw [add_block]) | skip); exact Nat.ne_of_lt (Nat.lt_of_lt_of_le (by have := World.block_lt_of_cell? _ _ hw108_6; first | rwa [add_block] at this | exact this) GW115.out)) _).trans (hHeld.2.2.2.2.2.2.2.2.1)))), ((cell_far (p := ⟨gb115, _, none⟩) (by (first | rw [add_block] | (show (Addr.add _ _).block ≠ _; rw [add_block]) | skip); exact Nat.ne_of_lt (Nat.lt_of_lt_of_le (by have := World.block_lt_of_cell? _ _ hw108_7; first | rwa [add_block] at this | exact this) GW115.out)) _).trans (((cell_far (p := ⟨gb115, _, none⟩) (by (first | rw [add_block] | (show (Addr.add _ _).block ≠ _; rw [add_block]) | skip); exact Nat.ne_of_lt (Nat.lt_of_lt_of_le (by have := World.block_lt_of_cell? _ _ hw108_7; first | rwa [add_block] at this | exact this) GW115.out)) _).trans (hHeld.2.2.2.2.2.2.2.2.2.1)))), ((cell_far (p := ⟨gb115, _, none⟩) (by (first | rw [add_block] | (show (Addr.add _ _).block ≠ _; rw [add_block]) | skip); exact Nat.ne_of_lt (Nat.lt_of_lt_of_le (by have := World.block_lt_of_cell? _ _ hw108_8; first | rwa [add_block] at this | exact this) GW115.out)) _).trans (((cell_far (p := ⟨gb115, _, none⟩) (by (first | rw [add_block] | (show (Addr.add _ _).block ≠ _; rw [add_block]) | skip); exact Nat.ne_of_lt (Nat.lt_of_lt_of_le (by have := World.block_lt_of_cell? _ _ hw108_8; first | rwa [add_block] at this | exact this) GW115.out)) _).trans (hHeld.2.2.2.2.2.2.2.2.2.2.1)))), ((cell_far (p := ⟨gb115, _, none⟩) (by (first | rw [add_block] | (show (Addr.add _ _).block ≠ _; rw [add_block]) | skip); exact Nat.ne_of_lt (Nat.lt_of_lt_of_le (by have := World.block_lt_of_cell? _ _ hw108_9; first | rwa [add_block] at this | exact this) GW115.out)) _).trans (((cell_far (p := ⟨gb115, _, none⟩) (by (first | rw [add_block] | (show (Addr.add _ _).block ≠ _; rw [add_block]) | skip); exact Nat.ne_of_lt (Nat.lt_of_lt_of_le (by have := World.block_lt_of_cell? _ _ hw108_9; first | rwa [add_block] at this | exact this) GW115.out)) _).trans (hHeld.2.2.2.2.2.2.2.2.2.2.2.1)))), ((cell_far (p := ⟨gb115, _, none⟩) (by (first | rw [add_block] | (show (Addr.add _ _).block ≠ _; rw [add_block]) | skip); exact Nat.ne_of_lt (Nat.lt_of_lt_of_le (by have := World.block_lt_of_cell? _ _ hw108_10; first | rwa [add_block] at this | exact this) GW115.out)) _).trans (((cell_far (p := ⟨gb115, _, none⟩) (by (first | rw [add_block] | (show (Addr.add _ _).block ≠ _; rw [add_block]) | skip); exact Nat.ne_of_lt (Nat.lt_of_lt_of_le (by have := World.block_lt_of_cell? _ _ hw108_10; first | rwa [add_block] at this | exact this) GW115.out)) _).trans (hHeld.2.2.2.2.2.2.2.2.2.2.2.2.1)))), ((cell_far (p := ⟨gb115, _, none⟩) (by (first | rw [add_block] | (show (Addr.add _ _).block ≠ _; rw [add_block]) | skip); exact Nat.ne_of_lt (Nat.lt_of_lt_of_le (by have := World.block_lt_of_cell? _ _ hw108_11; first | rwa [add_block] at this | exact this) GW115.out)) _).trans (((cell_far (p := ⟨gb115, _, none⟩) (by (first | rw [add_block] | (show (Addr.add _ _).block ≠ _; rw [add_block]) | skip); exact Nat.ne_of_lt (Nat.lt_of_lt_of_le (by have := World.block_lt_of_cell? _ _ hw108_11; first | rwa [add_block] at this | exact this) GW115.out)) _).trans (hHeld.2.2.2.2.2.2.2.2.2.2.2.2.2.1)))), ((cell_far (p := ⟨gb115, _, none⟩) (by (first | rw [add_block] | (show (Addr.add _ _).block ≠ _; rw [add_block]) | skip); exact Nat.ne_of_lt (Nat.lt_of_lt_of_le (by have := World.block_lt_of_cell? _ _ hw108_12; first | rwa [add_block] at this | exact this) GW115.out)) _).trans (((cell_far (p := ⟨gb115, _, none⟩) (by (first | rw [add_block] | (show (Addr.add _ _).block ≠ _; rw [add_block]) | skip); exact Nat.ne_of_lt (Nat.lt_of_lt_of_le (by have := World.block_lt_of_cell? _ _ hw108_12; first | rwa [add_block] at this | exact this) GW115.out)) _).trans (hHeld.2.2.2.2.2.2.2.2.2.2.2.2.2.2))))⟩ (fun hHeld => ?_)
           clear hK K
           refine pure_ (i := 12) (N := some 10) (v := ?_) (a' := ?_) #[true, true, true, true, true, true, true, true, true, true, true, true, true, false] rfl rfl (any_of HT_.out (by kernel_rfl)) (fun _ _ _ h => h) (Or.inl ⟨by rfl, ?_⟩) ?_ ?_
           rotate_left
           ·intro w'
            go_simp
            with_reducible rfl
           rotate_left
           ·simp only [Act.put, List.setIfInBounds_toArray, List.set_cons_zero, List.set_cons_succ, i64_w, i32_w]
            rfl
           refine pure_ (i := 13) (N := some 11) (v := ?_) (a' := ?_) #[true, true, true, true, true, true, true, true, true, true, true, true, true, true] rfl rfl (any_of HT_.out (by kernel_rfl)) (fun _ _ _ h => h) (Or.inl ⟨by rfl, ?_⟩) ?_ ?_
           rotate_left
           ·intro w'
            go_simp
            with_reducible rfl
           rotate_left
           ·simp only [Act.put, List.setIfInBounds_toArray, List.set_cons_zero, List.set_cons_succ, i64_w, i32_w]
            rfl
           refine done_ (done_of HT_.out (by kernel_rfl)) ?_
           have hnb29 := NB115_101.out
           have hnc29 := NB101_115.out
           have hnb30 := NB115_102.out
           have hnc30 := NB102_115.out
           obtain ⟨hcz31_0, hcz31_1⟩ := cl2 (W := w25) BK115.out
           obtain ⟨hfz31_0, hfz31_1⟩ := fr2 BK115.out
           have hnb32 := NB101_102.out
           have hnc32 := NB102_101.out
           obtain ⟨hcz33_0, hcz33_1⟩ := cl2 (W := w25) BK101.out
           obtain ⟨hfz33_0, hfz33_1⟩ := fr2 BK101.out
           try go_wp2
           go_roundg kj11
           case measure => have := HK1.out; have := HJ11.out; omega
           case rel => exact ⟨(wrap64 (x8_1 + 1)), (t109), (t110), (x103000_1), (.slice Ao27 t110.length co27), (by first | rfl | (simp; done) | (simp [*]; done)), H', ⟨by have := HK1.out; have := HJ11.out; omega⟩, ⟨by (with_reducible repeat (first | apply Kd.V_alloc | apply Kd.V_drewN | apply Kd.V_drew)); exact Kd.V_mono (Kd.V_far (p := ⟨gb101, 1, none⟩) (Kd.V_far (p := ⟨gb101, 0, none⟩) (Kd.V_far (p := ⟨gb115, 1, none⟩) (Kd.V_far (p := ⟨gb115, 0, none⟩) (Kd.V_mono (Kd.V_mono HO112.out (fun k_ hk => (⟨hk, hk.2.2.2⟩ : _ ∧ k_ ≠ gb115))) (fun k_ hk => (⟨hk, hk.1.2.1⟩ : _ ∧ k_ ≠ gb101))) (fun _ hk => hk.1.2) (.int .i64 t109)) (fun _ hk => hk.1.2) (.slice Ao27 t110.length co27)) (fun _ hk => hk.2) (.int .i64 t109)) (fun _ hk => hk.2) (.slice Ao27 t110.length co27)) (fun _ hk => ⟨hk.1.1.1, ⟨hk.1.1.2.1, hk.1.1.2.2.1⟩⟩)⟩, ⟨by (with_reducible repeat (first | refine blk_drewN ?_ _ | refine blk_drew ?_ | refine blk_alloc ?_ _)); refine blk_put (cs := #[.int .i64 t109, .slice Ao21 x102001_1.length co21]) ?_ 1 _ rfl; refine blk_put (cs := #[.int .i64 x102000_1, .slice Ao21 x102001_1.length co21]) ?_ 0 _ rfl; refine blk_far ?_ NB101_115.out _; refine blk_far ?_ NB101_115.out _; (with_reducible repeat (first | refine blk_drewN ?_ _ | refine blk_drew ?_ | refine blk_alloc ?_ _)); exact BK101.out⟩, ⟨by (with_reducible repeat (first | refine blk_drewN ?_ _ | refine blk_drew ?_ | refine blk_alloc ?_ _)); refine blk_far ?_ NB102_101.out _; refine blk_far ?_ NB102_101.out _; refine blk_far ?_ NB102_115.out _; refine blk_far ?_ NB102_115.out _; (with_reducible repeat (first | refine blk_drewN ?_ _ | refine blk_drew ?_ | refine blk_alloc ?_ _)); exact BK102.out⟩, ⟨by repeat (first | (with_reducible first | exact HB.out | apply below_alloc | apply pw_below_drewN | apply below_drew1 | refine below_set ?_ GE101.out | refine below_set ?_ GE102.out | refine below_set ?_ GE115.out) | exact HB.out)⟩⟩
          ·rw [if_neg c20] at H
           have c20b0 : (t114 == 0) = false := beq_eq_false_iff_ne.mpr c20
           have c20b1 : (t114 != 0) = true := bne_iff_ne.mpr c20
           simp only [Option.some.injEq, Prod.mk.injEq] at H
           obtain ⟨rfl, rfl, rfl⟩ := H
           obtain ⟨Ao34, co34, eo34⟩ := Kd.V_slice HO_102001.out
           subst eo34
           try go_wp2
           have n0_ := Aside0.mk (Kd.V_drew HO_102001.out)
           have n1_ := Aside0.mk (blk_drew BK101.out)
           have n2_ := Aside0.mk (blk_drew BK102.out)
           have n3_ := Aside0.mk (below_drew1 HB.out)
           clear HO_102001
           clear BK101
           clear BK102
           clear HB
           have HO_102001 := n0_
           have BK101 := n1_
           have BK102 := n2_
           have HB := n3_
           clear n0_ n1_ n2_ n3_
           have p108 : 0 ≤ (x8_1 : Int) := of_decide_eq_true (by first | (with_reducible assumption) | assumption)
           have q108 : x8_1 < (l2.length : Int) := of_decide_eq_true (by first | (with_reducible assumption) | assumption)
           obtain ⟨ad108, e108, hx108_0, hx108_1, hx108_2, hx108_3, hx108_4, hx108_5, hx108_6, hx108_7, hx108_8, hx108_9, hx108_10, hx108_11, hx108_12⟩ := at_T65 HR2.out x8_1 p108 q108
           have hw108_12 := hx108_12
           have hw108_11 := hx108_11
           have hw108_10 := hx108_10
           have hw108_9 := hx108_9
           have hw108_8 := hx108_8
           have hw108_7 := hx108_7
           have hw108_6 := hx108_6
           have hw108_5 := hx108_5
           have hw108_4 := hx108_4
           have hw108_3 := hx108_3
           have hw108_2 := hx108_2
           have hw108_1 := hx108_1
           have hw108_0 := hx108_0
           cases e108
           replace hx108_0 := pw_cell_below HB.out hx108_0
           replace hx108_1 := pw_cell_below HB.out hx108_1
           replace hx108_2 := pw_cell_below HB.out hx108_2
           replace hx108_3 := pw_cell_below HB.out hx108_3
           replace hx108_4 := pw_cell_below HB.out hx108_4
           replace hx108_5 := pw_cell_below HB.out hx108_5
           replace hx108_6 := pw_cell_below HB.out hx108_6
           replace hx108_7 := pw_cell_below HB.out hx108_7
           replace hx108_8 := pw_cell_below HB.out hx108_8
           replace hx108_9 := pw_cell_below HB.out hx108_9
           replace hx108_10 := pw_cell_below HB.out hx108_10
           replace hx108_11 := pw_cell_below HB.out hx108_11
           replace hx108_12 := pw_cell_below HB.out hx108_12
           replace p108 := eq_true p108
           replace q108 := eq_true q108
           refine start_ (n := 14) (S := fun w' => w'.cell? ⟨gb101, 0, none⟩ = some (.int .i64 x102000_1) ∧ w'.cell? ⟨gb101, 1, none⟩ = some (.slice Ao34 x102001_1.length co34) ∧ w'.cell? (ad108.add ((x8_1).toNat * 13)) = some (.int .i64 ((rd_T65 l2 x8_1).f0)) ∧ w'.cell? ⟨(ad108.add ((x8_1).toNat * 13)).block, (ad108.add ((x8_1).toNat * 13)).off + 1, none⟩ = some (.int .i64 ((rd_T65 l2 x8_1).f1.f0)) ∧ w'.cell? ⟨(ad108.add ((x8_1).toNat * 13)).block, (ad108.add ((x8_1).toNat * 13)).off + 2, none⟩ = some (.int .i64 ((rd_T65 l2 x8_1).f1.f1)) ∧ w'.cell? ⟨(ad108.add ((x8_1).toNat * 13)).block, (ad108.add ((x8_1).toNat * 13)).off + 3, none⟩ = some (.int .i64 ((rd_T65 l2 x8_1).f1.f2)) ∧ w'.cell? ⟨(ad108.add ((x8_1).toNat * 13)).block, (ad108.add ((x8_1).toNat * 13)).off + 4, none⟩ = some (.int .i64 ((rd_T65 l2 x8_1).f2)) ∧ w'.cell? ⟨(ad108.add ((x8_1).toNat * 13)).block, (ad108.add ((x8_1).toNat * 13)).off + 5, none⟩ = some (.int .i64 ((rd_T65 l2 x8_1).f3)) ∧ w'.cell? ⟨(ad108.add ((x8_1).toNat * 13)).block, (ad108.add ((x8_1).toNat * 13)).off + 6, none⟩ = some (.int .i64 ((rd_T65 l2 x8_1).f4)) ∧ w'.cell? ⟨(ad108.add ((x8_1).toNat * 13)).block, (ad108.add ((x8_1).toNat * 13)).off + 7, none⟩ = some (.int .i64 ((rd_T65 l2 x8_1).f5)) ∧ w'.cell? ⟨(ad108.add ((x8_1).toNat * 13)).block, (ad108.add ((x8_1).toNat * 13)).off + 8, none⟩ = some (.bool ((rd_T65 l2 x8_1).f6.f0)) ∧ w'.cell? ⟨(ad108.add ((x8_1).toNat * 13)).block, (ad108.add ((x8_1).toNat * 13)).off + 9, none⟩ = some (.string ((rd_T65 l2 x8_1).f6.f1)) ∧ w'.cell? ⟨(ad108.add ((x8_1).toNat * 13)).block, (ad108.add ((x8_1).toNat * 13)).off + 10, none⟩ = some (.bool ((rd_T65 l2 x8_1).f7.f0)) ∧ w'.cell? ⟨(ad108.add ((x8_1).toNat * 13)).block, (ad108.add ((x8_1).toNat * 13)).off + 11, none⟩ = some (.string ((rd_T65 l2 x8_1).f7.f1)) ∧ w'.cell? ⟨(ad108.add ((x8_1).toNat * 13)).block, (ad108.add ((x8_1).toNat * 13)).off + 12, none⟩ = some (.int .i64 ((rd_T65 l2 x8_1).f8))) (ds := []) #[false, false, false, false, false, false, false, false, false, false, false, false, false, false] (by kernel_rfl) rfl rfl ⟨(blk_cell BK101.out 0).trans rfl, (blk_cell BK101.out 1).trans rfl, ((HB.out.cell (World.block_lt_of_cell? w _ hw108_0)).trans hw108_0), ((HB.out.cell (World.block_lt_of_cell? w _ hw108_1)).trans hw108_1), ((HB.out.cell (World.block_lt_of_cell? w _ hw108_2)).trans hw108_2), ((HB.out.cell (World.block_lt_of_cell? w _ hw108_3)).trans hw108_3), ((HB.out.cell (World.block_lt_of_cell? w _ hw108_4)).trans hw108_4), ((HB.out.cell (World.block_lt_of_cell? w _ hw108_5)).trans hw108_5), ((HB.out.cell (World.block_lt_of_cell? w _ hw108_6)).trans hw108_6), ((HB.out.cell (World.block_lt_of_cell? w _ hw108_7)).trans hw108_7), ((HB.out.cell (World.block_lt_of_cell? w _ hw108_8)).trans hw108_8), ((HB.out.cell (World.block_lt_of_cell? w _ hw108_9)).trans hw108_9), ((HB.out.cell (World.block_lt_of_cell? w _ hw108_10)).trans hw108_10), ((HB.out.cell (World.block_lt_of_cell? w _ hw108_11)).trans hw108_11), ((HB.out.cell (World.block_lt_of_cell? w _ hw108_12)).trans hw108_12)⟩ (fun hHeld => ?_); refine with_tabW seneschalref05_All.tab7 seneschalref05_All.bits7 (fun HT_ HW_ => ?_)
           generalize wc.drew = w35 at HO_102001 BK101 BK102 HB hx108_0 hx108_1 hx108_10 hx108_11 hx108_12 hx108_2 hx108_3 hx108_4 hx108_5 hx108_6 hx108_7 hx108_8 hx108_9 hHeld ⊢
           refine pure_ (i := 1) (N := some 47) (v := ?_) (a' := ?_) #[false, true, false, false, false, false, false, false, false, false, false, false, false, false] rfl rfl (any_of HT_.out (by kernel_rfl)) (fun _ _ _ h => h) (Or.inl ⟨by rfl, ?_⟩) ?_ ?_
           rotate_left
           ·intro w'
            go_simp
            with_reducible rfl
           rotate_left
           ·simp only [Act.put, List.setIfInBounds_toArray, List.set_cons_zero, List.set_cons_succ, i64_w, i32_w]
            rfl
           refine pure_ (i := 2) (N := some 48) (v := ?_) (a' := ?_) #[false, true, true, false, false, false, false, false, false, false, false, false, false, false] rfl rfl (any_of HT_.out (by kernel_rfl)) (fun _ _ _ h => h) (Or.inl ⟨by rfl, ?_⟩) ?_ ?_
           rotate_left
           ·intro w'
            go_simp
            with_reducible rfl
           rotate_left
           ·simp only [Act.put, List.setIfInBounds_toArray, List.set_cons_zero, List.set_cons_succ, i64_w, i32_w]
            rfl
           refine pure_ (i := 3) (N := some 49) (v := ?_) (a' := ?_) #[false, true, true, true, false, false, false, false, false, false, false, false, false, false] rfl rfl (any_of HT_.out (by kernel_rfl)) (fun _ _ _ h => h) (Or.inl ⟨by rfl, ?_⟩) ?_ ?_
           rotate_left
           ·intro w'
            go_simp
            with_reducible rfl
           rotate_left
           ·simp only [Act.put, List.setIfInBounds_toArray, List.set_cons_zero, List.set_cons_succ, i64_w, i32_w]
            rfl
           refine take_ (i := 0) (N := some 46) (v := ?_) (a' := ?_) #[true, true, true, true, false, false, false, false, false, false, false, false, false, false] rfl rfl (take_ofW HT_.out HW_.out (by kernel_rfl)) (fun _ _ _ h => h) (Or.inl ⟨by rfl, ?_⟩) hHeld ?_ ?_
           rotate_left
           ·rintro w' ⟨s0, s1, s2, s3, s4, s5, s6, s7, s8, s9, s10, s11, s12, s13, s14⟩
            go_simp
            with_reducible rfl
           rotate_left
           ·simp only [Act.put, List.setIfInBounds_toArray, List.set_cons_zero, List.set_cons_succ, i64_w, i32_w]
            rfl
           refine take_ (i := 4) (N := some 50) (v := ?_) (a' := ?_) #[true, true, true, true, true, false, false, false, false, false, false, false, false, false] rfl rfl (take_ofW HT_.out HW_.out (by kernel_rfl)) (fun _ _ _ h => h) (Or.inl ⟨by rfl, ?_⟩) hHeld ?_ ?_
           rotate_left
           ·rintro w' ⟨s0, s1, s2, s3, s4, s5, s6, s7, s8, s9, s10, s11, s12, s13, s14⟩
            go_simp
            with_reducible rfl
           rotate_left
           ·simp only [Act.put, List.setIfInBounds_toArray, List.set_cons_zero, List.set_cons_succ, i64_w, i32_w]
            rfl
           refine join_ (σ := Value × Nat) 3 #[true, true, true, true, true, true, true, true, true, true, true, false, false, false] (fun s_ => [(51, .tuple #[.agg #[.int .i64 t109, s_.1], .bool t113, .int .i64 t114]), (9, .pointer (some ⟨s_.2, 0, none⟩)), (45, .tuple #[.agg #[.int .i64 t109, s_.1], .bool t113, .int .i64 t114]), (52, .agg #[.int .i64 t109, s_.1]), (53, .bool t113), (54, .int .i64 t114)]) (fun s_ w' => (w'.cell? ⟨gb101, 0, none⟩ = some (.int .i64 x102000_1) ∧ w'.cell? ⟨gb101, 1, none⟩ = some (.slice Ao34 x102001_1.length co34) ∧ w'.cell? (ad108.add ((x8_1).toNat * 13)) = some (.int .i64 ((rd_T65 l2 x8_1).f0)) ∧ w'.cell? ⟨(ad108.add ((x8_1).toNat * 13)).block, (ad108.add ((x8_1).toNat * 13)).off + 1, none⟩ = some (.int .i64 ((rd_T65 l2 x8_1).f1.f0)) ∧ w'.cell? ⟨(ad108.add ((x8_1).toNat * 13)).block, (ad108.add ((x8_1).toNat * 13)).off + 2, none⟩ = some (.int .i64 ((rd_T65 l2 x8_1).f1.f1)) ∧ w'.cell? ⟨(ad108.add ((x8_1).toNat * 13)).block, (ad108.add ((x8_1).toNat * 13)).off + 3, none⟩ = some (.int .i64 ((rd_T65 l2 x8_1).f1.f2)) ∧ w'.cell? ⟨(ad108.add ((x8_1).toNat * 13)).block, (ad108.add ((x8_1).toNat * 13)).off + 4, none⟩ = some (.int .i64 ((rd_T65 l2 x8_1).f2)) ∧ w'.cell? ⟨(ad108.add ((x8_1).toNat * 13)).block, (ad108.add ((x8_1).toNat * 13)).off + 5, none⟩ = some (.int .i64 ((rd_T65 l2 x8_1).f3)) ∧ w'.cell? ⟨(ad108.add ((x8_1).toNat * 13)).block, (ad108.add ((x8_1).toNat * 13)).off + 6, none⟩ = some (.int .i64 ((rd_T65 l2 x8_1).f4)) ∧ w'.cell? ⟨(ad108.add ((x8_1).toNat * 13)).block, (ad108.add ((x8_1).toNat * 13)).off + 7, none⟩ = some (.int .i64 ((rd_T65 l2 x8_1).f5)) ∧ w'.cell? ⟨(ad108.add ((x8_1).toNat * 13)).block, (ad108.add ((x8_1).toNat * 13)).off + 8, none⟩ = some (.bool ((rd_T65 l2 x8_1).f6.f0)) ∧ w'.cell? ⟨(ad108.add ((x8_1).toNat * 13)).block, (ad108.add ((x8_1).toNat * 13)).off + 9, none⟩ = some (.string ((rd_T65 l2 x8_1).f6.f1)) ∧ w'.cell? ⟨(ad108.add ((x8_1).toNat * 13)).block, (ad108.add ((x8_1).toNat * 13)).off + 10, none⟩ = some (.bool ((rd_T65 l2 x8_1).f7.f0)) ∧ w'.cell? ⟨(ad108.add ((x8_1).toNat * 13)).block, (ad108.add ((x8_1).toNat * 13)).off + 11, none⟩ = some (.string ((rd_T65 l2 x8_1).f7.f1)) ∧ w'.cell? ⟨(ad108.add ((x8_1).toNat * 13)).block, (ad108.add ((x8_1).toNat * 13)).off + 12, none⟩ = some (.int .i64 ((rd_T65 l2 x8_1).f8))) ∧ (Kd.V k33 33 w' w.heap.size (fun k_ => (P0_1_ k_ ∨ w.heap.size ≤ k_) ∧ k_ ≠ gb101 ∧ k_ ≠ gb102 ∧ k_ ≠ s_.2) s_.1 t110) ∧ (Kd.V k33 33 w' w.heap.size (fun k_ => (P0_1_ k_ ∨ w.heap.size ≤ k_) ∧ k_ ≠ gb101 ∧ k_ ≠ gb102 ∧ k_ ≠ s_.2) (.slice Ao34 x102001_1.length co34) x102001_1) ∧ (w'.heap[gb101]? = some (.cells #[.int .i64 x102000_1, .slice Ao34 x102001_1.length co34] 24 (0, 0))) ∧ (w'.heap[gb102]? = some (.cells #[.int .i64 x103000_1, .slice none 0 0] 24 (0, 0))) ∧ (w'.heap[s_.2]? = some (.cells #[.int .i64 0, .slice none 0 0] 24 (0, 0))) ∧ (w.heap.size ≤ s_.2) ∧ (w.heap.size ≤ s_.2) ∧ (gb101 ≠ s_.2) ∧ (s_.2 ≠ gb101) ∧ (gb102 ≠ s_.2) ∧ (s_.2 ≠ gb102) ∧ (Below w.heap.size w w')) ?_ ?_
           rotate_left
           ·intro hCont
            refine two_ (i := 5) (j := 10) (Ni := some 51) (Nj := some 9) #[true, true, true, true, true, true, false, false, false, false, false, false, false, false] #[true, true, true, true, true, false, false, false, false, false, true, false, false, false] rfl rfl rfl rfl (two_of HT_.out (by kernel_rfl)) (by decide) (by decide) (fun K hK => ?_) (fun K hK => ?_)
            ·skip
             refine goes_ Try.func68 (by kernel_rfl) rfl #[.agg #[.int .i64 x102000_1, .slice Ao34 x102001_1.length co34], .agg #[.int .i64 ((rd_T65 l2 x8_1).f0), .int .i64 ((rd_T65 l2 x8_1).f1.f0), .int .i64 ((rd_T65 l2 x8_1).f1.f1), .int .i64 ((rd_T65 l2 x8_1).f1.f2), .int .i64 ((rd_T65 l2 x8_1).f2), .int .i64 ((rd_T65 l2 x8_1).f3), .int .i64 ((rd_T65 l2 x8_1).f4), .int .i64 ((rd_T65 l2 x8_1).f5), .bool ((rd_T65 l2 x8_1).f6.f0), .string ((rd_T65 l2 x8_1).f6.f1), .bool ((rd_T65 l2 x8_1).f7.f0), .string ((rd_T65 l2 x8_1).f7.f1), .int .i64 ((rd_T65 l2 x8_1).f8)]] (by rfl) rfl rfl (by (try simp only [List.map_toArray, List.map_cons, List.map_nil]); first | done | rfl | (simp only [List.length_drop, List.length_take]; rfl)) ?_
             with_reducible refine (refRedo5.calls x102000_1 (fun k_ => ((P0_1_ k_ ∨ w.heap.size ≤ k_) ∧ (k_ ≠ gb101 ∧ k_ ≠ gb102))) _ _ x102001_1 ((rd_T65 l2 x8_1).f0) ((rd_T65 l2 x8_1).f1.f0) ((rd_T65 l2 x8_1).f1.f1) ((rd_T65 l2 x8_1).f1.f2) ((rd_T65 l2 x8_1).f2) ((rd_T65 l2 x8_1).f3) ((rd_T65 l2 x8_1).f4) ((rd_T65 l2 x8_1).f5) ((rd_T65 l2 x8_1).f6.f0) ((rd_T65 l2 x8_1).f6.f1) ((rd_T65 l2 x8_1).f7.f0) ((rd_T65 l2 x8_1).f7.f1) ((rd_T65 l2 x8_1).f8) t109 t110 t113 t114 _ ?side1 A19.out).mono ?_
             (case side1 => exact HO_102001.out)
             rintro e w36 ⟨v111, rfl, ho0, hb⟩
             refine ⟨_, rfl, ?_⟩
             have n0_ := Aside0.mk (Kd.V_below (by (with_reducible repeat (first | apply Kd.V_alloc | apply Kd.V_drewN | apply Kd.V_drew)); exact HO_102001.out) hb)
             have n1_ := Aside0.mk (Kd.V_lower (Kd.V_mono (ok' := fun k_ => (P0_1_ k_ ∨ w.heap.size ≤ k_) ∧ k_ ≠ gb101 ∧ k_ ≠ gb102) ho0 (fun k_ hk_ => ⟨Or.elim hk_ (fun hs_ => hs_.1) (fun hn_ => (.inr (Nat.le_trans (below_size (by repeat (first | (with_reducible first | exact HB.out | apply below_alloc | apply pw_below_drewN | apply below_drew1 | refine below_set ?_ GE101.out | refine below_set ?_ GE102.out) | exact HB.out))) hn_))), Or.elim hk_ (fun hs_ => hs_.2.1) (fun hn_ => (Kd.freshB (g := gb101) (o := .cells #[.int .i64 x102000_1, .slice Ao34 x102001_1.length co34] 24 (0, 0)) (by (with_reducible repeat (first | refine blk_drewN ?_ _ | refine blk_drew ?_ | refine blk_alloc ?_ _)); exact BK101.out) k_ hn_)), Or.elim hk_ (fun hs_ => hs_.2.2) (fun hn_ => (Kd.freshB (g := gb102) (o := .cells #[.int .i64 x103000_1, .slice none 0 0] 24 (0, 0)) (by (with_reducible repeat (first | refine blk_drewN ?_ _ | refine blk_drew ?_ | refine blk_alloc ?_ _)); exact BK102.out) k_ hn_))⟩)) (below_size (by repeat (first | (with_reducible first | exact HB.out | apply below_alloc | apply pw_below_drewN | apply below_drew1 | refine below_set ?_ GE101.out | refine below_set ?_ GE102.out) | exact HB.out))))
             have n2_ := Aside0.mk (blk_below BK101.out hb)
             have n3_ := Aside0.mk (blk_below BK102.out hb)
             have n4_ := Aside0.mk (below_step HB.out hb)
             clear HO_102001
             clear BK101
             clear BK102
             clear HB
             have HO_102001 := n0_
             have HO112 := n1_
             have BK101 := n2_
             have BK102 := n3_
             have HB := n4_
             clear n0_ n1_ n2_ n3_ n4_
             (try clear hb)
             (try clear hb2)
             (try clear hk)
             (try clear hi)
             (try clear ho0)
             refine hK.out _ _ ⟨(blk_cell BK101.out 0).trans rfl, (blk_cell BK101.out 1).trans rfl, ((HB.out.cell (World.block_lt_of_cell? w _ hw108_0)).trans hw108_0), ((HB.out.cell (World.block_lt_of_cell? w _ hw108_1)).trans hw108_1), ((HB.out.cell (World.block_lt_of_cell? w _ hw108_2)).trans hw108_2), ((HB.out.cell (World.block_lt_of_cell? w _ hw108_3)).trans hw108_3), ((HB.out.cell (World.block_lt_of_cell? w _ hw108_4)).trans hw108_4), ((HB.out.cell (World.block_lt_of_cell? w _ hw108_5)).trans hw108_5), ((HB.out.cell (World.block_lt_of_cell? w _ hw108_6)).trans hw108_6), ((HB.out.cell (World.block_lt_of_cell? w _ hw108_7)).trans hw108_7), ((HB.out.cell (World.block_lt_of_cell? w _ hw108_8)).trans hw108_8), ((HB.out.cell (World.block_lt_of_cell? w _ hw108_9)).trans hw108_9), ((HB.out.cell (World.block_lt_of_cell? w _ hw108_10)).trans hw108_10), ((HB.out.cell (World.block_lt_of_cell? w _ hw108_11)).trans hw108_11), ((HB.out.cell (World.block_lt_of_cell? w _ hw108_12)).trans hw108_12)⟩ (fun hHeld => ?_)
             clear hK K
             refine norm_ (a' := ?_) ?_ ?_
             rotate_left
             ·show Act.put _ (some 51) _ = _
              simp only [Act.put, List.setIfInBounds_toArray, List.set_cons_zero, List.set_cons_succ, i64_w, i32_w]
              rfl
             refine pure_ (i := 6) (N := some 45) (v := ?_) (a' := ?_) #[true, true, true, true, true, true, true, false, false, false, false, false, false, false] rfl rfl (any_of HT_.out (by kernel_rfl)) (fun _ _ _ h => h) (Or.inl ⟨by rfl, ?_⟩) ?_ ?_
             rotate_left
             ·intro w'
              go_simp
              with_reducible rfl
             rotate_left
             ·simp only [Act.put, List.setIfInBounds_toArray, List.set_cons_zero, List.set_cons_succ, i64_w, i32_w]
              rfl
             refine pure_ (i := 7) (N := some 52) (v := ?_) (a' := ?_) #[true, true, true, true, true, true, true, true, false, false, false, false, false, false] rfl rfl (any_of HT_.out (by kernel_rfl)) (fun _ _ _ h => h) (Or.inl ⟨by rfl, ?_⟩) ?_ ?_
             rotate_left
             ·intro w'
              go_simp
              with_reducible rfl
             rotate_left
             ·simp only [Act.put, List.setIfInBounds_toArray, List.set_cons_zero, List.set_cons_succ, i64_w, i32_w]
              rfl
             refine pure_ (i := 8) (N := some 53) (v := ?_) (a' := ?_) #[true, true, true, true, true, true, true, true, true, false, false, false, false, false] rfl rfl (any_of HT_.out (by kernel_rfl)) (fun _ _ _ h => h) (Or.inl ⟨by rfl, ?_⟩) ?_ ?_
             rotate_left
             ·intro w'
              go_simp
              with_reducible rfl
             rotate_left
             ·simp only [Act.put, List.setIfInBounds_toArray, List.set_cons_zero, List.set_cons_succ, i64_w, i32_w]
              rfl
             refine pure_ (i := 9) (N := some 54) (v := ?_) (a' := ?_) #[true, true, true, true, true, true, true, true, true, true, false, false, false, false] rfl rfl (any_of HT_.out (by kernel_rfl)) (fun _ _ _ h => h) (Or.inl ⟨by rfl, ?_⟩) ?_ ?_
             rotate_left
             ·intro w'
              go_simp
              with_reducible rfl
             rotate_left
             ·simp only [Act.put, List.setIfInBounds_toArray, List.set_cons_zero, List.set_cons_succ, i64_w, i32_w]
              rfl
             refine one_ (i := 10) (N := some 9) #[true, true, true, true, true, true, true, true, true, true, true, false, false, false] rfl rfl (one_of HT_.out (by kernel_rfl)) (by decide) (fun K hK => ?_)
             refine box_step ?hg (N := 9) ?hd (cs := #[.int .i64 0, .slice none 0 0]) (t := 24) ?hr ?_; (case hd => rfl); (case hg => rfl); (case hr => first | (go_simp; done) | (go_simp; rfl))
             intro gb115 hg w37 hbox hb
             have n0_ := Aside0.mk (Kd.V_below (Kd.V_elderB (by (with_reducible repeat (first | apply Kd.V_alloc | apply Kd.V_drewN | apply Kd.V_drew)); exact HO_102001.out) gb115 (Nat.le_of_eq hg.symm)) hb)
             have n1_ := Aside0.mk (Kd.V_below (Kd.V_elderB (by (with_reducible repeat (first | apply Kd.V_alloc | apply Kd.V_drewN | apply Kd.V_drew)); exact HO112.out) gb115 (Nat.le_of_eq hg.symm)) hb)
             have n2_ := Aside0.mk (blk_below BK101.out hb)
             have n3_ := Aside0.mk (blk_below BK102.out hb)
             have n4_ := Aside0.mk (below_step HB.out hb)
             have n5_ := Aside0.mk (hbox)
             have n6_ := Aside0.mk ((by rw [hg]; exact below_size HB.out : w.heap.size ≤ gb115))
             have n7_ := Aside0.mk ((by rw [hg]; exact below_size HB.out : w.heap.size ≤ gb115))
             have n8_ := Aside0.mk ((by rw [hg]; exact Nat.ne_of_lt (blk_lt BK101.out) : gb101 ≠ gb115))
             have n9_ := Aside0.mk ((by rw [hg]; exact Nat.ne_of_gt (blk_lt BK101.out) : gb115 ≠ gb101))
             have n10_ := Aside0.mk ((by rw [hg]; exact Nat.ne_of_lt (blk_lt BK102.out) : gb102 ≠ gb115))
             have n11_ := Aside0.mk ((by rw [hg]; exact Nat.ne_of_gt (blk_lt BK102.out) : gb115 ≠ gb102))
             clear HO_102001
             clear HO112
             clear BK101
             clear BK102
             clear HB
             have HO_102001 := n0_
             have HO112 := n1_
             have BK101 := n2_
             have BK102 := n3_
             have HB := n4_
             have BK115 := n5_
             have GW115 := n6_
             have GE115 := n7_
             have NB101_115 := n8_
             have NB115_101 := n9_
             have NB102_115 := n10_
             have NB115_102 := n11_
             clear n0_ n1_ n2_ n3_ n4_ n5_ n6_ n7_ n8_ n9_ n10_ n11_
             clear hb hbox hg
             refine hK.out _ _ ⟨(blk_cell BK101.out 0).trans rfl, (blk_cell BK101.out 1).trans rfl, ((HB.out.cell (World.block_lt_of_cell? w _ hw108_0)).trans hw108_0), ((HB.out.cell (World.block_lt_of_cell? w _ hw108_1)).trans hw108_1), ((HB.out.cell (World.block_lt_of_cell? w _ hw108_2)).trans hw108_2), ((HB.out.cell (World.block_lt_of_cell? w _ hw108_3)).trans hw108_3), ((HB.out.cell (World.block_lt_of_cell? w _ hw108_4)).trans hw108_4), ((HB.out.cell (World.block_lt_of_cell? w _ hw108_5)).trans hw108_5), ((HB.out.cell (World.block_lt_of_cell? w _ hw108_6)).trans hw108_6), ((HB.out.cell (World.block_lt_of_cell? w _ hw108_7)).trans hw108_7), ((HB.out.cell (World.block_lt_of_cell? w _ hw108_8)).trans hw108_8), ((HB.out.cell (World.block_lt_of_cell? w _ hw108_9)).trans hw108_9), ((HB.out.cell (World.block_lt_of_cell? w _ hw108_10)).trans hw108_10), ((HB.out.cell (World.block_lt_of_cell? w _ hw108_11)).trans hw108_11), ((HB.out.cell (World.block_lt_of_cell? w _ hw108_12)).trans hw108_12)⟩ (fun hHeld => ?_)
             clear hK K
             refine norm_ (a' := ?_) ?_ ?_
             rotate_left
             ·show Act.put _ (some 9) _ = _
              simp only [Act.put, List.setIfInBounds_toArray, List.set_cons_zero, List.set_cons_succ, i64_w, i32_w]
              rfl
             exact norm_ (by simp only [putAll, Act.put, List.setIfInBounds_toArray, List.set_cons_zero, List.set_cons_succ]) (hCont (v111, gb115) _ ⟨hHeld, (by (with_reducible repeat (first | apply Kd.V_alloc | apply Kd.V_drewN | apply Kd.V_drew)); exact Kd.V_mono HO112.out (fun _ hk => ⟨hk.1.1, ⟨hk.1.2.1, ⟨hk.1.2.2, hk.2⟩⟩⟩)), (by (with_reducible repeat (first | apply Kd.V_alloc | apply Kd.V_drewN | apply Kd.V_drew)); exact Kd.V_mono HO_102001.out (fun _ hk => ⟨hk.1.1, ⟨hk.1.2.1, ⟨hk.1.2.2, hk.2⟩⟩⟩)), (by (with_reducible repeat (first | refine blk_drewN ?_ _ | refine blk_drew ?_ | refine blk_alloc ?_ _)); exact BK101.out), (by (with_reducible repeat (first | refine blk_drewN ?_ _ | refine blk_drew ?_ | refine blk_alloc ?_ _)); exact BK102.out), (by (with_reducible repeat (first | refine blk_drewN ?_ _ | refine blk_drew ?_ | refine blk_alloc ?_ _)); exact BK115.out), GW115.out, GE115.out, NB101_115.out, NB115_101.out, NB102_115.out, NB115_102.out, (by repeat (first | (with_reducible first | exact HB.out | apply below_alloc | apply pw_below_drewN | apply below_drew1 | refine below_set ?_ GE101.out | refine below_set ?_ GE102.out | refine below_set ?_ GE115.out) | exact HB.out))⟩)
            ·skip
             refine box_step ?hg (N := 9) ?hd (cs := #[.int .i64 0, .slice none 0 0]) (t := 24) ?hr ?_; (case hd => rfl); (case hg => rfl); (case hr => first | (go_simp; done) | (go_simp; rfl))
             intro gb115 hg w36 hbox hb
             have n0_ := Aside0.mk (Kd.V_below (Kd.V_elderB (by (with_reducible repeat (first | apply Kd.V_alloc | apply Kd.V_drewN | apply Kd.V_drew)); exact HO_102001.out) gb115 (Nat.le_of_eq hg.symm)) hb)
             have n1_ := Aside0.mk (blk_below BK101.out hb)
             have n2_ := Aside0.mk (blk_below BK102.out hb)
             have n3_ := Aside0.mk (below_step HB.out hb)
             have n4_ := Aside0.mk (hbox)
             have n5_ := Aside0.mk ((by rw [hg]; exact below_size HB.out : w.heap.size ≤ gb115))
             have n6_ := Aside0.mk ((by rw [hg]; exact below_size HB.out : w.heap.size ≤ gb115))
             have n7_ := Aside0.mk ((by rw [hg]; exact Nat.ne_of_lt (blk_lt BK101.out) : gb101 ≠ gb115))
             have n8_ := Aside0.mk ((by rw [hg]; exact Nat.ne_of_gt (blk_lt BK101.out) : gb115 ≠ gb101))
             have n9_ := Aside0.mk ((by rw [hg]; exact Nat.ne_of_lt (blk_lt BK102.out) : gb102 ≠ gb115))
             have n10_ := Aside0.mk ((by rw [hg]; exact Nat.ne_of_gt (blk_lt BK102.out) : gb115 ≠ gb102))
             clear HO_102001
             clear BK101
             clear BK102
             clear HB
             have HO_102001 := n0_
             have BK101 := n1_
             have BK102 := n2_
             have HB := n3_
             have BK115 := n4_
             have GW115 := n5_
             have GE115 := n6_
             have NB101_115 := n7_
             have NB115_101 := n8_
             have NB102_115 := n9_
             have NB115_102 := n10_
             clear n0_ n1_ n2_ n3_ n4_ n5_ n6_ n7_ n8_ n9_ n10_
             clear hb hbox hg
             refine hK.out _ _ ⟨(blk_cell BK101.out 0).trans rfl, (blk_cell BK101.out 1).trans rfl, ((HB.out.cell (World.block_lt_of_cell? w _ hw108_0)).trans hw108_0), ((HB.out.cell (World.block_lt_of_cell? w _ hw108_1)).trans hw108_1), ((HB.out.cell (World.block_lt_of_cell? w _ hw108_2)).trans hw108_2), ((HB.out.cell (World.block_lt_of_cell? w _ hw108_3)).trans hw108_3), ((HB.out.cell (World.block_lt_of_cell? w _ hw108_4)).trans hw108_4), ((HB.out.cell (World.block_lt_of_cell? w _ hw108_5)).trans hw108_5), ((HB.out.cell (World.block_lt_of_cell? w _ hw108_6)).trans hw108_6), ((HB.out.cell (World.block_lt_of_cell? w _ hw108_7)).trans hw108_7), ((HB.out.cell (World.block_lt_of_cell? w _ hw108_8)).trans hw108_8), ((HB.out.cell (World.block_lt_of_cell? w _ hw108_9)).trans hw108_9), ((HB.out.cell (World.block_lt_of_cell? w _ hw108_10)).trans hw108_10), ((HB.out.cell (World.block_lt_of_cell? w _ hw108_11)).trans hw108_11), ((HB.out.cell (World.block_lt_of_cell? w _ hw108_12)).trans hw108_12)⟩ (fun hHeld => ?_)
             clear hK K
             refine norm_ (a' := ?_) ?_ ?_
             rotate_left
             ·show Act.put _ (some 9) _ = _
              simp only [Act.put, List.setIfInBounds_toArray, List.set_cons_zero, List.set_cons_succ, i64_w, i32_w]
              rfl
             refine one_ (i := 5) (N := some 51) #[true, true, true, true, true, true, false, false, false, false, true, false, false, false] rfl rfl (one_of HT_.out (by kernel_rfl)) (by decide) (fun K hK => ?_)
             refine goes_ Try.func68 (by kernel_rfl) rfl #[.agg #[.int .i64 x102000_1, .slice Ao34 x102001_1.length co34], .agg #[.int .i64 ((rd_T65 l2 x8_1).f0), .int .i64 ((rd_T65 l2 x8_1).f1.f0), .int .i64 ((rd_T65 l2 x8_1).f1.f1), .int .i64 ((rd_T65 l2 x8_1).f1.f2), .int .i64 ((rd_T65 l2 x8_1).f2), .int .i64 ((rd_T65 l2 x8_1).f3), .int .i64 ((rd_T65 l2 x8_1).f4), .int .i64 ((rd_T65 l2 x8_1).f5), .bool ((rd_T65 l2 x8_1).f6.f0), .string ((rd_T65 l2 x8_1).f6.f1), .bool ((rd_T65 l2 x8_1).f7.f0), .string ((rd_T65 l2 x8_1).f7.f1), .int .i64 ((rd_T65 l2 x8_1).f8)]] (by rfl) rfl rfl (by (try simp only [List.map_toArray, List.map_cons, List.map_nil]); first | done | rfl | (simp only [List.length_drop, List.length_take]; rfl)) ?_
             with_reducible refine (refRedo5.calls x102000_1 (fun k_ => (((P0_1_ k_ ∨ w.heap.size ≤ k_) ∧ (k_ ≠ gb101 ∧ k_ ≠ gb102)) ∧ k_ ≠ gb115)) _ _ x102001_1 ((rd_T65 l2 x8_1).f0) ((rd_T65 l2 x8_1).f1.f0) ((rd_T65 l2 x8_1).f1.f1) ((rd_T65 l2 x8_1).f1.f2) ((rd_T65 l2 x8_1).f2) ((rd_T65 l2 x8_1).f3) ((rd_T65 l2 x8_1).f4) ((rd_T65 l2 x8_1).f5) ((rd_T65 l2 x8_1).f6.f0) ((rd_T65 l2 x8_1).f6.f1) ((rd_T65 l2 x8_1).f7.f0) ((rd_T65 l2 x8_1).f7.f1) ((rd_T65 l2 x8_1).f8) t109 t110 t113 t114 _ ?side1 A19.out).mono ?_
             (case side1 => exact HO_102001.out)
             rintro e w37 ⟨v111, rfl, ho0, hb⟩
             refine ⟨_, rfl, ?_⟩
             have n0_ := Aside0.mk (Kd.V_below (by (with_reducible repeat (first | apply Kd.V_alloc | apply Kd.V_drewN | apply Kd.V_drew)); exact HO_102001.out) hb)
             have n1_ := Aside0.mk (Kd.V_lower (Kd.V_mono (ok' := fun k_ => (P0_1_ k_ ∨ w.heap.size ≤ k_) ∧ k_ ≠ gb101 ∧ k_ ≠ gb102 ∧ k_ ≠ gb115) ho0 (fun k_ hk_ => ⟨Or.elim hk_ (fun hs_ => hs_.1.1) (fun hn_ => (.inr (Nat.le_trans (below_size (by repeat (first | (with_reducible first | exact HB.out | apply below_alloc | apply pw_below_drewN | apply below_drew1 | refine below_set ?_ GE101.out | refine below_set ?_ GE102.out | refine below_set ?_ GE115.out) | exact HB.out))) hn_))), Or.elim hk_ (fun hs_ => hs_.1.2.1) (fun hn_ => (Kd.freshB (g := gb101) (o := .cells #[.int .i64 x102000_1, .slice Ao34 x102001_1.length co34] 24 (0, 0)) (by (with_reducible repeat (first | refine blk_drewN ?_ _ | refine blk_drew ?_ | refine blk_alloc ?_ _)); exact BK101.out) k_ hn_)), Or.elim hk_ (fun hs_ => hs_.1.2.2) (fun hn_ => (Kd.freshB (g := gb102) (o := .cells #[.int .i64 x103000_1, .slice none 0 0] 24 (0, 0)) (by (with_reducible repeat (first | refine blk_drewN ?_ _ | refine blk_drew ?_ | refine blk_alloc ?_ _)); exact BK102.out) k_ hn_)), Or.elim hk_ (fun hs_ => hs_.2) (fun hn_ => (Kd.freshB (g := gb115) (o := .cells #[.int .i64 0, .slice none 0 0] 24 (0, 0)) (by (with_reducible repeat (first | refine blk_drewN ?_ _ | refine blk_drew ?_ | refine blk_alloc ?_ _)); exact BK115.out) k_ hn_))⟩)) (below_size (by repeat (first | (with_reducible first | exact HB.out | apply below_alloc | apply pw_below_drewN | apply below_drew1 | refine below_set ?_ GE101.out | refine below_set ?_ GE102.out | refine below_set ?_ GE115.out) | exact HB.out))))
             have n2_ := Aside0.mk (blk_below BK101.out hb)
             have n3_ := Aside0.mk (blk_below BK102.out hb)
             have n4_ := Aside0.mk (blk_below BK115.out hb)
             have n5_ := Aside0.mk (below_step HB.out hb)
             clear HO_102001
             clear BK101
             clear BK102
             clear BK115
             clear HB
             have HO_102001 := n0_
             have HO112 := n1_
             have BK101 := n2_
             have BK102 := n3_
             have BK115 := n4_
             have HB := n5_
             clear n0_ n1_ n2_ n3_ n4_ n5_
             (try clear hb)
             (try clear hb2)
             (try clear hk)
             (try clear hi)
             (try clear ho0)
             refine hK.out _ _ ⟨(blk_cell BK101.out 0).trans rfl, (blk_cell BK101.out 1).trans rfl, ((HB.out.cell (World.block_lt_of_cell? w _ hw108_0)).trans hw108_0), ((HB.out.cell (World.block_lt_of_cell? w _ hw108_1)).trans hw108_1), ((HB.out.cell (World.block_lt_of_cell? w _ hw108_2)).trans hw108_2), ((HB.out.cell (World.block_lt_of_cell? w _ hw108_3)).trans hw108_3), ((HB.out.cell (World.block_lt_of_cell? w _ hw108_4)).trans hw108_4), ((HB.out.cell (World.block_lt_of_cell? w _ hw108_5)).trans hw108_5), ((HB.out.cell (World.block_lt_of_cell? w _ hw108_6)).trans hw108_6), ((HB.out.cell (World.block_lt_of_cell? w _ hw108_7)).trans hw108_7), ((HB.out.cell (World.block_lt_of_cell? w _ hw108_8)).trans hw108_8), ((HB.out.cell (World.block_lt_of_cell? w _ hw108_9)).trans hw108_9), ((HB.out.cell (World.block_lt_of_cell? w _ hw108_10)).trans hw108_10), ((HB.out.cell (World.block_lt_of_cell? w _ hw108_11)).trans hw108_11), ((HB.out.cell (World.block_lt_of_cell? w _ hw108_12)).trans hw108_12)⟩ (fun hHeld => ?_)
             clear hK K
             refine norm_ (a' := ?_) ?_ ?_
             rotate_left
             ·show Act.put _ (some 51) _ = _
              simp only [Act.put, List.setIfInBounds_toArray, List.set_cons_zero, List.set_cons_succ, i64_w, i32_w]
              rfl
             refine pure_ (i := 6) (N := some 45) (v := ?_) (a' := ?_) #[true, true, true, true, true, true, true, false, false, false, true, false, false, false] rfl rfl (any_of HT_.out (by kernel_rfl)) (fun _ _ _ h => h) (Or.inl ⟨by rfl, ?_⟩) ?_ ?_
             rotate_left
             ·intro w'
              go_simp
              with_reducible rfl
             rotate_left
             ·simp only [Act.put, List.setIfInBounds_toArray, List.set_cons_zero, List.set_cons_succ, i64_w, i32_w]
              rfl
             refine pure_ (i := 7) (N := some 52) (v := ?_) (a' := ?_) #[true, true, true, true, true, true, true, true, false, false, true, false, false, false] rfl rfl (any_of HT_.out (by kernel_rfl)) (fun _ _ _ h => h) (Or.inl ⟨by rfl, ?_⟩) ?_ ?_
             rotate_left
             ·intro w'
              go_simp
              with_reducible rfl
             rotate_left
             ·simp only [Act.put, List.setIfInBounds_toArray, List.set_cons_zero, List.set_cons_succ, i64_w, i32_w]
              rfl
             refine pure_ (i := 8) (N := some 53) (v := ?_) (a' := ?_) #[true, true, true, true, true, true, true, true, true, false, true, false, false, false] rfl rfl (any_of HT_.out (by kernel_rfl)) (fun _ _ _ h => h) (Or.inl ⟨by rfl, ?_⟩) ?_ ?_
             rotate_left
             ·intro w'
              go_simp
              with_reducible rfl
             rotate_left
             ·simp only [Act.put, List.setIfInBounds_toArray, List.set_cons_zero, List.set_cons_succ, i64_w, i32_w]
              rfl
             refine pure_ (i := 9) (N := some 54) (v := ?_) (a' := ?_) #[true, true, true, true, true, true, true, true, true, true, true, false, false, false] rfl rfl (any_of HT_.out (by kernel_rfl)) (fun _ _ _ h => h) (Or.inl ⟨by rfl, ?_⟩) ?_ ?_
             rotate_left
             ·intro w'
              go_simp
              with_reducible rfl
             rotate_left
             ·simp only [Act.put, List.setIfInBounds_toArray, List.set_cons_zero, List.set_cons_succ, i64_w, i32_w]
              rfl
             exact norm_ (by simp only [putAll, Act.put, List.setIfInBounds_toArray, List.set_cons_zero, List.set_cons_succ]) (hCont (v111, gb115) _ ⟨hHeld, (by (with_reducible repeat (first | apply Kd.V_alloc | apply Kd.V_drewN | apply Kd.V_drew)); exact HO112.out), (by (with_reducible repeat (first | apply Kd.V_alloc | apply Kd.V_drewN | apply Kd.V_drew)); exact Kd.V_mono HO_102001.out (fun _ hk => ⟨hk.1.1, ⟨hk.1.2.1, ⟨hk.1.2.2, hk.2⟩⟩⟩)), (by (with_reducible repeat (first | refine blk_drewN ?_ _ | refine blk_drew ?_ | refine blk_alloc ?_ _)); exact BK101.out), (by (with_reducible repeat (first | refine blk_drewN ?_ _ | refine blk_drew ?_ | refine blk_alloc ?_ _)); exact BK102.out), (by (with_reducible repeat (first | refine blk_drewN ?_ _ | refine blk_drew ?_ | refine blk_alloc ?_ _)); exact BK115.out), GW115.out, GE115.out, NB101_115.out, NB115_101.out, NB102_115.out, NB115_102.out, (by repeat (first | (with_reducible first | exact HB.out | apply below_alloc | apply pw_below_drewN | apply below_drew1 | refine below_set ?_ GE101.out | refine below_set ?_ GE102.out | refine below_set ?_ GE115.out) | exact HB.out))⟩)
           rintro ⟨v111, gb115⟩ w38 ⟨hS_, h0_, h1_, h2_, h3_, h4_, h5_, h6_, h7_, h8_, h9_, h10_, h11_⟩
           have n0_ : Aside0 (Kd.V k33 33 w38 w.heap.size (fun k_ => (P0_1_ k_ ∨ w.heap.size ≤ k_) ∧ k_ ≠ gb101 ∧ k_ ≠ gb102 ∧ k_ ≠ gb115) v111 t110) := ⟨h0_⟩
           have n1_ : Aside0 (Kd.V k33 33 w38 w.heap.size (fun k_ => (P0_1_ k_ ∨ w.heap.size ≤ k_) ∧ k_ ≠ gb101 ∧ k_ ≠ gb102 ∧ k_ ≠ gb115) (.slice Ao34 x102001_1.length co34) x102001_1) := ⟨h1_⟩
           have n2_ : Aside0 (w38.heap[gb101]? = some (.cells #[.int .i64 x102000_1, .slice Ao34 x102001_1.length co34] 24 (0, 0))) := ⟨h2_⟩
           have n3_ : Aside0 (w38.heap[gb102]? = some (.cells #[.int .i64 x103000_1, .slice none 0 0] 24 (0, 0))) := ⟨h3_⟩
           have n4_ : Aside0 (w38.heap[gb115]? = some (.cells #[.int .i64 0, .slice none 0 0] 24 (0, 0))) := ⟨h4_⟩
           have n5_ : Aside0 (w.heap.size ≤ gb115) := ⟨h5_⟩
           have n6_ : Aside0 (w.heap.size ≤ gb115) := ⟨h6_⟩
           have n7_ : Aside0 (gb101 ≠ gb115) := ⟨h7_⟩
           have n8_ : Aside0 (gb115 ≠ gb101) := ⟨h8_⟩
           have n9_ : Aside0 (gb102 ≠ gb115) := ⟨h9_⟩
           have n10_ : Aside0 (gb115 ≠ gb102) := ⟨h10_⟩
           have n11_ : Aside0 (Below w.heap.size w w38) := ⟨h11_⟩
           clear HO_102001
           clear BK101
           clear BK102
           clear HB
           clear h0_ h1_ h2_ h3_ h4_ h5_ h6_ h7_ h8_ h9_ h10_ h11_
           have HO112 := n0_
           have HO_102001 := n1_
           have BK101 := n2_
           have BK102 := n3_
           have BK115 := n4_
           have GW115 := n5_
           have GE115 := n6_
           have NB101_115 := n7_
           have NB115_101 := n8_
           have NB102_115 := n9_
           have NB115_102 := n10_
           have HB := n11_
           clear n0_ n1_ n2_ n3_ n4_ n5_ n6_ n7_ n8_ n9_ n10_ n11_
           have hHeld : w38.cell? ⟨gb101, 0, none⟩ = some (.int .i64 x102000_1) ∧ w38.cell? ⟨gb101, 1, none⟩ = some (.slice Ao34 x102001_1.length co34) ∧ w38.cell? (ad108.add ((x8_1).toNat * 13)) = some (.int .i64 ((rd_T65 l2 x8_1).f0)) ∧ w38.cell? ⟨(ad108.add ((x8_1).toNat * 13)).block, (ad108.add ((x8_1).toNat * 13)).off + 1, none⟩ = some (.int .i64 ((rd_T65 l2 x8_1).f1.f0)) ∧ w38.cell? ⟨(ad108.add ((x8_1).toNat * 13)).block, (ad108.add ((x8_1).toNat * 13)).off + 2, none⟩ = some (.int .i64 ((rd_T65 l2 x8_1).f1.f1)) ∧ w38.cell? ⟨(ad108.add ((x8_1).toNat * 13)).block, (ad108.add ((x8_1).toNat * 13)).off + 3, none⟩ = some (.int .i64 ((rd_T65 l2 x8_1).f1.f2)) ∧ w38.cell? ⟨(ad108.add ((x8_1).toNat * 13)).block, (ad108.add ((x8_1).toNat * 13)).off + 4, none⟩ = some (.int .i64 ((rd_T65 l2 x8_1).f2)) ∧ w38.cell? ⟨(ad108.add ((x8_1).toNat * 13)).block, (ad108.add ((x8_1).toNat * 13)).off + 5, none⟩ = some (.int .i64 ((rd_T65 l2 x8_1).f3)) ∧ w38.cell? ⟨(ad108.add ((x8_1).toNat * 13)).block, (ad108.add ((x8_1).toNat * 13)).off + 6, none⟩ = some (.int .i64 ((rd_T65 l2 x8_1).f4)) ∧ w38.cell? ⟨(ad108.add ((x8_1).toNat * 13)).block, (ad108.add ((x8_1).toNat * 13)).off + 7, none⟩ = some (.int .i64 ((rd_T65 l2 x8_1).f5)) ∧ w38.cell? ⟨(ad108.add ((x8_1).toNat * 13)).block, (ad108.add ((x8_1).toNat * 13)).off + 8, none⟩ = some (.bool ((rd_T65 l2 x8_1).f6.f0)) ∧ w38.cell? ⟨(ad108.add ((x8_1).toNat * 13)).block, (ad108.add ((x8_1).toNat * 13)).off + 9, none⟩ = some (.string ((rd_T65 l2 x8_1).f6.f1)) ∧ w38.cell? ⟨(ad108.add ((x8_1).toNat * 13)).block, (ad108.add ((x8_1).toNat * 13)).off + 10, none⟩ = some (.bool ((rd_T65 l2 x8_1).f7.f0)) ∧ w38.cell? ⟨(ad108.add ((x8_1).toNat * 13)).block, (ad108.add ((x8_1).toNat * 13)).off + 11, none⟩ = some (.string ((rd_T65 l2 x8_1).f7.f1)) ∧ w38.cell? ⟨(ad108.add ((x8_1).toNat * 13)).block, (ad108.add ((x8_1).toNat * 13)).off + 12, none⟩ = some (.int .i64 ((rd_T65 l2 x8_1).f8)) := hS_
           obtain ⟨Ao40, co40, eo40⟩ := Kd.V_slice HO112.out
           (first | subst eo40 | (injection eo40 with f1_ f2_ f3_; have f4_ := f1_.symm; have f5_ := f3_.symm; clear f1_ f2_ f3_; subst f4_; subst f5_))
           refine norm_ (a' := ?_) ?_ ?_
           rotate_left
           ·simp only [putAll, Act.put, List.setIfInBounds_toArray, List.set_cons_zero, List.set_cons_succ]
            rfl
           refine one_ (i := 11) (N := none) #[true, true, true, true, true, true, true, true, true, true, true, true, false, false] rfl rfl (one_of HT_.out (by kernel_rfl)) (by decide) (fun K hK => ?_)
           have hs39 : w38.cell? ⟨gb115, 0, none⟩ = some (.int .i64 0) := (blk_cell BK115.out 0).trans rfl
           have hfs39 := blk_frozen BK115.out 0
           have hns39_0 := NB101_115.out
           have hns39_1 := NB102_115.out
           have hms39_0 := NB115_101.out
           have hms39_1 := NB115_102.out
           have hs41 : w38.cell? ⟨gb115, 1, none⟩ = some (.slice none 0 0) := (blk_cell BK115.out 1).trans rfl
           have hfs41 := blk_frozen BK115.out 1
           have hns41_0 := NB101_115.out
           have hns41_1 := NB102_115.out
           have hms41_0 := NB115_101.out
           have hms41_1 := NB115_102.out
           refine skip_ (w1 := ?_) (by rfl) rfl ?_ ?_
           rotate_left
           ·go_simp
            rfl
           refine hK.out _ _ ⟨((cell_far (p := ⟨gb115, _, none⟩) NB101_115.out _).trans (((cell_far (p := ⟨gb115, _, none⟩) NB101_115.out _).trans (hHeld.1)))), ((cell_far (p := ⟨gb115, _, none⟩) NB101_115.out _).trans (((cell_far (p := ⟨gb115, _, none⟩) NB101_115.out _).trans (hHeld.2.1)))), ((cell_far (p := ⟨gb115, _, none⟩) (by (first | rw [add_block] | (show (Addr.add _ _).block ≠ _; rw [add_block]) | skip); exact Nat.ne_of_lt (Nat.lt_of_lt_of_le (by have := World.block_lt_of_cell? _ _ hw108_0; first | rwa [add_block] at this | exact this) GW115.out)) _).trans (((cell_far (p := ⟨gb115, _, none⟩) (by (first | rw [add_block] | (show (Addr.add _ _).block ≠ _; rw [add_block]) | skip); exact Nat.ne_of_lt (Nat.lt_of_lt_of_le (by have := World.block_lt_of_cell? _ _ hw108_0; first | rwa [add_block] at this | exact this) GW115.out)) _).trans (hHeld.2.2.1)))), ((cell_far (p := ⟨gb115, _, none⟩) (by (first | rw [add_block] | (show (Addr.add _ _).block ≠ _; rw [add_block]) | skip); exact Nat.ne_of_lt (Nat.lt_of_lt_of_le (by have := World.block_lt_of_cell? _ _ hw108_1; first | rwa [add_block] at this | exact this) GW115.out)) _).trans (((cell_far (p := ⟨gb115, _, none⟩) (by (first | rw [add_block] | (show (Addr.add _ _).block ≠ _; rw [add_block]) | skip); exact Nat.ne_of_lt (Nat.lt_of_lt_of_le (by have := World.block_lt_of_cell? _ _ hw108_1; first | rwa [add_block] at this | exact this) GW115.out)) _).trans (hHeld.2.2.2.1)))), ((cell_far (p := ⟨gb115, _, none⟩) (by (first | rw [add_block] | (show (Addr.add _ _).block ≠ _; rw [add_block]) | skip); exact Nat.ne_of_lt (Nat.lt_of_lt_of_le (by have := World.block_lt_of_cell? _ _ hw108_2; first | rwa [add_block] at this | exact this) GW115.out)) _).trans (((cell_far (p := ⟨gb115, _, none⟩) (by (first | rw [add_block] | (show (Addr.add _ _).block ≠ _; rw [add_block]) | skip); exact Nat.ne_of_lt (Nat.lt_of_lt_of_le (by have := World.block_lt_of_cell? _ _ hw108_2; first | rwa [add_block] at this | exact this) GW115.out)) _).trans (hHeld.2.2.2.2.1)))), ((cell_far (p := ⟨gb115, _, none⟩) (by (first | rw [add_block] | (show (Addr.add _ _).block ≠ _; rw [add_block]) | skip); exact Nat.ne_of_lt (Nat.lt_of_lt_of_le (by have := World.block_lt_of_cell? _ _ hw108_3; first | rwa [add_block] at this | exact this) GW115.out)) _).trans (((cell_far (p := ⟨gb115, _, none⟩) (by (first | rw [add_block] | (show (Addr.add _ _).block ≠ _; rw [add_block]) | skip); exact Nat.ne_of_lt (Nat.lt_of_lt_of_le (by have := World.block_lt_of_cell? _ _ hw108_3; first | rwa [add_block] at this | exact this) GW115.out)) _).trans (hHeld.2.2.2.2.2.1)))), ((cell_far (p := ⟨gb115, _, none⟩) (by (first | rw [add_block] | (show (Addr.add _ _).block ≠ _; rw [add_block]) | skip); exact Nat.ne_of_lt (Nat.lt_of_lt_of_le (by have := World.block_lt_of_cell? _ _ hw108_4; first | rwa [add_block] at this | exact this) GW115.out)) _).trans (((cell_far (p := ⟨gb115, _, none⟩) (by (first | rw [add_block] | (show (Addr.add _ _).block ≠ _; rw [add_block]) | skip); exact Nat.ne_of_lt (Nat.lt_of_lt_of_le (by have := World.block_lt_of_cell? _ _ hw108_4; first | rwa [add_block] at this | exact this) GW115.out)) _).trans (hHeld.2.2.2.2.2.2.1)))), ((cell_far (p := ⟨gb115, _, none⟩) (by (first | rw [add_block] | (show (Addr.add _ _).block ≠ _; rw [add_block]) | skip); exact Nat.ne_of_lt (Nat.lt_of_lt_of_le (by have := World.block_lt_of_cell? _ _ hw108_5; first | rwa [add_block] at this | exact this) GW115.out)) _).trans (((cell_far (p := ⟨gb115, _, none⟩) (by (first | rw [add_block] | (show (Addr.add _ _).block ≠ _; rw [add_block]) | skip); exact Nat.ne_of_lt (Nat.lt_of_lt_of_le (by have := World.block_lt_of_cell? _ _ hw108_5; first | rwa [add_block] at this | exact this) GW115.out)) _).trans (hHeld.2.2.2.2.2.2.2.1)))), ((cell_far (p := ⟨gb115, _, none⟩) (by (first | rw [add_block] | (show (Addr.add _ _).block ≠ _; rw [add_block]) | skip); exact Nat.ne_of_lt (Nat.lt_of_lt_of_le (by have := World.block_lt_of_cell? _ _ hw108_6; first | rwa [add_block] at this | exact this) GW115.out)) _).trans (((cell_far (p := ⟨gb115, _, none⟩) (by (first | rw [add_block] | (show (Addr.add _ _).block ≠ _; rw [add_block]) | skip); exact Nat.ne_of_lt (Nat.lt_of_lt_of_le (by have := World.block_lt_of_cell? _ _ hw108_6; first | rwa [add_block] at this | exact this) GW115.out)) _).trans (hHeld.2.2.2.2.2.2.2.2.1)))), ((cell_far (p := ⟨gb115, _, none⟩) (by (first | rw [add_block] | (show (Addr.add _ _).block ≠ _; rw [add_block]) | skip); exact Nat.ne_of_lt (Nat.lt_of_lt_of_le (by have := World.block_lt_of_cell? _ _ hw108_7; first | rwa [add_block] at this | exact this) GW115.out)) _).trans (((cell_far (p := ⟨gb115, _, none⟩) (by (first | rw [add_block] | (show (Addr.add _ _).block ≠ _; rw [add_block]) | skip); exact Nat.ne_of_lt (Nat.lt_of_lt_of_le (by have := World.block_lt_of_cell? _ _ hw108_7; first | rwa [add_block] at this | exact this) GW115.out)) _).trans (hHeld.2.2.2.2.2.2.2.2.2.1)))), ((cell_far (p := ⟨gb115, _, none⟩) (by (first | rw [add_block] | (show (Addr.add _ _).block ≠ _; rw [add_block]) | skip); exact Nat.ne_of_lt (Nat.lt_of_lt_of_le (by have := World.block_lt_of_cell? _ _ hw108_8; first | rwa [add_block] at this | exact this) GW115.out)) _).trans (((cell_far (p := ⟨gb115, _, none⟩) (by (first | rw [add_block] | (show (Addr.add _ _).block ≠ _; rw [add_block]) | skip); exact Nat.ne_of_lt (Nat.lt_of_lt_of_le (by have := World.block_lt_of_cell? _ _ hw108_8; first | rwa [add_block] at this | exact this) GW115.out)) _).trans (hHeld.2.2.2.2.2.2.2.2.2.2.1)))), ((cell_far (p := ⟨gb115, _, none⟩) (by (first | rw [add_block] | (show (Addr.add _ _).block ≠ _; rw [add_block]) | skip); exact Nat.ne_of_lt (Nat.lt_of_lt_of_le (by have := World.block_lt_of_cell? _ _ hw108_9; first | rwa [add_block] at this | exact this) GW115.out)) _).trans (((cell_far (p := ⟨gb115, _, none⟩) (by (first | rw [add_block] | (show (Addr.add _ _).block ≠ _; rw [add_block]) | skip); exact Nat.ne_of_lt (Nat.lt_of_lt_of_le (by have := World.block_lt_of_cell? _ _ hw108_9; first | rwa [add_block] at this | exact this) GW115.out)) _).trans (hHeld.2.2.2.2.2.2.2.2.2.2.2.1)))), ((cell_far (p := ⟨gb115, _, none⟩) (by (first | rw [add_block] | (show (Addr.add _ _).block ≠ _; rw [add_block]) | skip); exact Nat.ne_of_lt (Nat.lt_of_lt_of_le (by have := World.block_lt_of_cell? _ _ hw108_10; first | rwa [add_block] at this | exact this) GW115.out)) _).trans (((cell_far (p := ⟨gb115, _, none⟩) (by (first | rw [add_block] | (show (Addr.add _ _).block ≠ _; rw [add_block]) | skip); exact Nat.ne_of_lt (Nat.lt_of_lt_of_le (by have := World.block_lt_of_cell? _ _ hw108_10; first | rwa [add_block] at this | exact this) GW115.out)) _).trans (hHeld.2.2.2.2.2.2.2.2.2.2.2.2.1)))), ((cell_far (p := ⟨gb115, _, none⟩) (by (first | rw [add_block] | (show (Addr.add _ _).block ≠ _; rw [add_block]) | skip); exact Nat.ne_of_lt (Nat.lt_of_lt_of_le (by have := World.block_lt_of_cell? _ _ hw108_11; first | rwa [add_block] at this | exact this) GW115.out)) _).trans (((cell_far (p := ⟨gb115, _, none⟩) (by (first | rw [add_block] | (show (Addr.add _ _).block ≠ _; rw [add_block]) | skip); exact Nat.ne_of_lt (Nat.lt_of_lt_of_le (by have := World.block_lt_of_cell? _ _ hw108_11; first | rwa [add_block] at this | exact this) GW115.out)) _).trans (hHeld.2.2.2.2.2.2.2.2.2.2.2.2.2.1)))), ((cell_far (p := ⟨gb115, _, none⟩) (by (first | rw [add_block] | (show (Addr.add _ _).block ≠ _; rw [add_block]) | skip); exact Nat.ne_of_lt (Nat.lt_of_lt_of_le (by have := World.block_lt_of_cell? _ _ hw108_12; first | rwa [add_block] at this | exact this) GW115.out)) _).trans (((cell_far (p := ⟨gb115, _, none⟩) (by (first | rw [add_block] | (show (Addr.add _ _).block ≠ _; rw [add_block]) | skip); exact Nat.ne_of_lt (Nat.lt_of_lt_of_le (by have := World.block_lt_of_cell? _ _ hw108_12; first | rwa [add_block] at this | exact this) GW115.out)) _).trans (hHeld.2.2.2.2.2.2.2.2.2.2.2.2.2.2))))⟩ (fun hHeld => ?_)
           clear hK K
           refine pure_ (i := 12) (N := some 10) (v := ?_) (a' := ?_) #[true, true, true, true, true, true, true, true, true, true, true, true, true, false] rfl rfl (any_of HT_.out (by kernel_rfl)) (fun _ _ _ h => h) (Or.inl ⟨by rfl, ?_⟩) ?_ ?_
           rotate_left
           ·intro w'
            go_simp
            with_reducible rfl
           rotate_left
           ·simp only [Act.put, List.setIfInBounds_toArray, List.set_cons_zero, List.set_cons_succ, i64_w, i32_w]
            rfl
           refine pure_ (i := 13) (N := some 11) (v := ?_) (a' := ?_) #[true, true, true, true, true, true, true, true, true, true, true, true, true, true] rfl rfl (any_of HT_.out (by kernel_rfl)) (fun _ _ _ h => h) (Or.inl ⟨by rfl, ?_⟩) ?_ ?_
           rotate_left
           ·intro w'
            go_simp
            with_reducible rfl
           rotate_left
           ·simp only [Act.put, List.setIfInBounds_toArray, List.set_cons_zero, List.set_cons_succ, i64_w, i32_w]
            rfl
           refine done_ (done_of HT_.out (by kernel_rfl)) ?_
           have hnb42 := NB102_101.out
           have hnc42 := NB101_102.out
           have hnb43 := NB102_115.out
           have hnc43 := NB115_102.out
           obtain ⟨hcz44_0, hcz44_1⟩ := cl2 (W := w38) BK102.out
           obtain ⟨hfz44_0, hfz44_1⟩ := fr2 BK102.out
           try go_wp2
           refine bodyPost_ret (results_ct rfl _ _ gb102 24 #[.int .i64 0, .slice none 0 0] (0, 0) _ rfl (by (with_reducible repeat (first | refine blk_drewN ?_ _ | refine blk_drew ?_ | refine blk_alloc ?_ _)); refine blk_put (cs := #[.int .i64 0, .slice none 0 0]) ?_ 1 _ rfl; refine blk_put (cs := #[.int .i64 x103000_1, .slice none 0 0]) ?_ 0 _ rfl; refine blk_far ?_ NB102_115.out _; refine blk_far ?_ NB102_115.out _; (with_reducible repeat (first | refine blk_drewN ?_ _ | refine blk_drew ?_ | refine blk_alloc ?_ _)); exact BK102.out) Try.underlying24 rfl (by kernel_rfl)) rfl ?_
           exact ⟨_, by first | rfl | (simp [errW_none, errW_some] <;> rfl) | (simp [*, errW_none, errW_some] <;> rfl), Kd.V_nil _ _ _ _ _, by repeat (first | (with_reducible first | exact HB.out | apply below_alloc | apply pw_below_drewN | apply below_drew1 | refine below_set ?_ GE101.out | refine below_set ?_ GE102.out | refine below_set ?_ GE115.out) | exact HB.out)⟩
         ·rw [if_neg c18] at H
          exact absurd H (by simp)
        ·rw [if_neg c17] at H
         exact absurd H (by simp)
    ·rw [if_neg c11] at H
     have c11b0 : decide (x8_1 < (l2.length : Int)) = false := decide_eq_false c11
     clear c11
     simp only [Option.some.injEq, Prod.mk.injEq] at H
     obtain ⟨rfl, rfl, rfl⟩ := H
     have hnb45 := NB101_102.out
     have hnc45 := NB102_101.out
     obtain ⟨hcz46_0, hcz46_1⟩ := cl2 (W := wr) BK101.out
     obtain ⟨hfz46_0, hfz46_1⟩ := fr2 BK101.out
     obtain ⟨hcz47_0, hcz47_1⟩ := cl2 (W := wr) BK102.out
     obtain ⟨hfz47_0, hfz47_1⟩ := fr2 BK102.out
     obtain ⟨Ao48, co48, eo48⟩ := Kd.V_slice HO_102001.out
     subst eo48
     go_wp2
     refine bodyPost_ret (results_ct rfl _ _ gb102 24 #[.int .i64 x102000_1, .slice Ao48 x102001_1.length co48] (0, 0) _ rfl (by (with_reducible repeat (first | refine blk_drewN ?_ _ | refine blk_drew ?_ | refine blk_alloc ?_ _)); refine blk_put (cs := #[.int .i64 x102000_1, .slice none 0 0]) ?_ 1 _ rfl; refine blk_put (cs := #[.int .i64 x103000_1, .slice none 0 0]) ?_ 0 _ rfl; (with_reducible repeat (first | refine blk_drewN ?_ _ | refine blk_drew ?_ | refine blk_alloc ?_ _)); exact BK102.out) Try.underlying24 rfl (by kernel_rfl)) rfl ?_
     exact ⟨_, by first | rfl | (simp [errW_none, errW_some] <;> rfl) | (simp [*, errW_none, errW_some] <;> rfl), by (with_reducible repeat (first | apply Kd.V_alloc | apply Kd.V_drewN | apply Kd.V_drew)); exact Kd.V_mono (Kd.V_far (p := ⟨gb102, 1, none⟩) (Kd.V_far (p := ⟨gb102, 0, none⟩) (Kd.V_mono HO_102001.out (fun k_ hk => (⟨hk, hk.2.2⟩ : _ ∧ k_ ≠ gb102))) (fun _ hk => hk.2) (.int .i64 x102000_1)) (fun _ hk => hk.2) (.slice Ao48 x102001_1.length co48)) (fun _ hk => hk.1.1), by repeat (first | (with_reducible first | exact HB.out | apply below_alloc | apply pw_below_drewN | apply below_drew1 | refine below_set ?_ GE101.out | refine below_set ?_ GE102.out) | exact HB.out)⟩
 ·replace c5 := Bool.eq_false_iff.mpr c5
  subst c5
  have H1 : (some (0, ([] : List (S33)), 1)) = some (r1, r2, r3) := by rw [if_neg (show ¬ (false = true) by decide)] at H; exact H
  clear H
  have H := H1
  clear H1
  simp only [Option.some.injEq, Prod.mk.injEq] at H
  obtain ⟨rfl, rfl, rfl⟩ := H
  go_enter Try.func72, Try.ntmps72
  go_wp2_with (first | ((with_reducible refine gate_dst (N := 3) rfl ?_); refine box_event ?hg (N := 3) ?hd (cs := #[.int .i64 a0_0, .slice A0_1 l0_1.length c0_1]) (t := 24) ?hr ?_; (case hd => rfl); (case hg => rfl); (case hr => first | (go_simp; done) | (go_simp; rfl)); intro gb101 hg w49 hbox hb; have n0_ := Aside0.mk (Kd.V_below (Kd.V_elderB (by (with_reducible repeat (first | apply Kd.V_alloc | apply Kd.V_drewN | apply Kd.V_drew)); exact HO0_1.out) gb101 (Nat.le_of_eq hg.symm)) hb); have n1_ := Aside0.mk (below_step HB.out hb); have n2_ := Aside0.mk (hbox); have n3_ := Aside0.mk ((by rw [hg]; exact below_size HB.out : w.heap.size ≤ gb101)); have n4_ := Aside0.mk ((by rw [hg]; exact below_size HB.out : w.heap.size ≤ gb101)); clear HO0_1; clear HB; have HO0_1 := n0_; have HB := n1_; have BK101 := n2_; have GW101 := n3_; have GE101 := n4_; clear n0_ n1_ n2_ n3_ n4_; clear hb hbox hg) | ((with_reducible refine gate_dst (N := 6) rfl ?_); refine box_event ?hg (N := 6) ?hd (cs := #[.int .i64 0, .slice none 0 0]) (t := 24) ?hr ?_; (case hd => rfl); (case hg => rfl); (case hr => first | (go_simp; done) | (go_simp; rfl)); intro gb102 hg w50 hbox hb; have n0_ := Aside0.mk (Kd.V_below (Kd.V_elderB (by (with_reducible repeat (first | apply Kd.V_alloc | apply Kd.V_drewN | apply Kd.V_drew)); exact HO0_1.out) gb102 (Nat.le_of_eq hg.symm)) hb); have n1_ := Aside0.mk (blk_below BK101.out hb); have n2_ := Aside0.mk (below_step HB.out hb); have n3_ := Aside0.mk (hbox); have n4_ := Aside0.mk ((by rw [hg]; exact below_size HB.out : w.heap.size ≤ gb102)); have n5_ := Aside0.mk ((by rw [hg]; exact below_size HB.out : w.heap.size ≤ gb102)); have n6_ := Aside0.mk ((by rw [hg]; exact Nat.ne_of_lt (blk_lt BK101.out) : gb101 ≠ gb102)); have n7_ := Aside0.mk ((by rw [hg]; exact Nat.ne_of_gt (blk_lt BK101.out) : gb102 ≠ gb101)); clear HO0_1; clear BK101; clear HB; have HO0_1 := n0_; have BK101 := n1_; have HB := n2_; have BK102 := n3_; have GW102 := n4_; have GE102 := n5_; have NB101_102 := n6_; have NB102_101 := n7_; clear n0_ n1_ n2_ n3_ n4_ n5_ n6_ n7_; clear hb hbox hg; have hnb51 := NB101_102.out; have hnc51 := NB102_101.out; obtain ⟨hcz52_0, hcz52_1⟩ := cl2 (W := w50) BK101.out; obtain ⟨hfz52_0, hfz52_1⟩ := fr2 BK101.out) | ((with_reducible refine gate_callee (f := 35) rfl ?_); refine goesL_ (some 13) rfl rfl Try.func35 (by kernel_rfl) rfl #[.agg #[.int .i64 a0_0, .slice A0_1 l0_1.length c0_1]] rfl (by (try simp only [List.map_toArray, List.map_cons, List.map_nil]); first | done | rfl | (simp only [List.length_drop, List.length_take]; rfl)) ?_; (with_reducible refine (refGood3.calls a0_0 _ _ l0_1 false _ ?side1 ?side2 A4.out).mono ?_); (case side1 => repeat (first | exact (Kd.V_reads' HO0_1.out).2.2 | (with_reducible refine Kd.C_alloc ?_ _) | (with_reducible refine Kd.C_drewN ?_ _) | (with_reducible refine Kd.C_drew ?_))); (case side2 => exact (Kd.V_reads' HO0_1.out).2.1); rintro e w53 ⟨rfl, hb⟩; refine ⟨_, rfl, ?_⟩; have n0_ := Aside0.mk (Kd.V_below (by (with_reducible repeat (first | apply Kd.V_alloc | apply Kd.V_drewN | apply Kd.V_drew)); exact HO0_1.out) hb); have n1_ := Aside0.mk (blk_below BK101.out hb); have n2_ := Aside0.mk (blk_below BK102.out hb); have n3_ := Aside0.mk (below_step HB.out hb); clear HO0_1; clear BK101; clear BK102; clear HB; have HO0_1 := n0_; have BK101 := n1_; have BK102 := n2_; have HB := n3_; clear n0_ n1_ n2_ n3_; (try clear hb); (try clear hb2); (try clear hk); (try clear hi); obtain ⟨hcz54_0, hcz54_1⟩ := cl2 (W := w53) BK102.out; obtain ⟨hfz54_0, hfz54_1⟩ := fr2 BK102.out))
  refine bodyPost_ret (results_ct rfl _ _ gb102 24 #[.int .i64 0, .slice none 0 0] (0, 0) _ rfl (by (with_reducible repeat (first | refine blk_drewN ?_ _ | refine blk_drew ?_ | refine blk_alloc ?_ _)); refine blk_put (cs := #[.int .i64 0, .slice none 0 0]) ?_ 1 _ rfl; refine blk_put (cs := #[.int .i64 0, .slice none 0 0]) ?_ 0 _ rfl; (with_reducible repeat (first | refine blk_drewN ?_ _ | refine blk_drew ?_ | refine blk_alloc ?_ _)); exact BK102.out) Try.underlying24 rfl (by kernel_rfl)) rfl ?_
  exact ⟨_, by first | rfl | (simp [errW_none, errW_some] <;> rfl) | (simp [*, errW_none, errW_some] <;> rfl), Kd.V_nil _ _ _ _ _, by repeat (first | (with_reducible first | exact HB.out | apply below_alloc | apply pw_below_drewN | apply below_drew1 | refine below_set ?_ GE101.out | refine below_set ?_ GE102.out) | exact HB.out)⟩
end Go.Proofs.Ytfjmnaobfbmllaa.M
namespace Go.Proofs.Ytfjmnaobfbmllaa.M
open Go.RowKit Go.Proofs.YtfjmnaobfbmllaaW.PrintWords Go.Proofs.YtfjmnaobfbmllaaW.PrintLast Go.Proofs.YtfjmnaobfbmllaaW.PrintMore
set_option linter.unusedVariables false
set_option linter.unusedSimpArgs false
theorem rall_loop (p : Int) (list : List S65) (hn : list.length ≤ 9223372036854775807) (d : Nat) : ∀ (k i : Nat) (a : Int) (l : List S33), i + d = list.length → 2 * d < k → seneschalref05_All.l0 k p list i a l = some (allF p a l (list.drop i)) := by
  induction d with
  | zero =>
    intro k i a l hi hk
    obtain ⟨k, rfl⟩ : ∃ m, k = m + 1 := ⟨k - 1, by omega⟩
    simp only [seneschalref05_All.l0]
    rw [if_neg (by omega), List.drop_of_length_le (by omega)]
    rfl
  | succ d ih =>
    intro k i a l hi hk
    obtain ⟨k, rfl⟩ : ∃ m, k = m + 2 := ⟨k - 2, by omega⟩
    have hlt : i < list.length := by omega
    have hw : wrap64 ((i : Int) + 1) = ((i + 1 : Nat) : Int) := by rw [w64 _ (by omega) (by omega)]; omega
    have hj : ∀ b, (b = true ↔ ¬ hits p list[i]) → seneschalref05_All.j1 (k + 1) p list i b a l = some (allF p a l (list.drop i)) := by
      intro b hb
      simp only [seneschalref05_All.j1]
      rw [List.drop_eq_getElem_cons hlt, hw]
      simp only [allF]
      cases b with
      | true =>
        rw [if_pos rfl, if_neg (hb.mp rfl)]
        exact ih k (i + 1) a l (by omega) (by omega)
      | false =>
        have hh : hits p list[i] := Decidable.byContradiction fun h => by have := hb.mpr h; cases this
        rw [if_neg Bool.false_ne_true, if_pos hh, if_pos (by omega), if_pos (by omega), rd65i list i hlt]
        unfold refRedo5.f
        rw [mk_eq, Option.bind_some]
        by_cases h0 : (redoP a l list[i]).2.2.2 = 0
        · rw [if_pos h0, if_pos h0]
          exact ih k (i + 1) _ _ (by omega) (by omega)
        · rw [if_neg h0, if_neg h0]
    have e2 : k + 2 = (k + 1) + 1 := rfl
    rw [e2]
    simp only [seneschalref05_All.l0]
    rw [if_pos (by omega), if_pos (by omega), rd65i list i hlt]
    have h4 : (list[i].f0 = 1 ∨ list[i].f0 = 2) → ((list[i].f4 != p) = true ↔ ¬ hits p list[i]) := fun hc => ⟨fun h h2 => by have := h2.2; simp [this] at h, fun h => by
        have : list[i].f4 ≠ p := fun e => h ⟨hc, e⟩
        simpa using this⟩
    by_cases h1 : list[i].f0 = 1
    · rw [if_pos h1]; exact hj _ (h4 (.inl h1))
    · rw [if_neg h1]
      by_cases h2 : list[i].f0 = 2
      · rw [if_pos h2]; exact hj _ (h4 (.inr h2))
      · rw [if_neg h2]
        exact hj _ ⟨fun _ h => h.1.elim h1 h2, fun _ => rfl⟩
theorem rall_pure (a : Int) (l : List S33) (p : Int) (list : List S65) (hn : list.length ≤ 9223372036854775807) : seneschalref05_All.f (2 * list.length + 1) a l p list = some (allP a l p list) := by
  unfold seneschalref05_All.f refGood3.f allP
  rw [Option.bind_some]
  by_cases hg : goodP a l = true
  · rw [if_pos hg, if_pos hg]
    have := rall_loop p list hn list.length (2 * list.length + 1) 0 a l (by omega) (by omega)
    rwa [List.drop_zero] at this
  · rw [if_neg hg, if_neg hg]
def refAll5.f (a : Int) (l : List S33) (p : Int) (list : List S65) : Option (Int × List S33 × Int) := some (allP a l p list)
theorem refAll5.calls (a : Int) (P : Nat → Prop) (A : Option Addr) (c : Nat) (l : List S33) (p : Int) (B : Option Addr) (c2 : Nat) (list : List S65) (r1 : Int) (r2 : List S33) (r3 : Int) (w : World) (hs : Kd.V k33 33 w w.heap.size (fun k_ => P k_) (.slice A l.length c) l) (hr2 : Kd.C k65 w B list.length list) (hc2 : list.length ≤ c2) (h : refAll5.f a l p list = some (r1, r2, r3)) :
    Calls Try.prog 72 #[.agg #[.int .i64 a, .slice A l.length c], .int .i64 p, .slice B list.length c2] w fun e w' => ∃ v1_ : Value, e = .returned (.tuple #[.agg #[.int .i64 r1, v1_], .int .i64 r3]) ∧ Kd.V k33 33 w' w.heap.size (fun k_ => (P k_ ∨ w.heap.size ≤ k_)) v1_ r2 ∧ Below w.heap.size w w' :=
  seneschalref05_All.calls _ a P A c l p B c2 list r1 r2 r3 w hs hr2 hc2 (by rw [← h]; exact rall_pure a l p list (Kd.C_max hr2))
end Go.Proofs.Ytfjmnaobfbmllaa.M
namespace Go.Proofs.Ytfjmnaobfbmllaa.M
open Go.RowKit Go.Proofs.YtfjmnaobfbmllaaW.PrintWords Go.Proofs.YtfjmnaobfbmllaaW.PrintLast Go.Proofs.YtfjmnaobfbmllaaW.PrintMore
attribute [local go_sem] max2_int min2_int max_two min_two max_three min_three max_four min_four   -- for this text's walks alone
set_option linter.unusedVariables false
set_option linter.unusedSimpArgs false
mutual
def seneschallaw05_great.j0 : Nat → List (S65) → Bool → Int → List (S33) → Option (Bool)
 | 0, _, _, _, _ => none
 | k + 1, x1, x15, x102000, x102001 => if x15 = true then (some true) else (seneschallaw05_great.l0 k x1 0 x102000 x102001)
def seneschallaw05_great.l0 : Nat → List (S65) → Int → Int → List (S33) → Option (Bool)
 | 0, _, _, _, _ => none
 | k + 1, x1, x5, x102000, x102001 => if x5 < (x102001.length : Int) then (if 0 ≤ x5 then (if (((rd_T33 x102001 x5).f1).size : Int) > 4096 then (some true) else (seneschallaw05_great.l0 k x1 (wrap64 (x5 + 1)) x102000 x102001)) else (none)) else (seneschallaw05_great.l1 k x1 0)
def seneschallaw05_great.l1 : Nat → List (S65) → Int → Option (Bool)
 | 0, _, _ => none
 | k + 1, x1, x6 => if x6 < (x1.length : Int) then (if 0 ≤ x6 then (if (((rd_T65 x1 x6).f6.f1).size : Int) > 4096 then (some true) else (if (((rd_T65 x1 x6).f7.f1).size : Int) > 4096 then (some true) else (seneschallaw05_great.l1 k x1 (wrap64 (x6 + 1))))) else (none)) else (some false)
end
def seneschallaw05_great.f (k : Nat) (a0_0 : Int) (l0_1 : List (S33)) (l1 : List (S65)) : Option (Bool) := if (l0_1.length : Int) > 100 then (seneschallaw05_great.j0 k l1 true a0_0 l0_1) else (seneschallaw05_great.j0 k l1 (decide ((l1.length : Int) > 60)) a0_0 l0_1)
set_option maxHeartbeats 8000000 in
set_option maxRecDepth 100000 in
theorem seneschallaw05_great.calls (k : Nat) (a0_0 : Int) (A0_1 : Option Addr) (c0_1 : Nat) (l0_1 : List (S33)) (A1 : Option Addr) (c1 : Nat) (l1 : List (S65)) (r : Bool) (w : World) (hr0_1 : Kd.C k33 w A0_1 l0_1.length l0_1) (hc0_1 : l0_1.length ≤ c0_1) (hr1 : Kd.C k65 w A1 l1.length l1) (hc1 : l1.length ≤ c1) (h : seneschallaw05_great.f k a0_0 l0_1 l1 = some r) :
  Calls Try.prog 66 #[.agg #[.int .i64 a0_0, .slice A0_1 l0_1.length c0_1], .slice A1 l1.length c1] w fun e w' => e = .returned (.bool r) ∧ Below w.heap.size w w' := by
 have hu24 := Try.underlying24
 have HR0_1 := Aside0.mk hr0_1
 have HC0_1 := Aside0.mk hc0_1
 clear hr0_1 hc0_1
 have HR1 := Aside0.mk hr1
 have HC1 := Aside0.mk hc1
 clear hr1 hc1
 have HB := Aside0.mk (Below.refl w.heap.size w)
 have H : (if (l0_1.length : Int) > 100 then (seneschallaw05_great.j0 k l1 true a0_0 l0_1) else (seneschallaw05_great.j0 k l1 (decide ((l1.length : Int) > 60)) a0_0 l0_1)) = some r := h
 clear h
 have HC3 := Aside0.mk H
 clear H
 go_enter Try.func66, Try.ntmps66
 go_upto_region 1 with (first | ((with_reducible refine gate_dst (N := 2) rfl ?_); (try (refine gate_guard (by rfl) ?_; dsimp only)); refine box_event ?hg (N := 2) ?hd (cs := #[.int .i64 a0_0, .slice A0_1 l0_1.length c0_1]) (t := 24) ?hr ?_; (case hd => rfl); (case hg => rfl); (case hr => first | (go_simp; done) | (go_simp; rfl)); intro gb101 hg w4 hbox hb; have n0_ := Aside0.mk (below_step HB.out hb); have n1_ := Aside0.mk (hbox); have n2_ := Aside0.mk ((by rw [hg]; exact below_size HB.out : w.heap.size ≤ gb101)); have n3_ := Aside0.mk ((by rw [hg]; exact below_size HB.out : w.heap.size ≤ gb101)); clear HB; have HB := n0_; have BK101 := n1_; have GW101 := n2_; have GE101 := n3_; clear n0_ n1_ n2_ n3_; clear hb hbox hg))
 (try simp only [Act.put, List.setIfInBounds_toArray, List.set_cons_zero, List.set_cons_succ])
 go_cut [15] (fun v15 wc => ∃ (kq : Nat) (x15_2 : Bool), v15 = .bool x15_2 ∧ Aside0 (seneschallaw05_great.j0 kq l1 x15_2 a0_0 l0_1 = some r) ∧ Aside0 (kq ≤ k) ∧ Aside0 (wc.heap[gb101]? = some (.cells #[.int .i64 a0_0, (.slice A0_1 l0_1.length c0_1)] 24 (0, 0))) ∧ Aside0 (Below w.heap.size w wc))
 case first =>
  have H := HC3.out
  clear HC3
  by_cases c5 : (l0_1.length : Int) > 100
  ·rw [if_pos c5] at H
   have c5b0 : decide (100 < (l0_1.length : Int)) = true := decide_eq_true c5
   have c5b1 : decide (100 < l0_1.length) = true := decide_eq_true (by omega)
   clear c5
   (first | rw [c5b0] | (simp only [i64_w, i32_w]; rw [c5b0]) | skip)
   have H' := Aside0.mk H
   clear H
   obtain ⟨hcz6_0, hcz6_1⟩ := cl2 (W := w4) BK101.out
   obtain ⟨hfz6_0, hfz6_1⟩ := fr2 BK101.out
   go_wp2
   go_meet
   case rel => exact ⟨_, (true), (by first | rfl | (simp; done) | (simp [*]; done)), H', ⟨by first | omega | exact Nat.le_refl _⟩, ⟨by (with_reducible repeat (first | refine blk_drewN ?_ _ | refine blk_drew ?_ | refine blk_alloc ?_ _)); exact BK101.out⟩, ⟨by repeat (first | (with_reducible first | exact HB.out | apply below_alloc | apply pw_below_drewN | apply below_drew1 | refine below_set ?_ GE101.out) | exact HB.out)⟩⟩
  ·rw [if_neg c5] at H
   have c5b0 : decide (100 < (l0_1.length : Int)) = false := decide_eq_false c5
   have c5b1 : decide (100 < l0_1.length) = false := decide_eq_false (by omega)
   clear c5
   (first | rw [c5b0] | (simp only [i64_w, i32_w]; rw [c5b0]) | skip)
   have H' := Aside0.mk H
   clear H
   obtain ⟨hcz7_0, hcz7_1⟩ := cl2 (W := w4) BK101.out
   obtain ⟨hfz7_0, hfz7_1⟩ := fr2 BK101.out
   go_wp2
   go_meet
   case rel => exact ⟨_, (decide ((l1.length : Int) > 60)), (by first | rfl | (simp; done) | (simp [*]; done)), H', ⟨by first | omega | exact Nat.le_refl _⟩, ⟨by (with_reducible repeat (first | refine blk_drewN ?_ _ | refine blk_drew ?_ | refine blk_alloc ?_ _)); exact BK101.out⟩, ⟨by repeat (first | (with_reducible first | exact HB.out | apply below_alloc | apply pw_below_drewN | apply below_drew1 | refine below_set ?_ GE101.out) | exact HB.out)⟩⟩
 case rest =>
  clear HC3
  try clear c1
  try clear p2
  try clear c5
  try clear c5b0
  try clear c5b1
  try clear c6
  try clear hcz6_0
  try clear hcz6_1
  try clear hcz7_0
  try clear hcz7_1
  try clear hfz6_0
  try clear hfz6_1
  try clear hfz7_0
  try clear hfz7_1
  obtain ⟨kq, x15_2, rfl, HA, HJ2, BK101, HB⟩ := hcut
  cases kq with
  | zero => exact absurd HA.out (by simp [seneschallaw05_great.j0])
  | succ kj2 =>
   have H := HA.out
   clear HA
   simp only [seneschallaw05_great.j0] at H
   by_cases c8 : x15_2 = true
   ·subst c8
    have H1 : (some true) = some r := by rw [if_pos rfl] at H; exact H
    clear H
    have H := H1
    clear H1
    obtain rfl := Option.some.inj H
    go_wp2
    go_ret
    exact ⟨by first | rfl | (simp [errW_none, errW_some] <;> rfl) | (simp [*, errW_none, errW_some] <;> rfl), by repeat (first | (with_reducible first | exact HB.out | apply below_alloc | apply pw_below_drewN | apply below_drew1 | refine below_set ?_ GE101.out) | exact HB.out)⟩
   ·replace c8 := Bool.eq_false_iff.mpr c8
    subst c8
    have H1 : (seneschallaw05_great.l0 kj2 l1 0 a0_0 l0_1) = some r := by rw [if_neg (show ¬ (false = true) by decide)] at H; exact H
    clear H
    have H := H1
    clear H1
    have H' := Aside0.mk H
    clear H
    go_wp2
    go_loopg [5] kj2 (fun kq v5 w' => ∃ (x5_2 : Int), v5 = .int .i64 x5_2 ∧ Aside0 (seneschallaw05_great.l0 kq l1 x5_2 a0_0 l0_1 = some r) ∧ Aside0 (kq ≤ kj2) ∧ Aside0 (w'.heap[gb101]? = some (.cells #[.int .i64 a0_0, (.slice A0_1 l0_1.length c0_1)] 24 (0, 0))) ∧ Aside0 (Below w.heap.size w w'))
    case atStart => exact ⟨(0), (by first | rfl | (simp; done) | (simp [*]; done)), H', ⟨Nat.le_refl _⟩, ⟨by (with_reducible repeat (first | refine blk_drewN ?_ _ | refine blk_drew ?_ | refine blk_alloc ?_ _)); exact BK101.out⟩, ⟨by repeat (first | (with_reducible first | exact HB.out | apply below_alloc | apply pw_below_drewN | apply below_drew1 | refine below_set ?_ GE101.out) | exact HB.out)⟩⟩
    case round =>
     clear H'
     try clear c1
     try clear p2
     try clear c5
     try clear c5b0
     try clear c5b1
     try clear c6
     try clear c8
     try clear hcz6_0
     try clear hcz6_1
     try clear hcz7_0
     try clear hcz7_1
     try clear hfz6_0
     try clear hfz6_1
     try clear hfz7_0
     try clear hfz7_1
     try clear p2
     obtain ⟨x5_2, rfl, HA, HK2, BK101, HB⟩ := hrel
     cases gk with
     | zero => exact absurd HA.out (by simp [seneschallaw05_great.l0])
     | succ k2 =>
      have H := HA.out
      clear HA
      simp only [seneschallaw05_great.l0] at H
      by_cases c9 : x5_2 < (l0_1.length : Int)
      ·rw [if_pos c9] at H
       have c9b0 : decide (x5_2 < (l0_1.length : Int)) = true := decide_eq_true c9
       clear c9
       by_cases c10 : 0 ≤ x5_2
       ·rw [if_pos c10] at H
        have c10b0 : decide (0 ≤ x5_2) = true := decide_eq_true c10
        clear c10
        by_cases c11 : (((rd_T33 l0_1 x5_2).f1).size : Int) > 4096
        ·rw [if_pos c11] at H
         have c11b0 : decide (4096 < (((rd_T33 l0_1 x5_2).f1).size : Int)) = true := decide_eq_true c11
         have c11b1 : decide (4096 < ((rd_T33 l0_1 x5_2).f1).size) = true := decide_eq_true (by omega)
         clear c11
         obtain rfl := Option.some.inj H
         obtain ⟨hcz12_0, hcz12_1⟩ := cl2 (W := wr) BK101.out
         obtain ⟨hfz12_0, hfz12_1⟩ := fr2 BK101.out
         have p102 : 0 ≤ (x5_2 : Int) := of_decide_eq_true (by first | (with_reducible assumption) | assumption)
         have q102 : x5_2 < (l0_1.length : Int) := of_decide_eq_true (by first | (with_reducible assumption) | assumption)
         obtain ⟨ad102, e102, hx102_0, hx102_1⟩ := at_T33 HR0_1.out x5_2 p102 q102
         cases e102
         replace hx102_0 := pw_cell_below HB.out hx102_0
         replace hx102_1 := pw_cell_below HB.out hx102_1
         replace p102 := eq_true p102
         replace q102 := eq_true q102
         go_wp2
         go_ret
         exact ⟨by first | rfl | (simp [errW_none, errW_some] <;> rfl) | (simp [*, errW_none, errW_some] <;> rfl), by repeat (first | (with_reducible first | exact HB.out | apply below_alloc | apply pw_below_drewN | apply below_drew1 | refine below_set ?_ GE101.out) | exact HB.out)⟩
        ·rw [if_neg c11] at H
         have c11b0 : decide (4096 < (((rd_T33 l0_1 x5_2).f1).size : Int)) = false := decide_eq_false c11
         have c11b1 : decide (4096 < ((rd_T33 l0_1 x5_2).f1).size) = false := decide_eq_false (by omega)
         clear c11
         have H' := Aside0.mk H
         clear H
         obtain ⟨hcz13_0, hcz13_1⟩ := cl2 (W := wr) BK101.out
         obtain ⟨hfz13_0, hfz13_1⟩ := fr2 BK101.out
         have p102 : 0 ≤ (x5_2 : Int) := of_decide_eq_true (by first | (with_reducible assumption) | assumption)
         have q102 : x5_2 < (l0_1.length : Int) := of_decide_eq_true (by first | (with_reducible assumption) | assumption)
         obtain ⟨ad102, e102, hx102_0, hx102_1⟩ := at_T33 HR0_1.out x5_2 p102 q102
         cases e102
         replace hx102_0 := pw_cell_below HB.out hx102_0
         replace hx102_1 := pw_cell_below HB.out hx102_1
         replace p102 := eq_true p102
         replace q102 := eq_true q102
         go_wp2
         go_roundg k2
         case measure => have := HJ2.out; have := HK2.out; omega
         case rel => exact ⟨(wrap64 (x5_2 + 1)), (by first | rfl | (simp; done) | (simp [*]; done)), H', ⟨by have := HJ2.out; have := HK2.out; omega⟩, ⟨by (with_reducible repeat (first | refine blk_drewN ?_ _ | refine blk_drew ?_ | refine blk_alloc ?_ _)); exact BK101.out⟩, ⟨by repeat (first | (with_reducible first | exact HB.out | apply below_alloc | apply pw_below_drewN | apply below_drew1 | refine below_set ?_ GE101.out) | exact HB.out)⟩⟩
       ·rw [if_neg c10] at H
        exact absurd H (by simp)
      ·rw [if_neg c9] at H
       have c9b0 : decide (x5_2 < (l0_1.length : Int)) = false := decide_eq_false c9
       clear c9
       have H' := Aside0.mk H
       clear H
       obtain ⟨hcz14_0, hcz14_1⟩ := cl2 (W := wr) BK101.out
       obtain ⟨hfz14_0, hfz14_1⟩ := fr2 BK101.out
       go_wp2
       go_loopg [6] k2 (fun kq v6 w' => ∃ (x6_3 : Int), v6 = .int .i64 x6_3 ∧ Aside0 (seneschallaw05_great.l1 kq l1 x6_3 = some r) ∧ Aside0 (kq ≤ k2) ∧ Aside0 (w'.heap[gb101]? = some (.cells #[.int .i64 a0_0, (.slice A0_1 l0_1.length c0_1)] 24 (0, 0))) ∧ Aside0 (Below w.heap.size w w'))
       case atStart => exact ⟨(0), (by first | rfl | (simp; done) | (simp [*]; done)), H', ⟨Nat.le_refl _⟩, ⟨by (with_reducible repeat (first | refine blk_drewN ?_ _ | refine blk_drew ?_ | refine blk_alloc ?_ _)); exact BK101.out⟩, ⟨by repeat (first | (with_reducible first | exact HB.out | apply below_alloc | apply pw_below_drewN | apply below_drew1 | refine below_set ?_ GE101.out) | exact HB.out)⟩⟩
       case round =>
        clear H'
        try clear c1
        try clear p1
        try clear q1
        try clear hx1
        try clear p2
        try clear c5
        try clear c5b0
        try clear c5b1
        try clear c6
        try clear p6
        try clear c8
        try clear c9
        try clear c9b0
        try clear c10
        try clear c10b0
        try clear p10
        try clear q10
        try clear hx10
        try clear c11
        try clear c11b0
        try clear c11b1
        try clear hcz12_0
        try clear hcz12_1
        try clear hcz13_0
        try clear hcz13_1
        try clear hcz14_0
        try clear hcz14_1
        try clear hcz6_0
        try clear hcz6_1
        try clear hcz7_0
        try clear hcz7_1
        try clear hfz12_0
        try clear hfz12_1
        try clear hfz13_0
        try clear hfz13_1
        try clear hfz14_0
        try clear hfz14_1
        try clear hfz6_0
        try clear hfz6_1
        try clear hfz7_0
        try clear hfz7_1
        try clear hx102_0
        try clear hx102_1
        try clear p102
        try clear p2
        try clear q102
        obtain ⟨x6_3, rfl, HA, HK3, BK101, HB⟩ := hrel
        cases gk with
        | zero => exact absurd HA.out (by simp [seneschallaw05_great.l1])
        | succ k3 =>
         have H := HA.out
         clear HA
         simp only [seneschallaw05_great.l1] at H
         by_cases c15 : x6_3 < (l1.length : Int)
         ·rw [if_pos c15] at H
          have c15b0 : decide (x6_3 < (l1.length : Int)) = true := decide_eq_true c15
          clear c15
          by_cases c16 : 0 ≤ x6_3
          ·rw [if_pos c16] at H
           have c16b0 : decide (0 ≤ x6_3) = true := decide_eq_true c16
           clear c16
           by_cases c17 : (((rd_T65 l1 x6_3).f6.f1).size : Int) > 4096
           ·rw [if_pos c17] at H
            have c17b0 : decide (4096 < (((rd_T65 l1 x6_3).f6.f1).size : Int)) = true := decide_eq_true c17
            have c17b1 : decide (4096 < ((rd_T65 l1 x6_3).f6.f1).size) = true := decide_eq_true (by omega)
            clear c17
            obtain rfl := Option.some.inj H
            have p103 : 0 ≤ (x6_3 : Int) := of_decide_eq_true (by first | (with_reducible assumption) | assumption)
            have q103 : x6_3 < (l1.length : Int) := of_decide_eq_true (by first | (with_reducible assumption) | assumption)
            obtain ⟨ad103, e103, hx103_0, hx103_1, hx103_2, hx103_3, hx103_4, hx103_5, hx103_6, hx103_7, hx103_8, hx103_9, hx103_10, hx103_11, hx103_12⟩ := at_T65 HR1.out x6_3 p103 q103
            cases e103
            replace hx103_0 := pw_cell_below HB.out hx103_0
            replace hx103_1 := pw_cell_below HB.out hx103_1
            replace hx103_2 := pw_cell_below HB.out hx103_2
            replace hx103_3 := pw_cell_below HB.out hx103_3
            replace hx103_4 := pw_cell_below HB.out hx103_4
            replace hx103_5 := pw_cell_below HB.out hx103_5
            replace hx103_6 := pw_cell_below HB.out hx103_6
            replace hx103_7 := pw_cell_below HB.out hx103_7
            replace hx103_8 := pw_cell_below HB.out hx103_8
            replace hx103_9 := pw_cell_below HB.out hx103_9
            replace hx103_10 := pw_cell_below HB.out hx103_10
            replace hx103_11 := pw_cell_below HB.out hx103_11
            replace hx103_12 := pw_cell_below HB.out hx103_12
            replace p103 := eq_true p103
            replace q103 := eq_true q103
            go_wp2
            go_ret
            exact ⟨by first | rfl | (simp [errW_none, errW_some] <;> rfl) | (simp [*, errW_none, errW_some] <;> rfl), by repeat (first | (with_reducible first | exact HB.out | apply below_alloc | apply pw_below_drewN | apply below_drew1 | refine below_set ?_ GE101.out) | exact HB.out)⟩
           ·rw [if_neg c17] at H
            have c17b0 : decide (4096 < (((rd_T65 l1 x6_3).f6.f1).size : Int)) = false := decide_eq_false c17
            have c17b1 : decide (4096 < ((rd_T65 l1 x6_3).f6.f1).size) = false := decide_eq_false (by omega)
            clear c17
            by_cases c18 : (((rd_T65 l1 x6_3).f7.f1).size : Int) > 4096
            ·rw [if_pos c18] at H
             have c18b0 : decide (4096 < (((rd_T65 l1 x6_3).f7.f1).size : Int)) = true := decide_eq_true c18
             have c18b1 : decide (4096 < ((rd_T65 l1 x6_3).f7.f1).size) = true := decide_eq_true (by omega)
             clear c18
             obtain rfl := Option.some.inj H
             have p103 : 0 ≤ (x6_3 : Int) := of_decide_eq_true (by first | (with_reducible assumption) | assumption)
             have q103 : x6_3 < (l1.length : Int) := of_decide_eq_true (by first | (with_reducible assumption) | assumption)
             obtain ⟨ad103, e103, hx103_0, hx103_1, hx103_2, hx103_3, hx103_4, hx103_5, hx103_6, hx103_7, hx103_8, hx103_9, hx103_10, hx103_11, hx103_12⟩ := at_T65 HR1.out x6_3 p103 q103
             cases e103
             replace hx103_0 := pw_cell_below HB.out hx103_0
             replace hx103_1 := pw_cell_below HB.out hx103_1
             replace hx103_2 := pw_cell_below HB.out hx103_2
             replace hx103_3 := pw_cell_below HB.out hx103_3
             replace hx103_4 := pw_cell_below HB.out hx103_4
             replace hx103_5 := pw_cell_below HB.out hx103_5
             replace hx103_6 := pw_cell_below HB.out hx103_6
             replace hx103_7 := pw_cell_below HB.out hx103_7
             replace hx103_8 := pw_cell_below HB.out hx103_8
             replace hx103_9 := pw_cell_below HB.out hx103_9
             replace hx103_10 := pw_cell_below HB.out hx103_10
             replace hx103_11 := pw_cell_below HB.out hx103_11
             replace hx103_12 := pw_cell_below HB.out hx103_12
             replace p103 := eq_true p103
             replace q103 := eq_true q103
             have p104 : 0 ≤ (x6_3 : Int) := of_decide_eq_true (by first | (with_reducible assumption) | assumption)
             have q104 : x6_3 < (l1.length : Int) := of_decide_eq_true (by first | (with_reducible assumption) | assumption)
             obtain ⟨ad104, e104, hx104_0, hx104_1, hx104_2, hx104_3, hx104_4, hx104_5, hx104_6, hx104_7, hx104_8, hx104_9, hx104_10, hx104_11, hx104_12⟩ := at_T65 HR1.out x6_3 p104 q104
             obtain rfl : ad103 = ad104 := (by injection e104)
             replace hx104_0 := pw_cell_below HB.out hx104_0
             replace hx104_1 := pw_cell_below HB.out hx104_1
             replace hx104_2 := pw_cell_below HB.out hx104_2
             replace hx104_3 := pw_cell_below HB.out hx104_3
             replace hx104_4 := pw_cell_below HB.out hx104_4
             replace hx104_5 := pw_cell_below HB.out hx104_5
             replace hx104_6 := pw_cell_below HB.out hx104_6
             replace hx104_7 := pw_cell_below HB.out hx104_7
             replace hx104_8 := pw_cell_below HB.out hx104_8
             replace hx104_9 := pw_cell_below HB.out hx104_9
             replace hx104_10 := pw_cell_below HB.out hx104_10
             replace hx104_11 := pw_cell_below HB.out hx104_11
             replace hx104_12 := pw_cell_below HB.out hx104_12
             replace p104 := eq_true p104
             replace q104 := eq_true q104
             go_wp2
             go_ret
             exact ⟨by first | rfl | (simp [errW_none, errW_some] <;> rfl) | (simp [*, errW_none, errW_some] <;> rfl), by repeat (first | (with_reducible first | exact HB.out | apply below_alloc | apply pw_below_drewN | apply below_drew1 | refine below_set ?_ GE101.out) | exact HB.out)⟩
            ·rw [if_neg c18] at H
             have c18b0 : decide (4096 < (((rd_T65 l1 x6_3).f7.f1).size : Int)) = false := decide_eq_false c18
             have c18b1 : decide (4096 < ((rd_T65 l1 x6_3).f7.f1).size) = false := decide_eq_false (by omega)
             clear c18
             have H' := Aside0.mk H
             clear H
             have p103 : 0 ≤ (x6_3 : Int) := of_decide_eq_true (by first | (with_reducible assumption) | assumption)
             have q103 : x6_3 < (l1.length : Int) := of_decide_eq_true (by first | (with_reducible assumption) | assumption)
             obtain ⟨ad103, e103, hx103_0, hx103_1, hx103_2, hx103_3, hx103_4, hx103_5, hx103_6, hx103_7, hx103_8, hx103_9, hx103_10, hx103_11, hx103_12⟩ := at_T65 HR1.out x6_3 p103 q103
             cases e103
             replace hx103_0 := pw_cell_below HB.out hx103_0
             replace hx103_1 := pw_cell_below HB.out hx103_1
             replace hx103_2 := pw_cell_below HB.out hx103_2
             replace hx103_3 := pw_cell_below HB.out hx103_3
             replace hx103_4 := pw_cell_below HB.out hx103_4
             replace hx103_5 := pw_cell_below HB.out hx103_5
             replace hx103_6 := pw_cell_below HB.out hx103_6
             replace hx103_7 := pw_cell_below HB.out hx103_7
             replace hx103_8 := pw_cell_below HB.out hx103_8
             replace hx103_9 := pw_cell_below HB.out hx103_9
             replace hx103_10 := pw_cell_below HB.out hx103_10
             replace hx103_11 := pw_cell_below HB.out hx103_11
             replace hx103_12 := pw_cell_below HB.out hx103_12
             replace p103 := eq_true p103
             replace q103 := eq_true q103
             have p104 : 0 ≤ (x6_3 : Int) := of_decide_eq_true (by first | (with_reducible assumption) | assumption)
             have q104 : x6_3 < (l1.length : Int) := of_decide_eq_true (by first | (with_reducible assumption) | assumption)
             obtain ⟨ad104, e104, hx104_0, hx104_1, hx104_2, hx104_3, hx104_4, hx104_5, hx104_6, hx104_7, hx104_8, hx104_9, hx104_10, hx104_11, hx104_12⟩ := at_T65 HR1.out x6_3 p104 q104
             obtain rfl : ad103 = ad104 := (by injection e104)
             replace hx104_0 := pw_cell_below HB.out hx104_0
             replace hx104_1 := pw_cell_below HB.out hx104_1
             replace hx104_2 := pw_cell_below HB.out hx104_2
             replace hx104_3 := pw_cell_below HB.out hx104_3
             replace hx104_4 := pw_cell_below HB.out hx104_4
             replace hx104_5 := pw_cell_below HB.out hx104_5
             replace hx104_6 := pw_cell_below HB.out hx104_6
             replace hx104_7 := pw_cell_below HB.out hx104_7
             replace hx104_8 := pw_cell_below HB.out hx104_8
             replace hx104_9 := pw_cell_below HB.out hx104_9
             replace hx104_10 := pw_cell_below HB.out hx104_10
             replace hx104_11 := pw_cell_below HB.out hx104_11
             replace hx104_12 := pw_cell_below HB.out hx104_12
             replace p104 := eq_true p104
             replace q104 := eq_true q104
             go_wp2
             go_roundg k3
             case measure => have := HJ2.out; have := HK2.out; have := HK3.out; omega
             case rel => exact ⟨(wrap64 (x6_3 + 1)), (by first | rfl | (simp; done) | (simp [*]; done)), H', ⟨by have := HJ2.out; have := HK2.out; have := HK3.out; omega⟩, ⟨by (with_reducible repeat (first | refine blk_drewN ?_ _ | refine blk_drew ?_ | refine blk_alloc ?_ _)); exact BK101.out⟩, ⟨by repeat (first | (with_reducible first | exact HB.out | apply below_alloc | apply pw_below_drewN | apply below_drew1 | refine below_set ?_ GE101.out) | exact HB.out)⟩⟩
          ·rw [if_neg c16] at H
           exact absurd H (by simp)
         ·rw [if_neg c15] at H
          have c15b0 : decide (x6_3 < (l1.length : Int)) = false := decide_eq_false c15
          clear c15
          obtain rfl := Option.some.inj H
          go_wp2
          go_ret
          exact ⟨by first | rfl | (simp [errW_none, errW_some] <;> rfl) | (simp [*, errW_none, errW_some] <;> rfl), by repeat (first | (with_reducible first | exact HB.out | apply below_alloc | apply pw_below_drewN | apply below_drew1 | refine below_set ?_ GE101.out) | exact HB.out)⟩
end Go.Proofs.Ytfjmnaobfbmllaa.M
namespace Go.Proofs.Ytfjmnaobfbmllaa.M
open Go.RowKit Go.Proofs.YtfjmnaobfbmllaaW.PrintWords Go.Proofs.YtfjmnaobfbmllaaW.PrintLast Go.Proofs.YtfjmnaobfbmllaaW.PrintMore
set_option linter.unusedVariables false
set_option linter.unusedSimpArgs false
def greatF (l : List S33) (m : List S65) : Bool := decide (100 < l.length) || decide (60 < m.length) || l.any (fun x => decide (4096 < x.f1.size)) || m.any greatE
theorem g5_l1 (m : List S65) (hn : m.length ≤ 60) (d : Nat) : ∀ (k i : Nat), i + d = m.length → d < k → seneschallaw05_great.l1 k m i = some ((m.drop i).any greatE) := by
  induction d with
  | zero =>
    intro k i hi hk
    obtain ⟨k, rfl⟩ : ∃ q, k = q + 1 := ⟨k - 1, by omega⟩
    simp only [seneschallaw05_great.l1]
    rw [if_neg (by omega), List.drop_of_length_le (by omega)]; rfl
  | succ d ih =>
    intro k i hi hk
    obtain ⟨k, rfl⟩ : ∃ q, k = q + 1 := ⟨k - 1, by omega⟩
    have hlt : i < m.length := by omega
    have hw : wrap64 ((i : Int) + 1) = ((i + 1 : Nat) : Int) := by rw [w64 _ (by omega) (by omega)]; omega
    have hr : rd_T65 m (i : Int) = m[i] := by simp [rd_T65, hlt]
    simp only [seneschallaw05_great.l1]
    rw [if_pos (by omega), if_pos (by omega), hr, hw, ih k (i + 1) (by omega) (by omega), List.drop_eq_getElem_cons hlt, List.any_cons]
    unfold greatE
    by_cases h1 : 4096 < m[i].f6.f1.size
    · rw [if_pos (by omega), decide_eq_true h1]; rfl
    · rw [if_neg (by omega), decide_eq_false h1]
      by_cases h2 : 4096 < m[i].f7.f1.size
      · rw [if_pos (by omega), decide_eq_true h2]; rfl
      · rw [if_neg (by omega), decide_eq_false h2]; rfl
theorem g5_l0 (a : Int) (l : List S33) (hl : l.length ≤ 100) (m : List S65) (hn : m.length ≤ 60) (d : Nat) : ∀ (k i : Nat), i + d = l.length → d + 61 < k → seneschallaw05_great.l0 k m i a l = some ((l.drop i).any (fun x => decide (4096 < x.f1.size)) || m.any greatE) := by
  induction d with
  | zero =>
    intro k i hi hk
    obtain ⟨k, rfl⟩ : ∃ q, k = q + 1 := ⟨k - 1, by omega⟩
    simp only [seneschallaw05_great.l0]
    have := g5_l1 m hn m.length k 0 (by omega) (by omega)
    rw [List.drop_zero] at this
    rw [if_neg (by omega), List.drop_of_length_le (by omega)]
    exact this
  | succ d ih =>
    intro k i hi hk
    obtain ⟨k, rfl⟩ : ∃ q, k = q + 1 := ⟨k - 1, by omega⟩
    have hlt : i < l.length := by omega
    have hw : wrap64 ((i : Int) + 1) = ((i + 1 : Nat) : Int) := by rw [w64 _ (by omega) (by omega)]; omega
    simp only [seneschallaw05_great.l0]
    rw [if_pos (by omega), if_pos (by omega), rd33 l i hlt, hw, ih k (i + 1) (by omega) (by omega), List.drop_eq_getElem_cons hlt, List.any_cons]
    by_cases h1 : 4096 < l[i].f1.size
    · rw [if_pos (by omega), decide_eq_true h1]; rfl
    · rw [if_neg (by omega), decide_eq_false h1]; rfl
theorem g5_pure (a : Int) (l : List S33) (m : List S65) : seneschallaw05_great.f 200 a l m = some (greatF l m) := by
  unfold seneschallaw05_great.f greatF
  have ht : ∀ k, seneschallaw05_great.j0 (k + 1) m true a l = some true := fun k => by simp only [seneschallaw05_great.j0]; exact if_pos trivial
  by_cases h1 : 100 < l.length
  · rw [if_pos (by omega), ht 199, decide_eq_true h1]; rfl
  · rw [if_neg (by omega), decide_eq_false h1]
    by_cases h2 : 60 < m.length
    · rw [decide_eq_true (show (m.length : Int) > 60 by omega), ht 199, decide_eq_true h2]; rfl
    · rw [decide_eq_false (show ¬ (m.length : Int) > 60 by omega), decide_eq_false h2]
      have := g5_l0 a l (by omega) m (by omega) l.length 199 0 (by omega) (by omega)
      rw [List.drop_zero] at this
      have e : seneschallaw05_great.j0 200 m false a l = seneschallaw05_great.l0 199 m 0 a l := by
        rw [show (200 : Nat) = 199 + 1 from rfl]
        simp only [seneschallaw05_great.j0]
        exact if_neg Bool.false_ne_true
      rw [e]
      exact this
def great5.f (a : Int) (l : List S33) (m : List S65) : Option Bool := some (greatF l m)
theorem great5.calls (a : Int) (A : Option Addr) (c : Nat) (l : List S33) (B : Option Addr) (c2 : Nat) (m : List S65) (r : Bool) (w : World) (hr : Kd.C k33 w A l.length l) (hc : l.length ≤ c) (hr2 : Kd.C k65 w B m.length m) (hc2 : m.length ≤ c2) (h : great5.f a l m = some r) :
    Calls Try.prog 66 #[.agg #[.int .i64 a, .slice A l.length c], .slice B m.length c2] w fun e w' => e = .returned (.bool r) ∧ Below w.heap.size w w' :=
  seneschallaw05_great.calls 200 a A c l B c2 m r w hr hc hr2 hc2 (by rw [← h]; exact g5_pure a l m)
end Go.Proofs.Ytfjmnaobfbmllaa.M
namespace Go.Proofs.Ytfjmnaobfbmllaa.M
open Go.RowKit Go.Proofs.YtfjmnaobfbmllaaW.PrintWords Go.Proofs.YtfjmnaobfbmllaaW.PrintLast Go.Proofs.YtfjmnaobfbmllaaW.PrintMore
attribute [local go_sem] max2_int min2_int max_two min_two max_three min_three max_four min_four   -- for this text's walks alone
set_option linter.unusedVariables false
set_option linter.unusedSimpArgs false
def seneschallaw05_insert.f  : Option (Int × Int × Int × Int × Int × Int × Int × Int × Bool × ByteArray × Bool × ByteArray × Int) := some (1, 1, 1, 1, 5, 0, 0, 0, false, (⟨#[]⟩ : ByteArray), true, (⟨#[97]⟩ : ByteArray), 0)
set_option maxHeartbeats 8000000 in
set_option maxRecDepth 100000 in
theorem seneschallaw05_insert.calls  (r1 : Int) (r2 : Int) (r3 : Int) (r4 : Int) (r5 : Int) (r6 : Int) (r7 : Int) (r8 : Int) (r9 : Bool) (r10 : ByteArray) (r11 : Bool) (r12 : ByteArray) (r13 : Int) (w : World) (h : seneschallaw05_insert.f  = some (r1, r2, r3, r4, r5, r6, r7, r8, r9, r10, r11, r12, r13)) :
  Calls Try.prog 111 #[] w fun e w' => e = .returned (.agg #[.int .i64 r1, .int .i64 r2, .int .i64 r3, .int .i64 r4, .int .i64 r5, .int .i64 r6, .int .i64 r7, .int .i64 r8, .bool r9, .string r10, .bool r11, .string r12, .int .i64 r13]) ∧ Below w.heap.size w w' := by
 have hu65 := Try.underlying65
 have hu52 := Try.underlying52
 have hu33 := Try.underlying33
 have HB := Aside0.mk (Below.refl w.heap.size w)
 have H : (some (1, 1, 1, 1, 5, 0, 0, 0, false, (⟨#[]⟩ : ByteArray), true, (⟨#[97]⟩ : ByteArray), 0)) = some (r1, r2, r3, r4, r5, r6, r7, r8, r9, r10, r11, r12, r13) := h
 clear h
 simp only [Option.some.injEq, Prod.mk.injEq] at H
 obtain ⟨rfl, rfl, rfl, rfl, rfl, rfl, rfl, rfl, rfl, rfl, rfl, rfl, rfl⟩ := H
 go_enter Try.func111, Try.ntmps111
 go_wp2_with (first | ((with_reducible refine gate_dst (N := 0) rfl ?_); refine box_event ?hg (N := 0) ?hd (cs := #[.int .i64 0, .int .i64 0, .int .i64 0, .int .i64 0, .int .i64 0, .int .i64 0, .int .i64 0, .int .i64 0, .bool false, .string (⟨#[]⟩ : ByteArray), .bool false, .string (⟨#[]⟩ : ByteArray), .int .i64 0]) (t := 65) ?hr ?_; (case hd => rfl); (case hg => rfl); (case hr => first | (go_simp; done) | (go_simp; rfl)); intro gb101 hg w1 hbox hb; have n0_ := Aside0.mk (below_step HB.out hb); have n1_ := Aside0.mk (hbox); have n2_ := Aside0.mk ((by rw [hg]; exact below_size HB.out : w.heap.size ≤ gb101)); have n3_ := Aside0.mk ((by rw [hg]; exact below_size HB.out : w.heap.size ≤ gb101)); clear HB; have HB := n0_; have BK101 := n1_; have GW101 := n2_; have GE101 := n3_; clear n0_ n1_ n2_ n3_; clear hb hbox hg; obtain ⟨hcz2_0, hcz2_1, hcz2_2, hcz2_3, hcz2_4, hcz2_5, hcz2_6, hcz2_7, hcz2_8, hcz2_9, hcz2_10, hcz2_11, hcz2_12⟩ := cl13 (W := w1) BK101.out; obtain ⟨hfz2_0, hfz2_1, hfz2_2, hfz2_3, hfz2_4, hfz2_5, hfz2_6, hfz2_7, hfz2_8, hfz2_9, hfz2_10, hfz2_11, hfz2_12⟩ := fr13 BK101.out))
 refine bodyPost_ret (results_cell_row rfl _ _ gb101 65 #[.int .i64 1, .int .i64 1, .int .i64 1, .int .i64 1, .int .i64 5, .int .i64 0, .int .i64 0, .int .i64 0, .bool false, .string (⟨#[]⟩ : ByteArray), .bool true, .string (⟨#[97]⟩ : ByteArray), .int .i64 0] (0, 0) _ rfl (by (with_reducible repeat (first | refine blk_drewN ?_ _ | refine blk_drew ?_ | refine blk_alloc ?_ _)); refine blk_put (cs := #[.int .i64 1, .int .i64 1, .int .i64 1, .int .i64 1, .int .i64 5, .int .i64 0, .int .i64 0, .int .i64 0, .bool false, .string (⟨#[]⟩ : ByteArray), .bool true, .string (⟨#[97]⟩ : ByteArray), .int .i64 0]) ?_ 12 _ rfl; refine blk_put (cs := #[.int .i64 1, .int .i64 1, .int .i64 1, .int .i64 1, .int .i64 5, .int .i64 0, .int .i64 0, .int .i64 0, .bool false, .string (⟨#[]⟩ : ByteArray), .bool true, .string (⟨#[]⟩ : ByteArray), .int .i64 0]) ?_ 11 _ rfl; refine blk_put (cs := #[.int .i64 1, .int .i64 1, .int .i64 1, .int .i64 1, .int .i64 5, .int .i64 0, .int .i64 0, .int .i64 0, .bool false, .string (⟨#[]⟩ : ByteArray), .bool false, .string (⟨#[]⟩ : ByteArray), .int .i64 0]) ?_ 10 _ rfl; refine blk_put (cs := #[.int .i64 1, .int .i64 1, .int .i64 1, .int .i64 1, .int .i64 5, .int .i64 0, .int .i64 0, .int .i64 0, .bool false, .string (⟨#[]⟩ : ByteArray), .bool false, .string (⟨#[]⟩ : ByteArray), .int .i64 0]) ?_ 9 _ rfl; refine blk_put (cs := #[.int .i64 1, .int .i64 1, .int .i64 1, .int .i64 1, .int .i64 5, .int .i64 0, .int .i64 0, .int .i64 0, .bool false, .string (⟨#[]⟩ : ByteArray), .bool false, .string (⟨#[]⟩ : ByteArray), .int .i64 0]) ?_ 8 _ rfl; refine blk_put (cs := #[.int .i64 1, .int .i64 1, .int .i64 1, .int .i64 1, .int .i64 5, .int .i64 0, .int .i64 0, .int .i64 0, .bool false, .string (⟨#[]⟩ : ByteArray), .bool false, .string (⟨#[]⟩ : ByteArray), .int .i64 0]) ?_ 7 _ rfl; refine blk_put (cs := #[.int .i64 1, .int .i64 1, .int .i64 1, .int .i64 1, .int .i64 5, .int .i64 0, .int .i64 0, .int .i64 0, .bool false, .string (⟨#[]⟩ : ByteArray), .bool false, .string (⟨#[]⟩ : ByteArray), .int .i64 0]) ?_ 6 _ rfl; refine blk_put (cs := #[.int .i64 1, .int .i64 1, .int .i64 1, .int .i64 1, .int .i64 5, .int .i64 0, .int .i64 0, .int .i64 0, .bool false, .string (⟨#[]⟩ : ByteArray), .bool false, .string (⟨#[]⟩ : ByteArray), .int .i64 0]) ?_ 5 _ rfl; refine blk_put (cs := #[.int .i64 1, .int .i64 1, .int .i64 1, .int .i64 1, .int .i64 0, .int .i64 0, .int .i64 0, .int .i64 0, .bool false, .string (⟨#[]⟩ : ByteArray), .bool false, .string (⟨#[]⟩ : ByteArray), .int .i64 0]) ?_ 4 _ rfl; refine blk_put (cs := #[.int .i64 1, .int .i64 1, .int .i64 1, .int .i64 0, .int .i64 0, .int .i64 0, .int .i64 0, .int .i64 0, .bool false, .string (⟨#[]⟩ : ByteArray), .bool false, .string (⟨#[]⟩ : ByteArray), .int .i64 0]) ?_ 3 _ rfl; refine blk_put (cs := #[.int .i64 1, .int .i64 1, .int .i64 0, .int .i64 0, .int .i64 0, .int .i64 0, .int .i64 0, .int .i64 0, .bool false, .string (⟨#[]⟩ : ByteArray), .bool false, .string (⟨#[]⟩ : ByteArray), .int .i64 0]) ?_ 2 _ rfl; refine blk_put (cs := #[.int .i64 1, .int .i64 0, .int .i64 0, .int .i64 0, .int .i64 0, .int .i64 0, .int .i64 0, .int .i64 0, .bool false, .string (⟨#[]⟩ : ByteArray), .bool false, .string (⟨#[]⟩ : ByteArray), .int .i64 0]) ?_ 1 _ rfl; refine blk_put (cs := #[.int .i64 0, .int .i64 0, .int .i64 0, .int .i64 0, .int .i64 0, .int .i64 0, .int .i64 0, .int .i64 0, .bool false, .string (⟨#[]⟩ : ByteArray), .bool false, .string (⟨#[]⟩ : ByteArray), .int .i64 0]) ?_ 0 _ rfl; (with_reducible repeat (first | refine blk_drewN ?_ _ | refine blk_drew ?_ | refine blk_alloc ?_ _)); exact BK101.out) Try.underlying65 rfl (by kernel_rfl)) rfl ?_
 exact ⟨by first | rfl | (simp [errW_none, errW_some] <;> rfl) | (simp [*, errW_none, errW_some] <;> rfl), by repeat (first | (with_reducible first | exact HB.out | apply below_alloc | apply pw_below_drewN | apply below_drew1 | refine below_set ?_ GE101.out) | exact HB.out)⟩
end Go.Proofs.Ytfjmnaobfbmllaa.M
namespace Go.Proofs.Ytfjmnaobfbmllaa.M
open Go.RowKit Go.Proofs.YtfjmnaobfbmllaaW.PrintWords Go.Proofs.YtfjmnaobfbmllaaW.PrintLast Go.Proofs.YtfjmnaobfbmllaaW.PrintMore
attribute [local go_sem] max2_int min2_int max_two min_two max_three min_three max_four min_four   -- for this text's walks alone
set_option linter.unusedVariables false
set_option linter.unusedSimpArgs false
def patch_Turn.f (a0_0 : Int) (a0_1 : Int) (a0_2 : Int) (a0_3 : Int) (a0_4 : Int) (a0_5 : Int) (a0_6 : Int) (a0_7 : Int) (a0_8 : Bool) (a0_9 : ByteArray) (a0_10 : Bool) (a0_11 : ByteArray) (a0_12 : Int) (a1 : Int) (a2 : Int) : Option (Int × Int × Int × Int × Int × Int × Int × Int × Bool × ByteArray × Bool × ByteArray × Int × Int) := (entGood.f a0_0 a0_1 a0_2 a0_3 a0_4 a0_5 a0_6 a0_7 a0_8 a0_9 a0_10 a0_11 a0_12).bind fun t104 => (if t104 = true then (if a0_0 = 1 then ((entGood.f 2 a0_1 a0_2 a0_3 a1 a2 a0_6 a0_7 a0_10 a0_11 a0_8 a0_9 a0_5).bind fun t105 => (if t105 = true then (some (2, a0_1, a0_2, a0_3, a1, a2, a0_6, a0_7, a0_10, a0_11, a0_8, a0_9, a0_5, 0)) else (some (0, 0, 0, 0, 0, 0, 0, 0, false, (⟨#[]⟩ : ByteArray), false, (⟨#[]⟩ : ByteArray), 0, 1)))) else (some (0, 0, 0, 0, 0, 0, 0, 0, false, (⟨#[]⟩ : ByteArray), false, (⟨#[]⟩ : ByteArray), 0, 1))) else (some (0, 0, 0, 0, 0, 0, 0, 0, false, (⟨#[]⟩ : ByteArray), false, (⟨#[]⟩ : ByteArray), 0, 1)))
def patch_Turn.T2 : Bool × List (List Nat × List Nat) := (true, [([], []), ([], []), ([], []), ([2], [2]), ([], []), ([4], [4]), ([0, 4, 5], []), ([6, 0, 5, 0, 4, 5], [0, 6]), ([0, 1, 4, 5, 6, 7], []), ([8, 1, 7, 0, 1, 4, 5, 6, 7], [1, 8]), ([0, 1, 2, 3, 4, 5, 6, 7, 8, 9], []), ([10, 3, 9, 0, 1, 2, 3, 4, 5, 6, 7, 8, 9], [3, 10])])
def patch_Turn.B2 : List Nat := [0, 0, 0, 4, 0, 16, 49, 113, 243, 499, 1023, 2047]
theorem patch_Turn.tab2 : rtab .any (opsOf Try.f69 2) = patch_Turn.T2 := by kernel_rfl
theorem patch_Turn.bits2 : waitsOk patch_Turn.T2.2 patch_Turn.B2 = true := by kernel_rfl
def patch_Turn.T3 : Bool × List (List Nat × List Nat) := (true, [([], []), ([0], [0]), ([], []), ([2], [2]), ([0, 1], []), ([4, 1, 0, 1], [1, 4]), ([0, 1, 2, 3, 4, 5], []), ([6, 3, 5, 0, 1, 2, 3, 4, 5], [3, 6])])
def patch_Turn.B3 : List Nat := [0, 1, 0, 4, 3, 19, 63, 127]
theorem patch_Turn.tab3 : rtab .any (opsOf Try.f69 3) = patch_Turn.T3 := by kernel_rfl
theorem patch_Turn.bits3 : waitsOk patch_Turn.T3.2 patch_Turn.B3 = true := by kernel_rfl
end Go.Proofs.Ytfjmnaobfbmllaa.M
