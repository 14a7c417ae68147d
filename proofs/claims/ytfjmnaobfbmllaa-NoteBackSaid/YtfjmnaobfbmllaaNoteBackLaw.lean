/- The law NoteBack: it returns true for every input, and its arguments read as they did. No condition. Part 5 of 5. -/
import Derived.Test.YtfjmnaobfbmllaaProg
import Derived.Test.YtfjmnaobfbmllaaRows
import Derived.Test.YtfjmnaobfbmllaaUApart
import Derived.Test.YtfjmnaobfbmllaaUEqStruct
import Derived.Test.YtfjmnaobfbmllaaUFoot
import Derived.Test.YtfjmnaobfbmllaaUGuard
import Derived.Test.YtfjmnaobfbmllaaUInv
import Derived.Test.YtfjmnaobfbmllaaUKept
import Derived.Test.YtfjmnaobfbmllaaULast
import Derived.Test.YtfjmnaobfbmllaaUMore
import Derived.Test.YtfjmnaobfbmllaaUN
import Derived.Test.YtfjmnaobfbmllaaURepsOne
import Derived.Test.YtfjmnaobfbmllaaUShare
import Derived.Test.YtfjmnaobfbmllaaUTab
import Derived.Test.YtfjmnaobfbmllaaUWords
import Derived.ArgAppend
import Derived.Below
import Derived.BigQuiet
import Derived.Carry
import Derived.ChangeArms
import Derived.ChangeMaps
import Derived.ChangeOld
import Derived.Deep.AppendLies
import Derived.Deep.CutBlock
import Derived.Deep.DeepCutAuto
import Derived.Deep.Draws
import Derived.Deep.LoopGhost
import Derived.Deep.OwnRows
import Derived.Deep.QuietTactic
import Derived.Deep.RegionHeld3
import Derived.Deep.Slices
import Derived.KernelRfl
import Derived.Laws.Bits64
import Derived.Laws.Bits64b
import Derived.Laws.BitsAllLaws
import Derived.Laws.BitsLemmas
import Derived.Laws.BytesArg
import Derived.Laws.CopyOwn
import Derived.Laws.IdiomCopy
import Derived.Laws.MakeOwn
import Derived.Laws.OwnMore
import Derived.Laws.Rows
import Derived.Laws.Slices
import Derived.Lib.AppendStr
import Derived.Lib.ConvBytes
import Derived.Maps.AppendAt
import Derived.OpenShut
import Derived.OrdersHeld
import Derived.OwnWalk
import Derived.ProofKit
import Derived.RowKit
import Derived.RowKit3
import Derived.ShutString
import Derived.SizedLaws
import Derived.Tactics
import Derived.WalkKit
import Derived.WideLaws
import Derived.Test.YtfjmnaobfbmllaaNoteBackA0
import Derived.Test.YtfjmnaobfbmllaaNoteBackA1
import Derived.Test.YtfjmnaobfbmllaaNoteBackA2
import Derived.Test.YtfjmnaobfbmllaaNoteBackA3
namespace Go.Proofs.Ytfjmnaobfbmllaa.M
open Go.RowKit Go.Proofs.YtfjmnaobfbmllaaW.PrintWords Go.Proofs.YtfjmnaobfbmllaaW.PrintLast Go.Proofs.YtfjmnaobfbmllaaW.PrintMore
attribute [local go_sem] max2_int min2_int max_two min_two max_three min_three max_four min_four   -- for this text's walks alone
set_option linter.unusedVariables false
set_option linter.unusedSimpArgs false
set_option maxHeartbeats 8000000 in
set_option maxRecDepth 100000 in
theorem seneschallaw11_great.calls (k : Nat) (a0_0 : Int) (a0_1 : Int) (a0_2 : Bool) (a0_3 : Bool) (a0_4 : Int) (a0_5 : Int) (a0_6 : Int) (a0_7 : Int) (a0_8 : Int) (A0_9 : Option Addr) (c0_9 : Nat) (l0_9 : List (S33)) (A0_10 : Option Addr) (c0_10 : Nat) (l0_10 : List (S65)) (r : Bool) (w : World) (hr0_9 : Kd.C k33 w A0_9 l0_9.length l0_9) (hc0_9 : l0_9.length ≤ c0_9) (hr0_10 : Kd.C k65 w A0_10 l0_10.length l0_10) (hc0_10 : l0_10.length ≤ c0_10) (h : seneschallaw11_great.f k a0_0 a0_1 a0_2 a0_3 a0_4 a0_5 a0_6 a0_7 a0_8 l0_9 l0_10 = some r) :
  Calls Try.prog 61 #[.agg #[.int .i64 a0_0, .int .i64 a0_1, .bool a0_2, .bool a0_3, .int .i64 a0_4, .int .i64 a0_5, .int .i64 a0_6, .int .i64 a0_7, .int .i64 a0_8, .slice A0_9 l0_9.length c0_9, .slice A0_10 l0_10.length c0_10]] w fun e w' => e = .returned (.bool r) ∧ Below w.heap.size w w' := by
 have hu55 := Try.underlying55
 have HR0_9 := aq hr0_9
 have HC0_9 := aq hc0_9
 clear hr0_9 hc0_9
 have HR0_10 := aq hr0_10
 have HC0_10 := aq hc0_10
 clear hr0_10 hc0_10
 have HB := aq (Below.refl w.heap.size w)
 have H : (if (l0_9.length : Int) > 100 then (seneschallaw11_great.j0 k true a0_0 a0_1 a0_2 a0_3 a0_4 a0_5 a0_6 a0_7 a0_8 l0_9 l0_10) else (seneschallaw11_great.j0 k (decide ((l0_10.length : Int) > 40)) a0_0 a0_1 a0_2 a0_3 a0_4 a0_5 a0_6 a0_7 a0_8 l0_9 l0_10)) = some r := h
 clear h
 have HC2 := aq H
 clear H
 go_enter Try.func61, Try.ntmps61
 go_upto_region 1 with (first | ((with_reducible refine gate_dst (N := 1) rfl ?_); (try (refine gate_guard (by rfl) ?_; dsimp only)); refine box_event ?hg (N := 1) ?hd (cs := #[.int .i64 a0_0, .int .i64 a0_1, .bool a0_2, .bool a0_3, .int .i64 a0_4, .int .i64 a0_5, .int .i64 a0_6, .int .i64 a0_7, .int .i64 a0_8, .slice A0_9 l0_9.length c0_9, .slice A0_10 l0_10.length c0_10]) (t := 55) ?hr ?_; (case hd => rfl); (case hg => rfl); (case hr => first | (go_simp; done) | (go_simp; rfl)); intro gb101 hg w3 hbox hb; have n0_ := aq (below_step (stH HB) hb); have n1_ := aq (hbox); have n2_ := aq ((by rw [hg]; exact (below_size (stH HB)) : w.heap.size ≤ gb101)); have n3_ := aq ((by rw [hg]; exact (below_size (stH HB)) : w.heap.size ≤ gb101)); replace HB := n0_; have BK101 := n1_; have GW101 := n2_; have GE101 := n3_; clear n0_ n1_ n2_ n3_; clear hb hbox hg))
 (try simp only [Act.put, List.setIfInBounds_toArray, List.set_cons_zero, List.set_cons_succ])
 go_cut [15] (fun v15 wc => ∃ (kq : Nat) (x15_1 : Bool), v15 = .bool x15_1 ∧ Aside0 (seneschallaw11_great.j0 kq x15_1 a0_0 a0_1 a0_2 a0_3 a0_4 a0_5 a0_6 a0_7 a0_8 l0_9 l0_10 = some r) ∧ Aside0 (kq ≤ k) ∧ Aside0 (wc.heap[gb101]? = some (.cells #[.int .i64 a0_0, .int .i64 a0_1, .bool a0_2, .bool a0_3, .int .i64 a0_4, .int .i64 a0_5, .int .i64 a0_6, .int .i64 a0_7, .int .i64 a0_8, (.slice A0_9 l0_9.length c0_9), (.slice A0_10 l0_10.length c0_10)] 55 (0, 0))) ∧ Aside0 (Below w.heap.size w wc))
 case first =>
  have H := HC2.out
  clear HC2
  by_cases c4 : (l0_9.length : Int) > 100
  ·rw [if_pos c4] at H
   have c4b0 : decide (100 < (l0_9.length : Int)) = true := decide_eq_true c4
   have c4b1 : decide (100 < l0_9.length) = true := decide_eq_true (by omega)
   clear c4
   (first | rw [c4b0] | (simp only [i64_w, i32_w]; rw [c4b0]) | skip)
   have H' := aq H
   clear H
   obtain ⟨k5a, k5b, k5c, k5d, k5e, k5f, k5g, k5h, k5i, k5j, k5k⟩ := cl11 (W := w3) BK101.out
   obtain ⟨u5a, u5b, u5c, u5d, u5e, u5f, u5g, u5h, u5i, u5j, u5k⟩ := fr11 BK101.out
   go_wp2
   go_meet
   case rel => exact ⟨_, (true), eqS, H', ⟨by first | omega | exact Nat.le_refl _⟩, ⟨stB BK101⟩, ⟨stH HB⟩⟩
  ·rw [if_neg c4] at H
   have c4b0 : decide (100 < (l0_9.length : Int)) = false := decide_eq_false c4
   have c4b1 : decide (100 < l0_9.length) = false := decide_eq_false (by omega)
   clear c4
   (first | rw [c4b0] | (simp only [i64_w, i32_w]; rw [c4b0]) | skip)
   have H' := aq H
   clear H
   obtain ⟨k6a, k6b, k6c, k6d, k6e, k6f, k6g, k6h, k6i, k6j, k6k⟩ := cl11 (W := w3) BK101.out
   obtain ⟨u6a, u6b, u6c, u6d, u6e, u6f, u6g, u6h, u6i, u6j, u6k⟩ := fr11 BK101.out
   go_wp2
   go_meet
   case rel => exact ⟨_, (decide ((l0_10.length : Int) > 40)), eqS, H', ⟨by first | omega | exact Nat.le_refl _⟩, ⟨stB BK101⟩, ⟨stH HB⟩⟩
 case rest =>
  clear HC2
  try clear p2
  try clear c4
  try clear c4b0
  try clear c4b1
  try clear c6
  obtain ⟨kq, x15_1, rfl, HA, HJ1, BK101, HB⟩ := hcut
  cases kq with
  | zero => exact absurd HA.out (by simp [seneschallaw11_great.j0])
  | succ kj1 =>
   have H := HA.out
   clear HA
   simp only [seneschallaw11_great.j0] at H
   by_cases c7 : x15_1 = true
   ·subst c7
    rw [if_pos rfl] at H
    obtain rfl := Option.some.inj H
    go_wp2
    go_ret
    exact ⟨eqW, by repeat (first | (with_reducible first | exact HB.out | apply below_alloc | apply pw_below_drewN | apply below_drew1 | refine below_set ?_ GE101.out) | exact HB.out)⟩
   ·replace c7 := Bool.eq_false_iff.mpr c7
    subst c7
    rw [if_neg (show ¬ (false = true) by decide)] at H
    have H' := aq H
    clear H
    go_wp2
    go_loopg [3] kj1 (fun kq v3 w' => ∃ (x3_2 : Int), v3 = .int .i64 x3_2 ∧ Aside0 (seneschallaw11_great.l0 kq x3_2 a0_0 a0_1 a0_2 a0_3 a0_4 a0_5 a0_6 a0_7 a0_8 l0_9 l0_10 = some r) ∧ Aside0 (kq ≤ kj1) ∧ Aside0 (w'.heap[gb101]? = some (.cells #[.int .i64 a0_0, .int .i64 a0_1, .bool a0_2, .bool a0_3, .int .i64 a0_4, .int .i64 a0_5, .int .i64 a0_6, .int .i64 a0_7, .int .i64 a0_8, (.slice A0_9 l0_9.length c0_9), (.slice A0_10 l0_10.length c0_10)] 55 (0, 0))) ∧ Aside0 (Below w.heap.size w w'))
    case atStart => exact ⟨(0), eqS, H', ⟨Nat.le_refl _⟩, ⟨stB BK101⟩, ⟨stH HB⟩⟩
    case round =>
     clear H'
     try clear p2
     try clear c4
     try clear c4b0
     try clear c4b1
     try clear c6
     try clear c7
     obtain ⟨x3_2, rfl, HA, HK2, BK101, HB⟩ := hrel
     cases gk with
     | zero => exact absurd HA.out (by simp [seneschallaw11_great.l0])
     | succ k2 =>
      have H := HA.out
      clear HA
      simp only [seneschallaw11_great.l0] at H
      by_cases c8 : x3_2 < (l0_9.length : Int)
      ·rw [if_pos c8] at H
       have c8b0 : decide (x3_2 < (l0_9.length : Int)) = true := decide_eq_true c8
       clear c8
       by_cases c9 : 0 ≤ x3_2
       ·rw [if_pos c9] at H
        have c9b0 : decide (0 ≤ x3_2) = true := decide_eq_true c9
        clear c9
        by_cases c10 : (((rd_T33 l0_9 x3_2).f1).size : Int) > 4096
        ·rw [if_pos c10] at H
         have c10b0 : decide (4096 < (((rd_T33 l0_9 x3_2).f1).size : Int)) = true := decide_eq_true c10
         have c10b1 : decide (4096 < ((rd_T33 l0_9 x3_2).f1).size) = true := decide_eq_true (by omega)
         clear c10
         obtain rfl := Option.some.inj H
         obtain ⟨k11a, k11b, k11c, k11d, k11e, k11f, k11g, k11h, k11i, k11j, k11k⟩ := cl11 (W := wr) BK101.out
         obtain ⟨u11a, u11b, u11c, u11d, u11e, u11f, u11g, u11h, u11i, u11j, u11k⟩ := fr11 BK101.out
         have p102 : 0 ≤ (x3_2 : Int) := of_decide_eq_true (by first | (with_reducible assumption) | assumption)
         have q102 : x3_2 < (l0_9.length : Int) := of_decide_eq_true (by first | (with_reducible assumption) | assumption)
         obtain ⟨ad102, e102, hx102_0, hx102_1⟩ := at_T33 HR0_9.out x3_2 p102 q102
         cases e102
         replace hx102_0 := (HB.out.cell (World.block_lt_of_cell? w _ hx102_0)).trans hx102_0
         replace hx102_1 := (HB.out.cell (World.block_lt_of_cell? w _ hx102_1)).trans hx102_1
         replace p102 := eq_true p102
         replace q102 := eq_true q102
         go_wp2
         go_ret
         exact ⟨eqW, by repeat (first | (with_reducible first | exact HB.out | apply below_alloc | apply pw_below_drewN | apply below_drew1 | refine below_set ?_ GE101.out) | exact HB.out)⟩
        ·rw [if_neg c10] at H
         have c10b0 : decide (4096 < (((rd_T33 l0_9 x3_2).f1).size : Int)) = false := decide_eq_false c10
         have c10b1 : decide (4096 < ((rd_T33 l0_9 x3_2).f1).size) = false := decide_eq_false (by omega)
         clear c10
         have H' := aq H
         clear H
         obtain ⟨k12a, k12b, k12c, k12d, k12e, k12f, k12g, k12h, k12i, k12j, k12k⟩ := cl11 (W := wr) BK101.out
         obtain ⟨u12a, u12b, u12c, u12d, u12e, u12f, u12g, u12h, u12i, u12j, u12k⟩ := fr11 BK101.out
         have p102 : 0 ≤ (x3_2 : Int) := of_decide_eq_true (by first | (with_reducible assumption) | assumption)
         have q102 : x3_2 < (l0_9.length : Int) := of_decide_eq_true (by first | (with_reducible assumption) | assumption)
         obtain ⟨ad102, e102, hx102_0, hx102_1⟩ := at_T33 HR0_9.out x3_2 p102 q102
         cases e102
         replace hx102_0 := (HB.out.cell (World.block_lt_of_cell? w _ hx102_0)).trans hx102_0
         replace hx102_1 := (HB.out.cell (World.block_lt_of_cell? w _ hx102_1)).trans hx102_1
         replace p102 := eq_true p102
         replace q102 := eq_true q102
         go_wp2
         go_roundg k2
         case measure => have := HJ1.out; have := HK2.out; omega
         case rel => exact ⟨(wrap64 (x3_2 + 1)), eqS, H', ⟨by have := HJ1.out; have := HK2.out; omega⟩, ⟨stB BK101⟩, ⟨stH HB⟩⟩
       ·rw [if_neg c9] at H
        exact absurd H (by simp)
      ·rw [if_neg c8] at H
       have c8b0 : decide (x3_2 < (l0_9.length : Int)) = false := decide_eq_false c8
       clear c8
       have H' := aq H
       clear H
       obtain ⟨k13a, k13b, k13c, k13d, k13e, k13f, k13g, k13h, k13i, k13j, k13k⟩ := cl11 (W := wr) BK101.out
       obtain ⟨u13a, u13b, u13c, u13d, u13e, u13f, u13g, u13h, u13i, u13j, u13k⟩ := fr11 BK101.out
       go_wp2
       go_loopg [4] k2 (fun kq v4 w' => ∃ (x4_3 : Int), v4 = .int .i64 x4_3 ∧ Aside0 (seneschallaw11_great.l1 kq x4_3 a0_0 a0_1 a0_2 a0_3 a0_4 a0_5 a0_6 a0_7 a0_8 l0_9 l0_10 = some r) ∧ Aside0 (kq ≤ k2) ∧ Aside0 (w'.heap[gb101]? = some (.cells #[.int .i64 a0_0, .int .i64 a0_1, .bool a0_2, .bool a0_3, .int .i64 a0_4, .int .i64 a0_5, .int .i64 a0_6, .int .i64 a0_7, .int .i64 a0_8, (.slice A0_9 l0_9.length c0_9), (.slice A0_10 l0_10.length c0_10)] 55 (0, 0))) ∧ Aside0 (Below w.heap.size w w'))
       case atStart => exact ⟨(0), eqS, H', ⟨Nat.le_refl _⟩, ⟨stB BK101⟩, ⟨stH HB⟩⟩
       case round =>
        clear H'
        try clear k13a k13b k13c k13d k13e k13f k13g k13h k13i k13j k13k
        try clear u13a u13b u13c u13d u13e u13f u13g u13h u13i u13j u13k
        try clear c1
        try clear p1
        try clear q1
        try clear hx1
        try clear p2
        try clear c4
        try clear c4b0
        try clear c4b1
        try clear c6
        try clear p6
        try clear c7
        try clear c8
        try clear c8b0
        try clear c9
        try clear c9b0
        try clear c10
        try clear c10b0
        try clear c10b1
        try clear p10
        try clear q10
        try clear hx10
        try clear hx102_0
        try clear hx102_1
        try clear p102
        try clear q102
        obtain ⟨x4_3, rfl, HA, HK3, BK101, HB⟩ := hrel
        cases gk with
        | zero => exact absurd HA.out (by simp [seneschallaw11_great.l1])
        | succ k3 =>
         have H := HA.out
         clear HA
         simp only [seneschallaw11_great.l1] at H
         by_cases c14 : x4_3 < (l0_10.length : Int)
         ·rw [if_pos c14] at H
          have c14b0 : decide (x4_3 < (l0_10.length : Int)) = true := decide_eq_true c14
          clear c14
          by_cases c15 : 0 ≤ x4_3
          ·rw [if_pos c15] at H
           have c15b0 : decide (0 ≤ x4_3) = true := decide_eq_true c15
           clear c15
           by_cases c16 : (((rd_T65 l0_10 x4_3).f6.f1).size : Int) > 4096
           ·rw [if_pos c16] at H
            have c16b0 : decide (4096 < (((rd_T65 l0_10 x4_3).f6.f1).size : Int)) = true := decide_eq_true c16
            have c16b1 : decide (4096 < ((rd_T65 l0_10 x4_3).f6.f1).size) = true := decide_eq_true (by omega)
            clear c16
            obtain rfl := Option.some.inj H
            obtain ⟨k17a, k17b, k17c, k17d, k17e, k17f, k17g, k17h, k17i, k17j, k17k⟩ := cl11 (W := wr) BK101.out
            obtain ⟨u17a, u17b, u17c, u17d, u17e, u17f, u17g, u17h, u17i, u17j, u17k⟩ := fr11 BK101.out
            have p103 : 0 ≤ (x4_3 : Int) := of_decide_eq_true (by first | (with_reducible assumption) | assumption)
            have q103 : x4_3 < (l0_10.length : Int) := of_decide_eq_true (by first | (with_reducible assumption) | assumption)
            obtain ⟨ad103, e103, hx103_0, hx103_1, hx103_2, hx103_3, hx103_4, hx103_5, hx103_6, hx103_7, hx103_8, hx103_9, hx103_10, hx103_11, hx103_12⟩ := at_T65 HR0_10.out x4_3 p103 q103
            cases e103
            replace hx103_0 := (HB.out.cell (World.block_lt_of_cell? w _ hx103_0)).trans hx103_0
            replace hx103_1 := (HB.out.cell (World.block_lt_of_cell? w _ hx103_1)).trans hx103_1
            replace hx103_2 := (HB.out.cell (World.block_lt_of_cell? w _ hx103_2)).trans hx103_2
            replace hx103_3 := (HB.out.cell (World.block_lt_of_cell? w _ hx103_3)).trans hx103_3
            replace hx103_4 := (HB.out.cell (World.block_lt_of_cell? w _ hx103_4)).trans hx103_4
            replace hx103_5 := (HB.out.cell (World.block_lt_of_cell? w _ hx103_5)).trans hx103_5
            replace hx103_6 := (HB.out.cell (World.block_lt_of_cell? w _ hx103_6)).trans hx103_6
            replace hx103_7 := (HB.out.cell (World.block_lt_of_cell? w _ hx103_7)).trans hx103_7
            replace hx103_8 := (HB.out.cell (World.block_lt_of_cell? w _ hx103_8)).trans hx103_8
            replace hx103_9 := (HB.out.cell (World.block_lt_of_cell? w _ hx103_9)).trans hx103_9
            replace hx103_10 := (HB.out.cell (World.block_lt_of_cell? w _ hx103_10)).trans hx103_10
            replace hx103_11 := (HB.out.cell (World.block_lt_of_cell? w _ hx103_11)).trans hx103_11
            replace hx103_12 := (HB.out.cell (World.block_lt_of_cell? w _ hx103_12)).trans hx103_12
            replace p103 := eq_true p103
            replace q103 := eq_true q103
            go_wp2
            go_ret
            exact ⟨eqW, by repeat (first | (with_reducible first | exact HB.out | apply below_alloc | apply pw_below_drewN | apply below_drew1 | refine below_set ?_ GE101.out) | exact HB.out)⟩
           ·rw [if_neg c16] at H
            have c16b0 : decide (4096 < (((rd_T65 l0_10 x4_3).f6.f1).size : Int)) = false := decide_eq_false c16
            have c16b1 : decide (4096 < ((rd_T65 l0_10 x4_3).f6.f1).size) = false := decide_eq_false (by omega)
            clear c16
            by_cases c18 : (((rd_T65 l0_10 x4_3).f7.f1).size : Int) > 4096
            ·rw [if_pos c18] at H
             have c18b0 : decide (4096 < (((rd_T65 l0_10 x4_3).f7.f1).size : Int)) = true := decide_eq_true c18
             have c18b1 : decide (4096 < ((rd_T65 l0_10 x4_3).f7.f1).size) = true := decide_eq_true (by omega)
             clear c18
             obtain rfl := Option.some.inj H
             obtain ⟨k19a, k19b, k19c, k19d, k19e, k19f, k19g, k19h, k19i, k19j, k19k⟩ := cl11 (W := wr) BK101.out
             obtain ⟨u19a, u19b, u19c, u19d, u19e, u19f, u19g, u19h, u19i, u19j, u19k⟩ := fr11 BK101.out
             have p103 : 0 ≤ (x4_3 : Int) := of_decide_eq_true (by first | (with_reducible assumption) | assumption)
             have q103 : x4_3 < (l0_10.length : Int) := of_decide_eq_true (by first | (with_reducible assumption) | assumption)
             obtain ⟨ad103, e103, hx103_0, hx103_1, hx103_2, hx103_3, hx103_4, hx103_5, hx103_6, hx103_7, hx103_8, hx103_9, hx103_10, hx103_11, hx103_12⟩ := at_T65 HR0_10.out x4_3 p103 q103
             cases e103
             replace hx103_0 := (HB.out.cell (World.block_lt_of_cell? w _ hx103_0)).trans hx103_0
             replace hx103_1 := (HB.out.cell (World.block_lt_of_cell? w _ hx103_1)).trans hx103_1
             replace hx103_2 := (HB.out.cell (World.block_lt_of_cell? w _ hx103_2)).trans hx103_2
             replace hx103_3 := (HB.out.cell (World.block_lt_of_cell? w _ hx103_3)).trans hx103_3
             replace hx103_4 := (HB.out.cell (World.block_lt_of_cell? w _ hx103_4)).trans hx103_4
             replace hx103_5 := (HB.out.cell (World.block_lt_of_cell? w _ hx103_5)).trans hx103_5
             replace hx103_6 := (HB.out.cell (World.block_lt_of_cell? w _ hx103_6)).trans hx103_6
             replace hx103_7 := (HB.out.cell (World.block_lt_of_cell? w _ hx103_7)).trans hx103_7
             replace hx103_8 := (HB.out.cell (World.block_lt_of_cell? w _ hx103_8)).trans hx103_8
             replace hx103_9 := (HB.out.cell (World.block_lt_of_cell? w _ hx103_9)).trans hx103_9
             replace hx103_10 := (HB.out.cell (World.block_lt_of_cell? w _ hx103_10)).trans hx103_10
             replace hx103_11 := (HB.out.cell (World.block_lt_of_cell? w _ hx103_11)).trans hx103_11
             replace hx103_12 := (HB.out.cell (World.block_lt_of_cell? w _ hx103_12)).trans hx103_12
             replace p103 := eq_true p103
             replace q103 := eq_true q103
             have p104 : 0 ≤ (x4_3 : Int) := of_decide_eq_true (by first | (with_reducible assumption) | assumption)
             have q104 : x4_3 < (l0_10.length : Int) := of_decide_eq_true (by first | (with_reducible assumption) | assumption)
             obtain ⟨ad104, e104, hx104_0, hx104_1, hx104_2, hx104_3, hx104_4, hx104_5, hx104_6, hx104_7, hx104_8, hx104_9, hx104_10, hx104_11, hx104_12⟩ := at_T65 HR0_10.out x4_3 p104 q104
             obtain rfl : ad103 = ad104 := (by injection e104)
             replace hx104_0 := (HB.out.cell (World.block_lt_of_cell? w _ hx104_0)).trans hx104_0
             replace hx104_1 := (HB.out.cell (World.block_lt_of_cell? w _ hx104_1)).trans hx104_1
             replace hx104_2 := (HB.out.cell (World.block_lt_of_cell? w _ hx104_2)).trans hx104_2
             replace hx104_3 := (HB.out.cell (World.block_lt_of_cell? w _ hx104_3)).trans hx104_3
             replace hx104_4 := (HB.out.cell (World.block_lt_of_cell? w _ hx104_4)).trans hx104_4
             replace hx104_5 := (HB.out.cell (World.block_lt_of_cell? w _ hx104_5)).trans hx104_5
             replace hx104_6 := (HB.out.cell (World.block_lt_of_cell? w _ hx104_6)).trans hx104_6
             replace hx104_7 := (HB.out.cell (World.block_lt_of_cell? w _ hx104_7)).trans hx104_7
             replace hx104_8 := (HB.out.cell (World.block_lt_of_cell? w _ hx104_8)).trans hx104_8
             replace hx104_9 := (HB.out.cell (World.block_lt_of_cell? w _ hx104_9)).trans hx104_9
             replace hx104_10 := (HB.out.cell (World.block_lt_of_cell? w _ hx104_10)).trans hx104_10
             replace hx104_11 := (HB.out.cell (World.block_lt_of_cell? w _ hx104_11)).trans hx104_11
             replace hx104_12 := (HB.out.cell (World.block_lt_of_cell? w _ hx104_12)).trans hx104_12
             replace p104 := eq_true p104
             replace q104 := eq_true q104
             go_wp2
             go_ret
             exact ⟨eqW, by repeat (first | (with_reducible first | exact HB.out | apply below_alloc | apply pw_below_drewN | apply below_drew1 | refine below_set ?_ GE101.out) | exact HB.out)⟩
            ·rw [if_neg c18] at H
             have c18b0 : decide (4096 < (((rd_T65 l0_10 x4_3).f7.f1).size : Int)) = false := decide_eq_false c18
             have c18b1 : decide (4096 < ((rd_T65 l0_10 x4_3).f7.f1).size) = false := decide_eq_false (by omega)
             clear c18
             have H' := aq H
             clear H
             obtain ⟨k20a, k20b, k20c, k20d, k20e, k20f, k20g, k20h, k20i, k20j, k20k⟩ := cl11 (W := wr) BK101.out
             obtain ⟨u20a, u20b, u20c, u20d, u20e, u20f, u20g, u20h, u20i, u20j, u20k⟩ := fr11 BK101.out
             have p103 : 0 ≤ (x4_3 : Int) := of_decide_eq_true (by first | (with_reducible assumption) | assumption)
             have q103 : x4_3 < (l0_10.length : Int) := of_decide_eq_true (by first | (with_reducible assumption) | assumption)
             obtain ⟨ad103, e103, hx103_0, hx103_1, hx103_2, hx103_3, hx103_4, hx103_5, hx103_6, hx103_7, hx103_8, hx103_9, hx103_10, hx103_11, hx103_12⟩ := at_T65 HR0_10.out x4_3 p103 q103
             cases e103
             replace hx103_0 := (HB.out.cell (World.block_lt_of_cell? w _ hx103_0)).trans hx103_0
             replace hx103_1 := (HB.out.cell (World.block_lt_of_cell? w _ hx103_1)).trans hx103_1
             replace hx103_2 := (HB.out.cell (World.block_lt_of_cell? w _ hx103_2)).trans hx103_2
             replace hx103_3 := (HB.out.cell (World.block_lt_of_cell? w _ hx103_3)).trans hx103_3
             replace hx103_4 := (HB.out.cell (World.block_lt_of_cell? w _ hx103_4)).trans hx103_4
             replace hx103_5 := (HB.out.cell (World.block_lt_of_cell? w _ hx103_5)).trans hx103_5
             replace hx103_6 := (HB.out.cell (World.block_lt_of_cell? w _ hx103_6)).trans hx103_6
             replace hx103_7 := (HB.out.cell (World.block_lt_of_cell? w _ hx103_7)).trans hx103_7
             replace hx103_8 := (HB.out.cell (World.block_lt_of_cell? w _ hx103_8)).trans hx103_8
             replace hx103_9 := (HB.out.cell (World.block_lt_of_cell? w _ hx103_9)).trans hx103_9
             replace hx103_10 := (HB.out.cell (World.block_lt_of_cell? w _ hx103_10)).trans hx103_10
             replace hx103_11 := (HB.out.cell (World.block_lt_of_cell? w _ hx103_11)).trans hx103_11
             replace hx103_12 := (HB.out.cell (World.block_lt_of_cell? w _ hx103_12)).trans hx103_12
             replace p103 := eq_true p103
             replace q103 := eq_true q103
             have p104 : 0 ≤ (x4_3 : Int) := of_decide_eq_true (by first | (with_reducible assumption) | assumption)
             have q104 : x4_3 < (l0_10.length : Int) := of_decide_eq_true (by first | (with_reducible assumption) | assumption)
             obtain ⟨ad104, e104, hx104_0, hx104_1, hx104_2, hx104_3, hx104_4, hx104_5, hx104_6, hx104_7, hx104_8, hx104_9, hx104_10, hx104_11, hx104_12⟩ := at_T65 HR0_10.out x4_3 p104 q104
             obtain rfl : ad103 = ad104 := (by injection e104)
             replace hx104_0 := (HB.out.cell (World.block_lt_of_cell? w _ hx104_0)).trans hx104_0
             replace hx104_1 := (HB.out.cell (World.block_lt_of_cell? w _ hx104_1)).trans hx104_1
             replace hx104_2 := (HB.out.cell (World.block_lt_of_cell? w _ hx104_2)).trans hx104_2
             replace hx104_3 := (HB.out.cell (World.block_lt_of_cell? w _ hx104_3)).trans hx104_3
             replace hx104_4 := (HB.out.cell (World.block_lt_of_cell? w _ hx104_4)).trans hx104_4
             replace hx104_5 := (HB.out.cell (World.block_lt_of_cell? w _ hx104_5)).trans hx104_5
             replace hx104_6 := (HB.out.cell (World.block_lt_of_cell? w _ hx104_6)).trans hx104_6
             replace hx104_7 := (HB.out.cell (World.block_lt_of_cell? w _ hx104_7)).trans hx104_7
             replace hx104_8 := (HB.out.cell (World.block_lt_of_cell? w _ hx104_8)).trans hx104_8
             replace hx104_9 := (HB.out.cell (World.block_lt_of_cell? w _ hx104_9)).trans hx104_9
             replace hx104_10 := (HB.out.cell (World.block_lt_of_cell? w _ hx104_10)).trans hx104_10
             replace hx104_11 := (HB.out.cell (World.block_lt_of_cell? w _ hx104_11)).trans hx104_11
             replace hx104_12 := (HB.out.cell (World.block_lt_of_cell? w _ hx104_12)).trans hx104_12
             replace p104 := eq_true p104
             replace q104 := eq_true q104
             go_wp2
             go_roundg k3
             case measure => have := HJ1.out; have := HK2.out; have := HK3.out; omega
             case rel => exact ⟨(wrap64 (x4_3 + 1)), eqS, H', ⟨by have := HJ1.out; have := HK2.out; have := HK3.out; omega⟩, ⟨stB BK101⟩, ⟨stH HB⟩⟩
          ·rw [if_neg c15] at H
           exact absurd H (by simp)
         ·rw [if_neg c14] at H
          have c14b0 : decide (x4_3 < (l0_10.length : Int)) = false := decide_eq_false c14
          clear c14
          obtain rfl := Option.some.inj H
          obtain ⟨k21a, k21b, k21c, k21d, k21e, k21f, k21g, k21h, k21i, k21j, k21k⟩ := cl11 (W := wr) BK101.out
          obtain ⟨u21a, u21b, u21c, u21d, u21e, u21f, u21g, u21h, u21i, u21j, u21k⟩ := fr11 BK101.out
          go_wp2
          go_ret
          exact ⟨eqW, by repeat (first | (with_reducible first | exact HB.out | apply below_alloc | apply pw_below_drewN | apply below_drew1 | refine below_set ?_ GE101.out) | exact HB.out)⟩
end Go.Proofs.Ytfjmnaobfbmllaa.M
namespace Go.Proofs.Ytfjmnaobfbmllaa.M
open Go.RowKit Go.Proofs.YtfjmnaobfbmllaaW.PrintWords Go.Proofs.YtfjmnaobfbmllaaW.PrintLast Go.Proofs.YtfjmnaobfbmllaaW.PrintMore
set_option linter.unusedVariables false
set_option linter.unusedSimpArgs false
def greatM (l : List S33) (m : List S65) : Bool := (decide (100 < l.length) || decide (40 < m.length)) || ((l.any fun x => decide (4096 < x.f1.size)) || m.any greatE)
theorem rd65t (l : List S65) (i : Nat) (h : i < l.length) : rd_T65 l (i : Int) = l[i] := by simp [rd_T65, h]
section
variable (a b : Int) (c d : Bool) (e f g h q : Int) (l : List S33) (m : List S65)
theorem great_l1 (hm : m.length ≤ 40) (n : Nat) : ∀ (k i : Nat), i + n = m.length → n < k →
    seneschallaw11_great.l1 k i a b c d e f g h q l m = some ((m.drop i).any greatE) := by
  induction n with
  | zero =>
    intro k i hi hk
    obtain ⟨k, rfl⟩ : ∃ m, k = m + 1 := ⟨k - 1, by omega⟩
    simp only [seneschallaw11_great.l1]
    rw [if_neg (by omega), List.drop_of_length_le (by omega)]; rfl
  | succ n ih =>
    intro k i hi hk
    obtain ⟨k, rfl⟩ : ∃ m, k = m + 1 := ⟨k - 1, by omega⟩
    have hlt : i < m.length := by omega
    simp only [seneschallaw11_great.l1]
    rw [if_pos (by omega), if_pos (by omega), rd65t m i hlt, List.drop_eq_getElem_cons hlt, List.any_cons, w64 ((i : Int) + 1) (by omega) (by omega)]
    have := ih k (i + 1) (by omega) (by omega)
    rw [show ((i + 1 : Nat) : Int) = (i : Int) + 1 by omega] at this
    by_cases h1 : ((m[i].f6.f1).size : Int) > 4096
    · rw [if_pos h1]; unfold greatE; rw [decide_eq_true (by omega)]; rfl
    · rw [if_neg h1]
      by_cases h2 : ((m[i].f7.f1).size : Int) > 4096
      · rw [if_pos h2, show greatE m[i] = true by unfold greatE; rw [decide_eq_true (p := 4096 < m[i].f7.f1.size) (by omega), Bool.or_true]]; rfl
      · rw [if_neg h2, this, show greatE m[i] = false by unfold greatE; rw [decide_eq_false (by omega), decide_eq_false (by omega)]; rfl]; rfl
theorem great_l0 (hl : l.length ≤ 100) (hm : m.length ≤ 40) (n : Nat) : ∀ (k i : Nat), i + n = l.length → n + 42 < k →
    seneschallaw11_great.l0 k i a b c d e f g h q l m = some ((l.drop i).any (fun x => decide (4096 < x.f1.size)) || m.any greatE) := by
  induction n with
  | zero =>
    intro k i hi hk
    obtain ⟨k, rfl⟩ : ∃ m, k = m + 1 := ⟨k - 1, by omega⟩
    simp only [seneschallaw11_great.l0]
    have := great_l1 a b c d e f g h q l m hm m.length k 0 (by omega) (by omega)
    rw [List.drop_zero] at this
    rw [if_neg (by omega), List.drop_of_length_le (by omega)]
    exact this
  | succ n ih =>
    intro k i hi hk
    obtain ⟨k, rfl⟩ : ∃ m, k = m + 1 := ⟨k - 1, by omega⟩
    have hlt : i < l.length := by omega
    simp only [seneschallaw11_great.l0]
    rw [if_pos (by omega), if_pos (by omega), rd33 l i hlt, List.drop_eq_getElem_cons hlt, List.any_cons, w64 ((i : Int) + 1) (by omega) (by omega)]
    have := ih k (i + 1) (by omega) (by omega)
    rw [show ((i + 1 : Nat) : Int) = (i : Int) + 1 by omega] at this
    by_cases h1 : ((l[i].f1).size : Int) > 4096
    · rw [if_pos h1, decide_eq_true (by omega)]; rfl
    · rw [if_neg h1, decide_eq_false (by omega), this]; rfl
theorem great_pureM : seneschallaw11_great.f 150 a b c d e f g h q l m = some (greatM l m) := by
  unfold seneschallaw11_great.f greatM
  by_cases h1 : (l.length : Int) > 100
  · rw [if_pos h1, decide_eq_true (p := 100 < l.length) (by omega)]; simp only [seneschallaw11_great.j0]; rw [if_pos trivial]; rfl
  · rw [if_neg h1, decide_eq_false (p := 100 < l.length) (by omega)]
    simp only [seneschallaw11_great.j0]
    by_cases h2 : (m.length : Int) > 40
    · rw [decide_eq_true h2, if_pos rfl, decide_eq_true (p := 40 < m.length) (by omega)]; rfl
    · rw [decide_eq_false h2, if_neg Bool.false_ne_true, decide_eq_false (p := 40 < m.length) (by omega)]
      have := great_l0 a b c d e f g h q l m (by omega) (by omega) l.length 149 0 (by omega) (by omega)
      rw [List.drop_zero] at this
      exact this
end
def great11.f (a0_0 : Int) (a0_1 : Int) (a0_2 : Bool) (a0_3 : Bool) (a0_4 : Int) (a0_5 : Int) (a0_6 : Int) (a0_7 : Int) (a0_8 : Int) (l : List S33) (m : List S65) : Option Bool := some (greatM l m)
theorem great11.calls (a0_0 : Int) (a0_1 : Int) (a0_2 : Bool) (a0_3 : Bool) (a0_4 : Int) (a0_5 : Int) (a0_6 : Int) (a0_7 : Int) (a0_8 : Int) (A0_9 : Option Addr) (c0_9 : Nat) (l0_9 : List (S33)) (A0_10 : Option Addr) (c0_10 : Nat) (l0_10 : List (S65)) (r : Bool) (w : World) (hr0_9 : Kd.C k33 w A0_9 l0_9.length l0_9) (hc0_9 : l0_9.length ≤ c0_9) (hr0_10 : Kd.C k65 w A0_10 l0_10.length l0_10) (hc0_10 : l0_10.length ≤ c0_10) (h : great11.f a0_0 a0_1 a0_2 a0_3 a0_4 a0_5 a0_6 a0_7 a0_8 l0_9 l0_10 = some r) :
    Calls Try.prog 61 #[.agg #[.int .i64 a0_0, .int .i64 a0_1, .bool a0_2, .bool a0_3, .int .i64 a0_4, .int .i64 a0_5, .int .i64 a0_6, .int .i64 a0_7, .int .i64 a0_8, .slice A0_9 l0_9.length c0_9, .slice A0_10 l0_10.length c0_10]] w fun e w' => e = .returned (.bool r) ∧ Below w.heap.size w w' :=
  seneschallaw11_great.calls 150 a0_0 a0_1 a0_2 a0_3 a0_4 a0_5 a0_6 a0_7 a0_8 A0_9 c0_9 l0_9 A0_10 c0_10 l0_10 r w hr0_9 hc0_9 hr0_10 hc0_10 (by rw [great_pureM]; exact h)
end Go.Proofs.Ytfjmnaobfbmllaa.M
namespace Go.Proofs.Ytfjmnaobfbmllaa.M
open Go.RowKit Go.Proofs.YtfjmnaobfbmllaaW.PrintWords Go.Proofs.YtfjmnaobfbmllaaW.PrintLast Go.Proofs.YtfjmnaobfbmllaaW.PrintMore
def vm1 : ByteArray := ⟨#[56, 86, 209, 16, 20, 2, 2]⟩
def vm2 : S55 := ⟨10, 1, true, false, 0, ⟨0, 0, 0⟩, ⟨0, []⟩, []⟩
theorem vm2_good : GoodM vm2 := by decide +kernel
theorem vm2_enc : encM vm2 = (vm1, 0) := by decide +kernel
theorem v45_1 : noteEnc.f 10 1 true false 0 0 0 0 0 ([] : List S33) ([] : List S65) = some (vm1, 0) := congrArg some vm2_enc
theorem v45_2 : noteDec.f vm1 = some (10, 1, true, false, 0, 0, 0, 0, 0, ([] : List S33), ([] : List S65), 0) := by
  have h := decM_enc vm2_good
  rw [vm2_enc] at h
  unfold noteDec.f
  rw [if_pos (by decide +kernel), h]
  rfl
theorem v45_3 : noteDec.f (⟨#[120]⟩ : ByteArray) = some (0, 0, false, false, 0, 0, 0, 0, 0, ([] : List S33), ([] : List S65), 3) := by
  unfold noteDec.f decM
  rw [if_pos (by decide +kernel), if_pos (by decide +kernel)]
  rfl
theorem v45_12 : noteGood.f 10 1 true false 0 0 0 0 0 ([] : List S33) ([] : List S65) = some true := congrArg some (decide_eq_true vm2_good)
end Go.Proofs.Ytfjmnaobfbmllaa.M
namespace Go.Proofs.Ytfjmnaobfbmllaa.M
open Go.RowKit Go.Proofs.YtfjmnaobfbmllaaW.PrintWords Go.Proofs.YtfjmnaobfbmllaaW.PrintLast Go.Proofs.YtfjmnaobfbmllaaW.PrintMore
attribute [local go_sem] max2_int min2_int max_two min_two max_three min_three max_four min_four   -- for this text's walks alone
set_option linter.unusedVariables false
set_option linter.unusedSimpArgs false
def seneschallaw11_awake.f  : Option (Bool) := (noteEnc.f 10 1 true false 0 0 0 0 0 ([] : List (S33)) ([] : List (S65))).bind fun bt101 => ((noteDec.f bt101.1).bind fun bt103 => ((noteDec.f (⟨#[120]⟩ : ByteArray)).bind fun bt120 => (if bt101.2 = 0 then (if (bt101.1.size : Int) = 7 then (if 4 ≤ (bt101.1.size : Int) then (if (bt101.1.extract 4 bt101.1.size).toList = ([20, 2, 2] : List UInt8) then (if bt103.2.2.2.2.2.2.2.2.2.2.2 = 0 then (if bt103.2.1 = 1 then (if bt103.2.2.1 = true then (if bt120.2.2.2.2.2.2.2.2.2.2.2 = 3 then ((noteGood.f bt103.1 bt103.2.1 bt103.2.2.1 bt103.2.2.2.1 bt103.2.2.2.2.1 bt103.2.2.2.2.2.1 bt103.2.2.2.2.2.2.1 bt103.2.2.2.2.2.2.2.1 bt103.2.2.2.2.2.2.2.2.1 bt103.2.2.2.2.2.2.2.2.2.1 bt103.2.2.2.2.2.2.2.2.2.2.1).bind fun t137 => (if t137 = true then ((noteGood.f 0 0 false false 0 0 0 0 0 ([] : List (S33)) ([] : List (S65))).bind fun t138 => (some (!t138))) else (some false))) else (some false)) else (some false)) else (some false)) else (some false)) else (some false)) else (none)) else (some false)) else (some false))))
set_option maxHeartbeats 8000000 in
set_option maxRecDepth 100000 in
theorem seneschallaw11_awake.calls  (r : Bool) (w : World) (h : seneschallaw11_awake.f  = some r) :
  Calls Try.prog 45 #[] w fun e w' => e = .returned (.bool r) ∧ Below w.heap.size w w' := by
 have hu55 := Try.underlying55
 have HB := aq (Below.refl w.heap.size w)
 have H : ((noteEnc.f 10 1 true false 0 0 0 0 0 ([] : List (S33)) ([] : List (S65))).bind fun bt101 => ((noteDec.f bt101.1).bind fun bt103 => ((noteDec.f (⟨#[120]⟩ : ByteArray)).bind fun bt120 => (if bt101.2 = 0 then (if (bt101.1.size : Int) = 7 then (if 4 ≤ (bt101.1.size : Int) then (if (bt101.1.extract 4 bt101.1.size).toList = ([20, 2, 2] : List UInt8) then (if bt103.2.2.2.2.2.2.2.2.2.2.2 = 0 then (if bt103.2.1 = 1 then (if bt103.2.2.1 = true then (if bt120.2.2.2.2.2.2.2.2.2.2.2 = 3 then ((noteGood.f bt103.1 bt103.2.1 bt103.2.2.1 bt103.2.2.2.1 bt103.2.2.2.2.1 bt103.2.2.2.2.2.1 bt103.2.2.2.2.2.2.1 bt103.2.2.2.2.2.2.2.1 bt103.2.2.2.2.2.2.2.2.1 bt103.2.2.2.2.2.2.2.2.2.1 bt103.2.2.2.2.2.2.2.2.2.2.1).bind fun t137 => (if t137 = true then ((noteGood.f 0 0 false false 0 0 0 0 0 ([] : List (S33)) ([] : List (S65))).bind fun t138 => (some (!t138))) else (some false))) else (some false)) else (some false)) else (some false)) else (some false)) else (some false)) else (none)) else (some false)) else (some false))))) = some r := h
 clear h
 replace H := Option.bind_eq_some_iff.mp H
 obtain ⟨⟨t101, t102⟩, A10, H⟩ := H
 try dsimp only at H
 have A1 := aq A10
 clear A10
 replace H := Option.bind_eq_some_iff.mp H
 obtain ⟨⟨t103, t104, t105, t106, t107, t108, t109, t110, t111, t112, t115, t118⟩, A20, H⟩ := H
 try dsimp only at H
 have A2 := aq A20
 clear A20
 replace H := Option.bind_eq_some_iff.mp H
 obtain ⟨⟨t120, t121, t122, t123, t124, t125, t126, t127, t128, t129, t132, t135⟩, A30, H⟩ := H
 try dsimp only at H
 have A3 := aq A30
 clear A30
 by_cases c4 : t102 = 0
 ·rw [if_pos c4] at H
  have c4b0 : (t102 == 0) = true := beq_iff_eq.mpr c4
  have c4b1 : (t102 != 0) = false := bne_eq_false_iff_eq.mpr c4
  clear c4
  by_cases c5 : (t101.size : Int) = 7
  ·rw [if_pos c5] at H
   have c5b0 : ((t101.size : Int) == 7) = true := beq_iff_eq.mpr c5
   have c5b1 : ((t101.size : Int) != 7) = false := bne_eq_false_iff_eq.mpr c5
   clear c5
   by_cases c6 : 4 ≤ (t101.size : Int)
   ·rw [if_pos c6] at H
    have c6b0 := eq_true c6
    have c6b1 : decide (4 ≤ (t101.size : Int)) = true := decide_eq_true c6
    clear c6
    by_cases c7 : (t101.extract 4 t101.size).toList = ([20, 2, 2] : List UInt8)
    ·rw [if_pos c7] at H
     have c7b0 : ((t101.extract 4 t101.size).toList == ([20, 2, 2] : List UInt8)) = true := beq_iff_eq.mpr c7
     have c7b1 : ((t101.extract 4 t101.size).toList != ([20, 2, 2] : List UInt8)) = false := bne_eq_false_iff_eq.mpr c7
     clear c7
     by_cases c8 : t118 = 0
     ·rw [if_pos c8] at H
      have c8b0 : (t118 == 0) = true := beq_iff_eq.mpr c8
      have c8b1 : (t118 != 0) = false := bne_eq_false_iff_eq.mpr c8
      clear c8
      by_cases c9 : t104 = 1
      ·rw [if_pos c9] at H
       have c9b0 : (t104 == 1) = true := beq_iff_eq.mpr c9
       have c9b1 : (t104 != 1) = false := bne_eq_false_iff_eq.mpr c9
       clear c9
       by_cases c10 : t105 = true
       ·subst c10
        rw [if_pos rfl] at H
        by_cases c11 : t135 = 3
        ·rw [if_pos c11] at H
         have c11b0 : (t135 == 3) = true := beq_iff_eq.mpr c11
         have c11b1 : (t135 != 3) = false := bne_eq_false_iff_eq.mpr c11
         clear c11
         replace H := Option.bind_eq_some_iff.mp H
         obtain ⟨t137, A120, H⟩ := H
         try dsimp only at H
         have A12 := aq A120
         clear A120
         by_cases c13 : t137 = true
         ·subst c13
          rw [if_pos rfl] at H
          replace H := Option.bind_eq_some_iff.mp H
          obtain ⟨t138, A140, H⟩ := H
          try dsimp only at H
          have A14 := aq A140
          clear A140
          obtain rfl := Option.some.inj H
          go_enter Try.func45, Try.ntmps45
          go_wp2_with (first | ((with_reducible refine gate_callee (f := 62) rfl ?_); refine goesL_ (some 9) rfl rfl Try.func62 (by kernel_rfl) rfl #[.agg #[.int .i64 10, .int .i64 1, .bool true, .bool false, .int .i64 0, .int .i64 0, .int .i64 0, .int .i64 0, .int .i64 0, .slice none 0 0, .slice none 0 0]] rfl fitR ?_; (refine (noteEnc.calls 10 1 true false 0 0 0 0 0 _ _ ([] : List (S33)) _ _ ([] : List (S65)) t101 t102 _ ?side1 ?side2 ?side3 ?side4 A1.out).mono ?_); (case side1 => exact Kd.C_nil _ _); (case side2 => exact Nat.le_refl _); (case side3 => exact Kd.C_nil _ _); (case side4 => exact Nat.le_refl _); rintro e w15 ⟨rfl, hb⟩; refine ⟨_, rfl, ?_⟩; have n0_ := aq (below_step (stH HB) hb); replace HB := n0_; clear n0_; (try clear hb)) | ((with_reducible refine gate_callee (f := 47) rfl ?_); refine goesL_ (some 14) rfl rfl Try.func47 (by kernel_rfl) rfl #[.string t101] rfl fitR ?_; (with_reducible refine (noteDec.calls t101 t103 t104 true t106 t107 t108 t109 t110 t111 t112 t115 t118 _ A2.out).mono ?_); rintro e w16 ⟨v113, v116, rfl, ho0, ho1, hb⟩; refine ⟨_, rfl, ?_⟩; have n0_ := aq (Kd.R_lower ho0 (below_size (stH HB))); have n1_ := aq (Kd.R_lower ho1 (below_size (stH HB))); have n2_ := aq (below_step (stH HB) hb); have HO114 := n0_; have HO117 := n1_; replace HB := n2_; clear n0_ n1_ n2_; (try clear hb); (try clear ho0); (try clear ho1)) | ((with_reducible refine gate_dst (N := 3) rfl ?_); (try (refine gate_guard (by rfl) ?_; dsimp only)); refine box_event ?hg (N := 3) ?hd (cs := #[.int .i64 0, .int .i64 0, .bool false, .bool false, .int .i64 0, .int .i64 0, .int .i64 0, .int .i64 0, .int .i64 0, .slice none 0 0, .slice none 0 0]) (t := 55) ?hr ?_; (case hd => rfl); (case hg => rfl); (case hr => first | (go_simp; done) | (go_simp; rfl)); intro gb119 hg w17 hbox hb; have n0_ := aq (Kd.R_below (by (with_reducible repeat (first | apply Kd.R_alloc | apply Kd.R_drewN | apply Kd.R_drew)); exact HO114.out) hb); have n1_ := aq (Kd.R_below (by (with_reducible repeat (first | apply Kd.R_alloc | apply Kd.R_drewN | apply Kd.R_drew)); exact HO117.out) hb); have n2_ := aq (below_step (stH HB) hb); have n3_ := aq (hbox); have n4_ := aq ((by rw [hg]; exact (below_size (stH HB)) : w.heap.size ≤ gb119)); have n5_ := aq ((by rw [hg]; exact (below_size (stH HB)) : w.heap.size ≤ gb119)); replace HO114 := n0_; replace HO117 := n1_; replace HB := n2_; have BK119 := n3_; have GW119 := n4_; have GE119 := n5_; clear n0_ n1_ n2_ n3_ n4_ n5_; clear hb hbox hg; obtain ⟨k18a, k18b, k18c, k18d, k18e, k18f, k18g, k18h, k18i, k18j, k18k⟩ := cl11 (W := w17) BK119.out; obtain ⟨u18a, u18b, u18c, u18d, u18e, u18f, u18g, u18h, u18i, u18j, u18k⟩ := fr11 BK119.out; obtain ⟨Ao19, co19, eo19⟩ := Kd.R_slice HO114.out; subst eo19; obtain ⟨Ao20, co20, eo20⟩ := Kd.R_slice HO117.out; subst eo20) | ((with_reducible refine gate_callee (f := 47) rfl ?_); refine goesL_ (some 18) rfl rfl Try.func47 (by kernel_rfl) rfl #[.string (⟨#[120]⟩ : ByteArray)] rfl fitR ?_; (with_reducible refine (noteDec.calls (⟨#[120]⟩ : ByteArray) t120 t121 t122 t123 t124 t125 t126 t127 t128 t129 t132 t135 _ A3.out).mono ?_); rintro e w21 ⟨v130, v133, rfl, ho0, ho1, hb⟩; refine ⟨_, rfl, ?_⟩; have n0_ := aq (Kd.R_elder' (by (with_reducible repeat (first | apply Kd.R_alloc | apply Kd.R_drewN | apply Kd.R_drew)); exact (Kd.R_mono (Kd.R_far (p := ⟨gb119, 10, none⟩) (Kd.R_far (p := ⟨gb119, 9, none⟩) (Kd.R_far (p := ⟨gb119, 8, none⟩) (Kd.R_far (p := ⟨gb119, 7, none⟩) (Kd.R_far (p := ⟨gb119, 6, none⟩) (Kd.R_far (p := ⟨gb119, 5, none⟩) (Kd.R_far (p := ⟨gb119, 4, none⟩) (Kd.R_far (p := ⟨gb119, 3, none⟩) (Kd.R_far (p := ⟨gb119, 2, none⟩) (Kd.R_far (p := ⟨gb119, 1, none⟩) (Kd.R_far (p := ⟨gb119, 0, none⟩) (Kd.R_types HO114.out BK119.out (by decide)) (fun _ hk => hk.2) (.int .i64 t103)) (fun _ hk => hk.2) (.int .i64 t104)) (fun _ hk => hk.2) (.bool true)) (fun _ hk => hk.2) (.bool t106)) (fun _ hk => hk.2) (.int .i64 t107)) (fun _ hk => hk.2) (.int .i64 t108)) (fun _ hk => hk.2) (.int .i64 t109)) (fun _ hk => hk.2) (.int .i64 t110)) (fun _ hk => hk.2) (.int .i64 t111)) (fun _ hk => hk.2) (.slice Ao19 t112.length co19)) (fun _ hk => hk.2) (.slice Ao20 t115.length co20)) (fun _ h_ => h_.1))) (Kd.R_base ho0) hb); have n1_ := aq (Kd.R_elder' (by (with_reducible repeat (first | apply Kd.R_alloc | apply Kd.R_drewN | apply Kd.R_drew)); exact (Kd.R_mono (Kd.R_far (p := ⟨gb119, 10, none⟩) (Kd.R_far (p := ⟨gb119, 9, none⟩) (Kd.R_far (p := ⟨gb119, 8, none⟩) (Kd.R_far (p := ⟨gb119, 7, none⟩) (Kd.R_far (p := ⟨gb119, 6, none⟩) (Kd.R_far (p := ⟨gb119, 5, none⟩) (Kd.R_far (p := ⟨gb119, 4, none⟩) (Kd.R_far (p := ⟨gb119, 3, none⟩) (Kd.R_far (p := ⟨gb119, 2, none⟩) (Kd.R_far (p := ⟨gb119, 1, none⟩) (Kd.R_far (p := ⟨gb119, 0, none⟩) (Kd.R_types HO117.out BK119.out (by decide)) (fun _ hk => hk.2) (.int .i64 t103)) (fun _ hk => hk.2) (.int .i64 t104)) (fun _ hk => hk.2) (.bool true)) (fun _ hk => hk.2) (.bool t106)) (fun _ hk => hk.2) (.int .i64 t107)) (fun _ hk => hk.2) (.int .i64 t108)) (fun _ hk => hk.2) (.int .i64 t109)) (fun _ hk => hk.2) (.int .i64 t110)) (fun _ hk => hk.2) (.int .i64 t111)) (fun _ hk => hk.2) (.slice Ao19 t112.length co19)) (fun _ hk => hk.2) (.slice Ao20 t115.length co20)) (fun _ h_ => h_.1))) (Kd.R_base ho1) hb); have n2_ := aq (Kd.R_lower (Kd.R_new' ho0 (Kd.R_lt (by (with_reducible repeat (first | apply Kd.R_alloc | apply Kd.R_drewN | apply Kd.R_drew)); exact (Kd.R_mono (Kd.R_far (p := ⟨gb119, 10, none⟩) (Kd.R_far (p := ⟨gb119, 9, none⟩) (Kd.R_far (p := ⟨gb119, 8, none⟩) (Kd.R_far (p := ⟨gb119, 7, none⟩) (Kd.R_far (p := ⟨gb119, 6, none⟩) (Kd.R_far (p := ⟨gb119, 5, none⟩) (Kd.R_far (p := ⟨gb119, 4, none⟩) (Kd.R_far (p := ⟨gb119, 3, none⟩) (Kd.R_far (p := ⟨gb119, 2, none⟩) (Kd.R_far (p := ⟨gb119, 1, none⟩) (Kd.R_far (p := ⟨gb119, 0, none⟩) (Kd.R_types HO114.out BK119.out (by decide)) (fun _ hk => hk.2) (.int .i64 t103)) (fun _ hk => hk.2) (.int .i64 t104)) (fun _ hk => hk.2) (.bool true)) (fun _ hk => hk.2) (.bool t106)) (fun _ hk => hk.2) (.int .i64 t107)) (fun _ hk => hk.2) (.int .i64 t108)) (fun _ hk => hk.2) (.int .i64 t109)) (fun _ hk => hk.2) (.int .i64 t110)) (fun _ hk => hk.2) (.int .i64 t111)) (fun _ hk => hk.2) (.slice Ao19 t112.length co19)) (fun _ hk => hk.2) (.slice Ao20 t115.length co20)) (fun _ h_ => h_.1))))) (below_size (stH HB))); have n3_ := aq (Kd.R_lower (Kd.R_new' ho1 (Kd.R_lt (by (with_reducible repeat (first | apply Kd.R_alloc | apply Kd.R_drewN | apply Kd.R_drew)); exact (Kd.R_mono (Kd.R_far (p := ⟨gb119, 10, none⟩) (Kd.R_far (p := ⟨gb119, 9, none⟩) (Kd.R_far (p := ⟨gb119, 8, none⟩) (Kd.R_far (p := ⟨gb119, 7, none⟩) (Kd.R_far (p := ⟨gb119, 6, none⟩) (Kd.R_far (p := ⟨gb119, 5, none⟩) (Kd.R_far (p := ⟨gb119, 4, none⟩) (Kd.R_far (p := ⟨gb119, 3, none⟩) (Kd.R_far (p := ⟨gb119, 2, none⟩) (Kd.R_far (p := ⟨gb119, 1, none⟩) (Kd.R_far (p := ⟨gb119, 0, none⟩) (Kd.R_types HO117.out BK119.out (by decide)) (fun _ hk => hk.2) (.int .i64 t103)) (fun _ hk => hk.2) (.int .i64 t104)) (fun _ hk => hk.2) (.bool true)) (fun _ hk => hk.2) (.bool t106)) (fun _ hk => hk.2) (.int .i64 t107)) (fun _ hk => hk.2) (.int .i64 t108)) (fun _ hk => hk.2) (.int .i64 t109)) (fun _ hk => hk.2) (.int .i64 t110)) (fun _ hk => hk.2) (.int .i64 t111)) (fun _ hk => hk.2) (.slice Ao19 t112.length co19)) (fun _ hk => hk.2) (.slice Ao20 t115.length co20)) (fun _ h_ => h_.1))))) (below_size (stH HB))); have n4_ := aq (blk_below (g := gb119) (o := .cells #[.int .i64 t103, .int .i64 t104, .bool true, .bool t106, .int .i64 t107, .int .i64 t108, .int .i64 t109, .int .i64 t110, .int .i64 t111, .slice Ao19 t112.length co19, .slice Ao20 t115.length co20] 55 (0, 0)) (by (with_reducible repeat (first | refine blk_drewN ?_ _ | refine blk_drew ?_ | refine blk_alloc ?_ _)); refine puts11 (cs := #[.int .i64 0, .int .i64 0, .bool false, .bool false, .int .i64 0, .int .i64 0, .int .i64 0, .int .i64 0, .int .i64 0, .slice none 0 0, .slice none 0 0]) rfl ?_; (with_reducible repeat (first | refine blk_drewN ?_ _ | refine blk_drew ?_ | refine blk_alloc ?_ _)); exact BK119.out) hb); have n5_ := aq (below_step (stH HB) hb); replace HO114 := n0_; replace HO117 := n1_; have HO131 := n2_; have HO134 := n3_; replace BK119 := n4_; replace HB := n5_; clear n0_ n1_ n2_ n3_ n4_ n5_; (try clear hb); (try clear hk); (try clear ho0); (try clear ho1)) | ((with_reducible refine gate_dst (N := 5) rfl ?_); (try (refine gate_guard (by rfl) ?_; dsimp only)); refine box_event ?hg (N := 5) ?hd (cs := #[.int .i64 0, .int .i64 0, .bool false, .bool false, .int .i64 0, .int .i64 0, .int .i64 0, .int .i64 0, .int .i64 0, .slice none 0 0, .slice none 0 0]) (t := 55) ?hr ?_; (case hd => rfl); (case hg => rfl); (case hr => first | (go_simp; done) | (go_simp; rfl)); intro gb136 hg w22 hbox hb; have n0_ := aq (Kd.R_below (by (with_reducible repeat (first | apply Kd.R_alloc | apply Kd.R_drewN | apply Kd.R_drew)); exact HO114.out) hb); have n1_ := aq (Kd.R_below (by (with_reducible repeat (first | apply Kd.R_alloc | apply Kd.R_drewN | apply Kd.R_drew)); exact HO117.out) hb); have n2_ := aq (Kd.R_below (by (with_reducible repeat (first | apply Kd.R_alloc | apply Kd.R_drewN | apply Kd.R_drew)); exact HO131.out) hb); have n3_ := aq (Kd.R_below (by (with_reducible repeat (first | apply Kd.R_alloc | apply Kd.R_drewN | apply Kd.R_drew)); exact HO134.out) hb); have n4_ := aq (blk_below (stB BK119) hb); have n5_ := aq (below_step (stH HB) hb); have n6_ := aq (hbox); have n7_ := aq ((by rw [hg]; exact (below_size (stH HB)) : w.heap.size ≤ gb136)); have n8_ := aq ((by rw [hg]; exact (below_size (stH HB)) : w.heap.size ≤ gb136)); have n9_ := aq ((by rw [hg]; exact Nat.ne_of_lt (blk_lt (stB BK119)) : gb119 ≠ gb136)); have n10_ := aq ((by rw [hg]; exact Nat.ne_of_gt (blk_lt (stB BK119)) : gb136 ≠ gb119)); replace HO114 := n0_; replace HO117 := n1_; replace HO131 := n2_; replace HO134 := n3_; replace BK119 := n4_; replace HB := n5_; have BK136 := n6_; have GW136 := n7_; have GE136 := n8_; have NB119_136 := n9_; have NB136_119 := n10_; clear n0_ n1_ n2_ n3_ n4_ n5_ n6_ n7_ n8_ n9_ n10_; clear hb hbox hg; have hnb23 := NB136_119.out; have hnc23 := NB119_136.out; obtain ⟨k24a, k24b, k24c, k24d, k24e, k24f, k24g, k24h, k24i, k24j, k24k⟩ := cl11 (W := w22) BK136.out; obtain ⟨u24a, u24b, u24c, u24d, u24e, u24f, u24g, u24h, u24i, u24j, u24k⟩ := fr11 BK136.out; obtain ⟨Ao25, co25, eo25⟩ := Kd.R_slice HO131.out; subst eo25; obtain ⟨Ao26, co26, eo26⟩ := Kd.R_slice HO134.out; subst eo26; obtain ⟨k27a, k27b, k27c, k27d, k27e, k27f, k27g, k27h, k27i, k27j, k27k⟩ := cl11 (W := w22) BK119.out; obtain ⟨u27a, u27b, u27c, u27d, u27e, u27f, u27g, u27h, u27i, u27j, u27k⟩ := fr11 BK119.out) | (go_at_call 49; (with_reducible refine (noteGood.calls t103 t104 true t106 t107 t108 t109 t110 t111 _ _ t112 _ _ t115 true _ ?side1 ?side2 ?side3 ?side4 A12.out).mono ?_); (case side1 => refine (Kd.R_reads' (e := 33) (base := w.heap.size) (ok := fun k_ => (True ∧ some k_ ≠ (.slice Ao25 t129.length co25 : Value).ownBlock)) (n := t112.length) (c := co19) ?_).2.2; exact (by (with_reducible repeat (first | apply Kd.R_alloc | apply Kd.R_drewN | apply Kd.R_drew)); exact (Kd.R_mono (Kd.R_far (p := ⟨gb136, 10, none⟩) (Kd.R_far (p := ⟨gb136, 9, none⟩) (Kd.R_far (p := ⟨gb136, 8, none⟩) (Kd.R_far (p := ⟨gb136, 7, none⟩) (Kd.R_far (p := ⟨gb136, 6, none⟩) (Kd.R_far (p := ⟨gb136, 5, none⟩) (Kd.R_far (p := ⟨gb136, 4, none⟩) (Kd.R_far (p := ⟨gb136, 3, none⟩) (Kd.R_far (p := ⟨gb136, 2, none⟩) (Kd.R_far (p := ⟨gb136, 1, none⟩) (Kd.R_far (p := ⟨gb136, 0, none⟩) (Kd.R_types HO114.out BK136.out (by decide)) (fun _ hk => hk.2) (.int .i64 t120)) (fun _ hk => hk.2) (.int .i64 t121)) (fun _ hk => hk.2) (.bool t122)) (fun _ hk => hk.2) (.bool t123)) (fun _ hk => hk.2) (.int .i64 t124)) (fun _ hk => hk.2) (.int .i64 t125)) (fun _ hk => hk.2) (.int .i64 t126)) (fun _ hk => hk.2) (.int .i64 t127)) (fun _ hk => hk.2) (.int .i64 t128)) (fun _ hk => hk.2) (.slice Ao25 t129.length co25)) (fun _ hk => hk.2) (.slice Ao26 t132.length co26)) (fun _ h_ => h_.1)))); (case side2 => exact (Kd.R_reads' HO114.out).2.1); (case side3 => refine (Kd.R_reads' (e := 65) (base := w.heap.size) (ok := fun k_ => (True ∧ some k_ ≠ (.slice Ao26 t132.length co26 : Value).ownBlock)) (n := t115.length) (c := co20) ?_).2.2; exact (by (with_reducible repeat (first | apply Kd.R_alloc | apply Kd.R_drewN | apply Kd.R_drew)); exact (Kd.R_mono (Kd.R_far (p := ⟨gb136, 10, none⟩) (Kd.R_far (p := ⟨gb136, 9, none⟩) (Kd.R_far (p := ⟨gb136, 8, none⟩) (Kd.R_far (p := ⟨gb136, 7, none⟩) (Kd.R_far (p := ⟨gb136, 6, none⟩) (Kd.R_far (p := ⟨gb136, 5, none⟩) (Kd.R_far (p := ⟨gb136, 4, none⟩) (Kd.R_far (p := ⟨gb136, 3, none⟩) (Kd.R_far (p := ⟨gb136, 2, none⟩) (Kd.R_far (p := ⟨gb136, 1, none⟩) (Kd.R_far (p := ⟨gb136, 0, none⟩) (Kd.R_types HO117.out BK136.out (by decide)) (fun _ hk => hk.2) (.int .i64 t120)) (fun _ hk => hk.2) (.int .i64 t121)) (fun _ hk => hk.2) (.bool t122)) (fun _ hk => hk.2) (.bool t123)) (fun _ hk => hk.2) (.int .i64 t124)) (fun _ hk => hk.2) (.int .i64 t125)) (fun _ hk => hk.2) (.int .i64 t126)) (fun _ hk => hk.2) (.int .i64 t127)) (fun _ hk => hk.2) (.int .i64 t128)) (fun _ hk => hk.2) (.slice Ao25 t129.length co25)) (fun _ hk => hk.2) (.slice Ao26 t132.length co26)) (fun _ h_ => h_.1)))); (case side4 => exact (Kd.R_reads' HO117.out).2.1); rintro e w28 ⟨rfl, hb⟩; have n0_ := aq (Kd.R_below (by (with_reducible repeat (first | apply Kd.R_alloc | apply Kd.R_drewN | apply Kd.R_drew)); exact (Kd.R_mono (Kd.R_far (p := ⟨gb136, 10, none⟩) (Kd.R_far (p := ⟨gb136, 9, none⟩) (Kd.R_far (p := ⟨gb136, 8, none⟩) (Kd.R_far (p := ⟨gb136, 7, none⟩) (Kd.R_far (p := ⟨gb136, 6, none⟩) (Kd.R_far (p := ⟨gb136, 5, none⟩) (Kd.R_far (p := ⟨gb136, 4, none⟩) (Kd.R_far (p := ⟨gb136, 3, none⟩) (Kd.R_far (p := ⟨gb136, 2, none⟩) (Kd.R_far (p := ⟨gb136, 1, none⟩) (Kd.R_far (p := ⟨gb136, 0, none⟩) (Kd.R_types HO114.out BK136.out (by decide)) (fun _ hk => hk.2) (.int .i64 t120)) (fun _ hk => hk.2) (.int .i64 t121)) (fun _ hk => hk.2) (.bool t122)) (fun _ hk => hk.2) (.bool t123)) (fun _ hk => hk.2) (.int .i64 t124)) (fun _ hk => hk.2) (.int .i64 t125)) (fun _ hk => hk.2) (.int .i64 t126)) (fun _ hk => hk.2) (.int .i64 t127)) (fun _ hk => hk.2) (.int .i64 t128)) (fun _ hk => hk.2) (.slice Ao25 t129.length co25)) (fun _ hk => hk.2) (.slice Ao26 t132.length co26)) (fun _ h_ => h_.1))) hb); have n1_ := aq (Kd.R_below (by (with_reducible repeat (first | apply Kd.R_alloc | apply Kd.R_drewN | apply Kd.R_drew)); exact (Kd.R_mono (Kd.R_far (p := ⟨gb136, 10, none⟩) (Kd.R_far (p := ⟨gb136, 9, none⟩) (Kd.R_far (p := ⟨gb136, 8, none⟩) (Kd.R_far (p := ⟨gb136, 7, none⟩) (Kd.R_far (p := ⟨gb136, 6, none⟩) (Kd.R_far (p := ⟨gb136, 5, none⟩) (Kd.R_far (p := ⟨gb136, 4, none⟩) (Kd.R_far (p := ⟨gb136, 3, none⟩) (Kd.R_far (p := ⟨gb136, 2, none⟩) (Kd.R_far (p := ⟨gb136, 1, none⟩) (Kd.R_far (p := ⟨gb136, 0, none⟩) (Kd.R_types HO117.out BK136.out (by decide)) (fun _ hk => hk.2) (.int .i64 t120)) (fun _ hk => hk.2) (.int .i64 t121)) (fun _ hk => hk.2) (.bool t122)) (fun _ hk => hk.2) (.bool t123)) (fun _ hk => hk.2) (.int .i64 t124)) (fun _ hk => hk.2) (.int .i64 t125)) (fun _ hk => hk.2) (.int .i64 t126)) (fun _ hk => hk.2) (.int .i64 t127)) (fun _ hk => hk.2) (.int .i64 t128)) (fun _ hk => hk.2) (.slice Ao25 t129.length co25)) (fun _ hk => hk.2) (.slice Ao26 t132.length co26)) (fun _ h_ => h_.1))) hb); have n2_ := aq (Kd.R_below (by (with_reducible repeat (first | apply Kd.R_alloc | apply Kd.R_drewN | apply Kd.R_drew)); exact (Kd.R_mono (Kd.R_far (p := ⟨gb136, 10, none⟩) (Kd.R_far (p := ⟨gb136, 9, none⟩) (Kd.R_far (p := ⟨gb136, 8, none⟩) (Kd.R_far (p := ⟨gb136, 7, none⟩) (Kd.R_far (p := ⟨gb136, 6, none⟩) (Kd.R_far (p := ⟨gb136, 5, none⟩) (Kd.R_far (p := ⟨gb136, 4, none⟩) (Kd.R_far (p := ⟨gb136, 3, none⟩) (Kd.R_far (p := ⟨gb136, 2, none⟩) (Kd.R_far (p := ⟨gb136, 1, none⟩) (Kd.R_far (p := ⟨gb136, 0, none⟩) (Kd.R_types HO131.out BK136.out (by decide)) (fun _ hk => hk.2) (.int .i64 t120)) (fun _ hk => hk.2) (.int .i64 t121)) (fun _ hk => hk.2) (.bool t122)) (fun _ hk => hk.2) (.bool t123)) (fun _ hk => hk.2) (.int .i64 t124)) (fun _ hk => hk.2) (.int .i64 t125)) (fun _ hk => hk.2) (.int .i64 t126)) (fun _ hk => hk.2) (.int .i64 t127)) (fun _ hk => hk.2) (.int .i64 t128)) (fun _ hk => hk.2) (.slice Ao25 t129.length co25)) (fun _ hk => hk.2) (.slice Ao26 t132.length co26)) (fun _ h_ => h_.1))) hb); have n3_ := aq (Kd.R_below (by (with_reducible repeat (first | apply Kd.R_alloc | apply Kd.R_drewN | apply Kd.R_drew)); exact (Kd.R_mono (Kd.R_far (p := ⟨gb136, 10, none⟩) (Kd.R_far (p := ⟨gb136, 9, none⟩) (Kd.R_far (p := ⟨gb136, 8, none⟩) (Kd.R_far (p := ⟨gb136, 7, none⟩) (Kd.R_far (p := ⟨gb136, 6, none⟩) (Kd.R_far (p := ⟨gb136, 5, none⟩) (Kd.R_far (p := ⟨gb136, 4, none⟩) (Kd.R_far (p := ⟨gb136, 3, none⟩) (Kd.R_far (p := ⟨gb136, 2, none⟩) (Kd.R_far (p := ⟨gb136, 1, none⟩) (Kd.R_far (p := ⟨gb136, 0, none⟩) (Kd.R_types HO134.out BK136.out (by decide)) (fun _ hk => hk.2) (.int .i64 t120)) (fun _ hk => hk.2) (.int .i64 t121)) (fun _ hk => hk.2) (.bool t122)) (fun _ hk => hk.2) (.bool t123)) (fun _ hk => hk.2) (.int .i64 t124)) (fun _ hk => hk.2) (.int .i64 t125)) (fun _ hk => hk.2) (.int .i64 t126)) (fun _ hk => hk.2) (.int .i64 t127)) (fun _ hk => hk.2) (.int .i64 t128)) (fun _ hk => hk.2) (.slice Ao25 t129.length co25)) (fun _ hk => hk.2) (.slice Ao26 t132.length co26)) (fun _ h_ => h_.1))) hb); have n4_ := aq (blk_below (g := gb119) (o := .cells #[.int .i64 t103, .int .i64 t104, .bool true, .bool t106, .int .i64 t107, .int .i64 t108, .int .i64 t109, .int .i64 t110, .int .i64 t111, .slice Ao19 t112.length co19, .slice Ao20 t115.length co20] 55 (0, 0)) (stF BK119) hb); have n5_ := aq (blk_below (g := gb136) (o := .cells #[.int .i64 t120, .int .i64 t121, .bool t122, .bool t123, .int .i64 t124, .int .i64 t125, .int .i64 t126, .int .i64 t127, .int .i64 t128, .slice Ao25 t129.length co25, .slice Ao26 t132.length co26] 55 (0, 0)) (by (with_reducible repeat (first | refine blk_drewN ?_ _ | refine blk_drew ?_ | refine blk_alloc ?_ _)); refine puts11 (cs := #[.int .i64 0, .int .i64 0, .bool false, .bool false, .int .i64 0, .int .i64 0, .int .i64 0, .int .i64 0, .int .i64 0, .slice none 0 0, .slice none 0 0]) rfl ?_; (with_reducible repeat (first | refine blk_drewN ?_ _ | refine blk_drew ?_ | refine blk_alloc ?_ _)); exact BK136.out) hb); have n6_ := aq (below_step (stH HB) hb); replace HO114 := n0_; replace HO117 := n1_; replace HO131 := n2_; replace HO134 := n3_; replace BK119 := n4_; replace BK136 := n5_; replace HB := n6_; clear n0_ n1_ n2_ n3_ n4_ n5_ n6_; (try clear hb); (try clear hk)) | (go_at_call 49; (refine (noteGood.calls 0 0 false false 0 0 0 0 0 _ _ ([] : List (S33)) _ _ ([] : List (S65)) t138 _ ?side1 ?side2 ?side3 ?side4 A14.out).mono ?_); (case side1 => exact Kd.C_nil _ _); (case side2 => exact Nat.le_refl _); (case side3 => exact Kd.C_nil _ _); (case side4 => exact Nat.le_refl _); rintro e w29 ⟨rfl, hb⟩; have n0_ := aq (Kd.R_below (by (with_reducible repeat (first | apply Kd.R_alloc | apply Kd.R_drewN | apply Kd.R_drew)); exact HO114.out) hb); have n1_ := aq (Kd.R_below (by (with_reducible repeat (first | apply Kd.R_alloc | apply Kd.R_drewN | apply Kd.R_drew)); exact HO117.out) hb); have n2_ := aq (Kd.R_below (by (with_reducible repeat (first | apply Kd.R_alloc | apply Kd.R_drewN | apply Kd.R_drew)); exact HO131.out) hb); have n3_ := aq (Kd.R_below (by (with_reducible repeat (first | apply Kd.R_alloc | apply Kd.R_drewN | apply Kd.R_drew)); exact HO134.out) hb); have n4_ := aq (blk_below (stB BK119) hb); have n5_ := aq (blk_below (stB BK136) hb); have n6_ := aq (below_step (stH HB) hb); replace HO114 := n0_; replace HO117 := n1_; replace HO131 := n2_; replace HO134 := n3_; replace BK119 := n4_; replace BK136 := n5_; replace HB := n6_; clear n0_ n1_ n2_ n3_ n4_ n5_ n6_; (try clear hb)))
          go_ret
          exact ⟨eqW, by repeat (first | (with_reducible first | exact HB.out | apply below_alloc | apply pw_below_drewN | apply below_drew1 | refine below_set ?_ GE119.out | refine below_set ?_ GE136.out) | exact HB.out)⟩
         ·exfalso; have q_ := Option.some.inj (A1.out.symm.trans v45_1); simp only [Prod.mk.injEq] at q_; obtain ⟨rfl, rfl⟩ := q_; have q_ := Option.some.inj (A2.out.symm.trans v45_2); (first | (simp only [Prod.mk.injEq] at q_; obtain ⟨rfl, rfl, rfl, rfl, rfl, rfl, rfl, rfl, rfl, rfl, rfl, rfl⟩ := q_) | cases q_); have q_ := Option.some.inj (A3.out.symm.trans v45_3); (first | (simp only [Prod.mk.injEq] at q_; obtain ⟨rfl, rfl, rfl, rfl, rfl, rfl, rfl, rfl, rfl, rfl, rfl, rfl⟩ := q_) | cases q_); have q_ := Option.some.inj (A12.out.symm.trans v45_12); subst q_; exact c13 (by decide +kernel)
        ·exfalso; have q_ := Option.some.inj (A1.out.symm.trans v45_1); simp only [Prod.mk.injEq] at q_; obtain ⟨rfl, rfl⟩ := q_; have q_ := Option.some.inj (A2.out.symm.trans v45_2); (first | (simp only [Prod.mk.injEq] at q_; obtain ⟨rfl, rfl, rfl, rfl, rfl, rfl, rfl, rfl, rfl, rfl, rfl, rfl⟩ := q_) | cases q_); have q_ := Option.some.inj (A3.out.symm.trans v45_3); (first | (simp only [Prod.mk.injEq] at q_; obtain ⟨rfl, rfl, rfl, rfl, rfl, rfl, rfl, rfl, rfl, rfl, rfl, rfl⟩ := q_) | cases q_); exact c11 (by decide +kernel)
       ·exfalso; have q_ := Option.some.inj (A1.out.symm.trans v45_1); simp only [Prod.mk.injEq] at q_; obtain ⟨rfl, rfl⟩ := q_; have q_ := Option.some.inj (A2.out.symm.trans v45_2); (first | (simp only [Prod.mk.injEq] at q_; obtain ⟨rfl, rfl, rfl, rfl, rfl, rfl, rfl, rfl, rfl, rfl, rfl, rfl⟩ := q_) | cases q_); have q_ := Option.some.inj (A3.out.symm.trans v45_3); (first | (simp only [Prod.mk.injEq] at q_; obtain ⟨rfl, rfl, rfl, rfl, rfl, rfl, rfl, rfl, rfl, rfl, rfl, rfl⟩ := q_) | cases q_); exact c10 (by decide +kernel)
      ·exfalso; have q_ := Option.some.inj (A1.out.symm.trans v45_1); simp only [Prod.mk.injEq] at q_; obtain ⟨rfl, rfl⟩ := q_; have q_ := Option.some.inj (A2.out.symm.trans v45_2); (first | (simp only [Prod.mk.injEq] at q_; obtain ⟨rfl, rfl, rfl, rfl, rfl, rfl, rfl, rfl, rfl, rfl, rfl, rfl⟩ := q_) | cases q_); have q_ := Option.some.inj (A3.out.symm.trans v45_3); (first | (simp only [Prod.mk.injEq] at q_; obtain ⟨rfl, rfl, rfl, rfl, rfl, rfl, rfl, rfl, rfl, rfl, rfl, rfl⟩ := q_) | cases q_); exact c9 (by decide +kernel)
     ·exfalso; have q_ := Option.some.inj (A1.out.symm.trans v45_1); simp only [Prod.mk.injEq] at q_; obtain ⟨rfl, rfl⟩ := q_; have q_ := Option.some.inj (A2.out.symm.trans v45_2); (first | (simp only [Prod.mk.injEq] at q_; obtain ⟨rfl, rfl, rfl, rfl, rfl, rfl, rfl, rfl, rfl, rfl, rfl, rfl⟩ := q_) | cases q_); have q_ := Option.some.inj (A3.out.symm.trans v45_3); (first | (simp only [Prod.mk.injEq] at q_; obtain ⟨rfl, rfl, rfl, rfl, rfl, rfl, rfl, rfl, rfl, rfl, rfl, rfl⟩ := q_) | cases q_); exact c8 (by decide +kernel)
    ·exfalso; have q_ := Option.some.inj (A1.out.symm.trans v45_1); simp only [Prod.mk.injEq] at q_; obtain ⟨rfl, rfl⟩ := q_; have q_ := Option.some.inj (A2.out.symm.trans v45_2); (first | (simp only [Prod.mk.injEq] at q_; obtain ⟨rfl, rfl, rfl, rfl, rfl, rfl, rfl, rfl, rfl, rfl, rfl, rfl⟩ := q_) | cases q_); have q_ := Option.some.inj (A3.out.symm.trans v45_3); (first | (simp only [Prod.mk.injEq] at q_; obtain ⟨rfl, rfl, rfl, rfl, rfl, rfl, rfl, rfl, rfl, rfl, rfl, rfl⟩ := q_) | cases q_); exact c7 (by decide +kernel)
   ·exfalso; have q_ := Option.some.inj (A1.out.symm.trans v45_1); simp only [Prod.mk.injEq] at q_; obtain ⟨rfl, rfl⟩ := q_; have q_ := Option.some.inj (A2.out.symm.trans v45_2); (first | (simp only [Prod.mk.injEq] at q_; obtain ⟨rfl, rfl, rfl, rfl, rfl, rfl, rfl, rfl, rfl, rfl, rfl, rfl⟩ := q_) | cases q_); have q_ := Option.some.inj (A3.out.symm.trans v45_3); (first | (simp only [Prod.mk.injEq] at q_; obtain ⟨rfl, rfl, rfl, rfl, rfl, rfl, rfl, rfl, rfl, rfl, rfl, rfl⟩ := q_) | cases q_); exact c6 (by decide +kernel)
  ·exfalso; have q_ := Option.some.inj (A1.out.symm.trans v45_1); simp only [Prod.mk.injEq] at q_; obtain ⟨rfl, rfl⟩ := q_; have q_ := Option.some.inj (A2.out.symm.trans v45_2); (first | (simp only [Prod.mk.injEq] at q_; obtain ⟨rfl, rfl, rfl, rfl, rfl, rfl, rfl, rfl, rfl, rfl, rfl, rfl⟩ := q_) | cases q_); have q_ := Option.some.inj (A3.out.symm.trans v45_3); (first | (simp only [Prod.mk.injEq] at q_; obtain ⟨rfl, rfl, rfl, rfl, rfl, rfl, rfl, rfl, rfl, rfl, rfl, rfl⟩ := q_) | cases q_); exact c5 (by decide +kernel)
 ·exfalso; have q_ := Option.some.inj (A1.out.symm.trans v45_1); simp only [Prod.mk.injEq] at q_; obtain ⟨rfl, rfl⟩ := q_; have q_ := Option.some.inj (A2.out.symm.trans v45_2); (first | (simp only [Prod.mk.injEq] at q_; obtain ⟨rfl, rfl, rfl, rfl, rfl, rfl, rfl, rfl, rfl, rfl, rfl, rfl⟩ := q_) | cases q_); have q_ := Option.some.inj (A3.out.symm.trans v45_3); (first | (simp only [Prod.mk.injEq] at q_; obtain ⟨rfl, rfl, rfl, rfl, rfl, rfl, rfl, rfl, rfl, rfl, rfl, rfl⟩ := q_) | cases q_); exact c4 (by decide +kernel)
end Go.Proofs.Ytfjmnaobfbmllaa.M
namespace Go.Proofs.Ytfjmnaobfbmllaa.M
open Go.RowKit Go.Proofs.YtfjmnaobfbmllaaW.PrintWords Go.Proofs.YtfjmnaobfbmllaaW.PrintLast Go.Proofs.YtfjmnaobfbmllaaW.PrintMore
theorem zM_bad : ¬ GoodM zM := by decide +kernel
theorem awake11_pure : seneschallaw11_awake.f = some true := by
  unfold seneschallaw11_awake.f
  rw [v45_1, Option.bind_some]
  simp only
  rw [v45_2, Option.bind_some, v45_3, Option.bind_some]
  simp only
  rw [if_pos trivial, if_pos (by decide +kernel), if_pos (by decide +kernel), if_pos (by decide +kernel), if_pos trivial, if_pos trivial, if_pos trivial, if_pos trivial, v45_12, Option.bind_some, if_pos rfl,
    show noteGood.f 0 0 false false 0 0 0 0 0 ([] : List S33) ([] : List S65) = some false from congrArg some (decide_eq_false zM_bad)]
  rfl
def awake11.f : Option Bool := some true
theorem awake11.calls (r : Bool) (w : World) (h : awake11.f = some r) : Calls Try.prog 45 #[] w fun e w' => e = .returned (.bool r) ∧ Below w.heap.size w w' :=
  seneschallaw11_awake.calls r w (by rw [awake11_pure]; exact h)
end Go.Proofs.Ytfjmnaobfbmllaa.M
namespace Go.Proofs.Ytfjmnaobfbmllaa.M
open Go.RowKit Go.Proofs.YtfjmnaobfbmllaaW.PrintWords Go.Proofs.YtfjmnaobfbmllaaW.PrintLast Go.Proofs.YtfjmnaobfbmllaaW.PrintMore
attribute [local go_sem] max2_int min2_int max_two min_two max_three min_three max_four min_four   -- for this text's walks alone
set_option linter.unusedVariables false
set_option linter.unusedSimpArgs false
mutual
def seneschallaw11_NoteBack.j0 : Nat → ByteArray → Bool → Int → Int → Bool → Bool → Int → Int → Int → Int → Int → List (S33) → List (S65) → Int → Int → Bool → Bool → Int → Int → Int → Int → Int → List (S33) → List (S65) → Option (Bool)
 | 0, _, _, _, _, _, _, _, _, _, _, _, _, _, _, _, _, _, _, _, _, _, _, _, _ => none
 | k + 1, x2, x27, x102000, x102001, x102002, x102003, x102004, x102005, x102006, x102007, x102008, x102009, x102010, x103000, x103001, x103002, x103003, x103004, x103005, x103006, x103007, x103008, x103009, x103010 => if x27 = true then (some true) else ((noteEnc.f x102000 x102001 x102002 x102003 x102004 x102005 x102006 x102007 x102008 x102009 x102010).bind fun bt106 => ((noteEnc.f x103000 x103001 x103002 x103003 x103004 x103005 x103006 x103007 x103008 x103009 x103010).bind fun bt108 => ((noteGood.f x102000 x102001 x102002 x102003 x102004 x102005 x102006 x102007 x102008 x102009 x102010).bind fun t110 => (if ((bt106.2 == 0) != t110) = true then (some false) else (if bt106.2 = 0 then ((noteDec.f bt106.1).bind fun bt111 => (if bt111.2.2.2.2.2.2.2.2.2.2.2 = 0 then ((refSame11.f bt111.1 bt111.2.1 bt111.2.2.1 bt111.2.2.2.1 bt111.2.2.2.2.1 bt111.2.2.2.2.2.1 bt111.2.2.2.2.2.2.1 bt111.2.2.2.2.2.2.2.1 bt111.2.2.2.2.2.2.2.2.1 bt111.2.2.2.2.2.2.2.2.2.1 bt111.2.2.2.2.2.2.2.2.2.2.1 x102000 x102001 x102002 x102003 x102004 x102005 x102006 x102007 x102008 x102009 x102010).bind fun t128 => (if t128 = true then (if bt108.2 = 0 then ((refSame11.f x102000 x102001 x102002 x102003 x102004 x102005 x102006 x102007 x102008 x102009 x102010 x103000 x103001 x103002 x103003 x103004 x103005 x103006 x103007 x103008 x103009 x103010).bind fun t129 => (if ((bt106.1.toList == bt108.1.toList) != t129) = true then (some false) else (seneschallaw11_NoteBack.j1 k x2))) else (seneschallaw11_NoteBack.j1 k x2)) else (some false))) else (some false))) else (seneschallaw11_NoteBack.j1 k x2))))))
def seneschallaw11_NoteBack.j1 : Nat → ByteArray → Option (Bool)
 | 0, _ => none
 | k + 1, x2 => (noteDec.f x2).bind fun bt130 => (if bt130.2.2.2.2.2.2.2.2.2.2.2 = 0 then ((noteEnc.f bt130.1 bt130.2.1 bt130.2.2.1 bt130.2.2.2.1 bt130.2.2.2.2.1 bt130.2.2.2.2.2.1 bt130.2.2.2.2.2.2.1 bt130.2.2.2.2.2.2.2.1 bt130.2.2.2.2.2.2.2.2.1 bt130.2.2.2.2.2.2.2.2.2.1 bt130.2.2.2.2.2.2.2.2.2.2.1).bind fun bt147 => (if bt147.1.toList = x2.toList then (some (bt147.2 == 0)) else (some false))) else ((refSame11.f bt130.1 bt130.2.1 bt130.2.2.1 bt130.2.2.2.1 bt130.2.2.2.2.1 bt130.2.2.2.2.2.1 bt130.2.2.2.2.2.2.1 bt130.2.2.2.2.2.2.2.1 bt130.2.2.2.2.2.2.2.2.1 bt130.2.2.2.2.2.2.2.2.2.1 bt130.2.2.2.2.2.2.2.2.2.2.1 0 0 false false 0 0 0 0 0 ([] : List (S33)) ([] : List (S65))).bind fun t149 => (some t149)))
end
def seneschallaw11_NoteBack.f (k : Nat) (a0_0 : Int) (a0_1 : Int) (a0_2 : Bool) (a0_3 : Bool) (a0_4 : Int) (a0_5 : Int) (a0_6 : Int) (a0_7 : Int) (a0_8 : Int) (l0_9 : List (S33)) (l0_10 : List (S65)) (a1_0 : Int) (a1_1 : Int) (a1_2 : Bool) (a1_3 : Bool) (a1_4 : Int) (a1_5 : Int) (a1_6 : Int) (a1_7 : Int) (a1_8 : Int) (l1_9 : List (S33)) (l1_10 : List (S65)) (a2 : ByteArray) : Option (Bool) := (awake11.f).bind fun t103 => (if t103 = true then ((great11.f a0_0 a0_1 a0_2 a0_3 a0_4 a0_5 a0_6 a0_7 a0_8 l0_9 l0_10).bind fun t104 => (if t104 = true then (seneschallaw11_NoteBack.j0 k a2 true a0_0 a0_1 a0_2 a0_3 a0_4 a0_5 a0_6 a0_7 a0_8 l0_9 l0_10 a1_0 a1_1 a1_2 a1_3 a1_4 a1_5 a1_6 a1_7 a1_8 l1_9 l1_10) else ((great11.f a1_0 a1_1 a1_2 a1_3 a1_4 a1_5 a1_6 a1_7 a1_8 l1_9 l1_10).bind fun t105 => (if t105 = true then (seneschallaw11_NoteBack.j0 k a2 true a0_0 a0_1 a0_2 a0_3 a0_4 a0_5 a0_6 a0_7 a0_8 l0_9 l0_10 a1_0 a1_1 a1_2 a1_3 a1_4 a1_5 a1_6 a1_7 a1_8 l1_9 l1_10) else (seneschallaw11_NoteBack.j0 k a2 (decide ((a2.size : Int) > 65536)) a0_0 a0_1 a0_2 a0_3 a0_4 a0_5 a0_6 a0_7 a0_8 l0_9 l0_10 a1_0 a1_1 a1_2 a1_3 a1_4 a1_5 a1_6 a1_7 a1_8 l1_9 l1_10))))) else (some false))
set_option maxHeartbeats 8000000 in
set_option maxRecDepth 100000 in
theorem seneschallaw11_NoteBack.calls (k : Nat) (a0_0 : Int) (a0_1 : Int) (a0_2 : Bool) (a0_3 : Bool) (a0_4 : Int) (a0_5 : Int) (a0_6 : Int) (a0_7 : Int) (a0_8 : Int) (A0_9 : Option Addr) (c0_9 : Nat) (l0_9 : List (S33)) (A0_10 : Option Addr) (c0_10 : Nat) (l0_10 : List (S65)) (a1_0 : Int) (a1_1 : Int) (a1_2 : Bool) (a1_3 : Bool) (a1_4 : Int) (a1_5 : Int) (a1_6 : Int) (a1_7 : Int) (a1_8 : Int) (A1_9 : Option Addr) (c1_9 : Nat) (l1_9 : List (S33)) (A1_10 : Option Addr) (c1_10 : Nat) (l1_10 : List (S65)) (a2 : ByteArray) (r : Bool) (hrt : r = true) (w : World) (hr0_9 : Kd.C k33 w A0_9 l0_9.length l0_9) (hc0_9 : l0_9.length ≤ c0_9) (hr0_10 : Kd.C k65 w A0_10 l0_10.length l0_10) (hc0_10 : l0_10.length ≤ c0_10) (hr1_9 : Kd.C k33 w A1_9 l1_9.length l1_9) (hc1_9 : l1_9.length ≤ c1_9) (hr1_10 : Kd.C k65 w A1_10 l1_10.length l1_10) (hc1_10 : l1_10.length ≤ c1_10) (h : seneschallaw11_NoteBack.f k a0_0 a0_1 a0_2 a0_3 a0_4 a0_5 a0_6 a0_7 a0_8 l0_9 l0_10 a1_0 a1_1 a1_2 a1_3 a1_4 a1_5 a1_6 a1_7 a1_8 l1_9 l1_10 a2 = some r) :
  Calls Try.prog 28 #[.agg #[.int .i64 a0_0, .int .i64 a0_1, .bool a0_2, .bool a0_3, .int .i64 a0_4, .int .i64 a0_5, .int .i64 a0_6, .int .i64 a0_7, .int .i64 a0_8, .slice A0_9 l0_9.length c0_9, .slice A0_10 l0_10.length c0_10], .agg #[.int .i64 a1_0, .int .i64 a1_1, .bool a1_2, .bool a1_3, .int .i64 a1_4, .int .i64 a1_5, .int .i64 a1_6, .int .i64 a1_7, .int .i64 a1_8, .slice A1_9 l1_9.length c1_9, .slice A1_10 l1_10.length c1_10], .string a2] w fun e w' => e = .returned (.bool r) ∧ Below w.heap.size w w' := by
 have HRT := aq hrt
 clear hrt
 have hu55 := Try.underlying55
 have HR0_9 := aq hr0_9
 have HC0_9 := aq hc0_9
 clear hr0_9 hc0_9
 have HR0_10 := aq hr0_10
 have HC0_10 := aq hc0_10
 clear hr0_10 hc0_10
 have HR1_9 := aq hr1_9
 have HC1_9 := aq hc1_9
 clear hr1_9 hc1_9
 have HR1_10 := aq hr1_10
 have HC1_10 := aq hc1_10
 clear hr1_10 hc1_10
 have HB := aq (Below.refl w.heap.size w)
 have H : ((awake11.f).bind fun t103 => (if t103 = true then ((great11.f a0_0 a0_1 a0_2 a0_3 a0_4 a0_5 a0_6 a0_7 a0_8 l0_9 l0_10).bind fun t104 => (if t104 = true then (seneschallaw11_NoteBack.j0 k a2 true a0_0 a0_1 a0_2 a0_3 a0_4 a0_5 a0_6 a0_7 a0_8 l0_9 l0_10 a1_0 a1_1 a1_2 a1_3 a1_4 a1_5 a1_6 a1_7 a1_8 l1_9 l1_10) else ((great11.f a1_0 a1_1 a1_2 a1_3 a1_4 a1_5 a1_6 a1_7 a1_8 l1_9 l1_10).bind fun t105 => (if t105 = true then (seneschallaw11_NoteBack.j0 k a2 true a0_0 a0_1 a0_2 a0_3 a0_4 a0_5 a0_6 a0_7 a0_8 l0_9 l0_10 a1_0 a1_1 a1_2 a1_3 a1_4 a1_5 a1_6 a1_7 a1_8 l1_9 l1_10) else (seneschallaw11_NoteBack.j0 k a2 (decide ((a2.size : Int) > 65536)) a0_0 a0_1 a0_2 a0_3 a0_4 a0_5 a0_6 a0_7 a0_8 l0_9 l0_10 a1_0 a1_1 a1_2 a1_3 a1_4 a1_5 a1_6 a1_7 a1_8 l1_9 l1_10))))) else (some false))) = some r := h
 clear h
 replace H := Option.bind_eq_some_iff.mp H
 obtain ⟨t103, A40, H⟩ := H
 try dsimp only at H
 have A4 := aq A40
 clear A40
 by_cases c5 : t103 = true
 ·subst c5
  rw [if_pos rfl] at H
  have HC6 := aq H
  clear H
  go_enter Try.func28, Try.ntmps28
  go_upto_region 3 with (first | ((with_reducible refine gate_dst (N := 3) rfl ?_); (try (refine gate_guard (by rfl) ?_; dsimp only)); refine box_event ?hg (N := 3) ?hd (cs := #[.int .i64 a0_0, .int .i64 a0_1, .bool a0_2, .bool a0_3, .int .i64 a0_4, .int .i64 a0_5, .int .i64 a0_6, .int .i64 a0_7, .int .i64 a0_8, .slice A0_9 l0_9.length c0_9, .slice A0_10 l0_10.length c0_10]) (t := 55) ?hr ?_; (case hd => rfl); (case hg => rfl); (case hr => first | (go_simp; done) | (go_simp; rfl)); intro gb101 hg w7 hbox hb; have n0_ := aq (below_step (stH HB) hb); have n1_ := aq (hbox); have n2_ := aq ((by rw [hg]; exact (below_size (stH HB)) : w.heap.size ≤ gb101)); have n3_ := aq ((by rw [hg]; exact (below_size (stH HB)) : w.heap.size ≤ gb101)); replace HB := n0_; have BK101 := n1_; have GW101 := n2_; have GE101 := n3_; clear n0_ n1_ n2_ n3_; clear hb hbox hg) | ((with_reducible refine gate_dst (N := 4) rfl ?_); (try (refine gate_guard (by rfl) ?_; dsimp only)); refine box_event ?hg (N := 4) ?hd (cs := #[.int .i64 a1_0, .int .i64 a1_1, .bool a1_2, .bool a1_3, .int .i64 a1_4, .int .i64 a1_5, .int .i64 a1_6, .int .i64 a1_7, .int .i64 a1_8, .slice A1_9 l1_9.length c1_9, .slice A1_10 l1_10.length c1_10]) (t := 55) ?hr ?_; (case hd => rfl); (case hg => rfl); (case hr => first | (go_simp; done) | (go_simp; rfl)); intro gb102 hg w8 hbox hb; have n0_ := aq (blk_below (stB BK101) hb); have n1_ := aq (below_step (stH HB) hb); have n2_ := aq (hbox); have n3_ := aq ((by rw [hg]; exact (below_size (stH HB)) : w.heap.size ≤ gb102)); have n4_ := aq ((by rw [hg]; exact (below_size (stH HB)) : w.heap.size ≤ gb102)); have n5_ := aq ((by rw [hg]; exact Nat.ne_of_lt (blk_lt (stB BK101)) : gb101 ≠ gb102)); have n6_ := aq ((by rw [hg]; exact Nat.ne_of_gt (blk_lt (stB BK101)) : gb102 ≠ gb101)); replace BK101 := n0_; replace HB := n1_; have BK102 := n2_; have GW102 := n3_; have GE102 := n4_; have NB101_102 := n5_; have NB102_101 := n6_; clear n0_ n1_ n2_ n3_ n4_ n5_ n6_; clear hb hbox hg) | ((with_reducible refine gate_callee (f := 45) rfl ?_); refine goesL_ (some 15) rfl rfl Try.func45 (by kernel_rfl) rfl #[] rfl fitR ?_; (with_reducible refine (awake11.calls  true _ A4.out).mono ?_); rintro e w9 ⟨rfl, hb⟩; refine ⟨_, rfl, ?_⟩; have n0_ := aq (blk_below (stB BK101) hb); have n1_ := aq (blk_below (stB BK102) hb); have n2_ := aq (below_step (stH HB) hb); replace BK101 := n0_; replace BK102 := n1_; replace HB := n2_; clear n0_ n1_ n2_; (try clear hb)))
  (try simp only [Act.put, List.setIfInBounds_toArray, List.set_cons_zero, List.set_cons_succ])
  go_cut [27] (fun v27 wc => ∃ (kq : Nat) (x27_5 : Bool), v27 = .bool x27_5 ∧ Aside0 (seneschallaw11_NoteBack.j0 kq a2 x27_5 a0_0 a0_1 a0_2 a0_3 a0_4 a0_5 a0_6 a0_7 a0_8 l0_9 l0_10 a1_0 a1_1 a1_2 a1_3 a1_4 a1_5 a1_6 a1_7 a1_8 l1_9 l1_10 = some r) ∧ Aside0 (kq ≤ k) ∧ Aside0 (wc.heap[gb101]? = some (.cells #[.int .i64 a0_0, .int .i64 a0_1, .bool a0_2, .bool a0_3, .int .i64 a0_4, .int .i64 a0_5, .int .i64 a0_6, .int .i64 a0_7, .int .i64 a0_8, (.slice A0_9 l0_9.length c0_9), (.slice A0_10 l0_10.length c0_10)] 55 (0, 0))) ∧ Aside0 (wc.heap[gb102]? = some (.cells #[.int .i64 a1_0, .int .i64 a1_1, .bool a1_2, .bool a1_3, .int .i64 a1_4, .int .i64 a1_5, .int .i64 a1_6, .int .i64 a1_7, .int .i64 a1_8, (.slice A1_9 l1_9.length c1_9), (.slice A1_10 l1_10.length c1_10)] 55 (0, 0))) ∧ Aside0 (Below w.heap.size w wc))
  case first =>
   have H := HC6.out
   clear HC6
   replace H := Option.bind_eq_some_iff.mp H
   obtain ⟨t104, A100, H⟩ := H
   try dsimp only at H
   have A10 := aq A100
   clear A100
   by_cases c11 : t104 = true
   ·subst c11
    rw [if_pos rfl] at H
    have H' := aq H
    clear H
    have hnb12 := NB101_102.out
    have hnc12 := NB102_101.out
    obtain ⟨k13a, k13b, k13c, k13d, k13e, k13f, k13g, k13h, k13i, k13j, k13k⟩ := cl11 (W := w9) BK101.out
    obtain ⟨u13a, u13b, u13c, u13d, u13e, u13f, u13g, u13h, u13i, u13j, u13k⟩ := fr11 BK101.out
    go_wp2_with (first | ((with_reducible refine gate_callee (f := 61) rfl ?_); refine goesL_ (some 18) rfl rfl Try.func61 (by kernel_rfl) rfl #[.agg #[.int .i64 a0_0, .int .i64 a0_1, .bool a0_2, .bool a0_3, .int .i64 a0_4, .int .i64 a0_5, .int .i64 a0_6, .int .i64 a0_7, .int .i64 a0_8, .slice A0_9 l0_9.length c0_9, .slice A0_10 l0_10.length c0_10]] rfl fitR ?_; (with_reducible refine (great11.calls a0_0 a0_1 a0_2 a0_3 a0_4 a0_5 a0_6 a0_7 a0_8 _ _ l0_9 _ _ l0_10 true _ ?side1 ?side2 ?side3 ?side4 A10.out).mono ?_); (case side1 => exact stC (Kd.C_below HR0_9.out HB.out)); (case side2 => exact HC0_9.out); (case side3 => exact stC (Kd.C_below HR0_10.out HB.out)); (case side4 => exact HC0_10.out); rintro e w14 ⟨rfl, hb⟩; refine ⟨_, rfl, ?_⟩; have n0_ := aq (blk_below (stB BK101) hb); have n1_ := aq (blk_below (stB BK102) hb); have n2_ := aq (below_step (stH HB) hb); replace BK101 := n0_; replace BK102 := n1_; replace HB := n2_; clear n0_ n1_ n2_; (try clear hb)))
    go_meet
    case rel => exact ⟨_, (true), eqS, H', ⟨by first | omega | exact Nat.le_refl _⟩, ⟨stB BK101⟩, ⟨stB BK102⟩, ⟨stH HB⟩⟩
   ·replace c11 := Bool.eq_false_iff.mpr c11
    subst c11
    rw [if_neg (show ¬ (false = true) by decide)] at H
    replace H := Option.bind_eq_some_iff.mp H
    obtain ⟨t105, A150, H⟩ := H
    try dsimp only at H
    have A15 := aq A150
    clear A150
    by_cases c16 : t105 = true
    ·subst c16
     rw [if_pos rfl] at H
     have H' := aq H
     clear H
     have hnb17 := NB101_102.out
     have hnc17 := NB102_101.out
     obtain ⟨k18a, k18b, k18c, k18d, k18e, k18f, k18g, k18h, k18i, k18j, k18k⟩ := cl11 (W := w9) BK101.out
     obtain ⟨u18a, u18b, u18c, u18d, u18e, u18f, u18g, u18h, u18i, u18j, u18k⟩ := fr11 BK101.out
     go_wp2_with (first | ((with_reducible refine gate_callee (f := 61) rfl ?_); refine goesL_ (some 18) rfl rfl Try.func61 (by kernel_rfl) rfl #[.agg #[.int .i64 a0_0, .int .i64 a0_1, .bool a0_2, .bool a0_3, .int .i64 a0_4, .int .i64 a0_5, .int .i64 a0_6, .int .i64 a0_7, .int .i64 a0_8, .slice A0_9 l0_9.length c0_9, .slice A0_10 l0_10.length c0_10]] rfl fitR ?_; (with_reducible refine (great11.calls a0_0 a0_1 a0_2 a0_3 a0_4 a0_5 a0_6 a0_7 a0_8 _ _ l0_9 _ _ l0_10 false _ ?side1 ?side2 ?side3 ?side4 A10.out).mono ?_); (case side1 => exact stC (Kd.C_below HR0_9.out HB.out)); (case side2 => exact HC0_9.out); (case side3 => exact stC (Kd.C_below HR0_10.out HB.out)); (case side4 => exact HC0_10.out); rintro e w19 ⟨rfl, hb⟩; refine ⟨_, rfl, ?_⟩; have n0_ := aq (blk_below (stB BK101) hb); have n1_ := aq (blk_below (stB BK102) hb); have n2_ := aq (below_step (stH HB) hb); replace BK101 := n0_; replace BK102 := n1_; replace HB := n2_; clear n0_ n1_ n2_; (try clear hb); obtain ⟨k20a, k20b, k20c, k20d, k20e, k20f, k20g, k20h, k20i, k20j, k20k⟩ := cl11 (W := w19) BK102.out; obtain ⟨u20a, u20b, u20c, u20d, u20e, u20f, u20g, u20h, u20i, u20j, u20k⟩ := fr11 BK102.out) | (go_at_call 61; (with_reducible refine (great11.calls a1_0 a1_1 a1_2 a1_3 a1_4 a1_5 a1_6 a1_7 a1_8 _ _ l1_9 _ _ l1_10 true _ ?side1 ?side2 ?side3 ?side4 A15.out).mono ?_); (case side1 => exact stC (Kd.C_below HR1_9.out HB.out)); (case side2 => exact HC1_9.out); (case side3 => exact stC (Kd.C_below HR1_10.out HB.out)); (case side4 => exact HC1_10.out); rintro e w21 ⟨rfl, hb⟩; have n0_ := aq (blk_below (stB BK101) hb); have n1_ := aq (blk_below (stB BK102) hb); have n2_ := aq (below_step (stH HB) hb); replace BK101 := n0_; replace BK102 := n1_; replace HB := n2_; clear n0_ n1_ n2_; (try clear hb)))
     go_meet
     case rel => exact ⟨_, (true), eqS, H', ⟨by first | omega | exact Nat.le_refl _⟩, ⟨stB BK101⟩, ⟨stB BK102⟩, ⟨stH HB⟩⟩
    ·replace c16 := Bool.eq_false_iff.mpr c16
     subst c16
     rw [if_neg (show ¬ (false = true) by decide)] at H
     have H' := aq H
     clear H
     have hnb22 := NB101_102.out
     have hnc22 := NB102_101.out
     obtain ⟨k23a, k23b, k23c, k23d, k23e, k23f, k23g, k23h, k23i, k23j, k23k⟩ := cl11 (W := w9) BK101.out
     obtain ⟨u23a, u23b, u23c, u23d, u23e, u23f, u23g, u23h, u23i, u23j, u23k⟩ := fr11 BK101.out
     go_wp2_with (first | ((with_reducible refine gate_callee (f := 61) rfl ?_); refine goesL_ (some 18) rfl rfl Try.func61 (by kernel_rfl) rfl #[.agg #[.int .i64 a0_0, .int .i64 a0_1, .bool a0_2, .bool a0_3, .int .i64 a0_4, .int .i64 a0_5, .int .i64 a0_6, .int .i64 a0_7, .int .i64 a0_8, .slice A0_9 l0_9.length c0_9, .slice A0_10 l0_10.length c0_10]] rfl fitR ?_; (with_reducible refine (great11.calls a0_0 a0_1 a0_2 a0_3 a0_4 a0_5 a0_6 a0_7 a0_8 _ _ l0_9 _ _ l0_10 false _ ?side1 ?side2 ?side3 ?side4 A10.out).mono ?_); (case side1 => exact stC (Kd.C_below HR0_9.out HB.out)); (case side2 => exact HC0_9.out); (case side3 => exact stC (Kd.C_below HR0_10.out HB.out)); (case side4 => exact HC0_10.out); rintro e w24 ⟨rfl, hb⟩; refine ⟨_, rfl, ?_⟩; have n0_ := aq (blk_below (stB BK101) hb); have n1_ := aq (blk_below (stB BK102) hb); have n2_ := aq (below_step (stH HB) hb); replace BK101 := n0_; replace BK102 := n1_; replace HB := n2_; clear n0_ n1_ n2_; (try clear hb); obtain ⟨k25a, k25b, k25c, k25d, k25e, k25f, k25g, k25h, k25i, k25j, k25k⟩ := cl11 (W := w24) BK102.out; obtain ⟨u25a, u25b, u25c, u25d, u25e, u25f, u25g, u25h, u25i, u25j, u25k⟩ := fr11 BK102.out) | (go_at_call 61; (with_reducible refine (great11.calls a1_0 a1_1 a1_2 a1_3 a1_4 a1_5 a1_6 a1_7 a1_8 _ _ l1_9 _ _ l1_10 false _ ?side1 ?side2 ?side3 ?side4 A15.out).mono ?_); (case side1 => exact stC (Kd.C_below HR1_9.out HB.out)); (case side2 => exact HC1_9.out); (case side3 => exact stC (Kd.C_below HR1_10.out HB.out)); (case side4 => exact HC1_10.out); rintro e w26 ⟨rfl, hb⟩; have n0_ := aq (blk_below (stB BK101) hb); have n1_ := aq (blk_below (stB BK102) hb); have n2_ := aq (below_step (stH HB) hb); replace BK101 := n0_; replace BK102 := n1_; replace HB := n2_; clear n0_ n1_ n2_; (try clear hb)))
     go_meet
     case rel => exact ⟨_, (decide ((a2.size : Int) > 65536)), eqS, H', ⟨by first | omega | exact Nat.le_refl _⟩, ⟨stB BK101⟩, ⟨stB BK102⟩, ⟨stH HB⟩⟩
  case rest =>
   clear HC6
   try clear c1
   try clear c2
   try clear p2
   try clear c4
   try clear c5
   try clear c6
   try clear c11
   try clear c12
   try clear c16
   try clear c17
   try clear c22
   obtain ⟨kq, x27_5, rfl, HA, HJ5, BK101, BK102, HB⟩ := hcut
   cases kq with
   | zero => exact absurd HA.out (by simp [seneschallaw11_NoteBack.j0])
   | succ kj5 =>
    have H := HA.out
    clear HA
    simp only [seneschallaw11_NoteBack.j0] at H
    by_cases c27 : x27_5 = true
    ·subst c27
     rw [if_pos rfl] at H
     obtain rfl := Option.some.inj H
     go_wp2
     go_ret
     exact ⟨eqW, by repeat (first | (with_reducible first | exact HB.out | apply below_alloc | apply pw_below_drewN | apply below_drew1 | refine below_set ?_ GE101.out | refine below_set ?_ GE102.out) | exact HB.out)⟩
    ·replace c27 := Bool.eq_false_iff.mpr c27
     subst c27
     rw [if_neg (show ¬ (false = true) by decide)] at H
     replace H := Option.bind_eq_some_iff.mp H
     obtain ⟨⟨t106, t107⟩, A280, H⟩ := H
     try dsimp only at H
     have A28 := aq A280
     clear A280
     replace H := Option.bind_eq_some_iff.mp H
     obtain ⟨⟨t108, t109⟩, A290, H⟩ := H
     try dsimp only at H
     have A29 := aq A290
     clear A290
     replace H := Option.bind_eq_some_iff.mp H
     obtain ⟨t110, A300, H⟩ := H
     try dsimp only at H
     have A30 := aq A300
     clear A300
     by_cases c31 : ((t107 == 0) != t110) = true
     ·rw [if_pos c31] at H
      have c31b0 : ((t107 == 0) != t110) = true := c31
      (try (have c31b1 : decide ((t107 == 0) = t110) = false := by simpa using c31))
      (try (have c31b2 : ((t107 == 0) == t110) = false := by simpa using c31))
      (try (have c31b3 : ¬ ((t107 == 0) = t110) := by simpa using c31))
      clear c31
      obtain rfl := Option.some.inj H
      exact absurd HRT.out (by decide)
     ·rw [if_neg c31] at H
      have c31b0 : ((t107 == 0) != t110) = false := by simpa using c31
      (try (have c31b1 : decide ((t107 == 0) = t110) = true := by simpa using c31))
      (try (have c31b2 : ((t107 == 0) == t110) = true := by simpa using c31))
      clear c31
      have HC32 := aq H
      clear H
      have hnb33 := NB101_102.out
      have hnc33 := NB102_101.out
      obtain ⟨k34a, k34b, k34c, k34d, k34e, k34f, k34g, k34h, k34i, k34j, k34k⟩ := cl11 (W := wc) BK101.out
      obtain ⟨u34a, u34b, u34c, u34d, u34e, u34f, u34g, u34h, u34i, u34j, u34k⟩ := fr11 BK101.out
      go_upto_if 44 with (first | ((with_reducible refine gate_callee (f := 62) rfl ?_); refine goesL_ (some 30) rfl rfl Try.func62 (by kernel_rfl) rfl #[.agg #[.int .i64 a0_0, .int .i64 a0_1, .bool a0_2, .bool a0_3, .int .i64 a0_4, .int .i64 a0_5, .int .i64 a0_6, .int .i64 a0_7, .int .i64 a0_8, .slice A0_9 l0_9.length c0_9, .slice A0_10 l0_10.length c0_10]] rfl fitR ?_; (with_reducible refine (noteEnc.calls a0_0 a0_1 a0_2 a0_3 a0_4 a0_5 a0_6 a0_7 a0_8 _ _ l0_9 _ _ l0_10 t106 t107 _ ?side1 ?side2 ?side3 ?side4 A28.out).mono ?_); (case side1 => exact stC (Kd.C_below HR0_9.out HB.out)); (case side2 => exact HC0_9.out); (case side3 => exact stC (Kd.C_below HR0_10.out HB.out)); (case side4 => exact HC0_10.out); rintro e w35 ⟨rfl, hb⟩; refine ⟨_, rfl, ?_⟩; have n0_ := aq (blk_below (stB BK101) hb); have n1_ := aq (blk_below (stB BK102) hb); have n2_ := aq (below_step (stH HB) hb); replace BK101 := n0_; replace BK102 := n1_; replace HB := n2_; clear n0_ n1_ n2_; (try clear hb); obtain ⟨k36a, k36b, k36c, k36d, k36e, k36f, k36g, k36h, k36i, k36j, k36k⟩ := cl11 (W := w35) BK102.out; obtain ⟨u36a, u36b, u36c, u36d, u36e, u36f, u36g, u36h, u36i, u36j, u36k⟩ := fr11 BK102.out) | ((with_reducible refine gate_callee (f := 62) rfl ?_); refine goesL_ (some 35) rfl rfl Try.func62 (by kernel_rfl) rfl #[.agg #[.int .i64 a1_0, .int .i64 a1_1, .bool a1_2, .bool a1_3, .int .i64 a1_4, .int .i64 a1_5, .int .i64 a1_6, .int .i64 a1_7, .int .i64 a1_8, .slice A1_9 l1_9.length c1_9, .slice A1_10 l1_10.length c1_10]] rfl fitR ?_; (with_reducible refine (noteEnc.calls a1_0 a1_1 a1_2 a1_3 a1_4 a1_5 a1_6 a1_7 a1_8 _ _ l1_9 _ _ l1_10 t108 t109 _ ?side1 ?side2 ?side3 ?side4 A29.out).mono ?_); (case side1 => exact stC (Kd.C_below HR1_9.out HB.out)); (case side2 => exact HC1_9.out); (case side3 => exact stC (Kd.C_below HR1_10.out HB.out)); (case side4 => exact HC1_10.out); rintro e w37 ⟨rfl, hb⟩; refine ⟨_, rfl, ?_⟩; have n0_ := aq (blk_below (stB BK101) hb); have n1_ := aq (blk_below (stB BK102) hb); have n2_ := aq (below_step (stH HB) hb); replace BK101 := n0_; replace BK102 := n1_; replace HB := n2_; clear n0_ n1_ n2_; (try clear hb); obtain ⟨k38a, k38b, k38c, k38d, k38e, k38f, k38g, k38h, k38i, k38j, k38k⟩ := cl11 (W := w37) BK101.out; obtain ⟨u38a, u38b, u38c, u38d, u38e, u38f, u38g, u38h, u38i, u38j, u38k⟩ := fr11 BK101.out) | ((with_reducible refine gate_callee (f := 49) rfl ?_); refine goesL_ (some 41) rfl rfl Try.func49 (by kernel_rfl) rfl #[.agg #[.int .i64 a0_0, .int .i64 a0_1, .bool a0_2, .bool a0_3, .int .i64 a0_4, .int .i64 a0_5, .int .i64 a0_6, .int .i64 a0_7, .int .i64 a0_8, .slice A0_9 l0_9.length c0_9, .slice A0_10 l0_10.length c0_10]] rfl fitR ?_; (with_reducible refine (noteGood.calls a0_0 a0_1 a0_2 a0_3 a0_4 a0_5 a0_6 a0_7 a0_8 _ _ l0_9 _ _ l0_10 t110 _ ?side1 ?side2 ?side3 ?side4 A30.out).mono ?_); (case side1 => exact stC (Kd.C_below HR0_9.out HB.out)); (case side2 => exact HC0_9.out); (case side3 => exact stC (Kd.C_below HR0_10.out HB.out)); (case side4 => exact HC0_10.out); rintro e w39 ⟨rfl, hb⟩; refine ⟨_, rfl, ?_⟩; have n0_ := aq (blk_below (stB BK101) hb); have n1_ := aq (blk_below (stB BK102) hb); have n2_ := aq (below_step (stH HB) hb); replace BK101 := n0_; replace BK102 := n1_; replace HB := n2_; clear n0_ n1_ n2_; (try clear hb)))
      (try simp only [Act.put, List.setIfInBounds_toArray, List.set_cons_zero, List.set_cons_succ])
      go_cut [] (fun wc => ∃ (kq : Nat), Aside0 (seneschallaw11_NoteBack.j1 kq a2 = some r) ∧ Aside0 (kq ≤ kj5) ∧ Aside0 (wc.heap[gb101]? = some (.cells #[.int .i64 a0_0, .int .i64 a0_1, .bool a0_2, .bool a0_3, .int .i64 a0_4, .int .i64 a0_5, .int .i64 a0_6, .int .i64 a0_7, .int .i64 a0_8, (.slice A0_9 l0_9.length c0_9), (.slice A0_10 l0_10.length c0_10)] 55 (0, 0))) ∧ Aside0 (wc.heap[gb102]? = some (.cells #[.int .i64 a1_0, .int .i64 a1_1, .bool a1_2, .bool a1_3, .int .i64 a1_4, .int .i64 a1_5, .int .i64 a1_6, .int .i64 a1_7, .int .i64 a1_8, (.slice A1_9 l1_9.length c1_9), (.slice A1_10 l1_10.length c1_10)] 55 (0, 0))) ∧ Aside0 (Below w.heap.size w wc))
      case first =>
       have H := HC32.out
       clear HC32
       by_cases c40 : t107 = 0
       ·rw [if_pos c40] at H
        have c40b0 : (t107 == 0) = true := beq_iff_eq.mpr c40
        have c40b1 : (t107 != 0) = false := bne_eq_false_iff_eq.mpr c40
        clear c40
        (first | rw [c40b0] | (simp only [i64_w, i32_w]; rw [c40b0]) | skip)
        replace H := Option.bind_eq_some_iff.mp H
        obtain ⟨⟨t111, t112, t113, t114, t115, t116, t117, t118, t119, t120, t123, t126⟩, A410, H⟩ := H
        try dsimp only at H
        have A41 := aq A410
        clear A410
        by_cases c42 : t126 = 0
        ·rw [if_pos c42] at H
         have c42b0 : (t126 == 0) = true := beq_iff_eq.mpr c42
         have c42b1 : (t126 != 0) = false := bne_eq_false_iff_eq.mpr c42
         clear c42
         replace H := Option.bind_eq_some_iff.mp H
         obtain ⟨t128, A430, H⟩ := H
         try dsimp only at H
         have A43 := aq A430
         clear A430
         by_cases c44 : t128 = true
         ·subst c44
          rw [if_pos rfl] at H
          by_cases c45 : t109 = 0
          ·rw [if_pos c45] at H
           have c45b0 : (t109 == 0) = true := beq_iff_eq.mpr c45
           have c45b1 : (t109 != 0) = false := bne_eq_false_iff_eq.mpr c45
           clear c45
           replace H := Option.bind_eq_some_iff.mp H
           obtain ⟨t129, A460, H⟩ := H
           try dsimp only at H
           have A46 := aq A460
           clear A460
           by_cases c47 : ((t106.toList == t108.toList) != t129) = true
           ·rw [if_pos c47] at H
            have c47b0 : ((t106.toList == t108.toList) != t129) = true := c47
            (try (have c47b1 : decide ((t106.toList == t108.toList) = t129) = false := by simpa using c47))
            (try (have c47b2 : ((t106.toList == t108.toList) == t129) = false := by simpa using c47))
            (try (have c47b3 : ¬ ((t106.toList == t108.toList) = t129) := by simpa using c47))
            clear c47
            obtain rfl := Option.some.inj H
            exact absurd HRT.out (by decide)
           ·rw [if_neg c47] at H
            have c47b0 : ((t106.toList == t108.toList) != t129) = false := by simpa using c47
            (try (have c47b1 : decide ((t106.toList == t108.toList) = t129) = true := by simpa using c47))
            (try (have c47b2 : ((t106.toList == t108.toList) == t129) = true := by simpa using c47))
            clear c47
            have H' := aq H
            clear H
            go_wp2_with (first | ((with_reducible refine gate_callee (f := 47) rfl ?_); refine goesL_ (some 47) rfl rfl Try.func47 (by kernel_rfl) rfl #[.string t106] rfl fitR ?_; (with_reducible refine (noteDec.calls t106 t111 t112 t113 t114 t115 t116 t117 t118 t119 t120 t123 t126 _ A41.out).mono ?_); rintro e w48 ⟨v121, v124, rfl, ho0, ho1, hb⟩; refine ⟨_, rfl, ?_⟩; have n0_ := aq (Kd.R_lower ho0 (below_size (stH HB))); have n1_ := aq (Kd.R_lower ho1 (below_size (stH HB))); have n2_ := aq (blk_below (stB BK101) hb); have n3_ := aq (blk_below (stB BK102) hb); have n4_ := aq (below_step (stH HB) hb); have HO122 := n0_; have HO125 := n1_; replace BK101 := n2_; replace BK102 := n3_; replace HB := n4_; clear n0_ n1_ n2_ n3_ n4_; (try clear hb); (try clear ho0); (try clear ho1)) | ((with_reducible refine gate_dst (N := 11) rfl ?_); (try (refine gate_guard (by rfl) ?_; dsimp only)); refine box_event ?hg (N := 11) ?hd (cs := #[.int .i64 0, .int .i64 0, .bool false, .bool false, .int .i64 0, .int .i64 0, .int .i64 0, .int .i64 0, .int .i64 0, .slice none 0 0, .slice none 0 0]) (t := 55) ?hr ?_; (case hd => rfl); (case hg => rfl); (case hr => first | (go_simp; done) | (go_simp; rfl)); intro gb127 hg w49 hbox hb; have n0_ := aq (Kd.R_below (by (with_reducible repeat (first | apply Kd.R_alloc | apply Kd.R_drewN | apply Kd.R_drew)); exact HO122.out) hb); have n1_ := aq (Kd.R_below (by (with_reducible repeat (first | apply Kd.R_alloc | apply Kd.R_drewN | apply Kd.R_drew)); exact HO125.out) hb); have n2_ := aq (blk_below (stB BK101) hb); have n3_ := aq (blk_below (stB BK102) hb); have n4_ := aq (below_step (stH HB) hb); have n5_ := aq (hbox); have n6_ := aq ((by rw [hg]; exact (below_size (stH HB)) : w.heap.size ≤ gb127)); have n7_ := aq ((by rw [hg]; exact (below_size (stH HB)) : w.heap.size ≤ gb127)); have n8_ := aq ((by rw [hg]; exact Nat.ne_of_lt (blk_lt (stB BK101)) : gb101 ≠ gb127)); have n9_ := aq ((by rw [hg]; exact Nat.ne_of_gt (blk_lt (stB BK101)) : gb127 ≠ gb101)); have n10_ := aq ((by rw [hg]; exact Nat.ne_of_lt (blk_lt (stB BK102)) : gb102 ≠ gb127)); have n11_ := aq ((by rw [hg]; exact Nat.ne_of_gt (blk_lt (stB BK102)) : gb127 ≠ gb102)); replace HO122 := n0_; replace HO125 := n1_; replace BK101 := n2_; replace BK102 := n3_; replace HB := n4_; have BK127 := n5_; have GW127 := n6_; have GE127 := n7_; have NB101_127 := n8_; have NB127_101 := n9_; have NB102_127 := n10_; have NB127_102 := n11_; clear n0_ n1_ n2_ n3_ n4_ n5_ n6_ n7_ n8_ n9_ n10_ n11_; clear hb hbox hg; have hnb50 := NB127_101.out; have hnc50 := NB101_127.out; have hnb51 := NB127_102.out; have hnc51 := NB102_127.out; obtain ⟨k52a, k52b, k52c, k52d, k52e, k52f, k52g, k52h, k52i, k52j, k52k⟩ := cl11 (W := w49) BK127.out; obtain ⟨u52a, u52b, u52c, u52d, u52e, u52f, u52g, u52h, u52i, u52j, u52k⟩ := fr11 BK127.out; obtain ⟨Ao53, co53, eo53⟩ := Kd.R_slice HO122.out; subst eo53; obtain ⟨Ao54, co54, eo54⟩ := Kd.R_slice HO125.out; subst eo54; have hnb55 := NB101_102.out; have hnc55 := NB102_101.out; obtain ⟨k56a, k56b, k56c, k56d, k56e, k56f, k56g, k56h, k56i, k56j, k56k⟩ := cl11 (W := w49) BK101.out; obtain ⟨u56a, u56b, u56c, u56d, u56e, u56f, u56g, u56h, u56i, u56j, u56k⟩ := fr11 BK101.out) | (go_at_call 48; (with_reducible refine (refSame11.calls t111 t112 t113 t114 t115 t116 t117 t118 t119 _ _ t120 _ _ t123 a0_0 a0_1 a0_2 a0_3 a0_4 a0_5 a0_6 a0_7 a0_8 _ _ l0_9 _ _ l0_10 true _ ?side1 ?side2 ?side3 ?side4 ?side5 ?side6 ?side7 ?side8 A43.out).mono ?_); (case side1 => refine (Kd.R_reads' (e := 33) (base := w.heap.size) (ok := fun k_ => True) (n := t120.length) (c := co53) ?_).2.2; exact (by (with_reducible repeat (first | apply Kd.R_alloc | apply Kd.R_drewN | apply Kd.R_drew)); exact (Kd.R_mono (Kd.R_far (p := ⟨gb127, 10, none⟩) (Kd.R_far (p := ⟨gb127, 9, none⟩) (Kd.R_far (p := ⟨gb127, 8, none⟩) (Kd.R_far (p := ⟨gb127, 7, none⟩) (Kd.R_far (p := ⟨gb127, 6, none⟩) (Kd.R_far (p := ⟨gb127, 5, none⟩) (Kd.R_far (p := ⟨gb127, 4, none⟩) (Kd.R_far (p := ⟨gb127, 3, none⟩) (Kd.R_far (p := ⟨gb127, 2, none⟩) (Kd.R_far (p := ⟨gb127, 1, none⟩) (Kd.R_far (p := ⟨gb127, 0, none⟩) (Kd.R_types HO122.out BK127.out (by decide)) (fun _ hk => hk.2) (.int .i64 t111)) (fun _ hk => hk.2) (.int .i64 t112)) (fun _ hk => hk.2) (.bool t113)) (fun _ hk => hk.2) (.bool t114)) (fun _ hk => hk.2) (.int .i64 t115)) (fun _ hk => hk.2) (.int .i64 t116)) (fun _ hk => hk.2) (.int .i64 t117)) (fun _ hk => hk.2) (.int .i64 t118)) (fun _ hk => hk.2) (.int .i64 t119)) (fun _ hk => hk.2) (.slice Ao53 t120.length co53)) (fun _ hk => hk.2) (.slice Ao54 t123.length co54)) (fun _ h_ => h_.1)))); (case side2 => exact (Kd.R_reads' HO122.out).2.1); (case side3 => refine (Kd.R_reads' (e := 65) (base := w.heap.size) (ok := fun k_ => True) (n := t123.length) (c := co54) ?_).2.2; exact (by (with_reducible repeat (first | apply Kd.R_alloc | apply Kd.R_drewN | apply Kd.R_drew)); exact (Kd.R_mono (Kd.R_far (p := ⟨gb127, 10, none⟩) (Kd.R_far (p := ⟨gb127, 9, none⟩) (Kd.R_far (p := ⟨gb127, 8, none⟩) (Kd.R_far (p := ⟨gb127, 7, none⟩) (Kd.R_far (p := ⟨gb127, 6, none⟩) (Kd.R_far (p := ⟨gb127, 5, none⟩) (Kd.R_far (p := ⟨gb127, 4, none⟩) (Kd.R_far (p := ⟨gb127, 3, none⟩) (Kd.R_far (p := ⟨gb127, 2, none⟩) (Kd.R_far (p := ⟨gb127, 1, none⟩) (Kd.R_far (p := ⟨gb127, 0, none⟩) (Kd.R_types HO125.out BK127.out (by decide)) (fun _ hk => hk.2) (.int .i64 t111)) (fun _ hk => hk.2) (.int .i64 t112)) (fun _ hk => hk.2) (.bool t113)) (fun _ hk => hk.2) (.bool t114)) (fun _ hk => hk.2) (.int .i64 t115)) (fun _ hk => hk.2) (.int .i64 t116)) (fun _ hk => hk.2) (.int .i64 t117)) (fun _ hk => hk.2) (.int .i64 t118)) (fun _ hk => hk.2) (.int .i64 t119)) (fun _ hk => hk.2) (.slice Ao53 t120.length co53)) (fun _ hk => hk.2) (.slice Ao54 t123.length co54)) (fun _ h_ => h_.1)))); (case side4 => exact (Kd.R_reads' HO125.out).2.1); (case side5 => exact Kd.C_below HR0_9.out (stH HB)); (case side6 => exact HC0_9.out); (case side7 => exact Kd.C_below HR0_10.out (stH HB)); (case side8 => exact HC0_10.out); rintro e w57 ⟨rfl, hb⟩; have n0_ := aq (Kd.R_below (by (with_reducible repeat (first | apply Kd.R_alloc | apply Kd.R_drewN | apply Kd.R_drew)); exact (Kd.R_mono (Kd.R_far (p := ⟨gb127, 10, none⟩) (Kd.R_far (p := ⟨gb127, 9, none⟩) (Kd.R_far (p := ⟨gb127, 8, none⟩) (Kd.R_far (p := ⟨gb127, 7, none⟩) (Kd.R_far (p := ⟨gb127, 6, none⟩) (Kd.R_far (p := ⟨gb127, 5, none⟩) (Kd.R_far (p := ⟨gb127, 4, none⟩) (Kd.R_far (p := ⟨gb127, 3, none⟩) (Kd.R_far (p := ⟨gb127, 2, none⟩) (Kd.R_far (p := ⟨gb127, 1, none⟩) (Kd.R_far (p := ⟨gb127, 0, none⟩) (Kd.R_types HO122.out BK127.out (by decide)) (fun _ hk => hk.2) (.int .i64 t111)) (fun _ hk => hk.2) (.int .i64 t112)) (fun _ hk => hk.2) (.bool t113)) (fun _ hk => hk.2) (.bool t114)) (fun _ hk => hk.2) (.int .i64 t115)) (fun _ hk => hk.2) (.int .i64 t116)) (fun _ hk => hk.2) (.int .i64 t117)) (fun _ hk => hk.2) (.int .i64 t118)) (fun _ hk => hk.2) (.int .i64 t119)) (fun _ hk => hk.2) (.slice Ao53 t120.length co53)) (fun _ hk => hk.2) (.slice Ao54 t123.length co54)) (fun _ h_ => h_.1))) hb); have n1_ := aq (Kd.R_below (by (with_reducible repeat (first | apply Kd.R_alloc | apply Kd.R_drewN | apply Kd.R_drew)); exact (Kd.R_mono (Kd.R_far (p := ⟨gb127, 10, none⟩) (Kd.R_far (p := ⟨gb127, 9, none⟩) (Kd.R_far (p := ⟨gb127, 8, none⟩) (Kd.R_far (p := ⟨gb127, 7, none⟩) (Kd.R_far (p := ⟨gb127, 6, none⟩) (Kd.R_far (p := ⟨gb127, 5, none⟩) (Kd.R_far (p := ⟨gb127, 4, none⟩) (Kd.R_far (p := ⟨gb127, 3, none⟩) (Kd.R_far (p := ⟨gb127, 2, none⟩) (Kd.R_far (p := ⟨gb127, 1, none⟩) (Kd.R_far (p := ⟨gb127, 0, none⟩) (Kd.R_types HO125.out BK127.out (by decide)) (fun _ hk => hk.2) (.int .i64 t111)) (fun _ hk => hk.2) (.int .i64 t112)) (fun _ hk => hk.2) (.bool t113)) (fun _ hk => hk.2) (.bool t114)) (fun _ hk => hk.2) (.int .i64 t115)) (fun _ hk => hk.2) (.int .i64 t116)) (fun _ hk => hk.2) (.int .i64 t117)) (fun _ hk => hk.2) (.int .i64 t118)) (fun _ hk => hk.2) (.int .i64 t119)) (fun _ hk => hk.2) (.slice Ao53 t120.length co53)) (fun _ hk => hk.2) (.slice Ao54 t123.length co54)) (fun _ h_ => h_.1))) hb); have n2_ := aq (blk_below (g := gb101) (o := .cells #[.int .i64 a0_0, .int .i64 a0_1, .bool a0_2, .bool a0_3, .int .i64 a0_4, .int .i64 a0_5, .int .i64 a0_6, .int .i64 a0_7, .int .i64 a0_8, .slice A0_9 l0_9.length c0_9, .slice A0_10 l0_10.length c0_10] 55 (0, 0)) (stF BK101) hb); have n3_ := aq (blk_below (g := gb102) (o := .cells #[.int .i64 a1_0, .int .i64 a1_1, .bool a1_2, .bool a1_3, .int .i64 a1_4, .int .i64 a1_5, .int .i64 a1_6, .int .i64 a1_7, .int .i64 a1_8, .slice A1_9 l1_9.length c1_9, .slice A1_10 l1_10.length c1_10] 55 (0, 0)) (stF BK102) hb); have n4_ := aq (blk_below (g := gb127) (o := .cells #[.int .i64 t111, .int .i64 t112, .bool t113, .bool t114, .int .i64 t115, .int .i64 t116, .int .i64 t117, .int .i64 t118, .int .i64 t119, .slice Ao53 t120.length co53, .slice Ao54 t123.length co54] 55 (0, 0)) (by (with_reducible repeat (first | refine blk_drewN ?_ _ | refine blk_drew ?_ | refine blk_alloc ?_ _)); refine puts11 (cs := #[.int .i64 0, .int .i64 0, .bool false, .bool false, .int .i64 0, .int .i64 0, .int .i64 0, .int .i64 0, .int .i64 0, .slice none 0 0, .slice none 0 0]) rfl ?_; (with_reducible repeat (first | refine blk_drewN ?_ _ | refine blk_drew ?_ | refine blk_alloc ?_ _)); exact BK127.out) hb); have n5_ := aq (below_step (stH HB) hb); replace HO122 := n0_; replace HO125 := n1_; replace BK101 := n2_; replace BK102 := n3_; replace BK127 := n4_; replace HB := n5_; clear n0_ n1_ n2_ n3_ n4_ n5_; (try clear hb); (try clear hk); obtain ⟨k58a, k58b, k58c, k58d, k58e, k58f, k58g, k58h, k58i, k58j, k58k⟩ := cl11 (W := w57) BK101.out; obtain ⟨u58a, u58b, u58c, u58d, u58e, u58f, u58g, u58h, u58i, u58j, u58k⟩ := fr11 BK101.out; obtain ⟨k59a, k59b, k59c, k59d, k59e, k59f, k59g, k59h, k59i, k59j, k59k⟩ := cl11 (W := w57) BK102.out; obtain ⟨u59a, u59b, u59c, u59d, u59e, u59f, u59g, u59h, u59i, u59j, u59k⟩ := fr11 BK102.out) | (go_at_call 48; (with_reducible refine (refSame11.calls a0_0 a0_1 a0_2 a0_3 a0_4 a0_5 a0_6 a0_7 a0_8 _ _ l0_9 _ _ l0_10 a1_0 a1_1 a1_2 a1_3 a1_4 a1_5 a1_6 a1_7 a1_8 _ _ l1_9 _ _ l1_10 t129 _ ?side1 ?side2 ?side3 ?side4 ?side5 ?side6 ?side7 ?side8 A46.out).mono ?_); (case side1 => exact stC (Kd.C_below HR0_9.out HB.out)); (case side2 => exact HC0_9.out); (case side3 => exact stC (Kd.C_below HR0_10.out HB.out)); (case side4 => exact HC0_10.out); (case side5 => exact stC (Kd.C_below HR1_9.out HB.out)); (case side6 => exact HC1_9.out); (case side7 => exact stC (Kd.C_below HR1_10.out HB.out)); (case side8 => exact HC1_10.out); rintro e w60 ⟨rfl, hb⟩; have n0_ := aq (Kd.R_below (by (with_reducible repeat (first | apply Kd.R_alloc | apply Kd.R_drewN | apply Kd.R_drew)); exact HO122.out) hb); have n1_ := aq (Kd.R_below (by (with_reducible repeat (first | apply Kd.R_alloc | apply Kd.R_drewN | apply Kd.R_drew)); exact HO125.out) hb); have n2_ := aq (blk_below (stB BK101) hb); have n3_ := aq (blk_below (stB BK102) hb); have n4_ := aq (blk_below (stB BK127) hb); have n5_ := aq (below_step (stH HB) hb); replace HO122 := n0_; replace HO125 := n1_; replace BK101 := n2_; replace BK102 := n3_; replace BK127 := n4_; replace HB := n5_; clear n0_ n1_ n2_ n3_ n4_ n5_; (try clear hb)))
            go_meet
            case rel => exact ⟨_, H', ⟨by have := HJ5.out; first | omega | exact Nat.le_refl _⟩, ⟨stB BK101⟩, ⟨stB BK102⟩, ⟨stH HB⟩⟩
          ·rw [if_neg c45] at H
           have c45b0 : (t109 == 0) = false := beq_eq_false_iff_ne.mpr c45
           have c45b1 : (t109 != 0) = true := bne_iff_ne.mpr c45
           have H' := aq H
           clear H
           go_wp2_with (first | ((with_reducible refine gate_callee (f := 47) rfl ?_); refine goesL_ (some 47) rfl rfl Try.func47 (by kernel_rfl) rfl #[.string t106] rfl fitR ?_; (with_reducible refine (noteDec.calls t106 t111 t112 t113 t114 t115 t116 t117 t118 t119 t120 t123 t126 _ A41.out).mono ?_); rintro e w61 ⟨v121, v124, rfl, ho0, ho1, hb⟩; refine ⟨_, rfl, ?_⟩; have n0_ := aq (Kd.R_lower ho0 (below_size (stH HB))); have n1_ := aq (Kd.R_lower ho1 (below_size (stH HB))); have n2_ := aq (blk_below (stB BK101) hb); have n3_ := aq (blk_below (stB BK102) hb); have n4_ := aq (below_step (stH HB) hb); have HO122 := n0_; have HO125 := n1_; replace BK101 := n2_; replace BK102 := n3_; replace HB := n4_; clear n0_ n1_ n2_ n3_ n4_; (try clear hb); (try clear ho0); (try clear ho1)) | ((with_reducible refine gate_dst (N := 11) rfl ?_); (try (refine gate_guard (by rfl) ?_; dsimp only)); refine box_event ?hg (N := 11) ?hd (cs := #[.int .i64 0, .int .i64 0, .bool false, .bool false, .int .i64 0, .int .i64 0, .int .i64 0, .int .i64 0, .int .i64 0, .slice none 0 0, .slice none 0 0]) (t := 55) ?hr ?_; (case hd => rfl); (case hg => rfl); (case hr => first | (go_simp; done) | (go_simp; rfl)); intro gb127 hg w62 hbox hb; have n0_ := aq (Kd.R_below (by (with_reducible repeat (first | apply Kd.R_alloc | apply Kd.R_drewN | apply Kd.R_drew)); exact HO122.out) hb); have n1_ := aq (Kd.R_below (by (with_reducible repeat (first | apply Kd.R_alloc | apply Kd.R_drewN | apply Kd.R_drew)); exact HO125.out) hb); have n2_ := aq (blk_below (stB BK101) hb); have n3_ := aq (blk_below (stB BK102) hb); have n4_ := aq (below_step (stH HB) hb); have n5_ := aq (hbox); have n6_ := aq ((by rw [hg]; exact (below_size (stH HB)) : w.heap.size ≤ gb127)); have n7_ := aq ((by rw [hg]; exact (below_size (stH HB)) : w.heap.size ≤ gb127)); have n8_ := aq ((by rw [hg]; exact Nat.ne_of_lt (blk_lt (stB BK101)) : gb101 ≠ gb127)); have n9_ := aq ((by rw [hg]; exact Nat.ne_of_gt (blk_lt (stB BK101)) : gb127 ≠ gb101)); have n10_ := aq ((by rw [hg]; exact Nat.ne_of_lt (blk_lt (stB BK102)) : gb102 ≠ gb127)); have n11_ := aq ((by rw [hg]; exact Nat.ne_of_gt (blk_lt (stB BK102)) : gb127 ≠ gb102)); replace HO122 := n0_; replace HO125 := n1_; replace BK101 := n2_; replace BK102 := n3_; replace HB := n4_; have BK127 := n5_; have GW127 := n6_; have GE127 := n7_; have NB101_127 := n8_; have NB127_101 := n9_; have NB102_127 := n10_; have NB127_102 := n11_; clear n0_ n1_ n2_ n3_ n4_ n5_ n6_ n7_ n8_ n9_ n10_ n11_; clear hb hbox hg; have hnb63 := NB127_101.out; have hnc63 := NB101_127.out; have hnb64 := NB127_102.out; have hnc64 := NB102_127.out; obtain ⟨k65a, k65b, k65c, k65d, k65e, k65f, k65g, k65h, k65i, k65j, k65k⟩ := cl11 (W := w62) BK127.out; obtain ⟨u65a, u65b, u65c, u65d, u65e, u65f, u65g, u65h, u65i, u65j, u65k⟩ := fr11 BK127.out; obtain ⟨Ao66, co66, eo66⟩ := Kd.R_slice HO122.out; subst eo66; obtain ⟨Ao67, co67, eo67⟩ := Kd.R_slice HO125.out; subst eo67; have hnb68 := NB101_102.out; have hnc68 := NB102_101.out; obtain ⟨k69a, k69b, k69c, k69d, k69e, k69f, k69g, k69h, k69i, k69j, k69k⟩ := cl11 (W := w62) BK101.out; obtain ⟨u69a, u69b, u69c, u69d, u69e, u69f, u69g, u69h, u69i, u69j, u69k⟩ := fr11 BK101.out) | (go_at_call 48; (with_reducible refine (refSame11.calls t111 t112 t113 t114 t115 t116 t117 t118 t119 _ _ t120 _ _ t123 a0_0 a0_1 a0_2 a0_3 a0_4 a0_5 a0_6 a0_7 a0_8 _ _ l0_9 _ _ l0_10 true _ ?side1 ?side2 ?side3 ?side4 ?side5 ?side6 ?side7 ?side8 A43.out).mono ?_); (case side1 => refine (Kd.R_reads' (e := 33) (base := w.heap.size) (ok := fun k_ => True) (n := t120.length) (c := co66) ?_).2.2; exact (by (with_reducible repeat (first | apply Kd.R_alloc | apply Kd.R_drewN | apply Kd.R_drew)); exact (Kd.R_mono (Kd.R_far (p := ⟨gb127, 10, none⟩) (Kd.R_far (p := ⟨gb127, 9, none⟩) (Kd.R_far (p := ⟨gb127, 8, none⟩) (Kd.R_far (p := ⟨gb127, 7, none⟩) (Kd.R_far (p := ⟨gb127, 6, none⟩) (Kd.R_far (p := ⟨gb127, 5, none⟩) (Kd.R_far (p := ⟨gb127, 4, none⟩) (Kd.R_far (p := ⟨gb127, 3, none⟩) (Kd.R_far (p := ⟨gb127, 2, none⟩) (Kd.R_far (p := ⟨gb127, 1, none⟩) (Kd.R_far (p := ⟨gb127, 0, none⟩) (Kd.R_types HO122.out BK127.out (by decide)) (fun _ hk => hk.2) (.int .i64 t111)) (fun _ hk => hk.2) (.int .i64 t112)) (fun _ hk => hk.2) (.bool t113)) (fun _ hk => hk.2) (.bool t114)) (fun _ hk => hk.2) (.int .i64 t115)) (fun _ hk => hk.2) (.int .i64 t116)) (fun _ hk => hk.2) (.int .i64 t117)) (fun _ hk => hk.2) (.int .i64 t118)) (fun _ hk => hk.2) (.int .i64 t119)) (fun _ hk => hk.2) (.slice Ao66 t120.length co66)) (fun _ hk => hk.2) (.slice Ao67 t123.length co67)) (fun _ h_ => h_.1)))); (case side2 => exact (Kd.R_reads' HO122.out).2.1); (case side3 => refine (Kd.R_reads' (e := 65) (base := w.heap.size) (ok := fun k_ => True) (n := t123.length) (c := co67) ?_).2.2; exact (by (with_reducible repeat (first | apply Kd.R_alloc | apply Kd.R_drewN | apply Kd.R_drew)); exact (Kd.R_mono (Kd.R_far (p := ⟨gb127, 10, none⟩) (Kd.R_far (p := ⟨gb127, 9, none⟩) (Kd.R_far (p := ⟨gb127, 8, none⟩) (Kd.R_far (p := ⟨gb127, 7, none⟩) (Kd.R_far (p := ⟨gb127, 6, none⟩) (Kd.R_far (p := ⟨gb127, 5, none⟩) (Kd.R_far (p := ⟨gb127, 4, none⟩) (Kd.R_far (p := ⟨gb127, 3, none⟩) (Kd.R_far (p := ⟨gb127, 2, none⟩) (Kd.R_far (p := ⟨gb127, 1, none⟩) (Kd.R_far (p := ⟨gb127, 0, none⟩) (Kd.R_types HO125.out BK127.out (by decide)) (fun _ hk => hk.2) (.int .i64 t111)) (fun _ hk => hk.2) (.int .i64 t112)) (fun _ hk => hk.2) (.bool t113)) (fun _ hk => hk.2) (.bool t114)) (fun _ hk => hk.2) (.int .i64 t115)) (fun _ hk => hk.2) (.int .i64 t116)) (fun _ hk => hk.2) (.int .i64 t117)) (fun _ hk => hk.2) (.int .i64 t118)) (fun _ hk => hk.2) (.int .i64 t119)) (fun _ hk => hk.2) (.slice Ao66 t120.length co66)) (fun _ hk => hk.2) (.slice Ao67 t123.length co67)) (fun _ h_ => h_.1)))); (case side4 => exact (Kd.R_reads' HO125.out).2.1); (case side5 => exact Kd.C_below HR0_9.out (stH HB)); (case side6 => exact HC0_9.out); (case side7 => exact Kd.C_below HR0_10.out (stH HB)); (case side8 => exact HC0_10.out); rintro e w70 ⟨rfl, hb⟩; have n0_ := aq (Kd.R_below (by (with_reducible repeat (first | apply Kd.R_alloc | apply Kd.R_drewN | apply Kd.R_drew)); exact (Kd.R_mono (Kd.R_far (p := ⟨gb127, 10, none⟩) (Kd.R_far (p := ⟨gb127, 9, none⟩) (Kd.R_far (p := ⟨gb127, 8, none⟩) (Kd.R_far (p := ⟨gb127, 7, none⟩) (Kd.R_far (p := ⟨gb127, 6, none⟩) (Kd.R_far (p := ⟨gb127, 5, none⟩) (Kd.R_far (p := ⟨gb127, 4, none⟩) (Kd.R_far (p := ⟨gb127, 3, none⟩) (Kd.R_far (p := ⟨gb127, 2, none⟩) (Kd.R_far (p := ⟨gb127, 1, none⟩) (Kd.R_far (p := ⟨gb127, 0, none⟩) (Kd.R_types HO122.out BK127.out (by decide)) (fun _ hk => hk.2) (.int .i64 t111)) (fun _ hk => hk.2) (.int .i64 t112)) (fun _ hk => hk.2) (.bool t113)) (fun _ hk => hk.2) (.bool t114)) (fun _ hk => hk.2) (.int .i64 t115)) (fun _ hk => hk.2) (.int .i64 t116)) (fun _ hk => hk.2) (.int .i64 t117)) (fun _ hk => hk.2) (.int .i64 t118)) (fun _ hk => hk.2) (.int .i64 t119)) (fun _ hk => hk.2) (.slice Ao66 t120.length co66)) (fun _ hk => hk.2) (.slice Ao67 t123.length co67)) (fun _ h_ => h_.1))) hb); have n1_ := aq (Kd.R_below (by (with_reducible repeat (first | apply Kd.R_alloc | apply Kd.R_drewN | apply Kd.R_drew)); exact (Kd.R_mono (Kd.R_far (p := ⟨gb127, 10, none⟩) (Kd.R_far (p := ⟨gb127, 9, none⟩) (Kd.R_far (p := ⟨gb127, 8, none⟩) (Kd.R_far (p := ⟨gb127, 7, none⟩) (Kd.R_far (p := ⟨gb127, 6, none⟩) (Kd.R_far (p := ⟨gb127, 5, none⟩) (Kd.R_far (p := ⟨gb127, 4, none⟩) (Kd.R_far (p := ⟨gb127, 3, none⟩) (Kd.R_far (p := ⟨gb127, 2, none⟩) (Kd.R_far (p := ⟨gb127, 1, none⟩) (Kd.R_far (p := ⟨gb127, 0, none⟩) (Kd.R_types HO125.out BK127.out (by decide)) (fun _ hk => hk.2) (.int .i64 t111)) (fun _ hk => hk.2) (.int .i64 t112)) (fun _ hk => hk.2) (.bool t113)) (fun _ hk => hk.2) (.bool t114)) (fun _ hk => hk.2) (.int .i64 t115)) (fun _ hk => hk.2) (.int .i64 t116)) (fun _ hk => hk.2) (.int .i64 t117)) (fun _ hk => hk.2) (.int .i64 t118)) (fun _ hk => hk.2) (.int .i64 t119)) (fun _ hk => hk.2) (.slice Ao66 t120.length co66)) (fun _ hk => hk.2) (.slice Ao67 t123.length co67)) (fun _ h_ => h_.1))) hb); have n2_ := aq (blk_below (g := gb101) (o := .cells #[.int .i64 a0_0, .int .i64 a0_1, .bool a0_2, .bool a0_3, .int .i64 a0_4, .int .i64 a0_5, .int .i64 a0_6, .int .i64 a0_7, .int .i64 a0_8, .slice A0_9 l0_9.length c0_9, .slice A0_10 l0_10.length c0_10] 55 (0, 0)) (stF BK101) hb); have n3_ := aq (blk_below (g := gb102) (o := .cells #[.int .i64 a1_0, .int .i64 a1_1, .bool a1_2, .bool a1_3, .int .i64 a1_4, .int .i64 a1_5, .int .i64 a1_6, .int .i64 a1_7, .int .i64 a1_8, .slice A1_9 l1_9.length c1_9, .slice A1_10 l1_10.length c1_10] 55 (0, 0)) (stF BK102) hb); have n4_ := aq (blk_below (g := gb127) (o := .cells #[.int .i64 t111, .int .i64 t112, .bool t113, .bool t114, .int .i64 t115, .int .i64 t116, .int .i64 t117, .int .i64 t118, .int .i64 t119, .slice Ao66 t120.length co66, .slice Ao67 t123.length co67] 55 (0, 0)) (by (with_reducible repeat (first | refine blk_drewN ?_ _ | refine blk_drew ?_ | refine blk_alloc ?_ _)); refine puts11 (cs := #[.int .i64 0, .int .i64 0, .bool false, .bool false, .int .i64 0, .int .i64 0, .int .i64 0, .int .i64 0, .int .i64 0, .slice none 0 0, .slice none 0 0]) rfl ?_; (with_reducible repeat (first | refine blk_drewN ?_ _ | refine blk_drew ?_ | refine blk_alloc ?_ _)); exact BK127.out) hb); have n5_ := aq (below_step (stH HB) hb); replace HO122 := n0_; replace HO125 := n1_; replace BK101 := n2_; replace BK102 := n3_; replace BK127 := n4_; replace HB := n5_; clear n0_ n1_ n2_ n3_ n4_ n5_; (try clear hb); (try clear hk)))
           go_meet
           case rel => exact ⟨_, H', ⟨by have := HJ5.out; first | omega | exact Nat.le_refl _⟩, ⟨stB BK101⟩, ⟨stB BK102⟩, ⟨stH HB⟩⟩
         ·replace c44 := Bool.eq_false_iff.mpr c44
          subst c44
          rw [if_neg (show ¬ (false = true) by decide)] at H
          obtain rfl := Option.some.inj H
          exact absurd HRT.out (by decide)
        ·rw [if_neg c42] at H
         have c42b0 : (t126 == 0) = false := beq_eq_false_iff_ne.mpr c42
         have c42b1 : (t126 != 0) = true := bne_iff_ne.mpr c42
         obtain rfl := Option.some.inj H
         exact absurd HRT.out (by decide)
       ·rw [if_neg c40] at H
        have c40b0 : (t107 == 0) = false := beq_eq_false_iff_ne.mpr c40
        have c40b1 : (t107 != 0) = true := bne_iff_ne.mpr c40
        (first | rw [c40b0] | (simp only [i64_w, i32_w]; rw [c40b0]) | skip)
        have H' := aq H
        clear H
        go_wp2
        go_meet
        case rel => exact ⟨_, H', ⟨by have := HJ5.out; first | omega | exact Nat.le_refl _⟩, ⟨stB BK101⟩, ⟨stB BK102⟩, ⟨stH HB⟩⟩
      case rest =>
       clear HC32
       try clear k34a k34b k34c k34d k34e k34f k34g k34h k34i k34j k34k
       try clear u34a u34b u34c u34d u34e u34f u34g u34h u34i u34j u34k
       try clear k36a k36b k36c k36d k36e k36f k36g k36h k36i k36j k36k
       try clear u36a u36b u36c u36d u36e u36f u36g u36h u36i u36j u36k
       try clear k38a k38b k38c k38d k38e k38f k38g k38h k38i k38j k38k
       try clear u38a u38b u38c u38d u38e u38f u38g u38h u38i u38j u38k
       try clear c1
       try clear c2
       try clear p2
       try clear c3
       try clear c4
       try clear c5
       try clear c6
       try clear c11
       try clear c12
       try clear c16
       try clear c17
       try clear c22
       try clear c27
       try clear c28
       try clear c31
       try clear c31b0
       try clear c31b1
       try clear c31b2
       try clear c33
       try clear c40
       try clear c40b0
       try clear c40b1
       try clear c42
       try clear c42b0
       try clear c42b1
       try clear c44
       try clear c45
       try clear c45b0
       try clear c45b1
       try clear c47
       try clear c47b0
       try clear c47b1
       try clear c47b2
       try clear c49
       try clear c50
       try clear c51
       try clear c55
       try clear c61
       try clear c62
       try clear c63
       try clear c64
       try clear c68
       obtain ⟨kq, HA, HJ31, BK101, BK102, HB⟩ := hcut
       cases kq with
       | zero => exact absurd HA.out (by simp [seneschallaw11_NoteBack.j1])
       | succ kj31 =>
        have H := HA.out
        clear HA
        simp only [seneschallaw11_NoteBack.j1] at H
        replace H := Option.bind_eq_some_iff.mp H
        obtain ⟨⟨t130, t131, t132, t133, t134, t135, t136, t137, t138, t139, t142, t145⟩, A710, H⟩ := H
        try dsimp only at H
        have A71 := aq A710
        clear A710
        by_cases c72 : t145 = 0
        ·rw [if_pos c72] at H
         have c72b0 : (t145 == 0) = true := beq_iff_eq.mpr c72
         have c72b1 : (t145 != 0) = false := bne_eq_false_iff_eq.mpr c72
         clear c72
         replace H := Option.bind_eq_some_iff.mp H
         obtain ⟨⟨t147, t148⟩, A730, H⟩ := H
         try dsimp only at H
         have A73 := aq A730
         clear A730
         by_cases c74 : t147.toList = a2.toList
         ·rw [if_pos c74] at H
          have c74b0 : (t147.toList == a2.toList) = true := beq_iff_eq.mpr c74
          have c74b1 : (t147.toList != a2.toList) = false := bne_eq_false_iff_eq.mpr c74
          clear c74
          obtain rfl := Option.some.inj H
          go_wp2_with (first | ((with_reducible refine gate_callee (f := 47) rfl ?_); refine goesL_ (some 73) rfl rfl Try.func47 (by kernel_rfl) rfl #[.string a2] rfl fitR ?_; (with_reducible refine (noteDec.calls a2 t130 t131 t132 t133 t134 t135 t136 t137 t138 t139 t142 t145 _ A71.out).mono ?_); rintro e w75 ⟨v140, v143, rfl, ho0, ho1, hb⟩; refine ⟨_, rfl, ?_⟩; have n0_ := aq (Kd.R_lower ho0 (below_size (stH HB))); have n1_ := aq (Kd.R_lower ho1 (below_size (stH HB))); have n2_ := aq (blk_below (stB BK101) hb); have n3_ := aq (blk_below (stB BK102) hb); have n4_ := aq (below_step (stH HB) hb); have HO141 := n0_; have HO144 := n1_; replace BK101 := n2_; replace BK102 := n3_; replace HB := n4_; clear n0_ n1_ n2_ n3_ n4_; (try clear hb); (try clear ho0); (try clear ho1)) | ((with_reducible refine gate_dst (N := 13) rfl ?_); (try (refine gate_guard (by rfl) ?_; dsimp only)); refine box_event ?hg (N := 13) ?hd (cs := #[.int .i64 0, .int .i64 0, .bool false, .bool false, .int .i64 0, .int .i64 0, .int .i64 0, .int .i64 0, .int .i64 0, .slice none 0 0, .slice none 0 0]) (t := 55) ?hr ?_; (case hd => rfl); (case hg => rfl); (case hr => first | (go_simp; done) | (go_simp; rfl)); intro gb146 hg w76 hbox hb; have n0_ := aq (Kd.R_below (by (with_reducible repeat (first | apply Kd.R_alloc | apply Kd.R_drewN | apply Kd.R_drew)); exact HO141.out) hb); have n1_ := aq (Kd.R_below (by (with_reducible repeat (first | apply Kd.R_alloc | apply Kd.R_drewN | apply Kd.R_drew)); exact HO144.out) hb); have n2_ := aq (blk_below (stB BK101) hb); have n3_ := aq (blk_below (stB BK102) hb); have n4_ := aq (below_step (stH HB) hb); have n5_ := aq (hbox); have n6_ := aq ((by rw [hg]; exact (below_size (stH HB)) : w.heap.size ≤ gb146)); have n7_ := aq ((by rw [hg]; exact (below_size (stH HB)) : w.heap.size ≤ gb146)); have n8_ := aq ((by rw [hg]; exact Nat.ne_of_lt (blk_lt (stB BK101)) : gb101 ≠ gb146)); have n9_ := aq ((by rw [hg]; exact Nat.ne_of_gt (blk_lt (stB BK101)) : gb146 ≠ gb101)); have n10_ := aq ((by rw [hg]; exact Nat.ne_of_lt (blk_lt (stB BK102)) : gb102 ≠ gb146)); have n11_ := aq ((by rw [hg]; exact Nat.ne_of_gt (blk_lt (stB BK102)) : gb146 ≠ gb102)); replace HO141 := n0_; replace HO144 := n1_; replace BK101 := n2_; replace BK102 := n3_; replace HB := n4_; have BK146 := n5_; have GW146 := n6_; have GE146 := n7_; have NB101_146 := n8_; have NB146_101 := n9_; have NB102_146 := n10_; have NB146_102 := n11_; clear n0_ n1_ n2_ n3_ n4_ n5_ n6_ n7_ n8_ n9_ n10_ n11_; clear hb hbox hg; have hnb77 := NB146_101.out; have hnc77 := NB101_146.out; have hnb78 := NB146_102.out; have hnc78 := NB102_146.out; obtain ⟨k79a, k79b, k79c, k79d, k79e, k79f, k79g, k79h, k79i, k79j, k79k⟩ := cl11 (W := w76) BK146.out; obtain ⟨u79a, u79b, u79c, u79d, u79e, u79f, u79g, u79h, u79i, u79j, u79k⟩ := fr11 BK146.out; obtain ⟨Ao80, co80, eo80⟩ := Kd.R_slice HO141.out; subst eo80; obtain ⟨Ao81, co81, eo81⟩ := Kd.R_slice HO144.out; subst eo81) | ((with_reducible refine gate_callee (f := 62) rfl ?_); refine goesL_ (some 83) rfl rfl Try.func62 (by kernel_rfl) rfl #[.agg #[.int .i64 t130, .int .i64 t131, .bool t132, .bool t133, .int .i64 t134, .int .i64 t135, .int .i64 t136, .int .i64 t137, .int .i64 t138, .slice Ao80 t139.length co80, .slice Ao81 t142.length co81]] rfl fitR ?_; (with_reducible refine (noteEnc.calls t130 t131 t132 t133 t134 t135 t136 t137 t138 _ _ t139 _ _ t142 t147 t148 _ ?side1 ?side2 ?side3 ?side4 A73.out).mono ?_); (case side1 => refine (Kd.R_reads' (e := 33) (base := w.heap.size) (ok := fun k_ => True) (n := t139.length) (c := co80) ?_).2.2; exact (by (with_reducible repeat (first | apply Kd.R_alloc | apply Kd.R_drewN | apply Kd.R_drew)); exact (Kd.R_mono (Kd.R_far (p := ⟨gb146, 10, none⟩) (Kd.R_far (p := ⟨gb146, 9, none⟩) (Kd.R_far (p := ⟨gb146, 8, none⟩) (Kd.R_far (p := ⟨gb146, 7, none⟩) (Kd.R_far (p := ⟨gb146, 6, none⟩) (Kd.R_far (p := ⟨gb146, 5, none⟩) (Kd.R_far (p := ⟨gb146, 4, none⟩) (Kd.R_far (p := ⟨gb146, 3, none⟩) (Kd.R_far (p := ⟨gb146, 2, none⟩) (Kd.R_far (p := ⟨gb146, 1, none⟩) (Kd.R_far (p := ⟨gb146, 0, none⟩) (Kd.R_types HO141.out BK146.out (by decide)) (fun _ hk => hk.2) (.int .i64 t130)) (fun _ hk => hk.2) (.int .i64 t131)) (fun _ hk => hk.2) (.bool t132)) (fun _ hk => hk.2) (.bool t133)) (fun _ hk => hk.2) (.int .i64 t134)) (fun _ hk => hk.2) (.int .i64 t135)) (fun _ hk => hk.2) (.int .i64 t136)) (fun _ hk => hk.2) (.int .i64 t137)) (fun _ hk => hk.2) (.int .i64 t138)) (fun _ hk => hk.2) (.slice Ao80 t139.length co80)) (fun _ hk => hk.2) (.slice Ao81 t142.length co81)) (fun _ h_ => h_.1)))); (case side2 => exact (Kd.R_reads' HO141.out).2.1); (case side3 => refine (Kd.R_reads' (e := 65) (base := w.heap.size) (ok := fun k_ => True) (n := t142.length) (c := co81) ?_).2.2; exact (by (with_reducible repeat (first | apply Kd.R_alloc | apply Kd.R_drewN | apply Kd.R_drew)); exact (Kd.R_mono (Kd.R_far (p := ⟨gb146, 10, none⟩) (Kd.R_far (p := ⟨gb146, 9, none⟩) (Kd.R_far (p := ⟨gb146, 8, none⟩) (Kd.R_far (p := ⟨gb146, 7, none⟩) (Kd.R_far (p := ⟨gb146, 6, none⟩) (Kd.R_far (p := ⟨gb146, 5, none⟩) (Kd.R_far (p := ⟨gb146, 4, none⟩) (Kd.R_far (p := ⟨gb146, 3, none⟩) (Kd.R_far (p := ⟨gb146, 2, none⟩) (Kd.R_far (p := ⟨gb146, 1, none⟩) (Kd.R_far (p := ⟨gb146, 0, none⟩) (Kd.R_types HO144.out BK146.out (by decide)) (fun _ hk => hk.2) (.int .i64 t130)) (fun _ hk => hk.2) (.int .i64 t131)) (fun _ hk => hk.2) (.bool t132)) (fun _ hk => hk.2) (.bool t133)) (fun _ hk => hk.2) (.int .i64 t134)) (fun _ hk => hk.2) (.int .i64 t135)) (fun _ hk => hk.2) (.int .i64 t136)) (fun _ hk => hk.2) (.int .i64 t137)) (fun _ hk => hk.2) (.int .i64 t138)) (fun _ hk => hk.2) (.slice Ao80 t139.length co80)) (fun _ hk => hk.2) (.slice Ao81 t142.length co81)) (fun _ h_ => h_.1)))); (case side4 => exact (Kd.R_reads' HO144.out).2.1); rintro e w82 ⟨rfl, hb⟩; refine ⟨_, rfl, ?_⟩; have n0_ := aq (Kd.R_below (by (with_reducible repeat (first | apply Kd.R_alloc | apply Kd.R_drewN | apply Kd.R_drew)); exact (Kd.R_mono (Kd.R_far (p := ⟨gb146, 10, none⟩) (Kd.R_far (p := ⟨gb146, 9, none⟩) (Kd.R_far (p := ⟨gb146, 8, none⟩) (Kd.R_far (p := ⟨gb146, 7, none⟩) (Kd.R_far (p := ⟨gb146, 6, none⟩) (Kd.R_far (p := ⟨gb146, 5, none⟩) (Kd.R_far (p := ⟨gb146, 4, none⟩) (Kd.R_far (p := ⟨gb146, 3, none⟩) (Kd.R_far (p := ⟨gb146, 2, none⟩) (Kd.R_far (p := ⟨gb146, 1, none⟩) (Kd.R_far (p := ⟨gb146, 0, none⟩) (Kd.R_types HO141.out BK146.out (by decide)) (fun _ hk => hk.2) (.int .i64 t130)) (fun _ hk => hk.2) (.int .i64 t131)) (fun _ hk => hk.2) (.bool t132)) (fun _ hk => hk.2) (.bool t133)) (fun _ hk => hk.2) (.int .i64 t134)) (fun _ hk => hk.2) (.int .i64 t135)) (fun _ hk => hk.2) (.int .i64 t136)) (fun _ hk => hk.2) (.int .i64 t137)) (fun _ hk => hk.2) (.int .i64 t138)) (fun _ hk => hk.2) (.slice Ao80 t139.length co80)) (fun _ hk => hk.2) (.slice Ao81 t142.length co81)) (fun _ h_ => h_.1))) hb); have n1_ := aq (Kd.R_below (by (with_reducible repeat (first | apply Kd.R_alloc | apply Kd.R_drewN | apply Kd.R_drew)); exact (Kd.R_mono (Kd.R_far (p := ⟨gb146, 10, none⟩) (Kd.R_far (p := ⟨gb146, 9, none⟩) (Kd.R_far (p := ⟨gb146, 8, none⟩) (Kd.R_far (p := ⟨gb146, 7, none⟩) (Kd.R_far (p := ⟨gb146, 6, none⟩) (Kd.R_far (p := ⟨gb146, 5, none⟩) (Kd.R_far (p := ⟨gb146, 4, none⟩) (Kd.R_far (p := ⟨gb146, 3, none⟩) (Kd.R_far (p := ⟨gb146, 2, none⟩) (Kd.R_far (p := ⟨gb146, 1, none⟩) (Kd.R_far (p := ⟨gb146, 0, none⟩) (Kd.R_types HO144.out BK146.out (by decide)) (fun _ hk => hk.2) (.int .i64 t130)) (fun _ hk => hk.2) (.int .i64 t131)) (fun _ hk => hk.2) (.bool t132)) (fun _ hk => hk.2) (.bool t133)) (fun _ hk => hk.2) (.int .i64 t134)) (fun _ hk => hk.2) (.int .i64 t135)) (fun _ hk => hk.2) (.int .i64 t136)) (fun _ hk => hk.2) (.int .i64 t137)) (fun _ hk => hk.2) (.int .i64 t138)) (fun _ hk => hk.2) (.slice Ao80 t139.length co80)) (fun _ hk => hk.2) (.slice Ao81 t142.length co81)) (fun _ h_ => h_.1))) hb); have n2_ := aq (blk_below (g := gb101) (o := .cells #[.int .i64 a0_0, .int .i64 a0_1, .bool a0_2, .bool a0_3, .int .i64 a0_4, .int .i64 a0_5, .int .i64 a0_6, .int .i64 a0_7, .int .i64 a0_8, .slice A0_9 l0_9.length c0_9, .slice A0_10 l0_10.length c0_10] 55 (0, 0)) (stF BK101) hb); have n3_ := aq (blk_below (g := gb102) (o := .cells #[.int .i64 a1_0, .int .i64 a1_1, .bool a1_2, .bool a1_3, .int .i64 a1_4, .int .i64 a1_5, .int .i64 a1_6, .int .i64 a1_7, .int .i64 a1_8, .slice A1_9 l1_9.length c1_9, .slice A1_10 l1_10.length c1_10] 55 (0, 0)) (stF BK102) hb); have n4_ := aq (blk_below (g := gb146) (o := .cells #[.int .i64 t130, .int .i64 t131, .bool t132, .bool t133, .int .i64 t134, .int .i64 t135, .int .i64 t136, .int .i64 t137, .int .i64 t138, .slice Ao80 t139.length co80, .slice Ao81 t142.length co81] 55 (0, 0)) (by (with_reducible repeat (first | refine blk_drewN ?_ _ | refine blk_drew ?_ | refine blk_alloc ?_ _)); refine puts11 (cs := #[.int .i64 0, .int .i64 0, .bool false, .bool false, .int .i64 0, .int .i64 0, .int .i64 0, .int .i64 0, .int .i64 0, .slice none 0 0, .slice none 0 0]) rfl ?_; (with_reducible repeat (first | refine blk_drewN ?_ _ | refine blk_drew ?_ | refine blk_alloc ?_ _)); exact BK146.out) hb); have n5_ := aq (below_step (stH HB) hb); replace HO141 := n0_; replace HO144 := n1_; replace BK101 := n2_; replace BK102 := n3_; replace BK146 := n4_; replace HB := n5_; clear n0_ n1_ n2_ n3_ n4_ n5_; (try clear hb); (try clear hk)))
          go_ret
          exact ⟨eqW, by repeat (first | (with_reducible first | exact HB.out | apply below_alloc | apply pw_below_drewN | apply below_drew1 | refine below_set ?_ GE101.out | refine below_set ?_ GE102.out | refine below_set ?_ GE146.out) | exact HB.out)⟩
         ·rw [if_neg c74] at H
          have c74b0 : (t147.toList == a2.toList) = false := beq_eq_false_iff_ne.mpr c74
          have c74b1 : (t147.toList != a2.toList) = true := bne_iff_ne.mpr c74
          obtain rfl := Option.some.inj H
          exact absurd HRT.out (by decide)
        ·rw [if_neg c72] at H
         have c72b0 : (t145 == 0) = false := beq_eq_false_iff_ne.mpr c72
         have c72b1 : (t145 != 0) = true := bne_iff_ne.mpr c72
         replace H := Option.bind_eq_some_iff.mp H
         obtain ⟨t149, A830, H⟩ := H
         try dsimp only at H
         have A83 := aq A830
         clear A830
         obtain rfl := Option.some.inj H
         go_wp2_with (first | ((with_reducible refine gate_callee (f := 47) rfl ?_); refine goesL_ (some 73) rfl rfl Try.func47 (by kernel_rfl) rfl #[.string a2] rfl fitR ?_; (with_reducible refine (noteDec.calls a2 t130 t131 t132 t133 t134 t135 t136 t137 t138 t139 t142 t145 _ A71.out).mono ?_); rintro e w84 ⟨v140, v143, rfl, ho0, ho1, hb⟩; refine ⟨_, rfl, ?_⟩; have n0_ := aq (Kd.R_lower ho0 (below_size (stH HB))); have n1_ := aq (Kd.R_lower ho1 (below_size (stH HB))); have n2_ := aq (blk_below (stB BK101) hb); have n3_ := aq (blk_below (stB BK102) hb); have n4_ := aq (below_step (stH HB) hb); have HO141 := n0_; have HO144 := n1_; replace BK101 := n2_; replace BK102 := n3_; replace HB := n4_; clear n0_ n1_ n2_ n3_ n4_; (try clear hb); (try clear ho0); (try clear ho1)) | ((with_reducible refine gate_dst (N := 13) rfl ?_); (try (refine gate_guard (by rfl) ?_; dsimp only)); refine box_event ?hg (N := 13) ?hd (cs := #[.int .i64 0, .int .i64 0, .bool false, .bool false, .int .i64 0, .int .i64 0, .int .i64 0, .int .i64 0, .int .i64 0, .slice none 0 0, .slice none 0 0]) (t := 55) ?hr ?_; (case hd => rfl); (case hg => rfl); (case hr => first | (go_simp; done) | (go_simp; rfl)); intro gb146 hg w85 hbox hb; have n0_ := aq (Kd.R_below (by (with_reducible repeat (first | apply Kd.R_alloc | apply Kd.R_drewN | apply Kd.R_drew)); exact HO141.out) hb); have n1_ := aq (Kd.R_below (by (with_reducible repeat (first | apply Kd.R_alloc | apply Kd.R_drewN | apply Kd.R_drew)); exact HO144.out) hb); have n2_ := aq (blk_below (stB BK101) hb); have n3_ := aq (blk_below (stB BK102) hb); have n4_ := aq (below_step (stH HB) hb); have n5_ := aq (hbox); have n6_ := aq ((by rw [hg]; exact (below_size (stH HB)) : w.heap.size ≤ gb146)); have n7_ := aq ((by rw [hg]; exact (below_size (stH HB)) : w.heap.size ≤ gb146)); have n8_ := aq ((by rw [hg]; exact Nat.ne_of_lt (blk_lt (stB BK101)) : gb101 ≠ gb146)); have n9_ := aq ((by rw [hg]; exact Nat.ne_of_gt (blk_lt (stB BK101)) : gb146 ≠ gb101)); have n10_ := aq ((by rw [hg]; exact Nat.ne_of_lt (blk_lt (stB BK102)) : gb102 ≠ gb146)); have n11_ := aq ((by rw [hg]; exact Nat.ne_of_gt (blk_lt (stB BK102)) : gb146 ≠ gb102)); replace HO141 := n0_; replace HO144 := n1_; replace BK101 := n2_; replace BK102 := n3_; replace HB := n4_; have BK146 := n5_; have GW146 := n6_; have GE146 := n7_; have NB101_146 := n8_; have NB146_101 := n9_; have NB102_146 := n10_; have NB146_102 := n11_; clear n0_ n1_ n2_ n3_ n4_ n5_ n6_ n7_ n8_ n9_ n10_ n11_; clear hb hbox hg; have hnb86 := NB146_101.out; have hnc86 := NB101_146.out; have hnb87 := NB146_102.out; have hnc87 := NB102_146.out; obtain ⟨k88a, k88b, k88c, k88d, k88e, k88f, k88g, k88h, k88i, k88j, k88k⟩ := cl11 (W := w85) BK146.out; obtain ⟨u88a, u88b, u88c, u88d, u88e, u88f, u88g, u88h, u88i, u88j, u88k⟩ := fr11 BK146.out; obtain ⟨Ao89, co89, eo89⟩ := Kd.R_slice HO141.out; subst eo89; obtain ⟨Ao90, co90, eo90⟩ := Kd.R_slice HO144.out; subst eo90) | ((with_reducible refine gate_callee (f := 48) rfl ?_); refine goesL_ (some 80) rfl rfl Try.func48 (by kernel_rfl) rfl #[.agg #[.int .i64 t130, .int .i64 t131, .bool t132, .bool t133, .int .i64 t134, .int .i64 t135, .int .i64 t136, .int .i64 t137, .int .i64 t138, .slice Ao89 t139.length co89, .slice Ao90 t142.length co90], .agg #[.int .i64 0, .int .i64 0, .bool false, .bool false, .int .i64 0, .int .i64 0, .int .i64 0, .int .i64 0, .int .i64 0, .slice none 0 0, .slice none 0 0]] rfl fitR ?_; (refine (refSame11.calls t130 t131 t132 t133 t134 t135 t136 t137 t138 _ _ t139 _ _ t142 0 0 false false 0 0 0 0 0 _ _ ([] : List (S33)) _ _ ([] : List (S65)) t149 _ ?side1 ?side2 ?side3 ?side4 ?side5 ?side6 ?side7 ?side8 A83.out).mono ?_); (case side1 => refine (Kd.R_reads' (e := 33) (base := w.heap.size) (ok := fun k_ => True) (n := t139.length) (c := co89) ?_).2.2; exact (by (with_reducible repeat (first | apply Kd.R_alloc | apply Kd.R_drewN | apply Kd.R_drew)); exact (Kd.R_mono (Kd.R_far (p := ⟨gb146, 10, none⟩) (Kd.R_far (p := ⟨gb146, 9, none⟩) (Kd.R_far (p := ⟨gb146, 8, none⟩) (Kd.R_far (p := ⟨gb146, 7, none⟩) (Kd.R_far (p := ⟨gb146, 6, none⟩) (Kd.R_far (p := ⟨gb146, 5, none⟩) (Kd.R_far (p := ⟨gb146, 4, none⟩) (Kd.R_far (p := ⟨gb146, 3, none⟩) (Kd.R_far (p := ⟨gb146, 2, none⟩) (Kd.R_far (p := ⟨gb146, 1, none⟩) (Kd.R_far (p := ⟨gb146, 0, none⟩) (Kd.R_types HO141.out BK146.out (by decide)) (fun _ hk => hk.2) (.int .i64 t130)) (fun _ hk => hk.2) (.int .i64 t131)) (fun _ hk => hk.2) (.bool t132)) (fun _ hk => hk.2) (.bool t133)) (fun _ hk => hk.2) (.int .i64 t134)) (fun _ hk => hk.2) (.int .i64 t135)) (fun _ hk => hk.2) (.int .i64 t136)) (fun _ hk => hk.2) (.int .i64 t137)) (fun _ hk => hk.2) (.int .i64 t138)) (fun _ hk => hk.2) (.slice Ao89 t139.length co89)) (fun _ hk => hk.2) (.slice Ao90 t142.length co90)) (fun _ h_ => h_.1)))); (case side2 => exact (Kd.R_reads' HO141.out).2.1); (case side3 => refine (Kd.R_reads' (e := 65) (base := w.heap.size) (ok := fun k_ => True) (n := t142.length) (c := co90) ?_).2.2; exact (by (with_reducible repeat (first | apply Kd.R_alloc | apply Kd.R_drewN | apply Kd.R_drew)); exact (Kd.R_mono (Kd.R_far (p := ⟨gb146, 10, none⟩) (Kd.R_far (p := ⟨gb146, 9, none⟩) (Kd.R_far (p := ⟨gb146, 8, none⟩) (Kd.R_far (p := ⟨gb146, 7, none⟩) (Kd.R_far (p := ⟨gb146, 6, none⟩) (Kd.R_far (p := ⟨gb146, 5, none⟩) (Kd.R_far (p := ⟨gb146, 4, none⟩) (Kd.R_far (p := ⟨gb146, 3, none⟩) (Kd.R_far (p := ⟨gb146, 2, none⟩) (Kd.R_far (p := ⟨gb146, 1, none⟩) (Kd.R_far (p := ⟨gb146, 0, none⟩) (Kd.R_types HO144.out BK146.out (by decide)) (fun _ hk => hk.2) (.int .i64 t130)) (fun _ hk => hk.2) (.int .i64 t131)) (fun _ hk => hk.2) (.bool t132)) (fun _ hk => hk.2) (.bool t133)) (fun _ hk => hk.2) (.int .i64 t134)) (fun _ hk => hk.2) (.int .i64 t135)) (fun _ hk => hk.2) (.int .i64 t136)) (fun _ hk => hk.2) (.int .i64 t137)) (fun _ hk => hk.2) (.int .i64 t138)) (fun _ hk => hk.2) (.slice Ao89 t139.length co89)) (fun _ hk => hk.2) (.slice Ao90 t142.length co90)) (fun _ h_ => h_.1)))); (case side4 => exact (Kd.R_reads' HO144.out).2.1); (case side5 => exact Kd.C_nil _ _); (case side6 => exact Nat.le_refl _); (case side7 => exact Kd.C_nil _ _); (case side8 => exact Nat.le_refl _); rintro e w91 ⟨rfl, hb⟩; refine ⟨_, rfl, ?_⟩; have n0_ := aq (Kd.R_below (by (with_reducible repeat (first | apply Kd.R_alloc | apply Kd.R_drewN | apply Kd.R_drew)); exact (Kd.R_mono (Kd.R_far (p := ⟨gb146, 10, none⟩) (Kd.R_far (p := ⟨gb146, 9, none⟩) (Kd.R_far (p := ⟨gb146, 8, none⟩) (Kd.R_far (p := ⟨gb146, 7, none⟩) (Kd.R_far (p := ⟨gb146, 6, none⟩) (Kd.R_far (p := ⟨gb146, 5, none⟩) (Kd.R_far (p := ⟨gb146, 4, none⟩) (Kd.R_far (p := ⟨gb146, 3, none⟩) (Kd.R_far (p := ⟨gb146, 2, none⟩) (Kd.R_far (p := ⟨gb146, 1, none⟩) (Kd.R_far (p := ⟨gb146, 0, none⟩) (Kd.R_types HO141.out BK146.out (by decide)) (fun _ hk => hk.2) (.int .i64 t130)) (fun _ hk => hk.2) (.int .i64 t131)) (fun _ hk => hk.2) (.bool t132)) (fun _ hk => hk.2) (.bool t133)) (fun _ hk => hk.2) (.int .i64 t134)) (fun _ hk => hk.2) (.int .i64 t135)) (fun _ hk => hk.2) (.int .i64 t136)) (fun _ hk => hk.2) (.int .i64 t137)) (fun _ hk => hk.2) (.int .i64 t138)) (fun _ hk => hk.2) (.slice Ao89 t139.length co89)) (fun _ hk => hk.2) (.slice Ao90 t142.length co90)) (fun _ h_ => h_.1))) hb); have n1_ := aq (Kd.R_below (by (with_reducible repeat (first | apply Kd.R_alloc | apply Kd.R_drewN | apply Kd.R_drew)); exact (Kd.R_mono (Kd.R_far (p := ⟨gb146, 10, none⟩) (Kd.R_far (p := ⟨gb146, 9, none⟩) (Kd.R_far (p := ⟨gb146, 8, none⟩) (Kd.R_far (p := ⟨gb146, 7, none⟩) (Kd.R_far (p := ⟨gb146, 6, none⟩) (Kd.R_far (p := ⟨gb146, 5, none⟩) (Kd.R_far (p := ⟨gb146, 4, none⟩) (Kd.R_far (p := ⟨gb146, 3, none⟩) (Kd.R_far (p := ⟨gb146, 2, none⟩) (Kd.R_far (p := ⟨gb146, 1, none⟩) (Kd.R_far (p := ⟨gb146, 0, none⟩) (Kd.R_types HO144.out BK146.out (by decide)) (fun _ hk => hk.2) (.int .i64 t130)) (fun _ hk => hk.2) (.int .i64 t131)) (fun _ hk => hk.2) (.bool t132)) (fun _ hk => hk.2) (.bool t133)) (fun _ hk => hk.2) (.int .i64 t134)) (fun _ hk => hk.2) (.int .i64 t135)) (fun _ hk => hk.2) (.int .i64 t136)) (fun _ hk => hk.2) (.int .i64 t137)) (fun _ hk => hk.2) (.int .i64 t138)) (fun _ hk => hk.2) (.slice Ao89 t139.length co89)) (fun _ hk => hk.2) (.slice Ao90 t142.length co90)) (fun _ h_ => h_.1))) hb); have n2_ := aq (blk_below (g := gb101) (o := .cells #[.int .i64 a0_0, .int .i64 a0_1, .bool a0_2, .bool a0_3, .int .i64 a0_4, .int .i64 a0_5, .int .i64 a0_6, .int .i64 a0_7, .int .i64 a0_8, .slice A0_9 l0_9.length c0_9, .slice A0_10 l0_10.length c0_10] 55 (0, 0)) (stF BK101) hb); have n3_ := aq (blk_below (g := gb102) (o := .cells #[.int .i64 a1_0, .int .i64 a1_1, .bool a1_2, .bool a1_3, .int .i64 a1_4, .int .i64 a1_5, .int .i64 a1_6, .int .i64 a1_7, .int .i64 a1_8, .slice A1_9 l1_9.length c1_9, .slice A1_10 l1_10.length c1_10] 55 (0, 0)) (stF BK102) hb); have n4_ := aq (blk_below (g := gb146) (o := .cells #[.int .i64 t130, .int .i64 t131, .bool t132, .bool t133, .int .i64 t134, .int .i64 t135, .int .i64 t136, .int .i64 t137, .int .i64 t138, .slice Ao89 t139.length co89, .slice Ao90 t142.length co90] 55 (0, 0)) (by (with_reducible repeat (first | refine blk_drewN ?_ _ | refine blk_drew ?_ | refine blk_alloc ?_ _)); refine puts11 (cs := #[.int .i64 0, .int .i64 0, .bool false, .bool false, .int .i64 0, .int .i64 0, .int .i64 0, .int .i64 0, .int .i64 0, .slice none 0 0, .slice none 0 0]) rfl ?_; (with_reducible repeat (first | refine blk_drewN ?_ _ | refine blk_drew ?_ | refine blk_alloc ?_ _)); exact BK146.out) hb); have n5_ := aq (below_step (stH HB) hb); replace HO141 := n0_; replace HO144 := n1_; replace BK101 := n2_; replace BK102 := n3_; replace BK146 := n4_; replace HB := n5_; clear n0_ n1_ n2_ n3_ n4_ n5_; (try clear hb); (try clear hk)))
         go_ret
         exact ⟨eqW, by repeat (first | (with_reducible first | exact HB.out | apply below_alloc | apply pw_below_drewN | apply below_drew1 | refine below_set ?_ GE101.out | refine below_set ?_ GE102.out | refine below_set ?_ GE146.out) | exact HB.out)⟩
 ·replace c5 := Bool.eq_false_iff.mpr c5
  subst c5
  rw [if_neg (show ¬ (false = true) by decide)] at H
  obtain rfl := Option.some.inj H
  exact absurd HRT.out (by decide)
end Go.Proofs.Ytfjmnaobfbmllaa.M
namespace Go.Proofs.Ytfjmnaobfbmllaa.M
open Go.RowKit Go.Proofs.YtfjmnaobfbmllaaW.PrintWords Go.Proofs.YtfjmnaobfbmllaaW.PrintLast Go.Proofs.YtfjmnaobfbmllaaW.PrintMore
set_option linter.unusedVariables false
set_option linter.unusedSimpArgs false
theorem good_len {x : S55} (h : GoodM x) : x.f6.f1.length ≤ 4611686018427387904 ∧ x.f7.length ≤ 4611686018427387904 := by
  obtain ⟨h0, h1, h2, h3, h5, h4, h6, h7, h8⟩ := h
  constructor
  · split at h6
    · have := (good_iff _ _).mp h6; omega
    · rw [h6.2]; decide
  · split at h7
    · omega
    · rw [h7]; decide
theorem back_j1 (k : Nat) (s : ByteArray) (hs : s.size ≤ 4611686018427387904) : seneschallaw11_NoteBack.j1 (k + 1) s = some true := by
  simp only [seneschallaw11_NoteBack.j1]
  unfold noteDec.f
  rw [if_pos hs, Option.bind_some]
  unfold msgTup
  simp only
  by_cases h0 : (decM s).2 = 0
  · obtain ⟨hg, he⟩ := decM_ok h0
    rw [if_pos h0]
    unfold noteEnc.f
    rw [Option.bind_some, show msg (decM s).1.f0 (decM s).1.f1 (decM s).1.f2 (decM s).1.f3 (decM s).1.f4 (decM s).1.f5.f0 (decM s).1.f5.f1 (decM s).1.f5.f2 (decM s).1.f6.f0 (decM s).1.f6.f1 (decM s).1.f7 = (decM s).1 from rfl, if_pos (by rw [← he]), encM_good hg]
    rfl
  · rw [if_neg h0, decM_err h0]
    rfl
theorem back_j0 (k : Nat) (s : ByteArray) (hs : s.size ≤ 4611686018427387904) (b : Bool) (x0 x1 : S55) : seneschallaw11_NoteBack.j0 (k + 2) s b x0.f0 x0.f1 x0.f2 x0.f3 x0.f4 x0.f5.f0 x0.f5.f1 x0.f5.f2 x0.f6.f0 x0.f6.f1 x0.f7 x1.f0 x1.f1 x1.f2 x1.f3 x1.f4 x1.f5.f0 x1.f5.f1 x1.f5.f2 x1.f6.f0 x1.f6.f1 x1.f7 = some true := by
  simp only [seneschallaw11_NoteBack.j0]
  cases b with
  | true => rw [if_pos rfl]
  | false =>
    rw [if_neg Bool.false_ne_true]
    unfold noteEnc.f noteGood.f refSame11.f
    rw [Option.bind_some, Option.bind_some, Option.bind_some, show msg x0.f0 x0.f1 x0.f2 x0.f3 x0.f4 x0.f5.f0 x0.f5.f1 x0.f5.f2 x0.f6.f0 x0.f6.f1 x0.f7 = x0 from rfl, show msg x1.f0 x1.f1 x1.f2 x1.f3 x1.f4 x1.f5.f0 x1.f5.f1 x1.f5.f2 x1.f6.f0 x1.f6.f1 x1.f7 = x1 from rfl]
    by_cases hg : GoodM x0
    · have h1 := encM_size hg
      have h2 := bdy_size hg
      have hl := good_len hg
      have e2 : (encM x0).2 = 0 := by rw [encM_good hg]
      rw [e2, decide_eq_true hg, if_neg (by decide), if_pos rfl]
      unfold noteDec.f
      rw [if_pos (by omega), Option.bind_some, decM_enc hg]
      unfold msgTup
      simp only
      rw [if_pos trivial, if_pos hl, Option.bind_some, if_pos (by decide)]
      by_cases hy : GoodM x1
      · have e3 : (encM x1).2 = 0 := by rw [encM_good hy]
        rw [if_pos e3, if_pos hl, Option.bind_some, ba_beq]
        have e4 : decide ((encM x0).1 = (encM x1).1) = decide (x0 = x1) := decide_eq_decide.mpr (encM_inj hg hy)
        rw [e4, if_neg (by cases decide (x0 = x1) <;> decide)]
        exact back_j1 k s hs
      · have e3 : (encM x1).2 = 1 := by rw [encM_bad hy]
        rw [if_neg (by rw [e3]; decide)]
        exact back_j1 k s hs
    · have e2 : (encM x0).2 = 1 := by rw [encM_bad hg]
      rw [e2, decide_eq_false hg, if_neg (by decide), if_neg (by decide)]
      exact back_j1 k s hs
theorem pureNoteBack (x0 x1 : S55) (a2 : ByteArray) (w2 : a2.size ≤ 140737488351232) : ∃ k, seneschallaw11_NoteBack.f k x0.f0 x0.f1 x0.f2 x0.f3 x0.f4 x0.f5.f0 x0.f5.f1 x0.f5.f2 x0.f6.f0 x0.f6.f1 x0.f7 x1.f0 x1.f1 x1.f2 x1.f3 x1.f4 x1.f5.f0 x1.f5.f1 x1.f5.f2 x1.f6.f0 x1.f6.f1 x1.f7 a2 = some true := by
  refine ⟨2, ?_⟩
  unfold seneschallaw11_NoteBack.f awake11.f great11.f
  have hj := fun b => back_j0 0 a2 (by omega) b x0 x1
  rw [Option.bind_some, if_pos rfl, Option.bind_some, Option.bind_some]
  split
  · exact hj _
  · split
    · exact hj _
    · exact hj _
end Go.Proofs.Ytfjmnaobfbmllaa.M
namespace Go.Proofs.Ytfjmnaobfbmllaa.noteBack
open Go.ChangeShapes Go.WideShapes Go.ChangeAt Go.RowKit Go.Proofs.Ytfjmnaobfbmllaa.M
open Go.Proofs.YtfjmnaobfbmllaaW.PrintWords Go.Proofs.YtfjmnaobfbmllaaW.PrintLast Go.Proofs.YtfjmnaobfbmllaaW.PrintMore
open Go.ChangeMaps (open_string shut_string)
set_option linter.unusedVariables false
theorem own : ownKnob Try.prog.godebug = none := by kernel_rfl
theorem laidOut : laidOutB Try.prog = true := by kernel_rfl
set_option maxRecDepth 100000 in
theorem lifted (os : Os) (started : os.Started) (H : Type) (enc : TypeId × Value → H) :
    ReturnsInHanded {} Try.checked os 28 .any (Rows.noteBackSpec.pre6 enc Try.prog Try.f28 Rows.noteBackRow.domain false) (Rows.noteBackSpec.post enc Try.prog Try.f28 false true false false) := by
  refine returnsInHanded_of_change_sized (C := Try.checked) own started (by kernel_rfl) Try.func28
    (ChangeSpec.witness6 (enc := enc) (C := Try.checked) false ⟨#[], #[.agg #[.int .i64 0, .int .i64 0, .bool false, .bool false, .int .i64 0, .int .i64 0, .int .i64 0, .int .i64 0, .int .i64 0, .slice none 0 0, .slice none 0 0], .agg #[.int .i64 0, .int .i64 0, .bool false, .bool false, .int .i64 0, .int .i64 0, .int .i64 0, .int .i64 0, .int .i64 0, .slice none 0 0, .slice none 0 0], .string ByteArray.empty], []⟩ 8 (by kernel_rfl) (by kernel_rfl) (by kernel_rfl) (by kernel_rfl)) ?_
  intro W base args ds gs before hval0 hW hcnd hsz0 _
  have hsz : (DataW.weightsEach Try.prog (Try.f28.params.toList ++ Rows.noteBackSpec.plain.varTypes Try.prog) (ds ++ gs)).all (· ≤ reachBytes) = true := hsz0
  have hval : ∀ (j : Nat) t v, Try.f28.params[j]? = some t → args[j]? = some v → Value.okWide Try.prog W .any base t v := hval0
  have hW' := hW
  obtain ⟨p, q, hA0, hV, rfl, hfz, hnd⟩ := hW
  have hA : DataW.TrodAll enc Try.prog W 0 (fun _ => true) true Try.f28.params.toList args.toList ds p := hA0
  rw [Try.params28] at hA hval hsz
  obtain ⟨v0, vs0, d0, ds0, p0, q0, hargs, rfl, rfl, h0, r0⟩ := trodAll_cons hA
  obtain ⟨v1, vs1, d1, ds1, p1, q1, rfl, rfl, rfl, h1, r1⟩ := trodAll_cons r0
  obtain ⟨v2, vs2, d2, ds2, p2, q2, rfl, rfl, rfl, h2, r2⟩ := trodAll_cons r1
  obtain ⟨rfl, rfl, rfl⟩ := trodAll_nil r2
  obtain rfl : args = #[v0, v1, v2] := by cases args; simp_all
  obtain ⟨rfl, rfl⟩ := trodVars_none hV
  have k0 := h0
  have lt0 : ∀ x ∈ p0, x.block < W.heap.size := by obtain ⟨m, hm⟩ := k0; exact DataW.trod_lt m _ _ _ hm
  obtain ⟨x0, A0, c0, B0, e0, rfl, hr0, hc0, hs0, he0⟩ := V55 (hval 0 55 v0 rfl rfl) h0
  have k1 := h1
  have lt1 : ∀ x ∈ p1, x.block < W.heap.size := by obtain ⟨m, hm⟩ := k1; exact DataW.trod_lt m _ _ _ hm
  obtain ⟨x1, A1, c1, B1, e1, rfl, hr1, hc1, hs1, he1⟩ := V55 (hval 1 55 v1 rfl rfl) h1
  obtain ⟨a2, rfl, rfl, rfl, y2⟩ := open_string Try.underlying9 (hval 2 9 v2 rfl rfl) h2
  have w2 : a2.size ≤ 140737488351232 := by
    have z := sized_string hsz (j := 2) (t := 9) rfl rfl
    rw [Array.length_toList] at z
    exact z
  clear hA0 hval0 hsz0 hsz hval
  obtain ⟨k, hp⟩ := pureNoteBack x0 x1 a2 w2
  refine (seneschallaw11_NoteBack.calls k (x0.f0) (x0.f1) (x0.f2) (x0.f3) (x0.f4) (x0.f5.f0) (x0.f5.f1) (x0.f5.f2) (x0.f6.f0) A0 c0 (x0.f6.f1) B0 e0 (x0.f7) (x1.f0) (x1.f1) (x1.f2) (x1.f3) (x1.f4) (x1.f5.f0) (x1.f5.f1) (x1.f5.f2) (x1.f6.f0) A1 c1 (x1.f6.f1) B1 e1 (x1.f7) a2 true rfl W hr0 hc0 hs0 he0 hr1 hc1 hs1 he1 hp).mono fun e W' ⟨he, bel⟩ => ?_
  subst he
  exact ⟨_, rfl, _, _, _, [], _, [], hW', trodAll_mk1 (shut_bool Try.underlying4 _), (trodAll_cons_mk (Below.trod laidOut (by kernel_rfl) (of_decide_eq_true (by kernel_rfl)) k0 bel lt0) (trodAll_cons_mk (Below.trod laidOut (by kernel_rfl) (of_decide_eq_true (by kernel_rfl)) k1 bel lt1) (trodAll_cons_mk (shut_string Try.underlying9 y2) trodAll_mk0))), rfl, bel.frame _, fun h => by cases h⟩
theorem joined : joinedFacts Try.prog 28 Try.f28 Rows.noteBackSpec Rows.noteBackRow = true := by
  unfold joinedFacts
  rw [may_enter, lifts_final, make_is]
  kernel_rfl
theorem over : Rows.noteBackRow.holds Try.pinned (OpenSpec.ofChange Rows.noteBackSpec) :=
  OpenClaim.holds_of_wide 28 Try.f28 rfl rfl rfl rfl rfl rfl rfl ⟨rfl, rfl, rfl, rfl, rfl⟩ rfl rfl rfl rfl rfl (by kernel_rfl) Try.func28 joined
    (of_decide_eq_true (by kernel_rfl)) (by unfold Func.isWrapper; first | (rw [if_pos (by decide +kernel)]; kernel_rfl) | (rw [if_neg (by decide +kernel)]; exact ⟨rfl, rfl⟩))
    (fun os started H enc _ => lifted os started H enc)
theorem proved : Rows.NoteBackSaid := over
#print axioms proved
end Go.Proofs.Ytfjmnaobfbmllaa.noteBack
namespace Go.Proofs.Ytfjmnaobfbmllaa
theorem noteBack_holds : Rows.NoteBackSaid := noteBack.proved
end Go.Proofs.Ytfjmnaobfbmllaa
