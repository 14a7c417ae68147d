/- The law EntryRow: it returns true for every input, and its arguments read as they did. No condition. Part 3 of 3. -/
import Derived.Test.YtfjmnaobfbmllaaProg
import Derived.Test.YtfjmnaobfbmllaaRows
import Derived.Test.YtfjmnaobfbmllaaUApart
import Derived.Test.YtfjmnaobfbmllaaUEqStruct
import Derived.Test.YtfjmnaobfbmllaaUFoot
import Derived.Test.YtfjmnaobfbmllaaUGuard
import Derived.Test.YtfjmnaobfbmllaaUKept
import Derived.Test.YtfjmnaobfbmllaaULast
import Derived.Test.YtfjmnaobfbmllaaUMore
import Derived.Test.YtfjmnaobfbmllaaUN
import Derived.Test.YtfjmnaobfbmllaaURepsOne
import Derived.Test.YtfjmnaobfbmllaaUShare
import Derived.Test.YtfjmnaobfbmllaaUTab
import Derived.Test.YtfjmnaobfbmllaaUWords
import Derived.ArgAppend
import Derived.Below
import Derived.BigQuiet
import Derived.Carry
import Derived.ChangeArms
import Derived.ChangeMaps
import Derived.ChangeOld
import Derived.Deep.AppendLies
import Derived.Deep.CutBlock
import Derived.Deep.DeepCutAuto
import Derived.Deep.Draws
import Derived.Deep.LoopGhost
import Derived.Deep.OwnRows
import Derived.Deep.QuietTactic
import Derived.Deep.RegionHeld3
import Derived.Deep.Slices
import Derived.KernelRfl
import Derived.Laws.Bits64
import Derived.Laws.Bits64b
import Derived.Laws.BitsAllLaws
import Derived.Laws.BitsLemmas
import Derived.Laws.BytesArg
import Derived.Laws.CopyOwn
import Derived.Laws.IdiomCopy
import Derived.Laws.MakeOwn
import Derived.Laws.OwnMore
import Derived.Laws.Rows
import Derived.Laws.Slices
import Derived.Lib.AppendStr
import Derived.Lib.ConvBytes
import Derived.Maps.AppendAt
import Derived.OpenShut
import Derived.OrdersHeld
import Derived.OwnWalk
import Derived.ProofKit
import Derived.RowKit
import Derived.RowKit3
import Derived.ShutString
import Derived.SizedLaws
import Derived.Tactics
import Derived.WalkKit
import Derived.WideLaws
import Derived.Test.YtfjmnaobfbmllaaEntryRowA0
import Derived.Test.YtfjmnaobfbmllaaEntryRowA1
namespace Go.Proofs.Ytfjmnaobfbmllaa.M
open Go.RowKit Go.Proofs.YtfjmnaobfbmllaaW.PrintWords Go.Proofs.YtfjmnaobfbmllaaW.PrintLast Go.Proofs.YtfjmnaobfbmllaaW.PrintMore
attribute [local go_sem] max2_int min2_int max_two min_two max_three min_three max_four min_four   -- for this text's walks alone
set_option linter.unusedVariables false
set_option linter.unusedSimpArgs false
attribute [local go_sem high] eqA65
set_option maxHeartbeats 8000000 in
set_option maxRecDepth 100000 in
theorem seneschallaw04_EntryRow.calls (k : Nat) (A0 : Option Addr) (c0 : Nat) (l0 : List (S65)) (r : Bool) (hrt : r = true) (w : World) (hr0 : Kd.C k65 w A0 l0.length l0) (hc0 : l0.length ≤ c0) (h : seneschallaw04_EntryRow.f k l0 = some r) :
    Calls Try.prog 17 #[.slice A0 l0.length c0] w fun e w' => e = .returned (.bool r) ∧ Below w.heap.size w w' := by
  have HRT := Aside0.mk hrt
  clear hrt
  have hu65 := Try.underlying65
  have HR0 := Aside0.mk hr0
  have HC0 := Aside0.mk hc0
  clear hr0 hc0
  have HB := Aside0.mk (Below.refl w.heap.size w)
  have H : ((awake4.f).bind fun t101 => (if t101 = true then (if (l0.length : Int) > 40 then (some true) else (seneschallaw04_EntryRow.l0 k l0 (⟨#[]⟩ : ByteArray) (([] : List (S65))) 0)) else (some false))) = some r := h
  clear h
  replace H := Option.bind_eq_some_iff.mp H
  obtain ⟨t101, A20, H⟩ := H
  replace H : (if t101 = true then (if (l0.length : Int) > 40 then (some true) else (seneschallaw04_EntryRow.l0 k l0 (⟨#[]⟩ : ByteArray) (([] : List (S65))) 0)) else (some false)) = some r := H
  have A2 := Aside0.mk A20
  clear A20
  by_cases c3 : t101 = true
  · subst c3
    have H1 : (if (l0.length : Int) > 40 then (some true) else (seneschallaw04_EntryRow.l0 k l0 (⟨#[]⟩ : ByteArray) (([] : List (S65))) 0)) = some r := by rw [if_pos rfl] at H; exact H
    clear H
    have H := H1
    clear H1
    by_cases c4 : (l0.length : Int) > 40
    · rw [if_pos c4] at H
      have c4b0 : decide (40 < (l0.length : Int)) = true := decide_eq_true c4
      have c4b1 : decide (40 < l0.length) = true := decide_eq_true (by omega)
      clear c4
      obtain rfl := Option.some.inj H
      go_enter Try.func17, Try.ntmps17
      go_wp2_with (first | (go_at_call 51; (with_reducible refine (awake4.calls  true _ A2.out).mono ?_); rintro e w5 ⟨rfl, hb⟩; have n0_ := Aside0.mk (below_step (by repeat (first | (with_reducible first | exact HB.out | apply below_alloc | apply pw_below_drewN | apply below_drew1) | exact HB.out)) hb); clear HB; have HB := n0_; clear n0_; (try clear hb); (try clear hb2); (try clear hk); (try clear hi)))
      repeat (go_quiet (first | (go_at_call 51; (with_reducible refine (awake4.calls  true _ A2.out).mono ?_); rintro e w5 ⟨rfl, hb⟩; have n0_ := Aside0.mk (below_step (by repeat (first | (with_reducible first | exact HB.out | apply below_alloc | apply pw_below_drewN | apply below_drew1) | exact HB.out)) hb); clear HB; have HB := n0_; clear n0_; (try clear hb); (try clear hb2); (try clear hk); (try clear hi))); try go_wp2_with (first | (go_at_call 51; (with_reducible refine (awake4.calls  true _ A2.out).mono ?_); rintro e w5 ⟨rfl, hb⟩; have n0_ := Aside0.mk (below_step (by repeat (first | (with_reducible first | exact HB.out | apply below_alloc | apply pw_below_drewN | apply below_drew1) | exact HB.out)) hb); clear HB; have HB := n0_; clear n0_; (try clear hb); (try clear hb2); (try clear hk); (try clear hi))))
      go_ret
      exact ⟨by first | rfl | (simp [errW_none, errW_some] <;> rfl) | (simp [*, errW_none, errW_some] <;> rfl), by repeat (first | (with_reducible first | exact HB.out | apply below_alloc | apply pw_below_drewN | apply below_drew1) | exact HB.out)⟩
    · rw [if_neg c4] at H
      have c4b0 : decide (40 < (l0.length : Int)) = false := decide_eq_false c4
      have c4b1 : decide (40 < l0.length) = false := decide_eq_false (by omega)
      clear c4
      obtain ⟨y102, hy102⟩ : ∃ y_ : List (S65), y_ = (([] : List (S65))) := ⟨_, rfl⟩
      replace H : (seneschallaw04_EntryRow.l0 k l0 (⟨#[]⟩ : ByteArray) y102 0) = some r := by first | (rw [hy102]; with_reducible exact H) | (have H2_ := (Option.bind_some _ _).symm.trans H; rw [hy102]; with_reducible exact H2_) | (have H2_ := (Option.bind_some _ _).symm.trans H; with_reducible exact H2_) | with_reducible exact H | (rw [hy102]; exact H) | exact H
      have Ny102 := Aside0.mk hy102
      clear hy102
      have H' := Aside0.mk H
      clear H
      go_enter Try.func17, Try.ntmps17
      go_wp2_with (first | (go_at_call 51; (with_reducible refine (awake4.calls  true _ A2.out).mono ?_); rintro e w6 ⟨rfl, hb⟩; have n0_ := Aside0.mk (below_step (by repeat (first | (with_reducible first | exact HB.out | apply below_alloc | apply pw_below_drewN | apply below_drew1) | exact HB.out)) hb); clear HB; have HB := n0_; clear n0_; (try clear hb); (try clear hb2); (try clear hk); (try clear hi)) | ((with_reducible refine gate_dst (N := 17) rfl ?_); refine Kd.R_lit k65 _ 65 ?hg (N := 17) ?hd (xs := ([] : List (S65))) (inner := []) (ok := fun _ => True) (okp := fun _ => True) ?hr ?hp (fun _ hk => hk) trivial (Below.refl _ _) (Nat.le_refl _) (by simp) ?_; (case hd => rfl); (case hg => rfl); (case hr => first | (go_simp; done) | (go_simp; rfl)); (case hp => exact (Reps.none _ _)); intro v103 w7 ho8 hb hg_ hnew_; clear hg_ hnew_; (first | rw [← Ny102.out] at ho8 | (simp only [Int.reduceToNat] at ho8; rw [← Ny102.out] at ho8)); have n0_ := Aside0.mk (Kd.R_lower ho8 (below_size (by repeat (first | (with_reducible first | exact HB.out | apply below_alloc | apply pw_below_drewN | apply below_drew1) | exact HB.out)))); have n1_ := Aside0.mk (below_step (by repeat (first | (with_reducible first | exact HB.out | apply below_alloc | apply pw_below_drewN | apply below_drew1) | exact HB.out)) hb); clear HB; have HO104 := n0_; have HB := n1_; clear n0_ n1_; clear hb ho8))
      repeat (go_quiet (first | (go_at_call 51; (with_reducible refine (awake4.calls  true _ A2.out).mono ?_); rintro e w6 ⟨rfl, hb⟩; have n0_ := Aside0.mk (below_step (by repeat (first | (with_reducible first | exact HB.out | apply below_alloc | apply pw_below_drewN | apply below_drew1) | exact HB.out)) hb); clear HB; have HB := n0_; clear n0_; (try clear hb); (try clear hb2); (try clear hk); (try clear hi)) | ((with_reducible refine gate_dst (N := 17) rfl ?_); refine Kd.R_lit k65 _ 65 ?hg (N := 17) ?hd (xs := ([] : List (S65))) (inner := []) (ok := fun _ => True) (okp := fun _ => True) ?hr ?hp (fun _ hk => hk) trivial (Below.refl _ _) (Nat.le_refl _) (by simp) ?_; (case hd => rfl); (case hg => rfl); (case hr => first | (go_simp; done) | (go_simp; rfl)); (case hp => exact (Reps.none _ _)); intro v103 w7 ho8 hb hg_ hnew_; clear hg_ hnew_; (first | rw [← Ny102.out] at ho8 | (simp only [Int.reduceToNat] at ho8; rw [← Ny102.out] at ho8)); have n0_ := Aside0.mk (Kd.R_lower ho8 (below_size (by repeat (first | (with_reducible first | exact HB.out | apply below_alloc | apply pw_below_drewN | apply below_drew1) | exact HB.out)))); have n1_ := Aside0.mk (below_step (by repeat (first | (with_reducible first | exact HB.out | apply below_alloc | apply pw_below_drewN | apply below_drew1) | exact HB.out)) hb); clear HB; have HO104 := n0_; have HB := n1_; clear n0_ n1_; clear hb ho8)); try go_wp2_with (first | (go_at_call 51; (with_reducible refine (awake4.calls  true _ A2.out).mono ?_); rintro e w6 ⟨rfl, hb⟩; have n0_ := Aside0.mk (below_step (by repeat (first | (with_reducible first | exact HB.out | apply below_alloc | apply pw_below_drewN | apply below_drew1) | exact HB.out)) hb); clear HB; have HB := n0_; clear n0_; (try clear hb); (try clear hb2); (try clear hk); (try clear hi)) | ((with_reducible refine gate_dst (N := 17) rfl ?_); refine Kd.R_lit k65 _ 65 ?hg (N := 17) ?hd (xs := ([] : List (S65))) (inner := []) (ok := fun _ => True) (okp := fun _ => True) ?hr ?hp (fun _ hk => hk) trivial (Below.refl _ _) (Nat.le_refl _) (by simp) ?_; (case hd => rfl); (case hg => rfl); (case hr => first | (go_simp; done) | (go_simp; rfl)); (case hp => exact (Reps.none _ _)); intro v103 w7 ho8 hb hg_ hnew_; clear hg_ hnew_; (first | rw [← Ny102.out] at ho8 | (simp only [Int.reduceToNat] at ho8; rw [← Ny102.out] at ho8)); have n0_ := Aside0.mk (Kd.R_lower ho8 (below_size (by repeat (first | (with_reducible first | exact HB.out | apply below_alloc | apply pw_below_drewN | apply below_drew1) | exact HB.out)))); have n1_ := Aside0.mk (below_step (by repeat (first | (with_reducible first | exact HB.out | apply below_alloc | apply pw_below_drewN | apply below_drew1) | exact HB.out)) hb); clear HB; have HO104 := n0_; have HB := n1_; clear n0_ n1_; clear hb ho8)))
      go_loopg [3, 4, 5] k (fun kq v3 v4 v5 w' => ∃ (x3_1 : ByteArray) (x4_1 : List (S65)) (x5_1 : Int), v3 = .string x3_1 ∧ v5 = .int .i64 x5_1 ∧ Aside0 (seneschallaw04_EntryRow.l0 kq l0 x3_1 x4_1 x5_1 = some r) ∧ Aside0 (kq ≤ k) ∧ Aside0 (Kd.R k65 65 w' w.heap.size (fun _ => True) v4 x4_1) ∧ Aside0 (Below w.heap.size w w'))
      case atStart => exact ⟨((⟨#[]⟩ : ByteArray)), (y102), (0), (by first | rfl | (simp; done) | (simp [*]; done)), (by first | rfl | (simp; done) | (simp [*]; done)), H', ⟨Nat.le_refl _⟩, ⟨by (with_reducible repeat (first | apply Kd.R_alloc | apply Kd.R_drewN | apply Kd.R_drew)); exact HO104.out⟩, ⟨by repeat (first | (with_reducible first | exact HB.out | apply below_alloc | apply pw_below_drewN | apply below_drew1) | exact HB.out)⟩⟩
      case round =>
        clear H'
        try clear c1
        try clear p2
        try clear c3
        try clear c4
        try clear c4b0
        try clear c4b1
        obtain ⟨x3_1, x4_1, x5_1, rfl, rfl, HA, HK1, HO_4, HB⟩ := hrel
        cases gk with
        | zero => exact absurd HA.out (by simp [seneschallaw04_EntryRow.l0])
        | succ k1 =>
          have H := HA.out
          clear HA
          simp only [seneschallaw04_EntryRow.l0] at H
          by_cases c9 : x5_1 < (l0.length : Int)
          · rw [if_pos c9] at H
            have c9b0 : decide (x5_1 < (l0.length : Int)) = true := decide_eq_true c9
            clear c9
            by_cases c10 : 0 ≤ x5_1
            · rw [if_pos c10] at H
              have c10b0 : decide (0 ≤ x5_1) = true := decide_eq_true c10
              clear c10
              replace H := Option.bind_eq_some_iff.mp H
              obtain ⟨t106, A110, H⟩ := H
              replace H : (if t106 = true then (some true) else ((entEnc.f ((rd_T65 l0 x5_1).f0) ((rd_T65 l0 x5_1).f1.f0) ((rd_T65 l0 x5_1).f1.f1) ((rd_T65 l0 x5_1).f1.f2) ((rd_T65 l0 x5_1).f2) ((rd_T65 l0 x5_1).f3) ((rd_T65 l0 x5_1).f4) ((rd_T65 l0 x5_1).f5) ((rd_T65 l0 x5_1).f6.f0) ((rd_T65 l0 x5_1).f6.f1) ((rd_T65 l0 x5_1).f7.f0) ((rd_T65 l0 x5_1).f7.f1) ((rd_T65 l0 x5_1).f8)).bind fun bt108 => (if bt108.2 = 0 then (if x3_1.size + bt108.1.size ≤ 9223372036854775807 then (if x4_1.length < 1172812402961 then (seneschallaw04_EntryRow.l0 k1 l0 (x3_1 ++ bt108.1) (x4_1 ++ [(⟨(rd_T65 l0 x5_1).f0, (⟨(rd_T65 l0 x5_1).f1.f0, (rd_T65 l0 x5_1).f1.f1, (rd_T65 l0 x5_1).f1.f2⟩ : S52), (rd_T65 l0 x5_1).f2, (rd_T65 l0 x5_1).f3, (rd_T65 l0 x5_1).f4, (rd_T65 l0 x5_1).f5, (⟨(rd_T65 l0 x5_1).f6.f0, (rd_T65 l0 x5_1).f6.f1⟩ : S33), (⟨(rd_T65 l0 x5_1).f7.f0, (rd_T65 l0 x5_1).f7.f1⟩ : S33), (rd_T65 l0 x5_1).f8⟩ : S65)]) (wrap64 (x5_1 + 1))) else (none)) else (none)) else (seneschallaw04_EntryRow.l0 k1 l0 x3_1 x4_1 (wrap64 (x5_1 + 1)))))) = some r := H
              have A11 := Aside0.mk A110
              clear A110
              by_cases c12 : t106 = true
              · subst c12
                have H1 : (some true) = some r := by rw [if_pos rfl] at H; exact H
                clear H
                have H := H1
                clear H1
                obtain rfl := Option.some.inj H
                have p105 : 0 ≤ (x5_1 : Int) := of_decide_eq_true (by first | (with_reducible assumption) | assumption)
                have q105 : x5_1 < (l0.length : Int) := of_decide_eq_true (by first | (with_reducible assumption) | assumption)
                obtain ⟨ad105, e105, hx105_0, hx105_1, hx105_2, hx105_3, hx105_4, hx105_5, hx105_6, hx105_7, hx105_8, hx105_9, hx105_10, hx105_11, hx105_12⟩ := at_T65 HR0.out x5_1 p105 q105
                cases e105
                replace hx105_0 := (HB.out.cell (World.block_lt_of_cell? w _ hx105_0)).trans hx105_0
                replace hx105_1 := (HB.out.cell (World.block_lt_of_cell? w _ hx105_1)).trans hx105_1
                replace hx105_2 := (HB.out.cell (World.block_lt_of_cell? w _ hx105_2)).trans hx105_2
                replace hx105_3 := (HB.out.cell (World.block_lt_of_cell? w _ hx105_3)).trans hx105_3
                replace hx105_4 := (HB.out.cell (World.block_lt_of_cell? w _ hx105_4)).trans hx105_4
                replace hx105_5 := (HB.out.cell (World.block_lt_of_cell? w _ hx105_5)).trans hx105_5
                replace hx105_6 := (HB.out.cell (World.block_lt_of_cell? w _ hx105_6)).trans hx105_6
                replace hx105_7 := (HB.out.cell (World.block_lt_of_cell? w _ hx105_7)).trans hx105_7
                replace hx105_8 := (HB.out.cell (World.block_lt_of_cell? w _ hx105_8)).trans hx105_8
                replace hx105_9 := (HB.out.cell (World.block_lt_of_cell? w _ hx105_9)).trans hx105_9
                replace hx105_10 := (HB.out.cell (World.block_lt_of_cell? w _ hx105_10)).trans hx105_10
                replace hx105_11 := (HB.out.cell (World.block_lt_of_cell? w _ hx105_11)).trans hx105_11
                replace hx105_12 := (HB.out.cell (World.block_lt_of_cell? w _ hx105_12)).trans hx105_12
                replace p105 := eq_true p105
                replace q105 := eq_true q105
                go_wp2_with (first | (go_at_call 52; (with_reducible refine (seneschallaw04_great.calls ((rd_T65 l0 x5_1).f0) ((rd_T65 l0 x5_1).f1.f0) ((rd_T65 l0 x5_1).f1.f1) ((rd_T65 l0 x5_1).f1.f2) ((rd_T65 l0 x5_1).f2) ((rd_T65 l0 x5_1).f3) ((rd_T65 l0 x5_1).f4) ((rd_T65 l0 x5_1).f5) ((rd_T65 l0 x5_1).f6.f0) ((rd_T65 l0 x5_1).f6.f1) ((rd_T65 l0 x5_1).f7.f0) ((rd_T65 l0 x5_1).f7.f1) ((rd_T65 l0 x5_1).f8) true _ A11.out).mono ?_); rintro e w13 ⟨rfl, hb⟩; have n0_ := Aside0.mk (Kd.R_below (by (with_reducible repeat (first | apply Kd.R_alloc | apply Kd.R_drewN | apply Kd.R_drew)); exact HO_4.out) hb); have n1_ := Aside0.mk (below_step (by repeat (first | (with_reducible first | exact HB.out | apply below_alloc | apply pw_below_drewN | apply below_drew1) | exact HB.out)) hb); clear HO_4; clear HB; have HO_4 := n0_; have HB := n1_; clear n0_ n1_; (try clear hb); (try clear hb2); (try clear hk); (try clear hi)))
                repeat (go_quiet (first | (go_at_call 52; (with_reducible refine (seneschallaw04_great.calls ((rd_T65 l0 x5_1).f0) ((rd_T65 l0 x5_1).f1.f0) ((rd_T65 l0 x5_1).f1.f1) ((rd_T65 l0 x5_1).f1.f2) ((rd_T65 l0 x5_1).f2) ((rd_T65 l0 x5_1).f3) ((rd_T65 l0 x5_1).f4) ((rd_T65 l0 x5_1).f5) ((rd_T65 l0 x5_1).f6.f0) ((rd_T65 l0 x5_1).f6.f1) ((rd_T65 l0 x5_1).f7.f0) ((rd_T65 l0 x5_1).f7.f1) ((rd_T65 l0 x5_1).f8) true _ A11.out).mono ?_); rintro e w13 ⟨rfl, hb⟩; have n0_ := Aside0.mk (Kd.R_below (by (with_reducible repeat (first | apply Kd.R_alloc | apply Kd.R_drewN | apply Kd.R_drew)); exact HO_4.out) hb); have n1_ := Aside0.mk (below_step (by repeat (first | (with_reducible first | exact HB.out | apply below_alloc | apply pw_below_drewN | apply below_drew1) | exact HB.out)) hb); clear HO_4; clear HB; have HO_4 := n0_; have HB := n1_; clear n0_ n1_; (try clear hb); (try clear hb2); (try clear hk); (try clear hi))); try go_wp2_with (first | (go_at_call 52; (with_reducible refine (seneschallaw04_great.calls ((rd_T65 l0 x5_1).f0) ((rd_T65 l0 x5_1).f1.f0) ((rd_T65 l0 x5_1).f1.f1) ((rd_T65 l0 x5_1).f1.f2) ((rd_T65 l0 x5_1).f2) ((rd_T65 l0 x5_1).f3) ((rd_T65 l0 x5_1).f4) ((rd_T65 l0 x5_1).f5) ((rd_T65 l0 x5_1).f6.f0) ((rd_T65 l0 x5_1).f6.f1) ((rd_T65 l0 x5_1).f7.f0) ((rd_T65 l0 x5_1).f7.f1) ((rd_T65 l0 x5_1).f8) true _ A11.out).mono ?_); rintro e w13 ⟨rfl, hb⟩; have n0_ := Aside0.mk (Kd.R_below (by (with_reducible repeat (first | apply Kd.R_alloc | apply Kd.R_drewN | apply Kd.R_drew)); exact HO_4.out) hb); have n1_ := Aside0.mk (below_step (by repeat (first | (with_reducible first | exact HB.out | apply below_alloc | apply pw_below_drewN | apply below_drew1) | exact HB.out)) hb); clear HO_4; clear HB; have HO_4 := n0_; have HB := n1_; clear n0_ n1_; (try clear hb); (try clear hb2); (try clear hk); (try clear hi))))
                go_ret
                exact ⟨by first | rfl | (simp [errW_none, errW_some] <;> rfl) | (simp [*, errW_none, errW_some] <;> rfl), by repeat (first | (with_reducible first | exact HB.out | apply below_alloc | apply pw_below_drewN | apply below_drew1) | exact HB.out)⟩
              · replace c12 := Bool.eq_false_iff.mpr c12
                subst c12
                have H1 : ((entEnc.f ((rd_T65 l0 x5_1).f0) ((rd_T65 l0 x5_1).f1.f0) ((rd_T65 l0 x5_1).f1.f1) ((rd_T65 l0 x5_1).f1.f2) ((rd_T65 l0 x5_1).f2) ((rd_T65 l0 x5_1).f3) ((rd_T65 l0 x5_1).f4) ((rd_T65 l0 x5_1).f5) ((rd_T65 l0 x5_1).f6.f0) ((rd_T65 l0 x5_1).f6.f1) ((rd_T65 l0 x5_1).f7.f0) ((rd_T65 l0 x5_1).f7.f1) ((rd_T65 l0 x5_1).f8)).bind fun bt108 => (if bt108.2 = 0 then (if x3_1.size + bt108.1.size ≤ 9223372036854775807 then (if x4_1.length < 1172812402961 then (seneschallaw04_EntryRow.l0 k1 l0 (x3_1 ++ bt108.1) (x4_1 ++ [(⟨(rd_T65 l0 x5_1).f0, (⟨(rd_T65 l0 x5_1).f1.f0, (rd_T65 l0 x5_1).f1.f1, (rd_T65 l0 x5_1).f1.f2⟩ : S52), (rd_T65 l0 x5_1).f2, (rd_T65 l0 x5_1).f3, (rd_T65 l0 x5_1).f4, (rd_T65 l0 x5_1).f5, (⟨(rd_T65 l0 x5_1).f6.f0, (rd_T65 l0 x5_1).f6.f1⟩ : S33), (⟨(rd_T65 l0 x5_1).f7.f0, (rd_T65 l0 x5_1).f7.f1⟩ : S33), (rd_T65 l0 x5_1).f8⟩ : S65)]) (wrap64 (x5_1 + 1))) else (none)) else (none)) else (seneschallaw04_EntryRow.l0 k1 l0 x3_1 x4_1 (wrap64 (x5_1 + 1))))) = some r := by rw [if_neg (show ¬ (false = true) by decide)] at H; exact H
                clear H
                have H := H1
                clear H1
                replace H := Option.bind_eq_some_iff.mp H
                obtain ⟨⟨t108, t109⟩, A140, H⟩ := H
                replace H : (if t109 = 0 then (if x3_1.size + t108.size ≤ 9223372036854775807 then (if x4_1.length < 1172812402961 then (seneschallaw04_EntryRow.l0 k1 l0 (x3_1 ++ t108) (x4_1 ++ [(⟨(rd_T65 l0 x5_1).f0, (⟨(rd_T65 l0 x5_1).f1.f0, (rd_T65 l0 x5_1).f1.f1, (rd_T65 l0 x5_1).f1.f2⟩ : S52), (rd_T65 l0 x5_1).f2, (rd_T65 l0 x5_1).f3, (rd_T65 l0 x5_1).f4, (rd_T65 l0 x5_1).f5, (⟨(rd_T65 l0 x5_1).f6.f0, (rd_T65 l0 x5_1).f6.f1⟩ : S33), (⟨(rd_T65 l0 x5_1).f7.f0, (rd_T65 l0 x5_1).f7.f1⟩ : S33), (rd_T65 l0 x5_1).f8⟩ : S65)]) (wrap64 (x5_1 + 1))) else (none)) else (none)) else (seneschallaw04_EntryRow.l0 k1 l0 x3_1 x4_1 (wrap64 (x5_1 + 1)))) = some r := H
                have A14 := Aside0.mk A140
                clear A140
                by_cases c15 : t109 = 0
                · rw [if_pos c15] at H
                  have c15b0 : (t109 == 0) = true := beq_iff_eq.mpr c15
                  have c15b1 : (t109 != 0) = false := bne_eq_false_iff_eq.mpr c15
                  clear c15
                  by_cases c16 : x3_1.size + t108.size ≤ 9223372036854775807
                  · rw [if_pos c16] at H
                    have c16b0 := eq_true c16
                    have c16b1 : decide (x3_1.size + t108.size ≤ 9223372036854775807) = true := decide_eq_true c16
                    try have c16b2 : (9223372036854775807 < x3_1.size + t108.size) = False := eq_false (Nat.not_lt.2 c16)
                    by_cases c17 : x4_1.length < 1172812402961
                    · rw [if_pos c17] at H
                      have LMc17 := Aside0.mk c17
                      clear c17
                      obtain ⟨y111, hy111⟩ : ∃ y_ : List (S65), y_ = (x4_1 ++ [(⟨(rd_T65 l0 x5_1).f0, (⟨(rd_T65 l0 x5_1).f1.f0, (rd_T65 l0 x5_1).f1.f1, (rd_T65 l0 x5_1).f1.f2⟩ : S52), (rd_T65 l0 x5_1).f2, (rd_T65 l0 x5_1).f3, (rd_T65 l0 x5_1).f4, (rd_T65 l0 x5_1).f5, (⟨(rd_T65 l0 x5_1).f6.f0, (rd_T65 l0 x5_1).f6.f1⟩ : S33), (⟨(rd_T65 l0 x5_1).f7.f0, (rd_T65 l0 x5_1).f7.f1⟩ : S33), (rd_T65 l0 x5_1).f8⟩ : S65)]) := ⟨_, rfl⟩
                      replace H : (seneschallaw04_EntryRow.l0 k1 l0 (x3_1 ++ t108) y111 (wrap64 (x5_1 + 1))) = some r := by first | (rw [hy111]; with_reducible exact H) | (have H2_ := (Option.bind_some _ _).symm.trans H; rw [hy111]; with_reducible exact H2_) | (have H2_ := (Option.bind_some _ _).symm.trans H; with_reducible exact H2_) | with_reducible exact H | (rw [hy111]; exact H) | exact H
                      have Ny111 := Aside0.mk hy111
                      clear hy111
                      have H' := Aside0.mk H
                      clear H
                      have p105 : 0 ≤ (x5_1 : Int) := of_decide_eq_true (by first | (with_reducible assumption) | assumption)
                      have q105 : x5_1 < (l0.length : Int) := of_decide_eq_true (by first | (with_reducible assumption) | assumption)
                      obtain ⟨ad105, e105, hx105_0, hx105_1, hx105_2, hx105_3, hx105_4, hx105_5, hx105_6, hx105_7, hx105_8, hx105_9, hx105_10, hx105_11, hx105_12⟩ := at_T65 HR0.out x5_1 p105 q105
                      cases e105
                      replace hx105_0 := (HB.out.cell (World.block_lt_of_cell? w _ hx105_0)).trans hx105_0
                      replace hx105_1 := (HB.out.cell (World.block_lt_of_cell? w _ hx105_1)).trans hx105_1
                      replace hx105_2 := (HB.out.cell (World.block_lt_of_cell? w _ hx105_2)).trans hx105_2
                      replace hx105_3 := (HB.out.cell (World.block_lt_of_cell? w _ hx105_3)).trans hx105_3
                      replace hx105_4 := (HB.out.cell (World.block_lt_of_cell? w _ hx105_4)).trans hx105_4
                      replace hx105_5 := (HB.out.cell (World.block_lt_of_cell? w _ hx105_5)).trans hx105_5
                      replace hx105_6 := (HB.out.cell (World.block_lt_of_cell? w _ hx105_6)).trans hx105_6
                      replace hx105_7 := (HB.out.cell (World.block_lt_of_cell? w _ hx105_7)).trans hx105_7
                      replace hx105_8 := (HB.out.cell (World.block_lt_of_cell? w _ hx105_8)).trans hx105_8
                      replace hx105_9 := (HB.out.cell (World.block_lt_of_cell? w _ hx105_9)).trans hx105_9
                      replace hx105_10 := (HB.out.cell (World.block_lt_of_cell? w _ hx105_10)).trans hx105_10
                      replace hx105_11 := (HB.out.cell (World.block_lt_of_cell? w _ hx105_11)).trans hx105_11
                      replace hx105_12 := (HB.out.cell (World.block_lt_of_cell? w _ hx105_12)).trans hx105_12
                      replace p105 := eq_true p105
                      replace q105 := eq_true q105
                      go_wp2_with (first | (go_at_call 52; (with_reducible refine (seneschallaw04_great.calls ((rd_T65 l0 x5_1).f0) ((rd_T65 l0 x5_1).f1.f0) ((rd_T65 l0 x5_1).f1.f1) ((rd_T65 l0 x5_1).f1.f2) ((rd_T65 l0 x5_1).f2) ((rd_T65 l0 x5_1).f3) ((rd_T65 l0 x5_1).f4) ((rd_T65 l0 x5_1).f5) ((rd_T65 l0 x5_1).f6.f0) ((rd_T65 l0 x5_1).f6.f1) ((rd_T65 l0 x5_1).f7.f0) ((rd_T65 l0 x5_1).f7.f1) ((rd_T65 l0 x5_1).f8) false _ A11.out).mono ?_); rintro e w18 ⟨rfl, hb⟩; have n0_ := Aside0.mk (Kd.R_below (by (with_reducible repeat (first | apply Kd.R_alloc | apply Kd.R_drewN | apply Kd.R_drew)); exact HO_4.out) hb); have n1_ := Aside0.mk (below_step (by repeat (first | (with_reducible first | exact HB.out | apply below_alloc | apply pw_below_drewN | apply below_drew1) | exact HB.out)) hb); clear HO_4; clear HB; have HO_4 := n0_; have HB := n1_; clear n0_ n1_; (try clear hb); (try clear hb2); (try clear hk); (try clear hi); have p107 : 0 ≤ (x5_1 : Int) := of_decide_eq_true (by first | (with_reducible assumption) | assumption); have q107 : x5_1 < (l0.length : Int) := of_decide_eq_true (by first | (with_reducible assumption) | assumption); obtain ⟨ad107, e107, hx107_0, hx107_1, hx107_2, hx107_3, hx107_4, hx107_5, hx107_6, hx107_7, hx107_8, hx107_9, hx107_10, hx107_11, hx107_12⟩ := at_T65 HR0.out x5_1 p107 q107; obtain rfl : ad105 = ad107 := (by injection e107); replace hx107_0 := (HB.out.cell (World.block_lt_of_cell? w _ hx107_0)).trans hx107_0; replace hx107_1 := (HB.out.cell (World.block_lt_of_cell? w _ hx107_1)).trans hx107_1; replace hx107_2 := (HB.out.cell (World.block_lt_of_cell? w _ hx107_2)).trans hx107_2; replace hx107_3 := (HB.out.cell (World.block_lt_of_cell? w _ hx107_3)).trans hx107_3; replace hx107_4 := (HB.out.cell (World.block_lt_of_cell? w _ hx107_4)).trans hx107_4; replace hx107_5 := (HB.out.cell (World.block_lt_of_cell? w _ hx107_5)).trans hx107_5; replace hx107_6 := (HB.out.cell (World.block_lt_of_cell? w _ hx107_6)).trans hx107_6; replace hx107_7 := (HB.out.cell (World.block_lt_of_cell? w _ hx107_7)).trans hx107_7; replace hx107_8 := (HB.out.cell (World.block_lt_of_cell? w _ hx107_8)).trans hx107_8; replace hx107_9 := (HB.out.cell (World.block_lt_of_cell? w _ hx107_9)).trans hx107_9; replace hx107_10 := (HB.out.cell (World.block_lt_of_cell? w _ hx107_10)).trans hx107_10; replace hx107_11 := (HB.out.cell (World.block_lt_of_cell? w _ hx107_11)).trans hx107_11; replace hx107_12 := (HB.out.cell (World.block_lt_of_cell? w _ hx107_12)).trans hx107_12; replace p107 := eq_true p107; replace q107 := eq_true q107) | (go_at_call 53; (with_reducible refine (entEnc.calls ((rd_T65 l0 x5_1).f0) ((rd_T65 l0 x5_1).f1.f0) ((rd_T65 l0 x5_1).f1.f1) ((rd_T65 l0 x5_1).f1.f2) ((rd_T65 l0 x5_1).f2) ((rd_T65 l0 x5_1).f3) ((rd_T65 l0 x5_1).f4) ((rd_T65 l0 x5_1).f5) ((rd_T65 l0 x5_1).f6.f0) ((rd_T65 l0 x5_1).f6.f1) ((rd_T65 l0 x5_1).f7.f0) ((rd_T65 l0 x5_1).f7.f1) ((rd_T65 l0 x5_1).f8) t108 t109 _ A14.out).mono ?_); rintro e w19 ⟨rfl, hb⟩; have n0_ := Aside0.mk (Kd.R_below (by (with_reducible repeat (first | apply Kd.R_alloc | apply Kd.R_drewN | apply Kd.R_drew)); exact HO_4.out) hb); have n1_ := Aside0.mk (below_step (by repeat (first | (with_reducible first | exact HB.out | apply below_alloc | apply pw_below_drewN | apply below_drew1) | exact HB.out)) hb); clear HO_4; clear HB; have HO_4 := n0_; have HB := n1_; clear n0_ n1_; (try clear hb); (try clear hb2); (try clear hk); (try clear hi); have p110 : 0 ≤ (x5_1 : Int) := of_decide_eq_true (by first | (with_reducible assumption) | assumption); have q110 : x5_1 < (l0.length : Int) := of_decide_eq_true (by first | (with_reducible assumption) | assumption); obtain ⟨ad110, e110, hx110_0, hx110_1, hx110_2, hx110_3, hx110_4, hx110_5, hx110_6, hx110_7, hx110_8, hx110_9, hx110_10, hx110_11, hx110_12⟩ := at_T65 HR0.out x5_1 p110 q110; obtain rfl : ad105 = ad110 := (by injection e110); replace hx110_0 := (HB.out.cell (World.block_lt_of_cell? w _ hx110_0)).trans hx110_0; replace hx110_1 := (HB.out.cell (World.block_lt_of_cell? w _ hx110_1)).trans hx110_1; replace hx110_2 := (HB.out.cell (World.block_lt_of_cell? w _ hx110_2)).trans hx110_2; replace hx110_3 := (HB.out.cell (World.block_lt_of_cell? w _ hx110_3)).trans hx110_3; replace hx110_4 := (HB.out.cell (World.block_lt_of_cell? w _ hx110_4)).trans hx110_4; replace hx110_5 := (HB.out.cell (World.block_lt_of_cell? w _ hx110_5)).trans hx110_5; replace hx110_6 := (HB.out.cell (World.block_lt_of_cell? w _ hx110_6)).trans hx110_6; replace hx110_7 := (HB.out.cell (World.block_lt_of_cell? w _ hx110_7)).trans hx110_7; replace hx110_8 := (HB.out.cell (World.block_lt_of_cell? w _ hx110_8)).trans hx110_8; replace hx110_9 := (HB.out.cell (World.block_lt_of_cell? w _ hx110_9)).trans hx110_9; replace hx110_10 := (HB.out.cell (World.block_lt_of_cell? w _ hx110_10)).trans hx110_10; replace hx110_11 := (HB.out.cell (World.block_lt_of_cell? w _ hx110_11)).trans hx110_11; replace hx110_12 := (HB.out.cell (World.block_lt_of_cell? w _ hx110_12)).trans hx110_12; replace p110 := eq_true p110; replace q110 := eq_true q110) | ((with_reducible refine gate_builtin (b := .append) (xs := #[.tmp 42, .tmp 47]) rfl ?_); at_builtin; refine Kd.R_append k65 (w0 := w) w.heap.size rfl (.tmp 42) (.tmp 47) 53 65 (.agg #[(.int .i64 0), (.int .i64 0), (.int .i64 0), (.int .i64 0), (.int .i64 0), (.int .i64 0), (.int .i64 0), (.int .i64 0), (.bool false), (.string ⟨#[]⟩), (.bool false), (.string ⟨#[]⟩), (.int .i64 0)]) 120 rfl Try.underlying53 info65 rfl (by decide) (by omega) u4 x4_1 (⟨(rd_T65 l0 x5_1).f0, (⟨(rd_T65 l0 x5_1).f1.f0, (rd_T65 l0 x5_1).f1.f1, (rd_T65 l0 x5_1).f1.f2⟩ : S52), (rd_T65 l0 x5_1).f2, (rd_T65 l0 x5_1).f3, (rd_T65 l0 x5_1).f4, (rd_T65 l0 x5_1).f5, (⟨(rd_T65 l0 x5_1).f6.f0, (rd_T65 l0 x5_1).f6.f1⟩ : S33), (⟨(rd_T65 l0 x5_1).f7.f0, (rd_T65 l0 x5_1).f7.f1⟩ : S33), (rd_T65 l0 x5_1).f8⟩ : S65) [.int .i64 ((rd_T65 l0 x5_1).f0), .int .i64 ((rd_T65 l0 x5_1).f1.f0), .int .i64 ((rd_T65 l0 x5_1).f1.f1), .int .i64 ((rd_T65 l0 x5_1).f1.f2), .int .i64 ((rd_T65 l0 x5_1).f2), .int .i64 ((rd_T65 l0 x5_1).f3), .int .i64 ((rd_T65 l0 x5_1).f4), .int .i64 ((rd_T65 l0 x5_1).f5), .bool ((rd_T65 l0 x5_1).f6.f0), .string ((rd_T65 l0 x5_1).f6.f1), .bool ((rd_T65 l0 x5_1).f7.f0), .string ((rd_T65 l0 x5_1).f7.f1), .int .i64 ((rd_T65 l0 x5_1).f8)] (fun _ => True) (fun _ => False) rfl rfl ?aP (fun _ hk => hk.elim) ?aF ?aO ?aB ?aS ?aL ?_; (case aP => exact k65_mkM _ _ _ (⟨(rd_T65 l0 x5_1).f0, (⟨(rd_T65 l0 x5_1).f1.f0, (rd_T65 l0 x5_1).f1.f1, (rd_T65 l0 x5_1).f1.f2⟩ : S52), (rd_T65 l0 x5_1).f2, (rd_T65 l0 x5_1).f3, (rd_T65 l0 x5_1).f4, (rd_T65 l0 x5_1).f5, (⟨(rd_T65 l0 x5_1).f6.f0, (rd_T65 l0 x5_1).f6.f1⟩ : S33), (⟨(rd_T65 l0 x5_1).f7.f0, (rd_T65 l0 x5_1).f7.f1⟩ : S33), (rd_T65 l0 x5_1).f8⟩ : S65)); (case aB => exact (by repeat (first | (with_reducible first | exact HB.out | apply below_alloc | apply pw_below_drewN | apply below_drew1) | exact HB.out))); (case aF => exact (fun _ _ => trivial)); (case aO => exact (by (with_reducible repeat (first | apply Kd.R_alloc | apply Kd.R_drewN | apply Kd.R_drew)); exact HO_4.out)); (case aS => exact (below_size (by repeat (first | (with_reducible first | exact HB.out | apply below_alloc | apply pw_below_drewN | apply below_drew1) | exact HB.out)))); (case aL => have := LMc17.out; omega); intro v112 w20 ho hb hg hat; rw [← Ny111.out] at ho; have n0_ := Aside0.mk (hb); have n1_ := Aside0.mk (ho); clear HB; clear HO_4; have HB := n0_; have HO113 := n1_; clear n0_ n1_; clear ho hb hg hat))
                      repeat (go_quiet (first | (go_at_call 52; (with_reducible refine (seneschallaw04_great.calls ((rd_T65 l0 x5_1).f0) ((rd_T65 l0 x5_1).f1.f0) ((rd_T65 l0 x5_1).f1.f1) ((rd_T65 l0 x5_1).f1.f2) ((rd_T65 l0 x5_1).f2) ((rd_T65 l0 x5_1).f3) ((rd_T65 l0 x5_1).f4) ((rd_T65 l0 x5_1).f5) ((rd_T65 l0 x5_1).f6.f0) ((rd_T65 l0 x5_1).f6.f1) ((rd_T65 l0 x5_1).f7.f0) ((rd_T65 l0 x5_1).f7.f1) ((rd_T65 l0 x5_1).f8) false _ A11.out).mono ?_); rintro e w18 ⟨rfl, hb⟩; have n0_ := Aside0.mk (Kd.R_below (by (with_reducible repeat (first | apply Kd.R_alloc | apply Kd.R_drewN | apply Kd.R_drew)); exact HO_4.out) hb); have n1_ := Aside0.mk (below_step (by repeat (first | (with_reducible first | exact HB.out | apply below_alloc | apply pw_below_drewN | apply below_drew1) | exact HB.out)) hb); clear HO_4; clear HB; have HO_4 := n0_; have HB := n1_; clear n0_ n1_; (try clear hb); (try clear hb2); (try clear hk); (try clear hi); have p107 : 0 ≤ (x5_1 : Int) := of_decide_eq_true (by first | (with_reducible assumption) | assumption); have q107 : x5_1 < (l0.length : Int) := of_decide_eq_true (by first | (with_reducible assumption) | assumption); obtain ⟨ad107, e107, hx107_0, hx107_1, hx107_2, hx107_3, hx107_4, hx107_5, hx107_6, hx107_7, hx107_8, hx107_9, hx107_10, hx107_11, hx107_12⟩ := at_T65 HR0.out x5_1 p107 q107; obtain rfl : ad105 = ad107 := (by injection e107); replace hx107_0 := (HB.out.cell (World.block_lt_of_cell? w _ hx107_0)).trans hx107_0; replace hx107_1 := (HB.out.cell (World.block_lt_of_cell? w _ hx107_1)).trans hx107_1; replace hx107_2 := (HB.out.cell (World.block_lt_of_cell? w _ hx107_2)).trans hx107_2; replace hx107_3 := (HB.out.cell (World.block_lt_of_cell? w _ hx107_3)).trans hx107_3; replace hx107_4 := (HB.out.cell (World.block_lt_of_cell? w _ hx107_4)).trans hx107_4; replace hx107_5 := (HB.out.cell (World.block_lt_of_cell? w _ hx107_5)).trans hx107_5; replace hx107_6 := (HB.out.cell (World.block_lt_of_cell? w _ hx107_6)).trans hx107_6; replace hx107_7 := (HB.out.cell (World.block_lt_of_cell? w _ hx107_7)).trans hx107_7; replace hx107_8 := (HB.out.cell (World.block_lt_of_cell? w _ hx107_8)).trans hx107_8; replace hx107_9 := (HB.out.cell (World.block_lt_of_cell? w _ hx107_9)).trans hx107_9; replace hx107_10 := (HB.out.cell (World.block_lt_of_cell? w _ hx107_10)).trans hx107_10; replace hx107_11 := (HB.out.cell (World.block_lt_of_cell? w _ hx107_11)).trans hx107_11; replace hx107_12 := (HB.out.cell (World.block_lt_of_cell? w _ hx107_12)).trans hx107_12; replace p107 := eq_true p107; replace q107 := eq_true q107) | (go_at_call 53; (with_reducible refine (entEnc.calls ((rd_T65 l0 x5_1).f0) ((rd_T65 l0 x5_1).f1.f0) ((rd_T65 l0 x5_1).f1.f1) ((rd_T65 l0 x5_1).f1.f2) ((rd_T65 l0 x5_1).f2) ((rd_T65 l0 x5_1).f3) ((rd_T65 l0 x5_1).f4) ((rd_T65 l0 x5_1).f5) ((rd_T65 l0 x5_1).f6.f0) ((rd_T65 l0 x5_1).f6.f1) ((rd_T65 l0 x5_1).f7.f0) ((rd_T65 l0 x5_1).f7.f1) ((rd_T65 l0 x5_1).f8) t108 t109 _ A14.out).mono ?_); rintro e w19 ⟨rfl, hb⟩; have n0_ := Aside0.mk (Kd.R_below (by (with_reducible repeat (first | apply Kd.R_alloc | apply Kd.R_drewN | apply Kd.R_drew)); exact HO_4.out) hb); have n1_ := Aside0.mk (below_step (by repeat (first | (with_reducible first | exact HB.out | apply below_alloc | apply pw_below_drewN | apply below_drew1) | exact HB.out)) hb); clear HO_4; clear HB; have HO_4 := n0_; have HB := n1_; clear n0_ n1_; (try clear hb); (try clear hb2); (try clear hk); (try clear hi); have p110 : 0 ≤ (x5_1 : Int) := of_decide_eq_true (by first | (with_reducible assumption) | assumption); have q110 : x5_1 < (l0.length : Int) := of_decide_eq_true (by first | (with_reducible assumption) | assumption); obtain ⟨ad110, e110, hx110_0, hx110_1, hx110_2, hx110_3, hx110_4, hx110_5, hx110_6, hx110_7, hx110_8, hx110_9, hx110_10, hx110_11, hx110_12⟩ := at_T65 HR0.out x5_1 p110 q110; obtain rfl : ad105 = ad110 := (by injection e110); replace hx110_0 := (HB.out.cell (World.block_lt_of_cell? w _ hx110_0)).trans hx110_0; replace hx110_1 := (HB.out.cell (World.block_lt_of_cell? w _ hx110_1)).trans hx110_1; replace hx110_2 := (HB.out.cell (World.block_lt_of_cell? w _ hx110_2)).trans hx110_2; replace hx110_3 := (HB.out.cell (World.block_lt_of_cell? w _ hx110_3)).trans hx110_3; replace hx110_4 := (HB.out.cell (World.block_lt_of_cell? w _ hx110_4)).trans hx110_4; replace hx110_5 := (HB.out.cell (World.block_lt_of_cell? w _ hx110_5)).trans hx110_5; replace hx110_6 := (HB.out.cell (World.block_lt_of_cell? w _ hx110_6)).trans hx110_6; replace hx110_7 := (HB.out.cell (World.block_lt_of_cell? w _ hx110_7)).trans hx110_7; replace hx110_8 := (HB.out.cell (World.block_lt_of_cell? w _ hx110_8)).trans hx110_8; replace hx110_9 := (HB.out.cell (World.block_lt_of_cell? w _ hx110_9)).trans hx110_9; replace hx110_10 := (HB.out.cell (World.block_lt_of_cell? w _ hx110_10)).trans hx110_10; replace hx110_11 := (HB.out.cell (World.block_lt_of_cell? w _ hx110_11)).trans hx110_11; replace hx110_12 := (HB.out.cell (World.block_lt_of_cell? w _ hx110_12)).trans hx110_12; replace p110 := eq_true p110; replace q110 := eq_true q110) | ((with_reducible refine gate_builtin (b := .append) (xs := #[.tmp 42, .tmp 47]) rfl ?_); at_builtin; refine Kd.R_append k65 (w0 := w) w.heap.size rfl (.tmp 42) (.tmp 47) 53 65 (.agg #[(.int .i64 0), (.int .i64 0), (.int .i64 0), (.int .i64 0), (.int .i64 0), (.int .i64 0), (.int .i64 0), (.int .i64 0), (.bool false), (.string ⟨#[]⟩), (.bool false), (.string ⟨#[]⟩), (.int .i64 0)]) 120 rfl Try.underlying53 info65 rfl (by decide) (by omega) u4 x4_1 (⟨(rd_T65 l0 x5_1).f0, (⟨(rd_T65 l0 x5_1).f1.f0, (rd_T65 l0 x5_1).f1.f1, (rd_T65 l0 x5_1).f1.f2⟩ : S52), (rd_T65 l0 x5_1).f2, (rd_T65 l0 x5_1).f3, (rd_T65 l0 x5_1).f4, (rd_T65 l0 x5_1).f5, (⟨(rd_T65 l0 x5_1).f6.f0, (rd_T65 l0 x5_1).f6.f1⟩ : S33), (⟨(rd_T65 l0 x5_1).f7.f0, (rd_T65 l0 x5_1).f7.f1⟩ : S33), (rd_T65 l0 x5_1).f8⟩ : S65) [.int .i64 ((rd_T65 l0 x5_1).f0), .int .i64 ((rd_T65 l0 x5_1).f1.f0), .int .i64 ((rd_T65 l0 x5_1).f1.f1), .int .i64 ((rd_T65 l0 x5_1).f1.f2), .int .i64 ((rd_T65 l0 x5_1).f2), .int .i64 ((rd_T65 l0 x5_1).f3), .int .i64 ((rd_T65 l0 x5_1).f4), .int .i64 ((rd_T65 l0 x5_1).f5), .bool ((rd_T65 l0 x5_1).f6.f0), .string ((rd_T65 l0 x5_1).f6.f1), .bool ((rd_T65 l0 x5_1).f7.f0), .string ((rd_T65 l0 x5_1).f7.f1), .int .i64 ((rd_T65 l0 x5_1).f8)] (fun _ => True) (fun _ => False) rfl rfl ?aP (fun _ hk => hk.elim) ?aF ?aO ?aB ?aS ?aL ?_; (case aP => exact k65_mkM _ _ _ (⟨(rd_T65 l0 x5_1).f0, (⟨(rd_T65 l0 x5_1).f1.f0, (rd_T65 l0 x5_1).f1.f1, (rd_T65 l0 x5_1).f1.f2⟩ : S52), (rd_T65 l0 x5_1).f2, (rd_T65 l0 x5_1).f3, (rd_T65 l0 x5_1).f4, (rd_T65 l0 x5_1).f5, (⟨(rd_T65 l0 x5_1).f6.f0, (rd_T65 l0 x5_1).f6.f1⟩ : S33), (⟨(rd_T65 l0 x5_1).f7.f0, (rd_T65 l0 x5_1).f7.f1⟩ : S33), (rd_T65 l0 x5_1).f8⟩ : S65)); (case aB => exact (by repeat (first | (with_reducible first | exact HB.out | apply below_alloc | apply pw_below_drewN | apply below_drew1) | exact HB.out))); (case aF => exact (fun _ _ => trivial)); (case aO => exact (by (with_reducible repeat (first | apply Kd.R_alloc | apply Kd.R_drewN | apply Kd.R_drew)); exact HO_4.out)); (case aS => exact (below_size (by repeat (first | (with_reducible first | exact HB.out | apply below_alloc | apply pw_below_drewN | apply below_drew1) | exact HB.out)))); (case aL => have := LMc17.out; omega); intro v112 w20 ho hb hg hat; rw [← Ny111.out] at ho; have n0_ := Aside0.mk (hb); have n1_ := Aside0.mk (ho); clear HB; clear HO_4; have HB := n0_; have HO113 := n1_; clear n0_ n1_; clear ho hb hg hat)); try go_wp2_with (first | (go_at_call 52; (with_reducible refine (seneschallaw04_great.calls ((rd_T65 l0 x5_1).f0) ((rd_T65 l0 x5_1).f1.f0) ((rd_T65 l0 x5_1).f1.f1) ((rd_T65 l0 x5_1).f1.f2) ((rd_T65 l0 x5_1).f2) ((rd_T65 l0 x5_1).f3) ((rd_T65 l0 x5_1).f4) ((rd_T65 l0 x5_1).f5) ((rd_T65 l0 x5_1).f6.f0) ((rd_T65 l0 x5_1).f6.f1) ((rd_T65 l0 x5_1).f7.f0) ((rd_T65 l0 x5_1).f7.f1) ((rd_T65 l0 x5_1).f8) false _ A11.out).mono ?_); rintro e w18 ⟨rfl, hb⟩; have n0_ := Aside0.mk (Kd.R_below (by (with_reducible repeat (first | apply Kd.R_alloc | apply Kd.R_drewN | apply Kd.R_drew)); exact HO_4.out) hb); have n1_ := Aside0.mk (below_step (by repeat (first | (with_reducible first | exact HB.out | apply below_alloc | apply pw_below_drewN | apply below_drew1) | exact HB.out)) hb); clear HO_4; clear HB; have HO_4 := n0_; have HB := n1_; clear n0_ n1_; (try clear hb); (try clear hb2); (try clear hk); (try clear hi); have p107 : 0 ≤ (x5_1 : Int) := of_decide_eq_true (by first | (with_reducible assumption) | assumption); have q107 : x5_1 < (l0.length : Int) := of_decide_eq_true (by first | (with_reducible assumption) | assumption); obtain ⟨ad107, e107, hx107_0, hx107_1, hx107_2, hx107_3, hx107_4, hx107_5, hx107_6, hx107_7, hx107_8, hx107_9, hx107_10, hx107_11, hx107_12⟩ := at_T65 HR0.out x5_1 p107 q107; obtain rfl : ad105 = ad107 := (by injection e107); replace hx107_0 := (HB.out.cell (World.block_lt_of_cell? w _ hx107_0)).trans hx107_0; replace hx107_1 := (HB.out.cell (World.block_lt_of_cell? w _ hx107_1)).trans hx107_1; replace hx107_2 := (HB.out.cell (World.block_lt_of_cell? w _ hx107_2)).trans hx107_2; replace hx107_3 := (HB.out.cell (World.block_lt_of_cell? w _ hx107_3)).trans hx107_3; replace hx107_4 := (HB.out.cell (World.block_lt_of_cell? w _ hx107_4)).trans hx107_4; replace hx107_5 := (HB.out.cell (World.block_lt_of_cell? w _ hx107_5)).trans hx107_5; replace hx107_6 := (HB.out.cell (World.block_lt_of_cell? w _ hx107_6)).trans hx107_6; replace hx107_7 := (HB.out.cell (World.block_lt_of_cell? w _ hx107_7)).trans hx107_7; replace hx107_8 := (HB.out.cell (World.block_lt_of_cell? w _ hx107_8)).trans hx107_8; replace hx107_9 := (HB.out.cell (World.block_lt_of_cell? w _ hx107_9)).trans hx107_9; replace hx107_10 := (HB.out.cell (World.block_lt_of_cell? w _ hx107_10)).trans hx107_10; replace hx107_11 := (HB.out.cell (World.block_lt_of_cell? w _ hx107_11)).trans hx107_11; replace hx107_12 := (HB.out.cell (World.block_lt_of_cell? w _ hx107_12)).trans hx107_12; replace p107 := eq_true p107; replace q107 := eq_true q107) | (go_at_call 53; (with_reducible refine (entEnc.calls ((rd_T65 l0 x5_1).f0) ((rd_T65 l0 x5_1).f1.f0) ((rd_T65 l0 x5_1).f1.f1) ((rd_T65 l0 x5_1).f1.f2) ((rd_T65 l0 x5_1).f2) ((rd_T65 l0 x5_1).f3) ((rd_T65 l0 x5_1).f4) ((rd_T65 l0 x5_1).f5) ((rd_T65 l0 x5_1).f6.f0) ((rd_T65 l0 x5_1).f6.f1) ((rd_T65 l0 x5_1).f7.f0) ((rd_T65 l0 x5_1).f7.f1) ((rd_T65 l0 x5_1).f8) t108 t109 _ A14.out).mono ?_); rintro e w19 ⟨rfl, hb⟩; have n0_ := Aside0.mk (Kd.R_below (by (with_reducible repeat (first | apply Kd.R_alloc | apply Kd.R_drewN | apply Kd.R_drew)); exact HO_4.out) hb); have n1_ := Aside0.mk (below_step (by repeat (first | (with_reducible first | exact HB.out | apply below_alloc | apply pw_below_drewN | apply below_drew1) | exact HB.out)) hb); clear HO_4; clear HB; have HO_4 := n0_; have HB := n1_; clear n0_ n1_; (try clear hb); (try clear hb2); (try clear hk); (try clear hi); have p110 : 0 ≤ (x5_1 : Int) := of_decide_eq_true (by first | (with_reducible assumption) | assumption); have q110 : x5_1 < (l0.length : Int) := of_decide_eq_true (by first | (with_reducible assumption) | assumption); obtain ⟨ad110, e110, hx110_0, hx110_1, hx110_2, hx110_3, hx110_4, hx110_5, hx110_6, hx110_7, hx110_8, hx110_9, hx110_10, hx110_11, hx110_12⟩ := at_T65 HR0.out x5_1 p110 q110; obtain rfl : ad105 = ad110 := (by injection e110); replace hx110_0 := (HB.out.cell (World.block_lt_of_cell? w _ hx110_0)).trans hx110_0; replace hx110_1 := (HB.out.cell (World.block_lt_of_cell? w _ hx110_1)).trans hx110_1; replace hx110_2 := (HB.out.cell (World.block_lt_of_cell? w _ hx110_2)).trans hx110_2; replace hx110_3 := (HB.out.cell (World.block_lt_of_cell? w _ hx110_3)).trans hx110_3; replace hx110_4 := (HB.out.cell (World.block_lt_of_cell? w _ hx110_4)).trans hx110_4; replace hx110_5 := (HB.out.cell (World.block_lt_of_cell? w _ hx110_5)).trans hx110_5; replace hx110_6 := (HB.out.cell (World.block_lt_of_cell? w _ hx110_6)).trans hx110_6; replace hx110_7 := (HB.out.cell (World.block_lt_of_cell? w _ hx110_7)).trans hx110_7; replace hx110_8 := (HB.out.cell (World.block_lt_of_cell? w _ hx110_8)).trans hx110_8; replace hx110_9 := (HB.out.cell (World.block_lt_of_cell? w _ hx110_9)).trans hx110_9; replace hx110_10 := (HB.out.cell (World.block_lt_of_cell? w _ hx110_10)).trans hx110_10; replace hx110_11 := (HB.out.cell (World.block_lt_of_cell? w _ hx110_11)).trans hx110_11; replace hx110_12 := (HB.out.cell (World.block_lt_of_cell? w _ hx110_12)).trans hx110_12; replace p110 := eq_true p110; replace q110 := eq_true q110) | ((with_reducible refine gate_builtin (b := .append) (xs := #[.tmp 42, .tmp 47]) rfl ?_); at_builtin; refine Kd.R_append k65 (w0 := w) w.heap.size rfl (.tmp 42) (.tmp 47) 53 65 (.agg #[(.int .i64 0), (.int .i64 0), (.int .i64 0), (.int .i64 0), (.int .i64 0), (.int .i64 0), (.int .i64 0), (.int .i64 0), (.bool false), (.string ⟨#[]⟩), (.bool false), (.string ⟨#[]⟩), (.int .i64 0)]) 120 rfl Try.underlying53 info65 rfl (by decide) (by omega) u4 x4_1 (⟨(rd_T65 l0 x5_1).f0, (⟨(rd_T65 l0 x5_1).f1.f0, (rd_T65 l0 x5_1).f1.f1, (rd_T65 l0 x5_1).f1.f2⟩ : S52), (rd_T65 l0 x5_1).f2, (rd_T65 l0 x5_1).f3, (rd_T65 l0 x5_1).f4, (rd_T65 l0 x5_1).f5, (⟨(rd_T65 l0 x5_1).f6.f0, (rd_T65 l0 x5_1).f6.f1⟩ : S33), (⟨(rd_T65 l0 x5_1).f7.f0, (rd_T65 l0 x5_1).f7.f1⟩ : S33), (rd_T65 l0 x5_1).f8⟩ : S65) [.int .i64 ((rd_T65 l0 x5_1).f0), .int .i64 ((rd_T65 l0 x5_1).f1.f0), .int .i64 ((rd_T65 l0 x5_1).f1.f1), .int .i64 ((rd_T65 l0 x5_1).f1.f2), .int .i64 ((rd_T65 l0 x5_1).f2), .int .i64 ((rd_T65 l0 x5_1).f3), .int .i64 ((rd_T65 l0 x5_1).f4), .int .i64 ((rd_T65 l0 x5_1).f5), .bool ((rd_T65 l0 x5_1).f6.f0), .string ((rd_T65 l0 x5_1).f6.f1), .bool ((rd_T65 l0 x5_1).f7.f0), .string ((rd_T65 l0 x5_1).f7.f1), .int .i64 ((rd_T65 l0 x5_1).f8)] (fun _ => True) (fun _ => False) rfl rfl ?aP (fun _ hk => hk.elim) ?aF ?aO ?aB ?aS ?aL ?_; (case aP => exact k65_mkM _ _ _ (⟨(rd_T65 l0 x5_1).f0, (⟨(rd_T65 l0 x5_1).f1.f0, (rd_T65 l0 x5_1).f1.f1, (rd_T65 l0 x5_1).f1.f2⟩ : S52), (rd_T65 l0 x5_1).f2, (rd_T65 l0 x5_1).f3, (rd_T65 l0 x5_1).f4, (rd_T65 l0 x5_1).f5, (⟨(rd_T65 l0 x5_1).f6.f0, (rd_T65 l0 x5_1).f6.f1⟩ : S33), (⟨(rd_T65 l0 x5_1).f7.f0, (rd_T65 l0 x5_1).f7.f1⟩ : S33), (rd_T65 l0 x5_1).f8⟩ : S65)); (case aB => exact (by repeat (first | (with_reducible first | exact HB.out | apply below_alloc | apply pw_below_drewN | apply below_drew1) | exact HB.out))); (case aF => exact (fun _ _ => trivial)); (case aO => exact (by (with_reducible repeat (first | apply Kd.R_alloc | apply Kd.R_drewN | apply Kd.R_drew)); exact HO_4.out)); (case aS => exact (below_size (by repeat (first | (with_reducible first | exact HB.out | apply below_alloc | apply pw_below_drewN | apply below_drew1) | exact HB.out)))); (case aL => have := LMc17.out; omega); intro v112 w20 ho hb hg hat; rw [← Ny111.out] at ho; have n0_ := Aside0.mk (hb); have n1_ := Aside0.mk (ho); clear HB; clear HO_4; have HB := n0_; have HO113 := n1_; clear n0_ n1_; clear ho hb hg hat)))
                      go_roundg k1
                      case measure => have := HK1.out; omega
                      case rel => exact ⟨(x3_1 ++ t108), (y111), (wrap64 (x5_1 + 1)), (by first | rfl | (simp; done) | (simp [*]; done)), (by first | rfl | (simp; done) | (simp [*]; done)), H', ⟨by have := HK1.out; omega⟩, ⟨by (with_reducible repeat (first | apply Kd.R_alloc | apply Kd.R_drewN | apply Kd.R_drew)); exact HO113.out⟩, ⟨by repeat (first | (with_reducible first | exact HB.out | apply below_alloc | apply pw_below_drewN | apply below_drew1) | exact HB.out)⟩⟩
                    · rw [if_neg c17] at H
                      exact absurd H (by simp)
                  · rw [if_neg c16] at H
                    exact absurd H (by simp)
                · rw [if_neg c15] at H
                  have c15b0 : (t109 == 0) = false := beq_eq_false_iff_ne.mpr c15
                  have c15b1 : (t109 != 0) = true := bne_iff_ne.mpr c15
                  have H' := Aside0.mk H
                  clear H
                  have p105 : 0 ≤ (x5_1 : Int) := of_decide_eq_true (by first | (with_reducible assumption) | assumption)
                  have q105 : x5_1 < (l0.length : Int) := of_decide_eq_true (by first | (with_reducible assumption) | assumption)
                  obtain ⟨ad105, e105, hx105_0, hx105_1, hx105_2, hx105_3, hx105_4, hx105_5, hx105_6, hx105_7, hx105_8, hx105_9, hx105_10, hx105_11, hx105_12⟩ := at_T65 HR0.out x5_1 p105 q105
                  cases e105
                  replace hx105_0 := (HB.out.cell (World.block_lt_of_cell? w _ hx105_0)).trans hx105_0
                  replace hx105_1 := (HB.out.cell (World.block_lt_of_cell? w _ hx105_1)).trans hx105_1
                  replace hx105_2 := (HB.out.cell (World.block_lt_of_cell? w _ hx105_2)).trans hx105_2
                  replace hx105_3 := (HB.out.cell (World.block_lt_of_cell? w _ hx105_3)).trans hx105_3
                  replace hx105_4 := (HB.out.cell (World.block_lt_of_cell? w _ hx105_4)).trans hx105_4
                  replace hx105_5 := (HB.out.cell (World.block_lt_of_cell? w _ hx105_5)).trans hx105_5
                  replace hx105_6 := (HB.out.cell (World.block_lt_of_cell? w _ hx105_6)).trans hx105_6
                  replace hx105_7 := (HB.out.cell (World.block_lt_of_cell? w _ hx105_7)).trans hx105_7
                  replace hx105_8 := (HB.out.cell (World.block_lt_of_cell? w _ hx105_8)).trans hx105_8
                  replace hx105_9 := (HB.out.cell (World.block_lt_of_cell? w _ hx105_9)).trans hx105_9
                  replace hx105_10 := (HB.out.cell (World.block_lt_of_cell? w _ hx105_10)).trans hx105_10
                  replace hx105_11 := (HB.out.cell (World.block_lt_of_cell? w _ hx105_11)).trans hx105_11
                  replace hx105_12 := (HB.out.cell (World.block_lt_of_cell? w _ hx105_12)).trans hx105_12
                  replace p105 := eq_true p105
                  replace q105 := eq_true q105
                  go_wp2_with (first | (go_at_call 52; (with_reducible refine (seneschallaw04_great.calls ((rd_T65 l0 x5_1).f0) ((rd_T65 l0 x5_1).f1.f0) ((rd_T65 l0 x5_1).f1.f1) ((rd_T65 l0 x5_1).f1.f2) ((rd_T65 l0 x5_1).f2) ((rd_T65 l0 x5_1).f3) ((rd_T65 l0 x5_1).f4) ((rd_T65 l0 x5_1).f5) ((rd_T65 l0 x5_1).f6.f0) ((rd_T65 l0 x5_1).f6.f1) ((rd_T65 l0 x5_1).f7.f0) ((rd_T65 l0 x5_1).f7.f1) ((rd_T65 l0 x5_1).f8) false _ A11.out).mono ?_); rintro e w21 ⟨rfl, hb⟩; have n0_ := Aside0.mk (Kd.R_below (by (with_reducible repeat (first | apply Kd.R_alloc | apply Kd.R_drewN | apply Kd.R_drew)); exact HO_4.out) hb); have n1_ := Aside0.mk (below_step (by repeat (first | (with_reducible first | exact HB.out | apply below_alloc | apply pw_below_drewN | apply below_drew1) | exact HB.out)) hb); clear HO_4; clear HB; have HO_4 := n0_; have HB := n1_; clear n0_ n1_; (try clear hb); (try clear hb2); (try clear hk); (try clear hi); have p107 : 0 ≤ (x5_1 : Int) := of_decide_eq_true (by first | (with_reducible assumption) | assumption); have q107 : x5_1 < (l0.length : Int) := of_decide_eq_true (by first | (with_reducible assumption) | assumption); obtain ⟨ad107, e107, hx107_0, hx107_1, hx107_2, hx107_3, hx107_4, hx107_5, hx107_6, hx107_7, hx107_8, hx107_9, hx107_10, hx107_11, hx107_12⟩ := at_T65 HR0.out x5_1 p107 q107; obtain rfl : ad105 = ad107 := (by injection e107); replace hx107_0 := (HB.out.cell (World.block_lt_of_cell? w _ hx107_0)).trans hx107_0; replace hx107_1 := (HB.out.cell (World.block_lt_of_cell? w _ hx107_1)).trans hx107_1; replace hx107_2 := (HB.out.cell (World.block_lt_of_cell? w _ hx107_2)).trans hx107_2; replace hx107_3 := (HB.out.cell (World.block_lt_of_cell? w _ hx107_3)).trans hx107_3; replace hx107_4 := (HB.out.cell (World.block_lt_of_cell? w _ hx107_4)).trans hx107_4; replace hx107_5 := (HB.out.cell (World.block_lt_of_cell? w _ hx107_5)).trans hx107_5; replace hx107_6 := (HB.out.cell (World.block_lt_of_cell? w _ hx107_6)).trans hx107_6; replace hx107_7 := (HB.out.cell (World.block_lt_of_cell? w _ hx107_7)).trans hx107_7; replace hx107_8 := (HB.out.cell (World.block_lt_of_cell? w _ hx107_8)).trans hx107_8; replace hx107_9 := (HB.out.cell (World.block_lt_of_cell? w _ hx107_9)).trans hx107_9; replace hx107_10 := (HB.out.cell (World.block_lt_of_cell? w _ hx107_10)).trans hx107_10; replace hx107_11 := (HB.out.cell (World.block_lt_of_cell? w _ hx107_11)).trans hx107_11; replace hx107_12 := (HB.out.cell (World.block_lt_of_cell? w _ hx107_12)).trans hx107_12; replace p107 := eq_true p107; replace q107 := eq_true q107) | (go_at_call 53; (with_reducible refine (entEnc.calls ((rd_T65 l0 x5_1).f0) ((rd_T65 l0 x5_1).f1.f0) ((rd_T65 l0 x5_1).f1.f1) ((rd_T65 l0 x5_1).f1.f2) ((rd_T65 l0 x5_1).f2) ((rd_T65 l0 x5_1).f3) ((rd_T65 l0 x5_1).f4) ((rd_T65 l0 x5_1).f5) ((rd_T65 l0 x5_1).f6.f0) ((rd_T65 l0 x5_1).f6.f1) ((rd_T65 l0 x5_1).f7.f0) ((rd_T65 l0 x5_1).f7.f1) ((rd_T65 l0 x5_1).f8) t108 t109 _ A14.out).mono ?_); rintro e w22 ⟨rfl, hb⟩; have n0_ := Aside0.mk (Kd.R_below (by (with_reducible repeat (first | apply Kd.R_alloc | apply Kd.R_drewN | apply Kd.R_drew)); exact HO_4.out) hb); have n1_ := Aside0.mk (below_step (by repeat (first | (with_reducible first | exact HB.out | apply below_alloc | apply pw_below_drewN | apply below_drew1) | exact HB.out)) hb); clear HO_4; clear HB; have HO_4 := n0_; have HB := n1_; clear n0_ n1_; (try clear hb); (try clear hb2); (try clear hk); (try clear hi)))
                  repeat (go_quiet (first | (go_at_call 52; (with_reducible refine (seneschallaw04_great.calls ((rd_T65 l0 x5_1).f0) ((rd_T65 l0 x5_1).f1.f0) ((rd_T65 l0 x5_1).f1.f1) ((rd_T65 l0 x5_1).f1.f2) ((rd_T65 l0 x5_1).f2) ((rd_T65 l0 x5_1).f3) ((rd_T65 l0 x5_1).f4) ((rd_T65 l0 x5_1).f5) ((rd_T65 l0 x5_1).f6.f0) ((rd_T65 l0 x5_1).f6.f1) ((rd_T65 l0 x5_1).f7.f0) ((rd_T65 l0 x5_1).f7.f1) ((rd_T65 l0 x5_1).f8) false _ A11.out).mono ?_); rintro e w21 ⟨rfl, hb⟩; have n0_ := Aside0.mk (Kd.R_below (by (with_reducible repeat (first | apply Kd.R_alloc | apply Kd.R_drewN | apply Kd.R_drew)); exact HO_4.out) hb); have n1_ := Aside0.mk (below_step (by repeat (first | (with_reducible first | exact HB.out | apply below_alloc | apply pw_below_drewN | apply below_drew1) | exact HB.out)) hb); clear HO_4; clear HB; have HO_4 := n0_; have HB := n1_; clear n0_ n1_; (try clear hb); (try clear hb2); (try clear hk); (try clear hi); have p107 : 0 ≤ (x5_1 : Int) := of_decide_eq_true (by first | (with_reducible assumption) | assumption); have q107 : x5_1 < (l0.length : Int) := of_decide_eq_true (by first | (with_reducible assumption) | assumption); obtain ⟨ad107, e107, hx107_0, hx107_1, hx107_2, hx107_3, hx107_4, hx107_5, hx107_6, hx107_7, hx107_8, hx107_9, hx107_10, hx107_11, hx107_12⟩ := at_T65 HR0.out x5_1 p107 q107; obtain rfl : ad105 = ad107 := (by injection e107); replace hx107_0 := (HB.out.cell (World.block_lt_of_cell? w _ hx107_0)).trans hx107_0; replace hx107_1 := (HB.out.cell (World.block_lt_of_cell? w _ hx107_1)).trans hx107_1; replace hx107_2 := (HB.out.cell (World.block_lt_of_cell? w _ hx107_2)).trans hx107_2; replace hx107_3 := (HB.out.cell (World.block_lt_of_cell? w _ hx107_3)).trans hx107_3; replace hx107_4 := (HB.out.cell (World.block_lt_of_cell? w _ hx107_4)).trans hx107_4; replace hx107_5 := (HB.out.cell (World.block_lt_of_cell? w _ hx107_5)).trans hx107_5; replace hx107_6 := (HB.out.cell (World.block_lt_of_cell? w _ hx107_6)).trans hx107_6; replace hx107_7 := (HB.out.cell (World.block_lt_of_cell? w _ hx107_7)).trans hx107_7; replace hx107_8 := (HB.out.cell (World.block_lt_of_cell? w _ hx107_8)).trans hx107_8; replace hx107_9 := (HB.out.cell (World.block_lt_of_cell? w _ hx107_9)).trans hx107_9; replace hx107_10 := (HB.out.cell (World.block_lt_of_cell? w _ hx107_10)).trans hx107_10; replace hx107_11 := (HB.out.cell (World.block_lt_of_cell? w _ hx107_11)).trans hx107_11; replace hx107_12 := (HB.out.cell (World.block_lt_of_cell? w _ hx107_12)).trans hx107_12; replace p107 := eq_true p107; replace q107 := eq_true q107) | (go_at_call 53; (with_reducible refine (entEnc.calls ((rd_T65 l0 x5_1).f0) ((rd_T65 l0 x5_1).f1.f0) ((rd_T65 l0 x5_1).f1.f1) ((rd_T65 l0 x5_1).f1.f2) ((rd_T65 l0 x5_1).f2) ((rd_T65 l0 x5_1).f3) ((rd_T65 l0 x5_1).f4) ((rd_T65 l0 x5_1).f5) ((rd_T65 l0 x5_1).f6.f0) ((rd_T65 l0 x5_1).f6.f1) ((rd_T65 l0 x5_1).f7.f0) ((rd_T65 l0 x5_1).f7.f1) ((rd_T65 l0 x5_1).f8) t108 t109 _ A14.out).mono ?_); rintro e w22 ⟨rfl, hb⟩; have n0_ := Aside0.mk (Kd.R_below (by (with_reducible repeat (first | apply Kd.R_alloc | apply Kd.R_drewN | apply Kd.R_drew)); exact HO_4.out) hb); have n1_ := Aside0.mk (below_step (by repeat (first | (with_reducible first | exact HB.out | apply below_alloc | apply pw_below_drewN | apply below_drew1) | exact HB.out)) hb); clear HO_4; clear HB; have HO_4 := n0_; have HB := n1_; clear n0_ n1_; (try clear hb); (try clear hb2); (try clear hk); (try clear hi))); try go_wp2_with (first | (go_at_call 52; (with_reducible refine (seneschallaw04_great.calls ((rd_T65 l0 x5_1).f0) ((rd_T65 l0 x5_1).f1.f0) ((rd_T65 l0 x5_1).f1.f1) ((rd_T65 l0 x5_1).f1.f2) ((rd_T65 l0 x5_1).f2) ((rd_T65 l0 x5_1).f3) ((rd_T65 l0 x5_1).f4) ((rd_T65 l0 x5_1).f5) ((rd_T65 l0 x5_1).f6.f0) ((rd_T65 l0 x5_1).f6.f1) ((rd_T65 l0 x5_1).f7.f0) ((rd_T65 l0 x5_1).f7.f1) ((rd_T65 l0 x5_1).f8) false _ A11.out).mono ?_); rintro e w21 ⟨rfl, hb⟩; have n0_ := Aside0.mk (Kd.R_below (by (with_reducible repeat (first | apply Kd.R_alloc | apply Kd.R_drewN | apply Kd.R_drew)); exact HO_4.out) hb); have n1_ := Aside0.mk (below_step (by repeat (first | (with_reducible first | exact HB.out | apply below_alloc | apply pw_below_drewN | apply below_drew1) | exact HB.out)) hb); clear HO_4; clear HB; have HO_4 := n0_; have HB := n1_; clear n0_ n1_; (try clear hb); (try clear hb2); (try clear hk); (try clear hi); have p107 : 0 ≤ (x5_1 : Int) := of_decide_eq_true (by first | (with_reducible assumption) | assumption); have q107 : x5_1 < (l0.length : Int) := of_decide_eq_true (by first | (with_reducible assumption) | assumption); obtain ⟨ad107, e107, hx107_0, hx107_1, hx107_2, hx107_3, hx107_4, hx107_5, hx107_6, hx107_7, hx107_8, hx107_9, hx107_10, hx107_11, hx107_12⟩ := at_T65 HR0.out x5_1 p107 q107; obtain rfl : ad105 = ad107 := (by injection e107); replace hx107_0 := (HB.out.cell (World.block_lt_of_cell? w _ hx107_0)).trans hx107_0; replace hx107_1 := (HB.out.cell (World.block_lt_of_cell? w _ hx107_1)).trans hx107_1; replace hx107_2 := (HB.out.cell (World.block_lt_of_cell? w _ hx107_2)).trans hx107_2; replace hx107_3 := (HB.out.cell (World.block_lt_of_cell? w _ hx107_3)).trans hx107_3; replace hx107_4 := (HB.out.cell (World.block_lt_of_cell? w _ hx107_4)).trans hx107_4; replace hx107_5 := (HB.out.cell (World.block_lt_of_cell? w _ hx107_5)).trans hx107_5; replace hx107_6 := (HB.out.cell (World.block_lt_of_cell? w _ hx107_6)).trans hx107_6; replace hx107_7 := (HB.out.cell (World.block_lt_of_cell? w _ hx107_7)).trans hx107_7; replace hx107_8 := (HB.out.cell (World.block_lt_of_cell? w _ hx107_8)).trans hx107_8; replace hx107_9 := (HB.out.cell (World.block_lt_of_cell? w _ hx107_9)).trans hx107_9; replace hx107_10 := (HB.out.cell (World.block_lt_of_cell? w _ hx107_10)).trans hx107_10; replace hx107_11 := (HB.out.cell (World.block_lt_of_cell? w _ hx107_11)).trans hx107_11; replace hx107_12 := (HB.out.cell (World.block_lt_of_cell? w _ hx107_12)).trans hx107_12; replace p107 := eq_true p107; replace q107 := eq_true q107) | (go_at_call 53; (with_reducible refine (entEnc.calls ((rd_T65 l0 x5_1).f0) ((rd_T65 l0 x5_1).f1.f0) ((rd_T65 l0 x5_1).f1.f1) ((rd_T65 l0 x5_1).f1.f2) ((rd_T65 l0 x5_1).f2) ((rd_T65 l0 x5_1).f3) ((rd_T65 l0 x5_1).f4) ((rd_T65 l0 x5_1).f5) ((rd_T65 l0 x5_1).f6.f0) ((rd_T65 l0 x5_1).f6.f1) ((rd_T65 l0 x5_1).f7.f0) ((rd_T65 l0 x5_1).f7.f1) ((rd_T65 l0 x5_1).f8) t108 t109 _ A14.out).mono ?_); rintro e w22 ⟨rfl, hb⟩; have n0_ := Aside0.mk (Kd.R_below (by (with_reducible repeat (first | apply Kd.R_alloc | apply Kd.R_drewN | apply Kd.R_drew)); exact HO_4.out) hb); have n1_ := Aside0.mk (below_step (by repeat (first | (with_reducible first | exact HB.out | apply below_alloc | apply pw_below_drewN | apply below_drew1) | exact HB.out)) hb); clear HO_4; clear HB; have HO_4 := n0_; have HB := n1_; clear n0_ n1_; (try clear hb); (try clear hb2); (try clear hk); (try clear hi))))
                  go_roundg k1
                  case measure => have := HK1.out; omega
                  case rel => exact ⟨(x3_1), (x4_1), (wrap64 (x5_1 + 1)), (by first | rfl | (simp; done) | (simp [*]; done)), (by first | rfl | (simp; done) | (simp [*]; done)), H', ⟨by have := HK1.out; omega⟩, ⟨by (with_reducible repeat (first | apply Kd.R_alloc | apply Kd.R_drewN | apply Kd.R_drew)); exact HO_4.out⟩, ⟨by repeat (first | (with_reducible first | exact HB.out | apply below_alloc | apply pw_below_drewN | apply below_drew1) | exact HB.out)⟩⟩
            · rw [if_neg c10] at H
              exact absurd H (by simp)
          · rw [if_neg c9] at H
            have c9b0 : decide (x5_1 < (l0.length : Int)) = false := decide_eq_false c9
            clear c9
            have H' := Aside0.mk H
            clear H
            go_wp2
            repeat (go_quiet (fail); try go_wp2)
            go_loopg [3, 8] k1 (fun kq v3 v8 w' => ∃ (x3_2 : ByteArray) (x8_2 : Int), v3 = .string x3_2 ∧ v8 = .int .i64 x8_2 ∧ Aside0 (seneschallaw04_EntryRow.l1 kq x3_2 x4_1 x8_2 = some r) ∧ Aside0 (kq ≤ k1) ∧ Aside0 (Kd.R k65 65 w' w.heap.size (fun _ => True) u4 x4_1) ∧ Aside0 (Below w.heap.size w w'))
            case atStart => exact ⟨(x3_1), (0), (by first | rfl | (simp; done) | (simp [*]; done)), (by first | rfl | (simp; done) | (simp [*]; done)), H', ⟨Nat.le_refl _⟩, ⟨by (with_reducible repeat (first | apply Kd.R_alloc | apply Kd.R_drewN | apply Kd.R_drew)); exact HO_4.out⟩, ⟨by repeat (first | (with_reducible first | exact HB.out | apply below_alloc | apply pw_below_drewN | apply below_drew1) | exact HB.out)⟩⟩
            case round =>
              clear H'
              try clear c1
              try clear p1
              try clear q1
              try clear hx1
              try clear p2
              try clear c3
              try clear c4
              try clear c4b0
              try clear c4b1
              try clear p6
              try clear c9
              try clear c9b0
              try clear c10
              try clear c10b0
              try clear p10
              try clear q10
              try clear hx10
              try clear p11
              try clear q11
              try clear hx11
              try clear c12
              try clear c15
              try clear c15b0
              try clear c15b1
              try clear c16
              try clear c16b0
              try clear c16b1
              try clear c16b2
              try clear c17
              try clear hx105_0
              try clear hx105_1
              try clear hx105_10
              try clear hx105_11
              try clear hx105_12
              try clear hx105_2
              try clear hx105_3
              try clear hx105_4
              try clear hx105_5
              try clear hx105_6
              try clear hx105_7
              try clear hx105_8
              try clear hx105_9
              try clear hx107_0
              try clear hx107_1
              try clear hx107_10
              try clear hx107_11
              try clear hx107_12
              try clear hx107_2
              try clear hx107_3
              try clear hx107_4
              try clear hx107_5
              try clear hx107_6
              try clear hx107_7
              try clear hx107_8
              try clear hx107_9
              try clear hx110_0
              try clear hx110_1
              try clear hx110_10
              try clear hx110_11
              try clear hx110_12
              try clear hx110_2
              try clear hx110_3
              try clear hx110_4
              try clear hx110_5
              try clear hx110_6
              try clear hx110_7
              try clear hx110_8
              try clear hx110_9
              try clear p105
              try clear p107
              try clear p110
              try clear p2
              try clear q105
              try clear q107
              try clear q110
              obtain ⟨x3_2, x8_2, rfl, rfl, HA, HK2, HO_4, HB⟩ := hrel
              cases gk with
              | zero => exact absurd HA.out (by simp [seneschallaw04_EntryRow.l1])
              | succ k2 =>
                have H := HA.out
                clear HA
                simp only [seneschallaw04_EntryRow.l1] at H
                by_cases c23 : x8_2 < (x4_1.length : Int)
                · rw [if_pos c23] at H
                  have c23b0 : decide (x8_2 < (x4_1.length : Int)) = true := decide_eq_true c23
                  clear c23
                  replace H := Option.bind_eq_some_iff.mp H
                  obtain ⟨⟨t114, t115, t116, t117, t118, t119, t120, t121, t122, t123, t124, t125, t126, t127, t128⟩, A240, H⟩ := H
                  replace H : (if 0 ≤ x8_2 then (if (!(t114 == ((rd_T65 x4_1 x8_2).f0)) || ((!(t115 == ((rd_T65 x4_1 x8_2).f1.f0)) || (!(t116 == ((rd_T65 x4_1 x8_2).f1.f1)) || (!(t117 == ((rd_T65 x4_1 x8_2).f1.f2))))) || (!(t118 == ((rd_T65 x4_1 x8_2).f2)) || (!(t119 == ((rd_T65 x4_1 x8_2).f3)) || (!(t120 == ((rd_T65 x4_1 x8_2).f4)) || (!(t121 == ((rd_T65 x4_1 x8_2).f5)) || ((!(t122 == ((rd_T65 x4_1 x8_2).f6.f0)) || (!(t123.toList == (((rd_T65 x4_1 x8_2).f6.f1).toList)))) || ((!(t124 == ((rd_T65 x4_1 x8_2).f7.f0)) || (!(t125.toList == (((rd_T65 x4_1 x8_2).f7.f1).toList)))) || (!(t126 == ((rd_T65 x4_1 x8_2).f8))))))))))) = true then (some false) else (if t128 = 0 then (seneschallaw04_EntryRow.l1 k2 t127 x4_1 (wrap64 (x8_2 + 1))) else (some false))) else (none)) = some r := H
                  have A24 := Aside0.mk A240
                  clear A240
                  by_cases c25 : 0 ≤ x8_2
                  · rw [if_pos c25] at H
                    have c25b0 : decide (0 ≤ x8_2) = true := decide_eq_true c25
                    clear c25
                    by_cases c26 : (!(t114 == ((rd_T65 x4_1 x8_2).f0)) || ((!(t115 == ((rd_T65 x4_1 x8_2).f1.f0)) || (!(t116 == ((rd_T65 x4_1 x8_2).f1.f1)) || (!(t117 == ((rd_T65 x4_1 x8_2).f1.f2))))) || (!(t118 == ((rd_T65 x4_1 x8_2).f2)) || (!(t119 == ((rd_T65 x4_1 x8_2).f3)) || (!(t120 == ((rd_T65 x4_1 x8_2).f4)) || (!(t121 == ((rd_T65 x4_1 x8_2).f5)) || ((!(t122 == ((rd_T65 x4_1 x8_2).f6.f0)) || (!(t123.toList == (((rd_T65 x4_1 x8_2).f6.f1).toList)))) || ((!(t124 == ((rd_T65 x4_1 x8_2).f7.f0)) || (!(t125.toList == (((rd_T65 x4_1 x8_2).f7.f1).toList)))) || (!(t126 == ((rd_T65 x4_1 x8_2).f8))))))))))) = true
                    · rw [if_pos c26] at H
                      have c26b0 : (!(t114 == ((rd_T65 x4_1 x8_2).f0)) || ((!(t115 == ((rd_T65 x4_1 x8_2).f1.f0)) || (!(t116 == ((rd_T65 x4_1 x8_2).f1.f1)) || (!(t117 == ((rd_T65 x4_1 x8_2).f1.f2))))) || (!(t118 == ((rd_T65 x4_1 x8_2).f2)) || (!(t119 == ((rd_T65 x4_1 x8_2).f3)) || (!(t120 == ((rd_T65 x4_1 x8_2).f4)) || (!(t121 == ((rd_T65 x4_1 x8_2).f5)) || ((!(t122 == ((rd_T65 x4_1 x8_2).f6.f0)) || (!(t123.toList == (((rd_T65 x4_1 x8_2).f6.f1).toList)))) || ((!(t124 == ((rd_T65 x4_1 x8_2).f7.f0)) || (!(t125.toList == (((rd_T65 x4_1 x8_2).f7.f1).toList)))) || (!(t126 == ((rd_T65 x4_1 x8_2).f8))))))))))) = true := c26
                      clear c26
                      obtain rfl := Option.some.inj H
                      exact absurd HRT.out (by decide)
                    · rw [if_neg c26] at H
                      have c26b0 : (!(t114 == ((rd_T65 x4_1 x8_2).f0)) || ((!(t115 == ((rd_T65 x4_1 x8_2).f1.f0)) || (!(t116 == ((rd_T65 x4_1 x8_2).f1.f1)) || (!(t117 == ((rd_T65 x4_1 x8_2).f1.f2))))) || (!(t118 == ((rd_T65 x4_1 x8_2).f2)) || (!(t119 == ((rd_T65 x4_1 x8_2).f3)) || (!(t120 == ((rd_T65 x4_1 x8_2).f4)) || (!(t121 == ((rd_T65 x4_1 x8_2).f5)) || ((!(t122 == ((rd_T65 x4_1 x8_2).f6.f0)) || (!(t123.toList == (((rd_T65 x4_1 x8_2).f6.f1).toList)))) || ((!(t124 == ((rd_T65 x4_1 x8_2).f7.f0)) || (!(t125.toList == (((rd_T65 x4_1 x8_2).f7.f1).toList)))) || (!(t126 == ((rd_T65 x4_1 x8_2).f8))))))))))) = false := by simpa using c26
                      clear c26
                      by_cases c27 : t128 = 0
                      · rw [if_pos c27] at H
                        have c27b0 : (t128 == 0) = true := beq_iff_eq.mpr c27
                        have c27b1 : (t128 != 0) = false := bne_eq_false_iff_eq.mpr c27
                        clear c27
                        have H' := Aside0.mk H
                        clear H
                        obtain ⟨Ao28, co28, eo28⟩ := Kd.R_slice HO_4.out
                        subst eo28
                        have p_ : 0 ≤ x8_2 := of_decide_eq_true c25b0
                        have p2_ : x8_2 < (x4_1.length : Int) := of_decide_eq_true c23b0
                        have q_ := s65_bne ⟨t114, ⟨t115, t116, t117⟩, t118, t119, t120, t121, ⟨t122, t123⟩, ⟨t124, t125⟩, t126⟩ (rd_T65 x4_1 x8_2)
                        have q2_ : (⟨t114, ⟨t115, t116, t117⟩, t118, t119, t120, t121, ⟨t122, t123⟩, ⟨t124, t125⟩, t126⟩ : S65) = rd_T65 x4_1 x8_2 := by have q3_ := q_.symm.trans c26b0; simpa using q3_
                        clear q_ c26b0
                        try clear c26b1
                        try clear c26b2
                        have e_ : t114 = (rd_T65 x4_1 x8_2).f0 := congrArg (fun z : S65 => z.f0) q2_
                        have Et114 := Aside0.mk e_
                        clear e_
                        have e_ : t115 = (rd_T65 x4_1 x8_2).f1.f0 := congrArg (fun z : S65 => z.f1.f0) q2_
                        have Et115 := Aside0.mk e_
                        clear e_
                        have e_ : t116 = (rd_T65 x4_1 x8_2).f1.f1 := congrArg (fun z : S65 => z.f1.f1) q2_
                        have Et116 := Aside0.mk e_
                        clear e_
                        have e_ : t117 = (rd_T65 x4_1 x8_2).f1.f2 := congrArg (fun z : S65 => z.f1.f2) q2_
                        have Et117 := Aside0.mk e_
                        clear e_
                        have e_ : t118 = (rd_T65 x4_1 x8_2).f2 := congrArg (fun z : S65 => z.f2) q2_
                        have Et118 := Aside0.mk e_
                        clear e_
                        have e_ : t119 = (rd_T65 x4_1 x8_2).f3 := congrArg (fun z : S65 => z.f3) q2_
                        have Et119 := Aside0.mk e_
                        clear e_
                        have e_ : t120 = (rd_T65 x4_1 x8_2).f4 := congrArg (fun z : S65 => z.f4) q2_
                        have Et120 := Aside0.mk e_
                        clear e_
                        have e_ : t121 = (rd_T65 x4_1 x8_2).f5 := congrArg (fun z : S65 => z.f5) q2_
                        have Et121 := Aside0.mk e_
                        clear e_
                        have e_ : t122 = (rd_T65 x4_1 x8_2).f6.f0 := congrArg (fun z : S65 => z.f6.f0) q2_
                        have Et122 := Aside0.mk e_
                        clear e_
                        have e_ : t123 = (rd_T65 x4_1 x8_2).f6.f1 := congrArg (fun z : S65 => z.f6.f1) q2_
                        have Et123 := Aside0.mk e_
                        clear e_
                        have e_ : t124 = (rd_T65 x4_1 x8_2).f7.f0 := congrArg (fun z : S65 => z.f7.f0) q2_
                        have Et124 := Aside0.mk e_
                        clear e_
                        have e_ : t125 = (rd_T65 x4_1 x8_2).f7.f1 := congrArg (fun z : S65 => z.f7.f1) q2_
                        have Et125 := Aside0.mk e_
                        clear e_
                        have e_ : t126 = (rd_T65 x4_1 x8_2).f8 := congrArg (fun z : S65 => z.f8) q2_
                        have Et126 := Aside0.mk e_
                        clear e_
                        clear q2_
                        obtain rfl := Et114.out
                        obtain rfl := Et115.out
                        obtain rfl := Et116.out
                        obtain rfl := Et117.out
                        obtain rfl := Et118.out
                        obtain rfl := Et119.out
                        obtain rfl := Et120.out
                        obtain rfl := Et121.out
                        obtain rfl := Et122.out
                        obtain rfl := Et123.out
                        obtain rfl := Et124.out
                        obtain rfl := Et125.out
                        obtain rfl := Et126.out
                        clear Et114 Et115 Et116 Et117 Et118 Et119 Et120 Et121 Et122 Et123 Et124 Et125 Et126
                        go_wp2_with (first | (go_at_call 63; (with_reducible refine (entry_Decode.calls x3_2 (rd_T65 x4_1 x8_2).f0 (rd_T65 x4_1 x8_2).f1.f0 (rd_T65 x4_1 x8_2).f1.f1 (rd_T65 x4_1 x8_2).f1.f2 (rd_T65 x4_1 x8_2).f2 (rd_T65 x4_1 x8_2).f3 (rd_T65 x4_1 x8_2).f4 (rd_T65 x4_1 x8_2).f5 (rd_T65 x4_1 x8_2).f6.f0 (rd_T65 x4_1 x8_2).f6.f1 (rd_T65 x4_1 x8_2).f7.f0 (rd_T65 x4_1 x8_2).f7.f1 (rd_T65 x4_1 x8_2).f8 t127 t128 _ A24.out).mono ?_); rintro e w29 ⟨rfl, hb⟩; have n0_ := Aside0.mk (Kd.R_below (by (with_reducible repeat (first | apply Kd.R_alloc | apply Kd.R_drewN | apply Kd.R_drew)); exact HO_4.out) hb); have n1_ := Aside0.mk (below_step (by repeat (first | (with_reducible first | exact HB.out | apply below_alloc | apply pw_below_drewN | apply below_drew1) | exact HB.out)) hb); clear HO_4; clear HB; have HO_4 := n0_; have HB := n1_; clear n0_ n1_; (try clear hb); (try clear hb2); (try clear hk); (try clear hi)))
                        have n0_ := Aside0.mk (Kd.R_alloc HO_4.out (.cells #[.int .i64 (rd_T65 x4_1 x8_2).f0, .int .i64 (rd_T65 x4_1 x8_2).f1.f0, .int .i64 (rd_T65 x4_1 x8_2).f1.f1, .int .i64 (rd_T65 x4_1 x8_2).f1.f2, .int .i64 (rd_T65 x4_1 x8_2).f2, .int .i64 (rd_T65 x4_1 x8_2).f3, .int .i64 (rd_T65 x4_1 x8_2).f4, .int .i64 (rd_T65 x4_1 x8_2).f5, .bool (rd_T65 x4_1 x8_2).f6.f0, .string (rd_T65 x4_1 x8_2).f6.f1, .bool (rd_T65 x4_1 x8_2).f7.f0, .string (rd_T65 x4_1 x8_2).f7.f1, .int .i64 (rd_T65 x4_1 x8_2).f8] 65))
                        have n1_ := Aside0.mk (below_alloc HB.out (.cells #[.int .i64 (rd_T65 x4_1 x8_2).f0, .int .i64 (rd_T65 x4_1 x8_2).f1.f0, .int .i64 (rd_T65 x4_1 x8_2).f1.f1, .int .i64 (rd_T65 x4_1 x8_2).f1.f2, .int .i64 (rd_T65 x4_1 x8_2).f2, .int .i64 (rd_T65 x4_1 x8_2).f3, .int .i64 (rd_T65 x4_1 x8_2).f4, .int .i64 (rd_T65 x4_1 x8_2).f5, .bool (rd_T65 x4_1 x8_2).f6.f0, .string (rd_T65 x4_1 x8_2).f6.f1, .bool (rd_T65 x4_1 x8_2).f7.f0, .string (rd_T65 x4_1 x8_2).f7.f1, .int .i64 (rd_T65 x4_1 x8_2).f8] 65))
                        have hbx := blk_new w29 (.cells #[.int .i64 (rd_T65 x4_1 x8_2).f0, .int .i64 (rd_T65 x4_1 x8_2).f1.f0, .int .i64 (rd_T65 x4_1 x8_2).f1.f1, .int .i64 (rd_T65 x4_1 x8_2).f1.f2, .int .i64 (rd_T65 x4_1 x8_2).f2, .int .i64 (rd_T65 x4_1 x8_2).f3, .int .i64 (rd_T65 x4_1 x8_2).f4, .int .i64 (rd_T65 x4_1 x8_2).f5, .bool (rd_T65 x4_1 x8_2).f6.f0, .string (rd_T65 x4_1 x8_2).f6.f1, .bool (rd_T65 x4_1 x8_2).f7.f0, .string (rd_T65 x4_1 x8_2).f7.f1, .int .i64 (rd_T65 x4_1 x8_2).f8] 65 (0, 0))
                        clear HO_4 HB
                        have HO_4 := n0_
                        have HB := n1_
                        clear n0_ n1_
                        generalize w29.alloc (.cells #[.int .i64 (rd_T65 x4_1 x8_2).f0, .int .i64 (rd_T65 x4_1 x8_2).f1.f0, .int .i64 (rd_T65 x4_1 x8_2).f1.f1, .int .i64 (rd_T65 x4_1 x8_2).f1.f2, .int .i64 (rd_T65 x4_1 x8_2).f2, .int .i64 (rd_T65 x4_1 x8_2).f3, .int .i64 (rd_T65 x4_1 x8_2).f4, .int .i64 (rd_T65 x4_1 x8_2).f5, .bool (rd_T65 x4_1 x8_2).f6.f0, .string (rd_T65 x4_1 x8_2).f6.f1, .bool (rd_T65 x4_1 x8_2).f7.f0, .string (rd_T65 x4_1 x8_2).f7.f1, .int .i64 (rd_T65 x4_1 x8_2).f8] 65) = w30 at HO_4 HB hbx ⊢
                        generalize w29.heap.size = gq at hbx ⊢
                        have hz0 : w30.cell? ⟨gq, 0, none⟩ = some (.int .i64 (rd_T65 x4_1 x8_2).f0) := (blk_cell hbx 0).trans rfl
                        have hz1 : w30.cell? ⟨gq, 1, none⟩ = some (.int .i64 (rd_T65 x4_1 x8_2).f1.f0) := (blk_cell hbx 1).trans rfl
                        have hz2 : w30.cell? ⟨gq, 2, none⟩ = some (.int .i64 (rd_T65 x4_1 x8_2).f1.f1) := (blk_cell hbx 2).trans rfl
                        have hz3 : w30.cell? ⟨gq, 3, none⟩ = some (.int .i64 (rd_T65 x4_1 x8_2).f1.f2) := (blk_cell hbx 3).trans rfl
                        have hz4 : w30.cell? ⟨gq, 4, none⟩ = some (.int .i64 (rd_T65 x4_1 x8_2).f2) := (blk_cell hbx 4).trans rfl
                        have hz5 : w30.cell? ⟨gq, 5, none⟩ = some (.int .i64 (rd_T65 x4_1 x8_2).f3) := (blk_cell hbx 5).trans rfl
                        have hz6 : w30.cell? ⟨gq, 6, none⟩ = some (.int .i64 (rd_T65 x4_1 x8_2).f4) := (blk_cell hbx 6).trans rfl
                        have hz7 : w30.cell? ⟨gq, 7, none⟩ = some (.int .i64 (rd_T65 x4_1 x8_2).f5) := (blk_cell hbx 7).trans rfl
                        have hz8 : w30.cell? ⟨gq, 8, none⟩ = some (.bool (rd_T65 x4_1 x8_2).f6.f0) := (blk_cell hbx 8).trans rfl
                        have hz9 : w30.cell? ⟨gq, 9, none⟩ = some (.string (rd_T65 x4_1 x8_2).f6.f1) := (blk_cell hbx 9).trans rfl
                        have hz10 : w30.cell? ⟨gq, 10, none⟩ = some (.bool (rd_T65 x4_1 x8_2).f7.f0) := (blk_cell hbx 10).trans rfl
                        have hz11 : w30.cell? ⟨gq, 11, none⟩ = some (.string (rd_T65 x4_1 x8_2).f7.f1) := (blk_cell hbx 11).trans rfl
                        have hz12 : w30.cell? ⟨gq, 12, none⟩ = some (.int .i64 (rd_T65 x4_1 x8_2).f8) := (blk_cell hbx 12).trans rfl
                        clear hbx
                        obtain ⟨ad, e, hx0, hx1, hx2, hx3, hx4, hx5, hx6, hx7, hx8, hx9, hx10, hx11, hx12⟩ := at_T65 (Kd.R_reads' HO_4.out).2.2 x8_2 p_ p2_
                        cases e
                        go_quiet (fail)
                        go_wp2
                        go_roundg k2
                        case measure => have := HK1.out; have := HK2.out; omega
                        case rel => exact ⟨(t127), (wrap64 (x8_2 + 1)), (by first | rfl | (simp; done) | (simp [*]; done)), (by first | rfl | (simp; done) | (simp [*]; done)), H', ⟨by have := HK1.out; have := HK2.out; omega⟩, ⟨by (with_reducible repeat (first | apply Kd.R_alloc | apply Kd.R_drewN | apply Kd.R_drew)); exact Kd.R_mono HO_4.out (fun _ hk => trivial)⟩, ⟨by repeat (first | (with_reducible first | exact HB.out | apply below_alloc | apply pw_below_drewN | apply below_drew1) | exact HB.out)⟩⟩
                      · rw [if_neg c27] at H
                        have c27b0 : (t128 == 0) = false := beq_eq_false_iff_ne.mpr c27
                        have c27b1 : (t128 != 0) = true := bne_iff_ne.mpr c27
                        obtain rfl := Option.some.inj H
                        exact absurd HRT.out (by decide)
                  · rw [if_neg c25] at H
                    exact absurd H (by simp)
                · rw [if_neg c23] at H
                  have c23b0 : decide (x8_2 < (x4_1.length : Int)) = false := decide_eq_false c23
                  clear c23
                  obtain rfl := Option.some.inj H
                  obtain ⟨Ao32, co32, eo32⟩ := Kd.R_slice HO_4.out
                  subst eo32
                  go_wp2
                  repeat (go_quiet (fail); try go_wp2)
                  go_ret
                  exact ⟨by first | rfl | (simp [errW_none, errW_some] <;> rfl) | (simp [*, errW_none, errW_some] <;> rfl), by repeat (first | (with_reducible first | exact HB.out | apply below_alloc | apply pw_below_drewN | apply below_drew1) | exact HB.out)⟩
  · replace c3 := Bool.eq_false_iff.mpr c3
    subst c3
    have H1 : (some false) = some r := by rw [if_neg (show ¬ (false = true) by decide)] at H; exact H
    clear H
    have H := H1
    clear H1
    obtain rfl := Option.some.inj H
    exact absurd HRT.out (by decide)
end Go.Proofs.Ytfjmnaobfbmllaa.M
namespace Go.Proofs.Ytfjmnaobfbmllaa.M
open Go.RowKit Go.Proofs.YtfjmnaobfbmllaaW.PrintWords Go.Proofs.YtfjmnaobfbmllaaW.PrintLast Go.Proofs.YtfjmnaobfbmllaaW.PrintMore
set_option linter.unusedVariables false
set_option linter.unusedSimpArgs false
theorem rd65 (l : List S65) (i : Nat) (h : i < l.length) : rd_T65 l (i : Int) = l[i] := by
  simp [rd_T65, h]
def rowB (l : List S65) : List Int := l.flatMap encE
theorem rowB_range (l : List S65) (h : ∀ x ∈ l, GoodE x) : ∀ b ∈ rowB l, 0 ≤ b ∧ b ≤ 255 := by
  intro b hb
  unfold rowB at hb
  rw [List.mem_flatMap] at hb
  obtain ⟨x, hx, hb⟩ := hb
  exact encE_range (h x hx) b hb
theorem rowB_len (l : List S65) (h : ∀ x ∈ l, GoodE x) : (rowB l).length ≤ 600 * l.length := by
  induction l with
  | nil => simp [rowB]
  | cons x l ih =>
    have := ih (fun y hy => h y (by simp [hy]))
    have := encE_len (h x (by simp))
    unfold rowB at *
    rw [List.flatMap_cons, List.length_append, List.length_cons]; omega
theorem row_l1 (g : List S65) (hg : ∀ x ∈ g, GoodE x) (hl : g.length ≤ 40) (d : Nat) : ∀ (k i : Nat), i + d = g.length → d < k → seneschallaw04_EntryRow.l1 k (strOfNums (rowB (g.drop i))) g i = some true := by
  induction d with
  | zero =>
    intro k i hi hk
    obtain ⟨k, rfl⟩ : ∃ m, k = m + 1 := ⟨k - 1, by omega⟩
    simp only [seneschallaw04_EntryRow.l1]
    rw [if_neg (by omega), List.drop_of_length_le (by omega)]
    have : (strOfNums (rowB [])).toList = [] := (ba_nil _).mpr rfl
    rw [this]; rfl
  | succ d ih =>
    intro k i hi hk
    obtain ⟨k, rfl⟩ : ∃ m, k = m + 1 := ⟨k - 1, by omega⟩
    have hlt : i < g.length := by omega
    have hx := hg g[i] (List.getElem_mem hlt)
    have h := ih k (i + 1) (by omega) (by omega)
    rw [show ((i + 1 : Nat) : Int) = (i : Int) + 1 by omega] at h
    have e : strOfNums (rowB (g.drop i)) = strOfNums (encE g[i]) ++ strOfNums (rowB (g.drop (i + 1))) := by
      rw [str_app2 _ _ (encE_range hx) (rowB_range _ (fun x hm => hg x (List.mem_of_mem_drop hm)))]
      congr 1
      unfold rowB
      rw [List.drop_eq_getElem_cons hlt, List.flatMap_cons]
    simp only [seneschallaw04_EntryRow.l1]
    unfold entry_Decode.f
    rw [if_pos (by omega), Option.bind_some, e, decE_enc hx, if_pos (by omega), rd65 g i hlt]
    unfold entTup
    simp only
    rw [s65_bne g[i] g[i], decide_eq_true rfl, if_neg (by decide), if_pos trivial, w64 ((i : Int) + 1) (by omega) (by omega)]
    exact h
theorem row_l0 (l : List S65) (hl : l.length ≤ 40) (d : Nat) : ∀ (k i : Nat) (g : List S65), i + d = l.length → d + 41 < k → (∀ x ∈ g, GoodE x) → g.length ≤ i → seneschallaw04_EntryRow.l0 k l (strOfNums (rowB g)) g i = some true := by
  induction d with
  | zero =>
    intro k i g hi hk hg hgl
    obtain ⟨k, rfl⟩ : ∃ m, k = m + 1 := ⟨k - 1, by omega⟩
    simp only [seneschallaw04_EntryRow.l0]
    rw [if_neg (by omega)]
    have := row_l1 g hg (by omega) g.length k 0 (by omega) (by omega)
    rwa [List.drop_zero] at this
  | succ d ih =>
    intro k i g hi hk hg hgl
    obtain ⟨k, rfl⟩ : ∃ m, k = m + 1 := ⟨k - 1, by omega⟩
    have hlt : i < l.length := by omega
    simp only [seneschallaw04_EntryRow.l0]
    have hi1 : wrap64 ((i : Int) + 1) = ((i + 1 : Nat) : Int) := by rw [w64 _ (by omega) (by omega)]; omega
    rw [if_pos (by omega), if_pos (by omega), rd65 l i hlt, great4_eq, Option.bind_some]
    cases greatE l[i] with
    | true => rw [if_pos rfl]
    | false =>
      rw [if_neg Bool.false_ne_true]
      unfold entEnc.f
      rw [Option.bind_some, mk_eq, hi1]
      by_cases hx : GoodE l[i]
      · rw [encX_good hx]
        simp only
        have h1 := rowB_len g hg
        have h2 := encE_len hx
        have es : strOfNums (rowB g) ++ strOfNums (encE l[i]) = strOfNums (rowB (g ++ [l[i]])) := by
          rw [str_app2 _ _ (rowB_range g hg) (encE_range hx)]
          congr 1
          unfold rowB
          rw [List.flatMap_append, List.flatMap_singleton]
        rw [if_pos trivial, if_pos (by rw [strOfNums_size, strOfNums_size]; omega), if_pos (by omega), es]
        exact ih k (i + 1) (g ++ [l[i]]) (by omega) (by omega) (fun x hm => by rw [List.mem_append, List.mem_singleton] at hm; rcases hm with hm | rfl; exact hg x hm; exact hx) (by simp; omega)
      · rw [encX_bad hx]
        simp only
        rw [if_neg (by decide)]
        exact ih k (i + 1) g (by omega) (by omega) hg (by omega)
theorem pureEntryRow (l0 : List S65) : ∃ k, seneschallaw04_EntryRow.f k l0 = some true := by
  refine ⟨100, ?_⟩
  unfold seneschallaw04_EntryRow.f awake4.f
  rw [Option.bind_some, if_pos rfl]
  by_cases h : (l0.length : Int) > 40
  · rw [if_pos h]
  · rw [if_neg h]
    exact row_l0 l0 (by omega) l0.length 100 0 [] (by omega) (by omega) (fun x hx => by cases hx) (Nat.le_refl _)
end Go.Proofs.Ytfjmnaobfbmllaa.M
namespace Go.Proofs.Ytfjmnaobfbmllaa.entryRow
open Go.ChangeShapes Go.WideShapes Go.ChangeAt Go.RowKit Go.Proofs.Ytfjmnaobfbmllaa.M
open Go.Proofs.YtfjmnaobfbmllaaW.PrintWords Go.Proofs.YtfjmnaobfbmllaaW.PrintLast Go.Proofs.YtfjmnaobfbmllaaW.PrintMore
open Go.ChangeMaps (open_string shut_string)
set_option linter.unusedVariables false
theorem own : ownKnob Try.prog.godebug = none := by kernel_rfl
theorem laidOut : laidOutB Try.prog = true := by kernel_rfl
set_option maxRecDepth 100000 in
theorem lifted (os : Os) (started : os.Started) (H : Type) (enc : TypeId × Value → H) :
    ReturnsInHanded {} Try.checked os 17 .any (Rows.entryRowSpec.pre6 enc Try.prog Try.f17 Rows.entryRowRow.domain false) (Rows.entryRowSpec.post enc Try.prog Try.f17 false true false false) := by
  refine returnsInHanded_of_change_sized (C := Try.checked) own started (by kernel_rfl) Try.func17
    (ChangeSpec.witness6 (enc := enc) (C := Try.checked) false ⟨#[], #[.slice none 0 0], []⟩ 8 (by kernel_rfl) (by kernel_rfl) (by kernel_rfl) (by kernel_rfl)) ?_
  intro W base args ds gs before hval0 hW hcnd hsz0 _
  have hsz : (DataW.weightsEach Try.prog (Try.f17.params.toList ++ Rows.entryRowSpec.plain.varTypes Try.prog) (ds ++ gs)).all (· ≤ reachBytes) = true := hsz0
  have hval : ∀ (j : Nat) t v, Try.f17.params[j]? = some t → args[j]? = some v → Value.okWide Try.prog W .any base t v := hval0
  have hW' := hW
  obtain ⟨p, q, hA0, hV, rfl, hfz, hnd⟩ := hW
  have hA : DataW.TrodAll enc Try.prog W 0 (fun _ => true) true Try.f17.params.toList args.toList ds p := hA0
  rw [Try.params17] at hA hval hsz
  obtain ⟨v0, vs0, d0, ds0, p0, q0, hargs, rfl, rfl, h0, r0⟩ := trodAll_cons hA
  obtain ⟨rfl, rfl, rfl⟩ := trodAll_nil r0
  obtain rfl : args = #[v0] := by cases args; simp_all
  obtain ⟨rfl, rfl⟩ := trodVars_none hV
  have k0 := h0
  have lt0 : ∀ x ∈ p0, x.block < W.heap.size := by obtain ⟨m, hm⟩ := k0; exact DataW.trod_lt m _ _ _ hm
  obtain ⟨A0, c0, l0, rfl, hr0, hc0⟩ := V53 (hval 0 53 v0 rfl rfl) h0
  clear hA0 hval0 hsz0 hsz hval
  obtain ⟨k, hp⟩ := pureEntryRow l0
  refine (seneschallaw04_EntryRow.calls k A0 c0 l0 true rfl W hr0 hc0 hp).mono fun e W' ⟨he, bel⟩ => ?_
  subst he
  exact ⟨_, rfl, _, _, _, [], _, [], hW', trodAll_mk1 (shut_bool Try.underlying4 _), (trodAll_cons_mk (Below.trod laidOut (by kernel_rfl) (of_decide_eq_true (by kernel_rfl)) k0 bel lt0) trodAll_mk0), rfl, bel.frame _, fun h => by cases h⟩
theorem joined : joinedFacts Try.prog 17 Try.f17 Rows.entryRowSpec Rows.entryRowRow = true := by
  unfold joinedFacts
  rw [may_enter, lifts_final, make_is]
  kernel_rfl
theorem over : Rows.entryRowRow.holds Try.pinned (OpenSpec.ofChange Rows.entryRowSpec) :=
  OpenClaim.holds_of_wide 17 Try.f17 rfl rfl rfl rfl rfl rfl rfl ⟨rfl, rfl, rfl, rfl, rfl⟩ rfl rfl rfl rfl rfl (by kernel_rfl) Try.func17 joined
    (of_decide_eq_true (by kernel_rfl)) (by unfold Func.isWrapper; first | (rw [if_pos (by decide +kernel)]; kernel_rfl) | (rw [if_neg (by decide +kernel)]; exact ⟨rfl, rfl⟩))
    (fun os started H enc _ => lifted os started H enc)
theorem proved : Rows.EntryRowSaid := over
#print axioms proved
end Go.Proofs.Ytfjmnaobfbmllaa.entryRow
namespace Go.Proofs.Ytfjmnaobfbmllaa
theorem entryRow_holds : Rows.EntryRowSaid := entryRow.proved
end Go.Proofs.Ytfjmnaobfbmllaa
