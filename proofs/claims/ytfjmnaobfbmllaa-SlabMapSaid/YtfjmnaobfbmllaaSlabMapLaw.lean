/- The law SlabMap: it returns true for every input, and its arguments read as they did. No condition. Part 2 of 2. -/
import Derived.Test.YtfjmnaobfbmllaaProg
import Derived.Test.YtfjmnaobfbmllaaRows
import Derived.Test.YtfjmnaobfbmllaaUApart
import Derived.Test.YtfjmnaobfbmllaaUEqStruct
import Derived.Test.YtfjmnaobfbmllaaUFoot
import Derived.Test.YtfjmnaobfbmllaaUGuard
import Derived.Test.YtfjmnaobfbmllaaUKept
import Derived.Test.YtfjmnaobfbmllaaULast
import Derived.Test.YtfjmnaobfbmllaaUMore
import Derived.Test.YtfjmnaobfbmllaaUN
import Derived.Test.YtfjmnaobfbmllaaURepsOne
import Derived.Test.YtfjmnaobfbmllaaUShare
import Derived.Test.YtfjmnaobfbmllaaUTab
import Derived.Test.YtfjmnaobfbmllaaUWords
import Derived.ArgAppend
import Derived.Below
import Derived.BigQuiet
import Derived.Carry
import Derived.ChangeArms
import Derived.ChangeMaps
import Derived.ChangeOld
import Derived.Deep.AppendLies
import Derived.Deep.CutBlock
import Derived.Deep.DeepCutAuto
import Derived.Deep.Draws
import Derived.Deep.LoopGhost
import Derived.Deep.OwnRows
import Derived.Deep.QuietTactic
import Derived.Deep.RegionHeld3
import Derived.Deep.Slices
import Derived.Deep.WholeRow
import Derived.KernelRfl
import Derived.Laws.BitsLemmas
import Derived.Laws.BytesArg
import Derived.Laws.CopyOwn
import Derived.Laws.CopyRow
import Derived.Laws.IdiomCopy
import Derived.Laws.MakeOwn
import Derived.Laws.OwnMore
import Derived.Laws.Rows
import Derived.Laws.Slices
import Derived.Lib.AppendStr
import Derived.Lib.ConvBytes
import Derived.Maps.AppendAt
import Derived.OpenShut
import Derived.OrdersHeld
import Derived.OwnWalk
import Derived.ProofKit
import Derived.RowKit
import Derived.RowKit3
import Derived.ShutString
import Derived.SizedLaws
import Derived.Tactics
import Derived.WalkKit
import Derived.WideLaws
import Derived.Test.YtfjmnaobfbmllaaSlabMapA0
namespace Go.Proofs.Ytfjmnaobfbmllaa.M
open Go.RowKit Go.Proofs.YtfjmnaobfbmllaaW.PrintWords Go.Proofs.YtfjmnaobfbmllaaW.PrintLast Go.Proofs.YtfjmnaobfbmllaaW.PrintMore
attribute [local go_sem] max2_int min2_int max_two min_two max_three min_three max_four min_four   -- for this text's walks alone
set_option linter.unusedVariables false
set_option linter.unusedSimpArgs false
attribute [local go_sem high] eqA33
set_option maxHeartbeats 8000000 in
set_option maxRecDepth 100000 in
theorem seneschallaw03_SlabMap.calls (k : Nat) (A0 : Option Addr) (c0 : Nat) (l0 : List (S47)) (r : Bool) (hrt : r = true) (w : World) (hr0 : Kd.C k47 w A0 l0.length l0) (hc0 : l0.length ≤ c0) (h : seneschallaw03_SlabMap.f k l0 = some r) :
  Calls Try.prog 8 #[.slice A0 l0.length c0] w fun e w' => e = .returned (.bool r) ∧ Below w.heap.size w w' := by
 have HRT := aq hrt
 clear hrt
 have hu24 := Try.underlying24
 have hu33 := Try.underlying33
 have HR0 := aq hr0
 have HC0 := aq hc0
 clear hr0 hc0
 have HB := aq (Below.refl w.heap.size w)
 have H : ((awake3.f).bind fun t101 => (if t101 = true then (if 32 ≤ 11728124029610 then (seneschallaw03_SlabMap.l0 k l0 (List.replicate 32 z33) 0 3 ([] : List (S33))) else (none)) else (some false))) = some r := h
 clear h
 replace H := Option.bind_eq_some_iff.mp H
 obtain ⟨t101, A20, H⟩ := H
 try dsimp only at H
 have A2 := aq A20
 clear A20
 by_cases c3 : t101 = true
 ·subst c3
  rw [if_pos rfl] at H
  by_cases c4 : 32 ≤ 11728124029610
  ·rw [if_pos c4] at H
   have c4b0 := eq_true c4
   have c4b1 : decide (32 ≤ 11728124029610) = true := decide_eq_true c4
   clear c4
   obtain ⟨y103, hy103⟩ : ∃ y_ : List (S33), y_ = (List.replicate 32 z33) := ⟨_, rfl⟩
   replace H : (seneschallaw03_SlabMap.l0 k l0 y103 0 3 ([] : List (S33))) = some r := by first | (rw [hy103]; with_reducible exact H) | (have H2_ := (Option.bind_some _ _).symm.trans H; rw [hy103]; with_reducible exact H2_) | (have H2_ := (Option.bind_some _ _).symm.trans H; with_reducible exact H2_) | with_reducible exact H | (rw [hy103]; exact H) | exact H
   have Ny103 := aq hy103
   clear hy103
   have H' := aq H
   clear H
   go_enter Try.func8, Try.ntmps8
   go_wp2_with (first | ((with_reducible refine gate_callee (f := 30) rfl ?_); refine goesL_ (some 11) rfl rfl Try.func30 (by kernel_rfl) rfl #[] rfl fitR ?_; (with_reducible refine (awake3.calls  true _ A2.out).mono ?_); rintro e w5 ⟨rfl, hb⟩; refine ⟨_, rfl, ?_⟩; have n0_ := aq (below_step (stH HB) hb); replace HB := n0_; clear n0_; (try clear hb)) | ((with_reducible refine gate_dst (N := 3) rfl ?_); refine box_event ?hg (N := 3) ?hd (cs := #[.int .i64 0, .slice none 0 0]) (t := 24) ?hr ?_; (case hd => rfl); (case hg => rfl); (case hr => first | (go_simp; done) | (go_simp; rfl)); intro gb102 hg w6 hbox hb; have n0_ := aq (below_step (stH HB) hb); have n1_ := aq (hbox); have n2_ := aq ((by rw [hg]; exact (below_size (stH HB)) : w.heap.size ≤ gb102)); have n3_ := aq ((by rw [hg]; exact (below_size (stH HB)) : w.heap.size ≤ gb102)); replace HB := n0_; have BK102 := n1_; have GW102 := n2_; have GE102 := n3_; clear n0_ n1_ n2_ n3_; clear hb hbox hg; obtain ⟨k7a, k7b⟩ := cl2 (W := w6) BK102.out; obtain ⟨u7a, u7b⟩ := fr2 BK102.out) | ((with_reducible refine gate_dst (N := 4) rfl ?_); refine box_event ?hg (N := 4) ?hd (cs := z64) (t := 45) ?hr ?_; (case hd => rfl); (case hg => rfl); (case hr => first | (go_simp; done) | (go_simp; rfl)); intro gA hg w7a hbox hb; have n1_ := aq (blk_below (g := gb102) (o := .cells #[.int .i64 3, .slice none 0 0] 24 (0, 0)) (by (with_reducible repeat (first | refine blk_drewN ?_ _ | refine blk_drew ?_ | refine blk_alloc ?_ _)); refine puts2 (cs := #[.int .i64 0, .slice none 0 0]) rfl ?_; (with_reducible repeat (first | refine blk_drewN ?_ _ | refine blk_drew ?_ | refine blk_alloc ?_ _)); exact BK102.out) hb); have n2_ := aq (below_step (stH HB) hb); have GEA := aq (by rw [hg]; exact (below_size (stH HB)) : w.heap.size ≤ gA); have BKA := aq hbox; clear BK102 HB; have BK102 := n1_; have HB := n2_; clear n1_ n2_ hb hbox hg) | ((with_reducible refine gate_store (t := 45) (p := 4) rfl ?_); refine store_event (t := 45) (p := 4) (v := ?vo_) (w1 := w7a) ?hg ?ho ?hn ?hr ?_; (case ho => rfl); (case hg => rfl); (case hn => rfl); (case hr => exact store45 rfl rfl rfl BKA.out info45); intro w8 hw; subst hw))
   have HO105 : Aside0 (Kd.R k33 45 w8 w.heap.size (fun _ => True) (.slice (some ⟨gA, 0, none⟩) 32 32) y103) := ⟨by rw [Ny103.out]; exact arr_R BKA.out GEA.out⟩
   go_loopg [5] k (fun kq v5 w' => ∃ (x4_1 : List (S33)) (x5_1 : Int) (x103000_1 : Int) (x103001_1 : List (S33)) (u103001 : Value), v5 = .int .i64 x5_1 ∧ Aside0 (seneschallaw03_SlabMap.l0 kq l0 x4_1 x5_1 x103000_1 x103001_1 = some r) ∧ Aside0 (kq ≤ k) ∧ Aside0 (Kd.R k33 45 w' w.heap.size (fun k_ => some k_ ≠ (u103001 : Value).ownBlock) (.slice (some ⟨gA, 0, none⟩) 32 32 : Value) x4_1) ∧ Aside0 (Kd.R k33 33 w' w.heap.size (fun k_ => some k_ ≠ ((.slice (some ⟨gA, 0, none⟩) 32 32 : Value) : Value).ownBlock) u103001 x103001_1) ∧ Aside0 (w'.heap[gb102]? = some (.cells #[.int .i64 x103000_1, u103001] 24 (0, 0))) ∧ Aside0 (Below w.heap.size w w'))
   case atStart => exact ⟨(y103), (0), (3), (([] : List (S33))), (.slice none 0 0), eqS, H', ⟨Nat.le_refl _⟩, ⟨by (with_reducible repeat (first | apply Kd.R_alloc | apply Kd.R_drewN | apply Kd.R_drew)); exact Kd.R_mono HO105.out (fun _ hk => (by simp [Value.ownBlock]))⟩, ⟨nilA⟩, ⟨stB BK102⟩, ⟨stH HB⟩⟩
   case round =>
    clear H'
    try clear k7a k7b
    try clear u7a u7b
    try clear p2
    try clear c3
    try clear c4
    try clear c4b0
    try clear c4b1
    try clear c8
    obtain ⟨x4_1, x5_1, x103000_1, x103001_1, u103001, rfl, HA, HK1, HO_4, HO_103001, BK102, HB⟩ := hrel
    cases gk with
    | zero => exact absurd HA.out (by simp [seneschallaw03_SlabMap.l0])
    | succ k1 =>
     have H := HA.out
     clear HA
     simp only [seneschallaw03_SlabMap.l0] at H
     have HC10 := aq H
     clear H
     go_upto_region 6 with (fail)
     go_cut [22] (fun v22 wc => ∃ (kq : Nat) (x22_9 : Bool), v22 = .bool x22_9 ∧ Aside0 (seneschallaw03_SlabMap.j1 kq l0 x4_1 x5_1 x22_9 x103000_1 x103001_1 = some r) ∧ Aside0 (kq ≤ k1) ∧ Aside0 (Kd.R k33 45 wc w.heap.size (fun k_ => some k_ ≠ (u103001 : Value).ownBlock) (.slice (some ⟨gA, 0, none⟩) 32 32 : Value) x4_1) ∧ Aside0 (Kd.R k33 33 wc w.heap.size (fun k_ => some k_ ≠ ((.slice (some ⟨gA, 0, none⟩) 32 32 : Value) : Value).ownBlock) u103001 x103001_1) ∧ Aside0 (wc.heap[gb102]? = some (.cells #[.int .i64 x103000_1, u103001] 24 (0, 0))) ∧ Aside0 (Below w.heap.size w wc))
     case first =>
      have H := HC10.out
      clear HC10
      by_cases c11 : x5_1 < (l0.length : Int)
      ·rw [if_pos c11] at H
       have c11b0 : decide (x5_1 < (l0.length : Int)) = true := decide_eq_true c11
       clear c11
       (first | rw [c11b0] | (simp only [i64_w, i32_w]; rw [c11b0]) | skip)
       have H' := aq H
       clear H
       go_wp2
       go_meet
       case rel => exact ⟨_, (decide (x5_1 < 60)), eqS, H', ⟨by have := HK1.out; first | omega | exact Nat.le_refl _⟩, ⟨stR HO_4⟩, ⟨stR HO_103001⟩, ⟨stB BK102⟩, ⟨stH HB⟩⟩
      ·rw [if_neg c11] at H
       have c11b0 : decide (x5_1 < (l0.length : Int)) = false := decide_eq_false c11
       clear c11
       (first | rw [c11b0] | (simp only [i64_w, i32_w]; rw [c11b0]) | skip)
       have H' := aq H
       clear H
       go_wp2
       go_meet
       case rel => exact ⟨_, (false), eqS, H', ⟨by have := HK1.out; first | omega | exact Nat.le_refl _⟩, ⟨stR HO_4⟩, ⟨stR HO_103001⟩, ⟨stB BK102⟩, ⟨stH HB⟩⟩
     case rest =>
      clear HC10
      try clear c1
      try clear p2
      try clear c3
      try clear c4
      try clear c4b0
      try clear c4b1
      try clear c8
      try clear c11
      try clear c11b0
      obtain ⟨kq, x22_9, rfl, HA, HJ9, HO_4, HO_103001, BK102, HB⟩ := hcut
      cases kq with
      | zero => exact absurd HA.out (by simp [seneschallaw03_SlabMap.j1])
      | succ kj9 =>
       have H := HA.out
       clear HA
       simp only [seneschallaw03_SlabMap.j1] at H
       by_cases c12 : x22_9 = true
       ·subst c12
        rw [if_pos rfl] at H
        by_cases c13 : 0 ≤ x5_1
        ·rw [if_pos c13] at H
         have c13b0 : decide (0 ≤ x5_1) = true := decide_eq_true c13
         clear c13
         by_cases c14 : x5_1 < (l0.length : Int)
         ·rw [if_pos c14] at H
          have c14b0 : decide (x5_1 < (l0.length : Int)) = true := decide_eq_true c14
          clear c14
          by_cases c15 : (((rd_T47 l0 x5_1).f1.f1).size : Int) > 1024
          ·rw [if_pos c15] at H
           have c15b0 : decide (1024 < (((rd_T47 l0 x5_1).f1.f1).size : Int)) = true := decide_eq_true c15
           have c15b1 : decide (1024 < ((rd_T47 l0 x5_1).f1.f1).size) = true := decide_eq_true (by omega)
           clear c15
           obtain rfl := Option.some.inj H
           have p106 : 0 ≤ (x5_1 : Int) := of_decide_eq_true (by first | (with_reducible assumption) | assumption)
           have q106 : x5_1 < (l0.length : Int) := of_decide_eq_true (by first | (with_reducible assumption) | assumption)
           obtain ⟨ad106, e106, hx106_0, hx106_1, hx106_2⟩ := at_T47 HR0.out x5_1 p106 q106
           cases e106
           replace hx106_0 := (HB.out.cell (World.block_lt_of_cell? w _ hx106_0)).trans hx106_0
           replace hx106_1 := (HB.out.cell (World.block_lt_of_cell? w _ hx106_1)).trans hx106_1
           replace hx106_2 := (HB.out.cell (World.block_lt_of_cell? w _ hx106_2)).trans hx106_2
           replace p106 := eq_true p106
           replace q106 := eq_true q106
           go_wp2
           go_ret
           exact ⟨eqW, stH HB⟩
          ·rw [if_neg c15] at H
           have c15b0 : decide (1024 < (((rd_T47 l0 x5_1).f1.f1).size : Int)) = false := decide_eq_false c15
           have c15b1 : decide (1024 < ((rd_T47 l0 x5_1).f1.f1).size) = false := decide_eq_false (by omega)
           clear c15
           replace H := Option.bind_eq_some_iff.mp H
           obtain ⟨⟨t109, t110, t113⟩, A160, H⟩ := H
           try dsimp only at H
           have A16 := aq A160
           clear A160
           by_cases c17 : t113 = 0
           ·rw [if_pos c17] at H
            have c17b0 : (t113 == 0) = true := beq_iff_eq.mpr c17
            have c17b1 : (t113 != 0) = false := bne_eq_false_iff_eq.mpr c17
            clear c17
            obtain ⟨ji18, hji18⟩ : ∃ j_ : Int, (wrap64 (Int.tmod (IntKind.u64.wrap ((rd_T47 l0 x5_1).f0)) 32)) = j_ := ⟨_, rfl⟩
            replace H : (if 0 ≤ (ji18) then (if (ji18) < (x4_1.length : Int) then (seneschallaw03_SlabMap.l0 kj9 l0 (x4_1.set ((ji18) : Int).toNat (⟨(rd_T47 l0 x5_1).f1.f0, (rd_T47 l0 x5_1).f1.f1⟩ : S33)) (wrap64 (x5_1 + 1)) t109 t110) else (none)) else (none)) = some r := by first | (rw [hji18] at H; exact H) | (simp only [hji18] at H ⊢; exact H)
            (try rw [hji18] at A16)
            have hji18w : (IntKind.i64.wrap (Int.tmod (IntKind.u64.wrap ((rd_T47 l0 x5_1).f0)) 32)) = ji18 := (i64_w _).trans hji18
            by_cases c19 : 0 ≤ (ji18)
            ·rw [if_pos c19] at H
             have c19b0 : decide (0 ≤ (ji18)) = true := decide_eq_true c19
             clear c19
             by_cases c20 : (ji18) < (x4_1.length : Int)
             ·rw [if_pos c20] at H
              have c20b0 : decide ((ji18) < (x4_1.length : Int)) = true := decide_eq_true c20
              clear c20
              obtain ⟨y116, hy116⟩ : ∃ y_ : List (S33), y_ = (x4_1.set ((ji18) : Int).toNat (⟨(rd_T47 l0 x5_1).f1.f0, (rd_T47 l0 x5_1).f1.f1⟩ : S33)) := ⟨_, rfl⟩
              replace H : (seneschallaw03_SlabMap.l0 kj9 l0 y116 (wrap64 (x5_1 + 1)) t109 t110) = some r := by first | (rw [hy116]; with_reducible exact H) | (have H2_ := (Option.bind_some _ _).symm.trans H; rw [hy116]; with_reducible exact H2_) | (have H2_ := (Option.bind_some _ _).symm.trans H; with_reducible exact H2_) | with_reducible exact H | (rw [hy116]; exact H) | exact H
              have Ny116 := aq hy116
              clear hy116
              have H' := aq H
              clear H
              have p106 : 0 ≤ (x5_1 : Int) := of_decide_eq_true (by first | (with_reducible assumption) | assumption)
              have q106 : x5_1 < (l0.length : Int) := of_decide_eq_true (by first | (with_reducible assumption) | assumption)
              obtain ⟨ad106, e106, hx106_0, hx106_1, hx106_2⟩ := at_T47 HR0.out x5_1 p106 q106
              cases e106
              replace hx106_0 := (HB.out.cell (World.block_lt_of_cell? w _ hx106_0)).trans hx106_0
              replace hx106_1 := (HB.out.cell (World.block_lt_of_cell? w _ hx106_1)).trans hx106_1
              replace hx106_2 := (HB.out.cell (World.block_lt_of_cell? w _ hx106_2)).trans hx106_2
              replace p106 := eq_true p106
              replace q106 := eq_true q106
              have p107 : 0 ≤ (x5_1 : Int) := of_decide_eq_true (by first | (with_reducible assumption) | assumption)
              have q107 : x5_1 < (l0.length : Int) := of_decide_eq_true (by first | (with_reducible assumption) | assumption)
              obtain ⟨ad107, e107, hx107_0, hx107_1, hx107_2⟩ := at_T47 HR0.out x5_1 p107 q107
              obtain rfl : ad106 = ad107 := (by injection e107)
              replace hx107_0 := (HB.out.cell (World.block_lt_of_cell? w _ hx107_0)).trans hx107_0
              replace hx107_1 := (HB.out.cell (World.block_lt_of_cell? w _ hx107_1)).trans hx107_1
              replace hx107_2 := (HB.out.cell (World.block_lt_of_cell? w _ hx107_2)).trans hx107_2
              replace p107 := eq_true p107
              replace q107 := eq_true q107
              obtain ⟨Ao22, co22, eo22⟩ := Kd.R_slice HO_103001.out
              subst eo22
              try go_wp2
              have n0_ := aq (Kd.R_drew HO_4.out)
              have n1_ := aq (Kd.R_drew HO_103001.out)
              have n2_ := aq (blk_drew BK102.out)
              have n3_ := aq (below_drew1 HB.out)
              clear HO_4
              clear HO_103001
              clear BK102
              clear HB
              have HO_4 := n0_
              have HO_103001 := n1_
              have BK102 := n2_
              have HB := n3_
              clear n0_ n1_ n2_ n3_
              have p108 : 0 ≤ (x5_1 : Int) := of_decide_eq_true (by first | (with_reducible assumption) | assumption)
              have q108 : x5_1 < (l0.length : Int) := of_decide_eq_true (by first | (with_reducible assumption) | assumption)
              obtain ⟨ad108, e108, hx108_0, hx108_1, hx108_2⟩ := at_T47 HR0.out x5_1 p108 q108
              have hw108_2 := hx108_2
              have hw108_1 := hx108_1
              have hw108_0 := hx108_0
              obtain rfl : ad106 = ad108 := (by injection e108)
              replace hx108_0 := (HB.out.cell (World.block_lt_of_cell? w _ hx108_0)).trans hx108_0
              replace hx108_1 := (HB.out.cell (World.block_lt_of_cell? w _ hx108_1)).trans hx108_1
              replace hx108_2 := (HB.out.cell (World.block_lt_of_cell? w _ hx108_2)).trans hx108_2
              replace p108 := eq_true p108
              replace q108 := eq_true q108
              refine start_ (n := 14) (S := fun w' => w'.cell? ⟨gb102, 0, none⟩ = some (.int .i64 x103000_1) ∧ w'.cell? ⟨gb102, 1, none⟩ = some (.slice Ao22 x103001_1.length co22) ∧ w'.cell? (ad106.add ((x5_1).toNat * 3)) = some (.int .i64 ((rd_T47 l0 x5_1).f0)) ∧ w'.cell? ⟨(ad106.add ((x5_1).toNat * 3)).block, (ad106.add ((x5_1).toNat * 3)).off + 1, none⟩ = some (.bool ((rd_T47 l0 x5_1).f1.f0)) ∧ w'.cell? ⟨(ad106.add ((x5_1).toNat * 3)).block, (ad106.add ((x5_1).toNat * 3)).off + 2, none⟩ = some (.string ((rd_T47 l0 x5_1).f1.f1))) (ds := []) #[false, false, false, false, false, false, false, false, false, false, false, false, false, false] (by kernel_rfl) rfl rfl ⟨(blk_cell BK102.out 0).trans rfl, (blk_cell BK102.out 1).trans rfl, ((HB.out.cell (World.block_lt_of_cell? w _ hw108_0)).trans hw108_0), ((HB.out.cell (World.block_lt_of_cell? w _ hw108_1)).trans hw108_1), ((HB.out.cell (World.block_lt_of_cell? w _ hw108_2)).trans hw108_2)⟩ (fun hHeld => ?_); refine with_tabW seneschallaw03_SlabMap.tab11 seneschallaw03_SlabMap.bits11 (fun HT_ HW_ => ?_)
              generalize wc.drew = w23 at HO_4 HO_103001 BK102 HB hx108_0 hx108_1 hx108_2 hHeld ⊢
              refine pure_ (i := 1) (N := some 43) (v := ?_) (a' := ?_) #[false, true, false, false, false, false, false, false, false, false, false, false, false, false] rfl rfl (any_of HT_.out (by kernel_rfl)) (fun _ _ _ h => h) (Or.inl ⟨by rfl, ?_⟩) ?_ ?_
              rotate_left
              ·intro w'
               go_simp
               with_reducible rfl
              rotate_left
              ·simp only [Act.put, List.setIfInBounds_toArray, List.set_cons_zero, List.set_cons_succ, i64_w, i32_w]
               rfl
              refine pure_ (i := 2) (N := some 44) (v := ?_) (a' := ?_) #[false, true, true, false, false, false, false, false, false, false, false, false, false, false] rfl rfl (any_of HT_.out (by kernel_rfl)) (fun _ _ _ h => h) (Or.inl ⟨by rfl, ?_⟩) ?_ ?_
              rotate_left
              ·intro w'
               go_simp
               with_reducible rfl
              rotate_left
              ·simp only [Act.put, List.setIfInBounds_toArray, List.set_cons_zero, List.set_cons_succ, i64_w, i32_w]
               rfl
              refine pure_ (i := 3) (N := some 45) (v := ?_) (a' := ?_) #[false, true, true, true, false, false, false, false, false, false, false, false, false, false] rfl rfl (any_of HT_.out (by kernel_rfl)) (fun _ _ _ h => h) (Or.inl ⟨by rfl, ?_⟩) ?_ ?_
              rotate_left
              ·intro w'
               go_simp
               with_reducible rfl
              rotate_left
              ·simp only [Act.put, List.setIfInBounds_toArray, List.set_cons_zero, List.set_cons_succ, i64_w, i32_w]
               rfl
              refine pure_ (i := 4) (N := some 46) (v := ?_) (a' := ?_) #[false, true, true, true, true, false, false, false, false, false, false, false, false, false] rfl rfl (any_of HT_.out (by kernel_rfl)) (fun _ _ _ h => h) (Or.inl ⟨by rfl, ?_⟩) ?_ ?_
              rotate_left
              ·intro w'
               go_simp
               with_reducible rfl
              rotate_left
              ·simp only [Act.put, List.setIfInBounds_toArray, List.set_cons_zero, List.set_cons_succ, i64_w, i32_w]
               rfl
              refine pure_ (i := 5) (N := some 47) (v := ?_) (a' := ?_) #[false, true, true, true, true, true, false, false, false, false, false, false, false, false] rfl rfl (any_of HT_.out (by kernel_rfl)) (fun _ _ _ h => h) (Or.inl ⟨by rfl, ?_⟩) ?_ ?_
              rotate_left
              ·intro w'
               go_simp
               with_reducible rfl
              rotate_left
              ·simp only [Act.put, List.setIfInBounds_toArray, List.set_cons_zero, List.set_cons_succ, i64_w, i32_w]
               rfl
              refine take_ (i := 0) (N := some 42) (v := ?_) (a' := ?_) #[true, true, true, true, true, true, false, false, false, false, false, false, false, false] rfl rfl (take_ofW HT_.out HW_.out (by kernel_rfl)) (fun _ _ _ h => h) (Or.inl ⟨by rfl, ?_⟩) hHeld ?_ ?_
              rotate_left
              ·rintro w' ⟨s0, s1, s2, s3, s4⟩
               go_simp
               with_reducible rfl
              rotate_left
              ·simp only [Act.put, List.setIfInBounds_toArray, List.set_cons_zero, List.set_cons_succ, i64_w, i32_w]
               rfl
              refine take_ (i := 6) (N := some 48) (v := ?_) (a' := ?_) #[true, true, true, true, true, true, true, false, false, false, false, false, false, false] rfl rfl (take_ofW HT_.out HW_.out (by kernel_rfl)) (fun _ _ _ h => h) (Or.inl ⟨by rfl, ?_⟩) hHeld ?_ ?_
              rotate_left
              ·rintro w' ⟨s0, s1, s2, s3, s4⟩
               go_simp
               with_reducible rfl
              rotate_left
              ·simp only [Act.put, List.setIfInBounds_toArray, List.set_cons_zero, List.set_cons_succ, i64_w, i32_w]
               rfl
              refine join_ (σ := Value × Nat) 2 #[true, true, true, true, true, true, true, true, true, true, true, true, false, false] (fun s_ => [(49, .tuple #[.agg #[.int .i64 t109, s_.1], .int .i64 t113]), (7, .pointer (some ⟨s_.2, 0, none⟩)), (41, .tuple #[.agg #[.int .i64 t109, s_.1], .int .i64 t113]), (50, .agg #[.int .i64 t109, s_.1]), (51, .int .i64 t113)]) (fun s_ w' => (w'.cell? ⟨gb102, 0, none⟩ = some (.int .i64 x103000_1) ∧ w'.cell? ⟨gb102, 1, none⟩ = some (.slice Ao22 x103001_1.length co22) ∧ w'.cell? (ad106.add ((x5_1).toNat * 3)) = some (.int .i64 ((rd_T47 l0 x5_1).f0)) ∧ w'.cell? ⟨(ad106.add ((x5_1).toNat * 3)).block, (ad106.add ((x5_1).toNat * 3)).off + 1, none⟩ = some (.bool ((rd_T47 l0 x5_1).f1.f0)) ∧ w'.cell? ⟨(ad106.add ((x5_1).toNat * 3)).block, (ad106.add ((x5_1).toNat * 3)).off + 2, none⟩ = some (.string ((rd_T47 l0 x5_1).f1.f1))) ∧ (Kd.R k33 33 w' w.heap.size (fun k_ => some k_ ≠ (.slice Ao22 x103001_1.length co22 : Value).ownBlock ∧ some k_ ≠ ((.slice (some ⟨gA, 0, none⟩) 32 32 : Value) : Value).ownBlock) s_.1 t110) ∧ (Kd.R k33 33 w' w.heap.size (fun k_ => some k_ ≠ (s_.1 : Value).ownBlock ∧ some k_ ≠ ((.slice (some ⟨gA, 0, none⟩) 32 32 : Value) : Value).ownBlock) (.slice Ao22 x103001_1.length co22) x103001_1) ∧ (Kd.R k33 45 w' w.heap.size (fun k_ => some k_ ≠ (s_.1 : Value).ownBlock ∧ some k_ ≠ (.slice Ao22 x103001_1.length co22 : Value).ownBlock) (.slice (some ⟨gA, 0, none⟩) 32 32 : Value) x4_1) ∧ (w'.heap[gb102]? = some (.cells #[.int .i64 x103000_1, .slice Ao22 x103001_1.length co22] 24 (0, 0))) ∧ (w'.heap[s_.2]? = some (.cells #[.int .i64 0, .slice none 0 0] 24 (0, 0))) ∧ (w.heap.size ≤ s_.2) ∧ (w.heap.size ≤ s_.2) ∧ (gb102 ≠ s_.2) ∧ (s_.2 ≠ gb102) ∧ (Below w.heap.size w w')) ?_ ?_
              rotate_left
              ·intro hCont
               refine two_ (i := 7) (j := 11) (Ni := some 49) (Nj := some 7) #[true, true, true, true, true, true, true, true, false, false, false, false, false, false] #[true, true, true, true, true, true, true, false, false, false, false, true, false, false] rfl rfl rfl rfl (two_of HT_.out (by kernel_rfl)) (by decide) (by decide) (fun K hK => ?_) (fun K hK => ?_)
               ·skip
                refine goes_ Try.func38 (by kernel_rfl) rfl #[.agg #[.int .i64 x103000_1, .slice Ao22 x103001_1.length co22], .int .i64 ji18, .agg #[.bool ((rd_T47 l0 x5_1).f1.f0), .string ((rd_T47 l0 x5_1).f1.f1)]] (by rfl) rfl rfl (by (try simp only [List.map_toArray, List.map_cons, List.map_nil]); first | done | (simp only [hji18]; rfl) | rfl | (simp only [List.length_drop, List.length_take]; rfl)) ?_
                with_reducible refine (slabPut.calls x103000_1 _ _ x103001_1 ji18 ((rd_T47 l0 x5_1).f1.f0) ((rd_T47 l0 x5_1).f1.f1) t109 t110 t113 _ ?side1 ?side2 A16.out).mono ?_
                (case side1 => repeat (first | exact (Kd.R_reads' HO_103001.out).2.2 | (with_reducible refine Kd.C_alloc ?_ _) | (with_reducible refine Kd.C_drewN ?_ _) | (with_reducible refine Kd.C_drew ?_)))
                (case side2 => exact (Kd.R_reads' HO_103001.out).2.1)
                rintro e w24 ⟨v111, rfl, ho0, hb⟩
                refine ⟨_, rfl, ?_⟩
                have n0_ := aq (Kd.R_elder' (stR HO_4) (Kd.R_base ho0) hb)
                have n1_ := aq (Kd.R_elder' (stR HO_103001) (Kd.R_base ho0) hb)
                have n2_ := aq (Kd.R_lower (Kd.R_new' (Kd.R_new' ho0 (Kd.R_lt (stR HO_4))) (Kd.R_lt (stR HO_103001))) (below_size (stH HB)))
                have n3_ := aq (blk_below (stB BK102) hb)
                have n4_ := aq (below_step (stH HB) hb)
                clear HO_4
                clear HO_103001
                clear BK102
                clear HB
                have HO_4 := n0_
                have HO_103001 := n1_
                have HO112 := n2_
                have BK102 := n3_
                have HB := n4_
                clear n0_ n1_ n2_ n3_ n4_
                (try clear hb)
                (try clear hb2)
                (try clear hk)
                (try clear hi)
                (try clear ho0)
                refine hK.out _ _ ⟨(blk_cell BK102.out 0).trans rfl, (blk_cell BK102.out 1).trans rfl, ((HB.out.cell (World.block_lt_of_cell? w _ hw108_0)).trans hw108_0), ((HB.out.cell (World.block_lt_of_cell? w _ hw108_1)).trans hw108_1), ((HB.out.cell (World.block_lt_of_cell? w _ hw108_2)).trans hw108_2)⟩ (fun hHeld => ?_)
                clear hK K
                refine norm_ (a' := ?_) ?_ ?_
                rotate_left
                ·show Act.put _ (some 49) _ = _
                 simp only [Act.put, List.setIfInBounds_toArray, List.set_cons_zero, List.set_cons_succ, i64_w, i32_w]
                 rfl
                refine pure_ (i := 8) (N := some 41) (v := ?_) (a' := ?_) #[true, true, true, true, true, true, true, true, true, false, false, false, false, false] rfl rfl (any_of HT_.out (by kernel_rfl)) (fun _ _ _ h => h) (Or.inl ⟨by rfl, ?_⟩) ?_ ?_
                rotate_left
                ·intro w'
                 go_simp
                 with_reducible rfl
                rotate_left
                ·simp only [Act.put, List.setIfInBounds_toArray, List.set_cons_zero, List.set_cons_succ, i64_w, i32_w]
                 rfl
                refine pure_ (i := 9) (N := some 50) (v := ?_) (a' := ?_) #[true, true, true, true, true, true, true, true, true, true, false, false, false, false] rfl rfl (any_of HT_.out (by kernel_rfl)) (fun _ _ _ h => h) (Or.inl ⟨by rfl, ?_⟩) ?_ ?_
                rotate_left
                ·intro w'
                 go_simp
                 with_reducible rfl
                rotate_left
                ·simp only [Act.put, List.setIfInBounds_toArray, List.set_cons_zero, List.set_cons_succ, i64_w, i32_w]
                 rfl
                refine pure_ (i := 10) (N := some 51) (v := ?_) (a' := ?_) #[true, true, true, true, true, true, true, true, true, true, true, false, false, false] rfl rfl (any_of HT_.out (by kernel_rfl)) (fun _ _ _ h => h) (Or.inl ⟨by rfl, ?_⟩) ?_ ?_
                rotate_left
                ·intro w'
                 go_simp
                 with_reducible rfl
                rotate_left
                ·simp only [Act.put, List.setIfInBounds_toArray, List.set_cons_zero, List.set_cons_succ, i64_w, i32_w]
                 rfl
                refine one_ (i := 11) (N := some 7) #[true, true, true, true, true, true, true, true, true, true, true, true, false, false] rfl rfl (one_of HT_.out (by kernel_rfl)) (by decide) (fun K hK => ?_)
                refine box_step ?hg (N := 7) ?hd (cs := #[.int .i64 0, .slice none 0 0]) (t := 24) ?hr ?_; (case hd => rfl); (case hg => rfl); (case hr => first | (go_simp; done) | (go_simp; rfl))
                intro gb114 hg w25 hbox hb
                have n0_ := aq (Kd.R_below (stR HO_4) hb)
                have n1_ := aq (Kd.R_below (stR HO_103001) hb)
                have n2_ := aq (Kd.R_below (stR HO112) hb)
                have n3_ := aq (blk_below (stB BK102) hb)
                have n4_ := aq (below_step (stH HB) hb)
                have n5_ := aq (hbox)
                have n6_ := aq ((by rw [hg]; exact (below_size (stH HB)) : w.heap.size ≤ gb114))
                have n7_ := aq ((by rw [hg]; exact (below_size (stH HB)) : w.heap.size ≤ gb114))
                have n8_ := aq ((by rw [hg]; exact Nat.ne_of_lt (blk_lt (stB BK102)) : gb102 ≠ gb114))
                have n9_ := aq ((by rw [hg]; exact Nat.ne_of_gt (blk_lt (stB BK102)) : gb114 ≠ gb102))
                clear HO_4
                clear HO_103001
                clear HO112
                clear BK102
                clear HB
                have HO_4 := n0_
                have HO_103001 := n1_
                have HO112 := n2_
                have BK102 := n3_
                have HB := n4_
                have BK114 := n5_
                have GW114 := n6_
                have GE114 := n7_
                have NB102_114 := n8_
                have NB114_102 := n9_
                clear n0_ n1_ n2_ n3_ n4_ n5_ n6_ n7_ n8_ n9_
                clear hb hbox hg
                refine hK.out _ _ ⟨(blk_cell BK102.out 0).trans rfl, (blk_cell BK102.out 1).trans rfl, ((HB.out.cell (World.block_lt_of_cell? w _ hw108_0)).trans hw108_0), ((HB.out.cell (World.block_lt_of_cell? w _ hw108_1)).trans hw108_1), ((HB.out.cell (World.block_lt_of_cell? w _ hw108_2)).trans hw108_2)⟩ (fun hHeld => ?_)
                clear hK K
                refine norm_ (a' := ?_) ?_ ?_
                rotate_left
                ·show Act.put _ (some 7) _ = _
                 simp only [Act.put, List.setIfInBounds_toArray, List.set_cons_zero, List.set_cons_succ, i64_w, i32_w]
                 rfl
                exact norm_ (by simp only [putAll, Act.put, List.setIfInBounds_toArray, List.set_cons_zero, List.set_cons_succ]) (hCont (v111, gb114) _ ⟨hHeld, (by (with_reducible repeat (first | apply Kd.R_alloc | apply Kd.R_drewN | apply Kd.R_drew)); exact Kd.R_mono HO112.out (fun _ hk => ⟨hk.2, hk.1.2⟩)), (by (with_reducible repeat (first | apply Kd.R_alloc | apply Kd.R_drewN | apply Kd.R_drew)); exact Kd.R_mono HO_103001.out (fun _ hk => ⟨hk.2, hk.1⟩)), (by (with_reducible repeat (first | apply Kd.R_alloc | apply Kd.R_drewN | apply Kd.R_drew)); exact Kd.R_mono HO_4.out (fun _ hk => ⟨hk.2, hk.1⟩)), (stB BK102), (stB BK114), GW114.out, GE114.out, NB102_114.out, NB114_102.out, (stH HB)⟩)
               ·skip
                refine box_step ?hg (N := 7) ?hd (cs := #[.int .i64 0, .slice none 0 0]) (t := 24) ?hr ?_; (case hd => rfl); (case hg => rfl); (case hr => first | (go_simp; done) | (go_simp; rfl))
                intro gb114 hg w24 hbox hb
                have n0_ := aq (Kd.R_below (stR HO_4) hb)
                have n1_ := aq (Kd.R_below (stR HO_103001) hb)
                have n2_ := aq (blk_below (stB BK102) hb)
                have n3_ := aq (below_step (stH HB) hb)
                have n4_ := aq (hbox)
                have n5_ := aq ((by rw [hg]; exact (below_size (stH HB)) : w.heap.size ≤ gb114))
                have n6_ := aq ((by rw [hg]; exact (below_size (stH HB)) : w.heap.size ≤ gb114))
                have n7_ := aq ((by rw [hg]; exact Nat.ne_of_lt (blk_lt (stB BK102)) : gb102 ≠ gb114))
                have n8_ := aq ((by rw [hg]; exact Nat.ne_of_gt (blk_lt (stB BK102)) : gb114 ≠ gb102))
                clear HO_4
                clear HO_103001
                clear BK102
                clear HB
                have HO_4 := n0_
                have HO_103001 := n1_
                have BK102 := n2_
                have HB := n3_
                have BK114 := n4_
                have GW114 := n5_
                have GE114 := n6_
                have NB102_114 := n7_
                have NB114_102 := n8_
                clear n0_ n1_ n2_ n3_ n4_ n5_ n6_ n7_ n8_
                clear hb hbox hg
                refine hK.out _ _ ⟨(blk_cell BK102.out 0).trans rfl, (blk_cell BK102.out 1).trans rfl, ((HB.out.cell (World.block_lt_of_cell? w _ hw108_0)).trans hw108_0), ((HB.out.cell (World.block_lt_of_cell? w _ hw108_1)).trans hw108_1), ((HB.out.cell (World.block_lt_of_cell? w _ hw108_2)).trans hw108_2)⟩ (fun hHeld => ?_)
                clear hK K
                refine norm_ (a' := ?_) ?_ ?_
                rotate_left
                ·show Act.put _ (some 7) _ = _
                 simp only [Act.put, List.setIfInBounds_toArray, List.set_cons_zero, List.set_cons_succ, i64_w, i32_w]
                 rfl
                refine one_ (i := 7) (N := some 49) #[true, true, true, true, true, true, true, true, false, false, false, true, false, false] rfl rfl (one_of HT_.out (by kernel_rfl)) (by decide) (fun K hK => ?_)
                refine goes_ Try.func38 (by kernel_rfl) rfl #[.agg #[.int .i64 x103000_1, .slice Ao22 x103001_1.length co22], .int .i64 ji18, .agg #[.bool ((rd_T47 l0 x5_1).f1.f0), .string ((rd_T47 l0 x5_1).f1.f1)]] (by rfl) rfl rfl (by (try simp only [List.map_toArray, List.map_cons, List.map_nil]); first | done | (simp only [hji18]; rfl) | rfl | (simp only [List.length_drop, List.length_take]; rfl)) ?_
                with_reducible refine (slabPut.calls x103000_1 _ _ x103001_1 ji18 ((rd_T47 l0 x5_1).f1.f0) ((rd_T47 l0 x5_1).f1.f1) t109 t110 t113 _ ?side1 ?side2 A16.out).mono ?_
                (case side1 => repeat (first | exact (Kd.R_reads' HO_103001.out).2.2 | (with_reducible refine Kd.C_alloc ?_ _) | (with_reducible refine Kd.C_drewN ?_ _) | (with_reducible refine Kd.C_drew ?_)))
                (case side2 => exact (Kd.R_reads' HO_103001.out).2.1)
                rintro e w25 ⟨v111, rfl, ho0, hb⟩
                refine ⟨_, rfl, ?_⟩
                have n0_ := aq (Kd.R_elder' (stR HO_4) (Kd.R_base ho0) hb)
                have n1_ := aq (Kd.R_elder' (stR HO_103001) (Kd.R_base ho0) hb)
                have n2_ := aq (Kd.R_lower (Kd.R_new' (Kd.R_new' ho0 (Kd.R_lt (stR HO_4))) (Kd.R_lt (stR HO_103001))) (below_size (stH HB)))
                have n3_ := aq (blk_below (stB BK102) hb)
                have n4_ := aq (blk_below (stB BK114) hb)
                have n5_ := aq (below_step (stH HB) hb)
                clear HO_4
                clear HO_103001
                clear BK102
                clear BK114
                clear HB
                have HO_4 := n0_
                have HO_103001 := n1_
                have HO112 := n2_
                have BK102 := n3_
                have BK114 := n4_
                have HB := n5_
                clear n0_ n1_ n2_ n3_ n4_ n5_
                (try clear hb)
                (try clear hb2)
                (try clear hk)
                (try clear hi)
                (try clear ho0)
                refine hK.out _ _ ⟨(blk_cell BK102.out 0).trans rfl, (blk_cell BK102.out 1).trans rfl, ((HB.out.cell (World.block_lt_of_cell? w _ hw108_0)).trans hw108_0), ((HB.out.cell (World.block_lt_of_cell? w _ hw108_1)).trans hw108_1), ((HB.out.cell (World.block_lt_of_cell? w _ hw108_2)).trans hw108_2)⟩ (fun hHeld => ?_)
                clear hK K
                refine norm_ (a' := ?_) ?_ ?_
                rotate_left
                ·show Act.put _ (some 49) _ = _
                 simp only [Act.put, List.setIfInBounds_toArray, List.set_cons_zero, List.set_cons_succ, i64_w, i32_w]
                 rfl
                refine pure_ (i := 8) (N := some 41) (v := ?_) (a' := ?_) #[true, true, true, true, true, true, true, true, true, false, false, true, false, false] rfl rfl (any_of HT_.out (by kernel_rfl)) (fun _ _ _ h => h) (Or.inl ⟨by rfl, ?_⟩) ?_ ?_
                rotate_left
                ·intro w'
                 go_simp
                 with_reducible rfl
                rotate_left
                ·simp only [Act.put, List.setIfInBounds_toArray, List.set_cons_zero, List.set_cons_succ, i64_w, i32_w]
                 rfl
                refine pure_ (i := 9) (N := some 50) (v := ?_) (a' := ?_) #[true, true, true, true, true, true, true, true, true, true, false, true, false, false] rfl rfl (any_of HT_.out (by kernel_rfl)) (fun _ _ _ h => h) (Or.inl ⟨by rfl, ?_⟩) ?_ ?_
                rotate_left
                ·intro w'
                 go_simp
                 with_reducible rfl
                rotate_left
                ·simp only [Act.put, List.setIfInBounds_toArray, List.set_cons_zero, List.set_cons_succ, i64_w, i32_w]
                 rfl
                refine pure_ (i := 10) (N := some 51) (v := ?_) (a' := ?_) #[true, true, true, true, true, true, true, true, true, true, true, true, false, false] rfl rfl (any_of HT_.out (by kernel_rfl)) (fun _ _ _ h => h) (Or.inl ⟨by rfl, ?_⟩) ?_ ?_
                rotate_left
                ·intro w'
                 go_simp
                 with_reducible rfl
                rotate_left
                ·simp only [Act.put, List.setIfInBounds_toArray, List.set_cons_zero, List.set_cons_succ, i64_w, i32_w]
                 rfl
                exact norm_ (by simp only [putAll, Act.put, List.setIfInBounds_toArray, List.set_cons_zero, List.set_cons_succ]) (hCont (v111, gb114) _ ⟨hHeld, (by (with_reducible repeat (first | apply Kd.R_alloc | apply Kd.R_drewN | apply Kd.R_drew)); exact Kd.R_mono HO112.out (fun _ hk => ⟨hk.2, hk.1.2⟩)), (by (with_reducible repeat (first | apply Kd.R_alloc | apply Kd.R_drewN | apply Kd.R_drew)); exact Kd.R_mono HO_103001.out (fun _ hk => ⟨hk.2, hk.1⟩)), (by (with_reducible repeat (first | apply Kd.R_alloc | apply Kd.R_drewN | apply Kd.R_drew)); exact Kd.R_mono HO_4.out (fun _ hk => ⟨hk.2, hk.1⟩)), (stB BK102), (stB BK114), GW114.out, GE114.out, NB102_114.out, NB114_102.out, (stH HB)⟩)
              rintro ⟨v111, gb114⟩ w26 ⟨hS_, h0_, h1_, h2_, h3_, h4_, h5_, h6_, h7_, h8_, h9_⟩
              have n0_ : Aside0 (Kd.R k33 33 w26 w.heap.size (fun k_ => some k_ ≠ (.slice Ao22 x103001_1.length co22 : Value).ownBlock ∧ some k_ ≠ ((.slice (some ⟨gA, 0, none⟩) 32 32 : Value) : Value).ownBlock) v111 t110) := ⟨h0_⟩
              have n1_ : Aside0 (Kd.R k33 33 w26 w.heap.size (fun k_ => some k_ ≠ (v111 : Value).ownBlock ∧ some k_ ≠ ((.slice (some ⟨gA, 0, none⟩) 32 32 : Value) : Value).ownBlock) (.slice Ao22 x103001_1.length co22) x103001_1) := ⟨h1_⟩
              have n2_ : Aside0 (Kd.R k33 45 w26 w.heap.size (fun k_ => some k_ ≠ (v111 : Value).ownBlock ∧ some k_ ≠ (.slice Ao22 x103001_1.length co22 : Value).ownBlock) (.slice (some ⟨gA, 0, none⟩) 32 32 : Value) x4_1) := ⟨h2_⟩
              have n3_ : Aside0 (w26.heap[gb102]? = some (.cells #[.int .i64 x103000_1, .slice Ao22 x103001_1.length co22] 24 (0, 0))) := ⟨h3_⟩
              have n4_ : Aside0 (w26.heap[gb114]? = some (.cells #[.int .i64 0, .slice none 0 0] 24 (0, 0))) := ⟨h4_⟩
              have n5_ : Aside0 (w.heap.size ≤ gb114) := ⟨h5_⟩
              have n6_ : Aside0 (w.heap.size ≤ gb114) := ⟨h6_⟩
              have n7_ : Aside0 (gb102 ≠ gb114) := ⟨h7_⟩
              have n8_ : Aside0 (gb114 ≠ gb102) := ⟨h8_⟩
              have n9_ : Aside0 (Below w.heap.size w w26) := ⟨h9_⟩
              clear HO_4
              clear HO_103001
              clear BK102
              clear HB
              clear h0_ h1_ h2_ h3_ h4_ h5_ h6_ h7_ h8_ h9_
              have HO112 := n0_
              have HO_103001 := n1_
              have HO_4 := n2_
              have BK102 := n3_
              have BK114 := n4_
              have GW114 := n5_
              have GE114 := n6_
              have NB102_114 := n7_
              have NB114_102 := n8_
              have HB := n9_
              clear n0_ n1_ n2_ n3_ n4_ n5_ n6_ n7_ n8_ n9_
              have hHeld : w26.cell? ⟨gb102, 0, none⟩ = some (.int .i64 x103000_1) ∧ w26.cell? ⟨gb102, 1, none⟩ = some (.slice Ao22 x103001_1.length co22) ∧ w26.cell? (ad106.add ((x5_1).toNat * 3)) = some (.int .i64 ((rd_T47 l0 x5_1).f0)) ∧ w26.cell? ⟨(ad106.add ((x5_1).toNat * 3)).block, (ad106.add ((x5_1).toNat * 3)).off + 1, none⟩ = some (.bool ((rd_T47 l0 x5_1).f1.f0)) ∧ w26.cell? ⟨(ad106.add ((x5_1).toNat * 3)).block, (ad106.add ((x5_1).toNat * 3)).off + 2, none⟩ = some (.string ((rd_T47 l0 x5_1).f1.f1)) := hS_
              obtain ⟨Ao28, co28, eo28⟩ := Kd.R_slice HO112.out
              (first | subst eo28 | (injection eo28 with f1_ f2_ f3_; have f4_ := f1_.symm; have f5_ := f3_.symm; clear f1_ f2_ f3_; subst f4_; subst f5_))
              refine norm_ (a' := ?_) ?_ ?_
              rotate_left
              ·simp only [putAll, Act.put, List.setIfInBounds_toArray, List.set_cons_zero, List.set_cons_succ]
               rfl
              refine one_ (i := 12) (N := none) #[true, true, true, true, true, true, true, true, true, true, true, true, true, false] rfl rfl (one_of HT_.out (by kernel_rfl)) (by decide) (fun K hK => ?_)
              have hs27 : w26.cell? ⟨gb114, 0, none⟩ = some (.int .i64 0) := (blk_cell BK114.out 0).trans rfl
              have hfs27 := blk_frozen BK114.out 0
              have hns27_0 := NB102_114.out
              have hms27_0 := NB114_102.out
              have hs29 : w26.cell? ⟨gb114, 1, none⟩ = some (.slice none 0 0) := (blk_cell BK114.out 1).trans rfl
              have hfs29 := blk_frozen BK114.out 1
              have hns29_0 := NB102_114.out
              have hms29_0 := NB114_102.out
              refine skip_ (w1 := ?_) (by rfl) rfl ?_ ?_
              rotate_left
              ·go_simp
               rfl
              refine hK.out _ _ ⟨((cell_far (p := ⟨gb114, _, none⟩) NB102_114.out _).trans (((cell_far (p := ⟨gb114, _, none⟩) NB102_114.out _).trans (hHeld.1)))), ((cell_far (p := ⟨gb114, _, none⟩) NB102_114.out _).trans (((cell_far (p := ⟨gb114, _, none⟩) NB102_114.out _).trans (hHeld.2.1)))), ((cell_far (p := ⟨gb114, _, none⟩) (by first | exact Nat.ne_of_lt (Nat.lt_of_lt_of_le (by have := World.block_lt_of_cell? _ _ hw108_0; first | rwa [add_block] at this | exact this) GW114.out) | (rw [add_block]; exact Nat.ne_of_lt (Nat.lt_of_lt_of_le (by have := World.block_lt_of_cell? _ _ hw108_0; first | rwa [add_block] at this | exact this) GW114.out)) | (show (Addr.add _ _).block ≠ _; rw [add_block]; exact Nat.ne_of_lt (Nat.lt_of_lt_of_le (by have := World.block_lt_of_cell? _ _ hw108_0; first | rwa [add_block] at this | exact this) GW114.out)) | (dsimp only; exact Nat.ne_of_lt (Nat.lt_of_lt_of_le (by have := World.block_lt_of_cell? _ _ hw108_0; first | rwa [add_block] at this | exact this) GW114.out))) _).trans (((cell_far (p := ⟨gb114, _, none⟩) (by first | exact Nat.ne_of_lt (Nat.lt_of_lt_of_le (by have := World.block_lt_of_cell? _ _ hw108_0; first | rwa [add_block] at this | exact this) GW114.out) | (rw [add_block]; exact Nat.ne_of_lt (Nat.lt_of_lt_of_le (by have := World.block_lt_of_cell? _ _ hw108_0; first | rwa [add_block] at this | exact this) GW114.out)) | (show (Addr.add _ _).block ≠ _; rw [add_block]; exact Nat.ne_of_lt (Nat.lt_of_lt_of_le (by have := World.block_lt_of_cell? _ _ hw108_0; first | rwa [add_block] at this | exact this) GW114.out)) | (dsimp only; exact Nat.ne_of_lt (Nat.lt_of_lt_of_le (by have := World.block_lt_of_cell? _ _ hw108_0; first | rwa [add_block] at this | exact this) GW114.out))) _).trans (hHeld.2.2.1)))), ((cell_far (p := ⟨gb114, _, none⟩) (by first | exact Nat.ne_of_lt (Nat.lt_of_lt_of_le (by have := World.block_lt_of_cell? _ _ hw108_1; first | rwa [add_block] at this | exact this) GW114.out) | (rw [add_block]; exact Nat.ne_of_lt (Nat.lt_of_lt_of_le (by have := World.block_lt_of_cell? _ _ hw108_1; first | rwa [add_block] at this | exact this) GW114.out)) | (show (Addr.add _ _).block ≠ _; rw [add_block]; exact Nat.ne_of_lt (Nat.lt_of_lt_of_le (by have := World.block_lt_of_cell? _ _ hw108_1; first | rwa [add_block] at this | exact this) GW114.out)) | (dsimp only; exact Nat.ne_of_lt (Nat.lt_of_lt_of_le (by have := World.block_lt_of_cell? _ _ hw108_1; first | rwa [add_block] at this | exact this) GW114.out))) _).trans (((cell_far (p := ⟨gb114, _, none⟩) (by first | exact Nat.ne_of_lt (Nat.lt_of_lt_of_le (by have := World.block_lt_of_cell? _ _ hw108_1; first | rwa [add_block] at this | exact this) GW114.out) | (rw [add_block]; exact Nat.ne_of_lt (Nat.lt_of_lt_of_le (by have := World.block_lt_of_cell? _ _ hw108_1; first | rwa [add_block] at this | exact this) GW114.out)) | (show (Addr.add _ _).block ≠ _; rw [add_block]; exact Nat.ne_of_lt (Nat.lt_of_lt_of_le (by have := World.block_lt_of_cell? _ _ hw108_1; first | rwa [add_block] at this | exact this) GW114.out)) | (dsimp only; exact Nat.ne_of_lt (Nat.lt_of_lt_of_le (by have := World.block_lt_of_cell? _ _ hw108_1; first | rwa [add_block] at this | exact this) GW114.out))) _).trans (hHeld.2.2.2.1)))), ((cell_far (p := ⟨gb114, _, none⟩) (by first | exact Nat.ne_of_lt (Nat.lt_of_lt_of_le (by have := World.block_lt_of_cell? _ _ hw108_2; first | rwa [add_block] at this | exact this) GW114.out) | (rw [add_block]; exact Nat.ne_of_lt (Nat.lt_of_lt_of_le (by have := World.block_lt_of_cell? _ _ hw108_2; first | rwa [add_block] at this | exact this) GW114.out)) | (show (Addr.add _ _).block ≠ _; rw [add_block]; exact Nat.ne_of_lt (Nat.lt_of_lt_of_le (by have := World.block_lt_of_cell? _ _ hw108_2; first | rwa [add_block] at this | exact this) GW114.out)) | (dsimp only; exact Nat.ne_of_lt (Nat.lt_of_lt_of_le (by have := World.block_lt_of_cell? _ _ hw108_2; first | rwa [add_block] at this | exact this) GW114.out))) _).trans (((cell_far (p := ⟨gb114, _, none⟩) (by first | exact Nat.ne_of_lt (Nat.lt_of_lt_of_le (by have := World.block_lt_of_cell? _ _ hw108_2; first | rwa [add_block] at this | exact this) GW114.out) | (rw [add_block]; exact Nat.ne_of_lt (Nat.lt_of_lt_of_le (by have := World.block_lt_of_cell? _ _ hw108_2; first | rwa [add_block] at this | exact this) GW114.out)) | (show (Addr.add _ _).block ≠ _; rw [add_block]; exact Nat.ne_of_lt (Nat.lt_of_lt_of_le (by have := World.block_lt_of_cell? _ _ hw108_2; first | rwa [add_block] at this | exact this) GW114.out)) | (dsimp only; exact Nat.ne_of_lt (Nat.lt_of_lt_of_le (by have := World.block_lt_of_cell? _ _ hw108_2; first | rwa [add_block] at this | exact this) GW114.out))) _).trans (hHeld.2.2.2.2))))⟩ (fun hHeld => ?_)
              clear hK K
              refine pure_ (i := 13) (N := some 8) (v := ?_) (a' := ?_) #[true, true, true, true, true, true, true, true, true, true, true, true, true, true] rfl rfl (any_of HT_.out (by kernel_rfl)) (fun _ _ _ h => h) (Or.inl ⟨by rfl, ?_⟩) ?_ ?_
              rotate_left
              ·intro w'
               go_simp
               with_reducible rfl
              rotate_left
              ·simp only [Act.put, List.setIfInBounds_toArray, List.set_cons_zero, List.set_cons_succ, i64_w, i32_w]
               rfl
              refine done_ (done_of HT_.out (by kernel_rfl)) ?_
              have n0_ : Aside0 (Kd.R k33 45 ((w26.setCell ⟨gb114, 0, none⟩ (.int .i64 t109)).setCell ⟨gb114, 1, none⟩ (.slice Ao28 t110.length co28)) w.heap.size (fun k_ => some k_ ≠ (.slice Ao22 x103001_1.length co22 : Value).ownBlock ∧ some k_ ≠ (.slice Ao28 t110.length co28 : Value).ownBlock) (.slice (some ⟨gA, 0, none⟩) 32 32 : Value) x4_1) := ⟨by (with_reducible repeat (first | apply Kd.R_alloc | apply Kd.R_drewN | apply Kd.R_drew)); exact Kd.R_mono (Kd.R_far (p := ⟨gb114, 1, none⟩) (Kd.R_far (p := ⟨gb114, 0, none⟩) (Kd.R_types HO_4.out BK114.out (by decide)) (fun _ hk => hk.2) (.int .i64 t109)) (fun _ hk => hk.2) (.slice Ao28 t110.length co28)) (fun _ hk => ⟨hk.1.2, hk.1.1⟩)⟩
              have n1_ : Aside0 (Kd.R k33 33 ((w26.setCell ⟨gb114, 0, none⟩ (.int .i64 t109)).setCell ⟨gb114, 1, none⟩ (.slice Ao28 t110.length co28)) w.heap.size (fun k_ => some k_ ≠ ((.slice (some ⟨gA, 0, none⟩) 32 32 : Value) : Value).ownBlock ∧ some k_ ≠ (.slice Ao28 t110.length co28 : Value).ownBlock) (.slice Ao22 x103001_1.length co22) x103001_1) := ⟨by (with_reducible repeat (first | apply Kd.R_alloc | apply Kd.R_drewN | apply Kd.R_drew)); exact Kd.R_mono (Kd.R_far (p := ⟨gb114, 1, none⟩) (Kd.R_far (p := ⟨gb114, 0, none⟩) (Kd.R_types HO_103001.out BK114.out (by decide)) (fun _ hk => hk.2) (.int .i64 t109)) (fun _ hk => hk.2) (.slice Ao28 t110.length co28)) (fun _ hk => ⟨hk.1.2, hk.1.1⟩)⟩
              have n2_ : Aside0 (Kd.R k33 33 ((w26.setCell ⟨gb114, 0, none⟩ (.int .i64 t109)).setCell ⟨gb114, 1, none⟩ (.slice Ao28 t110.length co28)) w.heap.size (fun k_ => some k_ ≠ ((.slice (some ⟨gA, 0, none⟩) 32 32 : Value) : Value).ownBlock ∧ some k_ ≠ (.slice Ao22 x103001_1.length co22 : Value).ownBlock) (.slice Ao28 t110.length co28) t110) := ⟨by (with_reducible repeat (first | apply Kd.R_alloc | apply Kd.R_drewN | apply Kd.R_drew)); exact Kd.R_mono (Kd.R_far (p := ⟨gb114, 1, none⟩) (Kd.R_far (p := ⟨gb114, 0, none⟩) (Kd.R_types HO112.out BK114.out (by decide)) (fun _ hk => hk.2) (.int .i64 t109)) (fun _ hk => hk.2) (.slice Ao28 t110.length co28)) (fun _ hk => ⟨hk.1.2, hk.1.1⟩)⟩
              have n3_ : Aside0 (((w26.setCell ⟨gb114, 0, none⟩ (.int .i64 t109)).setCell ⟨gb114, 1, none⟩ (.slice Ao28 t110.length co28)).heap[gb102]? = some (.cells #[.int .i64 x103000_1, .slice Ao22 x103001_1.length co22] 24 (0, 0))) := ⟨stF BK102⟩
              have n4_ : Aside0 (((w26.setCell ⟨gb114, 0, none⟩ (.int .i64 t109)).setCell ⟨gb114, 1, none⟩ (.slice Ao28 t110.length co28)).heap[gb114]? = some (.cells #[.int .i64 t109, .slice Ao28 t110.length co28] 24 (0, 0))) := ⟨by (with_reducible repeat (first | refine blk_drewN ?_ _ | refine blk_drew ?_ | refine blk_alloc ?_ _)); refine puts2 (cs := #[.int .i64 0, .slice none 0 0]) rfl ?_; (with_reducible repeat (first | refine blk_drewN ?_ _ | refine blk_drew ?_ | refine blk_alloc ?_ _)); exact BK114.out⟩
              have n5_ : Aside0 (Below w.heap.size w ((w26.setCell ⟨gb114, 0, none⟩ (.int .i64 t109)).setCell ⟨gb114, 1, none⟩ (.slice Ao28 t110.length co28))) := ⟨stH HB⟩
              (try clear HO_4)
              (try clear HO_103001)
              (try clear HO112)
              (try clear BK102)
              (try clear BK114)
              (try clear HB)
              generalize ((w26.setCell ⟨gb114, 0, none⟩ (.int .i64 t109)).setCell ⟨gb114, 1, none⟩ (.slice Ao28 t110.length co28)) = w30 at n0_ n1_ n2_ n3_ n4_ n5_ ⊢
              have HO_4 := n0_
              have HO_103001 := n1_
              have HO112 := n2_
              have BK102 := n3_
              have BK114 := n4_
              have HB := n5_
              clear n0_ n1_ n2_ n3_ n4_ n5_
              have hnb31 := NB114_102.out
              have hnc31 := NB102_114.out
              obtain ⟨k32a, k32b⟩ := cl2 (W := w30) BK114.out
              obtain ⟨u32a, u32b⟩ := fr2 BK114.out
              obtain ⟨k33a, k33b⟩ := cl2 (W := w30) BK102.out
              obtain ⟨u33a, u33b⟩ := fr2 BK102.out
              go_upto_region 14 with (first | ((with_reducible refine gate_store (t := 24) (p := 3) rfl ?_); refine store_event (t := 24) (p := 3) (v := ?vo_w34) (w1 := ((w30.setCell ⟨gb102, 0, none⟩ (.int .i64 t109)).setCell ⟨gb102, 1, none⟩ (.slice Ao28 t110.length co28))) ?hg ?ho ?hn ?hr ?_; (case ho => rfl); (case hg => rfl); (case hn => rfl); (case hr => first | (go_simp; done) | (go_simp; rfl)); intro w34 hw; have n0_ : Aside0 (Kd.R k33 45 w34 w.heap.size (fun k_ => some k_ ≠ (.slice Ao22 x103001_1.length co22 : Value).ownBlock ∧ some k_ ≠ (.slice Ao28 t110.length co28 : Value).ownBlock) (.slice (some ⟨gA, 0, none⟩) 32 32 : Value) x4_1) := ⟨(by rw [hw]; exact (by (with_reducible repeat (first | apply Kd.R_alloc | apply Kd.R_drewN | apply Kd.R_drew)); exact Kd.R_mono (Kd.R_far (p := ⟨gb102, 1, none⟩) (Kd.R_far (p := ⟨gb102, 0, none⟩) (Kd.R_types HO_4.out BK102.out (by decide)) (fun _ hk => hk.2) (.int .i64 t109)) (fun _ hk => hk.2) (.slice Ao28 t110.length co28)) (fun _ hk => ⟨hk.1.1, hk.1.2⟩)))⟩; have n1_ : Aside0 (Kd.R k33 33 w34 w.heap.size (fun k_ => some k_ ≠ ((.slice (some ⟨gA, 0, none⟩) 32 32 : Value) : Value).ownBlock ∧ some k_ ≠ (.slice Ao28 t110.length co28 : Value).ownBlock) (.slice Ao22 x103001_1.length co22) x103001_1) := ⟨(by rw [hw]; exact (by (with_reducible repeat (first | apply Kd.R_alloc | apply Kd.R_drewN | apply Kd.R_drew)); exact Kd.R_mono (Kd.R_far (p := ⟨gb102, 1, none⟩) (Kd.R_far (p := ⟨gb102, 0, none⟩) (Kd.R_types HO_103001.out BK102.out (by decide)) (fun _ hk => hk.2) (.int .i64 t109)) (fun _ hk => hk.2) (.slice Ao28 t110.length co28)) (fun _ hk => ⟨hk.1.1, hk.1.2⟩)))⟩; have n2_ : Aside0 (Kd.R k33 33 w34 w.heap.size (fun k_ => some k_ ≠ ((.slice (some ⟨gA, 0, none⟩) 32 32 : Value) : Value).ownBlock ∧ some k_ ≠ (.slice Ao22 x103001_1.length co22 : Value).ownBlock) (.slice Ao28 t110.length co28) t110) := ⟨(by rw [hw]; exact (by (with_reducible repeat (first | apply Kd.R_alloc | apply Kd.R_drewN | apply Kd.R_drew)); exact Kd.R_mono (Kd.R_far (p := ⟨gb102, 1, none⟩) (Kd.R_far (p := ⟨gb102, 0, none⟩) (Kd.R_types HO112.out BK102.out (by decide)) (fun _ hk => hk.2) (.int .i64 t109)) (fun _ hk => hk.2) (.slice Ao28 t110.length co28)) (fun _ hk => ⟨hk.1.1, hk.1.2⟩)))⟩; have n3_ : Aside0 (w34.heap[gb102]? = some (.cells #[.int .i64 t109, .slice Ao28 t110.length co28] 24 (0, 0))) := ⟨(by rw [hw]; exact (by (with_reducible repeat (first | refine blk_drewN ?_ _ | refine blk_drew ?_ | refine blk_alloc ?_ _)); refine puts2 (cs := #[.int .i64 x103000_1, .slice Ao22 x103001_1.length co22]) rfl ?_; (with_reducible repeat (first | refine blk_drewN ?_ _ | refine blk_drew ?_ | refine blk_alloc ?_ _)); exact BK102.out))⟩; have n4_ : Aside0 (w34.heap[gb114]? = some (.cells #[.int .i64 t109, .slice Ao28 t110.length co28] 24 (0, 0))) := ⟨(by rw [hw]; exact (stF BK114))⟩; have n5_ : Aside0 (Below w.heap.size w w34) := ⟨(by rw [hw]; exact (stH HB))⟩; clear hw; replace HO_4 := n0_; replace HO_103001 := n1_; replace HO112 := n2_; replace BK102 := n3_; replace BK114 := n4_; replace HB := n5_; clear n0_ n1_ n2_ n3_ n4_ n5_))
              have p115 : 0 ≤ (x5_1 : Int) := of_decide_eq_true (by first | (with_reducible assumption) | assumption)
              have q115 : x5_1 < (l0.length : Int) := of_decide_eq_true (by first | (with_reducible assumption) | assumption)
              obtain ⟨ad115, e115, hx115_0, hx115_1, hx115_2⟩ := at_T47 HR0.out x5_1 p115 q115
              obtain rfl : ad106 = ad115 := (by injection e115)
              replace hx115_0 := (HB.out.cell (World.block_lt_of_cell? w _ hx115_0)).trans hx115_0
              replace hx115_1 := (HB.out.cell (World.block_lt_of_cell? w _ hx115_1)).trans hx115_1
              replace hx115_2 := (HB.out.cell (World.block_lt_of_cell? w _ hx115_2)).trans hx115_2
              replace p115 := eq_true p115
              replace q115 := eq_true q115
              have p21 : 0 ≤ ((ji18) : Int) := of_decide_eq_true (by first | (with_reducible assumption) | assumption)
              have q21 : ((ji18) : Int) < ((x4_1.length : Int) : Int) := of_decide_eq_true (by first | (with_reducible assumption) | assumption)
              obtain ⟨go_, co_, eo_, gb21, gl21, cl21, HG21⟩ := Kd.R_form HO_4.out (by omega)
              have hgo_ : gA = go_ := (by injection eo_ with ea_ en_ ec_; injection ea_ with ea_; injection ea_ with ea_)
              subst hgo_
              clear eo_
              have GB21 := aq gb21
              have GG21 := aq HG21
              clear gb21 gl21 HG21
              obtain ⟨ce21, hcl21, hM21, hcc21, hfr21⟩ := Kd.R_elem HO_4.out z33 ((ji18) : Int) p21 (by have e_ := (Kd.R_reads' HO_4.out).1; omega)
              obtain rfl := k33_openM hM21
              have hx21_0 : w34.cell? ⟨gA, ((ji18) : Int).toNat * 2, none⟩ = some (.bool ((rd_T33 x4_1 (ji18)).f0)) := hcc21 0 _ rfl
              have hx21_1 : w34.cell? ⟨gA, ((ji18) : Int).toNat * 2 + 1, none⟩ = some (.string ((rd_T33 x4_1 (ji18)).f1)) := hcc21 1 _ rfl
              have hf21_0 : w34.frozen? ⟨gA, ((ji18) : Int).toNat * 2, none⟩ = false := hfr21 0
              have hf21_1 : w34.frozen? ⟨gA, ((ji18) : Int).toNat * 2 + 1, none⟩ = false := hfr21 1
              clear hcl21 hcc21 hfr21 hM21
              replace p21 := eq_true p21
              have b32_ : (ji18 < 32) = True := eq_true (by have e_ := (Kd.R_reads' HO_4.out).1; omega)
              replace q21 := eq_true q21
              have HX35 := aq (show Kd.R k33 45 w34 w.heap.size (fun k_ => some k_ ≠ (.slice Ao22 x103001_1.length co22 : Value).ownBlock ∧ some k_ ≠ (.slice Ao28 t110.length co28 : Value).ownBlock) (.slice (some ⟨gA, 0, none⟩) 32 32 : Value) x4_1 from (stR HO_4))
              obtain ⟨ce35, hcl35, hM35, hcc35, hfr35⟩ := Kd.R_elem HX35.out z33 ((ji18) : Int) (of_decide_eq_true (by first | (with_reducible assumption) | assumption)) (by have h_ : ((ji18) : Int) < ((x4_1.length : Int) : Int) := of_decide_eq_true (by first | (with_reducible assumption) | assumption); first | exact h_ | (have e_ := (Kd.R_reads' HO_4.out).1; omega) | simpa using h_)
              obtain rfl := k33_openM hM35
              have HP35 := Kd.R_seg HX35.out ((ji18) : Int) (of_decide_eq_true (by first | (with_reducible assumption) | assumption)) (by have h_ : ((ji18) : Int) < ((x4_1.length : Int) : Int) := of_decide_eq_true (by first | (with_reducible assumption) | assumption); first | exact h_ | (have e_ := (Kd.R_reads' HO_4.out).1; omega) | simpa using h_) (seg := [.bool ((rd_T47 l0 x5_1).f1.f0), .string ((rd_T47 l0 x5_1).f1.f1)]) (j := 0) hcl35 hcc35 (show 2 ≤ 2 from by decide) (x' := (⟨(rd_T47 l0 x5_1).f1.f0, (rd_T47 l0 x5_1).f1.f1⟩ : S33)) (k33_mkM _ _ _ (⟨(rd_T47 l0 x5_1).f1.f0, (rd_T47 l0 x5_1).f1.f1⟩ : S33) ) (fun _ hk => hk)
              have hx35_0 := hcc35 0 _ rfl
              (try simp only [show (k33).sz = 2 from rfl, Nat.mul_one, Nat.add_zero] at hx35_0)
              have hf35_0 := hfr35 0
              (try simp only [show (k33).sz = 2 from rfl, Nat.mul_one, Nat.add_zero] at hf35_0)
              have hx35_1 := hcc35 1 _ rfl
              (try simp only [show (k33).sz = 2 from rfl, Nat.mul_one, Nat.add_zero] at hx35_1)
              have hf35_1 := hfr35 1
              (try simp only [show (k33).sz = 2 from rfl, Nat.mul_one, Nat.add_zero] at hf35_1)
              clear hcl35 hcc35 hfr35 hM35
              go_wp2_with (first | ((with_reducible refine gate_store (t := 33) (p := 61) rfl ?_); refine store_event (t := 33) (p := 61) (v := ?vo_w36) (w1 := ((w34.setCell ⟨gA, ((ji18) : Int).toNat * 2, none⟩ (.bool ((rd_T47 l0 x5_1).f1.f0))).setCell ⟨gA, ((ji18) : Int).toNat * 2 + 1, none⟩ (.string ((rd_T47 l0 x5_1).f1.f1)))) ?hg ?ho ?hn ?hr ?_; (case ho => rfl); (case hg => rfl); (case hn => rfl); (case hr => first | (go_simp; done) | (go_simp; rfl)); intro w36 hw; have hg : w34.grownBy w36 (some gA) := (by rw [hw]; exact HP35.2); have hp_ : Kd.R k33 45 w36 w.heap.size (fun k_ => some k_ ≠ (.slice Ao22 x103001_1.length co22 : Value).ownBlock ∧ some k_ ≠ (.slice Ao28 t110.length co28 : Value).ownBlock) (.slice (some ⟨gA, 0, none⟩) 32 32 : Value) y116 := (by rw [hw, Ny116.out]; exact HP35.1); clear HP35; have n0_ := aq (hp_); have n1_ := aq (Kd.R_after (v := (.slice (some ⟨gA, 0, none⟩) 32 32 : Value)) (v1 := (.slice (some ⟨gA, 0, none⟩) 32 32 : Value)) (ok := (fun k_ => some k_ ≠ (.slice Ao28 t110.length co28 : Value).ownBlock)) (by (with_reducible repeat (first | apply Kd.R_alloc | apply Kd.R_drewN | apply Kd.R_drew)); exact Kd.R_mono HO_103001.out (fun _ hk => ⟨hk.2, hk.1⟩)) hg (.inl rfl)); have n2_ := aq (blk_grown (stB BK102) hg (Kd.R_ne HO_4.out BK102.out (by decide))); have n3_ := aq (Kd.R_after (v := (.slice (some ⟨gA, 0, none⟩) 32 32 : Value)) (v1 := (.slice (some ⟨gA, 0, none⟩) 32 32 : Value)) (ok := (fun k_ => some k_ ≠ (.slice Ao22 x103001_1.length co22 : Value).ownBlock)) (by (with_reducible repeat (first | apply Kd.R_alloc | apply Kd.R_drewN | apply Kd.R_drew)); exact Kd.R_mono HO112.out (fun _ hk => ⟨hk.2, hk.1⟩)) hg (.inl rfl)); have n4_ := aq (blk_grown (stB BK114) hg (Kd.R_ne HO_4.out BK114.out (by decide))); have n5_ := aq ((by rw [hw]; exact below_set (below_set (HB.out) GB21.out) GB21.out : Below w.heap.size w w36)); replace HO_4 := n0_; replace HO_103001 := n1_; replace BK102 := n2_; replace HO112 := n3_; replace BK114 := n4_; replace HB := n5_; clear n0_ n1_ n2_ n3_ n4_ n5_; clear hg hw hp_))
              go_roundg kj9
              case measure => have := HK1.out; have := HJ9.out; omega
              case rel => exact ⟨(y116), (wrap64 (x5_1 + 1)), (t109), (t110), (.slice Ao28 t110.length co28), eqS, H', ⟨by have := HK1.out; have := HJ9.out; omega⟩, ⟨by (with_reducible repeat (first | apply Kd.R_alloc | apply Kd.R_drewN | apply Kd.R_drew)); exact Kd.R_mono HO_4.out (fun _ hk => hk.2)⟩, ⟨by (with_reducible repeat (first | apply Kd.R_alloc | apply Kd.R_drewN | apply Kd.R_drew)); exact Kd.R_mono HO112.out (fun _ hk => hk.2)⟩, ⟨stB BK102⟩, ⟨stH HB⟩⟩
             ·rw [if_neg c20] at H
              exact absurd H (by simp)
            ·rw [if_neg c19] at H
             exact absurd H (by simp)
           ·rw [if_neg c17] at H
            have c17b0 : (t113 == 0) = false := beq_eq_false_iff_ne.mpr c17
            have c17b1 : (t113 != 0) = true := bne_iff_ne.mpr c17
            have H' := aq H
            clear H
            have p106 : 0 ≤ (x5_1 : Int) := of_decide_eq_true (by first | (with_reducible assumption) | assumption)
            have q106 : x5_1 < (l0.length : Int) := of_decide_eq_true (by first | (with_reducible assumption) | assumption)
            obtain ⟨ad106, e106, hx106_0, hx106_1, hx106_2⟩ := at_T47 HR0.out x5_1 p106 q106
            cases e106
            replace hx106_0 := (HB.out.cell (World.block_lt_of_cell? w _ hx106_0)).trans hx106_0
            replace hx106_1 := (HB.out.cell (World.block_lt_of_cell? w _ hx106_1)).trans hx106_1
            replace hx106_2 := (HB.out.cell (World.block_lt_of_cell? w _ hx106_2)).trans hx106_2
            replace p106 := eq_true p106
            replace q106 := eq_true q106
            have p107 : 0 ≤ (x5_1 : Int) := of_decide_eq_true (by first | (with_reducible assumption) | assumption)
            have q107 : x5_1 < (l0.length : Int) := of_decide_eq_true (by first | (with_reducible assumption) | assumption)
            obtain ⟨ad107, e107, hx107_0, hx107_1, hx107_2⟩ := at_T47 HR0.out x5_1 p107 q107
            obtain rfl : ad106 = ad107 := (by injection e107)
            replace hx107_0 := (HB.out.cell (World.block_lt_of_cell? w _ hx107_0)).trans hx107_0
            replace hx107_1 := (HB.out.cell (World.block_lt_of_cell? w _ hx107_1)).trans hx107_1
            replace hx107_2 := (HB.out.cell (World.block_lt_of_cell? w _ hx107_2)).trans hx107_2
            replace p107 := eq_true p107
            replace q107 := eq_true q107
            obtain ⟨Ao37, co37, eo37⟩ := Kd.R_slice HO_103001.out
            subst eo37
            try go_wp2
            have n0_ := aq (Kd.R_drew HO_4.out)
            have n1_ := aq (Kd.R_drew HO_103001.out)
            have n2_ := aq (blk_drew BK102.out)
            have n3_ := aq (below_drew1 HB.out)
            clear HO_4
            clear HO_103001
            clear BK102
            clear HB
            have HO_4 := n0_
            have HO_103001 := n1_
            have BK102 := n2_
            have HB := n3_
            clear n0_ n1_ n2_ n3_
            have p108 : 0 ≤ (x5_1 : Int) := of_decide_eq_true (by first | (with_reducible assumption) | assumption)
            have q108 : x5_1 < (l0.length : Int) := of_decide_eq_true (by first | (with_reducible assumption) | assumption)
            obtain ⟨ad108, e108, hx108_0, hx108_1, hx108_2⟩ := at_T47 HR0.out x5_1 p108 q108
            have hw108_2 := hx108_2
            have hw108_1 := hx108_1
            have hw108_0 := hx108_0
            obtain rfl : ad106 = ad108 := (by injection e108)
            replace hx108_0 := (HB.out.cell (World.block_lt_of_cell? w _ hx108_0)).trans hx108_0
            replace hx108_1 := (HB.out.cell (World.block_lt_of_cell? w _ hx108_1)).trans hx108_1
            replace hx108_2 := (HB.out.cell (World.block_lt_of_cell? w _ hx108_2)).trans hx108_2
            replace p108 := eq_true p108
            replace q108 := eq_true q108
            refine start_ (n := 14) (S := fun w' => w'.cell? ⟨gb102, 0, none⟩ = some (.int .i64 x103000_1) ∧ w'.cell? ⟨gb102, 1, none⟩ = some (.slice Ao37 x103001_1.length co37) ∧ w'.cell? (ad106.add ((x5_1).toNat * 3)) = some (.int .i64 ((rd_T47 l0 x5_1).f0)) ∧ w'.cell? ⟨(ad106.add ((x5_1).toNat * 3)).block, (ad106.add ((x5_1).toNat * 3)).off + 1, none⟩ = some (.bool ((rd_T47 l0 x5_1).f1.f0)) ∧ w'.cell? ⟨(ad106.add ((x5_1).toNat * 3)).block, (ad106.add ((x5_1).toNat * 3)).off + 2, none⟩ = some (.string ((rd_T47 l0 x5_1).f1.f1))) (ds := []) #[false, false, false, false, false, false, false, false, false, false, false, false, false, false] (by kernel_rfl) rfl rfl ⟨(blk_cell BK102.out 0).trans rfl, (blk_cell BK102.out 1).trans rfl, ((HB.out.cell (World.block_lt_of_cell? w _ hw108_0)).trans hw108_0), ((HB.out.cell (World.block_lt_of_cell? w _ hw108_1)).trans hw108_1), ((HB.out.cell (World.block_lt_of_cell? w _ hw108_2)).trans hw108_2)⟩ (fun hHeld => ?_); refine with_tabW seneschallaw03_SlabMap.tab11 seneschallaw03_SlabMap.bits11 (fun HT_ HW_ => ?_)
            generalize wc.drew = w38 at HO_4 HO_103001 BK102 HB hx108_0 hx108_1 hx108_2 hHeld ⊢
            refine pure_ (i := 1) (N := some 43) (v := ?_) (a' := ?_) #[false, true, false, false, false, false, false, false, false, false, false, false, false, false] rfl rfl (any_of HT_.out (by kernel_rfl)) (fun _ _ _ h => h) (Or.inl ⟨by rfl, ?_⟩) ?_ ?_
            rotate_left
            ·intro w'
             go_simp
             with_reducible rfl
            rotate_left
            ·simp only [Act.put, List.setIfInBounds_toArray, List.set_cons_zero, List.set_cons_succ, i64_w, i32_w]
             rfl
            refine pure_ (i := 2) (N := some 44) (v := ?_) (a' := ?_) #[false, true, true, false, false, false, false, false, false, false, false, false, false, false] rfl rfl (any_of HT_.out (by kernel_rfl)) (fun _ _ _ h => h) (Or.inl ⟨by rfl, ?_⟩) ?_ ?_
            rotate_left
            ·intro w'
             go_simp
             with_reducible rfl
            rotate_left
            ·simp only [Act.put, List.setIfInBounds_toArray, List.set_cons_zero, List.set_cons_succ, i64_w, i32_w]
             rfl
            refine pure_ (i := 3) (N := some 45) (v := ?_) (a' := ?_) #[false, true, true, true, false, false, false, false, false, false, false, false, false, false] rfl rfl (any_of HT_.out (by kernel_rfl)) (fun _ _ _ h => h) (Or.inl ⟨by rfl, ?_⟩) ?_ ?_
            rotate_left
            ·intro w'
             go_simp
             with_reducible rfl
            rotate_left
            ·simp only [Act.put, List.setIfInBounds_toArray, List.set_cons_zero, List.set_cons_succ, i64_w, i32_w]
             rfl
            refine pure_ (i := 4) (N := some 46) (v := ?_) (a' := ?_) #[false, true, true, true, true, false, false, false, false, false, false, false, false, false] rfl rfl (any_of HT_.out (by kernel_rfl)) (fun _ _ _ h => h) (Or.inl ⟨by rfl, ?_⟩) ?_ ?_
            rotate_left
            ·intro w'
             go_simp
             with_reducible rfl
            rotate_left
            ·simp only [Act.put, List.setIfInBounds_toArray, List.set_cons_zero, List.set_cons_succ, i64_w, i32_w]
             rfl
            refine pure_ (i := 5) (N := some 47) (v := ?_) (a' := ?_) #[false, true, true, true, true, true, false, false, false, false, false, false, false, false] rfl rfl (any_of HT_.out (by kernel_rfl)) (fun _ _ _ h => h) (Or.inl ⟨by rfl, ?_⟩) ?_ ?_
            rotate_left
            ·intro w'
             go_simp
             with_reducible rfl
            rotate_left
            ·simp only [Act.put, List.setIfInBounds_toArray, List.set_cons_zero, List.set_cons_succ, i64_w, i32_w]
             rfl
            refine take_ (i := 0) (N := some 42) (v := ?_) (a' := ?_) #[true, true, true, true, true, true, false, false, false, false, false, false, false, false] rfl rfl (take_ofW HT_.out HW_.out (by kernel_rfl)) (fun _ _ _ h => h) (Or.inl ⟨by rfl, ?_⟩) hHeld ?_ ?_
            rotate_left
            ·rintro w' ⟨s0, s1, s2, s3, s4⟩
             go_simp
             with_reducible rfl
            rotate_left
            ·simp only [Act.put, List.setIfInBounds_toArray, List.set_cons_zero, List.set_cons_succ, i64_w, i32_w]
             rfl
            refine take_ (i := 6) (N := some 48) (v := ?_) (a' := ?_) #[true, true, true, true, true, true, true, false, false, false, false, false, false, false] rfl rfl (take_ofW HT_.out HW_.out (by kernel_rfl)) (fun _ _ _ h => h) (Or.inl ⟨by rfl, ?_⟩) hHeld ?_ ?_
            rotate_left
            ·rintro w' ⟨s0, s1, s2, s3, s4⟩
             go_simp
             with_reducible rfl
            rotate_left
            ·simp only [Act.put, List.setIfInBounds_toArray, List.set_cons_zero, List.set_cons_succ, i64_w, i32_w]
             rfl
            refine join_ (σ := Value × Nat) 2 #[true, true, true, true, true, true, true, true, true, true, true, true, false, false] (fun s_ => [(49, .tuple #[.agg #[.int .i64 t109, s_.1], .int .i64 t113]), (7, .pointer (some ⟨s_.2, 0, none⟩)), (41, .tuple #[.agg #[.int .i64 t109, s_.1], .int .i64 t113]), (50, .agg #[.int .i64 t109, s_.1]), (51, .int .i64 t113)]) (fun s_ w' => (w'.cell? ⟨gb102, 0, none⟩ = some (.int .i64 x103000_1) ∧ w'.cell? ⟨gb102, 1, none⟩ = some (.slice Ao37 x103001_1.length co37) ∧ w'.cell? (ad106.add ((x5_1).toNat * 3)) = some (.int .i64 ((rd_T47 l0 x5_1).f0)) ∧ w'.cell? ⟨(ad106.add ((x5_1).toNat * 3)).block, (ad106.add ((x5_1).toNat * 3)).off + 1, none⟩ = some (.bool ((rd_T47 l0 x5_1).f1.f0)) ∧ w'.cell? ⟨(ad106.add ((x5_1).toNat * 3)).block, (ad106.add ((x5_1).toNat * 3)).off + 2, none⟩ = some (.string ((rd_T47 l0 x5_1).f1.f1))) ∧ (Kd.R k33 33 w' w.heap.size (fun k_ => some k_ ≠ (.slice Ao37 x103001_1.length co37 : Value).ownBlock ∧ some k_ ≠ ((.slice (some ⟨gA, 0, none⟩) 32 32 : Value) : Value).ownBlock) s_.1 t110) ∧ (Kd.R k33 33 w' w.heap.size (fun k_ => some k_ ≠ (s_.1 : Value).ownBlock ∧ some k_ ≠ ((.slice (some ⟨gA, 0, none⟩) 32 32 : Value) : Value).ownBlock) (.slice Ao37 x103001_1.length co37) x103001_1) ∧ (Kd.R k33 45 w' w.heap.size (fun k_ => some k_ ≠ (s_.1 : Value).ownBlock ∧ some k_ ≠ (.slice Ao37 x103001_1.length co37 : Value).ownBlock) (.slice (some ⟨gA, 0, none⟩) 32 32 : Value) x4_1) ∧ (w'.heap[gb102]? = some (.cells #[.int .i64 x103000_1, .slice Ao37 x103001_1.length co37] 24 (0, 0))) ∧ (w'.heap[s_.2]? = some (.cells #[.int .i64 0, .slice none 0 0] 24 (0, 0))) ∧ (w.heap.size ≤ s_.2) ∧ (w.heap.size ≤ s_.2) ∧ (gb102 ≠ s_.2) ∧ (s_.2 ≠ gb102) ∧ (Below w.heap.size w w')) ?_ ?_
            rotate_left
            ·intro hCont
             refine two_ (i := 7) (j := 11) (Ni := some 49) (Nj := some 7) #[true, true, true, true, true, true, true, true, false, false, false, false, false, false] #[true, true, true, true, true, true, true, false, false, false, false, true, false, false] rfl rfl rfl rfl (two_of HT_.out (by kernel_rfl)) (by decide) (by decide) (fun K hK => ?_) (fun K hK => ?_)
             ·skip
              refine goes_ Try.func38 (by kernel_rfl) rfl #[.agg #[.int .i64 x103000_1, .slice Ao37 x103001_1.length co37], .int .i64 (wrap64 (Int.tmod (IntKind.u64.wrap ((rd_T47 l0 x5_1).f0)) 32)), .agg #[.bool ((rd_T47 l0 x5_1).f1.f0), .string ((rd_T47 l0 x5_1).f1.f1)]] (by rfl) rfl rfl fitR ?_
              with_reducible refine (slabPut.calls x103000_1 _ _ x103001_1 (wrap64 (Int.tmod (IntKind.u64.wrap ((rd_T47 l0 x5_1).f0)) 32)) ((rd_T47 l0 x5_1).f1.f0) ((rd_T47 l0 x5_1).f1.f1) t109 t110 t113 _ ?side1 ?side2 A16.out).mono ?_
              (case side1 => repeat (first | exact (Kd.R_reads' HO_103001.out).2.2 | (with_reducible refine Kd.C_alloc ?_ _) | (with_reducible refine Kd.C_drewN ?_ _) | (with_reducible refine Kd.C_drew ?_)))
              (case side2 => exact (Kd.R_reads' HO_103001.out).2.1)
              rintro e w39 ⟨v111, rfl, ho0, hb⟩
              refine ⟨_, rfl, ?_⟩
              have n0_ := aq (Kd.R_elder' (stR HO_4) (Kd.R_base ho0) hb)
              have n1_ := aq (Kd.R_elder' (stR HO_103001) (Kd.R_base ho0) hb)
              have n2_ := aq (Kd.R_lower (Kd.R_new' (Kd.R_new' ho0 (Kd.R_lt (stR HO_4))) (Kd.R_lt (stR HO_103001))) (below_size (stH HB)))
              have n3_ := aq (blk_below (stB BK102) hb)
              have n4_ := aq (below_step (stH HB) hb)
              clear HO_4
              clear HO_103001
              clear BK102
              clear HB
              have HO_4 := n0_
              have HO_103001 := n1_
              have HO112 := n2_
              have BK102 := n3_
              have HB := n4_
              clear n0_ n1_ n2_ n3_ n4_
              (try clear hb)
              (try clear hb2)
              (try clear hk)
              (try clear hi)
              (try clear ho0)
              refine hK.out _ _ ⟨(blk_cell BK102.out 0).trans rfl, (blk_cell BK102.out 1).trans rfl, ((HB.out.cell (World.block_lt_of_cell? w _ hw108_0)).trans hw108_0), ((HB.out.cell (World.block_lt_of_cell? w _ hw108_1)).trans hw108_1), ((HB.out.cell (World.block_lt_of_cell? w _ hw108_2)).trans hw108_2)⟩ (fun hHeld => ?_)
              clear hK K
              refine norm_ (a' := ?_) ?_ ?_
              rotate_left
              ·show Act.put _ (some 49) _ = _
               simp only [Act.put, List.setIfInBounds_toArray, List.set_cons_zero, List.set_cons_succ, i64_w, i32_w]
               rfl
              refine pure_ (i := 8) (N := some 41) (v := ?_) (a' := ?_) #[true, true, true, true, true, true, true, true, true, false, false, false, false, false] rfl rfl (any_of HT_.out (by kernel_rfl)) (fun _ _ _ h => h) (Or.inl ⟨by rfl, ?_⟩) ?_ ?_
              rotate_left
              ·intro w'
               go_simp
               with_reducible rfl
              rotate_left
              ·simp only [Act.put, List.setIfInBounds_toArray, List.set_cons_zero, List.set_cons_succ, i64_w, i32_w]
               rfl
              refine pure_ (i := 9) (N := some 50) (v := ?_) (a' := ?_) #[true, true, true, true, true, true, true, true, true, true, false, false, false, false] rfl rfl (any_of HT_.out (by kernel_rfl)) (fun _ _ _ h => h) (Or.inl ⟨by rfl, ?_⟩) ?_ ?_
              rotate_left
              ·intro w'
               go_simp
               with_reducible rfl
              rotate_left
              ·simp only [Act.put, List.setIfInBounds_toArray, List.set_cons_zero, List.set_cons_succ, i64_w, i32_w]
               rfl
              refine pure_ (i := 10) (N := some 51) (v := ?_) (a' := ?_) #[true, true, true, true, true, true, true, true, true, true, true, false, false, false] rfl rfl (any_of HT_.out (by kernel_rfl)) (fun _ _ _ h => h) (Or.inl ⟨by rfl, ?_⟩) ?_ ?_
              rotate_left
              ·intro w'
               go_simp
               with_reducible rfl
              rotate_left
              ·simp only [Act.put, List.setIfInBounds_toArray, List.set_cons_zero, List.set_cons_succ, i64_w, i32_w]
               rfl
              refine one_ (i := 11) (N := some 7) #[true, true, true, true, true, true, true, true, true, true, true, true, false, false] rfl rfl (one_of HT_.out (by kernel_rfl)) (by decide) (fun K hK => ?_)
              refine box_step ?hg (N := 7) ?hd (cs := #[.int .i64 0, .slice none 0 0]) (t := 24) ?hr ?_; (case hd => rfl); (case hg => rfl); (case hr => first | (go_simp; done) | (go_simp; rfl))
              intro gb114 hg w40 hbox hb
              have n0_ := aq (Kd.R_below (stR HO_4) hb)
              have n1_ := aq (Kd.R_below (stR HO_103001) hb)
              have n2_ := aq (Kd.R_below (stR HO112) hb)
              have n3_ := aq (blk_below (stB BK102) hb)
              have n4_ := aq (below_step (stH HB) hb)
              have n5_ := aq (hbox)
              have n6_ := aq ((by rw [hg]; exact (below_size (stH HB)) : w.heap.size ≤ gb114))
              have n7_ := aq ((by rw [hg]; exact (below_size (stH HB)) : w.heap.size ≤ gb114))
              have n8_ := aq ((by rw [hg]; exact Nat.ne_of_lt (blk_lt (stB BK102)) : gb102 ≠ gb114))
              have n9_ := aq ((by rw [hg]; exact Nat.ne_of_gt (blk_lt (stB BK102)) : gb114 ≠ gb102))
              clear HO_4
              clear HO_103001
              clear HO112
              clear BK102
              clear HB
              have HO_4 := n0_
              have HO_103001 := n1_
              have HO112 := n2_
              have BK102 := n3_
              have HB := n4_
              have BK114 := n5_
              have GW114 := n6_
              have GE114 := n7_
              have NB102_114 := n8_
              have NB114_102 := n9_
              clear n0_ n1_ n2_ n3_ n4_ n5_ n6_ n7_ n8_ n9_
              clear hb hbox hg
              refine hK.out _ _ ⟨(blk_cell BK102.out 0).trans rfl, (blk_cell BK102.out 1).trans rfl, ((HB.out.cell (World.block_lt_of_cell? w _ hw108_0)).trans hw108_0), ((HB.out.cell (World.block_lt_of_cell? w _ hw108_1)).trans hw108_1), ((HB.out.cell (World.block_lt_of_cell? w _ hw108_2)).trans hw108_2)⟩ (fun hHeld => ?_)
              clear hK K
              refine norm_ (a' := ?_) ?_ ?_
              rotate_left
              ·show Act.put _ (some 7) _ = _
               simp only [Act.put, List.setIfInBounds_toArray, List.set_cons_zero, List.set_cons_succ, i64_w, i32_w]
               rfl
              exact norm_ (by simp only [putAll, Act.put, List.setIfInBounds_toArray, List.set_cons_zero, List.set_cons_succ]) (hCont (v111, gb114) _ ⟨hHeld, (by (with_reducible repeat (first | apply Kd.R_alloc | apply Kd.R_drewN | apply Kd.R_drew)); exact Kd.R_mono HO112.out (fun _ hk => ⟨hk.2, hk.1.2⟩)), (by (with_reducible repeat (first | apply Kd.R_alloc | apply Kd.R_drewN | apply Kd.R_drew)); exact Kd.R_mono HO_103001.out (fun _ hk => ⟨hk.2, hk.1⟩)), (by (with_reducible repeat (first | apply Kd.R_alloc | apply Kd.R_drewN | apply Kd.R_drew)); exact Kd.R_mono HO_4.out (fun _ hk => ⟨hk.2, hk.1⟩)), (stB BK102), (stB BK114), GW114.out, GE114.out, NB102_114.out, NB114_102.out, (stH HB)⟩)
             ·skip
              refine box_step ?hg (N := 7) ?hd (cs := #[.int .i64 0, .slice none 0 0]) (t := 24) ?hr ?_; (case hd => rfl); (case hg => rfl); (case hr => first | (go_simp; done) | (go_simp; rfl))
              intro gb114 hg w39 hbox hb
              have n0_ := aq (Kd.R_below (stR HO_4) hb)
              have n1_ := aq (Kd.R_below (stR HO_103001) hb)
              have n2_ := aq (blk_below (stB BK102) hb)
              have n3_ := aq (below_step (stH HB) hb)
              have n4_ := aq (hbox)
              have n5_ := aq ((by rw [hg]; exact (below_size (stH HB)) : w.heap.size ≤ gb114))
              have n6_ := aq ((by rw [hg]; exact (below_size (stH HB)) : w.heap.size ≤ gb114))
              have n7_ := aq ((by rw [hg]; exact Nat.ne_of_lt (blk_lt (stB BK102)) : gb102 ≠ gb114))
              have n8_ := aq ((by rw [hg]; exact Nat.ne_of_gt (blk_lt (stB BK102)) : gb114 ≠ gb102))
              clear HO_4
              clear HO_103001
              clear BK102
              clear HB
              have HO_4 := n0_
              have HO_103001 := n1_
              have BK102 := n2_
              have HB := n3_
              have BK114 := n4_
              have GW114 := n5_
              have GE114 := n6_
              have NB102_114 := n7_
              have NB114_102 := n8_
              clear n0_ n1_ n2_ n3_ n4_ n5_ n6_ n7_ n8_
              clear hb hbox hg
              refine hK.out _ _ ⟨(blk_cell BK102.out 0).trans rfl, (blk_cell BK102.out 1).trans rfl, ((HB.out.cell (World.block_lt_of_cell? w _ hw108_0)).trans hw108_0), ((HB.out.cell (World.block_lt_of_cell? w _ hw108_1)).trans hw108_1), ((HB.out.cell (World.block_lt_of_cell? w _ hw108_2)).trans hw108_2)⟩ (fun hHeld => ?_)
              clear hK K
              refine norm_ (a' := ?_) ?_ ?_
              rotate_left
              ·show Act.put _ (some 7) _ = _
               simp only [Act.put, List.setIfInBounds_toArray, List.set_cons_zero, List.set_cons_succ, i64_w, i32_w]
               rfl
              refine one_ (i := 7) (N := some 49) #[true, true, true, true, true, true, true, true, false, false, false, true, false, false] rfl rfl (one_of HT_.out (by kernel_rfl)) (by decide) (fun K hK => ?_)
              refine goes_ Try.func38 (by kernel_rfl) rfl #[.agg #[.int .i64 x103000_1, .slice Ao37 x103001_1.length co37], .int .i64 (wrap64 (Int.tmod (IntKind.u64.wrap ((rd_T47 l0 x5_1).f0)) 32)), .agg #[.bool ((rd_T47 l0 x5_1).f1.f0), .string ((rd_T47 l0 x5_1).f1.f1)]] (by rfl) rfl rfl fitR ?_
              with_reducible refine (slabPut.calls x103000_1 _ _ x103001_1 (wrap64 (Int.tmod (IntKind.u64.wrap ((rd_T47 l0 x5_1).f0)) 32)) ((rd_T47 l0 x5_1).f1.f0) ((rd_T47 l0 x5_1).f1.f1) t109 t110 t113 _ ?side1 ?side2 A16.out).mono ?_
              (case side1 => repeat (first | exact (Kd.R_reads' HO_103001.out).2.2 | (with_reducible refine Kd.C_alloc ?_ _) | (with_reducible refine Kd.C_drewN ?_ _) | (with_reducible refine Kd.C_drew ?_)))
              (case side2 => exact (Kd.R_reads' HO_103001.out).2.1)
              rintro e w40 ⟨v111, rfl, ho0, hb⟩
              refine ⟨_, rfl, ?_⟩
              have n0_ := aq (Kd.R_elder' (stR HO_4) (Kd.R_base ho0) hb)
              have n1_ := aq (Kd.R_elder' (stR HO_103001) (Kd.R_base ho0) hb)
              have n2_ := aq (Kd.R_lower (Kd.R_new' (Kd.R_new' ho0 (Kd.R_lt (stR HO_4))) (Kd.R_lt (stR HO_103001))) (below_size (stH HB)))
              have n3_ := aq (blk_below (stB BK102) hb)
              have n4_ := aq (blk_below (stB BK114) hb)
              have n5_ := aq (below_step (stH HB) hb)
              clear HO_4
              clear HO_103001
              clear BK102
              clear BK114
              clear HB
              have HO_4 := n0_
              have HO_103001 := n1_
              have HO112 := n2_
              have BK102 := n3_
              have BK114 := n4_
              have HB := n5_
              clear n0_ n1_ n2_ n3_ n4_ n5_
              (try clear hb)
              (try clear hb2)
              (try clear hk)
              (try clear hi)
              (try clear ho0)
              refine hK.out _ _ ⟨(blk_cell BK102.out 0).trans rfl, (blk_cell BK102.out 1).trans rfl, ((HB.out.cell (World.block_lt_of_cell? w _ hw108_0)).trans hw108_0), ((HB.out.cell (World.block_lt_of_cell? w _ hw108_1)).trans hw108_1), ((HB.out.cell (World.block_lt_of_cell? w _ hw108_2)).trans hw108_2)⟩ (fun hHeld => ?_)
              clear hK K
              refine norm_ (a' := ?_) ?_ ?_
              rotate_left
              ·show Act.put _ (some 49) _ = _
               simp only [Act.put, List.setIfInBounds_toArray, List.set_cons_zero, List.set_cons_succ, i64_w, i32_w]
               rfl
              refine pure_ (i := 8) (N := some 41) (v := ?_) (a' := ?_) #[true, true, true, true, true, true, true, true, true, false, false, true, false, false] rfl rfl (any_of HT_.out (by kernel_rfl)) (fun _ _ _ h => h) (Or.inl ⟨by rfl, ?_⟩) ?_ ?_
              rotate_left
              ·intro w'
               go_simp
               with_reducible rfl
              rotate_left
              ·simp only [Act.put, List.setIfInBounds_toArray, List.set_cons_zero, List.set_cons_succ, i64_w, i32_w]
               rfl
              refine pure_ (i := 9) (N := some 50) (v := ?_) (a' := ?_) #[true, true, true, true, true, true, true, true, true, true, false, true, false, false] rfl rfl (any_of HT_.out (by kernel_rfl)) (fun _ _ _ h => h) (Or.inl ⟨by rfl, ?_⟩) ?_ ?_
              rotate_left
              ·intro w'
               go_simp
               with_reducible rfl
              rotate_left
              ·simp only [Act.put, List.setIfInBounds_toArray, List.set_cons_zero, List.set_cons_succ, i64_w, i32_w]
               rfl
              refine pure_ (i := 10) (N := some 51) (v := ?_) (a' := ?_) #[true, true, true, true, true, true, true, true, true, true, true, true, false, false] rfl rfl (any_of HT_.out (by kernel_rfl)) (fun _ _ _ h => h) (Or.inl ⟨by rfl, ?_⟩) ?_ ?_
              rotate_left
              ·intro w'
               go_simp
               with_reducible rfl
              rotate_left
              ·simp only [Act.put, List.setIfInBounds_toArray, List.set_cons_zero, List.set_cons_succ, i64_w, i32_w]
               rfl
              exact norm_ (by simp only [putAll, Act.put, List.setIfInBounds_toArray, List.set_cons_zero, List.set_cons_succ]) (hCont (v111, gb114) _ ⟨hHeld, (by (with_reducible repeat (first | apply Kd.R_alloc | apply Kd.R_drewN | apply Kd.R_drew)); exact Kd.R_mono HO112.out (fun _ hk => ⟨hk.2, hk.1.2⟩)), (by (with_reducible repeat (first | apply Kd.R_alloc | apply Kd.R_drewN | apply Kd.R_drew)); exact Kd.R_mono HO_103001.out (fun _ hk => ⟨hk.2, hk.1⟩)), (by (with_reducible repeat (first | apply Kd.R_alloc | apply Kd.R_drewN | apply Kd.R_drew)); exact Kd.R_mono HO_4.out (fun _ hk => ⟨hk.2, hk.1⟩)), (stB BK102), (stB BK114), GW114.out, GE114.out, NB102_114.out, NB114_102.out, (stH HB)⟩)
            rintro ⟨v111, gb114⟩ w41 ⟨hS_, h0_, h1_, h2_, h3_, h4_, h5_, h6_, h7_, h8_, h9_⟩
            have n0_ : Aside0 (Kd.R k33 33 w41 w.heap.size (fun k_ => some k_ ≠ (.slice Ao37 x103001_1.length co37 : Value).ownBlock ∧ some k_ ≠ ((.slice (some ⟨gA, 0, none⟩) 32 32 : Value) : Value).ownBlock) v111 t110) := ⟨h0_⟩
            have n1_ : Aside0 (Kd.R k33 33 w41 w.heap.size (fun k_ => some k_ ≠ (v111 : Value).ownBlock ∧ some k_ ≠ ((.slice (some ⟨gA, 0, none⟩) 32 32 : Value) : Value).ownBlock) (.slice Ao37 x103001_1.length co37) x103001_1) := ⟨h1_⟩
            have n2_ : Aside0 (Kd.R k33 45 w41 w.heap.size (fun k_ => some k_ ≠ (v111 : Value).ownBlock ∧ some k_ ≠ (.slice Ao37 x103001_1.length co37 : Value).ownBlock) (.slice (some ⟨gA, 0, none⟩) 32 32 : Value) x4_1) := ⟨h2_⟩
            have n3_ : Aside0 (w41.heap[gb102]? = some (.cells #[.int .i64 x103000_1, .slice Ao37 x103001_1.length co37] 24 (0, 0))) := ⟨h3_⟩
            have n4_ : Aside0 (w41.heap[gb114]? = some (.cells #[.int .i64 0, .slice none 0 0] 24 (0, 0))) := ⟨h4_⟩
            have n5_ : Aside0 (w.heap.size ≤ gb114) := ⟨h5_⟩
            have n6_ : Aside0 (w.heap.size ≤ gb114) := ⟨h6_⟩
            have n7_ : Aside0 (gb102 ≠ gb114) := ⟨h7_⟩
            have n8_ : Aside0 (gb114 ≠ gb102) := ⟨h8_⟩
            have n9_ : Aside0 (Below w.heap.size w w41) := ⟨h9_⟩
            clear HO_4
            clear HO_103001
            clear BK102
            clear HB
            clear h0_ h1_ h2_ h3_ h4_ h5_ h6_ h7_ h8_ h9_
            have HO112 := n0_
            have HO_103001 := n1_
            have HO_4 := n2_
            have BK102 := n3_
            have BK114 := n4_
            have GW114 := n5_
            have GE114 := n6_
            have NB102_114 := n7_
            have NB114_102 := n8_
            have HB := n9_
            clear n0_ n1_ n2_ n3_ n4_ n5_ n6_ n7_ n8_ n9_
            have hHeld : w41.cell? ⟨gb102, 0, none⟩ = some (.int .i64 x103000_1) ∧ w41.cell? ⟨gb102, 1, none⟩ = some (.slice Ao37 x103001_1.length co37) ∧ w41.cell? (ad106.add ((x5_1).toNat * 3)) = some (.int .i64 ((rd_T47 l0 x5_1).f0)) ∧ w41.cell? ⟨(ad106.add ((x5_1).toNat * 3)).block, (ad106.add ((x5_1).toNat * 3)).off + 1, none⟩ = some (.bool ((rd_T47 l0 x5_1).f1.f0)) ∧ w41.cell? ⟨(ad106.add ((x5_1).toNat * 3)).block, (ad106.add ((x5_1).toNat * 3)).off + 2, none⟩ = some (.string ((rd_T47 l0 x5_1).f1.f1)) := hS_
            obtain ⟨Ao43, co43, eo43⟩ := Kd.R_slice HO112.out
            (first | subst eo43 | (injection eo43 with f1_ f2_ f3_; have f4_ := f1_.symm; have f5_ := f3_.symm; clear f1_ f2_ f3_; subst f4_; subst f5_))
            refine norm_ (a' := ?_) ?_ ?_
            rotate_left
            ·simp only [putAll, Act.put, List.setIfInBounds_toArray, List.set_cons_zero, List.set_cons_succ]
             rfl
            refine one_ (i := 12) (N := none) #[true, true, true, true, true, true, true, true, true, true, true, true, true, false] rfl rfl (one_of HT_.out (by kernel_rfl)) (by decide) (fun K hK => ?_)
            have hs42 : w41.cell? ⟨gb114, 0, none⟩ = some (.int .i64 0) := (blk_cell BK114.out 0).trans rfl
            have hfs42 := blk_frozen BK114.out 0
            have hns42_0 := NB102_114.out
            have hms42_0 := NB114_102.out
            have hs44 : w41.cell? ⟨gb114, 1, none⟩ = some (.slice none 0 0) := (blk_cell BK114.out 1).trans rfl
            have hfs44 := blk_frozen BK114.out 1
            have hns44_0 := NB102_114.out
            have hms44_0 := NB114_102.out
            refine skip_ (w1 := ?_) (by rfl) rfl ?_ ?_
            rotate_left
            ·go_simp
             rfl
            refine hK.out _ _ ⟨((cell_far (p := ⟨gb114, _, none⟩) NB102_114.out _).trans (((cell_far (p := ⟨gb114, _, none⟩) NB102_114.out _).trans (hHeld.1)))), ((cell_far (p := ⟨gb114, _, none⟩) NB102_114.out _).trans (((cell_far (p := ⟨gb114, _, none⟩) NB102_114.out _).trans (hHeld.2.1)))), ((cell_far (p := ⟨gb114, _, none⟩) (by first | exact Nat.ne_of_lt (Nat.lt_of_lt_of_le (by have := World.block_lt_of_cell? _ _ hw108_0; first | rwa [add_block] at this | exact this) GW114.out) | (rw [add_block]; exact Nat.ne_of_lt (Nat.lt_of_lt_of_le (by have := World.block_lt_of_cell? _ _ hw108_0; first | rwa [add_block] at this | exact this) GW114.out)) | (show (Addr.add _ _).block ≠ _; rw [add_block]; exact Nat.ne_of_lt (Nat.lt_of_lt_of_le (by have := World.block_lt_of_cell? _ _ hw108_0; first | rwa [add_block] at this | exact this) GW114.out)) | (dsimp only; exact Nat.ne_of_lt (Nat.lt_of_lt_of_le (by have := World.block_lt_of_cell? _ _ hw108_0; first | rwa [add_block] at this | exact this) GW114.out))) _).trans (((cell_far (p := ⟨gb114, _, none⟩) (by first | exact Nat.ne_of_lt (Nat.lt_of_lt_of_le (by have := World.block_lt_of_cell? _ _ hw108_0; first | rwa [add_block] at this | exact this) GW114.out) | (rw [add_block]; exact Nat.ne_of_lt (Nat.lt_of_lt_of_le (by have := World.block_lt_of_cell? _ _ hw108_0; first | rwa [add_block] at this | exact this) GW114.out)) | (show (Addr.add _ _).block ≠ _; rw [add_block]; exact Nat.ne_of_lt (Nat.lt_of_lt_of_le (by have := World.block_lt_of_cell? _ _ hw108_0; first | rwa [add_block] at this | exact this) GW114.out)) | (dsimp only; exact Nat.ne_of_lt (Nat.lt_of_lt_of_le (by have := World.block_lt_of_cell? _ _ hw108_0; first | rwa [add_block] at this | exact this) GW114.out))) _).trans (hHeld.2.2.1)))), ((cell_far (p := ⟨gb114, _, none⟩) (by first | exact Nat.ne_of_lt (Nat.lt_of_lt_of_le (by have := World.block_lt_of_cell? _ _ hw108_1; first | rwa [add_block] at this | exact this) GW114.out) | (rw [add_block]; exact Nat.ne_of_lt (Nat.lt_of_lt_of_le (by have := World.block_lt_of_cell? _ _ hw108_1; first | rwa [add_block] at this | exact this) GW114.out)) | (show (Addr.add _ _).block ≠ _; rw [add_block]; exact Nat.ne_of_lt (Nat.lt_of_lt_of_le (by have := World.block_lt_of_cell? _ _ hw108_1; first | rwa [add_block] at this | exact this) GW114.out)) | (dsimp only; exact Nat.ne_of_lt (Nat.lt_of_lt_of_le (by have := World.block_lt_of_cell? _ _ hw108_1; first | rwa [add_block] at this | exact this) GW114.out))) _).trans (((cell_far (p := ⟨gb114, _, none⟩) (by first | exact Nat.ne_of_lt (Nat.lt_of_lt_of_le (by have := World.block_lt_of_cell? _ _ hw108_1; first | rwa [add_block] at this | exact this) GW114.out) | (rw [add_block]; exact Nat.ne_of_lt (Nat.lt_of_lt_of_le (by have := World.block_lt_of_cell? _ _ hw108_1; first | rwa [add_block] at this | exact this) GW114.out)) | (show (Addr.add _ _).block ≠ _; rw [add_block]; exact Nat.ne_of_lt (Nat.lt_of_lt_of_le (by have := World.block_lt_of_cell? _ _ hw108_1; first | rwa [add_block] at this | exact this) GW114.out)) | (dsimp only; exact Nat.ne_of_lt (Nat.lt_of_lt_of_le (by have := World.block_lt_of_cell? _ _ hw108_1; first | rwa [add_block] at this | exact this) GW114.out))) _).trans (hHeld.2.2.2.1)))), ((cell_far (p := ⟨gb114, _, none⟩) (by first | exact Nat.ne_of_lt (Nat.lt_of_lt_of_le (by have := World.block_lt_of_cell? _ _ hw108_2; first | rwa [add_block] at this | exact this) GW114.out) | (rw [add_block]; exact Nat.ne_of_lt (Nat.lt_of_lt_of_le (by have := World.block_lt_of_cell? _ _ hw108_2; first | rwa [add_block] at this | exact this) GW114.out)) | (show (Addr.add _ _).block ≠ _; rw [add_block]; exact Nat.ne_of_lt (Nat.lt_of_lt_of_le (by have := World.block_lt_of_cell? _ _ hw108_2; first | rwa [add_block] at this | exact this) GW114.out)) | (dsimp only; exact Nat.ne_of_lt (Nat.lt_of_lt_of_le (by have := World.block_lt_of_cell? _ _ hw108_2; first | rwa [add_block] at this | exact this) GW114.out))) _).trans (((cell_far (p := ⟨gb114, _, none⟩) (by first | exact Nat.ne_of_lt (Nat.lt_of_lt_of_le (by have := World.block_lt_of_cell? _ _ hw108_2; first | rwa [add_block] at this | exact this) GW114.out) | (rw [add_block]; exact Nat.ne_of_lt (Nat.lt_of_lt_of_le (by have := World.block_lt_of_cell? _ _ hw108_2; first | rwa [add_block] at this | exact this) GW114.out)) | (show (Addr.add _ _).block ≠ _; rw [add_block]; exact Nat.ne_of_lt (Nat.lt_of_lt_of_le (by have := World.block_lt_of_cell? _ _ hw108_2; first | rwa [add_block] at this | exact this) GW114.out)) | (dsimp only; exact Nat.ne_of_lt (Nat.lt_of_lt_of_le (by have := World.block_lt_of_cell? _ _ hw108_2; first | rwa [add_block] at this | exact this) GW114.out))) _).trans (hHeld.2.2.2.2))))⟩ (fun hHeld => ?_)
            clear hK K
            refine pure_ (i := 13) (N := some 8) (v := ?_) (a' := ?_) #[true, true, true, true, true, true, true, true, true, true, true, true, true, true] rfl rfl (any_of HT_.out (by kernel_rfl)) (fun _ _ _ h => h) (Or.inl ⟨by rfl, ?_⟩) ?_ ?_
            rotate_left
            ·intro w'
             go_simp
             with_reducible rfl
            rotate_left
            ·simp only [Act.put, List.setIfInBounds_toArray, List.set_cons_zero, List.set_cons_succ, i64_w, i32_w]
             rfl
            refine done_ (done_of HT_.out (by kernel_rfl)) ?_
            try go_wp2
            go_roundg kj9
            case measure => have := HK1.out; have := HJ9.out; omega
            case rel => exact ⟨(x4_1), (wrap64 (x5_1 + 1)), (x103000_1), (x103001_1), (.slice Ao37 x103001_1.length co37), eqS, H', ⟨by have := HK1.out; have := HJ9.out; omega⟩, ⟨by (with_reducible repeat (first | apply Kd.R_alloc | apply Kd.R_drewN | apply Kd.R_drew)); exact Kd.R_mono (Kd.R_far (p := ⟨gb114, 1, none⟩) (Kd.R_far (p := ⟨gb114, 0, none⟩) (Kd.R_types HO_4.out BK114.out (by decide)) (fun _ hk => hk.2) (.int .i64 t109)) (fun _ hk => hk.2) (.slice Ao43 t110.length co43)) (fun _ hk => hk.1.2)⟩, ⟨by (with_reducible repeat (first | apply Kd.R_alloc | apply Kd.R_drewN | apply Kd.R_drew)); exact Kd.R_mono (Kd.R_far (p := ⟨gb114, 1, none⟩) (Kd.R_far (p := ⟨gb114, 0, none⟩) (Kd.R_types HO_103001.out BK114.out (by decide)) (fun _ hk => hk.2) (.int .i64 t109)) (fun _ hk => hk.2) (.slice Ao43 t110.length co43)) (fun _ hk => hk.1.2)⟩, ⟨stF BK102⟩, ⟨stH HB⟩⟩
         ·rw [if_neg c14] at H
          exact absurd H (by simp)
        ·rw [if_neg c13] at H
         exact absurd H (by simp)
       ·replace c12 := Bool.eq_false_iff.mpr c12
        subst c12
        rw [if_neg (show ¬ (false = true) by decide)] at H
        have H' := aq H
        clear H
        go_wp2
        go_loopg [9, 10] kj9 (fun kq v9 v10 w' => ∃ (x9_3 : Int) (x10_3 : Int), v9 = .int .i64 x9_3 ∧ v10 = .int .i64 x10_3 ∧ Aside0 (seneschallaw03_SlabMap.l1 kq x4_1 x9_3 x10_3 x103000_1 x103001_1 = some r) ∧ Aside0 (kq ≤ kj9) ∧ Aside0 (Kd.R k33 45 w' w.heap.size (fun k_ => some k_ ≠ (u103001 : Value).ownBlock) (.slice (some ⟨gA, 0, none⟩) 32 32 : Value) x4_1) ∧ Aside0 (Kd.R k33 33 w' w.heap.size (fun k_ => some k_ ≠ ((.slice (some ⟨gA, 0, none⟩) 32 32 : Value) : Value).ownBlock) u103001 x103001_1) ∧ Aside0 (w'.heap[gb102]? = some (.cells #[.int .i64 x103000_1, u103001] 24 (0, 0))) ∧ Aside0 (Below w.heap.size w w'))
        case atStart => exact ⟨(0), (0), eqS, eqS, H', ⟨Nat.le_refl _⟩, ⟨stR HO_4⟩, ⟨stR HO_103001⟩, ⟨stB BK102⟩, ⟨stH HB⟩⟩
        case round =>
         clear H'
         try clear c1
         try clear p1
         try clear q1
         try clear hx1
         try clear c2
         try clear p2
         try clear q2
         try clear hx2
         try clear hf2
         try clear c3
         try clear hx3
         try clear hf3
         try clear p6
         try clear p10
         try clear q10
         try clear hx10
         try clear p11
         try clear q11
         try clear hx11
         try clear c12
         try clear c13
         try clear c14
         try clear c17
         try clear c17b0
         try clear c17b1
         try clear c19
         try clear c20
         try clear c21
         try clear p21
         try clear q21
         try clear hx21
         try clear hf21
         try clear c31
         try clear c35
         try clear hx35
         try clear hf35
         try clear c38
         try clear hx106_0
         try clear hx106_1
         try clear hx106_2
         try clear hx107_0
         try clear hx107_1
         try clear hx107_2
         try clear hx108_0
         try clear hx108_1
         try clear hx108_2
         try clear hx115_0
         try clear hx115_1
         try clear hx115_2
         try clear hx21_0
         try clear hx21_1
         try clear hx35_0
         try clear hx35_1
         try clear p106
         try clear p107
         try clear p108
         try clear p115
         try clear q106
         try clear q107
         try clear q108
         try clear q115
         obtain ⟨x9_3, x10_3, rfl, rfl, HA, HK3, HO_4, HO_103001, BK102, HB⟩ := hrel
         cases gk with
         | zero => exact absurd HA.out (by simp [seneschallaw03_SlabMap.l1])
         | succ k3 =>
          have H := HA.out
          clear HA
          simp only [seneschallaw03_SlabMap.l1] at H
          by_cases c45 : x10_3 < 32
          ·rw [if_pos c45] at H
           have c45b0 : decide (x10_3 < 32) = true := decide_eq_true c45
           clear c45
           replace H := Option.bind_eq_some_iff.mp H
           obtain ⟨⟨t117, t118⟩, A460, H⟩ := H
           try dsimp only at H
           have A46 := aq A460
           clear A460
           by_cases c47 : 0 ≤ x10_3
           ·rw [if_pos c47] at H
            have c47b0 : decide (0 ≤ x10_3) = true := decide_eq_true c47
            clear c47
            by_cases c48 : x10_3 < (x4_1.length : Int)
            ·rw [if_pos c48] at H
             have c48b0 : decide (x10_3 < (x4_1.length : Int)) = true := decide_eq_true c48
             clear c48
             by_cases c49 : (!(t117 == ((rd_T33 x4_1 x10_3).f0)) || (!(t118.toList == (((rd_T33 x4_1 x10_3).f1).toList)))) = true
             ·rw [if_pos c49] at H
              have c49b0 : (!(t117 == ((rd_T33 x4_1 x10_3).f0)) || (!(t118.toList == (((rd_T33 x4_1 x10_3).f1).toList)))) = true := c49
              clear c49
              obtain rfl := Option.some.inj H
              exact absurd HRT.out (by decide)
             ·rw [if_neg c49] at H
              have c49b0 : (!(t117 == ((rd_T33 x4_1 x10_3).f0)) || (!(t118.toList == (((rd_T33 x4_1 x10_3).f1).toList)))) = false := by simpa using c49
              clear c49
              obtain ⟨bq50, hbq50⟩ : ∃ b_ : Bool, b_ = ((rd_T33 x4_1 x10_3).f0) := ⟨_, rfl⟩
              replace H : (if bq50 = true then (seneschallaw03_SlabMap.l1 k3 x4_1 (wrap64 (x10_3 + 1)) (wrap64 (x10_3 + 1)) x103000_1 x103001_1) else (seneschallaw03_SlabMap.l1 k3 x4_1 x9_3 (wrap64 (x10_3 + 1)) x103000_1 x103001_1)) = some r := by rw [← hbq50] at H; exact H
              have Nbq50 := aq hbq50
              clear hbq50
              by_cases c51 : bq50 = true
              ·subst c51
               rw [if_pos rfl] at H
               have H' := aq H
               clear H
               try go_wp2
               have n0_ := aq (Kd.R_drew HO_4.out)
               have n1_ := aq (Kd.R_drew HO_103001.out)
               have n2_ := aq (blk_drew BK102.out)
               have n3_ := aq (below_drew1 HB.out)
               clear HO_4
               clear HO_103001
               clear BK102
               clear HB
               have HO_4 := n0_
               have HO_103001 := n1_
               have BK102 := n2_
               have HB := n3_
               clear n0_ n1_ n2_ n3_
               have p119 : 0 ≤ (x10_3 : Int) := of_decide_eq_true (by first | (with_reducible assumption) | assumption)
               have q119 : x10_3 < (x4_1.length : Int) := of_decide_eq_true (by first | (with_reducible assumption) | assumption)
               obtain ⟨ad119, e119, hx119_0, hx119_1⟩ := at_T33 (Kd.R_reads' HO_4.out).2.2 x10_3 p119 (by have e_ := (Kd.R_reads' HO_4.out).1; omega)
               (try rw [← Nbq50.out] at hx119_0)
               cases e119
               have ha_ : (⟨gA, 0, none⟩ : Addr).add (x10_3.toNat * 2) = ⟨gA, x10_3.toNat * 2, none⟩ := add0 _ _
               rw [ha_] at hx119_0 hx119_1
               clear ha_
               have b32_119 : (x10_3 < 32) = True := eq_true (of_decide_eq_true c45b0)
               replace p119 := eq_true p119
               replace q119 := eq_true q119
               obtain ⟨Ao54, co54, eo54⟩ := Kd.R_slice HO_103001.out
               (first | subst eo54 | (injection eo54 with f1_ f2_ f3_; have f4_ := f1_.symm; have f5_ := f3_.symm; clear f1_ f2_ f3_; subst f4_; subst f5_))
               refine start_ (n := 7) (S := fun w' => w'.cell? ⟨gb102, 0, none⟩ = some (.int .i64 x103000_1) ∧ w'.cell? ⟨gb102, 1, none⟩ = some (.slice Ao54 x103001_1.length co54) ∧ w'.cell? (⟨gA, x10_3.toNat * 2, none⟩ : Addr) = some (.bool true) ∧ w'.cell? ⟨(⟨gA, x10_3.toNat * 2, none⟩ : Addr).block, (⟨gA, x10_3.toNat * 2, none⟩ : Addr).off + 1, none⟩ = some (.string ((rd_T33 x4_1 x10_3).f1))) (ds := []) #[false, false, false, false, false, false, false] (by kernel_rfl) rfl rfl ⟨(blk_cell BK102.out 0).trans rfl, (blk_cell BK102.out 1).trans rfl, hx119_0, hx119_1⟩ (fun hHeld => ?_)
               generalize wr.drew = w52 at HO_4 HO_103001 BK102 HB hx119_0 hx119_1 hHeld ⊢
               refine pure_ (i := 1) (N := some 67) (v := ?_) (a' := ?_) #[false, true, false, false, false, false, false] rfl rfl (by kernel_rfl) (fun _ _ _ h => h) (Or.inl ⟨by rfl, ?_⟩) ?_ ?_
               rotate_left
               ·intro w'
                go_simp
                with_reducible rfl
               rotate_left
               ·simp only [Act.put, List.setIfInBounds_toArray, List.set_cons_zero, List.set_cons_succ, i64_w, i32_w]
                rfl
               refine pure_ (i := 3) (N := some 69) (v := ?_) (a' := ?_) #[false, true, false, true, false, false, false] rfl rfl (by kernel_rfl) (fun _ _ _ h => h) (Or.inl ⟨by rfl, ?_⟩) ?_ ?_
               rotate_left
               ·intro w'
                go_simp
                with_reducible rfl
               rotate_left
               ·simp only [Act.put, List.setIfInBounds_toArray, List.set_cons_zero, List.set_cons_succ, i64_w, i32_w]
                rfl
               refine pure_ (i := 4) (N := some 70) (v := ?_) (a' := ?_) #[false, true, false, true, true, false, false] rfl rfl (by kernel_rfl) (fun _ _ _ h => h) (Or.inl ⟨by rfl, ?_⟩) ?_ ?_
               rotate_left
               ·intro w'
                go_simp
                with_reducible rfl
               rotate_left
               ·simp only [Act.put, List.setIfInBounds_toArray, List.set_cons_zero, List.set_cons_succ, i64_w, i32_w]
                rfl
               refine take_ (i := 0) (N := some 66) (v := ?_) (a' := ?_) #[true, true, false, true, true, false, false] rfl rfl (by kernel_rfl) (fun _ _ _ h => h) (Or.inl ⟨by rfl, ?_⟩) hHeld ?_ ?_
               rotate_left
               ·rintro w' ⟨s0, s1, s2, s3⟩
                go_simp
                with_reducible rfl
               rotate_left
               ·simp only [Act.put, List.setIfInBounds_toArray, List.set_cons_zero, List.set_cons_succ, i64_w, i32_w]
                rfl
               refine take_ (i := 5) (N := some 71) (v := ?_) (a' := ?_) #[true, true, false, true, true, true, false] rfl rfl (by kernel_rfl) (fun _ _ _ h => h) (Or.inl ⟨by rfl, ?_⟩) hHeld ?_ ?_
               rotate_left
               ·rintro w' ⟨s0, s1, s2, s3⟩
                go_simp
                with_reducible rfl
               rotate_left
               ·simp only [Act.put, List.setIfInBounds_toArray, List.set_cons_zero, List.set_cons_succ, i64_w, i32_w]
                rfl
               refine one_ (i := 2) (N := some 68) #[true, true, true, true, true, true, false] rfl rfl (by kernel_rfl) (by decide) (fun K hK => ?_)
               refine goes_ Try.func39 (by kernel_rfl) rfl #[.agg #[.int .i64 x103000_1, .slice Ao54 x103001_1.length co54], .int .i64 x10_3] (by rfl) rfl rfl fitR ?_
               with_reducible refine (slabAt.calls x103000_1 _ _ x103001_1 x10_3 t117 t118 _ ?side1 ?side2 A46.out).mono ?_
               (case side1 => repeat (first | exact (Kd.R_reads' HO_103001.out).2.2 | (with_reducible refine Kd.C_alloc ?_ _) | (with_reducible refine Kd.C_drewN ?_ _) | (with_reducible refine Kd.C_drew ?_)))
               (case side2 => exact (Kd.R_reads' HO_103001.out).2.1)
               rintro e w55 ⟨rfl, hb⟩
               have HS2_ := (hb.cell (World.block_lt_of_cell? _ _ (hHeld.2.2.1))).trans (hHeld.2.2.1)
               have HS3_ := (hb.cell (World.block_lt_of_cell? _ _ (hHeld.2.2.2))).trans (hHeld.2.2.2)
               refine ⟨_, rfl, ?_⟩
               have n0_ := aq (Kd.R_below (stR HO_4) hb)
               have n1_ := aq (Kd.R_below (stR HO_103001) hb)
               have n2_ := aq (blk_below (stB BK102) hb)
               have n3_ := aq (below_step (stH HB) hb)
               clear HO_4
               clear HO_103001
               clear BK102
               clear HB
               have HO_4 := n0_
               have HO_103001 := n1_
               have BK102 := n2_
               have HB := n3_
               clear n0_ n1_ n2_ n3_
               (try clear hb)
               (try clear hb2)
               (try clear hk)
               (try clear hi)
               refine hK.out _ _ ⟨(blk_cell BK102.out 0).trans rfl, (blk_cell BK102.out 1).trans rfl, HS2_, HS3_⟩ (fun hHeld => ?_)
               clear hK K
               refine norm_ (a' := ?_) ?_ ?_
               rotate_left
               ·show Act.put _ (some 68) _ = _
                simp only [Act.put, List.setIfInBounds_toArray, List.set_cons_zero, List.set_cons_succ, i64_w, i32_w]
                rfl
               refine pure_ (i := 6) (N := some 72) (v := ?_) (a' := ?_) #[true, true, true, true, true, true, true] rfl rfl (by kernel_rfl) (fun _ _ _ h => h) (Or.inl ⟨by rfl, ?_⟩) ?_ ?_
               rotate_left
               ·intro w'
                go_simp
                with_reducible rfl
               rotate_left
               ·simp only [Act.put, List.setIfInBounds_toArray, List.set_cons_zero, List.set_cons_succ, i64_w, i32_w]
                rfl
               refine done_ (by kernel_rfl) ?_
               have p120 : 0 ≤ (x10_3 : Int) := of_decide_eq_true (by first | (with_reducible assumption) | assumption)
               have q120 : x10_3 < (x4_1.length : Int) := of_decide_eq_true (by first | (with_reducible assumption) | assumption)
               obtain ⟨ad120, e120, hx120_0, hx120_1⟩ := at_T33 (Kd.R_reads' HO_4.out).2.2 x10_3 p120 (by have e_ := (Kd.R_reads' HO_4.out).1; omega)
               (try rw [← Nbq50.out] at hx120_0)
               cases e120
               have ha_ : (⟨gA, 0, none⟩ : Addr).add (x10_3.toNat * 2) = ⟨gA, x10_3.toNat * 2, none⟩ := add0 _ _
               rw [ha_] at hx120_0 hx120_1
               clear ha_
               have b32_120 : (x10_3 < 32) = True := eq_true (of_decide_eq_true c45b0)
               replace p120 := eq_true p120
               replace q120 := eq_true q120
               try go_wp2
               ·exfalso; rename_i hq_; rw [← Nbq50.out] at c49b0; revert hq_ c49b0; cases t117 <;> cases (t118.toList == (rd_T33 x4_1 x10_3).f1.toList) <;> simp
               go_roundg k3
               case measure => have := HK1.out; have := HJ9.out; have := HK3.out; omega
               case rel => exact ⟨(wrap64 (x10_3 + 1)), (wrap64 (x10_3 + 1)), eqS, eqS, H', ⟨by have := HK1.out; have := HJ9.out; have := HK3.out; omega⟩, ⟨stR HO_4⟩, ⟨stR HO_103001⟩, ⟨stB BK102⟩, ⟨stH HB⟩⟩
              ·replace c51 := Bool.eq_false_iff.mpr c51
               subst c51
               rw [if_neg (show ¬ (false = true) by decide)] at H
               have H' := aq H
               clear H
               try go_wp2
               have n0_ := aq (Kd.R_drew HO_4.out)
               have n1_ := aq (Kd.R_drew HO_103001.out)
               have n2_ := aq (blk_drew BK102.out)
               have n3_ := aq (below_drew1 HB.out)
               clear HO_4
               clear HO_103001
               clear BK102
               clear HB
               have HO_4 := n0_
               have HO_103001 := n1_
               have BK102 := n2_
               have HB := n3_
               clear n0_ n1_ n2_ n3_
               have p119 : 0 ≤ (x10_3 : Int) := of_decide_eq_true (by first | (with_reducible assumption) | assumption)
               have q119 : x10_3 < (x4_1.length : Int) := of_decide_eq_true (by first | (with_reducible assumption) | assumption)
               obtain ⟨ad119, e119, hx119_0, hx119_1⟩ := at_T33 (Kd.R_reads' HO_4.out).2.2 x10_3 p119 (by have e_ := (Kd.R_reads' HO_4.out).1; omega)
               (try rw [← Nbq50.out] at hx119_0)
               cases e119
               have ha_ : (⟨gA, 0, none⟩ : Addr).add (x10_3.toNat * 2) = ⟨gA, x10_3.toNat * 2, none⟩ := add0 _ _
               rw [ha_] at hx119_0 hx119_1
               clear ha_
               have b32_119 : (x10_3 < 32) = True := eq_true (of_decide_eq_true c45b0)
               replace p119 := eq_true p119
               replace q119 := eq_true q119
               obtain ⟨Ao58, co58, eo58⟩ := Kd.R_slice HO_103001.out
               (first | subst eo58 | (injection eo58 with f1_ f2_ f3_; have f4_ := f1_.symm; have f5_ := f3_.symm; clear f1_ f2_ f3_; subst f4_; subst f5_))
               refine start_ (n := 7) (S := fun w' => w'.cell? ⟨gb102, 0, none⟩ = some (.int .i64 x103000_1) ∧ w'.cell? ⟨gb102, 1, none⟩ = some (.slice Ao58 x103001_1.length co58) ∧ w'.cell? (⟨gA, x10_3.toNat * 2, none⟩ : Addr) = some (.bool false) ∧ w'.cell? ⟨(⟨gA, x10_3.toNat * 2, none⟩ : Addr).block, (⟨gA, x10_3.toNat * 2, none⟩ : Addr).off + 1, none⟩ = some (.string ((rd_T33 x4_1 x10_3).f1))) (ds := []) #[false, false, false, false, false, false, false] (by kernel_rfl) rfl rfl ⟨(blk_cell BK102.out 0).trans rfl, (blk_cell BK102.out 1).trans rfl, hx119_0, hx119_1⟩ (fun hHeld => ?_)
               generalize wr.drew = w56 at HO_4 HO_103001 BK102 HB hx119_0 hx119_1 hHeld ⊢
               refine pure_ (i := 1) (N := some 67) (v := ?_) (a' := ?_) #[false, true, false, false, false, false, false] rfl rfl (by kernel_rfl) (fun _ _ _ h => h) (Or.inl ⟨by rfl, ?_⟩) ?_ ?_
               rotate_left
               ·intro w'
                go_simp
                with_reducible rfl
               rotate_left
               ·simp only [Act.put, List.setIfInBounds_toArray, List.set_cons_zero, List.set_cons_succ, i64_w, i32_w]
                rfl
               refine pure_ (i := 3) (N := some 69) (v := ?_) (a' := ?_) #[false, true, false, true, false, false, false] rfl rfl (by kernel_rfl) (fun _ _ _ h => h) (Or.inl ⟨by rfl, ?_⟩) ?_ ?_
               rotate_left
               ·intro w'
                go_simp
                with_reducible rfl
               rotate_left
               ·simp only [Act.put, List.setIfInBounds_toArray, List.set_cons_zero, List.set_cons_succ, i64_w, i32_w]
                rfl
               refine pure_ (i := 4) (N := some 70) (v := ?_) (a' := ?_) #[false, true, false, true, true, false, false] rfl rfl (by kernel_rfl) (fun _ _ _ h => h) (Or.inl ⟨by rfl, ?_⟩) ?_ ?_
               rotate_left
               ·intro w'
                go_simp
                with_reducible rfl
               rotate_left
               ·simp only [Act.put, List.setIfInBounds_toArray, List.set_cons_zero, List.set_cons_succ, i64_w, i32_w]
                rfl
               refine take_ (i := 0) (N := some 66) (v := ?_) (a' := ?_) #[true, true, false, true, true, false, false] rfl rfl (by kernel_rfl) (fun _ _ _ h => h) (Or.inl ⟨by rfl, ?_⟩) hHeld ?_ ?_
               rotate_left
               ·rintro w' ⟨s0, s1, s2, s3⟩
                go_simp
                with_reducible rfl
               rotate_left
               ·simp only [Act.put, List.setIfInBounds_toArray, List.set_cons_zero, List.set_cons_succ, i64_w, i32_w]
                rfl
               refine take_ (i := 5) (N := some 71) (v := ?_) (a' := ?_) #[true, true, false, true, true, true, false] rfl rfl (by kernel_rfl) (fun _ _ _ h => h) (Or.inl ⟨by rfl, ?_⟩) hHeld ?_ ?_
               rotate_left
               ·rintro w' ⟨s0, s1, s2, s3⟩
                go_simp
                with_reducible rfl
               rotate_left
               ·simp only [Act.put, List.setIfInBounds_toArray, List.set_cons_zero, List.set_cons_succ, i64_w, i32_w]
                rfl
               refine one_ (i := 2) (N := some 68) #[true, true, true, true, true, true, false] rfl rfl (by kernel_rfl) (by decide) (fun K hK => ?_)
               refine goes_ Try.func39 (by kernel_rfl) rfl #[.agg #[.int .i64 x103000_1, .slice Ao58 x103001_1.length co58], .int .i64 x10_3] (by rfl) rfl rfl fitR ?_
               with_reducible refine (slabAt.calls x103000_1 _ _ x103001_1 x10_3 t117 t118 _ ?side1 ?side2 A46.out).mono ?_
               (case side1 => repeat (first | exact (Kd.R_reads' HO_103001.out).2.2 | (with_reducible refine Kd.C_alloc ?_ _) | (with_reducible refine Kd.C_drewN ?_ _) | (with_reducible refine Kd.C_drew ?_)))
               (case side2 => exact (Kd.R_reads' HO_103001.out).2.1)
               rintro e w59 ⟨rfl, hb⟩
               have HS2_ := (hb.cell (World.block_lt_of_cell? _ _ (hHeld.2.2.1))).trans (hHeld.2.2.1)
               have HS3_ := (hb.cell (World.block_lt_of_cell? _ _ (hHeld.2.2.2))).trans (hHeld.2.2.2)
               refine ⟨_, rfl, ?_⟩
               have n0_ := aq (Kd.R_below (stR HO_4) hb)
               have n1_ := aq (Kd.R_below (stR HO_103001) hb)
               have n2_ := aq (blk_below (stB BK102) hb)
               have n3_ := aq (below_step (stH HB) hb)
               clear HO_4
               clear HO_103001
               clear BK102
               clear HB
               have HO_4 := n0_
               have HO_103001 := n1_
               have BK102 := n2_
               have HB := n3_
               clear n0_ n1_ n2_ n3_
               (try clear hb)
               (try clear hb2)
               (try clear hk)
               (try clear hi)
               refine hK.out _ _ ⟨(blk_cell BK102.out 0).trans rfl, (blk_cell BK102.out 1).trans rfl, HS2_, HS3_⟩ (fun hHeld => ?_)
               clear hK K
               refine norm_ (a' := ?_) ?_ ?_
               rotate_left
               ·show Act.put _ (some 68) _ = _
                simp only [Act.put, List.setIfInBounds_toArray, List.set_cons_zero, List.set_cons_succ, i64_w, i32_w]
                rfl
               refine pure_ (i := 6) (N := some 72) (v := ?_) (a' := ?_) #[true, true, true, true, true, true, true] rfl rfl (by kernel_rfl) (fun _ _ _ h => h) (Or.inl ⟨by rfl, ?_⟩) ?_ ?_
               rotate_left
               ·intro w'
                go_simp
                with_reducible rfl
               rotate_left
               ·simp only [Act.put, List.setIfInBounds_toArray, List.set_cons_zero, List.set_cons_succ, i64_w, i32_w]
                rfl
               refine done_ (by kernel_rfl) ?_
               have p120 : 0 ≤ (x10_3 : Int) := of_decide_eq_true (by first | (with_reducible assumption) | assumption)
               have q120 : x10_3 < (x4_1.length : Int) := of_decide_eq_true (by first | (with_reducible assumption) | assumption)
               obtain ⟨ad120, e120, hx120_0, hx120_1⟩ := at_T33 (Kd.R_reads' HO_4.out).2.2 x10_3 p120 (by have e_ := (Kd.R_reads' HO_4.out).1; omega)
               (try rw [← Nbq50.out] at hx120_0)
               cases e120
               have ha_ : (⟨gA, 0, none⟩ : Addr).add (x10_3.toNat * 2) = ⟨gA, x10_3.toNat * 2, none⟩ := add0 _ _
               rw [ha_] at hx120_0 hx120_1
               clear ha_
               have b32_120 : (x10_3 < 32) = True := eq_true (of_decide_eq_true c45b0)
               replace p120 := eq_true p120
               replace q120 := eq_true q120
               try go_wp2
               ·exfalso; rename_i hq_; rw [← Nbq50.out] at c49b0; revert hq_ c49b0; cases t117 <;> cases (t118.toList == (rd_T33 x4_1 x10_3).f1.toList) <;> simp
               go_roundg k3
               case measure => have := HK1.out; have := HJ9.out; have := HK3.out; omega
               case rel => exact ⟨(x9_3), (wrap64 (x10_3 + 1)), eqS, eqS, H', ⟨by have := HK1.out; have := HJ9.out; have := HK3.out; omega⟩, ⟨stR HO_4⟩, ⟨stR HO_103001⟩, ⟨stB BK102⟩, ⟨stH HB⟩⟩
            ·rw [if_neg c48] at H
             exact absurd H (by simp)
           ·rw [if_neg c47] at H
            exact absurd H (by simp)
          ·rw [if_neg c45] at H
           have c45b0 : decide (x10_3 < 32) = false := decide_eq_false c45
           clear c45
           by_cases c60 : (x103001_1.length : Int) = x9_3
           ·rw [if_pos c60] at H
            have c60b0 : ((x103001_1.length : Int) == x9_3) = true := beq_iff_eq.mpr c60
            have c60b1 : ((x103001_1.length : Int) != x9_3) = false := bne_eq_false_iff_eq.mpr c60
            clear c60
            obtain rfl := Option.some.inj H
            obtain ⟨k61a, k61b⟩ := cl2 (W := wr) BK102.out
            obtain ⟨u61a, u61b⟩ := fr2 BK102.out
            obtain ⟨Ao62, co62, eo62⟩ := Kd.R_slice HO_103001.out
            subst eo62
            go_wp2
            go_ret
            exact ⟨eqW, stH HB⟩
           ·rw [if_neg c60] at H
            have c60b0 : ((x103001_1.length : Int) == x9_3) = false := beq_eq_false_iff_ne.mpr c60
            have c60b1 : ((x103001_1.length : Int) != x9_3) = true := bne_iff_ne.mpr c60
            obtain rfl := Option.some.inj H
            exact absurd HRT.out (by decide)
  ·rw [if_neg c4] at H
   exact absurd H (by simp)
 ·replace c3 := Bool.eq_false_iff.mpr c3
  subst c3
  rw [if_neg (show ¬ (false = true) by decide)] at H
  obtain rfl := Option.some.inj H
  exact absurd HRT.out (by decide)
end Go.Proofs.Ytfjmnaobfbmllaa.M
namespace Go.Proofs.Ytfjmnaobfbmllaa.M
open Go.RowKit Go.Proofs.YtfjmnaobfbmllaaW.PrintWords Go.Proofs.YtfjmnaobfbmllaaW.PrintLast Go.Proofs.YtfjmnaobfbmllaaW.PrintMore
set_option linter.unusedVariables false
set_option linter.unusedSimpArgs false
def Agrees (xs l : List S33) : Prop := xs.length = 32 ∧ goodP 3 l = true ∧ ∀ i, i < 32 → slotL xs i = slotL l i
theorem map_l1 {xs l : List S33} (h : Agrees xs l) (d : Nat) : ∀ (k i n : Nat), i + d = 32 → d < k → n ≤ i → (∀ j, n ≤ j → j < i → (slotL l j).f0 = false) → (n = 0 ∨ (slotL l (n - 1)).f0 = true) →
    seneschallaw03_SlabMap.l1 k xs (n : Int) (i : Int) 3 l = some true := by
  obtain ⟨hlen, hg, hs⟩ := h
  obtain ⟨_, _, h32, _, hl, _⟩ := (good_iff 3 l).mp hg
  induction d with
  | zero =>
    intro k i n hi hk hn ha hb
    obtain ⟨k, rfl⟩ : ∃ m, k = m + 1 := ⟨k - 1, by omega⟩
    simp only [seneschallaw03_SlabMap.l1]
    rw [if_neg (by omega)]
    have e : l.length = n := by
      rcases Nat.lt_trichotomy l.length n with h1 | h1 | h1
      · exfalso
        rcases hb with hb | hb
        · omega
        · rw [slot_ge l (n - 1) (by omega)] at hb; cases hb
      · exact h1
      · exfalso
        have h2 := lastUsed_get l hl (by omega)
        rw [ha (l.length - 1) (by omega) (by omega)] at h2
        cases h2
    rw [if_pos (by omega)]
    rfl
  | succ d ih =>
    intro k i n hi hk hn ha hb
    obtain ⟨k, rfl⟩ : ∃ m, k = m + 1 := ⟨k - 1, by omega⟩
    simp only [seneschallaw03_SlabMap.l1]
    unfold slabAt.f
    have eq : rd_T33 xs (i : Int) = slotL l i := by rw [rd_slot, Int.toNat_natCast]; exact hs i (by omega)
    have ea : atP 3 l (i : Int) = slotL l i := by unfold atP; rw [if_pos ⟨hg, by omega⟩, Int.toNat_natCast]
    rw [if_pos (by omega), Option.bind_some, if_pos (by omega), if_pos (by omega), eq, ea, if_neg (by simp), w64 ((i : Int) + 1) (by omega) (by omega), show ((i : Int) + 1) = ((i + 1 : Nat) : Int) by omega]
    by_cases hu : (slotL l i).f0 = true
    · rw [if_pos hu]
      exact ih k (i + 1) (i + 1) (by omega) (by omega) (Nat.le_refl _) (fun j h1 h2 => by omega) (.inr (by rw [Nat.add_sub_cancel]; exact hu))
    · rw [if_neg hu]
      refine ih k (i + 1) n (by omega) (by omega) (by omega) (fun j h1 h2 => ?_) hb
      rcases Nat.lt_or_ge j i with h3 | h3
      · exact ha j h1 h3
      · obtain rfl : j = i := by omega
        simpa using hu
theorem map_j1 {xs l : List S33} (h : Agrees xs l) (k : Nat) (hk : 40 < k) (ps : List S47) (i : Int) : seneschallaw03_SlabMap.j1 k ps xs i false 3 l = some true := by
  obtain ⟨k, rfl⟩ : ∃ m, k = m + 1 := ⟨k - 1, by omega⟩
  simp only [seneschallaw03_SlabMap.j1]
  rw [if_neg Bool.false_ne_true]
  exact map_l1 h 32 k 0 0 rfl (by omega) (Nat.le_refl _) (fun j h1 h2 => by omega) (.inl rfl)
theorem map_l0 (ps : List S47) (d : Nat) : ∀ (k i : Nat) (xs l : List S33), Agrees xs l → i + d = 60 → 2 * d + 50 < k → seneschallaw03_SlabMap.l0 k ps xs (i : Int) 3 l = some true := by
  induction d with
  | zero =>
    intro k i xs l h hi hk
    obtain ⟨k, rfl⟩ : ∃ m, k = m + 1 := ⟨k - 1, by omega⟩
    simp only [seneschallaw03_SlabMap.l0]
    rw [decide_eq_false (show ¬ (i : Int) < 60 by omega), ite_self]
    exact map_j1 h k (by omega) ps _
  | succ d ih =>
    intro k i xs l h hi hk
    obtain ⟨k, rfl⟩ : ∃ m, k = m + 2 := ⟨k - 2, by omega⟩
    simp only [seneschallaw03_SlabMap.l0]
    by_cases hlt : (i : Int) < (ps.length : Int)
    · rw [if_pos hlt, decide_eq_true (show (i : Int) < 60 by omega)]
      simp only [seneschallaw03_SlabMap.j1]
      rw [if_pos trivial, if_pos (by omega), if_pos hlt]
      generalize rd_T47 ps (i : Int) = p
      by_cases hb : (p.f1.f1.size : Int) > 1024
      · rw [if_pos hb]
      · rw [if_neg hb]
        have hu : 0 ≤ IntKind.u64.wrap p.f0 := by rw [IntKind.wrap_u64]; omega
        have ht : Int.tmod (IntKind.u64.wrap p.f0) 32 = IntKind.u64.wrap p.f0 % 32 := Int.tmod_eq_emod_of_nonneg hu
        have l0 : 0 ≤ IntKind.u64.wrap p.f0 % 32 := Int.emod_nonneg _ (by decide)
        have l1 : IntKind.u64.wrap p.f0 % 32 < 32 := Int.emod_lt_of_pos _ (by decide)
        rw [ht]
        generalize IntKind.u64.wrap p.f0 % 32 = r at l0 l1 ⊢
        rw [w64 r (by omega) (by omega), w64 ((i : Int) + 1) (by omega) (by omega), show ((i : Int) + 1) = ((i + 1 : Nat) : Int) by omega]
        obtain ⟨s, rfl⟩ := Int.eq_ofNat_of_zero_le l0
        have hs : s < 32 := by omega
        unfold slabPut.f
        rw [Option.bind_some]
        by_cases h0 : (putP 3 l (s : Int) ⟨p.f1.f0, p.f1.f1⟩).2.2 = 0
        · obtain ⟨hg, _, _, hx, hz, e⟩ := put_ok rfl h0
          rw [Int.toNat_natCast] at hz e
          rw [if_pos h0, if_pos l0, if_pos (by have := h.1; omega), e, Int.toNat_natCast]
          have hgi := (good_iff 3 l).mp hg
          refine ih (k + 1 - 1) (i + 1) _ _ ⟨by rw [List.length_set]; exact h.1, put_good hg hs hx hz, fun j hj => ?_⟩ (by omega) (by omega)
          rw [slot_set xs s j _ (by have := h.1; omega), put_slot l s j _ hgi.2.2.2.1 hx, h.2.2 j hj]
        · rw [if_neg h0]
          exact ih (k + 1 - 1) (i + 1) xs l h (by omega) (by omega)
    · rw [if_neg hlt]
      exact map_j1 h (k + 1) (by omega) ps _
theorem agrees_start : Agrees (List.replicate 32 z33) [] := by
  refine ⟨rfl, by decide +kernel, fun i hi => ?_⟩
  unfold slotL
  rw [List.getD_eq_getElem?_getD, List.getElem?_replicate]
  simp [hi]
theorem pureSlabMap (l0 : List S47) : ∃ k, seneschallaw03_SlabMap.f k l0 = some true := by
  refine ⟨200, ?_⟩
  unfold seneschallaw03_SlabMap.f awake3.f
  rw [Option.bind_some, if_pos rfl, if_pos (by decide)]
  exact map_l0 l0 60 200 0 _ _ agrees_start rfl (by decide)
end Go.Proofs.Ytfjmnaobfbmllaa.M
namespace Go.Proofs.Ytfjmnaobfbmllaa.slabMap
open Go.ChangeShapes Go.WideShapes Go.ChangeAt Go.RowKit Go.Proofs.Ytfjmnaobfbmllaa.M
open Go.Proofs.YtfjmnaobfbmllaaW.PrintWords Go.Proofs.YtfjmnaobfbmllaaW.PrintLast Go.Proofs.YtfjmnaobfbmllaaW.PrintMore
open Go.ChangeMaps (open_string shut_string)
set_option linter.unusedVariables false
theorem own : ownKnob Try.prog.godebug = none := by kernel_rfl
theorem laidOut : laidOutB Try.prog = true := by kernel_rfl
set_option maxRecDepth 100000 in
theorem lifted (os : Os) (started : os.Started) (H : Type) (enc : TypeId × Value → H) :
    ReturnsInHanded {} Try.checked os 8 .any (Rows.slabMapSpec.pre6 enc Try.prog Try.f8 Rows.slabMapRow.domain false) (Rows.slabMapSpec.post enc Try.prog Try.f8 false true false false) := by
  refine returnsInHanded_of_change_sized (C := Try.checked) own started (by kernel_rfl) Try.func8
    (ChangeSpec.witness6 (enc := enc) (C := Try.checked) false ⟨#[], #[.slice none 0 0], []⟩ 8 (by kernel_rfl) (by kernel_rfl) (by kernel_rfl) (by kernel_rfl)) ?_
  intro W base args ds gs before hval0 hW hcnd hsz0 _
  have hsz : (DataW.weightsEach Try.prog (Try.f8.params.toList ++ Rows.slabMapSpec.plain.varTypes Try.prog) (ds ++ gs)).all (· ≤ reachBytes) = true := hsz0
  have hval : ∀ (j : Nat) t v, Try.f8.params[j]? = some t → args[j]? = some v → Value.okWide Try.prog W .any base t v := hval0
  have hW' := hW
  obtain ⟨p, q, hA0, hV, rfl, hfz, hnd⟩ := hW
  have hA : DataW.TrodAll enc Try.prog W 0 (fun _ => true) true Try.f8.params.toList args.toList ds p := hA0
  rw [Try.params8] at hA hval hsz
  obtain ⟨v0, vs0, d0, ds0, p0, q0, hargs, rfl, rfl, h0, r0⟩ := trodAll_cons hA
  obtain ⟨rfl, rfl, rfl⟩ := trodAll_nil r0
  obtain rfl : args = #[v0] := by cases args; simp_all
  obtain ⟨rfl, rfl⟩ := trodVars_none hV
  have k0 := h0
  have lt0 : ∀ x ∈ p0, x.block < W.heap.size := by obtain ⟨m, hm⟩ := k0; exact DataW.trod_lt m _ _ _ hm
  obtain ⟨A0, c0, l0, rfl, hr0, hc0⟩ := V44 (hval 0 44 v0 rfl rfl) h0
  clear hA0 hval0 hsz0 hsz hval
  obtain ⟨k, hp⟩ := pureSlabMap l0
  refine (seneschallaw03_SlabMap.calls k A0 c0 l0 true rfl W hr0 hc0 hp).mono fun e W' ⟨he, bel⟩ => ?_
  subst he
  exact ⟨_, rfl, _, _, _, [], _, [], hW', trodAll_mk1 (shut_bool Try.underlying4 _), (trodAll_cons_mk (Below.trod laidOut (by kernel_rfl) (of_decide_eq_true (by kernel_rfl)) k0 bel lt0) trodAll_mk0), rfl, bel.frame _, fun h => by cases h⟩
theorem joined : joinedFacts Try.prog 8 Try.f8 Rows.slabMapSpec Rows.slabMapRow = true := by
  unfold joinedFacts
  rw [may_enter, lifts_final, make_is]
  kernel_rfl
theorem over : Rows.slabMapRow.holds Try.pinned (OpenSpec.ofChange Rows.slabMapSpec) :=
  OpenClaim.holds_of_wide 8 Try.f8 rfl rfl rfl rfl rfl rfl rfl ⟨rfl, rfl, rfl, rfl, rfl⟩ rfl rfl rfl rfl rfl (by kernel_rfl) Try.func8 joined
    (of_decide_eq_true (by kernel_rfl)) (by unfold Func.isWrapper; first | (rw [if_pos (by decide +kernel)]; kernel_rfl) | (rw [if_neg (by decide +kernel)]; exact ⟨rfl, rfl⟩))
    (fun os started H enc _ => lifted os started H enc)
theorem proved : Rows.SlabMapSaid := over
#print axioms proved
end Go.Proofs.Ytfjmnaobfbmllaa.slabMap
namespace Go.Proofs.Ytfjmnaobfbmllaa
theorem slabMap_holds : Rows.SlabMapSaid := slabMap.proved
end Go.Proofs.Ytfjmnaobfbmllaa
