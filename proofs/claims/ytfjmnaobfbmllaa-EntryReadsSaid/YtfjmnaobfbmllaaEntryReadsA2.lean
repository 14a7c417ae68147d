/- The law EntryReads: it returns true for every input, and its arguments read as they did. No condition. Part 3 of 4. -/
import Derived.Test.YtfjmnaobfbmllaaProg
import Derived.Test.YtfjmnaobfbmllaaRows
import Derived.Test.YtfjmnaobfbmllaaUApart
import Derived.Test.YtfjmnaobfbmllaaUEqStruct
import Derived.Test.YtfjmnaobfbmllaaUFoot
import Derived.Test.YtfjmnaobfbmllaaUGuard
import Derived.Test.YtfjmnaobfbmllaaUKept
import Derived.Test.YtfjmnaobfbmllaaULast
import Derived.Test.YtfjmnaobfbmllaaUMore
import Derived.Test.YtfjmnaobfbmllaaUN
import Derived.Test.YtfjmnaobfbmllaaURepsOne
import Derived.Test.YtfjmnaobfbmllaaUShare
import Derived.Test.YtfjmnaobfbmllaaUTab
import Derived.Test.YtfjmnaobfbmllaaUWords
import Derived.ArgAppend
import Derived.Below
import Derived.BigQuiet
import Derived.Carry
import Derived.ChangeArms
import Derived.ChangeMaps
import Derived.ChangeOld
import Derived.Deep.AppendLies
import Derived.Deep.CutBlock
import Derived.Deep.DeepCutAuto
import Derived.Deep.Draws
import Derived.Deep.LoopGhost
import Derived.Deep.OwnRows
import Derived.Deep.QuietTactic
import Derived.Deep.RegionHeld3
import Derived.Deep.Slices
import Derived.KernelRfl
import Derived.Laws.Bits64
import Derived.Laws.Bits64b
import Derived.Laws.BitsAllLaws
import Derived.Laws.BitsLemmas
import Derived.Laws.BytesArg
import Derived.Laws.CopyOwn
import Derived.Laws.IdiomCopy
import Derived.Laws.MakeOwn
import Derived.Laws.OwnMore
import Derived.Laws.Rows
import Derived.Laws.Slices
import Derived.Lib.AppendStr
import Derived.Lib.ConvBytes
import Derived.Maps.AppendAt
import Derived.OpenShut
import Derived.OrdersHeld
import Derived.OwnWalk
import Derived.ProofKit
import Derived.RowKit
import Derived.RowKit3
import Derived.ShutString
import Derived.SizedLaws
import Derived.Tactics
import Derived.WalkKit
import Derived.WideLaws
import Derived.Test.YtfjmnaobfbmllaaEntryReadsA0
import Derived.Test.YtfjmnaobfbmllaaEntryReadsA1
namespace Go.Proofs.Ytfjmnaobfbmllaa.M
open Go.RowKit Go.Proofs.YtfjmnaobfbmllaaW.PrintWords Go.Proofs.YtfjmnaobfbmllaaW.PrintLast Go.Proofs.YtfjmnaobfbmllaaW.PrintMore
attribute [local go_sem] max2_int min2_int max_two min_two max_three min_three max_four min_four   -- for this text's walks alone
set_option linter.unusedVariables false
set_option linter.unusedSimpArgs false
set_option maxHeartbeats 8000000 in
set_option maxRecDepth 100000 in
theorem seneschalref04_Decode.calls (k : Nat) (a0 : ByteArray) (r1 : Int) (r2 : Int) (r3 : Int) (r4 : Int) (r5 : Int) (r6 : Int) (r7 : Int) (r8 : Int) (r9 : Bool) (r10 : ByteArray) (r11 : Bool) (r12 : ByteArray) (r13 : Int) (r14 : ByteArray) (r15 : Int) (w : World) (h : seneschalref04_Decode.f k a0 = some (r1, r2, r3, r4, r5, r6, r7, r8, r9, r10, r11, r12, r13, r14, r15)) :
  Calls Try.prog 64 #[.string a0] w fun e w' => e = .returned (.tuple #[.agg #[.int .i64 r1, .int .i64 r2, .int .i64 r3, .int .i64 r4, .int .i64 r5, .int .i64 r6, .int .i64 r7, .int .i64 r8, .bool r9, .string r10, .bool r11, .string r12, .int .i64 r13], .string r14, .int .i64 r15]) ∧ Below w.heap.size w w' := by
 have hu65 := Try.underlying65
 have hu52 := Try.underlying52
 have hu33 := Try.underlying33
 have HB := Aside0.mk (Below.refl w.heap.size w)
 have H : (seneschalref04_Decode.l0 k a0 (([] : List Int)) 6) = some (r1, r2, r3, r4, r5, r6, r7, r8, r9, r10, r11, r12, r13, r14, r15) := h
 clear h
 obtain ⟨y102, hy102⟩ : ∃ y_ : List Int, y_ = (([] : List Int)) := ⟨_, rfl⟩
 replace H : (seneschalref04_Decode.l0 k a0 y102 6) = some (r1, r2, r3, r4, r5, r6, r7, r8, r9, r10, r11, r12, r13, r14, r15) := by first | (rw [hy102]; with_reducible exact H) | (have H2_ := (Option.bind_some _ _).symm.trans H; rw [hy102]; with_reducible exact H2_) | (have H2_ := (Option.bind_some _ _).symm.trans H; with_reducible exact H2_) | with_reducible exact H | (rw [hy102]; exact H) | exact H
 have Ny102 := Aside0.mk hy102
 clear hy102
 have H' := Aside0.mk H
 clear H
 go_enter Try.func64, Try.ntmps64
 go_wp2_with (first | ((with_reducible refine gate_dst (N := 2) rfl ?_); refine box_event ?hg (N := 2) ?hd (cs := #[.int .i64 0, .int .i64 0, .int .i64 0, .int .i64 0, .int .i64 0, .int .i64 0, .int .i64 0, .int .i64 0, .bool false, .string (⟨#[]⟩ : ByteArray), .bool false, .string (⟨#[]⟩ : ByteArray), .int .i64 0]) (t := 65) ?hr ?_; (case hd => rfl); (case hg => rfl); (case hr => first | (go_simp; done) | (go_simp; rfl)); intro gb101 hg w2 hbox hb; have n0_ := Aside0.mk (below_step (by repeat (first | (with_reducible first | exact HB.out | apply below_alloc | apply pw_below_drewN | apply below_drew1) | exact HB.out)) hb); have n1_ := Aside0.mk (hbox); have n2_ := Aside0.mk ((by rw [hg]; exact (below_size (by repeat (first | (with_reducible first | exact HB.out | apply below_alloc | apply pw_below_drewN | apply below_drew1) | exact HB.out))) : w.heap.size ≤ gb101)); have n3_ := Aside0.mk ((by rw [hg]; exact (below_size (by repeat (first | (with_reducible first | exact HB.out | apply below_alloc | apply pw_below_drewN | apply below_drew1) | exact HB.out))) : w.heap.size ≤ gb101)); clear HB; have HB := n0_; have BK101 := n1_; have GW101 := n2_; have GE101 := n3_; clear n0_ n1_ n2_ n3_; clear hb hbox hg) | ((with_reducible refine gate_dst (N := 17) rfl ?_); refine Kd.R_lit (Kd.int .i64) _ 3 ?hg (N := 17) ?hd (xs := ([] : List Int)) (inner := []) (ok := fun _ => True) (okp := fun _ => True) ?hr ?hp (fun _ hk => hk) trivial (Below.refl _ _) (Nat.le_refl _) (by simp) ?_; (case hd => rfl); (case hg => rfl); (case hr => first | (go_simp; done) | (go_simp; rfl)); (case hp => exact (Reps.none _ _)); intro v103 w3 ho4 hb hg_ hnew_; clear hg_ hnew_; (first | rw [← Ny102.out] at ho4 | (simp only [Int.reduceToNat] at ho4; rw [← Ny102.out] at ho4)); have n0_ := Aside0.mk (Kd.R_lower ho4 (below_size (by repeat (first | (with_reducible first | exact HB.out | apply below_alloc | apply pw_below_drewN | apply below_drew1 | refine below_set ?_ GE101.out) | exact HB.out)))); have n1_ := Aside0.mk (blk_below (g := gb101) (o := .cells #[.int .i64 0, .int .i64 0, .int .i64 0, .int .i64 0, .int .i64 0, .int .i64 0, .int .i64 0, .int .i64 0, .bool false, .string (⟨#[]⟩ : ByteArray), .bool false, .string (⟨#[]⟩ : ByteArray), .int .i64 0] 65 (0, 0)) (by (with_reducible repeat (first | refine blk_drewN ?_ _ | refine blk_drew ?_ | refine blk_alloc ?_ _)); exact BK101.out) hb); have n2_ := Aside0.mk (below_step (by repeat (first | (with_reducible first | exact HB.out | apply below_alloc | apply pw_below_drewN | apply below_drew1 | refine below_set ?_ GE101.out) | exact HB.out)) hb); clear BK101; clear HB; have HO104 := n0_; have BK101 := n1_; have HB := n2_; clear n0_ n1_ n2_; clear hb ho4))
 go_loopg [0, 5, 6] k (fun kq v0 v5 v6 w' => ∃ (x0_1 : ByteArray) (x5_1 : List Int) (x6_1 : Int) (x102000_1 : Int) (x102001_1 : Int) (x102002_1 : Int) (x102003_1 : Int) (x102004_1 : Int) (x102005_1 : Int) (x102006_1 : Int) (x102007_1 : Int) (x102008_1 : Bool) (x102009_1 : ByteArray) (x102010_1 : Bool) (x102011_1 : ByteArray) (x102012_1 : Int), v0 = .string x0_1 ∧ v6 = .int .i64 x6_1 ∧ Aside0 (seneschalref04_Decode.l0 kq x0_1 x5_1 x6_1 = some (r1, r2, r3, r4, r5, r6, r7, r8, r9, r10, r11, r12, r13, r14, r15)) ∧ Aside0 (kq ≤ k) ∧ Aside0 (Kd.R (Kd.int .i64) 3 w' w.heap.size (fun _ => True) v5 x5_1) ∧ Aside0 (w'.heap[gb101]? = some (.cells #[.int .i64 x102000_1, .int .i64 x102001_1, .int .i64 x102002_1, .int .i64 x102003_1, .int .i64 x102004_1, .int .i64 x102005_1, .int .i64 x102006_1, .int .i64 x102007_1, .bool x102008_1, .string x102009_1, .bool x102010_1, .string x102011_1, .int .i64 x102012_1] 65 (0, 0))) ∧ Aside0 (Below w.heap.size w w'))
 case atStart => exact ⟨(a0), (y102), (6), (0), (0), (0), (0), (0), (0), (0), (0), (false), ((⟨#[]⟩ : ByteArray)), (false), ((⟨#[]⟩ : ByteArray)), (0), (by first | rfl | (simp; done) | (simp [*]; done)), (by first | rfl | (simp; done) | (simp [*]; done)), H', ⟨Nat.le_refl _⟩, ⟨by (with_reducible repeat (first | apply Kd.R_alloc | apply Kd.R_drewN | apply Kd.R_drew)); exact HO104.out⟩, ⟨by (with_reducible repeat (first | refine blk_drewN ?_ _ | refine blk_drew ?_ | refine blk_alloc ?_ _)); exact BK101.out⟩, ⟨by repeat (first | (with_reducible first | exact HB.out | apply below_alloc | apply pw_below_drewN | apply below_drew1 | refine below_set ?_ GE101.out) | exact HB.out)⟩⟩
 case round =>
  clear H'
  try clear p2
  obtain ⟨x0_1, x5_1, x6_1, x102000_1, x102001_1, x102002_1, x102003_1, x102004_1, x102005_1, x102006_1, x102007_1, x102008_1, x102009_1, x102010_1, x102011_1, x102012_1, rfl, rfl, HA, HK1, HO_5, BK101, HB⟩ := hrel
  cases gk with
  | zero => exact absurd HA.out (by simp [seneschalref04_Decode.l0])
  | succ k1 =>
   have H := HA.out
   clear HA
   simp only [seneschalref04_Decode.l0] at H
   by_cases c5 : (x5_1.length : Int) < x6_1
   ·rw [if_pos c5] at H
    have c5b0 : decide ((x5_1.length : Int) < x6_1) = true := decide_eq_true c5
    clear c5
    replace H := Option.bind_eq_some_iff.mp H
    obtain ⟨⟨t105, t106, t107⟩, A60, H⟩ := H
    replace H : (if t107 = true then (if x5_1.length < 17592186044416 then ((some (x5_1 ++ [t105] : List Int)).bind fun y108 => (if 0 < (y108.length : Int) then (if (rd y108 0) = 1 then (seneschalref04_Decode.l0 k1 t106 y108 9) else (if (rd y108 0) = 2 then (seneschalref04_Decode.l0 k1 t106 y108 9) else (seneschalref04_Decode.l0 k1 t106 y108 x6_1))) else (none))) else (none)) else (some (0, 0, 0, 0, 0, 0, 0, 0, false, (⟨#[]⟩ : ByteArray), false, (⟨#[]⟩ : ByteArray), 0, (⟨#[]⟩ : ByteArray), 4))) = some (r1, r2, r3, r4, r5, r6, r7, r8, r9, r10, r11, r12, r13, r14, r15) := H
    have A6 := Aside0.mk A60
    clear A60
    by_cases c7 : t107 = true
    ·subst c7
     have H1 : (if x5_1.length < 17592186044416 then ((some (x5_1 ++ [t105] : List Int)).bind fun y108 => (if 0 < (y108.length : Int) then (if (rd y108 0) = 1 then (seneschalref04_Decode.l0 k1 t106 y108 9) else (if (rd y108 0) = 2 then (seneschalref04_Decode.l0 k1 t106 y108 9) else (seneschalref04_Decode.l0 k1 t106 y108 x6_1))) else (none))) else (none)) = some (r1, r2, r3, r4, r5, r6, r7, r8, r9, r10, r11, r12, r13, r14, r15) := by rw [if_pos rfl] at H; exact H
     clear H
     have H := H1
     clear H1
     by_cases c8 : x5_1.length < 17592186044416
     ·rw [if_pos c8] at H
      have LMc8 := Aside0.mk c8
      clear c8
      obtain ⟨y108, hy108⟩ : ∃ y_ : List Int, y_ = (x5_1 ++ [t105]) := ⟨_, rfl⟩
      replace H : (if 0 < (y108.length : Int) then (if (rd y108 0) = 1 then (seneschalref04_Decode.l0 k1 t106 y108 9) else (if (rd y108 0) = 2 then (seneschalref04_Decode.l0 k1 t106 y108 9) else (seneschalref04_Decode.l0 k1 t106 y108 x6_1))) else (none)) = some (r1, r2, r3, r4, r5, r6, r7, r8, r9, r10, r11, r12, r13, r14, r15) := by first | (rw [hy108]; with_reducible exact H) | (have H2_ := (Option.bind_some _ _).symm.trans H; rw [hy108]; with_reducible exact H2_) | (have H2_ := (Option.bind_some _ _).symm.trans H; with_reducible exact H2_) | with_reducible exact H | (rw [hy108]; exact H) | exact H
      have Ny108 := Aside0.mk hy108
      clear hy108
      by_cases c9 : 0 < (y108.length : Int)
      ·rw [if_pos c9] at H
       have c9b0 : decide (0 < (y108.length : Int)) = true := decide_eq_true c9
       have c9b1 : decide (0 < y108.length) = true := decide_eq_true (by omega)
       clear c9
       by_cases c10 : (rd y108 0) = 1
       ·rw [if_pos c10] at H
        have c10b0 : ((rd y108 0) == 1) = true := beq_iff_eq.mpr c10
        have c10b1 : ((rd y108 0) != 1) = false := bne_eq_false_iff_eq.mpr c10
        clear c10
        have H' := Aside0.mk H
        clear H
        obtain ⟨Ao11, co11, eo11⟩ := Kd.R_slice HO_5.out
        subst eo11
        go_wp2_with (first | ((with_reducible refine gate_callee (f := 109) rfl ?_); refine goesL_ (some 24) rfl rfl Try.func109 (by kernel_rfl) rfl #[.string x0_1] rfl (by (try simp only [List.map_toArray, List.map_cons, List.map_nil]); first | done | rfl | (simp only [List.length_drop, List.length_take]; rfl)) ?_; (with_reducible refine (refTake.calls x0_1 t105 t106 true _ A6.out).mono ?_); rintro e w' ⟨rfl, ⟨nd, rfl⟩⟩; refine ⟨_, rfl, ?_⟩) | ((with_reducible refine gate_builtin (b := .append) (xs := #[.tmp 31, .tmp 33]) rfl ?_); at_builtin; refine Kd.R_append (Kd.int .i64) (w0 := w) w.heap.size rfl (.tmp 31) (.tmp 33) 122 3 (.int .i64 0) 8 rfl Try.underlying122 info3 rfl (by decide) (by omega) (.slice Ao11 x5_1.length co11) x5_1 t105 [.int .i64 t105] (fun _ => True) (fun _ => False) rfl rfl ?aP (fun _ hk => hk.elim) ?aF ?aO ?aB ?aS ?aL ?_; (case aP => exact rfl); (case aB => exact (by repeat (first | (with_reducible first | exact HB.out | apply below_alloc | apply pw_below_drewN | apply below_drew1 | refine below_set ?_ GE101.out) | exact HB.out))); (case aF => exact (fun _ _ => trivial)); (case aO => exact (by (with_reducible repeat (first | apply Kd.R_alloc | apply Kd.R_drewN | apply Kd.R_drew)); exact HO_5.out)); (case aS => exact (below_size (by repeat (first | (with_reducible first | exact HB.out | apply below_alloc | apply pw_below_drewN | apply below_drew1 | refine below_set ?_ GE101.out) | exact HB.out)))); (case aL => have := LMc8.out; omega); intro v109 w12 ho hb hg hat; rw [← Ny108.out] at ho; have n0_ := Aside0.mk (blk_grown (g := gb101) (o := .cells #[.int .i64 x102000_1, .int .i64 x102001_1, .int .i64 x102002_1, .int .i64 x102003_1, .int .i64 x102004_1, .int .i64 x102005_1, .int .i64 x102006_1, .int .i64 x102007_1, .bool x102008_1, .string x102009_1, .bool x102010_1, .string x102011_1, .int .i64 x102012_1] 65 (0, 0)) (by (with_reducible repeat (first | refine blk_drewN ?_ _ | refine blk_drew ?_ | refine blk_alloc ?_ _)); exact BK101.out) hg (Kd.R_ne HO_5.out BK101.out (by decide))); have n1_ := Aside0.mk (hb); have n2_ := Aside0.mk (ho); clear BK101; clear HB; clear HO_5; have BK101 := n0_; have HB := n1_; have HO110 := n2_; clear n0_ n1_ n2_; clear ho hb hg hat; obtain ⟨Ao13, co13, eo13⟩ := Kd.R_slice HO110.out; subst eo13; have p111 : 0 ≤ (0 : Int) := (by omega); have q111 : 0 < (y108.length : Int) := of_decide_eq_true (by first | (with_reducible assumption) | assumption); obtain ⟨ad111, e111, hx111_0⟩ := Kd.at_int (Kd.R_reads' HO110.out).2.2 0 p111 q111; cases e111; have qi111 : (0 < y108.length) = True := eq_true (by omega); (try rw [show ((0 : Int)).toNat = 0 from rfl] at hx111_0); (try rw [Addr.add_zero'] at hx111_0); replace p111 := eq_true p111; replace q111 := eq_true q111))
        go_roundg k1
        case measure => have := HK1.out; omega
        case rel => exact ⟨(t106), (y108), (9), (x102000_1), (x102001_1), (x102002_1), (x102003_1), (x102004_1), (x102005_1), (x102006_1), (x102007_1), (x102008_1), (x102009_1), (x102010_1), (x102011_1), (x102012_1), (by first | rfl | (simp; done) | (simp [*]; done)), (by first | rfl | (simp; done) | (simp [*]; done)), H', ⟨by have := HK1.out; omega⟩, ⟨by (with_reducible repeat (first | apply Kd.R_alloc | apply Kd.R_drewN | apply Kd.R_drew)); exact HO110.out⟩, ⟨by (with_reducible repeat (first | refine blk_drewN ?_ _ | refine blk_drew ?_ | refine blk_alloc ?_ _)); exact BK101.out⟩, ⟨by repeat (first | (with_reducible first | exact HB.out | apply below_alloc | apply pw_below_drewN | apply below_drew1 | refine below_set ?_ GE101.out) | exact HB.out)⟩⟩
       ·rw [if_neg c10] at H
        have c10b0 : ((rd y108 0) == 1) = false := beq_eq_false_iff_ne.mpr c10
        have c10b1 : ((rd y108 0) != 1) = true := bne_iff_ne.mpr c10
        by_cases c14 : (rd y108 0) = 2
        ·rw [if_pos c14] at H
         have c14b0 : ((rd y108 0) == 2) = true := beq_iff_eq.mpr c14
         have c14b1 : ((rd y108 0) != 2) = false := bne_eq_false_iff_eq.mpr c14
         clear c14
         have H' := Aside0.mk H
         clear H
         obtain ⟨Ao15, co15, eo15⟩ := Kd.R_slice HO_5.out
         subst eo15
         go_wp2_with (first | ((with_reducible refine gate_callee (f := 109) rfl ?_); refine goesL_ (some 24) rfl rfl Try.func109 (by kernel_rfl) rfl #[.string x0_1] rfl (by (try simp only [List.map_toArray, List.map_cons, List.map_nil]); first | done | rfl | (simp only [List.length_drop, List.length_take]; rfl)) ?_; (with_reducible refine (refTake.calls x0_1 t105 t106 true _ A6.out).mono ?_); rintro e w' ⟨rfl, ⟨nd, rfl⟩⟩; refine ⟨_, rfl, ?_⟩) | ((with_reducible refine gate_builtin (b := .append) (xs := #[.tmp 31, .tmp 33]) rfl ?_); at_builtin; refine Kd.R_append (Kd.int .i64) (w0 := w) w.heap.size rfl (.tmp 31) (.tmp 33) 122 3 (.int .i64 0) 8 rfl Try.underlying122 info3 rfl (by decide) (by omega) (.slice Ao15 x5_1.length co15) x5_1 t105 [.int .i64 t105] (fun _ => True) (fun _ => False) rfl rfl ?aP (fun _ hk => hk.elim) ?aF ?aO ?aB ?aS ?aL ?_; (case aP => exact rfl); (case aB => exact (by repeat (first | (with_reducible first | exact HB.out | apply below_alloc | apply pw_below_drewN | apply below_drew1 | refine below_set ?_ GE101.out) | exact HB.out))); (case aF => exact (fun _ _ => trivial)); (case aO => exact (by (with_reducible repeat (first | apply Kd.R_alloc | apply Kd.R_drewN | apply Kd.R_drew)); exact HO_5.out)); (case aS => exact (below_size (by repeat (first | (with_reducible first | exact HB.out | apply below_alloc | apply pw_below_drewN | apply below_drew1 | refine below_set ?_ GE101.out) | exact HB.out)))); (case aL => have := LMc8.out; omega); intro v109 w16 ho hb hg hat; rw [← Ny108.out] at ho; have n0_ := Aside0.mk (blk_grown (g := gb101) (o := .cells #[.int .i64 x102000_1, .int .i64 x102001_1, .int .i64 x102002_1, .int .i64 x102003_1, .int .i64 x102004_1, .int .i64 x102005_1, .int .i64 x102006_1, .int .i64 x102007_1, .bool x102008_1, .string x102009_1, .bool x102010_1, .string x102011_1, .int .i64 x102012_1] 65 (0, 0)) (by (with_reducible repeat (first | refine blk_drewN ?_ _ | refine blk_drew ?_ | refine blk_alloc ?_ _)); exact BK101.out) hg (Kd.R_ne HO_5.out BK101.out (by decide))); have n1_ := Aside0.mk (hb); have n2_ := Aside0.mk (ho); clear BK101; clear HB; clear HO_5; have BK101 := n0_; have HB := n1_; have HO110 := n2_; clear n0_ n1_ n2_; clear ho hb hg hat; obtain ⟨Ao17, co17, eo17⟩ := Kd.R_slice HO110.out; subst eo17; have p111 : 0 ≤ (0 : Int) := (by omega); have q111 : 0 < (y108.length : Int) := of_decide_eq_true (by first | (with_reducible assumption) | assumption); obtain ⟨ad111, e111, hx111_0⟩ := Kd.at_int (Kd.R_reads' HO110.out).2.2 0 p111 q111; cases e111; have qi111 : (0 < y108.length) = True := eq_true (by omega); (try rw [show ((0 : Int)).toNat = 0 from rfl] at hx111_0); (try rw [Addr.add_zero'] at hx111_0); replace p111 := eq_true p111; replace q111 := eq_true q111; have p112 : 0 ≤ (0 : Int) := (by omega); have q112 : 0 < (y108.length : Int) := of_decide_eq_true (by first | (with_reducible assumption) | assumption); obtain ⟨ad112, e112, hx112_0⟩ := Kd.at_int (Kd.R_reads' HO110.out).2.2 0 p112 q112; obtain rfl : ad111 = ad112 := (by injection e112); have qi112 : (0 < y108.length) = True := eq_true (by omega); (try rw [show ((0 : Int)).toNat = 0 from rfl] at hx112_0); (try rw [Addr.add_zero'] at hx112_0); replace p112 := eq_true p112; replace q112 := eq_true q112))
         go_roundg k1
         case measure => have := HK1.out; omega
         case rel => exact ⟨(t106), (y108), (9), (x102000_1), (x102001_1), (x102002_1), (x102003_1), (x102004_1), (x102005_1), (x102006_1), (x102007_1), (x102008_1), (x102009_1), (x102010_1), (x102011_1), (x102012_1), (by first | rfl | (simp; done) | (simp [*]; done)), (by first | rfl | (simp; done) | (simp [*]; done)), H', ⟨by have := HK1.out; omega⟩, ⟨by (with_reducible repeat (first | apply Kd.R_alloc | apply Kd.R_drewN | apply Kd.R_drew)); exact HO110.out⟩, ⟨by (with_reducible repeat (first | refine blk_drewN ?_ _ | refine blk_drew ?_ | refine blk_alloc ?_ _)); exact BK101.out⟩, ⟨by repeat (first | (with_reducible first | exact HB.out | apply below_alloc | apply pw_below_drewN | apply below_drew1 | refine below_set ?_ GE101.out) | exact HB.out)⟩⟩
        ·rw [if_neg c14] at H
         have c14b0 : ((rd y108 0) == 2) = false := beq_eq_false_iff_ne.mpr c14
         have c14b1 : ((rd y108 0) != 2) = true := bne_iff_ne.mpr c14
         have H' := Aside0.mk H
         clear H
         obtain ⟨Ao18, co18, eo18⟩ := Kd.R_slice HO_5.out
         subst eo18
         go_wp2_with (first | ((with_reducible refine gate_callee (f := 109) rfl ?_); refine goesL_ (some 24) rfl rfl Try.func109 (by kernel_rfl) rfl #[.string x0_1] rfl (by (try simp only [List.map_toArray, List.map_cons, List.map_nil]); first | done | rfl | (simp only [List.length_drop, List.length_take]; rfl)) ?_; (with_reducible refine (refTake.calls x0_1 t105 t106 true _ A6.out).mono ?_); rintro e w' ⟨rfl, ⟨nd, rfl⟩⟩; refine ⟨_, rfl, ?_⟩) | ((with_reducible refine gate_builtin (b := .append) (xs := #[.tmp 31, .tmp 33]) rfl ?_); at_builtin; refine Kd.R_append (Kd.int .i64) (w0 := w) w.heap.size rfl (.tmp 31) (.tmp 33) 122 3 (.int .i64 0) 8 rfl Try.underlying122 info3 rfl (by decide) (by omega) (.slice Ao18 x5_1.length co18) x5_1 t105 [.int .i64 t105] (fun _ => True) (fun _ => False) rfl rfl ?aP (fun _ hk => hk.elim) ?aF ?aO ?aB ?aS ?aL ?_; (case aP => exact rfl); (case aB => exact (by repeat (first | (with_reducible first | exact HB.out | apply below_alloc | apply pw_below_drewN | apply below_drew1 | refine below_set ?_ GE101.out) | exact HB.out))); (case aF => exact (fun _ _ => trivial)); (case aO => exact (by (with_reducible repeat (first | apply Kd.R_alloc | apply Kd.R_drewN | apply Kd.R_drew)); exact HO_5.out)); (case aS => exact (below_size (by repeat (first | (with_reducible first | exact HB.out | apply below_alloc | apply pw_below_drewN | apply below_drew1 | refine below_set ?_ GE101.out) | exact HB.out)))); (case aL => have := LMc8.out; omega); intro v109 w19 ho hb hg hat; rw [← Ny108.out] at ho; have n0_ := Aside0.mk (blk_grown (g := gb101) (o := .cells #[.int .i64 x102000_1, .int .i64 x102001_1, .int .i64 x102002_1, .int .i64 x102003_1, .int .i64 x102004_1, .int .i64 x102005_1, .int .i64 x102006_1, .int .i64 x102007_1, .bool x102008_1, .string x102009_1, .bool x102010_1, .string x102011_1, .int .i64 x102012_1] 65 (0, 0)) (by (with_reducible repeat (first | refine blk_drewN ?_ _ | refine blk_drew ?_ | refine blk_alloc ?_ _)); exact BK101.out) hg (Kd.R_ne HO_5.out BK101.out (by decide))); have n1_ := Aside0.mk (hb); have n2_ := Aside0.mk (ho); clear BK101; clear HB; clear HO_5; have BK101 := n0_; have HB := n1_; have HO110 := n2_; clear n0_ n1_ n2_; clear ho hb hg hat; obtain ⟨Ao20, co20, eo20⟩ := Kd.R_slice HO110.out; subst eo20; have p111 : 0 ≤ (0 : Int) := (by omega); have q111 : 0 < (y108.length : Int) := of_decide_eq_true (by first | (with_reducible assumption) | assumption); obtain ⟨ad111, e111, hx111_0⟩ := Kd.at_int (Kd.R_reads' HO110.out).2.2 0 p111 q111; cases e111; have qi111 : (0 < y108.length) = True := eq_true (by omega); (try rw [show ((0 : Int)).toNat = 0 from rfl] at hx111_0); (try rw [Addr.add_zero'] at hx111_0); replace p111 := eq_true p111; replace q111 := eq_true q111; have p112 : 0 ≤ (0 : Int) := (by omega); have q112 : 0 < (y108.length : Int) := of_decide_eq_true (by first | (with_reducible assumption) | assumption); obtain ⟨ad112, e112, hx112_0⟩ := Kd.at_int (Kd.R_reads' HO110.out).2.2 0 p112 q112; obtain rfl : ad111 = ad112 := (by injection e112); have qi112 : (0 < y108.length) = True := eq_true (by omega); (try rw [show ((0 : Int)).toNat = 0 from rfl] at hx112_0); (try rw [Addr.add_zero'] at hx112_0); replace p112 := eq_true p112; replace q112 := eq_true q112))
         go_roundg k1
         case measure => have := HK1.out; omega
         case rel => exact ⟨(t106), (y108), (x6_1), (x102000_1), (x102001_1), (x102002_1), (x102003_1), (x102004_1), (x102005_1), (x102006_1), (x102007_1), (x102008_1), (x102009_1), (x102010_1), (x102011_1), (x102012_1), (by first | rfl | (simp; done) | (simp [*]; done)), (by first | rfl | (simp; done) | (simp [*]; done)), H', ⟨by have := HK1.out; omega⟩, ⟨by (with_reducible repeat (first | apply Kd.R_alloc | apply Kd.R_drewN | apply Kd.R_drew)); exact HO110.out⟩, ⟨by (with_reducible repeat (first | refine blk_drewN ?_ _ | refine blk_drew ?_ | refine blk_alloc ?_ _)); exact BK101.out⟩, ⟨by repeat (first | (with_reducible first | exact HB.out | apply below_alloc | apply pw_below_drewN | apply below_drew1 | refine below_set ?_ GE101.out) | exact HB.out)⟩⟩
      ·rw [if_neg c9] at H
       exact absurd H (by simp)
     ·rw [if_neg c8] at H
      exact absurd H (by simp)
    ·replace c7 := Bool.eq_false_iff.mpr c7
     subst c7
     have H1 : (some (0, 0, 0, 0, 0, 0, 0, 0, false, (⟨#[]⟩ : ByteArray), false, (⟨#[]⟩ : ByteArray), 0, (⟨#[]⟩ : ByteArray), 4)) = some (r1, r2, r3, r4, r5, r6, r7, r8, r9, r10, r11, r12, r13, r14, r15) := by rw [if_neg (show ¬ (false = true) by decide)] at H; exact H
     clear H
     have H := H1
     clear H1
     simp only [Option.some.injEq, Prod.mk.injEq] at H
     obtain ⟨rfl, rfl, rfl, rfl, rfl, rfl, rfl, rfl, rfl, rfl, rfl, rfl, rfl, rfl, rfl⟩ := H
     obtain ⟨Ao21, co21, eo21⟩ := Kd.R_slice HO_5.out
     subst eo21
     go_wp2_with (first | ((with_reducible refine gate_callee (f := 109) rfl ?_); refine goesL_ (some 24) rfl rfl Try.func109 (by kernel_rfl) rfl #[.string x0_1] rfl (by (try simp only [List.map_toArray, List.map_cons, List.map_nil]); first | done | rfl | (simp only [List.length_drop, List.length_take]; rfl)) ?_; (with_reducible refine (refTake.calls x0_1 t105 t106 false _ A6.out).mono ?_); rintro e w' ⟨rfl, ⟨nd, rfl⟩⟩; refine ⟨_, rfl, ?_⟩; (try (rw [drewN_self wr]; generalize hq_ : World.drewN wr _ = wr; have n0_ : Aside0 (Kd.R (Kd.int .i64) 3 wr w.heap.size (fun _ => True) (.slice Ao21 x5_1.length co21) x5_1) := ⟨by rw [← hq_]; exact (by (with_reducible repeat (first | apply Kd.R_alloc | apply Kd.R_drewN | apply Kd.R_drew)); exact HO_5.out)⟩; have n1_ : Aside0 (wr.heap[gb101]? = some (.cells #[.int .i64 x102000_1, .int .i64 x102001_1, .int .i64 x102002_1, .int .i64 x102003_1, .int .i64 x102004_1, .int .i64 x102005_1, .int .i64 x102006_1, .int .i64 x102007_1, .bool x102008_1, .string x102009_1, .bool x102010_1, .string x102011_1, .int .i64 x102012_1] 65 (0, 0))) := ⟨by rw [← hq_]; exact (by (with_reducible repeat (first | refine blk_drewN ?_ _ | refine blk_drew ?_ | refine blk_alloc ?_ _)); exact BK101.out)⟩; have n2_ : Aside0 (Below w.heap.size w wr) := ⟨by rw [← hq_]; exact (by repeat (first | (with_reducible first | exact HB.out | apply below_alloc | apply pw_below_drewN | apply below_drew1 | refine below_set ?_ GE101.out) | exact HB.out))⟩; clear HO_5 BK101 HB hq_; have HO_5 := n0_; have BK101 := n1_; have HB := n2_; clear n0_ n1_ n2_)); obtain ⟨hcz22_0, hcz22_1, hcz22_2, hcz22_3, hcz22_4, hcz22_5, hcz22_6, hcz22_7, hcz22_8, hcz22_9, hcz22_10, hcz22_11, hcz22_12⟩ := cl13 (W := wr) BK101.out; obtain ⟨hfz22_0, hfz22_1, hfz22_2, hfz22_3, hfz22_4, hfz22_5, hfz22_6, hfz22_7, hfz22_8, hfz22_9, hfz22_10, hfz22_11, hfz22_12⟩ := fr13 BK101.out))
     refine bodyPost_ret (results_ctt rfl _ _ gb101 65 #[.int .i64 0, .int .i64 0, .int .i64 0, .int .i64 0, .int .i64 0, .int .i64 0, .int .i64 0, .int .i64 0, .bool false, .string (⟨#[]⟩ : ByteArray), .bool false, .string (⟨#[]⟩ : ByteArray), .int .i64 0] (0, 0) _ rfl (by (with_reducible repeat (first | refine blk_drewN ?_ _ | refine blk_drew ?_ | refine blk_alloc ?_ _)); refine blk_put (cs := #[.int .i64 0, .int .i64 0, .int .i64 0, .int .i64 0, .int .i64 0, .int .i64 0, .int .i64 0, .int .i64 0, .bool false, .string (⟨#[]⟩ : ByteArray), .bool false, .string (⟨#[]⟩ : ByteArray), .int .i64 x102012_1]) ?_ 12 _ rfl; refine blk_put (cs := #[.int .i64 0, .int .i64 0, .int .i64 0, .int .i64 0, .int .i64 0, .int .i64 0, .int .i64 0, .int .i64 0, .bool false, .string (⟨#[]⟩ : ByteArray), .bool false, .string x102011_1, .int .i64 x102012_1]) ?_ 11 _ rfl; refine blk_put (cs := #[.int .i64 0, .int .i64 0, .int .i64 0, .int .i64 0, .int .i64 0, .int .i64 0, .int .i64 0, .int .i64 0, .bool false, .string (⟨#[]⟩ : ByteArray), .bool x102010_1, .string x102011_1, .int .i64 x102012_1]) ?_ 10 _ rfl; refine blk_put (cs := #[.int .i64 0, .int .i64 0, .int .i64 0, .int .i64 0, .int .i64 0, .int .i64 0, .int .i64 0, .int .i64 0, .bool false, .string x102009_1, .bool x102010_1, .string x102011_1, .int .i64 x102012_1]) ?_ 9 _ rfl; refine blk_put (cs := #[.int .i64 0, .int .i64 0, .int .i64 0, .int .i64 0, .int .i64 0, .int .i64 0, .int .i64 0, .int .i64 0, .bool x102008_1, .string x102009_1, .bool x102010_1, .string x102011_1, .int .i64 x102012_1]) ?_ 8 _ rfl; refine blk_put (cs := #[.int .i64 0, .int .i64 0, .int .i64 0, .int .i64 0, .int .i64 0, .int .i64 0, .int .i64 0, .int .i64 x102007_1, .bool x102008_1, .string x102009_1, .bool x102010_1, .string x102011_1, .int .i64 x102012_1]) ?_ 7 _ rfl; refine blk_put (cs := #[.int .i64 0, .int .i64 0, .int .i64 0, .int .i64 0, .int .i64 0, .int .i64 0, .int .i64 x102006_1, .int .i64 x102007_1, .bool x102008_1, .string x102009_1, .bool x102010_1, .string x102011_1, .int .i64 x102012_1]) ?_ 6 _ rfl; refine blk_put (cs := #[.int .i64 0, .int .i64 0, .int .i64 0, .int .i64 0, .int .i64 0, .int .i64 x102005_1, .int .i64 x102006_1, .int .i64 x102007_1, .bool x102008_1, .string x102009_1, .bool x102010_1, .string x102011_1, .int .i64 x102012_1]) ?_ 5 _ rfl; refine blk_put (cs := #[.int .i64 0, .int .i64 0, .int .i64 0, .int .i64 0, .int .i64 x102004_1, .int .i64 x102005_1, .int .i64 x102006_1, .int .i64 x102007_1, .bool x102008_1, .string x102009_1, .bool x102010_1, .string x102011_1, .int .i64 x102012_1]) ?_ 4 _ rfl; refine blk_put (cs := #[.int .i64 0, .int .i64 0, .int .i64 0, .int .i64 x102003_1, .int .i64 x102004_1, .int .i64 x102005_1, .int .i64 x102006_1, .int .i64 x102007_1, .bool x102008_1, .string x102009_1, .bool x102010_1, .string x102011_1, .int .i64 x102012_1]) ?_ 3 _ rfl; refine blk_put (cs := #[.int .i64 0, .int .i64 0, .int .i64 x102002_1, .int .i64 x102003_1, .int .i64 x102004_1, .int .i64 x102005_1, .int .i64 x102006_1, .int .i64 x102007_1, .bool x102008_1, .string x102009_1, .bool x102010_1, .string x102011_1, .int .i64 x102012_1]) ?_ 2 _ rfl; refine blk_put (cs := #[.int .i64 0, .int .i64 x102001_1, .int .i64 x102002_1, .int .i64 x102003_1, .int .i64 x102004_1, .int .i64 x102005_1, .int .i64 x102006_1, .int .i64 x102007_1, .bool x102008_1, .string x102009_1, .bool x102010_1, .string x102011_1, .int .i64 x102012_1]) ?_ 1 _ rfl; refine blk_put (cs := #[.int .i64 x102000_1, .int .i64 x102001_1, .int .i64 x102002_1, .int .i64 x102003_1, .int .i64 x102004_1, .int .i64 x102005_1, .int .i64 x102006_1, .int .i64 x102007_1, .bool x102008_1, .string x102009_1, .bool x102010_1, .string x102011_1, .int .i64 x102012_1]) ?_ 0 _ rfl; (with_reducible repeat (first | refine blk_drewN ?_ _ | refine blk_drew ?_ | refine blk_alloc ?_ _)); exact BK101.out) Try.underlying65 rfl (by kernel_rfl)) rfl ?_
     exact ⟨by first | rfl | (simp [errW_none, errW_some] <;> rfl) | (simp [*, errW_none, errW_some] <;> rfl), by repeat (first | (with_reducible first | exact HB.out | apply below_alloc | apply pw_below_drewN | apply below_drew1 | refine below_set ?_ GE101.out) | exact HB.out)⟩
   ·rw [if_neg c5] at H
    have c5b0 : decide ((x5_1.length : Int) < x6_1) = false := decide_eq_false c5
    clear c5
    by_cases c23 : 0 < (x5_1.length : Int)
    ·rw [if_pos c23] at H
     have c23b0 : decide (0 < (x5_1.length : Int)) = true := decide_eq_true c23
     have c23b1 : decide (0 < x5_1.length) = true := decide_eq_true (by omega)
     clear c23
     by_cases c24 : 1 < (x5_1.length : Int)
     ·rw [if_pos c24] at H
      have c24b0 : decide (1 < (x5_1.length : Int)) = true := decide_eq_true c24
      have c24b1 : decide (1 < x5_1.length) = true := decide_eq_true (by omega)
      clear c24
      by_cases c25 : 2 < (x5_1.length : Int)
      ·rw [if_pos c25] at H
       have c25b0 : decide (2 < (x5_1.length : Int)) = true := decide_eq_true c25
       have c25b1 : decide (2 < x5_1.length) = true := decide_eq_true (by omega)
       clear c25
       by_cases c26 : 3 < (x5_1.length : Int)
       ·rw [if_pos c26] at H
        have c26b0 : decide (3 < (x5_1.length : Int)) = true := decide_eq_true c26
        have c26b1 : decide (3 < x5_1.length) = true := decide_eq_true (by omega)
        clear c26
        by_cases c27 : 4 < (x5_1.length : Int)
        ·rw [if_pos c27] at H
         have c27b0 : decide (4 < (x5_1.length : Int)) = true := decide_eq_true c27
         have c27b1 : decide (4 < x5_1.length) = true := decide_eq_true (by omega)
         clear c27
         by_cases c28 : 5 < (x5_1.length : Int)
         ·rw [if_pos c28] at H
          have c28b0 : decide (5 < (x5_1.length : Int)) = true := decide_eq_true c28
          have c28b1 : decide (5 < x5_1.length) = true := decide_eq_true (by omega)
          clear c28
          by_cases c29 : x6_1 = 9
          ·rw [if_pos c29] at H
           have c29b0 : (x6_1 == 9) = true := beq_iff_eq.mpr c29
           have c29b1 : (x6_1 != 9) = false := bne_eq_false_iff_eq.mpr c29
           clear c29
           by_cases c30 : 6 < (x5_1.length : Int)
           ·rw [if_pos c30] at H
            have c30b0 : decide (6 < (x5_1.length : Int)) = true := decide_eq_true c30
            have c30b1 : decide (6 < x5_1.length) = true := decide_eq_true (by omega)
            clear c30
            by_cases c31 : 7 < (x5_1.length : Int)
            ·rw [if_pos c31] at H
             have c31b0 : decide (7 < (x5_1.length : Int)) = true := decide_eq_true c31
             have c31b1 : decide (7 < x5_1.length) = true := decide_eq_true (by omega)
             clear c31
             by_cases c32 : 8 < (x5_1.length : Int)
             ·rw [if_pos c32] at H
              have c32b0 : decide (8 < (x5_1.length : Int)) = true := decide_eq_true c32
              have c32b1 : decide (8 < x5_1.length) = true := decide_eq_true (by omega)
              clear c32
              replace H := Option.bind_eq_some_iff.mp H
              obtain ⟨⟨t123, t124, t125, t126⟩, A330, H⟩ := H
              replace H : ((seneschalref04_take.f t125).bind fun bt128 => (if t126 = true then (seneschalref04_Decode.j1 k1 bt128.2.2.1 (!bt128.2.2.2) (rd x5_1 0) (rd x5_1 1) (rd x5_1 2) (rd x5_1 3) (rd x5_1 4) (rd x5_1 5) (rd x5_1 6) (rd x5_1 7) false (⟨#[]⟩ : ByteArray) false (⟨#[]⟩ : ByteArray) (rd x5_1 8) t123 t124 bt128.1 bt128.2.1) else (seneschalref04_Decode.j1 k1 bt128.2.2.1 true (rd x5_1 0) (rd x5_1 1) (rd x5_1 2) (rd x5_1 3) (rd x5_1 4) (rd x5_1 5) (rd x5_1 6) (rd x5_1 7) false (⟨#[]⟩ : ByteArray) false (⟨#[]⟩ : ByteArray) (rd x5_1 8) t123 t124 bt128.1 bt128.2.1))) = some (r1, r2, r3, r4, r5, r6, r7, r8, r9, r10, r11, r12, r13, r14, r15) := H
              have A33 := Aside0.mk A330
              clear A330
              replace H := Option.bind_eq_some_iff.mp H
              obtain ⟨⟨t128, t129, t130, t131⟩, A340, H⟩ := H
              replace H : (if t126 = true then (seneschalref04_Decode.j1 k1 t130 (!t131) (rd x5_1 0) (rd x5_1 1) (rd x5_1 2) (rd x5_1 3) (rd x5_1 4) (rd x5_1 5) (rd x5_1 6) (rd x5_1 7) false (⟨#[]⟩ : ByteArray) false (⟨#[]⟩ : ByteArray) (rd x5_1 8) t123 t124 t128 t129) else (seneschalref04_Decode.j1 k1 t130 true (rd x5_1 0) (rd x5_1 1) (rd x5_1 2) (rd x5_1 3) (rd x5_1 4) (rd x5_1 5) (rd x5_1 6) (rd x5_1 7) false (⟨#[]⟩ : ByteArray) false (⟨#[]⟩ : ByteArray) (rd x5_1 8) t123 t124 t128 t129)) = some (r1, r2, r3, r4, r5, r6, r7, r8, r9, r10, r11, r12, r13, r14, r15) := H
              have A34 := Aside0.mk A340
              clear A340
              have HC35 := Aside0.mk H
              clear H
              obtain ⟨Ao36, co36, eo36⟩ := Kd.R_slice HO_5.out
              subst eo36
              try go_wp2
              have n0_ := Aside0.mk (Kd.R_drew HO_5.out)
              have n1_ := Aside0.mk (blk_drew BK101.out)
              have n2_ := Aside0.mk (below_drew1 HB.out)
              clear HO_5
              clear BK101
              clear HB
              have HO_5 := n0_
              have BK101 := n1_
              have HB := n2_
              clear n0_ n1_ n2_
              have p113 : 0 ≤ (0 : Int) := (by omega)
              have q113 : 0 < (x5_1.length : Int) := of_decide_eq_true (by first | (with_reducible assumption) | assumption)
              obtain ⟨ad113, e113, hx113_0⟩ := Kd.at_int (Kd.R_reads' HO_5.out).2.2 0 p113 q113
              cases e113
              have qi113 : (0 < x5_1.length) = True := eq_true (by omega)
              (try rw [show ((0 : Int)).toNat = 0 from rfl] at hx113_0)
              (try rw [Addr.add_zero'] at hx113_0)
              replace p113 := eq_true p113
              replace q113 := eq_true q113
              have p114 : 0 ≤ (1 : Int) := (by omega)
              have q114 : 1 < (x5_1.length : Int) := of_decide_eq_true (by first | (with_reducible assumption) | assumption)
              obtain ⟨ad114, e114, hx114_0⟩ := Kd.at_int (Kd.R_reads' HO_5.out).2.2 1 p114 q114
              obtain rfl : ad113 = ad114 := (by injection e114)
              (try simp only [show (1 : Int).toNat = 1 from rfl, Nat.reduceMul, Nat.reduceEqDiff, Go.Addr.add, ↓reduceIte] at hx114_0)
              have qi114 : (1 < x5_1.length) = True := eq_true (by omega)
              (try rw [show ((1 : Int)).toNat = 1 from rfl] at hx114_0)
              replace p114 := eq_true p114
              replace q114 := eq_true q114
              have p115 : 0 ≤ (2 : Int) := (by omega)
              have q115 : 2 < (x5_1.length : Int) := of_decide_eq_true (by first | (with_reducible assumption) | assumption)
              obtain ⟨ad115, e115, hx115_0⟩ := Kd.at_int (Kd.R_reads' HO_5.out).2.2 2 p115 q115
              obtain rfl : ad113 = ad115 := (by injection e115)
              (try simp only [show (2 : Int).toNat = 2 from rfl, Nat.reduceMul, Nat.reduceEqDiff, Go.Addr.add, ↓reduceIte] at hx115_0)
              have qi115 : (2 < x5_1.length) = True := eq_true (by omega)
              (try rw [show ((2 : Int)).toNat = 2 from rfl] at hx115_0)
              replace p115 := eq_true p115
              replace q115 := eq_true q115
              have p116 : 0 ≤ (3 : Int) := (by omega)
              have q116 : 3 < (x5_1.length : Int) := of_decide_eq_true (by first | (with_reducible assumption) | assumption)
              obtain ⟨ad116, e116, hx116_0⟩ := Kd.at_int (Kd.R_reads' HO_5.out).2.2 3 p116 q116
              obtain rfl : ad113 = ad116 := (by injection e116)
              (try simp only [show (3 : Int).toNat = 3 from rfl, Nat.reduceMul, Nat.reduceEqDiff, Go.Addr.add, ↓reduceIte] at hx116_0)
              have qi116 : (3 < x5_1.length) = True := eq_true (by omega)
              (try rw [show ((3 : Int)).toNat = 3 from rfl] at hx116_0)
              replace p116 := eq_true p116
              replace q116 := eq_true q116
              have p117 : 0 ≤ (4 : Int) := (by omega)
              have q117 : 4 < (x5_1.length : Int) := of_decide_eq_true (by first | (with_reducible assumption) | assumption)
              obtain ⟨ad117, e117, hx117_0⟩ := Kd.at_int (Kd.R_reads' HO_5.out).2.2 4 p117 q117
              obtain rfl : ad113 = ad117 := (by injection e117)
              (try simp only [show (4 : Int).toNat = 4 from rfl, Nat.reduceMul, Nat.reduceEqDiff, Go.Addr.add, ↓reduceIte] at hx117_0)
              have qi117 : (4 < x5_1.length) = True := eq_true (by omega)
              (try rw [show ((4 : Int)).toNat = 4 from rfl] at hx117_0)
              replace p117 := eq_true p117
              replace q117 := eq_true q117
              have p118 : 0 ≤ (5 : Int) := (by omega)
              have q118 : 5 < (x5_1.length : Int) := of_decide_eq_true (by first | (with_reducible assumption) | assumption)
              obtain ⟨ad118, e118, hx118_0⟩ := Kd.at_int (Kd.R_reads' HO_5.out).2.2 5 p118 q118
              obtain rfl : ad113 = ad118 := (by injection e118)
              (try simp only [show (5 : Int).toNat = 5 from rfl, Nat.reduceMul, Nat.reduceEqDiff, Go.Addr.add, ↓reduceIte] at hx118_0)
              have qi118 : (5 < x5_1.length) = True := eq_true (by omega)
              (try rw [show ((5 : Int)).toNat = 5 from rfl] at hx118_0)
              replace p118 := eq_true p118
              replace q118 := eq_true q118
              refine start_ (n := 22) (S := fun w' => w'.cell? ad113 = some (.int .i64 (rd x5_1 0)) ∧ w'.cell? ⟨ad113.block, ad113.off + 1, none⟩ = some (.int .i64 (rd x5_1 1)) ∧ w'.cell? ⟨ad113.block, ad113.off + 2, none⟩ = some (.int .i64 (rd x5_1 2)) ∧ w'.cell? ⟨ad113.block, ad113.off + 3, none⟩ = some (.int .i64 (rd x5_1 3)) ∧ w'.cell? ⟨ad113.block, ad113.off + 4, none⟩ = some (.int .i64 (rd x5_1 4)) ∧ w'.cell? ⟨ad113.block, ad113.off + 5, none⟩ = some (.int .i64 (rd x5_1 5))) (ds := []) #[false, false, false, false, false, false, false, false, false, false, false, false, false, false, false, false, false, false, false, false, false, false] (by kernel_rfl) rfl rfl ⟨hx113_0, hx114_0, hx115_0, hx116_0, hx117_0, hx118_0⟩ (fun hHeld => ?_); refine with_tabW seneschalref04_Decode.tab11 seneschalref04_Decode.bits11 (fun HT_ HW_ => ?_)
              generalize wr.drew = w37 at HO_5 BK101 HB hx113_0 hx114_0 hx115_0 hx116_0 hx117_0 hx118_0 hHeld ⊢
              refine pure_ (i := 0) (N := some 46) (v := ?_) (a' := ?_) #[true, false, false, false, false, false, false, false, false, false, false, false, false, false, false, false, false, false, false, false, false, false] rfl rfl (any_of HT_.out (by kernel_rfl)) (fun _ _ _ h => h) (Or.inl ⟨by rfl, ?_⟩) ?_ ?_
              rotate_left
              ·intro w'
               go_simp
               with_reducible rfl
              rotate_left
              ·simp only [Act.put, List.setIfInBounds_toArray, List.set_cons_zero, List.set_cons_succ, i64_w, i32_w]
               rfl
              refine pure_ (i := 1) (N := some 47) (v := ?_) (a' := ?_) #[true, true, false, false, false, false, false, false, false, false, false, false, false, false, false, false, false, false, false, false, false, false] rfl rfl (any_of HT_.out (by kernel_rfl)) (fun _ _ _ h => h) (Or.inl ⟨by rfl, ?_⟩) ?_ ?_
              rotate_left
              ·intro w'
               go_simp
               with_reducible rfl
              rotate_left
              ·simp only [Act.put, List.setIfInBounds_toArray, List.set_cons_zero, List.set_cons_succ, i64_w, i32_w]
               rfl
              refine pure_ (i := 3) (N := some 49) (v := ?_) (a' := ?_) #[true, true, false, true, false, false, false, false, false, false, false, false, false, false, false, false, false, false, false, false, false, false] rfl rfl (any_of HT_.out (by kernel_rfl)) (fun _ _ _ h => h) (Or.inl ⟨by rfl, ?_⟩) ?_ ?_
              rotate_left
              ·intro w'
               go_simp
               with_reducible rfl
              rotate_left
              ·simp only [Act.put, List.setIfInBounds_toArray, List.set_cons_zero, List.set_cons_succ, i64_w, i32_w]
               rfl
              refine pure_ (i := 4) (N := some 50) (v := ?_) (a' := ?_) #[true, true, false, true, true, false, false, false, false, false, false, false, false, false, false, false, false, false, false, false, false, false] rfl rfl (any_of HT_.out (by kernel_rfl)) (fun _ _ _ h => h) (Or.inl ⟨by rfl, ?_⟩) ?_ ?_
              rotate_left
              ·intro w'
               go_simp
               with_reducible rfl
              rotate_left
              ·simp only [Act.put, List.setIfInBounds_toArray, List.set_cons_zero, List.set_cons_succ, i64_w, i32_w]
               rfl
              refine pure_ (i := 6) (N := some 52) (v := ?_) (a' := ?_) #[true, true, false, true, true, false, true, false, false, false, false, false, false, false, false, false, false, false, false, false, false, false] rfl rfl (any_of HT_.out (by kernel_rfl)) (fun _ _ _ h => h) (Or.inl ⟨by rfl, ?_⟩) ?_ ?_
              rotate_left
              ·intro w'
               go_simp
               with_reducible rfl
              rotate_left
              ·simp only [Act.put, List.setIfInBounds_toArray, List.set_cons_zero, List.set_cons_succ, i64_w, i32_w]
               rfl
              refine pure_ (i := 7) (N := some 53) (v := ?_) (a' := ?_) #[true, true, false, true, true, false, true, true, false, false, false, false, false, false, false, false, false, false, false, false, false, false] rfl rfl (any_of HT_.out (by kernel_rfl)) (fun _ _ _ h => h) (Or.inl ⟨by rfl, ?_⟩) ?_ ?_
              rotate_left
              ·intro w'
               go_simp
               with_reducible rfl
              rotate_left
              ·simp only [Act.put, List.setIfInBounds_toArray, List.set_cons_zero, List.set_cons_succ, i64_w, i32_w]
               rfl
              refine pure_ (i := 9) (N := some 55) (v := ?_) (a' := ?_) #[true, true, false, true, true, false, true, true, false, true, false, false, false, false, false, false, false, false, false, false, false, false] rfl rfl (any_of HT_.out (by kernel_rfl)) (fun _ _ _ h => h) (Or.inl ⟨by rfl, ?_⟩) ?_ ?_
              rotate_left
              ·intro w'
               go_simp
               with_reducible rfl
              rotate_left
              ·simp only [Act.put, List.setIfInBounds_toArray, List.set_cons_zero, List.set_cons_succ, i64_w, i32_w]
               rfl
              refine pure_ (i := 10) (N := some 56) (v := ?_) (a' := ?_) #[true, true, false, true, true, false, true, true, false, true, true, false, false, false, false, false, false, false, false, false, false, false] rfl rfl (any_of HT_.out (by kernel_rfl)) (fun _ _ _ h => h) (Or.inl ⟨by rfl, ?_⟩) ?_ ?_
              rotate_left
              ·intro w'
               go_simp
               with_reducible rfl
              rotate_left
              ·simp only [Act.put, List.setIfInBounds_toArray, List.set_cons_zero, List.set_cons_succ, i64_w, i32_w]
               rfl
              refine pure_ (i := 13) (N := some 59) (v := ?_) (a' := ?_) #[true, true, false, true, true, false, true, true, false, true, true, false, false, true, false, false, false, false, false, false, false, false] rfl rfl (any_of HT_.out (by kernel_rfl)) (fun _ _ _ h => h) (Or.inl ⟨by rfl, ?_⟩) ?_ ?_
              rotate_left
              ·intro w'
               go_simp
               with_reducible rfl
              rotate_left
              ·simp only [Act.put, List.setIfInBounds_toArray, List.set_cons_zero, List.set_cons_succ, i64_w, i32_w]
               rfl
              refine pure_ (i := 14) (N := some 60) (v := ?_) (a' := ?_) #[true, true, false, true, true, false, true, true, false, true, true, false, false, true, true, false, false, false, false, false, false, false] rfl rfl (any_of HT_.out (by kernel_rfl)) (fun _ _ _ h => h) (Or.inl ⟨by rfl, ?_⟩) ?_ ?_
              rotate_left
              ·intro w'
               go_simp
               with_reducible rfl
              rotate_left
              ·simp only [Act.put, List.setIfInBounds_toArray, List.set_cons_zero, List.set_cons_succ, i64_w, i32_w]
               rfl
              refine pure_ (i := 16) (N := some 62) (v := ?_) (a' := ?_) #[true, true, false, true, true, false, true, true, false, true, true, false, false, true, true, false, true, false, false, false, false, false] rfl rfl (any_of HT_.out (by kernel_rfl)) (fun _ _ _ h => h) (Or.inl ⟨by rfl, ?_⟩) ?_ ?_
              rotate_left
              ·intro w'
               go_simp
               with_reducible rfl
              rotate_left
              ·simp only [Act.put, List.setIfInBounds_toArray, List.set_cons_zero, List.set_cons_succ, i64_w, i32_w]
               rfl
              refine pure_ (i := 17) (N := some 63) (v := ?_) (a' := ?_) #[true, true, false, true, true, false, true, true, false, true, true, false, false, true, true, false, true, true, false, false, false, false] rfl rfl (any_of HT_.out (by kernel_rfl)) (fun _ _ _ h => h) (Or.inl ⟨by rfl, ?_⟩) ?_ ?_
              rotate_left
              ·intro w'
               go_simp
               with_reducible rfl
              rotate_left
              ·simp only [Act.put, List.setIfInBounds_toArray, List.set_cons_zero, List.set_cons_succ, i64_w, i32_w]
               rfl
              refine take_ (i := 2) (N := some 48) (v := ?_) (a' := ?_) #[true, true, true, true, true, false, true, true, false, true, true, false, false, true, true, false, true, true, false, false, false, false] rfl rfl (take_ofW HT_.out HW_.out (by kernel_rfl)) (fun _ _ _ h => h) (Or.inl ⟨by rfl, ?_⟩) hHeld ?_ ?_
              rotate_left
              ·rintro w' ⟨s0, s1, s2, s3, s4, s5⟩
               go_simp
               with_reducible rfl
              rotate_left
              ·simp only [Act.put, List.setIfInBounds_toArray, List.set_cons_zero, List.set_cons_succ, i64_w, i32_w]
               rfl
              refine take_ (i := 5) (N := some 51) (v := ?_) (a' := ?_) #[true, true, true, true, true, true, true, true, false, true, true, false, false, true, true, false, true, true, false, false, false, false] rfl rfl (take_ofW HT_.out HW_.out (by kernel_rfl)) (fun _ _ _ h => h) (Or.inl ⟨by rfl, ?_⟩) hHeld ?_ ?_
              rotate_left
              ·rintro w' ⟨s0, s1, s2, s3, s4, s5⟩
               go_simp
               with_reducible rfl
              rotate_left
              ·simp only [Act.put, List.setIfInBounds_toArray, List.set_cons_zero, List.set_cons_succ, i64_w, i32_w]
               rfl
              refine take_ (i := 8) (N := some 54) (v := ?_) (a' := ?_) #[true, true, true, true, true, true, true, true, true, true, true, false, false, true, true, false, true, true, false, false, false, false] rfl rfl (take_ofW HT_.out HW_.out (by kernel_rfl)) (fun _ _ _ h => h) (Or.inl ⟨by rfl, ?_⟩) hHeld ?_ ?_
              rotate_left
              ·rintro w' ⟨s0, s1, s2, s3, s4, s5⟩
               go_simp
               with_reducible rfl
              rotate_left
              ·simp only [Act.put, List.setIfInBounds_toArray, List.set_cons_zero, List.set_cons_succ, i64_w, i32_w]
               rfl
              refine take_ (i := 11) (N := some 57) (v := ?_) (a' := ?_) #[true, true, true, true, true, true, true, true, true, true, true, true, false, true, true, false, true, true, false, false, false, false] rfl rfl (take_ofW HT_.out HW_.out (by kernel_rfl)) (fun _ _ _ h => h) (Or.inl ⟨by rfl, ?_⟩) hHeld ?_ ?_
              rotate_left
              ·rintro w' ⟨s0, s1, s2, s3, s4, s5⟩
               go_simp
               with_reducible rfl
              rotate_left
              ·simp only [Act.put, List.setIfInBounds_toArray, List.set_cons_zero, List.set_cons_succ, i64_w, i32_w]
               rfl
              refine pure_ (i := 12) (N := some 58) (v := ?_) (a' := ?_) #[true, true, true, true, true, true, true, true, true, true, true, true, true, true, true, false, true, true, false, false, false, false] rfl rfl (any_of HT_.out (by kernel_rfl)) (fun _ _ _ h => h) (Or.inl ⟨by rfl, ?_⟩) ?_ ?_
              rotate_left
              ·intro w'
               go_simp
               with_reducible rfl
              rotate_left
              ·simp only [Act.put, List.setIfInBounds_toArray, List.set_cons_zero, List.set_cons_succ, i64_w, i32_w]
               rfl
              refine take_ (i := 15) (N := some 61) (v := ?_) (a' := ?_) #[true, true, true, true, true, true, true, true, true, true, true, true, true, true, true, true, true, true, false, false, false, false] rfl rfl (take_ofW HT_.out HW_.out (by kernel_rfl)) (fun _ _ _ h => h) (Or.inl ⟨by rfl, ?_⟩) hHeld ?_ ?_
              rotate_left
              ·rintro w' ⟨s0, s1, s2, s3, s4, s5⟩
               go_simp
               with_reducible rfl
              rotate_left
              ·simp only [Act.put, List.setIfInBounds_toArray, List.set_cons_zero, List.set_cons_succ, i64_w, i32_w]
               rfl
              refine take_ (i := 18) (N := some 64) (v := ?_) (a' := ?_) #[true, true, true, true, true, true, true, true, true, true, true, true, true, true, true, true, true, true, true, false, false, false] rfl rfl (take_ofW HT_.out HW_.out (by kernel_rfl)) (fun _ _ _ h => h) (Or.inl ⟨by rfl, ?_⟩) hHeld ?_ ?_
              rotate_left
              ·rintro w' ⟨s0, s1, s2, s3, s4, s5⟩
               go_simp
               with_reducible rfl
              rotate_left
              ·simp only [Act.put, List.setIfInBounds_toArray, List.set_cons_zero, List.set_cons_succ, i64_w, i32_w]
               rfl
              refine pure_ (i := 19) (N := some 65) (v := ?_) (a' := ?_) #[true, true, true, true, true, true, true, true, true, true, true, true, true, true, true, true, true, true, true, true, false, false] rfl rfl (any_of HT_.out (by kernel_rfl)) (fun _ _ _ h => h) (Or.inl ⟨by rfl, ?_⟩) ?_ ?_
              rotate_left
              ·intro w'
               go_simp
               with_reducible rfl
              rotate_left
              ·simp only [Act.put, List.setIfInBounds_toArray, List.set_cons_zero, List.set_cons_succ, i64_w, i32_w]
               rfl
              refine one_ (i := 20) (N := some 10) #[true, true, true, true, true, true, true, true, true, true, true, true, true, true, true, true, true, true, true, true, true, false] rfl rfl (one_of HT_.out (by kernel_rfl)) (by decide) (fun K hK => ?_)
              refine box_step ?hg (N := 10) ?hd (cs := #[.int .i64 0, .int .i64 0, .int .i64 0, .int .i64 0, .int .i64 0, .int .i64 0, .int .i64 0, .int .i64 0, .bool false, .string (⟨#[]⟩ : ByteArray), .bool false, .string (⟨#[]⟩ : ByteArray), .int .i64 0]) (t := 65) ?hr ?_; (case hd => rfl); (case hg => rfl); (case hr => first | (go_simp; done) | (go_simp; rfl))
              intro gb119 hg w38 hbox hb
              have HS0_ := (hb.cell (World.block_lt_of_cell? _ _ (hHeld.1))).trans (hHeld.1)
              have HS1_ := (hb.cell (World.block_lt_of_cell? _ _ (hHeld.2.1))).trans (hHeld.2.1)
              have HS2_ := (hb.cell (World.block_lt_of_cell? _ _ (hHeld.2.2.1))).trans (hHeld.2.2.1)
              have HS3_ := (hb.cell (World.block_lt_of_cell? _ _ (hHeld.2.2.2.1))).trans (hHeld.2.2.2.1)
              have HS4_ := (hb.cell (World.block_lt_of_cell? _ _ (hHeld.2.2.2.2.1))).trans (hHeld.2.2.2.2.1)
              have HS5_ := (hb.cell (World.block_lt_of_cell? _ _ (hHeld.2.2.2.2.2))).trans (hHeld.2.2.2.2.2)
              have n0_ := Aside0.mk (Kd.R_below (by (with_reducible repeat (first | apply Kd.R_alloc | apply Kd.R_drewN | apply Kd.R_drew)); exact HO_5.out) hb)
              have n1_ := Aside0.mk (blk_below (g := gb101) (o := .cells #[.int .i64 x102000_1, .int .i64 x102001_1, .int .i64 x102002_1, .int .i64 x102003_1, .int .i64 x102004_1, .int .i64 x102005_1, .int .i64 x102006_1, .int .i64 x102007_1, .bool x102008_1, .string x102009_1, .bool x102010_1, .string x102011_1, .int .i64 x102012_1] 65 (0, 0)) (by (with_reducible repeat (first | refine blk_drewN ?_ _ | refine blk_drew ?_ | refine blk_alloc ?_ _)); exact BK101.out) hb)
              have n2_ := Aside0.mk (below_step (by repeat (first | (with_reducible first | exact HB.out | apply below_alloc | apply pw_below_drewN | apply below_drew1 | refine below_set ?_ GE101.out) | exact HB.out)) hb)
              have n3_ := Aside0.mk (hbox)
              have n4_ := Aside0.mk ((by rw [hg]; exact (below_size (by repeat (first | (with_reducible first | exact HB.out | apply below_alloc | apply pw_below_drewN | apply below_drew1 | refine below_set ?_ GE101.out) | exact HB.out))) : w.heap.size ≤ gb119))
              have n5_ := Aside0.mk ((by rw [hg]; exact (below_size (by repeat (first | (with_reducible first | exact HB.out | apply below_alloc | apply pw_below_drewN | apply below_drew1 | refine below_set ?_ GE101.out) | exact HB.out))) : w.heap.size ≤ gb119))
              have n6_ := Aside0.mk ((by rw [hg]; exact Nat.ne_of_lt (blk_lt (g := gb101) (o := .cells #[.int .i64 x102000_1, .int .i64 x102001_1, .int .i64 x102002_1, .int .i64 x102003_1, .int .i64 x102004_1, .int .i64 x102005_1, .int .i64 x102006_1, .int .i64 x102007_1, .bool x102008_1, .string x102009_1, .bool x102010_1, .string x102011_1, .int .i64 x102012_1] 65 (0, 0)) (by (with_reducible repeat (first | refine blk_drewN ?_ _ | refine blk_drew ?_ | refine blk_alloc ?_ _)); exact BK101.out)) : gb101 ≠ gb119))
              have n7_ := Aside0.mk ((by rw [hg]; exact Nat.ne_of_gt (blk_lt (g := gb101) (o := .cells #[.int .i64 x102000_1, .int .i64 x102001_1, .int .i64 x102002_1, .int .i64 x102003_1, .int .i64 x102004_1, .int .i64 x102005_1, .int .i64 x102006_1, .int .i64 x102007_1, .bool x102008_1, .string x102009_1, .bool x102010_1, .string x102011_1, .int .i64 x102012_1] 65 (0, 0)) (by (with_reducible repeat (first | refine blk_drewN ?_ _ | refine blk_drew ?_ | refine blk_alloc ?_ _)); exact BK101.out)) : gb119 ≠ gb101))
              clear HO_5
              clear BK101
              clear HB
              have HO_5 := n0_
              have BK101 := n1_
              have HB := n2_
              have BK119 := n3_
              have GW119 := n4_
              have GE119 := n5_
              have NB101_119 := n6_
              have NB119_101 := n7_
              clear n0_ n1_ n2_ n3_ n4_ n5_ n6_ n7_
              clear hb hbox hg
              refine hK.out _ _ ⟨HS0_, HS1_, HS2_, HS3_, HS4_, HS5_⟩ (fun hHeld => ?_)
              clear hK K
              refine norm_ (a' := ?_) ?_ ?_
              rotate_left
              ·show Act.put _ (some 10) _ = _
               simp only [Act.put, List.setIfInBounds_toArray, List.set_cons_zero, List.set_cons_succ, i64_w, i32_w]
               rfl
              refine one_ (i := 21) (N := none) #[true, true, true, true, true, true, true, true, true, true, true, true, true, true, true, true, true, true, true, true, true, true] rfl rfl (one_of HT_.out (by kernel_rfl)) (by decide) (fun K hK => ?_)
              have hs39 : w38.cell? ⟨gb119, 0, none⟩ = some (.int .i64 0) := (blk_cell BK119.out 0).trans rfl
              have hfs39 := blk_frozen BK119.out 0
              have hns39_0 := NB101_119.out
              have hms39_0 := NB119_101.out
              have hs40 : w38.cell? ⟨gb119, 1, none⟩ = some (.int .i64 0) := (blk_cell BK119.out 1).trans rfl
              have hfs40 := blk_frozen BK119.out 1
              have hns40_0 := NB101_119.out
              have hms40_0 := NB119_101.out
              have hs41 : w38.cell? ⟨gb119, 2, none⟩ = some (.int .i64 0) := (blk_cell BK119.out 2).trans rfl
              have hfs41 := blk_frozen BK119.out 2
              have hns41_0 := NB101_119.out
              have hms41_0 := NB119_101.out
              have hs42 : w38.cell? ⟨gb119, 3, none⟩ = some (.int .i64 0) := (blk_cell BK119.out 3).trans rfl
              have hfs42 := blk_frozen BK119.out 3
              have hns42_0 := NB101_119.out
              have hms42_0 := NB119_101.out
              have hs43 : w38.cell? ⟨gb119, 4, none⟩ = some (.int .i64 0) := (blk_cell BK119.out 4).trans rfl
              have hfs43 := blk_frozen BK119.out 4
              have hns43_0 := NB101_119.out
              have hms43_0 := NB119_101.out
              have hs44 : w38.cell? ⟨gb119, 5, none⟩ = some (.int .i64 0) := (blk_cell BK119.out 5).trans rfl
              have hfs44 := blk_frozen BK119.out 5
              have hns44_0 := NB101_119.out
              have hms44_0 := NB119_101.out
              have hs45 : w38.cell? ⟨gb119, 6, none⟩ = some (.int .i64 0) := (blk_cell BK119.out 6).trans rfl
              have hfs45 := blk_frozen BK119.out 6
              have hns45_0 := NB101_119.out
              have hms45_0 := NB119_101.out
              have hs46 : w38.cell? ⟨gb119, 7, none⟩ = some (.int .i64 0) := (blk_cell BK119.out 7).trans rfl
              have hfs46 := blk_frozen BK119.out 7
              have hns46_0 := NB101_119.out
              have hms46_0 := NB119_101.out
              have hs47 : w38.cell? ⟨gb119, 8, none⟩ = some (.bool false) := (blk_cell BK119.out 8).trans rfl
              have hfs47 := blk_frozen BK119.out 8
              have hns47_0 := NB101_119.out
              have hms47_0 := NB119_101.out
              have hs48 : w38.cell? ⟨gb119, 9, none⟩ = some (.string (⟨#[]⟩ : ByteArray)) := (blk_cell BK119.out 9).trans rfl
              have hfs48 := blk_frozen BK119.out 9
              have hns48_0 := NB101_119.out
              have hms48_0 := NB119_101.out
              have hs49 : w38.cell? ⟨gb119, 10, none⟩ = some (.bool false) := (blk_cell BK119.out 10).trans rfl
              have hfs49 := blk_frozen BK119.out 10
              have hns49_0 := NB101_119.out
              have hms49_0 := NB119_101.out
              have hs50 : w38.cell? ⟨gb119, 11, none⟩ = some (.string (⟨#[]⟩ : ByteArray)) := (blk_cell BK119.out 11).trans rfl
              have hfs50 := blk_frozen BK119.out 11
              have hns50_0 := NB101_119.out
              have hms50_0 := NB119_101.out
              have hs51 : w38.cell? ⟨gb119, 12, none⟩ = some (.int .i64 0) := (blk_cell BK119.out 12).trans rfl
              have hfs51 := blk_frozen BK119.out 12
              have hns51_0 := NB101_119.out
              have hms51_0 := NB119_101.out
              refine skip_ (w1 := ?_) (by rfl) rfl ?_ ?_
              rotate_left
              ·go_simp
               rfl
              have hnb_ : ad113.block ≠ gb119 := Kd.own_blk (Kd.R_ne HO_5.out BK119.out (by decide))
              refine hK.out _ _ ⟨far13 hHeld.1 hnb_, far13 hHeld.2.1 hnb_, far13 hHeld.2.2.1 hnb_, far13 hHeld.2.2.2.1 hnb_, far13 hHeld.2.2.2.2.1 hnb_, far13 hHeld.2.2.2.2.2 hnb_⟩ (fun hHeld => ?_)
              clear hK K
              refine done_ (done_of HT_.out (by kernel_rfl)) ?_
              have p120 : 0 ≤ (6 : Int) := (by omega)
              have q120 : 6 < (x5_1.length : Int) := of_decide_eq_true (by first | (with_reducible assumption) | assumption)
              obtain ⟨ad120, e120, hx120_0⟩ := Kd.at_int (Kd.R_reads' HO_5.out).2.2 6 p120 q120
              obtain rfl : ad113 = ad120 := (by injection e120)
              (try simp only [show (6 : Int).toNat = 6 from rfl, Nat.reduceMul, Nat.reduceEqDiff, Go.Addr.add, ↓reduceIte] at hx120_0)
              have qi120 : (6 < x5_1.length) = True := eq_true (by omega)
              (try rw [show ((6 : Int)).toNat = 6 from rfl] at hx120_0)
              have hn120_0 : ad113.block ≠ gb119 := Kd.own_blk (Kd.R_ne HO_5.out BK119.out (by decide))
              have hn120_1 : ad113.block ≠ gb119 := Kd.own_blk (Kd.R_ne HO_5.out BK119.out (by decide))
              have hn120_2 : ad113.block ≠ gb119 := Kd.own_blk (Kd.R_ne HO_5.out BK119.out (by decide))
              have hn120_3 : ad113.block ≠ gb119 := Kd.own_blk (Kd.R_ne HO_5.out BK119.out (by decide))
              have hn120_4 : ad113.block ≠ gb119 := Kd.own_blk (Kd.R_ne HO_5.out BK119.out (by decide))
              have hn120_5 : ad113.block ≠ gb119 := Kd.own_blk (Kd.R_ne HO_5.out BK119.out (by decide))
              have hn120_6 : ad113.block ≠ gb119 := Kd.own_blk (Kd.R_ne HO_5.out BK119.out (by decide))
              have hn120_7 : ad113.block ≠ gb119 := Kd.own_blk (Kd.R_ne HO_5.out BK119.out (by decide))
              have hn120_8 : ad113.block ≠ gb119 := Kd.own_blk (Kd.R_ne HO_5.out BK119.out (by decide))
              have hn120_9 : ad113.block ≠ gb119 := Kd.own_blk (Kd.R_ne HO_5.out BK119.out (by decide))
              have hn120_10 : ad113.block ≠ gb119 := Kd.own_blk (Kd.R_ne HO_5.out BK119.out (by decide))
              have hn120_11 : ad113.block ≠ gb119 := Kd.own_blk (Kd.R_ne HO_5.out BK119.out (by decide))
              have hn120_12 : ad113.block ≠ gb119 := Kd.own_blk (Kd.R_ne HO_5.out BK119.out (by decide))
              replace hx120_0 := (cell_far (p := ⟨gb119, 0, none⟩) (by first | (rw [add_block]; exact hn120_0) | (show (Addr.add _ _).block ≠ _; rw [add_block]; exact hn120_0) | exact hn120_0) (.int .i64 (rd x5_1 0))).trans hx120_0
              replace hx120_0 := (cell_far (p := ⟨gb119, 1, none⟩) (by first | (rw [add_block]; exact hn120_1) | (show (Addr.add _ _).block ≠ _; rw [add_block]; exact hn120_1) | exact hn120_1) (.int .i64 (rd x5_1 1))).trans hx120_0
              replace hx120_0 := (cell_far (p := ⟨gb119, 2, none⟩) (by first | (rw [add_block]; exact hn120_2) | (show (Addr.add _ _).block ≠ _; rw [add_block]; exact hn120_2) | exact hn120_2) (.int .i64 (rd x5_1 2))).trans hx120_0
              replace hx120_0 := (cell_far (p := ⟨gb119, 3, none⟩) (by first | (rw [add_block]; exact hn120_3) | (show (Addr.add _ _).block ≠ _; rw [add_block]; exact hn120_3) | exact hn120_3) (.int .i64 (rd x5_1 3))).trans hx120_0
              replace hx120_0 := (cell_far (p := ⟨gb119, 4, none⟩) (by first | (rw [add_block]; exact hn120_4) | (show (Addr.add _ _).block ≠ _; rw [add_block]; exact hn120_4) | exact hn120_4) (.int .i64 (rd x5_1 4))).trans hx120_0
              replace hx120_0 := (cell_far (p := ⟨gb119, 5, none⟩) (by first | (rw [add_block]; exact hn120_5) | (show (Addr.add _ _).block ≠ _; rw [add_block]; exact hn120_5) | exact hn120_5) (.int .i64 (rd x5_1 5))).trans hx120_0
              replace hx120_0 := (cell_far (p := ⟨gb119, 6, none⟩) (by first | (rw [add_block]; exact hn120_6) | (show (Addr.add _ _).block ≠ _; rw [add_block]; exact hn120_6) | exact hn120_6) (.int .i64 0)).trans hx120_0
              replace hx120_0 := (cell_far (p := ⟨gb119, 7, none⟩) (by first | (rw [add_block]; exact hn120_7) | (show (Addr.add _ _).block ≠ _; rw [add_block]; exact hn120_7) | exact hn120_7) (.int .i64 0)).trans hx120_0
              replace hx120_0 := (cell_far (p := ⟨gb119, 8, none⟩) (by first | (rw [add_block]; exact hn120_8) | (show (Addr.add _ _).block ≠ _; rw [add_block]; exact hn120_8) | exact hn120_8) (.bool false)).trans hx120_0
              replace hx120_0 := (cell_far (p := ⟨gb119, 9, none⟩) (by first | (rw [add_block]; exact hn120_9) | (show (Addr.add _ _).block ≠ _; rw [add_block]; exact hn120_9) | exact hn120_9) (.string (⟨#[]⟩ : ByteArray))).trans hx120_0
              replace hx120_0 := (cell_far (p := ⟨gb119, 10, none⟩) (by first | (rw [add_block]; exact hn120_10) | (show (Addr.add _ _).block ≠ _; rw [add_block]; exact hn120_10) | exact hn120_10) (.bool false)).trans hx120_0
              replace hx120_0 := (cell_far (p := ⟨gb119, 11, none⟩) (by first | (rw [add_block]; exact hn120_11) | (show (Addr.add _ _).block ≠ _; rw [add_block]; exact hn120_11) | exact hn120_11) (.string (⟨#[]⟩ : ByteArray))).trans hx120_0
              replace hx120_0 := (cell_far (p := ⟨gb119, 12, none⟩) (by first | (rw [add_block]; exact hn120_12) | (show (Addr.add _ _).block ≠ _; rw [add_block]; exact hn120_12) | exact hn120_12) (.int .i64 0)).trans hx120_0
              clear hn120_0
              clear hn120_1
              clear hn120_2
              clear hn120_3
              clear hn120_4
              clear hn120_5
              clear hn120_6
              clear hn120_7
              clear hn120_8
              clear hn120_9
              clear hn120_10
              clear hn120_11
              clear hn120_12
              replace p120 := eq_true p120
              replace q120 := eq_true q120
              have hnb52 := NB119_101.out
              have hnc52 := NB101_119.out
              obtain ⟨hcz53_0, hcz53_1, hcz53_2, hcz53_3, hcz53_4, hcz53_5, hcz53_6, hcz53_7, hcz53_8, hcz53_9, hcz53_10, hcz53_11, hcz53_12⟩ := cl13 (W := w38) BK119.out
              obtain ⟨hfz53_0, hfz53_1, hfz53_2, hfz53_3, hfz53_4, hfz53_5, hfz53_6, hfz53_7, hfz53_8, hfz53_9, hfz53_10, hfz53_11, hfz53_12⟩ := fr13 BK119.out
              have p121 : 0 ≤ (7 : Int) := (by omega)
              have q121 : 7 < (x5_1.length : Int) := of_decide_eq_true (by first | (with_reducible assumption) | assumption)
              obtain ⟨ad121, e121, hx121_0⟩ := Kd.at_int (Kd.R_reads' HO_5.out).2.2 7 p121 q121
              obtain rfl : ad113 = ad121 := (by injection e121)
              (try simp only [show (7 : Int).toNat = 7 from rfl, Nat.reduceMul, Nat.reduceEqDiff, Go.Addr.add, ↓reduceIte] at hx121_0)
              have qi121 : (7 < x5_1.length) = True := eq_true (by omega)
              (try rw [show ((7 : Int)).toNat = 7 from rfl] at hx121_0)
              have hn121_0 : ad113.block ≠ gb119 := Kd.own_blk (Kd.R_ne HO_5.out BK119.out (by decide))
              have hn121_1 : ad113.block ≠ gb119 := Kd.own_blk (Kd.R_ne HO_5.out BK119.out (by decide))
              have hn121_2 : ad113.block ≠ gb119 := Kd.own_blk (Kd.R_ne HO_5.out BK119.out (by decide))
              have hn121_3 : ad113.block ≠ gb119 := Kd.own_blk (Kd.R_ne HO_5.out BK119.out (by decide))
              have hn121_4 : ad113.block ≠ gb119 := Kd.own_blk (Kd.R_ne HO_5.out BK119.out (by decide))
              have hn121_5 : ad113.block ≠ gb119 := Kd.own_blk (Kd.R_ne HO_5.out BK119.out (by decide))
              have hn121_6 : ad113.block ≠ gb119 := Kd.own_blk (Kd.R_ne HO_5.out BK119.out (by decide))
              have hn121_7 : ad113.block ≠ gb119 := Kd.own_blk (Kd.R_ne HO_5.out BK119.out (by decide))
              have hn121_8 : ad113.block ≠ gb119 := Kd.own_blk (Kd.R_ne HO_5.out BK119.out (by decide))
              have hn121_9 : ad113.block ≠ gb119 := Kd.own_blk (Kd.R_ne HO_5.out BK119.out (by decide))
              have hn121_10 : ad113.block ≠ gb119 := Kd.own_blk (Kd.R_ne HO_5.out BK119.out (by decide))
              have hn121_11 : ad113.block ≠ gb119 := Kd.own_blk (Kd.R_ne HO_5.out BK119.out (by decide))
              have hn121_12 : ad113.block ≠ gb119 := Kd.own_blk (Kd.R_ne HO_5.out BK119.out (by decide))
              have hn121_13 : ad113.block ≠ gb119 := Kd.own_blk (Kd.R_ne HO_5.out BK119.out (by decide))
              replace hx121_0 := (cell_far (p := ⟨gb119, 0, none⟩) (by first | (rw [add_block]; exact hn121_0) | (show (Addr.add _ _).block ≠ _; rw [add_block]; exact hn121_0) | exact hn121_0) (.int .i64 (rd x5_1 0))).trans hx121_0
              replace hx121_0 := (cell_far (p := ⟨gb119, 1, none⟩) (by first | (rw [add_block]; exact hn121_1) | (show (Addr.add _ _).block ≠ _; rw [add_block]; exact hn121_1) | exact hn121_1) (.int .i64 (rd x5_1 1))).trans hx121_0
              replace hx121_0 := (cell_far (p := ⟨gb119, 2, none⟩) (by first | (rw [add_block]; exact hn121_2) | (show (Addr.add _ _).block ≠ _; rw [add_block]; exact hn121_2) | exact hn121_2) (.int .i64 (rd x5_1 2))).trans hx121_0
              replace hx121_0 := (cell_far (p := ⟨gb119, 3, none⟩) (by first | (rw [add_block]; exact hn121_3) | (show (Addr.add _ _).block ≠ _; rw [add_block]; exact hn121_3) | exact hn121_3) (.int .i64 (rd x5_1 3))).trans hx121_0
              replace hx121_0 := (cell_far (p := ⟨gb119, 4, none⟩) (by first | (rw [add_block]; exact hn121_4) | (show (Addr.add _ _).block ≠ _; rw [add_block]; exact hn121_4) | exact hn121_4) (.int .i64 (rd x5_1 4))).trans hx121_0
              replace hx121_0 := (cell_far (p := ⟨gb119, 5, none⟩) (by first | (rw [add_block]; exact hn121_5) | (show (Addr.add _ _).block ≠ _; rw [add_block]; exact hn121_5) | exact hn121_5) (.int .i64 (rd x5_1 5))).trans hx121_0
              replace hx121_0 := (cell_far (p := ⟨gb119, 6, none⟩) (by first | (rw [add_block]; exact hn121_6) | (show (Addr.add _ _).block ≠ _; rw [add_block]; exact hn121_6) | exact hn121_6) (.int .i64 0)).trans hx121_0
              replace hx121_0 := (cell_far (p := ⟨gb119, 7, none⟩) (by first | (rw [add_block]; exact hn121_7) | (show (Addr.add _ _).block ≠ _; rw [add_block]; exact hn121_7) | exact hn121_7) (.int .i64 0)).trans hx121_0
              replace hx121_0 := (cell_far (p := ⟨gb119, 8, none⟩) (by first | (rw [add_block]; exact hn121_8) | (show (Addr.add _ _).block ≠ _; rw [add_block]; exact hn121_8) | exact hn121_8) (.bool false)).trans hx121_0
              replace hx121_0 := (cell_far (p := ⟨gb119, 9, none⟩) (by first | (rw [add_block]; exact hn121_9) | (show (Addr.add _ _).block ≠ _; rw [add_block]; exact hn121_9) | exact hn121_9) (.string (⟨#[]⟩ : ByteArray))).trans hx121_0
              replace hx121_0 := (cell_far (p := ⟨gb119, 10, none⟩) (by first | (rw [add_block]; exact hn121_10) | (show (Addr.add _ _).block ≠ _; rw [add_block]; exact hn121_10) | exact hn121_10) (.bool false)).trans hx121_0
              replace hx121_0 := (cell_far (p := ⟨gb119, 11, none⟩) (by first | (rw [add_block]; exact hn121_11) | (show (Addr.add _ _).block ≠ _; rw [add_block]; exact hn121_11) | exact hn121_11) (.string (⟨#[]⟩ : ByteArray))).trans hx121_0
              replace hx121_0 := (cell_far (p := ⟨gb119, 12, none⟩) (by first | (rw [add_block]; exact hn121_12) | (show (Addr.add _ _).block ≠ _; rw [add_block]; exact hn121_12) | exact hn121_12) (.int .i64 0)).trans hx121_0
              replace hx121_0 := (cell_far (p := ⟨gb119, 6, none⟩) (by first | (rw [add_block]; exact hn121_13) | (show (Addr.add _ _).block ≠ _; rw [add_block]; exact hn121_13) | exact hn121_13) (.int .i64 (rd x5_1 6))).trans hx121_0
              clear hn121_0
              clear hn121_1
              clear hn121_2
              clear hn121_3
              clear hn121_4
              clear hn121_5
              clear hn121_6
              clear hn121_7
              clear hn121_8
              clear hn121_9
              clear hn121_10
              clear hn121_11
              clear hn121_12
              clear hn121_13
              replace p121 := eq_true p121
              replace q121 := eq_true q121
              have p122 : 0 ≤ (8 : Int) := (by omega)
              have q122 : 8 < (x5_1.length : Int) := of_decide_eq_true (by first | (with_reducible assumption) | assumption)
              obtain ⟨ad122, e122, hx122_0⟩ := Kd.at_int (Kd.R_reads' HO_5.out).2.2 8 p122 q122
              obtain rfl : ad113 = ad122 := (by injection e122)
              (try simp only [show (8 : Int).toNat = 8 from rfl, Nat.reduceMul, Nat.reduceEqDiff, Go.Addr.add, ↓reduceIte] at hx122_0)
              have qi122 : (8 < x5_1.length) = True := eq_true (by omega)
              (try rw [show ((8 : Int)).toNat = 8 from rfl] at hx122_0)
              have hn122_0 : ad113.block ≠ gb119 := Kd.own_blk (Kd.R_ne HO_5.out BK119.out (by decide))
              have hn122_1 : ad113.block ≠ gb119 := Kd.own_blk (Kd.R_ne HO_5.out BK119.out (by decide))
              have hn122_2 : ad113.block ≠ gb119 := Kd.own_blk (Kd.R_ne HO_5.out BK119.out (by decide))
              have hn122_3 : ad113.block ≠ gb119 := Kd.own_blk (Kd.R_ne HO_5.out BK119.out (by decide))
              have hn122_4 : ad113.block ≠ gb119 := Kd.own_blk (Kd.R_ne HO_5.out BK119.out (by decide))
              have hn122_5 : ad113.block ≠ gb119 := Kd.own_blk (Kd.R_ne HO_5.out BK119.out (by decide))
              have hn122_6 : ad113.block ≠ gb119 := Kd.own_blk (Kd.R_ne HO_5.out BK119.out (by decide))
              have hn122_7 : ad113.block ≠ gb119 := Kd.own_blk (Kd.R_ne HO_5.out BK119.out (by decide))
              have hn122_8 : ad113.block ≠ gb119 := Kd.own_blk (Kd.R_ne HO_5.out BK119.out (by decide))
              have hn122_9 : ad113.block ≠ gb119 := Kd.own_blk (Kd.R_ne HO_5.out BK119.out (by decide))
              have hn122_10 : ad113.block ≠ gb119 := Kd.own_blk (Kd.R_ne HO_5.out BK119.out (by decide))
              have hn122_11 : ad113.block ≠ gb119 := Kd.own_blk (Kd.R_ne HO_5.out BK119.out (by decide))
              have hn122_12 : ad113.block ≠ gb119 := Kd.own_blk (Kd.R_ne HO_5.out BK119.out (by decide))
              have hn122_13 : ad113.block ≠ gb119 := Kd.own_blk (Kd.R_ne HO_5.out BK119.out (by decide))
              have hn122_14 : ad113.block ≠ gb119 := Kd.own_blk (Kd.R_ne HO_5.out BK119.out (by decide))
              replace hx122_0 := (cell_far (p := ⟨gb119, 0, none⟩) (by first | (rw [add_block]; exact hn122_0) | (show (Addr.add _ _).block ≠ _; rw [add_block]; exact hn122_0) | exact hn122_0) (.int .i64 (rd x5_1 0))).trans hx122_0
              replace hx122_0 := (cell_far (p := ⟨gb119, 1, none⟩) (by first | (rw [add_block]; exact hn122_1) | (show (Addr.add _ _).block ≠ _; rw [add_block]; exact hn122_1) | exact hn122_1) (.int .i64 (rd x5_1 1))).trans hx122_0
              replace hx122_0 := (cell_far (p := ⟨gb119, 2, none⟩) (by first | (rw [add_block]; exact hn122_2) | (show (Addr.add _ _).block ≠ _; rw [add_block]; exact hn122_2) | exact hn122_2) (.int .i64 (rd x5_1 2))).trans hx122_0
              replace hx122_0 := (cell_far (p := ⟨gb119, 3, none⟩) (by first | (rw [add_block]; exact hn122_3) | (show (Addr.add _ _).block ≠ _; rw [add_block]; exact hn122_3) | exact hn122_3) (.int .i64 (rd x5_1 3))).trans hx122_0
              replace hx122_0 := (cell_far (p := ⟨gb119, 4, none⟩) (by first | (rw [add_block]; exact hn122_4) | (show (Addr.add _ _).block ≠ _; rw [add_block]; exact hn122_4) | exact hn122_4) (.int .i64 (rd x5_1 4))).trans hx122_0
              replace hx122_0 := (cell_far (p := ⟨gb119, 5, none⟩) (by first | (rw [add_block]; exact hn122_5) | (show (Addr.add _ _).block ≠ _; rw [add_block]; exact hn122_5) | exact hn122_5) (.int .i64 (rd x5_1 5))).trans hx122_0
              replace hx122_0 := (cell_far (p := ⟨gb119, 6, none⟩) (by first | (rw [add_block]; exact hn122_6) | (show (Addr.add _ _).block ≠ _; rw [add_block]; exact hn122_6) | exact hn122_6) (.int .i64 0)).trans hx122_0
              replace hx122_0 := (cell_far (p := ⟨gb119, 7, none⟩) (by first | (rw [add_block]; exact hn122_7) | (show (Addr.add _ _).block ≠ _; rw [add_block]; exact hn122_7) | exact hn122_7) (.int .i64 0)).trans hx122_0
              replace hx122_0 := (cell_far (p := ⟨gb119, 8, none⟩) (by first | (rw [add_block]; exact hn122_8) | (show (Addr.add _ _).block ≠ _; rw [add_block]; exact hn122_8) | exact hn122_8) (.bool false)).trans hx122_0
              replace hx122_0 := (cell_far (p := ⟨gb119, 9, none⟩) (by first | (rw [add_block]; exact hn122_9) | (show (Addr.add _ _).block ≠ _; rw [add_block]; exact hn122_9) | exact hn122_9) (.string (⟨#[]⟩ : ByteArray))).trans hx122_0
              replace hx122_0 := (cell_far (p := ⟨gb119, 10, none⟩) (by first | (rw [add_block]; exact hn122_10) | (show (Addr.add _ _).block ≠ _; rw [add_block]; exact hn122_10) | exact hn122_10) (.bool false)).trans hx122_0
              replace hx122_0 := (cell_far (p := ⟨gb119, 11, none⟩) (by first | (rw [add_block]; exact hn122_11) | (show (Addr.add _ _).block ≠ _; rw [add_block]; exact hn122_11) | exact hn122_11) (.string (⟨#[]⟩ : ByteArray))).trans hx122_0
              replace hx122_0 := (cell_far (p := ⟨gb119, 12, none⟩) (by first | (rw [add_block]; exact hn122_12) | (show (Addr.add _ _).block ≠ _; rw [add_block]; exact hn122_12) | exact hn122_12) (.int .i64 0)).trans hx122_0
              replace hx122_0 := (cell_far (p := ⟨gb119, 6, none⟩) (by first | (rw [add_block]; exact hn122_13) | (show (Addr.add _ _).block ≠ _; rw [add_block]; exact hn122_13) | exact hn122_13) (.int .i64 (rd x5_1 6))).trans hx122_0
              replace hx122_0 := (cell_far (p := ⟨gb119, 7, none⟩) (by first | (rw [add_block]; exact hn122_14) | (show (Addr.add _ _).block ≠ _; rw [add_block]; exact hn122_14) | exact hn122_14) (.int .i64 (rd x5_1 7))).trans hx122_0
              clear hn122_0
              clear hn122_1
              clear hn122_2
              clear hn122_3
              clear hn122_4
              clear hn122_5
              clear hn122_6
              clear hn122_7
              clear hn122_8
              clear hn122_9
              clear hn122_10
              clear hn122_11
              clear hn122_12
              clear hn122_13
              clear hn122_14
              replace p122 := eq_true p122
              replace q122 := eq_true q122
              go_upto_region 18 with (first | ((with_reducible refine gate_callee (f := 110) rfl ?_); refine goesL_ (some 82) rfl rfl Try.func110 (by kernel_rfl) rfl #[.string x0_1] rfl (by (try simp only [List.map_toArray, List.map_cons, List.map_nil]); first | done | rfl | (simp only [List.length_drop, List.length_take]; rfl)) ?_; (with_reducible refine (seneschalref04_take.calls x0_1 t123 t124 t125 t126 _ A33.out).mono ?_); rintro e w54 ⟨rfl, hb⟩; refine ⟨_, rfl, ?_⟩; have n0_ := Aside0.mk (Kd.R_below (by (with_reducible repeat (first | apply Kd.R_alloc | apply Kd.R_drewN | apply Kd.R_drew)); exact (Kd.R_mono (Kd.R_far (p := ⟨gb119, 12, none⟩) (Kd.R_far (p := ⟨gb119, 7, none⟩) (Kd.R_far (p := ⟨gb119, 6, none⟩) (Kd.R_far (p := ⟨gb119, 12, none⟩) (Kd.R_far (p := ⟨gb119, 11, none⟩) (Kd.R_far (p := ⟨gb119, 10, none⟩) (Kd.R_far (p := ⟨gb119, 9, none⟩) (Kd.R_far (p := ⟨gb119, 8, none⟩) (Kd.R_far (p := ⟨gb119, 7, none⟩) (Kd.R_far (p := ⟨gb119, 6, none⟩) (Kd.R_far (p := ⟨gb119, 5, none⟩) (Kd.R_far (p := ⟨gb119, 4, none⟩) (Kd.R_far (p := ⟨gb119, 3, none⟩) (Kd.R_far (p := ⟨gb119, 2, none⟩) (Kd.R_far (p := ⟨gb119, 1, none⟩) (Kd.R_far (p := ⟨gb119, 0, none⟩) (Kd.R_types HO_5.out BK119.out (by decide)) (fun _ hk => hk.2) (.int .i64 (rd x5_1 0))) (fun _ hk => hk.2) (.int .i64 (rd x5_1 1))) (fun _ hk => hk.2) (.int .i64 (rd x5_1 2))) (fun _ hk => hk.2) (.int .i64 (rd x5_1 3))) (fun _ hk => hk.2) (.int .i64 (rd x5_1 4))) (fun _ hk => hk.2) (.int .i64 (rd x5_1 5))) (fun _ hk => hk.2) (.int .i64 0)) (fun _ hk => hk.2) (.int .i64 0)) (fun _ hk => hk.2) (.bool false)) (fun _ hk => hk.2) (.string (⟨#[]⟩ : ByteArray))) (fun _ hk => hk.2) (.bool false)) (fun _ hk => hk.2) (.string (⟨#[]⟩ : ByteArray))) (fun _ hk => hk.2) (.int .i64 0)) (fun _ hk => hk.2) (.int .i64 (rd x5_1 6))) (fun _ hk => hk.2) (.int .i64 (rd x5_1 7))) (fun _ hk => hk.2) (.int .i64 (rd x5_1 8))) (fun _ h_ => h_.1))) hb); have n1_ := Aside0.mk (blk_below (g := gb101) (o := .cells #[.int .i64 x102000_1, .int .i64 x102001_1, .int .i64 x102002_1, .int .i64 x102003_1, .int .i64 x102004_1, .int .i64 x102005_1, .int .i64 x102006_1, .int .i64 x102007_1, .bool x102008_1, .string x102009_1, .bool x102010_1, .string x102011_1, .int .i64 x102012_1] 65 (0, 0)) (by (with_reducible repeat (first | refine blk_drewN ?_ _ | refine blk_drew ?_ | refine blk_alloc ?_ _)); refine blk_far ?_ NB101_119.out _; refine blk_far ?_ NB101_119.out _; refine blk_far ?_ NB101_119.out _; refine blk_far ?_ NB101_119.out _; refine blk_far ?_ NB101_119.out _; refine blk_far ?_ NB101_119.out _; refine blk_far ?_ NB101_119.out _; refine blk_far ?_ NB101_119.out _; refine blk_far ?_ NB101_119.out _; refine blk_far ?_ NB101_119.out _; refine blk_far ?_ NB101_119.out _; refine blk_far ?_ NB101_119.out _; refine blk_far ?_ NB101_119.out _; refine blk_far ?_ NB101_119.out _; refine blk_far ?_ NB101_119.out _; refine blk_far ?_ NB101_119.out _; (with_reducible repeat (first | refine blk_drewN ?_ _ | refine blk_drew ?_ | refine blk_alloc ?_ _)); exact BK101.out) hb); have n2_ := Aside0.mk (blk_below (g := gb119) (o := .cells #[.int .i64 (rd x5_1 0), .int .i64 (rd x5_1 1), .int .i64 (rd x5_1 2), .int .i64 (rd x5_1 3), .int .i64 (rd x5_1 4), .int .i64 (rd x5_1 5), .int .i64 (rd x5_1 6), .int .i64 (rd x5_1 7), .bool false, .string (⟨#[]⟩ : ByteArray), .bool false, .string (⟨#[]⟩ : ByteArray), .int .i64 (rd x5_1 8)] 65 (0, 0)) (by (with_reducible repeat (first | refine blk_drewN ?_ _ | refine blk_drew ?_ | refine blk_alloc ?_ _)); refine blk_put (cs := #[.int .i64 (rd x5_1 0), .int .i64 (rd x5_1 1), .int .i64 (rd x5_1 2), .int .i64 (rd x5_1 3), .int .i64 (rd x5_1 4), .int .i64 (rd x5_1 5), .int .i64 (rd x5_1 6), .int .i64 (rd x5_1 7), .bool false, .string (⟨#[]⟩ : ByteArray), .bool false, .string (⟨#[]⟩ : ByteArray), .int .i64 0]) ?_ 12 _ rfl; refine blk_put (cs := #[.int .i64 (rd x5_1 0), .int .i64 (rd x5_1 1), .int .i64 (rd x5_1 2), .int .i64 (rd x5_1 3), .int .i64 (rd x5_1 4), .int .i64 (rd x5_1 5), .int .i64 (rd x5_1 6), .int .i64 0, .bool false, .string (⟨#[]⟩ : ByteArray), .bool false, .string (⟨#[]⟩ : ByteArray), .int .i64 0]) ?_ 7 _ rfl; refine blk_put (cs := #[.int .i64 (rd x5_1 0), .int .i64 (rd x5_1 1), .int .i64 (rd x5_1 2), .int .i64 (rd x5_1 3), .int .i64 (rd x5_1 4), .int .i64 (rd x5_1 5), .int .i64 0, .int .i64 0, .bool false, .string (⟨#[]⟩ : ByteArray), .bool false, .string (⟨#[]⟩ : ByteArray), .int .i64 0]) ?_ 6 _ rfl; refine blk_put (cs := #[.int .i64 (rd x5_1 0), .int .i64 (rd x5_1 1), .int .i64 (rd x5_1 2), .int .i64 (rd x5_1 3), .int .i64 (rd x5_1 4), .int .i64 (rd x5_1 5), .int .i64 0, .int .i64 0, .bool false, .string (⟨#[]⟩ : ByteArray), .bool false, .string (⟨#[]⟩ : ByteArray), .int .i64 0]) ?_ 12 _ rfl; refine blk_put (cs := #[.int .i64 (rd x5_1 0), .int .i64 (rd x5_1 1), .int .i64 (rd x5_1 2), .int .i64 (rd x5_1 3), .int .i64 (rd x5_1 4), .int .i64 (rd x5_1 5), .int .i64 0, .int .i64 0, .bool false, .string (⟨#[]⟩ : ByteArray), .bool false, .string (⟨#[]⟩ : ByteArray), .int .i64 0]) ?_ 11 _ rfl; refine blk_put (cs := #[.int .i64 (rd x5_1 0), .int .i64 (rd x5_1 1), .int .i64 (rd x5_1 2), .int .i64 (rd x5_1 3), .int .i64 (rd x5_1 4), .int .i64 (rd x5_1 5), .int .i64 0, .int .i64 0, .bool false, .string (⟨#[]⟩ : ByteArray), .bool false, .string (⟨#[]⟩ : ByteArray), .int .i64 0]) ?_ 10 _ rfl; refine blk_put (cs := #[.int .i64 (rd x5_1 0), .int .i64 (rd x5_1 1), .int .i64 (rd x5_1 2), .int .i64 (rd x5_1 3), .int .i64 (rd x5_1 4), .int .i64 (rd x5_1 5), .int .i64 0, .int .i64 0, .bool false, .string (⟨#[]⟩ : ByteArray), .bool false, .string (⟨#[]⟩ : ByteArray), .int .i64 0]) ?_ 9 _ rfl; refine blk_put (cs := #[.int .i64 (rd x5_1 0), .int .i64 (rd x5_1 1), .int .i64 (rd x5_1 2), .int .i64 (rd x5_1 3), .int .i64 (rd x5_1 4), .int .i64 (rd x5_1 5), .int .i64 0, .int .i64 0, .bool false, .string (⟨#[]⟩ : ByteArray), .bool false, .string (⟨#[]⟩ : ByteArray), .int .i64 0]) ?_ 8 _ rfl; refine blk_put (cs := #[.int .i64 (rd x5_1 0), .int .i64 (rd x5_1 1), .int .i64 (rd x5_1 2), .int .i64 (rd x5_1 3), .int .i64 (rd x5_1 4), .int .i64 (rd x5_1 5), .int .i64 0, .int .i64 0, .bool false, .string (⟨#[]⟩ : ByteArray), .bool false, .string (⟨#[]⟩ : ByteArray), .int .i64 0]) ?_ 7 _ rfl; refine blk_put (cs := #[.int .i64 (rd x5_1 0), .int .i64 (rd x5_1 1), .int .i64 (rd x5_1 2), .int .i64 (rd x5_1 3), .int .i64 (rd x5_1 4), .int .i64 (rd x5_1 5), .int .i64 0, .int .i64 0, .bool false, .string (⟨#[]⟩ : ByteArray), .bool false, .string (⟨#[]⟩ : ByteArray), .int .i64 0]) ?_ 6 _ rfl; refine blk_put (cs := #[.int .i64 (rd x5_1 0), .int .i64 (rd x5_1 1), .int .i64 (rd x5_1 2), .int .i64 (rd x5_1 3), .int .i64 (rd x5_1 4), .int .i64 0, .int .i64 0, .int .i64 0, .bool false, .string (⟨#[]⟩ : ByteArray), .bool false, .string (⟨#[]⟩ : ByteArray), .int .i64 0]) ?_ 5 _ rfl; refine blk_put (cs := #[.int .i64 (rd x5_1 0), .int .i64 (rd x5_1 1), .int .i64 (rd x5_1 2), .int .i64 (rd x5_1 3), .int .i64 0, .int .i64 0, .int .i64 0, .int .i64 0, .bool false, .string (⟨#[]⟩ : ByteArray), .bool false, .string (⟨#[]⟩ : ByteArray), .int .i64 0]) ?_ 4 _ rfl; refine blk_put (cs := #[.int .i64 (rd x5_1 0), .int .i64 (rd x5_1 1), .int .i64 (rd x5_1 2), .int .i64 0, .int .i64 0, .int .i64 0, .int .i64 0, .int .i64 0, .bool false, .string (⟨#[]⟩ : ByteArray), .bool false, .string (⟨#[]⟩ : ByteArray), .int .i64 0]) ?_ 3 _ rfl; refine blk_put (cs := #[.int .i64 (rd x5_1 0), .int .i64 (rd x5_1 1), .int .i64 0, .int .i64 0, .int .i64 0, .int .i64 0, .int .i64 0, .int .i64 0, .bool false, .string (⟨#[]⟩ : ByteArray), .bool false, .string (⟨#[]⟩ : ByteArray), .int .i64 0]) ?_ 2 _ rfl; refine blk_put (cs := #[.int .i64 (rd x5_1 0), .int .i64 0, .int .i64 0, .int .i64 0, .int .i64 0, .int .i64 0, .int .i64 0, .int .i64 0, .bool false, .string (⟨#[]⟩ : ByteArray), .bool false, .string (⟨#[]⟩ : ByteArray), .int .i64 0]) ?_ 1 _ rfl; refine blk_put (cs := #[.int .i64 0, .int .i64 0, .int .i64 0, .int .i64 0, .int .i64 0, .int .i64 0, .int .i64 0, .int .i64 0, .bool false, .string (⟨#[]⟩ : ByteArray), .bool false, .string (⟨#[]⟩ : ByteArray), .int .i64 0]) ?_ 0 _ rfl; (with_reducible repeat (first | refine blk_drewN ?_ _ | refine blk_drew ?_ | refine blk_alloc ?_ _)); exact BK119.out) hb); have n3_ := Aside0.mk (below_step (by repeat (first | (with_reducible first | exact HB.out | apply below_alloc | apply pw_below_drewN | apply below_drew1 | refine below_set ?_ GE101.out | refine below_set ?_ GE119.out) | exact HB.out)) hb); clear HO_5; clear BK101; clear BK119; clear HB; have HO_5 := n0_; have BK101 := n1_; have BK119 := n2_; have HB := n3_; clear n0_ n1_ n2_ n3_; (try clear hb); (try clear hb2); (try clear hk); (try clear hi)) | ((with_reducible refine gate_dst (N := 11) rfl ?_); refine box_event ?hg (N := 11) ?hd (cs := #[.bool false, .string (⟨#[]⟩ : ByteArray)]) (t := 33) ?hr ?_; (case hd => rfl); (case hg => rfl); (case hr => first | (go_simp; done) | (go_simp; rfl)); intro gb127 hg w55 hbox hb; have n0_ := Aside0.mk (Kd.R_below (by (with_reducible repeat (first | apply Kd.R_alloc | apply Kd.R_drewN | apply Kd.R_drew)); exact HO_5.out) hb); have n1_ := Aside0.mk (blk_below (g := gb101) (o := .cells #[.int .i64 x102000_1, .int .i64 x102001_1, .int .i64 x102002_1, .int .i64 x102003_1, .int .i64 x102004_1, .int .i64 x102005_1, .int .i64 x102006_1, .int .i64 x102007_1, .bool x102008_1, .string x102009_1, .bool x102010_1, .string x102011_1, .int .i64 x102012_1] 65 (0, 0)) (by (with_reducible repeat (first | refine blk_drewN ?_ _ | refine blk_drew ?_ | refine blk_alloc ?_ _)); exact BK101.out) hb); have n2_ := Aside0.mk (blk_below (g := gb119) (o := .cells #[.int .i64 (rd x5_1 0), .int .i64 (rd x5_1 1), .int .i64 (rd x5_1 2), .int .i64 (rd x5_1 3), .int .i64 (rd x5_1 4), .int .i64 (rd x5_1 5), .int .i64 (rd x5_1 6), .int .i64 (rd x5_1 7), .bool false, .string (⟨#[]⟩ : ByteArray), .bool false, .string (⟨#[]⟩ : ByteArray), .int .i64 (rd x5_1 8)] 65 (0, 0)) (by (with_reducible repeat (first | refine blk_drewN ?_ _ | refine blk_drew ?_ | refine blk_alloc ?_ _)); exact BK119.out) hb); have n3_ := Aside0.mk (below_step (by repeat (first | (with_reducible first | exact HB.out | apply below_alloc | apply pw_below_drewN | apply below_drew1 | refine below_set ?_ GE101.out | refine below_set ?_ GE119.out) | exact HB.out)) hb); have n4_ := Aside0.mk (hbox); have n5_ := Aside0.mk ((by rw [hg]; exact (below_size (by repeat (first | (with_reducible first | exact HB.out | apply below_alloc | apply pw_below_drewN | apply below_drew1 | refine below_set ?_ GE101.out | refine below_set ?_ GE119.out) | exact HB.out))) : w.heap.size ≤ gb127)); have n6_ := Aside0.mk ((by rw [hg]; exact (below_size (by repeat (first | (with_reducible first | exact HB.out | apply below_alloc | apply pw_below_drewN | apply below_drew1 | refine below_set ?_ GE101.out | refine below_set ?_ GE119.out) | exact HB.out))) : w.heap.size ≤ gb127)); have n7_ := Aside0.mk ((by rw [hg]; exact Nat.ne_of_lt (blk_lt (g := gb101) (o := .cells #[.int .i64 x102000_1, .int .i64 x102001_1, .int .i64 x102002_1, .int .i64 x102003_1, .int .i64 x102004_1, .int .i64 x102005_1, .int .i64 x102006_1, .int .i64 x102007_1, .bool x102008_1, .string x102009_1, .bool x102010_1, .string x102011_1, .int .i64 x102012_1] 65 (0, 0)) (by (with_reducible repeat (first | refine blk_drewN ?_ _ | refine blk_drew ?_ | refine blk_alloc ?_ _)); exact BK101.out)) : gb101 ≠ gb127)); have n8_ := Aside0.mk ((by rw [hg]; exact Nat.ne_of_gt (blk_lt (g := gb101) (o := .cells #[.int .i64 x102000_1, .int .i64 x102001_1, .int .i64 x102002_1, .int .i64 x102003_1, .int .i64 x102004_1, .int .i64 x102005_1, .int .i64 x102006_1, .int .i64 x102007_1, .bool x102008_1, .string x102009_1, .bool x102010_1, .string x102011_1, .int .i64 x102012_1] 65 (0, 0)) (by (with_reducible repeat (first | refine blk_drewN ?_ _ | refine blk_drew ?_ | refine blk_alloc ?_ _)); exact BK101.out)) : gb127 ≠ gb101)); have n9_ := Aside0.mk ((by rw [hg]; exact Nat.ne_of_lt (blk_lt (g := gb119) (o := .cells #[.int .i64 (rd x5_1 0), .int .i64 (rd x5_1 1), .int .i64 (rd x5_1 2), .int .i64 (rd x5_1 3), .int .i64 (rd x5_1 4), .int .i64 (rd x5_1 5), .int .i64 (rd x5_1 6), .int .i64 (rd x5_1 7), .bool false, .string (⟨#[]⟩ : ByteArray), .bool false, .string (⟨#[]⟩ : ByteArray), .int .i64 (rd x5_1 8)] 65 (0, 0)) (by (with_reducible repeat (first | refine blk_drewN ?_ _ | refine blk_drew ?_ | refine blk_alloc ?_ _)); exact BK119.out)) : gb119 ≠ gb127)); have n10_ := Aside0.mk ((by rw [hg]; exact Nat.ne_of_gt (blk_lt (g := gb119) (o := .cells #[.int .i64 (rd x5_1 0), .int .i64 (rd x5_1 1), .int .i64 (rd x5_1 2), .int .i64 (rd x5_1 3), .int .i64 (rd x5_1 4), .int .i64 (rd x5_1 5), .int .i64 (rd x5_1 6), .int .i64 (rd x5_1 7), .bool false, .string (⟨#[]⟩ : ByteArray), .bool false, .string (⟨#[]⟩ : ByteArray), .int .i64 (rd x5_1 8)] 65 (0, 0)) (by (with_reducible repeat (first | refine blk_drewN ?_ _ | refine blk_drew ?_ | refine blk_alloc ?_ _)); exact BK119.out)) : gb127 ≠ gb119)); clear HO_5; clear BK101; clear BK119; clear HB; have HO_5 := n0_; have BK101 := n1_; have BK119 := n2_; have HB := n3_; have BK127 := n4_; have GW127 := n5_; have GE127 := n6_; have NB101_127 := n7_; have NB127_101 := n8_; have NB119_127 := n9_; have NB127_119 := n10_; clear n0_ n1_ n2_ n3_ n4_ n5_ n6_ n7_ n8_ n9_ n10_; clear hb hbox hg; have hnb56 := NB127_101.out; have hnc56 := NB101_127.out; have hnb57 := NB127_119.out; have hnc57 := NB119_127.out; obtain ⟨hcz58_0, hcz58_1⟩ := cl2 (W := w55) BK127.out; obtain ⟨hfz58_0, hfz58_1⟩ := fr2 BK127.out) | ((with_reducible refine gate_callee (f := 110) rfl ?_); refine goesL_ (some 88) rfl rfl Try.func110 (by kernel_rfl) rfl #[.string t125] rfl (by (try simp only [List.map_toArray, List.map_cons, List.map_nil]); first | done | rfl | (simp only [List.length_drop, List.length_take]; rfl)) ?_; (with_reducible refine (seneschalref04_take.calls t125 t128 t129 t130 t131 _ A34.out).mono ?_); rintro e w59 ⟨rfl, hb⟩; refine ⟨_, rfl, ?_⟩; have n0_ := Aside0.mk (Kd.R_below (by (with_reducible repeat (first | apply Kd.R_alloc | apply Kd.R_drewN | apply Kd.R_drew)); exact (Kd.R_mono (Kd.R_far (p := ⟨gb127, 1, none⟩) (Kd.R_far (p := ⟨gb127, 0, none⟩) (Kd.R_types HO_5.out BK127.out (by decide)) (fun _ hk => hk.2) (.bool t123)) (fun _ hk => hk.2) (.string t124)) (fun _ h_ => h_.1))) hb); have n1_ := Aside0.mk (blk_below (g := gb101) (o := .cells #[.int .i64 x102000_1, .int .i64 x102001_1, .int .i64 x102002_1, .int .i64 x102003_1, .int .i64 x102004_1, .int .i64 x102005_1, .int .i64 x102006_1, .int .i64 x102007_1, .bool x102008_1, .string x102009_1, .bool x102010_1, .string x102011_1, .int .i64 x102012_1] 65 (0, 0)) (by (with_reducible repeat (first | refine blk_drewN ?_ _ | refine blk_drew ?_ | refine blk_alloc ?_ _)); refine blk_far ?_ NB101_127.out _; refine blk_far ?_ NB101_127.out _; (with_reducible repeat (first | refine blk_drewN ?_ _ | refine blk_drew ?_ | refine blk_alloc ?_ _)); exact BK101.out) hb); have n2_ := Aside0.mk (blk_below (g := gb119) (o := .cells #[.int .i64 (rd x5_1 0), .int .i64 (rd x5_1 1), .int .i64 (rd x5_1 2), .int .i64 (rd x5_1 3), .int .i64 (rd x5_1 4), .int .i64 (rd x5_1 5), .int .i64 (rd x5_1 6), .int .i64 (rd x5_1 7), .bool false, .string (⟨#[]⟩ : ByteArray), .bool false, .string (⟨#[]⟩ : ByteArray), .int .i64 (rd x5_1 8)] 65 (0, 0)) (by (with_reducible repeat (first | refine blk_drewN ?_ _ | refine blk_drew ?_ | refine blk_alloc ?_ _)); refine blk_far ?_ NB119_127.out _; refine blk_far ?_ NB119_127.out _; (with_reducible repeat (first | refine blk_drewN ?_ _ | refine blk_drew ?_ | refine blk_alloc ?_ _)); exact BK119.out) hb); have n3_ := Aside0.mk (blk_below (g := gb127) (o := .cells #[.bool t123, .string t124] 33 (0, 0)) (by (with_reducible repeat (first | refine blk_drewN ?_ _ | refine blk_drew ?_ | refine blk_alloc ?_ _)); refine blk_put (cs := #[.bool t123, .string (⟨#[]⟩ : ByteArray)]) ?_ 1 _ rfl; refine blk_put (cs := #[.bool false, .string (⟨#[]⟩ : ByteArray)]) ?_ 0 _ rfl; (with_reducible repeat (first | refine blk_drewN ?_ _ | refine blk_drew ?_ | refine blk_alloc ?_ _)); exact BK127.out) hb); have n4_ := Aside0.mk (below_step (by repeat (first | (with_reducible first | exact HB.out | apply below_alloc | apply pw_below_drewN | apply below_drew1 | refine below_set ?_ GE101.out | refine below_set ?_ GE119.out | refine below_set ?_ GE127.out) | exact HB.out)) hb); clear HO_5; clear BK101; clear BK119; clear BK127; clear HB; have HO_5 := n0_; have BK101 := n1_; have BK119 := n2_; have BK127 := n3_; have HB := n4_; clear n0_ n1_ n2_ n3_ n4_; (try clear hb); (try clear hb2); (try clear hk); (try clear hi)) | ((with_reducible refine gate_dst (N := 14) rfl ?_); refine box_event ?hg (N := 14) ?hd (cs := #[.bool false, .string (⟨#[]⟩ : ByteArray)]) (t := 33) ?hr ?_; (case hd => rfl); (case hg => rfl); (case hr => first | (go_simp; done) | (go_simp; rfl)); intro gb132 hg w60 hbox hb; have n0_ := Aside0.mk (Kd.R_below (by (with_reducible repeat (first | apply Kd.R_alloc | apply Kd.R_drewN | apply Kd.R_drew)); exact HO_5.out) hb); have n1_ := Aside0.mk (blk_below (g := gb101) (o := .cells #[.int .i64 x102000_1, .int .i64 x102001_1, .int .i64 x102002_1, .int .i64 x102003_1, .int .i64 x102004_1, .int .i64 x102005_1, .int .i64 x102006_1, .int .i64 x102007_1, .bool x102008_1, .string x102009_1, .bool x102010_1, .string x102011_1, .int .i64 x102012_1] 65 (0, 0)) (by (with_reducible repeat (first | refine blk_drewN ?_ _ | refine blk_drew ?_ | refine blk_alloc ?_ _)); exact BK101.out) hb); have n2_ := Aside0.mk (blk_below (g := gb119) (o := .cells #[.int .i64 (rd x5_1 0), .int .i64 (rd x5_1 1), .int .i64 (rd x5_1 2), .int .i64 (rd x5_1 3), .int .i64 (rd x5_1 4), .int .i64 (rd x5_1 5), .int .i64 (rd x5_1 6), .int .i64 (rd x5_1 7), .bool false, .string (⟨#[]⟩ : ByteArray), .bool false, .string (⟨#[]⟩ : ByteArray), .int .i64 (rd x5_1 8)] 65 (0, 0)) (by (with_reducible repeat (first | refine blk_drewN ?_ _ | refine blk_drew ?_ | refine blk_alloc ?_ _)); exact BK119.out) hb); have n3_ := Aside0.mk (blk_below (g := gb127) (o := .cells #[.bool t123, .string t124] 33 (0, 0)) (by (with_reducible repeat (first | refine blk_drewN ?_ _ | refine blk_drew ?_ | refine blk_alloc ?_ _)); exact BK127.out) hb); have n4_ := Aside0.mk (below_step (by repeat (first | (with_reducible first | exact HB.out | apply below_alloc | apply pw_below_drewN | apply below_drew1 | refine below_set ?_ GE101.out | refine below_set ?_ GE119.out | refine below_set ?_ GE127.out) | exact HB.out)) hb); have n5_ := Aside0.mk (hbox); have n6_ := Aside0.mk ((by rw [hg]; exact (below_size (by repeat (first | (with_reducible first | exact HB.out | apply below_alloc | apply pw_below_drewN | apply below_drew1 | refine below_set ?_ GE101.out | refine below_set ?_ GE119.out | refine below_set ?_ GE127.out) | exact HB.out))) : w.heap.size ≤ gb132)); have n7_ := Aside0.mk ((by rw [hg]; exact (below_size (by repeat (first | (with_reducible first | exact HB.out | apply below_alloc | apply pw_below_drewN | apply below_drew1 | refine below_set ?_ GE101.out | refine below_set ?_ GE119.out | refine below_set ?_ GE127.out) | exact HB.out))) : w.heap.size ≤ gb132)); have n8_ := Aside0.mk ((by rw [hg]; exact Nat.ne_of_lt (blk_lt (g := gb101) (o := .cells #[.int .i64 x102000_1, .int .i64 x102001_1, .int .i64 x102002_1, .int .i64 x102003_1, .int .i64 x102004_1, .int .i64 x102005_1, .int .i64 x102006_1, .int .i64 x102007_1, .bool x102008_1, .string x102009_1, .bool x102010_1, .string x102011_1, .int .i64 x102012_1] 65 (0, 0)) (by (with_reducible repeat (first | refine blk_drewN ?_ _ | refine blk_drew ?_ | refine blk_alloc ?_ _)); exact BK101.out)) : gb101 ≠ gb132)); have n9_ := Aside0.mk ((by rw [hg]; exact Nat.ne_of_gt (blk_lt (g := gb101) (o := .cells #[.int .i64 x102000_1, .int .i64 x102001_1, .int .i64 x102002_1, .int .i64 x102003_1, .int .i64 x102004_1, .int .i64 x102005_1, .int .i64 x102006_1, .int .i64 x102007_1, .bool x102008_1, .string x102009_1, .bool x102010_1, .string x102011_1, .int .i64 x102012_1] 65 (0, 0)) (by (with_reducible repeat (first | refine blk_drewN ?_ _ | refine blk_drew ?_ | refine blk_alloc ?_ _)); exact BK101.out)) : gb132 ≠ gb101)); have n10_ := Aside0.mk ((by rw [hg]; exact Nat.ne_of_lt (blk_lt (g := gb119) (o := .cells #[.int .i64 (rd x5_1 0), .int .i64 (rd x5_1 1), .int .i64 (rd x5_1 2), .int .i64 (rd x5_1 3), .int .i64 (rd x5_1 4), .int .i64 (rd x5_1 5), .int .i64 (rd x5_1 6), .int .i64 (rd x5_1 7), .bool false, .string (⟨#[]⟩ : ByteArray), .bool false, .string (⟨#[]⟩ : ByteArray), .int .i64 (rd x5_1 8)] 65 (0, 0)) (by (with_reducible repeat (first | refine blk_drewN ?_ _ | refine blk_drew ?_ | refine blk_alloc ?_ _)); exact BK119.out)) : gb119 ≠ gb132)); have n11_ := Aside0.mk ((by rw [hg]; exact Nat.ne_of_gt (blk_lt (g := gb119) (o := .cells #[.int .i64 (rd x5_1 0), .int .i64 (rd x5_1 1), .int .i64 (rd x5_1 2), .int .i64 (rd x5_1 3), .int .i64 (rd x5_1 4), .int .i64 (rd x5_1 5), .int .i64 (rd x5_1 6), .int .i64 (rd x5_1 7), .bool false, .string (⟨#[]⟩ : ByteArray), .bool false, .string (⟨#[]⟩ : ByteArray), .int .i64 (rd x5_1 8)] 65 (0, 0)) (by (with_reducible repeat (first | refine blk_drewN ?_ _ | refine blk_drew ?_ | refine blk_alloc ?_ _)); exact BK119.out)) : gb132 ≠ gb119)); have n12_ := Aside0.mk ((by rw [hg]; exact Nat.ne_of_lt (blk_lt (g := gb127) (o := .cells #[.bool t123, .string t124] 33 (0, 0)) (by (with_reducible repeat (first | refine blk_drewN ?_ _ | refine blk_drew ?_ | refine blk_alloc ?_ _)); exact BK127.out)) : gb127 ≠ gb132)); have n13_ := Aside0.mk ((by rw [hg]; exact Nat.ne_of_gt (blk_lt (g := gb127) (o := .cells #[.bool t123, .string t124] 33 (0, 0)) (by (with_reducible repeat (first | refine blk_drewN ?_ _ | refine blk_drew ?_ | refine blk_alloc ?_ _)); exact BK127.out)) : gb132 ≠ gb127)); clear HO_5; clear BK101; clear BK119; clear BK127; clear HB; have HO_5 := n0_; have BK101 := n1_; have BK119 := n2_; have BK127 := n3_; have HB := n4_; have BK132 := n5_; have GW132 := n6_; have GE132 := n7_; have NB101_132 := n8_; have NB132_101 := n9_; have NB119_132 := n10_; have NB132_119 := n11_; have NB127_132 := n12_; have NB132_127 := n13_; clear n0_ n1_ n2_ n3_ n4_ n5_ n6_ n7_ n8_ n9_ n10_ n11_ n12_ n13_; clear hb hbox hg; have hnb61 := NB132_101.out; have hnc61 := NB101_132.out; have hnb62 := NB132_119.out; have hnc62 := NB119_132.out; have hnb63 := NB132_127.out; have hnc63 := NB127_132.out; obtain ⟨hcz64_0, hcz64_1⟩ := cl2 (W := w60) BK132.out; obtain ⟨hfz64_0, hfz64_1⟩ := fr2 BK132.out))
              (try simp only [Act.put, List.setIfInBounds_toArray, List.set_cons_zero, List.set_cons_succ])
              go_cut [97] (fun v97 wc => ∃ (kq : Nat) (x97_34 : Bool), v97 = .bool x97_34 ∧ Aside0 (seneschalref04_Decode.j1 kq t130 x97_34 (rd x5_1 0) (rd x5_1 1) (rd x5_1 2) (rd x5_1 3) (rd x5_1 4) (rd x5_1 5) (rd x5_1 6) (rd x5_1 7) false (⟨#[]⟩ : ByteArray) false (⟨#[]⟩ : ByteArray) (rd x5_1 8) t123 t124 t128 t129 = some (r1, r2, r3, r4, r5, r6, r7, r8, r9, r10, r11, r12, r13, r14, r15)) ∧ Aside0 (kq ≤ k1) ∧ Aside0 (wc.heap[gb101]? = some (.cells #[.int .i64 x102000_1, .int .i64 x102001_1, .int .i64 x102002_1, .int .i64 x102003_1, .int .i64 x102004_1, .int .i64 x102005_1, .int .i64 x102006_1, .int .i64 x102007_1, .bool x102008_1, .string x102009_1, .bool x102010_1, .string x102011_1, .int .i64 x102012_1] 65 (0, 0))) ∧ Aside0 (wc.heap[gb119]? = some (.cells #[.int .i64 (rd x5_1 0), .int .i64 (rd x5_1 1), .int .i64 (rd x5_1 2), .int .i64 (rd x5_1 3), .int .i64 (rd x5_1 4), .int .i64 (rd x5_1 5), .int .i64 (rd x5_1 6), .int .i64 (rd x5_1 7), .bool false, .string (⟨#[]⟩ : ByteArray), .bool false, .string (⟨#[]⟩ : ByteArray), .int .i64 (rd x5_1 8)] 65 (0, 0))) ∧ Aside0 (wc.heap[gb127]? = some (.cells #[.bool t123, .string t124] 33 (0, 0))) ∧ Aside0 (wc.heap[gb132]? = some (.cells #[.bool t128, .string t129] 33 (0, 0))) ∧ Aside0 (Below w.heap.size w wc))
              case first =>
               have H := HC35.out
               clear HC35
               by_cases c65 : t126 = true
               ·subst c65
                have H1 : (seneschalref04_Decode.j1 k1 t130 (!t131) (rd x5_1 0) (rd x5_1 1) (rd x5_1 2) (rd x5_1 3) (rd x5_1 4) (rd x5_1 5) (rd x5_1 6) (rd x5_1 7) false (⟨#[]⟩ : ByteArray) false (⟨#[]⟩ : ByteArray) (rd x5_1 8) t123 t124 t128 t129) = some (r1, r2, r3, r4, r5, r6, r7, r8, r9, r10, r11, r12, r13, r14, r15) := by rw [if_pos rfl] at H; exact H
                clear H
                have H := H1
                clear H1
                have H' := Aside0.mk H
                clear H
                go_wp2
                go_meet
                case rel => exact ⟨_, (!t131), (by first | rfl | (simp; done) | (simp [*]; done)), H', ⟨by have := HK1.out; first | omega | exact Nat.le_refl _⟩, ⟨by (with_reducible repeat (first | refine blk_drewN ?_ _ | refine blk_drew ?_ | refine blk_alloc ?_ _)); refine blk_far ?_ NB101_132.out _; refine blk_far ?_ NB101_132.out _; (with_reducible repeat (first | refine blk_drewN ?_ _ | refine blk_drew ?_ | refine blk_alloc ?_ _)); exact BK101.out⟩, ⟨by (with_reducible repeat (first | refine blk_drewN ?_ _ | refine blk_drew ?_ | refine blk_alloc ?_ _)); refine blk_far ?_ NB119_132.out _; refine blk_far ?_ NB119_132.out _; (with_reducible repeat (first | refine blk_drewN ?_ _ | refine blk_drew ?_ | refine blk_alloc ?_ _)); exact BK119.out⟩, ⟨by (with_reducible repeat (first | refine blk_drewN ?_ _ | refine blk_drew ?_ | refine blk_alloc ?_ _)); refine blk_far ?_ NB127_132.out _; refine blk_far ?_ NB127_132.out _; (with_reducible repeat (first | refine blk_drewN ?_ _ | refine blk_drew ?_ | refine blk_alloc ?_ _)); exact BK127.out⟩, ⟨by (with_reducible repeat (first | refine blk_drewN ?_ _ | refine blk_drew ?_ | refine blk_alloc ?_ _)); refine blk_put (cs := #[.bool t128, .string (⟨#[]⟩ : ByteArray)]) ?_ 1 _ rfl; refine blk_put (cs := #[.bool false, .string (⟨#[]⟩ : ByteArray)]) ?_ 0 _ rfl; (with_reducible repeat (first | refine blk_drewN ?_ _ | refine blk_drew ?_ | refine blk_alloc ?_ _)); exact BK132.out⟩, ⟨by repeat (first | (with_reducible first | exact HB.out | apply below_alloc | apply pw_below_drewN | apply below_drew1 | refine below_set ?_ GE101.out | refine below_set ?_ GE119.out | refine below_set ?_ GE127.out | refine below_set ?_ GE132.out) | exact HB.out)⟩⟩
               ·replace c65 := Bool.eq_false_iff.mpr c65
                subst c65
                have H1 : (seneschalref04_Decode.j1 k1 t130 true (rd x5_1 0) (rd x5_1 1) (rd x5_1 2) (rd x5_1 3) (rd x5_1 4) (rd x5_1 5) (rd x5_1 6) (rd x5_1 7) false (⟨#[]⟩ : ByteArray) false (⟨#[]⟩ : ByteArray) (rd x5_1 8) t123 t124 t128 t129) = some (r1, r2, r3, r4, r5, r6, r7, r8, r9, r10, r11, r12, r13, r14, r15) := by rw [if_neg (show ¬ (false = true) by decide)] at H; exact H
                clear H
                have H := H1
                clear H1
                have H' := Aside0.mk H
                clear H
                go_wp2
                go_meet
                case rel => exact ⟨_, (true), (by first | rfl | (simp; done) | (simp [*]; done)), H', ⟨by have := HK1.out; first | omega | exact Nat.le_refl _⟩, ⟨by (with_reducible repeat (first | refine blk_drewN ?_ _ | refine blk_drew ?_ | refine blk_alloc ?_ _)); refine blk_far ?_ NB101_132.out _; refine blk_far ?_ NB101_132.out _; (with_reducible repeat (first | refine blk_drewN ?_ _ | refine blk_drew ?_ | refine blk_alloc ?_ _)); exact BK101.out⟩, ⟨by (with_reducible repeat (first | refine blk_drewN ?_ _ | refine blk_drew ?_ | refine blk_alloc ?_ _)); refine blk_far ?_ NB119_132.out _; refine blk_far ?_ NB119_132.out _; (with_reducible repeat (first | refine blk_drewN ?_ _ | refine blk_drew ?_ | refine blk_alloc ?_ _)); exact BK119.out⟩, ⟨by (with_reducible repeat (first | refine blk_drewN ?_ _ | refine blk_drew ?_ | refine blk_alloc ?_ _)); refine blk_far ?_ NB127_132.out _; refine blk_far ?_ NB127_132.out _; (with_reducible repeat (first | refine blk_drewN ?_ _ | refine blk_drew ?_ | refine blk_alloc ?_ _)); exact BK127.out⟩, ⟨by (with_reducible repeat (first | refine blk_drewN ?_ _ | refine blk_drew ?_ | refine blk_alloc ?_ _)); refine blk_put (cs := #[.bool t128, .string (⟨#[]⟩ : ByteArray)]) ?_ 1 _ rfl; refine blk_put (cs := #[.bool false, .string (⟨#[]⟩ : ByteArray)]) ?_ 0 _ rfl; (with_reducible repeat (first | refine blk_drewN ?_ _ | refine blk_drew ?_ | refine blk_alloc ?_ _)); exact BK132.out⟩, ⟨by repeat (first | (with_reducible first | exact HB.out | apply below_alloc | apply pw_below_drewN | apply below_drew1 | refine below_set ?_ GE101.out | refine below_set ?_ GE119.out | refine below_set ?_ GE127.out | refine below_set ?_ GE132.out) | exact HB.out)⟩⟩
              case rest =>
               clear HC35
               try clear c1
               try clear p1
               try clear q1
               try clear hx1
               try clear qi1
               try clear c2
               try clear p2
               try clear c3
               try clear c5
               try clear c6
               try clear c11
               try clear p11
               try clear q11
               try clear hx11
               try clear qi11
               try clear p12
               try clear q12
               try clear hx12
               try clear qi12
               try clear c23
               try clear c23b0
               try clear c23b1
               try clear c24
               try clear c24b0
               try clear c24b1
               try clear c25
               try clear c25b0
               try clear c25b1
               try clear c26
               try clear c26b0
               try clear c26b1
               try clear c27
               try clear c27b0
               try clear c27b1
               try clear c28
               try clear c28b0
               try clear c28b1
               try clear c29
               try clear c29b0
               try clear c29b1
               try clear c30
               try clear c30b0
               try clear c30b1
               try clear c31
               try clear c31b0
               try clear c31b1
               try clear c32
               try clear c32b0
               try clear c32b1
               try clear c52
               try clear c56
               try clear c57
               try clear c61
               try clear c62
               try clear c63
               try clear c65
               try clear hcz53_0
               try clear hcz53_1
               try clear hcz53_10
               try clear hcz53_11
               try clear hcz53_12
               try clear hcz53_2
               try clear hcz53_3
               try clear hcz53_4
               try clear hcz53_5
               try clear hcz53_6
               try clear hcz53_7
               try clear hcz53_8
               try clear hcz53_9
               try clear hcz58_0
               try clear hcz58_1
               try clear hcz64_0
               try clear hcz64_1
               try clear hfz53_0
               try clear hfz53_1
               try clear hfz53_10
               try clear hfz53_11
               try clear hfz53_12
               try clear hfz53_2
               try clear hfz53_3
               try clear hfz53_4
               try clear hfz53_5
               try clear hfz53_6
               try clear hfz53_7
               try clear hfz53_8
               try clear hfz53_9
               try clear hfz58_0
               try clear hfz58_1
               try clear hfz64_0
               try clear hfz64_1
               try clear hx113_0
               try clear hx114_0
               try clear hx115_0
               try clear hx116_0
               try clear hx117_0
               try clear hx118_0
               try clear hx120_0
               try clear hx121_0
               try clear hx122_0
               try clear p113
               try clear p114
               try clear p115
               try clear p116
               try clear p117
               try clear p118
               try clear p120
               try clear p121
               try clear p122
               try clear q113
               try clear q114
               try clear q115
               try clear q116
               try clear q117
               try clear q118
               try clear q120
               try clear q121
               try clear q122
               obtain ⟨kq, x97_34, rfl, HA, HJ34, BK101, BK119, BK127, BK132, HB⟩ := hcut
               cases kq with
               | zero => exact absurd HA.out (by simp [seneschalref04_Decode.j1])
               | succ kj34 =>
                have H := HA.out
                clear HA
                simp only [seneschalref04_Decode.j1] at H
                by_cases c66 : x97_34 = true
                ·subst c66
                 have H1 : (some (0, 0, 0, 0, 0, 0, 0, 0, false, (⟨#[]⟩ : ByteArray), false, (⟨#[]⟩ : ByteArray), 0, (⟨#[]⟩ : ByteArray), 4)) = some (r1, r2, r3, r4, r5, r6, r7, r8, r9, r10, r11, r12, r13, r14, r15) := by rw [if_pos rfl] at H; exact H
                 clear H
                 have H := H1
                 clear H1
                 simp only [Option.some.injEq, Prod.mk.injEq] at H
                 obtain ⟨rfl, rfl, rfl, rfl, rfl, rfl, rfl, rfl, rfl, rfl, rfl, rfl, rfl, rfl, rfl⟩ := H
                 have hnb67 := NB101_119.out
                 have hnc67 := NB119_101.out
                 have hnb68 := NB101_127.out
                 have hnc68 := NB127_101.out
                 have hnb69 := NB101_132.out
                 have hnc69 := NB132_101.out
                 obtain ⟨hcz70_0, hcz70_1, hcz70_2, hcz70_3, hcz70_4, hcz70_5, hcz70_6, hcz70_7, hcz70_8, hcz70_9, hcz70_10, hcz70_11, hcz70_12⟩ := cl13 (W := wc) BK101.out
                 obtain ⟨hfz70_0, hfz70_1, hfz70_2, hfz70_3, hfz70_4, hfz70_5, hfz70_6, hfz70_7, hfz70_8, hfz70_9, hfz70_10, hfz70_11, hfz70_12⟩ := fr13 BK101.out
                 go_wp2
                 refine bodyPost_ret (results_ctt rfl _ _ gb101 65 #[.int .i64 0, .int .i64 0, .int .i64 0, .int .i64 0, .int .i64 0, .int .i64 0, .int .i64 0, .int .i64 0, .bool false, .string (⟨#[]⟩ : ByteArray), .bool false, .string (⟨#[]⟩ : ByteArray), .int .i64 0] (0, 0) _ rfl (by (with_reducible repeat (first | refine blk_drewN ?_ _ | refine blk_drew ?_ | refine blk_alloc ?_ _)); refine blk_put (cs := #[.int .i64 0, .int .i64 0, .int .i64 0, .int .i64 0, .int .i64 0, .int .i64 0, .int .i64 0, .int .i64 0, .bool false, .string (⟨#[]⟩ : ByteArray), .bool false, .string (⟨#[]⟩ : ByteArray), .int .i64 x102012_1]) ?_ 12 _ rfl; refine blk_put (cs := #[.int .i64 0, .int .i64 0, .int .i64 0, .int .i64 0, .int .i64 0, .int .i64 0, .int .i64 0, .int .i64 0, .bool false, .string (⟨#[]⟩ : ByteArray), .bool false, .string x102011_1, .int .i64 x102012_1]) ?_ 11 _ rfl; refine blk_put (cs := #[.int .i64 0, .int .i64 0, .int .i64 0, .int .i64 0, .int .i64 0, .int .i64 0, .int .i64 0, .int .i64 0, .bool false, .string (⟨#[]⟩ : ByteArray), .bool x102010_1, .string x102011_1, .int .i64 x102012_1]) ?_ 10 _ rfl; refine blk_put (cs := #[.int .i64 0, .int .i64 0, .int .i64 0, .int .i64 0, .int .i64 0, .int .i64 0, .int .i64 0, .int .i64 0, .bool false, .string x102009_1, .bool x102010_1, .string x102011_1, .int .i64 x102012_1]) ?_ 9 _ rfl; refine blk_put (cs := #[.int .i64 0, .int .i64 0, .int .i64 0, .int .i64 0, .int .i64 0, .int .i64 0, .int .i64 0, .int .i64 0, .bool x102008_1, .string x102009_1, .bool x102010_1, .string x102011_1, .int .i64 x102012_1]) ?_ 8 _ rfl; refine blk_put (cs := #[.int .i64 0, .int .i64 0, .int .i64 0, .int .i64 0, .int .i64 0, .int .i64 0, .int .i64 0, .int .i64 x102007_1, .bool x102008_1, .string x102009_1, .bool x102010_1, .string x102011_1, .int .i64 x102012_1]) ?_ 7 _ rfl; refine blk_put (cs := #[.int .i64 0, .int .i64 0, .int .i64 0, .int .i64 0, .int .i64 0, .int .i64 0, .int .i64 x102006_1, .int .i64 x102007_1, .bool x102008_1, .string x102009_1, .bool x102010_1, .string x102011_1, .int .i64 x102012_1]) ?_ 6 _ rfl; refine blk_put (cs := #[.int .i64 0, .int .i64 0, .int .i64 0, .int .i64 0, .int .i64 0, .int .i64 x102005_1, .int .i64 x102006_1, .int .i64 x102007_1, .bool x102008_1, .string x102009_1, .bool x102010_1, .string x102011_1, .int .i64 x102012_1]) ?_ 5 _ rfl; refine blk_put (cs := #[.int .i64 0, .int .i64 0, .int .i64 0, .int .i64 0, .int .i64 x102004_1, .int .i64 x102005_1, .int .i64 x102006_1, .int .i64 x102007_1, .bool x102008_1, .string x102009_1, .bool x102010_1, .string x102011_1, .int .i64 x102012_1]) ?_ 4 _ rfl; refine blk_put (cs := #[.int .i64 0, .int .i64 0, .int .i64 0, .int .i64 x102003_1, .int .i64 x102004_1, .int .i64 x102005_1, .int .i64 x102006_1, .int .i64 x102007_1, .bool x102008_1, .string x102009_1, .bool x102010_1, .string x102011_1, .int .i64 x102012_1]) ?_ 3 _ rfl; refine blk_put (cs := #[.int .i64 0, .int .i64 0, .int .i64 x102002_1, .int .i64 x102003_1, .int .i64 x102004_1, .int .i64 x102005_1, .int .i64 x102006_1, .int .i64 x102007_1, .bool x102008_1, .string x102009_1, .bool x102010_1, .string x102011_1, .int .i64 x102012_1]) ?_ 2 _ rfl; refine blk_put (cs := #[.int .i64 0, .int .i64 x102001_1, .int .i64 x102002_1, .int .i64 x102003_1, .int .i64 x102004_1, .int .i64 x102005_1, .int .i64 x102006_1, .int .i64 x102007_1, .bool x102008_1, .string x102009_1, .bool x102010_1, .string x102011_1, .int .i64 x102012_1]) ?_ 1 _ rfl; refine blk_put (cs := #[.int .i64 x102000_1, .int .i64 x102001_1, .int .i64 x102002_1, .int .i64 x102003_1, .int .i64 x102004_1, .int .i64 x102005_1, .int .i64 x102006_1, .int .i64 x102007_1, .bool x102008_1, .string x102009_1, .bool x102010_1, .string x102011_1, .int .i64 x102012_1]) ?_ 0 _ rfl; (with_reducible repeat (first | refine blk_drewN ?_ _ | refine blk_drew ?_ | refine blk_alloc ?_ _)); exact BK101.out) Try.underlying65 rfl (by kernel_rfl)) rfl ?_
                 exact ⟨by first | rfl | (simp [errW_none, errW_some] <;> rfl) | (simp [*, errW_none, errW_some] <;> rfl), by repeat (first | (with_reducible first | exact HB.out | apply below_alloc | apply pw_below_drewN | apply below_drew1 | refine below_set ?_ GE101.out | refine below_set ?_ GE119.out | refine below_set ?_ GE127.out | refine below_set ?_ GE132.out) | exact HB.out)⟩
                ·replace c66 := Bool.eq_false_iff.mpr c66
                 subst c66
                 have H1 : ((refGood4.f (rd x5_1 0) (rd x5_1 1) (rd x5_1 2) (rd x5_1 3) (rd x5_1 4) (rd x5_1 5) (rd x5_1 6) (rd x5_1 7) t123 t124 t128 t129 (rd x5_1 8)).bind fun t133 => (if t133 = true then (some ((rd x5_1 0), (rd x5_1 1), (rd x5_1 2), (rd x5_1 3), (rd x5_1 4), (rd x5_1 5), (rd x5_1 6), (rd x5_1 7), t123, t124, t128, t129, (rd x5_1 8), t130, 0)) else (some (0, 0, 0, 0, 0, 0, 0, 0, false, (⟨#[]⟩ : ByteArray), false, (⟨#[]⟩ : ByteArray), 0, (⟨#[]⟩ : ByteArray), 4)))) = some (r1, r2, r3, r4, r5, r6, r7, r8, r9, r10, r11, r12, r13, r14, r15) := by rw [if_neg (show ¬ (false = true) by decide)] at H; exact H
                 clear H
                 have H := H1
                 clear H1
                 replace H := Option.bind_eq_some_iff.mp H
                 obtain ⟨t133, A710, H⟩ := H
                 replace H : (if t133 = true then (some ((rd x5_1 0), (rd x5_1 1), (rd x5_1 2), (rd x5_1 3), (rd x5_1 4), (rd x5_1 5), (rd x5_1 6), (rd x5_1 7), t123, t124, t128, t129, (rd x5_1 8), t130, 0)) else (some (0, 0, 0, 0, 0, 0, 0, 0, false, (⟨#[]⟩ : ByteArray), false, (⟨#[]⟩ : ByteArray), 0, (⟨#[]⟩ : ByteArray), 4))) = some (r1, r2, r3, r4, r5, r6, r7, r8, r9, r10, r11, r12, r13, r14, r15) := H
                 have A71 := Aside0.mk A710
                 clear A710
                 by_cases c72 : t133 = true
                 ·subst c72
                  have H1 : (some ((rd x5_1 0), (rd x5_1 1), (rd x5_1 2), (rd x5_1 3), (rd x5_1 4), (rd x5_1 5), (rd x5_1 6), (rd x5_1 7), t123, t124, t128, t129, (rd x5_1 8), t130, 0)) = some (r1, r2, r3, r4, r5, r6, r7, r8, r9, r10, r11, r12, r13, r14, r15) := by rw [if_pos rfl] at H; exact H
                  clear H
                  have H := H1
                  clear H1
                  simp only [Option.some.injEq, Prod.mk.injEq] at H
                  obtain ⟨rfl, rfl, rfl, rfl, rfl, rfl, rfl, rfl, rfl, rfl, rfl, rfl, rfl, rfl, rfl⟩ := H
                  have hnb73 := NB127_101.out
                  have hnc73 := NB101_127.out
                  have hnb74 := NB127_119.out
                  have hnc74 := NB119_127.out
                  have hnb75 := NB127_132.out
                  have hnc75 := NB132_127.out
                  obtain ⟨hcz76_0, hcz76_1⟩ := cl2 (W := wc) BK127.out
                  obtain ⟨hfz76_0, hfz76_1⟩ := fr2 BK127.out
                  have hnb77 := NB119_101.out
                  have hnc77 := NB101_119.out
                  have hnb78 := NB119_132.out
                  have hnc78 := NB132_119.out
                  obtain ⟨hcz79_0, hcz79_1, hcz79_2, hcz79_3, hcz79_4, hcz79_5, hcz79_6, hcz79_7, hcz79_8, hcz79_9, hcz79_10, hcz79_11, hcz79_12⟩ := cl13 (W := wc) BK119.out
                  obtain ⟨hfz79_0, hfz79_1, hfz79_2, hfz79_3, hfz79_4, hfz79_5, hfz79_6, hfz79_7, hfz79_8, hfz79_9, hfz79_10, hfz79_11, hfz79_12⟩ := fr13 BK119.out
                  have hnb80 := NB132_101.out
                  have hnc80 := NB101_132.out
                  obtain ⟨hcz81_0, hcz81_1⟩ := cl2 (W := wc) BK132.out
                  obtain ⟨hfz81_0, hfz81_1⟩ := fr2 BK132.out
                  go_wp2_with (first | ((with_reducible refine gate_callee (f := 56) rfl ?_); refine goesL_ (some 105) rfl rfl Try.func56 (by kernel_rfl) rfl #[.agg #[.int .i64 (rd x5_1 0), .int .i64 (rd x5_1 1), .int .i64 (rd x5_1 2), .int .i64 (rd x5_1 3), .int .i64 (rd x5_1 4), .int .i64 (rd x5_1 5), .int .i64 (rd x5_1 6), .int .i64 (rd x5_1 7), .bool t123, .string t124, .bool t128, .string t129, .int .i64 (rd x5_1 8)]] rfl (by (try simp only [List.map_toArray, List.map_cons, List.map_nil]); first | done | rfl | (simp only [List.length_drop, List.length_take]; rfl)) ?_; (with_reducible refine (refGood4.calls (rd x5_1 0) (rd x5_1 1) (rd x5_1 2) (rd x5_1 3) (rd x5_1 4) (rd x5_1 5) (rd x5_1 6) (rd x5_1 7) t123 t124 t128 t129 (rd x5_1 8) true _ A71.out).mono ?_); rintro e w82 ⟨rfl, hb⟩; refine ⟨_, rfl, ?_⟩; have n0_ := Aside0.mk (blk_below (g := gb101) (o := .cells #[.int .i64 x102000_1, .int .i64 x102001_1, .int .i64 x102002_1, .int .i64 x102003_1, .int .i64 x102004_1, .int .i64 x102005_1, .int .i64 x102006_1, .int .i64 x102007_1, .bool x102008_1, .string x102009_1, .bool x102010_1, .string x102011_1, .int .i64 x102012_1] 65 (0, 0)) (by (with_reducible repeat (first | refine blk_drewN ?_ _ | refine blk_drew ?_ | refine blk_alloc ?_ _)); refine blk_far ?_ NB101_119.out _; refine blk_far ?_ NB101_119.out _; refine blk_far ?_ NB101_119.out _; refine blk_far ?_ NB101_119.out _; (with_reducible repeat (first | refine blk_drewN ?_ _ | refine blk_drew ?_ | refine blk_alloc ?_ _)); exact BK101.out) hb); have n1_ := Aside0.mk (blk_below (g := gb119) (o := .cells #[.int .i64 (rd x5_1 0), .int .i64 (rd x5_1 1), .int .i64 (rd x5_1 2), .int .i64 (rd x5_1 3), .int .i64 (rd x5_1 4), .int .i64 (rd x5_1 5), .int .i64 (rd x5_1 6), .int .i64 (rd x5_1 7), .bool t123, .string t124, .bool t128, .string t129, .int .i64 (rd x5_1 8)] 65 (0, 0)) (by (with_reducible repeat (first | refine blk_drewN ?_ _ | refine blk_drew ?_ | refine blk_alloc ?_ _)); refine blk_put (cs := #[.int .i64 (rd x5_1 0), .int .i64 (rd x5_1 1), .int .i64 (rd x5_1 2), .int .i64 (rd x5_1 3), .int .i64 (rd x5_1 4), .int .i64 (rd x5_1 5), .int .i64 (rd x5_1 6), .int .i64 (rd x5_1 7), .bool t123, .string t124, .bool t128, .string (⟨#[]⟩ : ByteArray), .int .i64 (rd x5_1 8)]) ?_ 11 _ rfl; refine blk_put (cs := #[.int .i64 (rd x5_1 0), .int .i64 (rd x5_1 1), .int .i64 (rd x5_1 2), .int .i64 (rd x5_1 3), .int .i64 (rd x5_1 4), .int .i64 (rd x5_1 5), .int .i64 (rd x5_1 6), .int .i64 (rd x5_1 7), .bool t123, .string t124, .bool false, .string (⟨#[]⟩ : ByteArray), .int .i64 (rd x5_1 8)]) ?_ 10 _ rfl; refine blk_put (cs := #[.int .i64 (rd x5_1 0), .int .i64 (rd x5_1 1), .int .i64 (rd x5_1 2), .int .i64 (rd x5_1 3), .int .i64 (rd x5_1 4), .int .i64 (rd x5_1 5), .int .i64 (rd x5_1 6), .int .i64 (rd x5_1 7), .bool t123, .string (⟨#[]⟩ : ByteArray), .bool false, .string (⟨#[]⟩ : ByteArray), .int .i64 (rd x5_1 8)]) ?_ 9 _ rfl; refine blk_put (cs := #[.int .i64 (rd x5_1 0), .int .i64 (rd x5_1 1), .int .i64 (rd x5_1 2), .int .i64 (rd x5_1 3), .int .i64 (rd x5_1 4), .int .i64 (rd x5_1 5), .int .i64 (rd x5_1 6), .int .i64 (rd x5_1 7), .bool false, .string (⟨#[]⟩ : ByteArray), .bool false, .string (⟨#[]⟩ : ByteArray), .int .i64 (rd x5_1 8)]) ?_ 8 _ rfl; (with_reducible repeat (first | refine blk_drewN ?_ _ | refine blk_drew ?_ | refine blk_alloc ?_ _)); exact BK119.out) hb); have n2_ := Aside0.mk (blk_below (g := gb127) (o := .cells #[.bool t123, .string t124] 33 (0, 0)) (by (with_reducible repeat (first | refine blk_drewN ?_ _ | refine blk_drew ?_ | refine blk_alloc ?_ _)); refine blk_far ?_ NB127_119.out _; refine blk_far ?_ NB127_119.out _; refine blk_far ?_ NB127_119.out _; refine blk_far ?_ NB127_119.out _; (with_reducible repeat (first | refine blk_drewN ?_ _ | refine blk_drew ?_ | refine blk_alloc ?_ _)); exact BK127.out) hb); have n3_ := Aside0.mk (blk_below (g := gb132) (o := .cells #[.bool t128, .string t129] 33 (0, 0)) (by (with_reducible repeat (first | refine blk_drewN ?_ _ | refine blk_drew ?_ | refine blk_alloc ?_ _)); refine blk_far ?_ NB132_119.out _; refine blk_far ?_ NB132_119.out _; refine blk_far ?_ NB132_119.out _; refine blk_far ?_ NB132_119.out _; (with_reducible repeat (first | refine blk_drewN ?_ _ | refine blk_drew ?_ | refine blk_alloc ?_ _)); exact BK132.out) hb); have n4_ := Aside0.mk (below_step (by repeat (first | (with_reducible first | exact HB.out | apply below_alloc | apply pw_below_drewN | apply below_drew1 | refine below_set ?_ GE101.out | refine below_set ?_ GE119.out | refine below_set ?_ GE127.out | refine below_set ?_ GE132.out) | exact HB.out)) hb); clear BK101; clear BK119; clear BK127; clear BK132; clear HB; have BK101 := n0_; have BK119 := n1_; have BK127 := n2_; have BK132 := n3_; have HB := n4_; clear n0_ n1_ n2_ n3_ n4_; (try clear hb); (try clear hb2); (try clear hk); (try clear hi); obtain ⟨hcz83_0, hcz83_1, hcz83_2, hcz83_3, hcz83_4, hcz83_5, hcz83_6, hcz83_7, hcz83_8, hcz83_9, hcz83_10, hcz83_11, hcz83_12⟩ := cl13 (W := w82) BK119.out; obtain ⟨hfz83_0, hfz83_1, hfz83_2, hfz83_3, hfz83_4, hfz83_5, hfz83_6, hfz83_7, hfz83_8, hfz83_9, hfz83_10, hfz83_11, hfz83_12⟩ := fr13 BK119.out; obtain ⟨hcz84_0, hcz84_1, hcz84_2, hcz84_3, hcz84_4, hcz84_5, hcz84_6, hcz84_7, hcz84_8, hcz84_9, hcz84_10, hcz84_11, hcz84_12⟩ := cl13 (W := w82) BK101.out; obtain ⟨hfz84_0, hfz84_1, hfz84_2, hfz84_3, hfz84_4, hfz84_5, hfz84_6, hfz84_7, hfz84_8, hfz84_9, hfz84_10, hfz84_11, hfz84_12⟩ := fr13 BK101.out))
                  refine bodyPost_ret (results_ctt rfl _ _ gb101 65 #[.int .i64 (rd x5_1 0), .int .i64 (rd x5_1 1), .int .i64 (rd x5_1 2), .int .i64 (rd x5_1 3), .int .i64 (rd x5_1 4), .int .i64 (rd x5_1 5), .int .i64 (rd x5_1 6), .int .i64 (rd x5_1 7), .bool t123, .string t124, .bool t128, .string t129, .int .i64 (rd x5_1 8)] (0, 0) _ rfl (by (with_reducible repeat (first | refine blk_drewN ?_ _ | refine blk_drew ?_ | refine blk_alloc ?_ _)); refine blk_put (cs := #[.int .i64 (rd x5_1 0), .int .i64 (rd x5_1 1), .int .i64 (rd x5_1 2), .int .i64 (rd x5_1 3), .int .i64 (rd x5_1 4), .int .i64 (rd x5_1 5), .int .i64 (rd x5_1 6), .int .i64 (rd x5_1 7), .bool t123, .string t124, .bool t128, .string t129, .int .i64 x102012_1]) ?_ 12 _ rfl; refine blk_put (cs := #[.int .i64 (rd x5_1 0), .int .i64 (rd x5_1 1), .int .i64 (rd x5_1 2), .int .i64 (rd x5_1 3), .int .i64 (rd x5_1 4), .int .i64 (rd x5_1 5), .int .i64 (rd x5_1 6), .int .i64 (rd x5_1 7), .bool t123, .string t124, .bool t128, .string x102011_1, .int .i64 x102012_1]) ?_ 11 _ rfl; refine blk_put (cs := #[.int .i64 (rd x5_1 0), .int .i64 (rd x5_1 1), .int .i64 (rd x5_1 2), .int .i64 (rd x5_1 3), .int .i64 (rd x5_1 4), .int .i64 (rd x5_1 5), .int .i64 (rd x5_1 6), .int .i64 (rd x5_1 7), .bool t123, .string t124, .bool x102010_1, .string x102011_1, .int .i64 x102012_1]) ?_ 10 _ rfl; refine blk_put (cs := #[.int .i64 (rd x5_1 0), .int .i64 (rd x5_1 1), .int .i64 (rd x5_1 2), .int .i64 (rd x5_1 3), .int .i64 (rd x5_1 4), .int .i64 (rd x5_1 5), .int .i64 (rd x5_1 6), .int .i64 (rd x5_1 7), .bool t123, .string x102009_1, .bool x102010_1, .string x102011_1, .int .i64 x102012_1]) ?_ 9 _ rfl; refine blk_put (cs := #[.int .i64 (rd x5_1 0), .int .i64 (rd x5_1 1), .int .i64 (rd x5_1 2), .int .i64 (rd x5_1 3), .int .i64 (rd x5_1 4), .int .i64 (rd x5_1 5), .int .i64 (rd x5_1 6), .int .i64 (rd x5_1 7), .bool x102008_1, .string x102009_1, .bool x102010_1, .string x102011_1, .int .i64 x102012_1]) ?_ 8 _ rfl; refine blk_put (cs := #[.int .i64 (rd x5_1 0), .int .i64 (rd x5_1 1), .int .i64 (rd x5_1 2), .int .i64 (rd x5_1 3), .int .i64 (rd x5_1 4), .int .i64 (rd x5_1 5), .int .i64 (rd x5_1 6), .int .i64 x102007_1, .bool x102008_1, .string x102009_1, .bool x102010_1, .string x102011_1, .int .i64 x102012_1]) ?_ 7 _ rfl; refine blk_put (cs := #[.int .i64 (rd x5_1 0), .int .i64 (rd x5_1 1), .int .i64 (rd x5_1 2), .int .i64 (rd x5_1 3), .int .i64 (rd x5_1 4), .int .i64 (rd x5_1 5), .int .i64 x102006_1, .int .i64 x102007_1, .bool x102008_1, .string x102009_1, .bool x102010_1, .string x102011_1, .int .i64 x102012_1]) ?_ 6 _ rfl; refine blk_put (cs := #[.int .i64 (rd x5_1 0), .int .i64 (rd x5_1 1), .int .i64 (rd x5_1 2), .int .i64 (rd x5_1 3), .int .i64 (rd x5_1 4), .int .i64 x102005_1, .int .i64 x102006_1, .int .i64 x102007_1, .bool x102008_1, .string x102009_1, .bool x102010_1, .string x102011_1, .int .i64 x102012_1]) ?_ 5 _ rfl; refine blk_put (cs := #[.int .i64 (rd x5_1 0), .int .i64 (rd x5_1 1), .int .i64 (rd x5_1 2), .int .i64 (rd x5_1 3), .int .i64 x102004_1, .int .i64 x102005_1, .int .i64 x102006_1, .int .i64 x102007_1, .bool x102008_1, .string x102009_1, .bool x102010_1, .string x102011_1, .int .i64 x102012_1]) ?_ 4 _ rfl; refine blk_put (cs := #[.int .i64 (rd x5_1 0), .int .i64 (rd x5_1 1), .int .i64 (rd x5_1 2), .int .i64 x102003_1, .int .i64 x102004_1, .int .i64 x102005_1, .int .i64 x102006_1, .int .i64 x102007_1, .bool x102008_1, .string x102009_1, .bool x102010_1, .string x102011_1, .int .i64 x102012_1]) ?_ 3 _ rfl; refine blk_put (cs := #[.int .i64 (rd x5_1 0), .int .i64 (rd x5_1 1), .int .i64 x102002_1, .int .i64 x102003_1, .int .i64 x102004_1, .int .i64 x102005_1, .int .i64 x102006_1, .int .i64 x102007_1, .bool x102008_1, .string x102009_1, .bool x102010_1, .string x102011_1, .int .i64 x102012_1]) ?_ 2 _ rfl; refine blk_put (cs := #[.int .i64 (rd x5_1 0), .int .i64 x102001_1, .int .i64 x102002_1, .int .i64 x102003_1, .int .i64 x102004_1, .int .i64 x102005_1, .int .i64 x102006_1, .int .i64 x102007_1, .bool x102008_1, .string x102009_1, .bool x102010_1, .string x102011_1, .int .i64 x102012_1]) ?_ 1 _ rfl; refine blk_put (cs := #[.int .i64 x102000_1, .int .i64 x102001_1, .int .i64 x102002_1, .int .i64 x102003_1, .int .i64 x102004_1, .int .i64 x102005_1, .int .i64 x102006_1, .int .i64 x102007_1, .bool x102008_1, .string x102009_1, .bool x102010_1, .string x102011_1, .int .i64 x102012_1]) ?_ 0 _ rfl; (with_reducible repeat (first | refine blk_drewN ?_ _ | refine blk_drew ?_ | refine blk_alloc ?_ _)); exact BK101.out) Try.underlying65 rfl (by kernel_rfl)) rfl ?_
                  exact ⟨by first | rfl | (simp [errW_none, errW_some] <;> rfl) | (simp [*, errW_none, errW_some] <;> rfl), by repeat (first | (with_reducible first | exact HB.out | apply below_alloc | apply pw_below_drewN | apply below_drew1 | refine below_set ?_ GE101.out | refine below_set ?_ GE119.out | refine below_set ?_ GE127.out | refine below_set ?_ GE132.out) | exact HB.out)⟩
                 ·replace c72 := Bool.eq_false_iff.mpr c72
                  subst c72
                  have H1 : (some (0, 0, 0, 0, 0, 0, 0, 0, false, (⟨#[]⟩ : ByteArray), false, (⟨#[]⟩ : ByteArray), 0, (⟨#[]⟩ : ByteArray), 4)) = some (r1, r2, r3, r4, r5, r6, r7, r8, r9, r10, r11, r12, r13, r14, r15) := by rw [if_neg (show ¬ (false = true) by decide)] at H; exact H
                  clear H
                  have H := H1
                  clear H1
                  simp only [Option.some.injEq, Prod.mk.injEq] at H
                  obtain ⟨rfl, rfl, rfl, rfl, rfl, rfl, rfl, rfl, rfl, rfl, rfl, rfl, rfl, rfl, rfl⟩ := H
                  have hnb85 := NB127_101.out
                  have hnc85 := NB101_127.out
                  have hnb86 := NB127_119.out
                  have hnc86 := NB119_127.out
                  have hnb87 := NB127_132.out
                  have hnc87 := NB132_127.out
                  obtain ⟨hcz88_0, hcz88_1⟩ := cl2 (W := wc) BK127.out
                  obtain ⟨hfz88_0, hfz88_1⟩ := fr2 BK127.out
                  have hnb89 := NB119_101.out
                  have hnc89 := NB101_119.out
                  have hnb90 := NB119_132.out
                  have hnc90 := NB132_119.out
                  obtain ⟨hcz91_0, hcz91_1, hcz91_2, hcz91_3, hcz91_4, hcz91_5, hcz91_6, hcz91_7, hcz91_8, hcz91_9, hcz91_10, hcz91_11, hcz91_12⟩ := cl13 (W := wc) BK119.out
                  obtain ⟨hfz91_0, hfz91_1, hfz91_2, hfz91_3, hfz91_4, hfz91_5, hfz91_6, hfz91_7, hfz91_8, hfz91_9, hfz91_10, hfz91_11, hfz91_12⟩ := fr13 BK119.out
                  have hnb92 := NB132_101.out
                  have hnc92 := NB101_132.out
                  obtain ⟨hcz93_0, hcz93_1⟩ := cl2 (W := wc) BK132.out
                  obtain ⟨hfz93_0, hfz93_1⟩ := fr2 BK132.out
                  go_wp2_with (first | ((with_reducible refine gate_callee (f := 56) rfl ?_); refine goesL_ (some 105) rfl rfl Try.func56 (by kernel_rfl) rfl #[.agg #[.int .i64 (rd x5_1 0), .int .i64 (rd x5_1 1), .int .i64 (rd x5_1 2), .int .i64 (rd x5_1 3), .int .i64 (rd x5_1 4), .int .i64 (rd x5_1 5), .int .i64 (rd x5_1 6), .int .i64 (rd x5_1 7), .bool t123, .string t124, .bool t128, .string t129, .int .i64 (rd x5_1 8)]] rfl (by (try simp only [List.map_toArray, List.map_cons, List.map_nil]); first | done | rfl | (simp only [List.length_drop, List.length_take]; rfl)) ?_; (with_reducible refine (refGood4.calls (rd x5_1 0) (rd x5_1 1) (rd x5_1 2) (rd x5_1 3) (rd x5_1 4) (rd x5_1 5) (rd x5_1 6) (rd x5_1 7) t123 t124 t128 t129 (rd x5_1 8) false _ A71.out).mono ?_); rintro e w94 ⟨rfl, hb⟩; refine ⟨_, rfl, ?_⟩; have n0_ := Aside0.mk (blk_below (g := gb101) (o := .cells #[.int .i64 x102000_1, .int .i64 x102001_1, .int .i64 x102002_1, .int .i64 x102003_1, .int .i64 x102004_1, .int .i64 x102005_1, .int .i64 x102006_1, .int .i64 x102007_1, .bool x102008_1, .string x102009_1, .bool x102010_1, .string x102011_1, .int .i64 x102012_1] 65 (0, 0)) (by (with_reducible repeat (first | refine blk_drewN ?_ _ | refine blk_drew ?_ | refine blk_alloc ?_ _)); refine blk_far ?_ NB101_119.out _; refine blk_far ?_ NB101_119.out _; refine blk_far ?_ NB101_119.out _; refine blk_far ?_ NB101_119.out _; (with_reducible repeat (first | refine blk_drewN ?_ _ | refine blk_drew ?_ | refine blk_alloc ?_ _)); exact BK101.out) hb); have n1_ := Aside0.mk (blk_below (g := gb119) (o := .cells #[.int .i64 (rd x5_1 0), .int .i64 (rd x5_1 1), .int .i64 (rd x5_1 2), .int .i64 (rd x5_1 3), .int .i64 (rd x5_1 4), .int .i64 (rd x5_1 5), .int .i64 (rd x5_1 6), .int .i64 (rd x5_1 7), .bool t123, .string t124, .bool t128, .string t129, .int .i64 (rd x5_1 8)] 65 (0, 0)) (by (with_reducible repeat (first | refine blk_drewN ?_ _ | refine blk_drew ?_ | refine blk_alloc ?_ _)); refine blk_put (cs := #[.int .i64 (rd x5_1 0), .int .i64 (rd x5_1 1), .int .i64 (rd x5_1 2), .int .i64 (rd x5_1 3), .int .i64 (rd x5_1 4), .int .i64 (rd x5_1 5), .int .i64 (rd x5_1 6), .int .i64 (rd x5_1 7), .bool t123, .string t124, .bool t128, .string (⟨#[]⟩ : ByteArray), .int .i64 (rd x5_1 8)]) ?_ 11 _ rfl; refine blk_put (cs := #[.int .i64 (rd x5_1 0), .int .i64 (rd x5_1 1), .int .i64 (rd x5_1 2), .int .i64 (rd x5_1 3), .int .i64 (rd x5_1 4), .int .i64 (rd x5_1 5), .int .i64 (rd x5_1 6), .int .i64 (rd x5_1 7), .bool t123, .string t124, .bool false, .string (⟨#[]⟩ : ByteArray), .int .i64 (rd x5_1 8)]) ?_ 10 _ rfl; refine blk_put (cs := #[.int .i64 (rd x5_1 0), .int .i64 (rd x5_1 1), .int .i64 (rd x5_1 2), .int .i64 (rd x5_1 3), .int .i64 (rd x5_1 4), .int .i64 (rd x5_1 5), .int .i64 (rd x5_1 6), .int .i64 (rd x5_1 7), .bool t123, .string (⟨#[]⟩ : ByteArray), .bool false, .string (⟨#[]⟩ : ByteArray), .int .i64 (rd x5_1 8)]) ?_ 9 _ rfl; refine blk_put (cs := #[.int .i64 (rd x5_1 0), .int .i64 (rd x5_1 1), .int .i64 (rd x5_1 2), .int .i64 (rd x5_1 3), .int .i64 (rd x5_1 4), .int .i64 (rd x5_1 5), .int .i64 (rd x5_1 6), .int .i64 (rd x5_1 7), .bool false, .string (⟨#[]⟩ : ByteArray), .bool false, .string (⟨#[]⟩ : ByteArray), .int .i64 (rd x5_1 8)]) ?_ 8 _ rfl; (with_reducible repeat (first | refine blk_drewN ?_ _ | refine blk_drew ?_ | refine blk_alloc ?_ _)); exact BK119.out) hb); have n2_ := Aside0.mk (blk_below (g := gb127) (o := .cells #[.bool t123, .string t124] 33 (0, 0)) (by (with_reducible repeat (first | refine blk_drewN ?_ _ | refine blk_drew ?_ | refine blk_alloc ?_ _)); refine blk_far ?_ NB127_119.out _; refine blk_far ?_ NB127_119.out _; refine blk_far ?_ NB127_119.out _; refine blk_far ?_ NB127_119.out _; (with_reducible repeat (first | refine blk_drewN ?_ _ | refine blk_drew ?_ | refine blk_alloc ?_ _)); exact BK127.out) hb); have n3_ := Aside0.mk (blk_below (g := gb132) (o := .cells #[.bool t128, .string t129] 33 (0, 0)) (by (with_reducible repeat (first | refine blk_drewN ?_ _ | refine blk_drew ?_ | refine blk_alloc ?_ _)); refine blk_far ?_ NB132_119.out _; refine blk_far ?_ NB132_119.out _; refine blk_far ?_ NB132_119.out _; refine blk_far ?_ NB132_119.out _; (with_reducible repeat (first | refine blk_drewN ?_ _ | refine blk_drew ?_ | refine blk_alloc ?_ _)); exact BK132.out) hb); have n4_ := Aside0.mk (below_step (by repeat (first | (with_reducible first | exact HB.out | apply below_alloc | apply pw_below_drewN | apply below_drew1 | refine below_set ?_ GE101.out | refine below_set ?_ GE119.out | refine below_set ?_ GE127.out | refine below_set ?_ GE132.out) | exact HB.out)) hb); clear BK101; clear BK119; clear BK127; clear BK132; clear HB; have BK101 := n0_; have BK119 := n1_; have BK127 := n2_; have BK132 := n3_; have HB := n4_; clear n0_ n1_ n2_ n3_ n4_; (try clear hb); (try clear hb2); (try clear hk); (try clear hi); obtain ⟨hcz95_0, hcz95_1, hcz95_2, hcz95_3, hcz95_4, hcz95_5, hcz95_6, hcz95_7, hcz95_8, hcz95_9, hcz95_10, hcz95_11, hcz95_12⟩ := cl13 (W := w94) BK101.out; obtain ⟨hfz95_0, hfz95_1, hfz95_2, hfz95_3, hfz95_4, hfz95_5, hfz95_6, hfz95_7, hfz95_8, hfz95_9, hfz95_10, hfz95_11, hfz95_12⟩ := fr13 BK101.out))
                  refine bodyPost_ret (results_ctt rfl _ _ gb101 65 #[.int .i64 0, .int .i64 0, .int .i64 0, .int .i64 0, .int .i64 0, .int .i64 0, .int .i64 0, .int .i64 0, .bool false, .string (⟨#[]⟩ : ByteArray), .bool false, .string (⟨#[]⟩ : ByteArray), .int .i64 0] (0, 0) _ rfl (by (with_reducible repeat (first | refine blk_drewN ?_ _ | refine blk_drew ?_ | refine blk_alloc ?_ _)); refine blk_put (cs := #[.int .i64 0, .int .i64 0, .int .i64 0, .int .i64 0, .int .i64 0, .int .i64 0, .int .i64 0, .int .i64 0, .bool false, .string (⟨#[]⟩ : ByteArray), .bool false, .string (⟨#[]⟩ : ByteArray), .int .i64 x102012_1]) ?_ 12 _ rfl; refine blk_put (cs := #[.int .i64 0, .int .i64 0, .int .i64 0, .int .i64 0, .int .i64 0, .int .i64 0, .int .i64 0, .int .i64 0, .bool false, .string (⟨#[]⟩ : ByteArray), .bool false, .string x102011_1, .int .i64 x102012_1]) ?_ 11 _ rfl; refine blk_put (cs := #[.int .i64 0, .int .i64 0, .int .i64 0, .int .i64 0, .int .i64 0, .int .i64 0, .int .i64 0, .int .i64 0, .bool false, .string (⟨#[]⟩ : ByteArray), .bool x102010_1, .string x102011_1, .int .i64 x102012_1]) ?_ 10 _ rfl; refine blk_put (cs := #[.int .i64 0, .int .i64 0, .int .i64 0, .int .i64 0, .int .i64 0, .int .i64 0, .int .i64 0, .int .i64 0, .bool false, .string x102009_1, .bool x102010_1, .string x102011_1, .int .i64 x102012_1]) ?_ 9 _ rfl; refine blk_put (cs := #[.int .i64 0, .int .i64 0, .int .i64 0, .int .i64 0, .int .i64 0, .int .i64 0, .int .i64 0, .int .i64 0, .bool x102008_1, .string x102009_1, .bool x102010_1, .string x102011_1, .int .i64 x102012_1]) ?_ 8 _ rfl; refine blk_put (cs := #[.int .i64 0, .int .i64 0, .int .i64 0, .int .i64 0, .int .i64 0, .int .i64 0, .int .i64 0, .int .i64 x102007_1, .bool x102008_1, .string x102009_1, .bool x102010_1, .string x102011_1, .int .i64 x102012_1]) ?_ 7 _ rfl; refine blk_put (cs := #[.int .i64 0, .int .i64 0, .int .i64 0, .int .i64 0, .int .i64 0, .int .i64 0, .int .i64 x102006_1, .int .i64 x102007_1, .bool x102008_1, .string x102009_1, .bool x102010_1, .string x102011_1, .int .i64 x102012_1]) ?_ 6 _ rfl; refine blk_put (cs := #[.int .i64 0, .int .i64 0, .int .i64 0, .int .i64 0, .int .i64 0, .int .i64 x102005_1, .int .i64 x102006_1, .int .i64 x102007_1, .bool x102008_1, .string x102009_1, .bool x102010_1, .string x102011_1, .int .i64 x102012_1]) ?_ 5 _ rfl; refine blk_put (cs := #[.int .i64 0, .int .i64 0, .int .i64 0, .int .i64 0, .int .i64 x102004_1, .int .i64 x102005_1, .int .i64 x102006_1, .int .i64 x102007_1, .bool x102008_1, .string x102009_1, .bool x102010_1, .string x102011_1, .int .i64 x102012_1]) ?_ 4 _ rfl; refine blk_put (cs := #[.int .i64 0, .int .i64 0, .int .i64 0, .int .i64 x102003_1, .int .i64 x102004_1, .int .i64 x102005_1, .int .i64 x102006_1, .int .i64 x102007_1, .bool x102008_1, .string x102009_1, .bool x102010_1, .string x102011_1, .int .i64 x102012_1]) ?_ 3 _ rfl; refine blk_put (cs := #[.int .i64 0, .int .i64 0, .int .i64 x102002_1, .int .i64 x102003_1, .int .i64 x102004_1, .int .i64 x102005_1, .int .i64 x102006_1, .int .i64 x102007_1, .bool x102008_1, .string x102009_1, .bool x102010_1, .string x102011_1, .int .i64 x102012_1]) ?_ 2 _ rfl; refine blk_put (cs := #[.int .i64 0, .int .i64 x102001_1, .int .i64 x102002_1, .int .i64 x102003_1, .int .i64 x102004_1, .int .i64 x102005_1, .int .i64 x102006_1, .int .i64 x102007_1, .bool x102008_1, .string x102009_1, .bool x102010_1, .string x102011_1, .int .i64 x102012_1]) ?_ 1 _ rfl; refine blk_put (cs := #[.int .i64 x102000_1, .int .i64 x102001_1, .int .i64 x102002_1, .int .i64 x102003_1, .int .i64 x102004_1, .int .i64 x102005_1, .int .i64 x102006_1, .int .i64 x102007_1, .bool x102008_1, .string x102009_1, .bool x102010_1, .string x102011_1, .int .i64 x102012_1]) ?_ 0 _ rfl; (with_reducible repeat (first | refine blk_drewN ?_ _ | refine blk_drew ?_ | refine blk_alloc ?_ _)); exact BK101.out) Try.underlying65 rfl (by kernel_rfl)) rfl ?_
                  exact ⟨by first | rfl | (simp [errW_none, errW_some] <;> rfl) | (simp [*, errW_none, errW_some] <;> rfl), by repeat (first | (with_reducible first | exact HB.out | apply below_alloc | apply pw_below_drewN | apply below_drew1 | refine below_set ?_ GE101.out | refine below_set ?_ GE119.out | refine below_set ?_ GE127.out | refine below_set ?_ GE132.out) | exact HB.out)⟩
             ·rw [if_neg c32] at H
              exact absurd H (by simp)
            ·rw [if_neg c31] at H
             exact absurd H (by simp)
           ·rw [if_neg c30] at H
            exact absurd H (by simp)
          ·rw [if_neg c29] at H
           have c29b0 : (x6_1 == 9) = false := beq_eq_false_iff_ne.mpr c29
           have c29b1 : (x6_1 != 9) = true := bne_iff_ne.mpr c29
           replace H := Option.bind_eq_some_iff.mp H
           obtain ⟨t134, A960, H⟩ := H
           replace H : (if t134 = true then (some (rd x5_1 0, rd x5_1 1, rd x5_1 2, rd x5_1 3, rd x5_1 4, rd x5_1 5, 0, 0, false, (⟨#[]⟩ : ByteArray), false, (⟨#[]⟩ : ByteArray), 0, x0_1, 0)) else (some (0, 0, 0, 0, 0, 0, 0, 0, false, (⟨#[]⟩ : ByteArray), false, (⟨#[]⟩ : ByteArray), 0, (⟨#[]⟩ : ByteArray), 4))) = some (r1, r2, r3, r4, r5, r6, r7, r8, r9, r10, r11, r12, r13, r14, r15) := H
           have A96 := Aside0.mk A960
           clear A960
           by_cases c97 : t134 = true
           ·subst c97
            have H1 : (some (rd x5_1 0, rd x5_1 1, rd x5_1 2, rd x5_1 3, rd x5_1 4, rd x5_1 5, 0, 0, false, (⟨#[]⟩ : ByteArray), false, (⟨#[]⟩ : ByteArray), 0, x0_1, 0)) = some (r1, r2, r3, r4, r5, r6, r7, r8, r9, r10, r11, r12, r13, r14, r15) := by rw [if_pos rfl] at H; exact H
            clear H
            have H := H1
            clear H1
            simp only [Option.some.injEq, Prod.mk.injEq] at H
            obtain ⟨rfl, rfl, rfl, rfl, rfl, rfl, rfl, rfl, rfl, rfl, rfl, rfl, rfl, rfl, rfl⟩ := H
            obtain ⟨Ao98, co98, eo98⟩ := Kd.R_slice HO_5.out
            subst eo98
            try go_wp2
            have n0_ := Aside0.mk (Kd.R_drew HO_5.out)
            have n1_ := Aside0.mk (blk_drew BK101.out)
            have n2_ := Aside0.mk (below_drew1 HB.out)
            clear HO_5
            clear BK101
            clear HB
            have HO_5 := n0_
            have BK101 := n1_
            have HB := n2_
            clear n0_ n1_ n2_
            have p113 : 0 ≤ (0 : Int) := (by omega)
            have q113 : 0 < (x5_1.length : Int) := of_decide_eq_true (by first | (with_reducible assumption) | assumption)
            obtain ⟨ad113, e113, hx113_0⟩ := Kd.at_int (Kd.R_reads' HO_5.out).2.2 0 p113 q113
            cases e113
            have qi113 : (0 < x5_1.length) = True := eq_true (by omega)
            (try rw [show ((0 : Int)).toNat = 0 from rfl] at hx113_0)
            (try rw [Addr.add_zero'] at hx113_0)
            replace p113 := eq_true p113
            replace q113 := eq_true q113
            have p114 : 0 ≤ (1 : Int) := (by omega)
            have q114 : 1 < (x5_1.length : Int) := of_decide_eq_true (by first | (with_reducible assumption) | assumption)
            obtain ⟨ad114, e114, hx114_0⟩ := Kd.at_int (Kd.R_reads' HO_5.out).2.2 1 p114 q114
            obtain rfl : ad113 = ad114 := (by injection e114)
            (try simp only [show (1 : Int).toNat = 1 from rfl, Nat.reduceMul, Nat.reduceEqDiff, Go.Addr.add, ↓reduceIte] at hx114_0)
            have qi114 : (1 < x5_1.length) = True := eq_true (by omega)
            (try rw [show ((1 : Int)).toNat = 1 from rfl] at hx114_0)
            replace p114 := eq_true p114
            replace q114 := eq_true q114
            have p115 : 0 ≤ (2 : Int) := (by omega)
            have q115 : 2 < (x5_1.length : Int) := of_decide_eq_true (by first | (with_reducible assumption) | assumption)
            obtain ⟨ad115, e115, hx115_0⟩ := Kd.at_int (Kd.R_reads' HO_5.out).2.2 2 p115 q115
            obtain rfl : ad113 = ad115 := (by injection e115)
            (try simp only [show (2 : Int).toNat = 2 from rfl, Nat.reduceMul, Nat.reduceEqDiff, Go.Addr.add, ↓reduceIte] at hx115_0)
            have qi115 : (2 < x5_1.length) = True := eq_true (by omega)
            (try rw [show ((2 : Int)).toNat = 2 from rfl] at hx115_0)
            replace p115 := eq_true p115
            replace q115 := eq_true q115
            have p116 : 0 ≤ (3 : Int) := (by omega)
            have q116 : 3 < (x5_1.length : Int) := of_decide_eq_true (by first | (with_reducible assumption) | assumption)
            obtain ⟨ad116, e116, hx116_0⟩ := Kd.at_int (Kd.R_reads' HO_5.out).2.2 3 p116 q116
            obtain rfl : ad113 = ad116 := (by injection e116)
            (try simp only [show (3 : Int).toNat = 3 from rfl, Nat.reduceMul, Nat.reduceEqDiff, Go.Addr.add, ↓reduceIte] at hx116_0)
            have qi116 : (3 < x5_1.length) = True := eq_true (by omega)
            (try rw [show ((3 : Int)).toNat = 3 from rfl] at hx116_0)
            replace p116 := eq_true p116
            replace q116 := eq_true q116
            have p117 : 0 ≤ (4 : Int) := (by omega)
            have q117 : 4 < (x5_1.length : Int) := of_decide_eq_true (by first | (with_reducible assumption) | assumption)
            obtain ⟨ad117, e117, hx117_0⟩ := Kd.at_int (Kd.R_reads' HO_5.out).2.2 4 p117 q117
            obtain rfl : ad113 = ad117 := (by injection e117)
            (try simp only [show (4 : Int).toNat = 4 from rfl, Nat.reduceMul, Nat.reduceEqDiff, Go.Addr.add, ↓reduceIte] at hx117_0)
            have qi117 : (4 < x5_1.length) = True := eq_true (by omega)
            (try rw [show ((4 : Int)).toNat = 4 from rfl] at hx117_0)
            replace p117 := eq_true p117
            replace q117 := eq_true q117
            have p118 : 0 ≤ (5 : Int) := (by omega)
            have q118 : 5 < (x5_1.length : Int) := of_decide_eq_true (by first | (with_reducible assumption) | assumption)
            obtain ⟨ad118, e118, hx118_0⟩ := Kd.at_int (Kd.R_reads' HO_5.out).2.2 5 p118 q118
            obtain rfl : ad113 = ad118 := (by injection e118)
            (try simp only [show (5 : Int).toNat = 5 from rfl, Nat.reduceMul, Nat.reduceEqDiff, Go.Addr.add, ↓reduceIte] at hx118_0)
            have qi118 : (5 < x5_1.length) = True := eq_true (by omega)
            (try rw [show ((5 : Int)).toNat = 5 from rfl] at hx118_0)
            replace p118 := eq_true p118
            replace q118 := eq_true q118
            refine start_ (n := 22) (S := fun w' => w'.cell? ad113 = some (.int .i64 (rd x5_1 0)) ∧ w'.cell? ⟨ad113.block, ad113.off + 1, none⟩ = some (.int .i64 (rd x5_1 1)) ∧ w'.cell? ⟨ad113.block, ad113.off + 2, none⟩ = some (.int .i64 (rd x5_1 2)) ∧ w'.cell? ⟨ad113.block, ad113.off + 3, none⟩ = some (.int .i64 (rd x5_1 3)) ∧ w'.cell? ⟨ad113.block, ad113.off + 4, none⟩ = some (.int .i64 (rd x5_1 4)) ∧ w'.cell? ⟨ad113.block, ad113.off + 5, none⟩ = some (.int .i64 (rd x5_1 5))) (ds := []) #[false, false, false, false, false, false, false, false, false, false, false, false, false, false, false, false, false, false, false, false, false, false] (by kernel_rfl) rfl rfl ⟨hx113_0, hx114_0, hx115_0, hx116_0, hx117_0, hx118_0⟩ (fun hHeld => ?_); refine with_tabW seneschalref04_Decode.tab11 seneschalref04_Decode.bits11 (fun HT_ HW_ => ?_)
            generalize wr.drew = w99 at HO_5 BK101 HB hx113_0 hx114_0 hx115_0 hx116_0 hx117_0 hx118_0 hHeld ⊢
            refine pure_ (i := 0) (N := some 46) (v := ?_) (a' := ?_) #[true, false, false, false, false, false, false, false, false, false, false, false, false, false, false, false, false, false, false, false, false, false] rfl rfl (any_of HT_.out (by kernel_rfl)) (fun _ _ _ h => h) (Or.inl ⟨by rfl, ?_⟩) ?_ ?_
            rotate_left
            ·intro w'
             go_simp
             with_reducible rfl
            rotate_left
            ·simp only [Act.put, List.setIfInBounds_toArray, List.set_cons_zero, List.set_cons_succ, i64_w, i32_w]
             rfl
            refine pure_ (i := 1) (N := some 47) (v := ?_) (a' := ?_) #[true, true, false, false, false, false, false, false, false, false, false, false, false, false, false, false, false, false, false, false, false, false] rfl rfl (any_of HT_.out (by kernel_rfl)) (fun _ _ _ h => h) (Or.inl ⟨by rfl, ?_⟩) ?_ ?_
            rotate_left
            ·intro w'
             go_simp
             with_reducible rfl
            rotate_left
            ·simp only [Act.put, List.setIfInBounds_toArray, List.set_cons_zero, List.set_cons_succ, i64_w, i32_w]
             rfl
            refine pure_ (i := 3) (N := some 49) (v := ?_) (a' := ?_) #[true, true, false, true, false, false, false, false, false, false, false, false, false, false, false, false, false, false, false, false, false, false] rfl rfl (any_of HT_.out (by kernel_rfl)) (fun _ _ _ h => h) (Or.inl ⟨by rfl, ?_⟩) ?_ ?_
            rotate_left
            ·intro w'
             go_simp
             with_reducible rfl
            rotate_left
            ·simp only [Act.put, List.setIfInBounds_toArray, List.set_cons_zero, List.set_cons_succ, i64_w, i32_w]
             rfl
            refine pure_ (i := 4) (N := some 50) (v := ?_) (a' := ?_) #[true, true, false, true, true, false, false, false, false, false, false, false, false, false, false, false, false, false, false, false, false, false] rfl rfl (any_of HT_.out (by kernel_rfl)) (fun _ _ _ h => h) (Or.inl ⟨by rfl, ?_⟩) ?_ ?_
            rotate_left
            ·intro w'
             go_simp
             with_reducible rfl
            rotate_left
            ·simp only [Act.put, List.setIfInBounds_toArray, List.set_cons_zero, List.set_cons_succ, i64_w, i32_w]
             rfl
            refine pure_ (i := 6) (N := some 52) (v := ?_) (a' := ?_) #[true, true, false, true, true, false, true, false, false, false, false, false, false, false, false, false, false, false, false, false, false, false] rfl rfl (any_of HT_.out (by kernel_rfl)) (fun _ _ _ h => h) (Or.inl ⟨by rfl, ?_⟩) ?_ ?_
            rotate_left
            ·intro w'
             go_simp
             with_reducible rfl
            rotate_left
            ·simp only [Act.put, List.setIfInBounds_toArray, List.set_cons_zero, List.set_cons_succ, i64_w, i32_w]
             rfl
            refine pure_ (i := 7) (N := some 53) (v := ?_) (a' := ?_) #[true, true, false, true, true, false, true, true, false, false, false, false, false, false, false, false, false, false, false, false, false, false] rfl rfl (any_of HT_.out (by kernel_rfl)) (fun _ _ _ h => h) (Or.inl ⟨by rfl, ?_⟩) ?_ ?_
            rotate_left
            ·intro w'
             go_simp
             with_reducible rfl
            rotate_left
            ·simp only [Act.put, List.setIfInBounds_toArray, List.set_cons_zero, List.set_cons_succ, i64_w, i32_w]
             rfl
            refine pure_ (i := 9) (N := some 55) (v := ?_) (a' := ?_) #[true, true, false, true, true, false, true, true, false, true, false, false, false, false, false, false, false, false, false, false, false, false] rfl rfl (any_of HT_.out (by kernel_rfl)) (fun _ _ _ h => h) (Or.inl ⟨by rfl, ?_⟩) ?_ ?_
            rotate_left
            ·intro w'
             go_simp
             with_reducible rfl
            rotate_left
            ·simp only [Act.put, List.setIfInBounds_toArray, List.set_cons_zero, List.set_cons_succ, i64_w, i32_w]
             rfl
            refine pure_ (i := 10) (N := some 56) (v := ?_) (a' := ?_) #[true, true, false, true, true, false, true, true, false, true, true, false, false, false, false, false, false, false, false, false, false, false] rfl rfl (any_of HT_.out (by kernel_rfl)) (fun _ _ _ h => h) (Or.inl ⟨by rfl, ?_⟩) ?_ ?_
            rotate_left
            ·intro w'
             go_simp
             with_reducible rfl
            rotate_left
            ·simp only [Act.put, List.setIfInBounds_toArray, List.set_cons_zero, List.set_cons_succ, i64_w, i32_w]
             rfl
            refine pure_ (i := 13) (N := some 59) (v := ?_) (a' := ?_) #[true, true, false, true, true, false, true, true, false, true, true, false, false, true, false, false, false, false, false, false, false, false] rfl rfl (any_of HT_.out (by kernel_rfl)) (fun _ _ _ h => h) (Or.inl ⟨by rfl, ?_⟩) ?_ ?_
            rotate_left
            ·intro w'
             go_simp
             with_reducible rfl
            rotate_left
            ·simp only [Act.put, List.setIfInBounds_toArray, List.set_cons_zero, List.set_cons_succ, i64_w, i32_w]
             rfl
            refine pure_ (i := 14) (N := some 60) (v := ?_) (a' := ?_) #[true, true, false, true, true, false, true, true, false, true, true, false, false, true, true, false, false, false, false, false, false, false] rfl rfl (any_of HT_.out (by kernel_rfl)) (fun _ _ _ h => h) (Or.inl ⟨by rfl, ?_⟩) ?_ ?_
            rotate_left
            ·intro w'
             go_simp
             with_reducible rfl
            rotate_left
            ·simp only [Act.put, List.setIfInBounds_toArray, List.set_cons_zero, List.set_cons_succ, i64_w, i32_w]
             rfl
            refine pure_ (i := 16) (N := some 62) (v := ?_) (a' := ?_) #[true, true, false, true, true, false, true, true, false, true, true, false, false, true, true, false, true, false, false, false, false, false] rfl rfl (any_of HT_.out (by kernel_rfl)) (fun _ _ _ h => h) (Or.inl ⟨by rfl, ?_⟩) ?_ ?_
            rotate_left
            ·intro w'
             go_simp
             with_reducible rfl
            rotate_left
            ·simp only [Act.put, List.setIfInBounds_toArray, List.set_cons_zero, List.set_cons_succ, i64_w, i32_w]
             rfl
            refine pure_ (i := 17) (N := some 63) (v := ?_) (a' := ?_) #[true, true, false, true, true, false, true, true, false, true, true, false, false, true, true, false, true, true, false, false, false, false] rfl rfl (any_of HT_.out (by kernel_rfl)) (fun _ _ _ h => h) (Or.inl ⟨by rfl, ?_⟩) ?_ ?_
            rotate_left
            ·intro w'
             go_simp
             with_reducible rfl
            rotate_left
            ·simp only [Act.put, List.setIfInBounds_toArray, List.set_cons_zero, List.set_cons_succ, i64_w, i32_w]
             rfl
            refine take_ (i := 2) (N := some 48) (v := ?_) (a' := ?_) #[true, true, true, true, true, false, true, true, false, true, true, false, false, true, true, false, true, true, false, false, false, false] rfl rfl (take_ofW HT_.out HW_.out (by kernel_rfl)) (fun _ _ _ h => h) (Or.inl ⟨by rfl, ?_⟩) hHeld ?_ ?_
            rotate_left
            ·rintro w' ⟨s0, s1, s2, s3, s4, s5⟩
             go_simp
             with_reducible rfl
            rotate_left
            ·simp only [Act.put, List.setIfInBounds_toArray, List.set_cons_zero, List.set_cons_succ, i64_w, i32_w]
             rfl
            refine take_ (i := 5) (N := some 51) (v := ?_) (a' := ?_) #[true, true, true, true, true, true, true, true, false, true, true, false, false, true, true, false, true, true, false, false, false, false] rfl rfl (take_ofW HT_.out HW_.out (by kernel_rfl)) (fun _ _ _ h => h) (Or.inl ⟨by rfl, ?_⟩) hHeld ?_ ?_
            rotate_left
            ·rintro w' ⟨s0, s1, s2, s3, s4, s5⟩
             go_simp
             with_reducible rfl
            rotate_left
            ·simp only [Act.put, List.setIfInBounds_toArray, List.set_cons_zero, List.set_cons_succ, i64_w, i32_w]
             rfl
            refine take_ (i := 8) (N := some 54) (v := ?_) (a' := ?_) #[true, true, true, true, true, true, true, true, true, true, true, false, false, true, true, false, true, true, false, false, false, false] rfl rfl (take_ofW HT_.out HW_.out (by kernel_rfl)) (fun _ _ _ h => h) (Or.inl ⟨by rfl, ?_⟩) hHeld ?_ ?_
            rotate_left
            ·rintro w' ⟨s0, s1, s2, s3, s4, s5⟩
             go_simp
             with_reducible rfl
            rotate_left
            ·simp only [Act.put, List.setIfInBounds_toArray, List.set_cons_zero, List.set_cons_succ, i64_w, i32_w]
             rfl
            refine take_ (i := 11) (N := some 57) (v := ?_) (a' := ?_) #[true, true, true, true, true, true, true, true, true, true, true, true, false, true, true, false, true, true, false, false, false, false] rfl rfl (take_ofW HT_.out HW_.out (by kernel_rfl)) (fun _ _ _ h => h) (Or.inl ⟨by rfl, ?_⟩) hHeld ?_ ?_
            rotate_left
            ·rintro w' ⟨s0, s1, s2, s3, s4, s5⟩
             go_simp
             with_reducible rfl
            rotate_left
            ·simp only [Act.put, List.setIfInBounds_toArray, List.set_cons_zero, List.set_cons_succ, i64_w, i32_w]
             rfl
            refine pure_ (i := 12) (N := some 58) (v := ?_) (a' := ?_) #[true, true, true, true, true, true, true, true, true, true, true, true, true, true, true, false, true, true, false, false, false, false] rfl rfl (any_of HT_.out (by kernel_rfl)) (fun _ _ _ h => h) (Or.inl ⟨by rfl, ?_⟩) ?_ ?_
            rotate_left
            ·intro w'
             go_simp
             with_reducible rfl
            rotate_left
            ·simp only [Act.put, List.setIfInBounds_toArray, List.set_cons_zero, List.set_cons_succ, i64_w, i32_w]
             rfl
            refine take_ (i := 15) (N := some 61) (v := ?_) (a' := ?_) #[true, true, true, true, true, true, true, true, true, true, true, true, true, true, true, true, true, true, false, false, false, false] rfl rfl (take_ofW HT_.out HW_.out (by kernel_rfl)) (fun _ _ _ h => h) (Or.inl ⟨by rfl, ?_⟩) hHeld ?_ ?_
            rotate_left
            ·rintro w' ⟨s0, s1, s2, s3, s4, s5⟩
             go_simp
             with_reducible rfl
            rotate_left
            ·simp only [Act.put, List.setIfInBounds_toArray, List.set_cons_zero, List.set_cons_succ, i64_w, i32_w]
             rfl
            refine take_ (i := 18) (N := some 64) (v := ?_) (a' := ?_) #[true, true, true, true, true, true, true, true, true, true, true, true, true, true, true, true, true, true, true, false, false, false] rfl rfl (take_ofW HT_.out HW_.out (by kernel_rfl)) (fun _ _ _ h => h) (Or.inl ⟨by rfl, ?_⟩) hHeld ?_ ?_
            rotate_left
            ·rintro w' ⟨s0, s1, s2, s3, s4, s5⟩
             go_simp
             with_reducible rfl
            rotate_left
            ·simp only [Act.put, List.setIfInBounds_toArray, List.set_cons_zero, List.set_cons_succ, i64_w, i32_w]
             rfl
            refine pure_ (i := 19) (N := some 65) (v := ?_) (a' := ?_) #[true, true, true, true, true, true, true, true, true, true, true, true, true, true, true, true, true, true, true, true, false, false] rfl rfl (any_of HT_.out (by kernel_rfl)) (fun _ _ _ h => h) (Or.inl ⟨by rfl, ?_⟩) ?_ ?_
            rotate_left
            ·intro w'
             go_simp
             with_reducible rfl
            rotate_left
            ·simp only [Act.put, List.setIfInBounds_toArray, List.set_cons_zero, List.set_cons_succ, i64_w, i32_w]
             rfl
            refine one_ (i := 20) (N := some 10) #[true, true, true, true, true, true, true, true, true, true, true, true, true, true, true, true, true, true, true, true, true, false] rfl rfl (one_of HT_.out (by kernel_rfl)) (by decide) (fun K hK => ?_)
            refine box_step ?hg (N := 10) ?hd (cs := #[.int .i64 0, .int .i64 0, .int .i64 0, .int .i64 0, .int .i64 0, .int .i64 0, .int .i64 0, .int .i64 0, .bool false, .string (⟨#[]⟩ : ByteArray), .bool false, .string (⟨#[]⟩ : ByteArray), .int .i64 0]) (t := 65) ?hr ?_; (case hd => rfl); (case hg => rfl); (case hr => first | (go_simp; done) | (go_simp; rfl))
            intro gb119 hg w100 hbox hb
            have HS0_ := (hb.cell (World.block_lt_of_cell? _ _ (hHeld.1))).trans (hHeld.1)
            have HS1_ := (hb.cell (World.block_lt_of_cell? _ _ (hHeld.2.1))).trans (hHeld.2.1)
            have HS2_ := (hb.cell (World.block_lt_of_cell? _ _ (hHeld.2.2.1))).trans (hHeld.2.2.1)
            have HS3_ := (hb.cell (World.block_lt_of_cell? _ _ (hHeld.2.2.2.1))).trans (hHeld.2.2.2.1)
            have HS4_ := (hb.cell (World.block_lt_of_cell? _ _ (hHeld.2.2.2.2.1))).trans (hHeld.2.2.2.2.1)
            have HS5_ := (hb.cell (World.block_lt_of_cell? _ _ (hHeld.2.2.2.2.2))).trans (hHeld.2.2.2.2.2)
            have n0_ := Aside0.mk (Kd.R_below (by (with_reducible repeat (first | apply Kd.R_alloc | apply Kd.R_drewN | apply Kd.R_drew)); exact HO_5.out) hb)
            have n1_ := Aside0.mk (blk_below (g := gb101) (o := .cells #[.int .i64 x102000_1, .int .i64 x102001_1, .int .i64 x102002_1, .int .i64 x102003_1, .int .i64 x102004_1, .int .i64 x102005_1, .int .i64 x102006_1, .int .i64 x102007_1, .bool x102008_1, .string x102009_1, .bool x102010_1, .string x102011_1, .int .i64 x102012_1] 65 (0, 0)) (by (with_reducible repeat (first | refine blk_drewN ?_ _ | refine blk_drew ?_ | refine blk_alloc ?_ _)); exact BK101.out) hb)
            have n2_ := Aside0.mk (below_step (by repeat (first | (with_reducible first | exact HB.out | apply below_alloc | apply pw_below_drewN | apply below_drew1 | refine below_set ?_ GE101.out) | exact HB.out)) hb)
            have n3_ := Aside0.mk (hbox)
            have n4_ := Aside0.mk ((by rw [hg]; exact (below_size (by repeat (first | (with_reducible first | exact HB.out | apply below_alloc | apply pw_below_drewN | apply below_drew1 | refine below_set ?_ GE101.out) | exact HB.out))) : w.heap.size ≤ gb119))
            have n5_ := Aside0.mk ((by rw [hg]; exact (below_size (by repeat (first | (with_reducible first | exact HB.out | apply below_alloc | apply pw_below_drewN | apply below_drew1 | refine below_set ?_ GE101.out) | exact HB.out))) : w.heap.size ≤ gb119))
            have n6_ := Aside0.mk ((by rw [hg]; exact Nat.ne_of_lt (blk_lt (g := gb101) (o := .cells #[.int .i64 x102000_1, .int .i64 x102001_1, .int .i64 x102002_1, .int .i64 x102003_1, .int .i64 x102004_1, .int .i64 x102005_1, .int .i64 x102006_1, .int .i64 x102007_1, .bool x102008_1, .string x102009_1, .bool x102010_1, .string x102011_1, .int .i64 x102012_1] 65 (0, 0)) (by (with_reducible repeat (first | refine blk_drewN ?_ _ | refine blk_drew ?_ | refine blk_alloc ?_ _)); exact BK101.out)) : gb101 ≠ gb119))
            have n7_ := Aside0.mk ((by rw [hg]; exact Nat.ne_of_gt (blk_lt (g := gb101) (o := .cells #[.int .i64 x102000_1, .int .i64 x102001_1, .int .i64 x102002_1, .int .i64 x102003_1, .int .i64 x102004_1, .int .i64 x102005_1, .int .i64 x102006_1, .int .i64 x102007_1, .bool x102008_1, .string x102009_1, .bool x102010_1, .string x102011_1, .int .i64 x102012_1] 65 (0, 0)) (by (with_reducible repeat (first | refine blk_drewN ?_ _ | refine blk_drew ?_ | refine blk_alloc ?_ _)); exact BK101.out)) : gb119 ≠ gb101))
            clear HO_5
            clear BK101
            clear HB
            have HO_5 := n0_
            have BK101 := n1_
            have HB := n2_
            have BK119 := n3_
            have GW119 := n4_
            have GE119 := n5_
            have NB101_119 := n6_
            have NB119_101 := n7_
            clear n0_ n1_ n2_ n3_ n4_ n5_ n6_ n7_
            clear hb hbox hg
            refine hK.out _ _ ⟨HS0_, HS1_, HS2_, HS3_, HS4_, HS5_⟩ (fun hHeld => ?_)
            clear hK K
            refine norm_ (a' := ?_) ?_ ?_
            rotate_left
            ·show Act.put _ (some 10) _ = _
             simp only [Act.put, List.setIfInBounds_toArray, List.set_cons_zero, List.set_cons_succ, i64_w, i32_w]
             rfl
            refine one_ (i := 21) (N := none) #[true, true, true, true, true, true, true, true, true, true, true, true, true, true, true, true, true, true, true, true, true, true] rfl rfl (one_of HT_.out (by kernel_rfl)) (by decide) (fun K hK => ?_)
            have hs101 : w100.cell? ⟨gb119, 0, none⟩ = some (.int .i64 0) := (blk_cell BK119.out 0).trans rfl
            have hfs101 := blk_frozen BK119.out 0
            have hns101_0 := NB101_119.out
            have hms101_0 := NB119_101.out
            have hs102 : w100.cell? ⟨gb119, 1, none⟩ = some (.int .i64 0) := (blk_cell BK119.out 1).trans rfl
            have hfs102 := blk_frozen BK119.out 1
            have hns102_0 := NB101_119.out
            have hms102_0 := NB119_101.out
            have hs103 : w100.cell? ⟨gb119, 2, none⟩ = some (.int .i64 0) := (blk_cell BK119.out 2).trans rfl
            have hfs103 := blk_frozen BK119.out 2
            have hns103_0 := NB101_119.out
            have hms103_0 := NB119_101.out
            have hs104 : w100.cell? ⟨gb119, 3, none⟩ = some (.int .i64 0) := (blk_cell BK119.out 3).trans rfl
            have hfs104 := blk_frozen BK119.out 3
            have hns104_0 := NB101_119.out
            have hms104_0 := NB119_101.out
            have hs105 : w100.cell? ⟨gb119, 4, none⟩ = some (.int .i64 0) := (blk_cell BK119.out 4).trans rfl
            have hfs105 := blk_frozen BK119.out 4
            have hns105_0 := NB101_119.out
            have hms105_0 := NB119_101.out
            have hs106 : w100.cell? ⟨gb119, 5, none⟩ = some (.int .i64 0) := (blk_cell BK119.out 5).trans rfl
            have hfs106 := blk_frozen BK119.out 5
            have hns106_0 := NB101_119.out
            have hms106_0 := NB119_101.out
            have hs107 : w100.cell? ⟨gb119, 6, none⟩ = some (.int .i64 0) := (blk_cell BK119.out 6).trans rfl
            have hfs107 := blk_frozen BK119.out 6
            have hns107_0 := NB101_119.out
            have hms107_0 := NB119_101.out
            have hs108 : w100.cell? ⟨gb119, 7, none⟩ = some (.int .i64 0) := (blk_cell BK119.out 7).trans rfl
            have hfs108 := blk_frozen BK119.out 7
            have hns108_0 := NB101_119.out
            have hms108_0 := NB119_101.out
            have hs109 : w100.cell? ⟨gb119, 8, none⟩ = some (.bool false) := (blk_cell BK119.out 8).trans rfl
            have hfs109 := blk_frozen BK119.out 8
            have hns109_0 := NB101_119.out
            have hms109_0 := NB119_101.out
            have hs110 : w100.cell? ⟨gb119, 9, none⟩ = some (.string (⟨#[]⟩ : ByteArray)) := (blk_cell BK119.out 9).trans rfl
            have hfs110 := blk_frozen BK119.out 9
            have hns110_0 := NB101_119.out
            have hms110_0 := NB119_101.out
            have hs111 : w100.cell? ⟨gb119, 10, none⟩ = some (.bool false) := (blk_cell BK119.out 10).trans rfl
            have hfs111 := blk_frozen BK119.out 10
            have hns111_0 := NB101_119.out
            have hms111_0 := NB119_101.out
            have hs112 : w100.cell? ⟨gb119, 11, none⟩ = some (.string (⟨#[]⟩ : ByteArray)) := (blk_cell BK119.out 11).trans rfl
            have hfs112 := blk_frozen BK119.out 11
            have hns112_0 := NB101_119.out
            have hms112_0 := NB119_101.out
            have hs113 : w100.cell? ⟨gb119, 12, none⟩ = some (.int .i64 0) := (blk_cell BK119.out 12).trans rfl
            have hfs113 := blk_frozen BK119.out 12
            have hns113_0 := NB101_119.out
            have hms113_0 := NB119_101.out
            refine skip_ (w1 := ?_) (by rfl) rfl ?_ ?_
            rotate_left
            ·go_simp
             rfl
            have hnb_ : ad113.block ≠ gb119 := Kd.own_blk (Kd.R_ne HO_5.out BK119.out (by decide))
            refine hK.out _ _ ⟨far13 hHeld.1 hnb_, far13 hHeld.2.1 hnb_, far13 hHeld.2.2.1 hnb_, far13 hHeld.2.2.2.1 hnb_, far13 hHeld.2.2.2.2.1 hnb_, far13 hHeld.2.2.2.2.2 hnb_⟩ (fun hHeld => ?_)
            clear hK K
            refine done_ (done_of HT_.out (by kernel_rfl)) ?_
            have hnb114 := NB119_101.out
            have hnc114 := NB101_119.out
            obtain ⟨hcz115_0, hcz115_1, hcz115_2, hcz115_3, hcz115_4, hcz115_5, hcz115_6, hcz115_7, hcz115_8, hcz115_9, hcz115_10, hcz115_11, hcz115_12⟩ := cl13 (W := w100) BK119.out
            obtain ⟨hfz115_0, hfz115_1, hfz115_2, hfz115_3, hfz115_4, hfz115_5, hfz115_6, hfz115_7, hfz115_8, hfz115_9, hfz115_10, hfz115_11, hfz115_12⟩ := fr13 BK119.out
            try go_wp2_with (first | ((with_reducible refine gate_callee (f := 56) rfl ?_); refine goesL_ (some 105) rfl rfl Try.func56 (by kernel_rfl) rfl #[.agg #[.int .i64 (rd x5_1 0), .int .i64 (rd x5_1 1), .int .i64 (rd x5_1 2), .int .i64 (rd x5_1 3), .int .i64 (rd x5_1 4), .int .i64 (rd x5_1 5), .int .i64 0, .int .i64 0, .bool false, .string (⟨#[]⟩ : ByteArray), .bool false, .string (⟨#[]⟩ : ByteArray), .int .i64 0]] rfl (by (try simp only [List.map_toArray, List.map_cons, List.map_nil]); first | done | rfl | (simp only [List.length_drop, List.length_take]; rfl)) ?_; (with_reducible refine (refGood4.calls (rd x5_1 0) (rd x5_1 1) (rd x5_1 2) (rd x5_1 3) (rd x5_1 4) (rd x5_1 5) 0 0 false (⟨#[]⟩ : ByteArray) false (⟨#[]⟩ : ByteArray) 0 true _ A96.out).mono ?_); rintro e w116 ⟨rfl, hb⟩; refine ⟨_, rfl, ?_⟩; have n0_ := Aside0.mk (Kd.R_below (by (with_reducible repeat (first | apply Kd.R_alloc | apply Kd.R_drewN | apply Kd.R_drew)); exact (Kd.R_mono (Kd.R_far (p := ⟨gb119, 12, none⟩) (Kd.R_far (p := ⟨gb119, 11, none⟩) (Kd.R_far (p := ⟨gb119, 10, none⟩) (Kd.R_far (p := ⟨gb119, 9, none⟩) (Kd.R_far (p := ⟨gb119, 8, none⟩) (Kd.R_far (p := ⟨gb119, 7, none⟩) (Kd.R_far (p := ⟨gb119, 6, none⟩) (Kd.R_far (p := ⟨gb119, 5, none⟩) (Kd.R_far (p := ⟨gb119, 4, none⟩) (Kd.R_far (p := ⟨gb119, 3, none⟩) (Kd.R_far (p := ⟨gb119, 2, none⟩) (Kd.R_far (p := ⟨gb119, 1, none⟩) (Kd.R_far (p := ⟨gb119, 0, none⟩) (Kd.R_types HO_5.out BK119.out (by decide)) (fun _ hk => hk.2) (.int .i64 (rd x5_1 0))) (fun _ hk => hk.2) (.int .i64 (rd x5_1 1))) (fun _ hk => hk.2) (.int .i64 (rd x5_1 2))) (fun _ hk => hk.2) (.int .i64 (rd x5_1 3))) (fun _ hk => hk.2) (.int .i64 (rd x5_1 4))) (fun _ hk => hk.2) (.int .i64 (rd x5_1 5))) (fun _ hk => hk.2) (.int .i64 0)) (fun _ hk => hk.2) (.int .i64 0)) (fun _ hk => hk.2) (.bool false)) (fun _ hk => hk.2) (.string (⟨#[]⟩ : ByteArray))) (fun _ hk => hk.2) (.bool false)) (fun _ hk => hk.2) (.string (⟨#[]⟩ : ByteArray))) (fun _ hk => hk.2) (.int .i64 0)) (fun _ h_ => h_.1))) hb); have n1_ := Aside0.mk (blk_below (g := gb101) (o := .cells #[.int .i64 x102000_1, .int .i64 x102001_1, .int .i64 x102002_1, .int .i64 x102003_1, .int .i64 x102004_1, .int .i64 x102005_1, .int .i64 x102006_1, .int .i64 x102007_1, .bool x102008_1, .string x102009_1, .bool x102010_1, .string x102011_1, .int .i64 x102012_1] 65 (0, 0)) (by (with_reducible repeat (first | refine blk_drewN ?_ _ | refine blk_drew ?_ | refine blk_alloc ?_ _)); refine blk_far ?_ NB101_119.out _; refine blk_far ?_ NB101_119.out _; refine blk_far ?_ NB101_119.out _; refine blk_far ?_ NB101_119.out _; refine blk_far ?_ NB101_119.out _; refine blk_far ?_ NB101_119.out _; refine blk_far ?_ NB101_119.out _; refine blk_far ?_ NB101_119.out _; refine blk_far ?_ NB101_119.out _; refine blk_far ?_ NB101_119.out _; refine blk_far ?_ NB101_119.out _; refine blk_far ?_ NB101_119.out _; refine blk_far ?_ NB101_119.out _; (with_reducible repeat (first | refine blk_drewN ?_ _ | refine blk_drew ?_ | refine blk_alloc ?_ _)); exact BK101.out) hb); have n2_ := Aside0.mk (blk_below (g := gb119) (o := .cells #[.int .i64 (rd x5_1 0), .int .i64 (rd x5_1 1), .int .i64 (rd x5_1 2), .int .i64 (rd x5_1 3), .int .i64 (rd x5_1 4), .int .i64 (rd x5_1 5), .int .i64 0, .int .i64 0, .bool false, .string (⟨#[]⟩ : ByteArray), .bool false, .string (⟨#[]⟩ : ByteArray), .int .i64 0] 65 (0, 0)) (by (with_reducible repeat (first | refine blk_drewN ?_ _ | refine blk_drew ?_ | refine blk_alloc ?_ _)); refine blk_put (cs := #[.int .i64 (rd x5_1 0), .int .i64 (rd x5_1 1), .int .i64 (rd x5_1 2), .int .i64 (rd x5_1 3), .int .i64 (rd x5_1 4), .int .i64 (rd x5_1 5), .int .i64 0, .int .i64 0, .bool false, .string (⟨#[]⟩ : ByteArray), .bool false, .string (⟨#[]⟩ : ByteArray), .int .i64 0]) ?_ 12 _ rfl; refine blk_put (cs := #[.int .i64 (rd x5_1 0), .int .i64 (rd x5_1 1), .int .i64 (rd x5_1 2), .int .i64 (rd x5_1 3), .int .i64 (rd x5_1 4), .int .i64 (rd x5_1 5), .int .i64 0, .int .i64 0, .bool false, .string (⟨#[]⟩ : ByteArray), .bool false, .string (⟨#[]⟩ : ByteArray), .int .i64 0]) ?_ 11 _ rfl; refine blk_put (cs := #[.int .i64 (rd x5_1 0), .int .i64 (rd x5_1 1), .int .i64 (rd x5_1 2), .int .i64 (rd x5_1 3), .int .i64 (rd x5_1 4), .int .i64 (rd x5_1 5), .int .i64 0, .int .i64 0, .bool false, .string (⟨#[]⟩ : ByteArray), .bool false, .string (⟨#[]⟩ : ByteArray), .int .i64 0]) ?_ 10 _ rfl; refine blk_put (cs := #[.int .i64 (rd x5_1 0), .int .i64 (rd x5_1 1), .int .i64 (rd x5_1 2), .int .i64 (rd x5_1 3), .int .i64 (rd x5_1 4), .int .i64 (rd x5_1 5), .int .i64 0, .int .i64 0, .bool false, .string (⟨#[]⟩ : ByteArray), .bool false, .string (⟨#[]⟩ : ByteArray), .int .i64 0]) ?_ 9 _ rfl; refine blk_put (cs := #[.int .i64 (rd x5_1 0), .int .i64 (rd x5_1 1), .int .i64 (rd x5_1 2), .int .i64 (rd x5_1 3), .int .i64 (rd x5_1 4), .int .i64 (rd x5_1 5), .int .i64 0, .int .i64 0, .bool false, .string (⟨#[]⟩ : ByteArray), .bool false, .string (⟨#[]⟩ : ByteArray), .int .i64 0]) ?_ 8 _ rfl; refine blk_put (cs := #[.int .i64 (rd x5_1 0), .int .i64 (rd x5_1 1), .int .i64 (rd x5_1 2), .int .i64 (rd x5_1 3), .int .i64 (rd x5_1 4), .int .i64 (rd x5_1 5), .int .i64 0, .int .i64 0, .bool false, .string (⟨#[]⟩ : ByteArray), .bool false, .string (⟨#[]⟩ : ByteArray), .int .i64 0]) ?_ 7 _ rfl; refine blk_put (cs := #[.int .i64 (rd x5_1 0), .int .i64 (rd x5_1 1), .int .i64 (rd x5_1 2), .int .i64 (rd x5_1 3), .int .i64 (rd x5_1 4), .int .i64 (rd x5_1 5), .int .i64 0, .int .i64 0, .bool false, .string (⟨#[]⟩ : ByteArray), .bool false, .string (⟨#[]⟩ : ByteArray), .int .i64 0]) ?_ 6 _ rfl; refine blk_put (cs := #[.int .i64 (rd x5_1 0), .int .i64 (rd x5_1 1), .int .i64 (rd x5_1 2), .int .i64 (rd x5_1 3), .int .i64 (rd x5_1 4), .int .i64 0, .int .i64 0, .int .i64 0, .bool false, .string (⟨#[]⟩ : ByteArray), .bool false, .string (⟨#[]⟩ : ByteArray), .int .i64 0]) ?_ 5 _ rfl; refine blk_put (cs := #[.int .i64 (rd x5_1 0), .int .i64 (rd x5_1 1), .int .i64 (rd x5_1 2), .int .i64 (rd x5_1 3), .int .i64 0, .int .i64 0, .int .i64 0, .int .i64 0, .bool false, .string (⟨#[]⟩ : ByteArray), .bool false, .string (⟨#[]⟩ : ByteArray), .int .i64 0]) ?_ 4 _ rfl; refine blk_put (cs := #[.int .i64 (rd x5_1 0), .int .i64 (rd x5_1 1), .int .i64 (rd x5_1 2), .int .i64 0, .int .i64 0, .int .i64 0, .int .i64 0, .int .i64 0, .bool false, .string (⟨#[]⟩ : ByteArray), .bool false, .string (⟨#[]⟩ : ByteArray), .int .i64 0]) ?_ 3 _ rfl; refine blk_put (cs := #[.int .i64 (rd x5_1 0), .int .i64 (rd x5_1 1), .int .i64 0, .int .i64 0, .int .i64 0, .int .i64 0, .int .i64 0, .int .i64 0, .bool false, .string (⟨#[]⟩ : ByteArray), .bool false, .string (⟨#[]⟩ : ByteArray), .int .i64 0]) ?_ 2 _ rfl; refine blk_put (cs := #[.int .i64 (rd x5_1 0), .int .i64 0, .int .i64 0, .int .i64 0, .int .i64 0, .int .i64 0, .int .i64 0, .int .i64 0, .bool false, .string (⟨#[]⟩ : ByteArray), .bool false, .string (⟨#[]⟩ : ByteArray), .int .i64 0]) ?_ 1 _ rfl; refine blk_put (cs := #[.int .i64 0, .int .i64 0, .int .i64 0, .int .i64 0, .int .i64 0, .int .i64 0, .int .i64 0, .int .i64 0, .bool false, .string (⟨#[]⟩ : ByteArray), .bool false, .string (⟨#[]⟩ : ByteArray), .int .i64 0]) ?_ 0 _ rfl; (with_reducible repeat (first | refine blk_drewN ?_ _ | refine blk_drew ?_ | refine blk_alloc ?_ _)); exact BK119.out) hb); have n3_ := Aside0.mk (below_step (by repeat (first | (with_reducible first | exact HB.out | apply below_alloc | apply pw_below_drewN | apply below_drew1 | refine below_set ?_ GE101.out | refine below_set ?_ GE119.out) | exact HB.out)) hb); clear HO_5; clear BK101; clear BK119; clear HB; have HO_5 := n0_; have BK101 := n1_; have BK119 := n2_; have HB := n3_; clear n0_ n1_ n2_ n3_; (try clear hb); (try clear hb2); (try clear hk); (try clear hi); obtain ⟨hcz117_0, hcz117_1, hcz117_2, hcz117_3, hcz117_4, hcz117_5, hcz117_6, hcz117_7, hcz117_8, hcz117_9, hcz117_10, hcz117_11, hcz117_12⟩ := cl13 (W := w116) BK119.out; obtain ⟨hfz117_0, hfz117_1, hfz117_2, hfz117_3, hfz117_4, hfz117_5, hfz117_6, hfz117_7, hfz117_8, hfz117_9, hfz117_10, hfz117_11, hfz117_12⟩ := fr13 BK119.out; obtain ⟨hcz118_0, hcz118_1, hcz118_2, hcz118_3, hcz118_4, hcz118_5, hcz118_6, hcz118_7, hcz118_8, hcz118_9, hcz118_10, hcz118_11, hcz118_12⟩ := cl13 (W := w116) BK101.out; obtain ⟨hfz118_0, hfz118_1, hfz118_2, hfz118_3, hfz118_4, hfz118_5, hfz118_6, hfz118_7, hfz118_8, hfz118_9, hfz118_10, hfz118_11, hfz118_12⟩ := fr13 BK101.out))
            refine bodyPost_ret (results_ctt rfl _ _ gb101 65 #[.int .i64 (rd x5_1 0), .int .i64 (rd x5_1 1), .int .i64 (rd x5_1 2), .int .i64 (rd x5_1 3), .int .i64 (rd x5_1 4), .int .i64 (rd x5_1 5), .int .i64 0, .int .i64 0, .bool false, .string (⟨#[]⟩ : ByteArray), .bool false, .string (⟨#[]⟩ : ByteArray), .int .i64 0] (0, 0) _ rfl (by (with_reducible repeat (first | refine blk_drewN ?_ _ | refine blk_drew ?_ | refine blk_alloc ?_ _)); refine blk_put (cs := #[.int .i64 (rd x5_1 0), .int .i64 (rd x5_1 1), .int .i64 (rd x5_1 2), .int .i64 (rd x5_1 3), .int .i64 (rd x5_1 4), .int .i64 (rd x5_1 5), .int .i64 0, .int .i64 0, .bool false, .string (⟨#[]⟩ : ByteArray), .bool false, .string (⟨#[]⟩ : ByteArray), .int .i64 x102012_1]) ?_ 12 _ rfl; refine blk_put (cs := #[.int .i64 (rd x5_1 0), .int .i64 (rd x5_1 1), .int .i64 (rd x5_1 2), .int .i64 (rd x5_1 3), .int .i64 (rd x5_1 4), .int .i64 (rd x5_1 5), .int .i64 0, .int .i64 0, .bool false, .string (⟨#[]⟩ : ByteArray), .bool false, .string x102011_1, .int .i64 x102012_1]) ?_ 11 _ rfl; refine blk_put (cs := #[.int .i64 (rd x5_1 0), .int .i64 (rd x5_1 1), .int .i64 (rd x5_1 2), .int .i64 (rd x5_1 3), .int .i64 (rd x5_1 4), .int .i64 (rd x5_1 5), .int .i64 0, .int .i64 0, .bool false, .string (⟨#[]⟩ : ByteArray), .bool x102010_1, .string x102011_1, .int .i64 x102012_1]) ?_ 10 _ rfl; refine blk_put (cs := #[.int .i64 (rd x5_1 0), .int .i64 (rd x5_1 1), .int .i64 (rd x5_1 2), .int .i64 (rd x5_1 3), .int .i64 (rd x5_1 4), .int .i64 (rd x5_1 5), .int .i64 0, .int .i64 0, .bool false, .string x102009_1, .bool x102010_1, .string x102011_1, .int .i64 x102012_1]) ?_ 9 _ rfl; refine blk_put (cs := #[.int .i64 (rd x5_1 0), .int .i64 (rd x5_1 1), .int .i64 (rd x5_1 2), .int .i64 (rd x5_1 3), .int .i64 (rd x5_1 4), .int .i64 (rd x5_1 5), .int .i64 0, .int .i64 0, .bool x102008_1, .string x102009_1, .bool x102010_1, .string x102011_1, .int .i64 x102012_1]) ?_ 8 _ rfl; refine blk_put (cs := #[.int .i64 (rd x5_1 0), .int .i64 (rd x5_1 1), .int .i64 (rd x5_1 2), .int .i64 (rd x5_1 3), .int .i64 (rd x5_1 4), .int .i64 (rd x5_1 5), .int .i64 0, .int .i64 x102007_1, .bool x102008_1, .string x102009_1, .bool x102010_1, .string x102011_1, .int .i64 x102012_1]) ?_ 7 _ rfl; refine blk_put (cs := #[.int .i64 (rd x5_1 0), .int .i64 (rd x5_1 1), .int .i64 (rd x5_1 2), .int .i64 (rd x5_1 3), .int .i64 (rd x5_1 4), .int .i64 (rd x5_1 5), .int .i64 x102006_1, .int .i64 x102007_1, .bool x102008_1, .string x102009_1, .bool x102010_1, .string x102011_1, .int .i64 x102012_1]) ?_ 6 _ rfl; refine blk_put (cs := #[.int .i64 (rd x5_1 0), .int .i64 (rd x5_1 1), .int .i64 (rd x5_1 2), .int .i64 (rd x5_1 3), .int .i64 (rd x5_1 4), .int .i64 x102005_1, .int .i64 x102006_1, .int .i64 x102007_1, .bool x102008_1, .string x102009_1, .bool x102010_1, .string x102011_1, .int .i64 x102012_1]) ?_ 5 _ rfl; refine blk_put (cs := #[.int .i64 (rd x5_1 0), .int .i64 (rd x5_1 1), .int .i64 (rd x5_1 2), .int .i64 (rd x5_1 3), .int .i64 x102004_1, .int .i64 x102005_1, .int .i64 x102006_1, .int .i64 x102007_1, .bool x102008_1, .string x102009_1, .bool x102010_1, .string x102011_1, .int .i64 x102012_1]) ?_ 4 _ rfl; refine blk_put (cs := #[.int .i64 (rd x5_1 0), .int .i64 (rd x5_1 1), .int .i64 (rd x5_1 2), .int .i64 x102003_1, .int .i64 x102004_1, .int .i64 x102005_1, .int .i64 x102006_1, .int .i64 x102007_1, .bool x102008_1, .string x102009_1, .bool x102010_1, .string x102011_1, .int .i64 x102012_1]) ?_ 3 _ rfl; refine blk_put (cs := #[.int .i64 (rd x5_1 0), .int .i64 (rd x5_1 1), .int .i64 x102002_1, .int .i64 x102003_1, .int .i64 x102004_1, .int .i64 x102005_1, .int .i64 x102006_1, .int .i64 x102007_1, .bool x102008_1, .string x102009_1, .bool x102010_1, .string x102011_1, .int .i64 x102012_1]) ?_ 2 _ rfl; refine blk_put (cs := #[.int .i64 (rd x5_1 0), .int .i64 x102001_1, .int .i64 x102002_1, .int .i64 x102003_1, .int .i64 x102004_1, .int .i64 x102005_1, .int .i64 x102006_1, .int .i64 x102007_1, .bool x102008_1, .string x102009_1, .bool x102010_1, .string x102011_1, .int .i64 x102012_1]) ?_ 1 _ rfl; refine blk_put (cs := #[.int .i64 x102000_1, .int .i64 x102001_1, .int .i64 x102002_1, .int .i64 x102003_1, .int .i64 x102004_1, .int .i64 x102005_1, .int .i64 x102006_1, .int .i64 x102007_1, .bool x102008_1, .string x102009_1, .bool x102010_1, .string x102011_1, .int .i64 x102012_1]) ?_ 0 _ rfl; (with_reducible repeat (first | refine blk_drewN ?_ _ | refine blk_drew ?_ | refine blk_alloc ?_ _)); exact BK101.out) Try.underlying65 rfl (by kernel_rfl)) rfl ?_
            exact ⟨by first | rfl | (simp [errW_none, errW_some] <;> rfl) | (simp [*, errW_none, errW_some] <;> rfl), by repeat (first | (with_reducible first | exact HB.out | apply below_alloc | apply pw_below_drewN | apply below_drew1 | refine below_set ?_ GE101.out | refine below_set ?_ GE119.out) | exact HB.out)⟩
           ·replace c97 := Bool.eq_false_iff.mpr c97
            subst c97
            have H1 : (some (0, 0, 0, 0, 0, 0, 0, 0, false, (⟨#[]⟩ : ByteArray), false, (⟨#[]⟩ : ByteArray), 0, (⟨#[]⟩ : ByteArray), 4)) = some (r1, r2, r3, r4, r5, r6, r7, r8, r9, r10, r11, r12, r13, r14, r15) := by rw [if_neg (show ¬ (false = true) by decide)] at H; exact H
            clear H
            have H := H1
            clear H1
            simp only [Option.some.injEq, Prod.mk.injEq] at H
            obtain ⟨rfl, rfl, rfl, rfl, rfl, rfl, rfl, rfl, rfl, rfl, rfl, rfl, rfl, rfl, rfl⟩ := H
            obtain ⟨Ao119, co119, eo119⟩ := Kd.R_slice HO_5.out
            subst eo119
            try go_wp2
            have n0_ := Aside0.mk (Kd.R_drew HO_5.out)
            have n1_ := Aside0.mk (blk_drew BK101.out)
            have n2_ := Aside0.mk (below_drew1 HB.out)
            clear HO_5
            clear BK101
            clear HB
            have HO_5 := n0_
            have BK101 := n1_
            have HB := n2_
            clear n0_ n1_ n2_
            have p113 : 0 ≤ (0 : Int) := (by omega)
            have q113 : 0 < (x5_1.length : Int) := of_decide_eq_true (by first | (with_reducible assumption) | assumption)
            obtain ⟨ad113, e113, hx113_0⟩ := Kd.at_int (Kd.R_reads' HO_5.out).2.2 0 p113 q113
            cases e113
            have qi113 : (0 < x5_1.length) = True := eq_true (by omega)
            (try rw [show ((0 : Int)).toNat = 0 from rfl] at hx113_0)
            (try rw [Addr.add_zero'] at hx113_0)
            replace p113 := eq_true p113
            replace q113 := eq_true q113
            have p114 : 0 ≤ (1 : Int) := (by omega)
            have q114 : 1 < (x5_1.length : Int) := of_decide_eq_true (by first | (with_reducible assumption) | assumption)
            obtain ⟨ad114, e114, hx114_0⟩ := Kd.at_int (Kd.R_reads' HO_5.out).2.2 1 p114 q114
            obtain rfl : ad113 = ad114 := (by injection e114)
            (try simp only [show (1 : Int).toNat = 1 from rfl, Nat.reduceMul, Nat.reduceEqDiff, Go.Addr.add, ↓reduceIte] at hx114_0)
            have qi114 : (1 < x5_1.length) = True := eq_true (by omega)
            (try rw [show ((1 : Int)).toNat = 1 from rfl] at hx114_0)
            replace p114 := eq_true p114
            replace q114 := eq_true q114
            have p115 : 0 ≤ (2 : Int) := (by omega)
            have q115 : 2 < (x5_1.length : Int) := of_decide_eq_true (by first | (with_reducible assumption) | assumption)
            obtain ⟨ad115, e115, hx115_0⟩ := Kd.at_int (Kd.R_reads' HO_5.out).2.2 2 p115 q115
            obtain rfl : ad113 = ad115 := (by injection e115)
            (try simp only [show (2 : Int).toNat = 2 from rfl, Nat.reduceMul, Nat.reduceEqDiff, Go.Addr.add, ↓reduceIte] at hx115_0)
            have qi115 : (2 < x5_1.length) = True := eq_true (by omega)
            (try rw [show ((2 : Int)).toNat = 2 from rfl] at hx115_0)
            replace p115 := eq_true p115
            replace q115 := eq_true q115
            have p116 : 0 ≤ (3 : Int) := (by omega)
            have q116 : 3 < (x5_1.length : Int) := of_decide_eq_true (by first | (with_reducible assumption) | assumption)
            obtain ⟨ad116, e116, hx116_0⟩ := Kd.at_int (Kd.R_reads' HO_5.out).2.2 3 p116 q116
            obtain rfl : ad113 = ad116 := (by injection e116)
            (try simp only [show (3 : Int).toNat = 3 from rfl, Nat.reduceMul, Nat.reduceEqDiff, Go.Addr.add, ↓reduceIte] at hx116_0)
            have qi116 : (3 < x5_1.length) = True := eq_true (by omega)
            (try rw [show ((3 : Int)).toNat = 3 from rfl] at hx116_0)
            replace p116 := eq_true p116
            replace q116 := eq_true q116
            have p117 : 0 ≤ (4 : Int) := (by omega)
            have q117 : 4 < (x5_1.length : Int) := of_decide_eq_true (by first | (with_reducible assumption) | assumption)
            obtain ⟨ad117, e117, hx117_0⟩ := Kd.at_int (Kd.R_reads' HO_5.out).2.2 4 p117 q117
            obtain rfl : ad113 = ad117 := (by injection e117)
            (try simp only [show (4 : Int).toNat = 4 from rfl, Nat.reduceMul, Nat.reduceEqDiff, Go.Addr.add, ↓reduceIte] at hx117_0)
            have qi117 : (4 < x5_1.length) = True := eq_true (by omega)
            (try rw [show ((4 : Int)).toNat = 4 from rfl] at hx117_0)
            replace p117 := eq_true p117
            replace q117 := eq_true q117
            have p118 : 0 ≤ (5 : Int) := (by omega)
            have q118 : 5 < (x5_1.length : Int) := of_decide_eq_true (by first | (with_reducible assumption) | assumption)
            obtain ⟨ad118, e118, hx118_0⟩ := Kd.at_int (Kd.R_reads' HO_5.out).2.2 5 p118 q118
            obtain rfl : ad113 = ad118 := (by injection e118)
            (try simp only [show (5 : Int).toNat = 5 from rfl, Nat.reduceMul, Nat.reduceEqDiff, Go.Addr.add, ↓reduceIte] at hx118_0)
            have qi118 : (5 < x5_1.length) = True := eq_true (by omega)
            (try rw [show ((5 : Int)).toNat = 5 from rfl] at hx118_0)
            replace p118 := eq_true p118
            replace q118 := eq_true q118
            refine start_ (n := 22) (S := fun w' => w'.cell? ad113 = some (.int .i64 (rd x5_1 0)) ∧ w'.cell? ⟨ad113.block, ad113.off + 1, none⟩ = some (.int .i64 (rd x5_1 1)) ∧ w'.cell? ⟨ad113.block, ad113.off + 2, none⟩ = some (.int .i64 (rd x5_1 2)) ∧ w'.cell? ⟨ad113.block, ad113.off + 3, none⟩ = some (.int .i64 (rd x5_1 3)) ∧ w'.cell? ⟨ad113.block, ad113.off + 4, none⟩ = some (.int .i64 (rd x5_1 4)) ∧ w'.cell? ⟨ad113.block, ad113.off + 5, none⟩ = some (.int .i64 (rd x5_1 5))) (ds := []) #[false, false, false, false, false, false, false, false, false, false, false, false, false, false, false, false, false, false, false, false, false, false] (by kernel_rfl) rfl rfl ⟨hx113_0, hx114_0, hx115_0, hx116_0, hx117_0, hx118_0⟩ (fun hHeld => ?_); refine with_tabW seneschalref04_Decode.tab11 seneschalref04_Decode.bits11 (fun HT_ HW_ => ?_)
            generalize wr.drew = w120 at HO_5 BK101 HB hx113_0 hx114_0 hx115_0 hx116_0 hx117_0 hx118_0 hHeld ⊢
            refine pure_ (i := 0) (N := some 46) (v := ?_) (a' := ?_) #[true, false, false, false, false, false, false, false, false, false, false, false, false, false, false, false, false, false, false, false, false, false] rfl rfl (any_of HT_.out (by kernel_rfl)) (fun _ _ _ h => h) (Or.inl ⟨by rfl, ?_⟩) ?_ ?_
            rotate_left
            ·intro w'
             go_simp
             with_reducible rfl
            rotate_left
            ·simp only [Act.put, List.setIfInBounds_toArray, List.set_cons_zero, List.set_cons_succ, i64_w, i32_w]
             rfl
            refine pure_ (i := 1) (N := some 47) (v := ?_) (a' := ?_) #[true, true, false, false, false, false, false, false, false, false, false, false, false, false, false, false, false, false, false, false, false, false] rfl rfl (any_of HT_.out (by kernel_rfl)) (fun _ _ _ h => h) (Or.inl ⟨by rfl, ?_⟩) ?_ ?_
            rotate_left
            ·intro w'
             go_simp
             with_reducible rfl
            rotate_left
            ·simp only [Act.put, List.setIfInBounds_toArray, List.set_cons_zero, List.set_cons_succ, i64_w, i32_w]
             rfl
            refine pure_ (i := 3) (N := some 49) (v := ?_) (a' := ?_) #[true, true, false, true, false, false, false, false, false, false, false, false, false, false, false, false, false, false, false, false, false, false] rfl rfl (any_of HT_.out (by kernel_rfl)) (fun _ _ _ h => h) (Or.inl ⟨by rfl, ?_⟩) ?_ ?_
            rotate_left
            ·intro w'
             go_simp
             with_reducible rfl
            rotate_left
            ·simp only [Act.put, List.setIfInBounds_toArray, List.set_cons_zero, List.set_cons_succ, i64_w, i32_w]
             rfl
            refine pure_ (i := 4) (N := some 50) (v := ?_) (a' := ?_) #[true, true, false, true, true, false, false, false, false, false, false, false, false, false, false, false, false, false, false, false, false, false] rfl rfl (any_of HT_.out (by kernel_rfl)) (fun _ _ _ h => h) (Or.inl ⟨by rfl, ?_⟩) ?_ ?_
            rotate_left
            ·intro w'
             go_simp
             with_reducible rfl
            rotate_left
            ·simp only [Act.put, List.setIfInBounds_toArray, List.set_cons_zero, List.set_cons_succ, i64_w, i32_w]
             rfl
            refine pure_ (i := 6) (N := some 52) (v := ?_) (a' := ?_) #[true, true, false, true, true, false, true, false, false, false, false, false, false, false, false, false, false, false, false, false, false, false] rfl rfl (any_of HT_.out (by kernel_rfl)) (fun _ _ _ h => h) (Or.inl ⟨by rfl, ?_⟩) ?_ ?_
            rotate_left
            ·intro w'
             go_simp
             with_reducible rfl
            rotate_left
            ·simp only [Act.put, List.setIfInBounds_toArray, List.set_cons_zero, List.set_cons_succ, i64_w, i32_w]
             rfl
            refine pure_ (i := 7) (N := some 53) (v := ?_) (a' := ?_) #[true, true, false, true, true, false, true, true, false, false, false, false, false, false, false, false, false, false, false, false, false, false] rfl rfl (any_of HT_.out (by kernel_rfl)) (fun _ _ _ h => h) (Or.inl ⟨by rfl, ?_⟩) ?_ ?_
            rotate_left
            ·intro w'
             go_simp
             with_reducible rfl
            rotate_left
            ·simp only [Act.put, List.setIfInBounds_toArray, List.set_cons_zero, List.set_cons_succ, i64_w, i32_w]
             rfl
            refine pure_ (i := 9) (N := some 55) (v := ?_) (a' := ?_) #[true, true, false, true, true, false, true, true, false, true, false, false, false, false, false, false, false, false, false, false, false, false] rfl rfl (any_of HT_.out (by kernel_rfl)) (fun _ _ _ h => h) (Or.inl ⟨by rfl, ?_⟩) ?_ ?_
            rotate_left
            ·intro w'
             go_simp
             with_reducible rfl
            rotate_left
            ·simp only [Act.put, List.setIfInBounds_toArray, List.set_cons_zero, List.set_cons_succ, i64_w, i32_w]
             rfl
            refine pure_ (i := 10) (N := some 56) (v := ?_) (a' := ?_) #[true, true, false, true, true, false, true, true, false, true, true, false, false, false, false, false, false, false, false, false, false, false] rfl rfl (any_of HT_.out (by kernel_rfl)) (fun _ _ _ h => h) (Or.inl ⟨by rfl, ?_⟩) ?_ ?_
            rotate_left
            ·intro w'
             go_simp
             with_reducible rfl
            rotate_left
            ·simp only [Act.put, List.setIfInBounds_toArray, List.set_cons_zero, List.set_cons_succ, i64_w, i32_w]
             rfl
            refine pure_ (i := 13) (N := some 59) (v := ?_) (a' := ?_) #[true, true, false, true, true, false, true, true, false, true, true, false, false, true, false, false, false, false, false, false, false, false] rfl rfl (any_of HT_.out (by kernel_rfl)) (fun _ _ _ h => h) (Or.inl ⟨by rfl, ?_⟩) ?_ ?_
            rotate_left
            ·intro w'
             go_simp
             with_reducible rfl
            rotate_left
            ·simp only [Act.put, List.setIfInBounds_toArray, List.set_cons_zero, List.set_cons_succ, i64_w, i32_w]
             rfl
            refine pure_ (i := 14) (N := some 60) (v := ?_) (a' := ?_) #[true, true, false, true, true, false, true, true, false, true, true, false, false, true, true, false, false, false, false, false, false, false] rfl rfl (any_of HT_.out (by kernel_rfl)) (fun _ _ _ h => h) (Or.inl ⟨by rfl, ?_⟩) ?_ ?_
            rotate_left
            ·intro w'
             go_simp
             with_reducible rfl
            rotate_left
            ·simp only [Act.put, List.setIfInBounds_toArray, List.set_cons_zero, List.set_cons_succ, i64_w, i32_w]
             rfl
            refine pure_ (i := 16) (N := some 62) (v := ?_) (a' := ?_) #[true, true, false, true, true, false, true, true, false, true, true, false, false, true, true, false, true, false, false, false, false, false] rfl rfl (any_of HT_.out (by kernel_rfl)) (fun _ _ _ h => h) (Or.inl ⟨by rfl, ?_⟩) ?_ ?_
            rotate_left
            ·intro w'
             go_simp
             with_reducible rfl
            rotate_left
            ·simp only [Act.put, List.setIfInBounds_toArray, List.set_cons_zero, List.set_cons_succ, i64_w, i32_w]
             rfl
            refine pure_ (i := 17) (N := some 63) (v := ?_) (a' := ?_) #[true, true, false, true, true, false, true, true, false, true, true, false, false, true, true, false, true, true, false, false, false, false] rfl rfl (any_of HT_.out (by kernel_rfl)) (fun _ _ _ h => h) (Or.inl ⟨by rfl, ?_⟩) ?_ ?_
            rotate_left
            ·intro w'
             go_simp
             with_reducible rfl
            rotate_left
            ·simp only [Act.put, List.setIfInBounds_toArray, List.set_cons_zero, List.set_cons_succ, i64_w, i32_w]
             rfl
            refine take_ (i := 2) (N := some 48) (v := ?_) (a' := ?_) #[true, true, true, true, true, false, true, true, false, true, true, false, false, true, true, false, true, true, false, false, false, false] rfl rfl (take_ofW HT_.out HW_.out (by kernel_rfl)) (fun _ _ _ h => h) (Or.inl ⟨by rfl, ?_⟩) hHeld ?_ ?_
            rotate_left
            ·rintro w' ⟨s0, s1, s2, s3, s4, s5⟩
             go_simp
             with_reducible rfl
            rotate_left
            ·simp only [Act.put, List.setIfInBounds_toArray, List.set_cons_zero, List.set_cons_succ, i64_w, i32_w]
             rfl
            refine take_ (i := 5) (N := some 51) (v := ?_) (a' := ?_) #[true, true, true, true, true, true, true, true, false, true, true, false, false, true, true, false, true, true, false, false, false, false] rfl rfl (take_ofW HT_.out HW_.out (by kernel_rfl)) (fun _ _ _ h => h) (Or.inl ⟨by rfl, ?_⟩) hHeld ?_ ?_
            rotate_left
            ·rintro w' ⟨s0, s1, s2, s3, s4, s5⟩
             go_simp
             with_reducible rfl
            rotate_left
            ·simp only [Act.put, List.setIfInBounds_toArray, List.set_cons_zero, List.set_cons_succ, i64_w, i32_w]
             rfl
            refine take_ (i := 8) (N := some 54) (v := ?_) (a' := ?_) #[true, true, true, true, true, true, true, true, true, true, true, false, false, true, true, false, true, true, false, false, false, false] rfl rfl (take_ofW HT_.out HW_.out (by kernel_rfl)) (fun _ _ _ h => h) (Or.inl ⟨by rfl, ?_⟩) hHeld ?_ ?_
            rotate_left
            ·rintro w' ⟨s0, s1, s2, s3, s4, s5⟩
             go_simp
             with_reducible rfl
            rotate_left
            ·simp only [Act.put, List.setIfInBounds_toArray, List.set_cons_zero, List.set_cons_succ, i64_w, i32_w]
             rfl
            refine take_ (i := 11) (N := some 57) (v := ?_) (a' := ?_) #[true, true, true, true, true, true, true, true, true, true, true, true, false, true, true, false, true, true, false, false, false, false] rfl rfl (take_ofW HT_.out HW_.out (by kernel_rfl)) (fun _ _ _ h => h) (Or.inl ⟨by rfl, ?_⟩) hHeld ?_ ?_
            rotate_left
            ·rintro w' ⟨s0, s1, s2, s3, s4, s5⟩
             go_simp
             with_reducible rfl
            rotate_left
            ·simp only [Act.put, List.setIfInBounds_toArray, List.set_cons_zero, List.set_cons_succ, i64_w, i32_w]
             rfl
            refine pure_ (i := 12) (N := some 58) (v := ?_) (a' := ?_) #[true, true, true, true, true, true, true, true, true, true, true, true, true, true, true, false, true, true, false, false, false, false] rfl rfl (any_of HT_.out (by kernel_rfl)) (fun _ _ _ h => h) (Or.inl ⟨by rfl, ?_⟩) ?_ ?_
            rotate_left
            ·intro w'
             go_simp
             with_reducible rfl
            rotate_left
            ·simp only [Act.put, List.setIfInBounds_toArray, List.set_cons_zero, List.set_cons_succ, i64_w, i32_w]
             rfl
            refine take_ (i := 15) (N := some 61) (v := ?_) (a' := ?_) #[true, true, true, true, true, true, true, true, true, true, true, true, true, true, true, true, true, true, false, false, false, false] rfl rfl (take_ofW HT_.out HW_.out (by kernel_rfl)) (fun _ _ _ h => h) (Or.inl ⟨by rfl, ?_⟩) hHeld ?_ ?_
            rotate_left
            ·rintro w' ⟨s0, s1, s2, s3, s4, s5⟩
             go_simp
             with_reducible rfl
            rotate_left
            ·simp only [Act.put, List.setIfInBounds_toArray, List.set_cons_zero, List.set_cons_succ, i64_w, i32_w]
             rfl
            refine take_ (i := 18) (N := some 64) (v := ?_) (a' := ?_) #[true, true, true, true, true, true, true, true, true, true, true, true, true, true, true, true, true, true, true, false, false, false] rfl rfl (take_ofW HT_.out HW_.out (by kernel_rfl)) (fun _ _ _ h => h) (Or.inl ⟨by rfl, ?_⟩) hHeld ?_ ?_
            rotate_left
            ·rintro w' ⟨s0, s1, s2, s3, s4, s5⟩
             go_simp
             with_reducible rfl
            rotate_left
            ·simp only [Act.put, List.setIfInBounds_toArray, List.set_cons_zero, List.set_cons_succ, i64_w, i32_w]
             rfl
            refine pure_ (i := 19) (N := some 65) (v := ?_) (a' := ?_) #[true, true, true, true, true, true, true, true, true, true, true, true, true, true, true, true, true, true, true, true, false, false] rfl rfl (any_of HT_.out (by kernel_rfl)) (fun _ _ _ h => h) (Or.inl ⟨by rfl, ?_⟩) ?_ ?_
            rotate_left
            ·intro w'
             go_simp
             with_reducible rfl
            rotate_left
            ·simp only [Act.put, List.setIfInBounds_toArray, List.set_cons_zero, List.set_cons_succ, i64_w, i32_w]
             rfl
            refine one_ (i := 20) (N := some 10) #[true, true, true, true, true, true, true, true, true, true, true, true, true, true, true, true, true, true, true, true, true, false] rfl rfl (one_of HT_.out (by kernel_rfl)) (by decide) (fun K hK => ?_)
            refine box_step ?hg (N := 10) ?hd (cs := #[.int .i64 0, .int .i64 0, .int .i64 0, .int .i64 0, .int .i64 0, .int .i64 0, .int .i64 0, .int .i64 0, .bool false, .string (⟨#[]⟩ : ByteArray), .bool false, .string (⟨#[]⟩ : ByteArray), .int .i64 0]) (t := 65) ?hr ?_; (case hd => rfl); (case hg => rfl); (case hr => first | (go_simp; done) | (go_simp; rfl))
            intro gb119 hg w121 hbox hb
            have HS0_ := (hb.cell (World.block_lt_of_cell? _ _ (hHeld.1))).trans (hHeld.1)
            have HS1_ := (hb.cell (World.block_lt_of_cell? _ _ (hHeld.2.1))).trans (hHeld.2.1)
            have HS2_ := (hb.cell (World.block_lt_of_cell? _ _ (hHeld.2.2.1))).trans (hHeld.2.2.1)
            have HS3_ := (hb.cell (World.block_lt_of_cell? _ _ (hHeld.2.2.2.1))).trans (hHeld.2.2.2.1)
            have HS4_ := (hb.cell (World.block_lt_of_cell? _ _ (hHeld.2.2.2.2.1))).trans (hHeld.2.2.2.2.1)
            have HS5_ := (hb.cell (World.block_lt_of_cell? _ _ (hHeld.2.2.2.2.2))).trans (hHeld.2.2.2.2.2)
            have n0_ := Aside0.mk (Kd.R_below (by (with_reducible repeat (first | apply Kd.R_alloc | apply Kd.R_drewN | apply Kd.R_drew)); exact HO_5.out) hb)
            have n1_ := Aside0.mk (blk_below (g := gb101) (o := .cells #[.int .i64 x102000_1, .int .i64 x102001_1, .int .i64 x102002_1, .int .i64 x102003_1, .int .i64 x102004_1, .int .i64 x102005_1, .int .i64 x102006_1, .int .i64 x102007_1, .bool x102008_1, .string x102009_1, .bool x102010_1, .string x102011_1, .int .i64 x102012_1] 65 (0, 0)) (by (with_reducible repeat (first | refine blk_drewN ?_ _ | refine blk_drew ?_ | refine blk_alloc ?_ _)); exact BK101.out) hb)
            have n2_ := Aside0.mk (below_step (by repeat (first | (with_reducible first | exact HB.out | apply below_alloc | apply pw_below_drewN | apply below_drew1 | refine below_set ?_ GE101.out) | exact HB.out)) hb)
            have n3_ := Aside0.mk (hbox)
            have n4_ := Aside0.mk ((by rw [hg]; exact (below_size (by repeat (first | (with_reducible first | exact HB.out | apply below_alloc | apply pw_below_drewN | apply below_drew1 | refine below_set ?_ GE101.out) | exact HB.out))) : w.heap.size ≤ gb119))
            have n5_ := Aside0.mk ((by rw [hg]; exact (below_size (by repeat (first | (with_reducible first | exact HB.out | apply below_alloc | apply pw_below_drewN | apply below_drew1 | refine below_set ?_ GE101.out) | exact HB.out))) : w.heap.size ≤ gb119))
            have n6_ := Aside0.mk ((by rw [hg]; exact Nat.ne_of_lt (blk_lt (g := gb101) (o := .cells #[.int .i64 x102000_1, .int .i64 x102001_1, .int .i64 x102002_1, .int .i64 x102003_1, .int .i64 x102004_1, .int .i64 x102005_1, .int .i64 x102006_1, .int .i64 x102007_1, .bool x102008_1, .string x102009_1, .bool x102010_1, .string x102011_1, .int .i64 x102012_1] 65 (0, 0)) (by (with_reducible repeat (first | refine blk_drewN ?_ _ | refine blk_drew ?_ | refine blk_alloc ?_ _)); exact BK101.out)) : gb101 ≠ gb119))
            have n7_ := Aside0.mk ((by rw [hg]; exact Nat.ne_of_gt (blk_lt (g := gb101) (o := .cells #[.int .i64 x102000_1, .int .i64 x102001_1, .int .i64 x102002_1, .int .i64 x102003_1, .int .i64 x102004_1, .int .i64 x102005_1, .int .i64 x102006_1, .int .i64 x102007_1, .bool x102008_1, .string x102009_1, .bool x102010_1, .string x102011_1, .int .i64 x102012_1] 65 (0, 0)) (by (with_reducible repeat (first | refine blk_drewN ?_ _ | refine blk_drew ?_ | refine blk_alloc ?_ _)); exact BK101.out)) : gb119 ≠ gb101))
            clear HO_5
            clear BK101
            clear HB
            have HO_5 := n0_
            have BK101 := n1_
            have HB := n2_
            have BK119 := n3_
            have GW119 := n4_
            have GE119 := n5_
            have NB101_119 := n6_
            have NB119_101 := n7_
            clear n0_ n1_ n2_ n3_ n4_ n5_ n6_ n7_
            clear hb hbox hg
            refine hK.out _ _ ⟨HS0_, HS1_, HS2_, HS3_, HS4_, HS5_⟩ (fun hHeld => ?_)
            clear hK K
            refine norm_ (a' := ?_) ?_ ?_
            rotate_left
            ·show Act.put _ (some 10) _ = _
             simp only [Act.put, List.setIfInBounds_toArray, List.set_cons_zero, List.set_cons_succ, i64_w, i32_w]
             rfl
            refine one_ (i := 21) (N := none) #[true, true, true, true, true, true, true, true, true, true, true, true, true, true, true, true, true, true, true, true, true, true] rfl rfl (one_of HT_.out (by kernel_rfl)) (by decide) (fun K hK => ?_)
            have hs122 : w121.cell? ⟨gb119, 0, none⟩ = some (.int .i64 0) := (blk_cell BK119.out 0).trans rfl
            have hfs122 := blk_frozen BK119.out 0
            have hns122_0 := NB101_119.out
            have hms122_0 := NB119_101.out
            have hs123 : w121.cell? ⟨gb119, 1, none⟩ = some (.int .i64 0) := (blk_cell BK119.out 1).trans rfl
            have hfs123 := blk_frozen BK119.out 1
            have hns123_0 := NB101_119.out
            have hms123_0 := NB119_101.out
            have hs124 : w121.cell? ⟨gb119, 2, none⟩ = some (.int .i64 0) := (blk_cell BK119.out 2).trans rfl
            have hfs124 := blk_frozen BK119.out 2
            have hns124_0 := NB101_119.out
            have hms124_0 := NB119_101.out
            have hs125 : w121.cell? ⟨gb119, 3, none⟩ = some (.int .i64 0) := (blk_cell BK119.out 3).trans rfl
            have hfs125 := blk_frozen BK119.out 3
            have hns125_0 := NB101_119.out
            have hms125_0 := NB119_101.out
            have hs126 : w121.cell? ⟨gb119, 4, none⟩ = some (.int .i64 0) := (blk_cell BK119.out 4).trans rfl
            have hfs126 := blk_frozen BK119.out 4
            have hns126_0 := NB101_119.out
            have hms126_0 := NB119_101.out
            have hs127 : w121.cell? ⟨gb119, 5, none⟩ = some (.int .i64 0) := (blk_cell BK119.out 5).trans rfl
            have hfs127 := blk_frozen BK119.out 5
            have hns127_0 := NB101_119.out
            have hms127_0 := NB119_101.out
            have hs128 : w121.cell? ⟨gb119, 6, none⟩ = some (.int .i64 0) := (blk_cell BK119.out 6).trans rfl
            have hfs128 := blk_frozen BK119.out 6
            have hns128_0 := NB101_119.out
            have hms128_0 := NB119_101.out
            have hs129 : w121.cell? ⟨gb119, 7, none⟩ = some (.int .i64 0) := (blk_cell BK119.out 7).trans rfl
            have hfs129 := blk_frozen BK119.out 7
            have hns129_0 := NB101_119.out
            have hms129_0 := NB119_101.out
            have hs130 : w121.cell? ⟨gb119, 8, none⟩ = some (.bool false) := (blk_cell BK119.out 8).trans rfl
            have hfs130 := blk_frozen BK119.out 8
            have hns130_0 := NB101_119.out
            have hms130_0 := NB119_101.out
            have hs131 : w121.cell? ⟨gb119, 9, none⟩ = some (.string (⟨#[]⟩ : ByteArray)) := (blk_cell BK119.out 9).trans rfl
            have hfs131 := blk_frozen BK119.out 9
            have hns131_0 := NB101_119.out
            have hms131_0 := NB119_101.out
            have hs132 : w121.cell? ⟨gb119, 10, none⟩ = some (.bool false) := (blk_cell BK119.out 10).trans rfl
            have hfs132 := blk_frozen BK119.out 10
            have hns132_0 := NB101_119.out
            have hms132_0 := NB119_101.out
            have hs133 : w121.cell? ⟨gb119, 11, none⟩ = some (.string (⟨#[]⟩ : ByteArray)) := (blk_cell BK119.out 11).trans rfl
            have hfs133 := blk_frozen BK119.out 11
            have hns133_0 := NB101_119.out
            have hms133_0 := NB119_101.out
            have hs134 : w121.cell? ⟨gb119, 12, none⟩ = some (.int .i64 0) := (blk_cell BK119.out 12).trans rfl
            have hfs134 := blk_frozen BK119.out 12
            have hns134_0 := NB101_119.out
            have hms134_0 := NB119_101.out
            refine skip_ (w1 := ?_) (by rfl) rfl ?_ ?_
            rotate_left
            ·go_simp
             rfl
            have hnb_ : ad113.block ≠ gb119 := Kd.own_blk (Kd.R_ne HO_5.out BK119.out (by decide))
            refine hK.out _ _ ⟨far13 hHeld.1 hnb_, far13 hHeld.2.1 hnb_, far13 hHeld.2.2.1 hnb_, far13 hHeld.2.2.2.1 hnb_, far13 hHeld.2.2.2.2.1 hnb_, far13 hHeld.2.2.2.2.2 hnb_⟩ (fun hHeld => ?_)
            clear hK K
            refine done_ (done_of HT_.out (by kernel_rfl)) ?_
            have hnb135 := NB119_101.out
            have hnc135 := NB101_119.out
            obtain ⟨hcz136_0, hcz136_1, hcz136_2, hcz136_3, hcz136_4, hcz136_5, hcz136_6, hcz136_7, hcz136_8, hcz136_9, hcz136_10, hcz136_11, hcz136_12⟩ := cl13 (W := w121) BK119.out
            obtain ⟨hfz136_0, hfz136_1, hfz136_2, hfz136_3, hfz136_4, hfz136_5, hfz136_6, hfz136_7, hfz136_8, hfz136_9, hfz136_10, hfz136_11, hfz136_12⟩ := fr13 BK119.out
            try go_wp2_with (first | ((with_reducible refine gate_callee (f := 56) rfl ?_); refine goesL_ (some 105) rfl rfl Try.func56 (by kernel_rfl) rfl #[.agg #[.int .i64 (rd x5_1 0), .int .i64 (rd x5_1 1), .int .i64 (rd x5_1 2), .int .i64 (rd x5_1 3), .int .i64 (rd x5_1 4), .int .i64 (rd x5_1 5), .int .i64 0, .int .i64 0, .bool false, .string (⟨#[]⟩ : ByteArray), .bool false, .string (⟨#[]⟩ : ByteArray), .int .i64 0]] rfl (by (try simp only [List.map_toArray, List.map_cons, List.map_nil]); first | done | rfl | (simp only [List.length_drop, List.length_take]; rfl)) ?_; (with_reducible refine (refGood4.calls (rd x5_1 0) (rd x5_1 1) (rd x5_1 2) (rd x5_1 3) (rd x5_1 4) (rd x5_1 5) 0 0 false (⟨#[]⟩ : ByteArray) false (⟨#[]⟩ : ByteArray) 0 false _ A96.out).mono ?_); rintro e w137 ⟨rfl, hb⟩; refine ⟨_, rfl, ?_⟩; have n0_ := Aside0.mk (Kd.R_below (by (with_reducible repeat (first | apply Kd.R_alloc | apply Kd.R_drewN | apply Kd.R_drew)); exact (Kd.R_mono (Kd.R_far (p := ⟨gb119, 12, none⟩) (Kd.R_far (p := ⟨gb119, 11, none⟩) (Kd.R_far (p := ⟨gb119, 10, none⟩) (Kd.R_far (p := ⟨gb119, 9, none⟩) (Kd.R_far (p := ⟨gb119, 8, none⟩) (Kd.R_far (p := ⟨gb119, 7, none⟩) (Kd.R_far (p := ⟨gb119, 6, none⟩) (Kd.R_far (p := ⟨gb119, 5, none⟩) (Kd.R_far (p := ⟨gb119, 4, none⟩) (Kd.R_far (p := ⟨gb119, 3, none⟩) (Kd.R_far (p := ⟨gb119, 2, none⟩) (Kd.R_far (p := ⟨gb119, 1, none⟩) (Kd.R_far (p := ⟨gb119, 0, none⟩) (Kd.R_types HO_5.out BK119.out (by decide)) (fun _ hk => hk.2) (.int .i64 (rd x5_1 0))) (fun _ hk => hk.2) (.int .i64 (rd x5_1 1))) (fun _ hk => hk.2) (.int .i64 (rd x5_1 2))) (fun _ hk => hk.2) (.int .i64 (rd x5_1 3))) (fun _ hk => hk.2) (.int .i64 (rd x5_1 4))) (fun _ hk => hk.2) (.int .i64 (rd x5_1 5))) (fun _ hk => hk.2) (.int .i64 0)) (fun _ hk => hk.2) (.int .i64 0)) (fun _ hk => hk.2) (.bool false)) (fun _ hk => hk.2) (.string (⟨#[]⟩ : ByteArray))) (fun _ hk => hk.2) (.bool false)) (fun _ hk => hk.2) (.string (⟨#[]⟩ : ByteArray))) (fun _ hk => hk.2) (.int .i64 0)) (fun _ h_ => h_.1))) hb); have n1_ := Aside0.mk (blk_below (g := gb101) (o := .cells #[.int .i64 x102000_1, .int .i64 x102001_1, .int .i64 x102002_1, .int .i64 x102003_1, .int .i64 x102004_1, .int .i64 x102005_1, .int .i64 x102006_1, .int .i64 x102007_1, .bool x102008_1, .string x102009_1, .bool x102010_1, .string x102011_1, .int .i64 x102012_1] 65 (0, 0)) (by (with_reducible repeat (first | refine blk_drewN ?_ _ | refine blk_drew ?_ | refine blk_alloc ?_ _)); refine blk_far ?_ NB101_119.out _; refine blk_far ?_ NB101_119.out _; refine blk_far ?_ NB101_119.out _; refine blk_far ?_ NB101_119.out _; refine blk_far ?_ NB101_119.out _; refine blk_far ?_ NB101_119.out _; refine blk_far ?_ NB101_119.out _; refine blk_far ?_ NB101_119.out _; refine blk_far ?_ NB101_119.out _; refine blk_far ?_ NB101_119.out _; refine blk_far ?_ NB101_119.out _; refine blk_far ?_ NB101_119.out _; refine blk_far ?_ NB101_119.out _; (with_reducible repeat (first | refine blk_drewN ?_ _ | refine blk_drew ?_ | refine blk_alloc ?_ _)); exact BK101.out) hb); have n2_ := Aside0.mk (blk_below (g := gb119) (o := .cells #[.int .i64 (rd x5_1 0), .int .i64 (rd x5_1 1), .int .i64 (rd x5_1 2), .int .i64 (rd x5_1 3), .int .i64 (rd x5_1 4), .int .i64 (rd x5_1 5), .int .i64 0, .int .i64 0, .bool false, .string (⟨#[]⟩ : ByteArray), .bool false, .string (⟨#[]⟩ : ByteArray), .int .i64 0] 65 (0, 0)) (by (with_reducible repeat (first | refine blk_drewN ?_ _ | refine blk_drew ?_ | refine blk_alloc ?_ _)); refine blk_put (cs := #[.int .i64 (rd x5_1 0), .int .i64 (rd x5_1 1), .int .i64 (rd x5_1 2), .int .i64 (rd x5_1 3), .int .i64 (rd x5_1 4), .int .i64 (rd x5_1 5), .int .i64 0, .int .i64 0, .bool false, .string (⟨#[]⟩ : ByteArray), .bool false, .string (⟨#[]⟩ : ByteArray), .int .i64 0]) ?_ 12 _ rfl; refine blk_put (cs := #[.int .i64 (rd x5_1 0), .int .i64 (rd x5_1 1), .int .i64 (rd x5_1 2), .int .i64 (rd x5_1 3), .int .i64 (rd x5_1 4), .int .i64 (rd x5_1 5), .int .i64 0, .int .i64 0, .bool false, .string (⟨#[]⟩ : ByteArray), .bool false, .string (⟨#[]⟩ : ByteArray), .int .i64 0]) ?_ 11 _ rfl; refine blk_put (cs := #[.int .i64 (rd x5_1 0), .int .i64 (rd x5_1 1), .int .i64 (rd x5_1 2), .int .i64 (rd x5_1 3), .int .i64 (rd x5_1 4), .int .i64 (rd x5_1 5), .int .i64 0, .int .i64 0, .bool false, .string (⟨#[]⟩ : ByteArray), .bool false, .string (⟨#[]⟩ : ByteArray), .int .i64 0]) ?_ 10 _ rfl; refine blk_put (cs := #[.int .i64 (rd x5_1 0), .int .i64 (rd x5_1 1), .int .i64 (rd x5_1 2), .int .i64 (rd x5_1 3), .int .i64 (rd x5_1 4), .int .i64 (rd x5_1 5), .int .i64 0, .int .i64 0, .bool false, .string (⟨#[]⟩ : ByteArray), .bool false, .string (⟨#[]⟩ : ByteArray), .int .i64 0]) ?_ 9 _ rfl; refine blk_put (cs := #[.int .i64 (rd x5_1 0), .int .i64 (rd x5_1 1), .int .i64 (rd x5_1 2), .int .i64 (rd x5_1 3), .int .i64 (rd x5_1 4), .int .i64 (rd x5_1 5), .int .i64 0, .int .i64 0, .bool false, .string (⟨#[]⟩ : ByteArray), .bool false, .string (⟨#[]⟩ : ByteArray), .int .i64 0]) ?_ 8 _ rfl; refine blk_put (cs := #[.int .i64 (rd x5_1 0), .int .i64 (rd x5_1 1), .int .i64 (rd x5_1 2), .int .i64 (rd x5_1 3), .int .i64 (rd x5_1 4), .int .i64 (rd x5_1 5), .int .i64 0, .int .i64 0, .bool false, .string (⟨#[]⟩ : ByteArray), .bool false, .string (⟨#[]⟩ : ByteArray), .int .i64 0]) ?_ 7 _ rfl; refine blk_put (cs := #[.int .i64 (rd x5_1 0), .int .i64 (rd x5_1 1), .int .i64 (rd x5_1 2), .int .i64 (rd x5_1 3), .int .i64 (rd x5_1 4), .int .i64 (rd x5_1 5), .int .i64 0, .int .i64 0, .bool false, .string (⟨#[]⟩ : ByteArray), .bool false, .string (⟨#[]⟩ : ByteArray), .int .i64 0]) ?_ 6 _ rfl; refine blk_put (cs := #[.int .i64 (rd x5_1 0), .int .i64 (rd x5_1 1), .int .i64 (rd x5_1 2), .int .i64 (rd x5_1 3), .int .i64 (rd x5_1 4), .int .i64 0, .int .i64 0, .int .i64 0, .bool false, .string (⟨#[]⟩ : ByteArray), .bool false, .string (⟨#[]⟩ : ByteArray), .int .i64 0]) ?_ 5 _ rfl; refine blk_put (cs := #[.int .i64 (rd x5_1 0), .int .i64 (rd x5_1 1), .int .i64 (rd x5_1 2), .int .i64 (rd x5_1 3), .int .i64 0, .int .i64 0, .int .i64 0, .int .i64 0, .bool false, .string (⟨#[]⟩ : ByteArray), .bool false, .string (⟨#[]⟩ : ByteArray), .int .i64 0]) ?_ 4 _ rfl; refine blk_put (cs := #[.int .i64 (rd x5_1 0), .int .i64 (rd x5_1 1), .int .i64 (rd x5_1 2), .int .i64 0, .int .i64 0, .int .i64 0, .int .i64 0, .int .i64 0, .bool false, .string (⟨#[]⟩ : ByteArray), .bool false, .string (⟨#[]⟩ : ByteArray), .int .i64 0]) ?_ 3 _ rfl; refine blk_put (cs := #[.int .i64 (rd x5_1 0), .int .i64 (rd x5_1 1), .int .i64 0, .int .i64 0, .int .i64 0, .int .i64 0, .int .i64 0, .int .i64 0, .bool false, .string (⟨#[]⟩ : ByteArray), .bool false, .string (⟨#[]⟩ : ByteArray), .int .i64 0]) ?_ 2 _ rfl; refine blk_put (cs := #[.int .i64 (rd x5_1 0), .int .i64 0, .int .i64 0, .int .i64 0, .int .i64 0, .int .i64 0, .int .i64 0, .int .i64 0, .bool false, .string (⟨#[]⟩ : ByteArray), .bool false, .string (⟨#[]⟩ : ByteArray), .int .i64 0]) ?_ 1 _ rfl; refine blk_put (cs := #[.int .i64 0, .int .i64 0, .int .i64 0, .int .i64 0, .int .i64 0, .int .i64 0, .int .i64 0, .int .i64 0, .bool false, .string (⟨#[]⟩ : ByteArray), .bool false, .string (⟨#[]⟩ : ByteArray), .int .i64 0]) ?_ 0 _ rfl; (with_reducible repeat (first | refine blk_drewN ?_ _ | refine blk_drew ?_ | refine blk_alloc ?_ _)); exact BK119.out) hb); have n3_ := Aside0.mk (below_step (by repeat (first | (with_reducible first | exact HB.out | apply below_alloc | apply pw_below_drewN | apply below_drew1 | refine below_set ?_ GE101.out | refine below_set ?_ GE119.out) | exact HB.out)) hb); clear HO_5; clear BK101; clear BK119; clear HB; have HO_5 := n0_; have BK101 := n1_; have BK119 := n2_; have HB := n3_; clear n0_ n1_ n2_ n3_; (try clear hb); (try clear hb2); (try clear hk); (try clear hi); obtain ⟨hcz138_0, hcz138_1, hcz138_2, hcz138_3, hcz138_4, hcz138_5, hcz138_6, hcz138_7, hcz138_8, hcz138_9, hcz138_10, hcz138_11, hcz138_12⟩ := cl13 (W := w137) BK101.out; obtain ⟨hfz138_0, hfz138_1, hfz138_2, hfz138_3, hfz138_4, hfz138_5, hfz138_6, hfz138_7, hfz138_8, hfz138_9, hfz138_10, hfz138_11, hfz138_12⟩ := fr13 BK101.out))
            refine bodyPost_ret (results_ctt rfl _ _ gb101 65 #[.int .i64 0, .int .i64 0, .int .i64 0, .int .i64 0, .int .i64 0, .int .i64 0, .int .i64 0, .int .i64 0, .bool false, .string (⟨#[]⟩ : ByteArray), .bool false, .string (⟨#[]⟩ : ByteArray), .int .i64 0] (0, 0) _ rfl (by (with_reducible repeat (first | refine blk_drewN ?_ _ | refine blk_drew ?_ | refine blk_alloc ?_ _)); refine blk_put (cs := #[.int .i64 0, .int .i64 0, .int .i64 0, .int .i64 0, .int .i64 0, .int .i64 0, .int .i64 0, .int .i64 0, .bool false, .string (⟨#[]⟩ : ByteArray), .bool false, .string (⟨#[]⟩ : ByteArray), .int .i64 x102012_1]) ?_ 12 _ rfl; refine blk_put (cs := #[.int .i64 0, .int .i64 0, .int .i64 0, .int .i64 0, .int .i64 0, .int .i64 0, .int .i64 0, .int .i64 0, .bool false, .string (⟨#[]⟩ : ByteArray), .bool false, .string x102011_1, .int .i64 x102012_1]) ?_ 11 _ rfl; refine blk_put (cs := #[.int .i64 0, .int .i64 0, .int .i64 0, .int .i64 0, .int .i64 0, .int .i64 0, .int .i64 0, .int .i64 0, .bool false, .string (⟨#[]⟩ : ByteArray), .bool x102010_1, .string x102011_1, .int .i64 x102012_1]) ?_ 10 _ rfl; refine blk_put (cs := #[.int .i64 0, .int .i64 0, .int .i64 0, .int .i64 0, .int .i64 0, .int .i64 0, .int .i64 0, .int .i64 0, .bool false, .string x102009_1, .bool x102010_1, .string x102011_1, .int .i64 x102012_1]) ?_ 9 _ rfl; refine blk_put (cs := #[.int .i64 0, .int .i64 0, .int .i64 0, .int .i64 0, .int .i64 0, .int .i64 0, .int .i64 0, .int .i64 0, .bool x102008_1, .string x102009_1, .bool x102010_1, .string x102011_1, .int .i64 x102012_1]) ?_ 8 _ rfl; refine blk_put (cs := #[.int .i64 0, .int .i64 0, .int .i64 0, .int .i64 0, .int .i64 0, .int .i64 0, .int .i64 0, .int .i64 x102007_1, .bool x102008_1, .string x102009_1, .bool x102010_1, .string x102011_1, .int .i64 x102012_1]) ?_ 7 _ rfl; refine blk_put (cs := #[.int .i64 0, .int .i64 0, .int .i64 0, .int .i64 0, .int .i64 0, .int .i64 0, .int .i64 x102006_1, .int .i64 x102007_1, .bool x102008_1, .string x102009_1, .bool x102010_1, .string x102011_1, .int .i64 x102012_1]) ?_ 6 _ rfl; refine blk_put (cs := #[.int .i64 0, .int .i64 0, .int .i64 0, .int .i64 0, .int .i64 0, .int .i64 x102005_1, .int .i64 x102006_1, .int .i64 x102007_1, .bool x102008_1, .string x102009_1, .bool x102010_1, .string x102011_1, .int .i64 x102012_1]) ?_ 5 _ rfl; refine blk_put (cs := #[.int .i64 0, .int .i64 0, .int .i64 0, .int .i64 0, .int .i64 x102004_1, .int .i64 x102005_1, .int .i64 x102006_1, .int .i64 x102007_1, .bool x102008_1, .string x102009_1, .bool x102010_1, .string x102011_1, .int .i64 x102012_1]) ?_ 4 _ rfl; refine blk_put (cs := #[.int .i64 0, .int .i64 0, .int .i64 0, .int .i64 x102003_1, .int .i64 x102004_1, .int .i64 x102005_1, .int .i64 x102006_1, .int .i64 x102007_1, .bool x102008_1, .string x102009_1, .bool x102010_1, .string x102011_1, .int .i64 x102012_1]) ?_ 3 _ rfl; refine blk_put (cs := #[.int .i64 0, .int .i64 0, .int .i64 x102002_1, .int .i64 x102003_1, .int .i64 x102004_1, .int .i64 x102005_1, .int .i64 x102006_1, .int .i64 x102007_1, .bool x102008_1, .string x102009_1, .bool x102010_1, .string x102011_1, .int .i64 x102012_1]) ?_ 2 _ rfl; refine blk_put (cs := #[.int .i64 0, .int .i64 x102001_1, .int .i64 x102002_1, .int .i64 x102003_1, .int .i64 x102004_1, .int .i64 x102005_1, .int .i64 x102006_1, .int .i64 x102007_1, .bool x102008_1, .string x102009_1, .bool x102010_1, .string x102011_1, .int .i64 x102012_1]) ?_ 1 _ rfl; refine blk_put (cs := #[.int .i64 x102000_1, .int .i64 x102001_1, .int .i64 x102002_1, .int .i64 x102003_1, .int .i64 x102004_1, .int .i64 x102005_1, .int .i64 x102006_1, .int .i64 x102007_1, .bool x102008_1, .string x102009_1, .bool x102010_1, .string x102011_1, .int .i64 x102012_1]) ?_ 0 _ rfl; (with_reducible repeat (first | refine blk_drewN ?_ _ | refine blk_drew ?_ | refine blk_alloc ?_ _)); exact BK101.out) Try.underlying65 rfl (by kernel_rfl)) rfl ?_
            exact ⟨by first | rfl | (simp [errW_none, errW_some] <;> rfl) | (simp [*, errW_none, errW_some] <;> rfl), by repeat (first | (with_reducible first | exact HB.out | apply below_alloc | apply pw_below_drewN | apply below_drew1 | refine below_set ?_ GE101.out | refine below_set ?_ GE119.out) | exact HB.out)⟩
         ·rw [if_neg c28] at H
          exact absurd H (by simp)
        ·rw [if_neg c27] at H
         exact absurd H (by simp)
       ·rw [if_neg c26] at H
        exact absurd H (by simp)
      ·rw [if_neg c25] at H
       exact absurd H (by simp)
     ·rw [if_neg c24] at H
      exact absurd H (by simp)
    ·rw [if_neg c23] at H
     exact absurd H (by simp)
end Go.Proofs.Ytfjmnaobfbmllaa.M
namespace Go.Proofs.Ytfjmnaobfbmllaa.M
open Go.RowKit Go.Proofs.YtfjmnaobfbmllaaW.PrintWords Go.Proofs.YtfjmnaobfbmllaaW.PrintLast Go.Proofs.YtfjmnaobfbmllaaW.PrintMore
set_option linter.unusedVariables false
set_option linter.unusedSimpArgs false
theorem rtake_some {r : ByteArray} {x : S33} {m : List Int} (h : takeS (bytesOf r) = some (x, m)) : seneschalref04_take.f r = some (x.f0, x.f1, strOfNums m, true) := by
  unfold takeS at h
  unfold seneschalref04_take.f refTake.f refTakeStr.f
  rw [Option.bind_eq_some_iff] at h
  obtain ⟨⟨n, q⟩, h1, h2⟩ := h
  have hq := takeI_range h1
  rw [takeR_some h1, Option.bind_some]
  simp only at h2 ⊢
  rw [if_pos trivial]
  split at h2
  · rename_i hc
    rw [if_pos hc]
    cases h2; rfl
  · rename_i hc
    rw [if_neg hc]
    split at h2
    · rename_i hc2
      rw [Option.map_eq_some_iff] at h2
      obtain ⟨⟨s, t⟩, h3, h4⟩ := h2
      simp only [Prod.mk.injEq] at h4
      obtain ⟨rfl, rfl⟩ := h4
      rw [textR_eq, bytesOf_strOfNums q hq, h3, Option.bind_some]
      simp only
      rw [if_pos trivial, hc2]; rfl
    · cases h2
theorem rtake_none {r : ByteArray} (h : takeS (bytesOf r) = none) : ∃ u d q, seneschalref04_take.f r = some (u, d, q, false) := by
  unfold takeS at h
  unfold seneschalref04_take.f refTake.f refTakeStr.f
  cases h1 : takeI (bytesOf r) with
  | none => rw [takeR_none h1, Option.bind_some]; exact ⟨_, _, _, rfl⟩
  | some p =>
    obtain ⟨n, q⟩ := p
    have hq := takeI_range h1
    rw [takeR_some h1, Option.bind_some]
    rw [h1, Option.bind_some] at h
    simp only at h ⊢
    rw [if_pos trivial]
    split at h
    · cases h
    · rename_i hc
      rw [if_neg hc, textR_eq, bytesOf_strOfNums q hq]
      split at h
      · rw [Option.map_eq_none_iff] at h
        rw [h, Option.bind_some]
        exact ⟨_, _, _, rfl⟩
      · rename_i hc2
        have e : (n == 1) = false := beq_eq_false_iff_ne.mpr hc2
        cases takeT q with
        | none => rw [Option.bind_some]; exact ⟨_, _, _, rfl⟩
        | some p => rw [Option.bind_some, e]; exact ⟨_, _, _, rfl⟩
def errT := entTup (zE, (⟨#[]⟩ : ByteArray), 4)
theorem rdec_step (l : List Int) (r : ByteArray) (W : Int) (k : Nat) (hl : (l.length : Int) < W) (h8 : l.length ≤ 8) {n : Int} {m : List Int} (h : takeI (bytesOf r) = some (n, m)) :
    seneschalref04_Decode.l0 (k + 1) r l W = seneschalref04_Decode.l0 k (strOfNums m) (l ++ [n]) (if rd (l ++ [n]) 0 = 1 ∨ rd (l ++ [n]) 0 = 2 then 9 else W) := by
  simp only [seneschalref04_Decode.l0]
  unfold refTake.f
  rw [if_pos hl, takeR_some h, Option.bind_some]
  simp only
  rw [if_pos trivial, if_pos (by omega), Option.bind_some, if_pos (by simp)]
  by_cases h1 : rd (l ++ [n]) 0 = 1
  · rw [if_pos h1, if_pos (.inl h1)]
  · rw [if_neg h1]
    by_cases h2 : rd (l ++ [n]) 0 = 2
    · rw [if_pos h2, if_pos (.inr h2)]
    · rw [if_neg h2, if_neg (fun h => h.elim h1 h2)]
theorem rdec_stop (l : List Int) (r : ByteArray) (W : Int) (k : Nat) (hl : (l.length : Int) < W) (h : takeI (bytesOf r) = none) : seneschalref04_Decode.l0 (k + 1) r l W = some errT := by
  simp only [seneschalref04_Decode.l0]
  unfold refTake.f
  rw [if_pos hl, takeR_none h, Option.bind_some]
  rfl
theorem rdec_run (k0 : Int) (W : Nat) (hW : W = if k0 = 1 ∨ k0 = 2 then 9 else 6) (d : Nat) : ∀ (K : Nat) (l : List Int) (r : ByteArray), (k0 :: l).length + d = W → d < K →
    seneschalref04_Decode.l0 K r (k0 :: l) W = match takeNs d (bytesOf r) with
      | none => some errT
      | some (m, q) => seneschalref04_Decode.l0 (K - d) (strOfNums q) (k0 :: l ++ m) W := by
  have hW9 : W ≤ 9 := by rw [hW]; split <;> omega
  induction d with
  | zero =>
    intro K l r _ _
    simp only [takeNs, Nat.sub_zero, List.append_nil, str_bytes]
  | succ d ih =>
    intro K l r hl hk
    obtain ⟨K, rfl⟩ : ∃ m, K = m + 1 := ⟨K - 1, by omega⟩
    unfold takeNs
    cases h1 : takeI (bytesOf r) with
    | none => rw [rdec_stop _ _ _ _ (by omega) h1]; rfl
    | some p =>
      obtain ⟨n, q⟩ := p
      have hq := bytesOf_strOfNums q (takeI_range h1)
      have e0 : rd (k0 :: l ++ [n]) 0 = k0 := rfl
      have eW : (if rd (k0 :: l ++ [n]) 0 = 1 ∨ rd (k0 :: l ++ [n]) 0 = 2 then (9 : Int) else (W : Int)) = W := by
        rw [e0]
        by_cases hc : k0 = 1 ∨ k0 = 2
        · rw [if_pos hc, hW, if_pos hc]; rfl
        · rw [if_neg hc]
      rw [rdec_step _ _ _ _ (by omega) (by omega) h1, eW]
      have := ih K (l ++ [n]) (strOfNums q) (by simp at hl ⊢; omega) (by omega)
      rw [hq] at this
      rw [show k0 :: l ++ [n] = k0 :: (l ++ [n]) from rfl, this, Option.bind_some]
      simp only
      cases takeNs d q with
      | none => rfl
      | some p =>
        simp only [Option.map_some]
        rw [show K + 1 - (d + 1) = K - d by omega, show k0 :: (l ++ [n]) ++ p.1 = k0 :: l ++ n :: p.1 by simp]
theorem refdec_pure (s : ByteArray) : seneschalref04_Decode.f 20 s = some (entTup (decE s)) := by
  unfold seneschalref04_Decode.f decE parseE
  have e6 : takeNs 6 (bytesOf s) = (takeI (bytesOf s)).bind fun r => (takeNs 5 r.2).map fun q => (r.1 :: q.1, q.2) := rfl
  rw [e6]
  cases h1 : takeI (bytesOf s) with
  | none => rw [rdec_stop [] s 6 19 (by decide) h1]; rfl
  | some p =>
    obtain ⟨k, m⟩ := p
    have hm := takeI_range h1
    have hb := bytesOf_strOfNums m hm
    rw [rdec_step [] s 6 19 (by decide) (by decide) h1, Option.bind_some]
    simp only
    have e0 : rd ([] ++ [k]) 0 = k := rfl
    rw [e0]
    by_cases hk : k = 1 ∨ k = 2
    · have h8 := takeNs_add 5 3 m
      rw [show 5 + 3 = 8 from rfl] at h8
      have hrun := rdec_run k 9 (if_pos hk).symm 8 19 [] (strOfNums m) rfl (by decide)
      rw [hb] at hrun
      rw [if_pos hk, show ([] : List Int) ++ [k] = [k] from rfl, show (9 : Int) = ((9 : Nat) : Int) from rfl, hrun]
      cases h5 : takeNs 5 m with
      | none =>
        rw [h5, Option.bind_none] at h8
        rw [h8]; rfl
      | some q =>
        obtain ⟨l, q⟩ := q
        obtain ⟨hl, e5⟩ := takeNs_sound 5 m hm l q h5
        obtain ⟨a1, a2, a3, a4, a5, rfl⟩ := list5 hl
        have hq := rest_range e5 hm
        rw [h5, Option.bind_some] at h8
        simp only [Option.map_some, Option.bind_some] at h8 ⊢
        rw [if_pos (show rd (k :: [a1, a2, a3, a4, a5]) 0 = 1 ∨ rd (k :: [a1, a2, a3, a4, a5]) 0 = 2 from hk)]
        cases h3 : takeNs 3 q with
        | none =>
          rw [h3, Option.map_none] at h8
          rw [h8]; rfl
        | some p =>
          obtain ⟨l2, p⟩ := p
          obtain ⟨hl2, e3⟩ := takeNs_sound 3 q hq l2 p h3
          obtain ⟨b1, b2, b3, rfl⟩ := list3 hl2
          have hp := rest_range e3 hq
          have hbp := bytesOf_strOfNums p hp
          rw [h3, Option.map_some] at h8
          rw [h8]
          simp only [Option.bind_some]
          rw [show 19 - 8 = 10 + 1 from rfl]
          simp only [seneschalref04_Decode.l0]
          rw [if_neg (by simp), if_pos (by simp), if_pos (by simp), if_pos (by simp), if_pos (by simp), if_pos (by simp), if_pos (by simp), if_pos (by simp), if_pos (by simp), if_pos (by simp), if_pos (by simp)]
          cases hs : takeS p with
          | none =>
            obtain ⟨u, d, r2, ht⟩ := rtake_none (r := strOfNums p) (by rw [hbp]; exact hs)
            rw [ht, Option.bind_some]
            simp only
            have h2 : ∃ z, seneschalref04_take.f r2 = some z := by
              cases hs2 : takeS (bytesOf r2) with
              | none => obtain ⟨u, d, r3, ht⟩ := rtake_none hs2; exact ⟨_, ht⟩
              | some z => exact ⟨_, rtake_some (x := z.1) (m := z.2) hs2⟩
            obtain ⟨z, hz⟩ := h2
            rw [hz, Option.bind_some, if_neg Bool.false_ne_true]
            simp only [seneschalref04_Decode.j1]
            rw [if_pos trivial]; rfl
          | some u =>
            obtain ⟨x1, u⟩ := u
            have hu := rest_range (takeS_sound p hp x1 u hs) hp
            have hbu := bytesOf_strOfNums u hu
            rw [rtake_some (r := strOfNums p) (by rw [hbp]; exact hs), Option.bind_some]
            simp only [Option.bind_some]
            cases hs2 : takeS u with
            | none =>
              obtain ⟨y, d, r2, ht⟩ := rtake_none (r := strOfNums u) (by rw [hbu]; exact hs2)
              rw [ht, Option.bind_some, if_pos trivial]
              simp only [seneschalref04_Decode.j1]
              rw [if_pos (by decide)]; rfl
            | some v =>
              obtain ⟨x2, v⟩ := v
              rw [rtake_some (r := strOfNums u) (by rw [hbu]; exact hs2), Option.bind_some, if_pos trivial]
              simp only [seneschalref04_Decode.j1, Option.map_some]
              unfold refGood4.f
              rw [if_neg (by decide), Option.bind_some]
              have ex : mkE (rd (k :: [] ++ ([a1, a2, a3, a4, a5] ++ [b1, b2, b3])) 0) (rd (k :: [] ++ ([a1, a2, a3, a4, a5] ++ [b1, b2, b3])) 1) (rd (k :: [] ++ ([a1, a2, a3, a4, a5] ++ [b1, b2, b3])) 2) (rd (k :: [] ++ ([a1, a2, a3, a4, a5] ++ [b1, b2, b3])) 3) (rd (k :: [] ++ ([a1, a2, a3, a4, a5] ++ [b1, b2, b3])) 4) (rd (k :: [] ++ ([a1, a2, a3, a4, a5] ++ [b1, b2, b3])) 5) (rd (k :: [] ++ ([a1, a2, a3, a4, a5] ++ [b1, b2, b3])) 6) (rd (k :: [] ++ ([a1, a2, a3, a4, a5] ++ [b1, b2, b3])) 7) x1.f0 x1.f1 x2.f0 x2.f1 (rd (k :: [] ++ ([a1, a2, a3, a4, a5] ++ [b1, b2, b3])) 8) = ⟨k, ⟨a1, a2, a3⟩, a4, a5, b1, b2, x1, x2, b3⟩ := rfl
              rw [ex]
              by_cases hg : GoodE ⟨k, ⟨a1, a2, a3⟩, a4, a5, b1, b2, x1, x2, b3⟩
              · rw [decide_eq_true hg, if_pos rfl, if_pos (show GoodE ⟨rd [k, a1, a2, a3, a4, a5] 0, ⟨rd [k, a1, a2, a3, a4, a5] 1, rd [k, a1, a2, a3, a4, a5] 2, rd [k, a1, a2, a3, a4, a5] 3⟩, rd [k, a1, a2, a3, a4, a5] 4, rd [k, a1, a2, a3, a4, a5] 5, rd [b1, b2, b3] 0, rd [b1, b2, b3] 1, x1, x2, rd [b1, b2, b3] 2⟩ from hg)]; rfl
              · rw [decide_eq_false hg, if_neg Bool.false_ne_true, if_neg (show ¬ GoodE ⟨rd [k, a1, a2, a3, a4, a5] 0, ⟨rd [k, a1, a2, a3, a4, a5] 1, rd [k, a1, a2, a3, a4, a5] 2, rd [k, a1, a2, a3, a4, a5] 3⟩, rd [k, a1, a2, a3, a4, a5] 4, rd [k, a1, a2, a3, a4, a5] 5, rd [b1, b2, b3] 0, rd [b1, b2, b3] 1, x1, x2, rd [b1, b2, b3] 2⟩ from hg)]; rfl
    · have hrun := rdec_run k 6 (if_neg hk).symm 5 19 [] (strOfNums m) rfl (by decide)
      rw [hb] at hrun
      rw [if_neg hk, show ([] : List Int) ++ [k] = [k] from rfl, show (6 : Int) = ((6 : Nat) : Int) from rfl, hrun]
      cases h5 : takeNs 5 m with
      | none => rfl
      | some q =>
        obtain ⟨l, q⟩ := q
        obtain ⟨hl, e5⟩ := takeNs_sound 5 m hm l q h5
        obtain ⟨a1, a2, a3, a4, a5, rfl⟩ := list5 hl
        simp only [Option.map_some, Option.bind_some]
        rw [if_neg (show ¬ (rd (k :: [a1, a2, a3, a4, a5]) 0 = 1 ∨ rd (k :: [a1, a2, a3, a4, a5]) 0 = 2) from hk)]
        rw [show 19 - 5 = 13 + 1 from rfl]
        generalize 13 = K13
        simp only [seneschalref04_Decode.l0]
        rw [if_neg (by simp), if_pos (by simp), if_pos (by simp), if_pos (by simp), if_pos (by simp), if_pos (by simp), if_pos (by simp), if_neg (by simp)]
        unfold refGood4.f
        rw [Option.bind_some]
        have ex : mkE (rd (k :: [] ++ [a1, a2, a3, a4, a5]) 0) (rd (k :: [] ++ [a1, a2, a3, a4, a5]) 1) (rd (k :: [] ++ [a1, a2, a3, a4, a5]) 2) (rd (k :: [] ++ [a1, a2, a3, a4, a5]) 3) (rd (k :: [] ++ [a1, a2, a3, a4, a5]) 4) (rd (k :: [] ++ [a1, a2, a3, a4, a5]) 5) 0 0 false ⟨#[]⟩ false ⟨#[]⟩ 0 = ⟨k, ⟨a1, a2, a3⟩, a4, a5, 0, 0, z33, z33, 0⟩ := rfl
        rw [ex]
        by_cases hg : GoodE ⟨k, ⟨a1, a2, a3⟩, a4, a5, 0, 0, z33, z33, 0⟩
        · rw [decide_eq_true hg, if_pos rfl, if_pos (show GoodE ⟨rd [k, a1, a2, a3, a4, a5] 0, ⟨rd [k, a1, a2, a3, a4, a5] 1, rd [k, a1, a2, a3, a4, a5] 2, rd [k, a1, a2, a3, a4, a5] 3⟩, rd [k, a1, a2, a3, a4, a5] 4, rd [k, a1, a2, a3, a4, a5] 5, 0, 0, z33, z33, 0⟩ from hg)]; rfl
        · rw [decide_eq_false hg, if_neg Bool.false_ne_true, if_neg (show ¬ GoodE ⟨rd [k, a1, a2, a3, a4, a5] 0, ⟨rd [k, a1, a2, a3, a4, a5] 1, rd [k, a1, a2, a3, a4, a5] 2, rd [k, a1, a2, a3, a4, a5] 3⟩, rd [k, a1, a2, a3, a4, a5] 4, rd [k, a1, a2, a3, a4, a5] 5, 0, 0, z33, z33, 0⟩ from hg)]; rfl
def refDec4.f (s : ByteArray) : Option (Int × Int × Int × Int × Int × Int × Int × Int × Bool × ByteArray × Bool × ByteArray × Int × ByteArray × Int) := some (entTup (decE s))
theorem refDec4.calls (s : ByteArray) (r1 : Int) (r2 : Int) (r3 : Int) (r4 : Int) (r5 : Int) (r6 : Int) (r7 : Int) (r8 : Int) (r9 : Bool) (r10 : ByteArray) (r11 : Bool) (r12 : ByteArray) (r13 : Int) (r14 : ByteArray) (r15 : Int) (w : World) (h : refDec4.f s = some (r1, r2, r3, r4, r5, r6, r7, r8, r9, r10, r11, r12, r13, r14, r15)) :
    Calls Try.prog 64 #[.string s] w fun e w' => e = .returned (.tuple #[.agg #[.int .i64 r1, .int .i64 r2, .int .i64 r3, .int .i64 r4, .int .i64 r5, .int .i64 r6, .int .i64 r7, .int .i64 r8, .bool r9, .string r10, .bool r11, .string r12, .int .i64 r13], .string r14, .int .i64 r15]) ∧ Below w.heap.size w w' :=
  seneschalref04_Decode.calls 20 s r1 r2 r3 r4 r5 r6 r7 r8 r9 r10 r11 r12 r13 r14 r15 w (by rw [← h]; exact refdec_pure s)
end Go.Proofs.Ytfjmnaobfbmllaa.M
namespace Go.Proofs.Ytfjmnaobfbmllaa.M
open Go.RowKit Go.Proofs.YtfjmnaobfbmllaaW.PrintWords Go.Proofs.YtfjmnaobfbmllaaW.PrintLast Go.Proofs.YtfjmnaobfbmllaaW.PrintMore
attribute [local go_sem] max2_int min2_int max_two min_two max_three min_three max_four min_four   -- for this text's walks alone
set_option linter.unusedVariables false
set_option linter.unusedSimpArgs false
def entry_slot.f (a0_0 : Bool) (a0_1 : ByteArray) : Option (ByteArray) := if a0_0 = true then ((nibInt.f 1).bind fun t102 => ((nibStr.f a0_1).bind fun t103 => (if t102.size + t103.size ≤ 9223372036854775807 then (some (t102 ++ t103)) else (none)))) else ((nibInt.f 0).bind fun t104 => (some t104))
set_option maxHeartbeats 8000000 in
set_option maxRecDepth 100000 in
theorem entry_slot.calls (a0_0 : Bool) (a0_1 : ByteArray) (r : ByteArray) (w : World) (h : entry_slot.f a0_0 a0_1 = some r) :
  Calls Try.prog 99 #[.agg #[.bool a0_0, .string a0_1]] w fun e w' => e = .returned (.string r) ∧ Below w.heap.size w w' := by
 have hu33 := Try.underlying33
 have HB := Aside0.mk (Below.refl w.heap.size w)
 have H : (if a0_0 = true then ((nibInt.f 1).bind fun t102 => ((nibStr.f a0_1).bind fun t103 => (if t102.size + t103.size ≤ 9223372036854775807 then (some (t102 ++ t103)) else (none)))) else ((nibInt.f 0).bind fun t104 => (some t104))) = some r := h
 clear h
 by_cases c2 : a0_0 = true
 ·subst c2
  have H1 : ((nibInt.f 1).bind fun t102 => ((nibStr.f a0_1).bind fun t103 => (if t102.size + t103.size ≤ 9223372036854775807 then (some (t102 ++ t103)) else (none)))) = some r := by rw [if_pos rfl] at H; exact H
  clear H
  have H := H1
  clear H1
  replace H := Option.bind_eq_some_iff.mp H
  obtain ⟨t102, A30, H⟩ := H
  replace H : ((nibStr.f a0_1).bind fun t103 => (if t102.size + t103.size ≤ 9223372036854775807 then (some (t102 ++ t103)) else (none))) = some r := H
  have A3 := Aside0.mk A30
  clear A30
  replace H := Option.bind_eq_some_iff.mp H
  obtain ⟨t103, A40, H⟩ := H
  replace H : (if t102.size + t103.size ≤ 9223372036854775807 then (some (t102 ++ t103)) else (none)) = some r := H
  have A4 := Aside0.mk A40
  clear A40
  by_cases c5 : t102.size + t103.size ≤ 9223372036854775807
  ·rw [if_pos c5] at H
   have c5b0 := eq_true c5
   have c5b1 : decide (t102.size + t103.size ≤ 9223372036854775807) = true := decide_eq_true c5
   try have c5b2 : (9223372036854775807 < t102.size + t103.size) = False := eq_false (Nat.not_lt.2 c5)
   obtain rfl := Option.some.inj H
   go_enter Try.func99, Try.ntmps99
   try go_wp2_with (first | ((with_reducible refine gate_dst (N := 1) rfl ?_); refine box_event ?hg (N := 1) ?hd (cs := #[.bool true, .string a0_1]) (t := 33) ?hr ?_; (case hd => rfl); (case hg => rfl); (case hr => first | (go_simp; done) | (go_simp; rfl)); intro gb101 hg w6 hbox hb; have n0_ := Aside0.mk (below_step HB.out hb); have n1_ := Aside0.mk (hbox); have n2_ := Aside0.mk ((by rw [hg]; exact below_size HB.out : w.heap.size ≤ gb101)); have n3_ := Aside0.mk ((by rw [hg]; exact below_size HB.out : w.heap.size ≤ gb101)); clear HB; have HB := n0_; have BK101 := n1_; have GW101 := n2_; have GE101 := n3_; clear n0_ n1_ n2_ n3_; clear hb hbox hg; obtain ⟨hcz7_0, hcz7_1⟩ := cl2 (W := w6) BK101.out; obtain ⟨hfz7_0, hfz7_1⟩ := fr2 BK101.out))
   have n0_ := Aside0.mk (blk_drew BK101.out)
   have n1_ := Aside0.mk (below_drew1 HB.out)
   clear BK101
   clear HB
   have BK101 := n0_
   have HB := n1_
   clear n0_ n1_
   refine start_ (n := 6) (S := fun w' => w'.cell? ⟨gb101, 0, none⟩ = some (.bool true) ∧ w'.cell? ⟨gb101, 1, none⟩ = some (.string a0_1)) (ds := []) #[false, false, false, false, false, false] (by kernel_rfl) rfl rfl ⟨(blk_cell BK101.out 0).trans rfl, (blk_cell BK101.out 1).trans rfl⟩ (fun hHeld => ?_)
   generalize w6.drew = w8 at BK101 HB hHeld ⊢
   refine pure_ (i := 1) (N := some 8) (v := ?_) (a' := ?_) #[false, true, false, false, false, false] rfl rfl (by kernel_rfl) (fun _ _ _ h => h) (Or.inl ⟨by rfl, ?_⟩) ?_ ?_
   rotate_left
   ·intro w'
    go_simp
    with_reducible rfl
   rotate_left
   ·simp only [Act.put, List.setIfInBounds_toArray, List.set_cons_zero, List.set_cons_succ, i64_w, i32_w]
    rfl
   refine take_ (i := 2) (N := some 9) (v := ?_) (a' := ?_) #[false, true, true, false, false, false] rfl rfl (by kernel_rfl) (fun _ _ _ h => h) (Or.inl ⟨by rfl, ?_⟩) hHeld ?_ ?_
   rotate_left
   ·rintro w' ⟨s0, s1⟩
    go_simp
    with_reducible rfl
   rotate_left
   ·simp only [Act.put, List.setIfInBounds_toArray, List.set_cons_zero, List.set_cons_succ, i64_w, i32_w]
    rfl
   refine one_ (i := 0) (N := some 7) #[true, true, true, false, false, false] rfl rfl (by kernel_rfl) (by decide) (fun K hK => ?_)
   refine goes_ Try.func98 (by kernel_rfl) rfl #[.int .i64 1] (by rfl) rfl rfl (by (try simp only [List.map_toArray, List.map_cons, List.map_nil]); first | done | rfl | (simp only [List.length_drop, List.length_take]; rfl)) ?_
   with_reducible refine (nibInt.calls 1 t102 _ A3.out).mono ?_
   rintro e w9 ⟨rfl, hb⟩
   refine ⟨_, rfl, ?_⟩
   have n0_ := Aside0.mk (blk_below BK101.out hb)
   have n1_ := Aside0.mk (below_step HB.out hb)
   clear BK101
   clear HB
   have BK101 := n0_
   have HB := n1_
   clear n0_ n1_
   (try clear hb)
   (try clear hb2)
   (try clear hk)
   (try clear hi)
   refine hK.out _ _ ⟨(blk_cell BK101.out 0).trans rfl, (blk_cell BK101.out 1).trans rfl⟩ (fun hHeld => ?_)
   clear hK K
   refine norm_ (a' := ?_) ?_ ?_
   rotate_left
   ·show Act.put _ (some 7) _ = _
    simp only [Act.put, List.setIfInBounds_toArray, List.set_cons_zero, List.set_cons_succ, i64_w, i32_w]
    rfl
   refine one_ (i := 3) (N := some 10) #[true, true, true, true, false, false] rfl rfl (by kernel_rfl) (by decide) (fun K hK => ?_)
   refine goes_ Try.func122 (by kernel_rfl) rfl #[.string a0_1] (by rfl) rfl rfl (by (try simp only [List.map_toArray, List.map_cons, List.map_nil]); first | done | rfl | (simp only [List.length_drop, List.length_take]; rfl)) ?_
   with_reducible refine (nibStr.calls a0_1 t103 _ A4.out).mono ?_
   rintro e w10 ⟨rfl, hb⟩
   refine ⟨_, rfl, ?_⟩
   have n0_ := Aside0.mk (blk_below BK101.out hb)
   have n1_ := Aside0.mk (below_step HB.out hb)
   clear BK101
   clear HB
   have BK101 := n0_
   have HB := n1_
   clear n0_ n1_
   (try clear hb)
   (try clear hb2)
   (try clear hk)
   (try clear hi)
   refine hK.out _ _ ⟨(blk_cell BK101.out 0).trans rfl, (blk_cell BK101.out 1).trans rfl⟩ (fun hHeld => ?_)
   clear hK K
   refine norm_ (a' := ?_) ?_ ?_
   rotate_left
   ·show Act.put _ (some 10) _ = _
    simp only [Act.put, List.setIfInBounds_toArray, List.set_cons_zero, List.set_cons_succ, i64_w, i32_w]
    rfl
   refine pure_ (i := 4) (N := some 11) (v := ?_) (a' := ?_) #[true, true, true, true, true, false] rfl rfl (by kernel_rfl) (fun _ _ _ h => h) (Or.inl ⟨by rfl, ?_⟩) ?_ ?_
   rotate_left
   ·intro w'
    go_simp
    with_reducible rfl
   rotate_left
   ·simp only [Act.put, List.setIfInBounds_toArray, List.set_cons_zero, List.set_cons_succ, i64_w, i32_w]
    rfl
   refine pure_ (i := 5) (N := some 2) (v := ?_) (a' := ?_) #[true, true, true, true, true, true] rfl rfl (by kernel_rfl) (fun _ _ _ h => h) (Or.inl ⟨by rfl, ?_⟩) ?_ ?_
   rotate_left
   ·intro w'
    go_simp
    with_reducible rfl
   rotate_left
   ·simp only [Act.put, List.setIfInBounds_toArray, List.set_cons_zero, List.set_cons_succ, i64_w, i32_w]
    rfl
   refine done_ (by kernel_rfl) ?_
   try go_wp2
   go_ret
   exact ⟨by first | rfl | (simp [errW_none, errW_some] <;> rfl) | (simp [*, errW_none, errW_some] <;> rfl), by repeat (first | (with_reducible first | exact HB.out | apply below_alloc | apply pw_below_drewN | apply below_drew1 | refine below_set ?_ GE101.out) | exact HB.out)⟩
  ·rw [if_neg c5] at H
   exact absurd H (by simp)
 ·replace c2 := Bool.eq_false_iff.mpr c2
  subst c2
  have H1 : ((nibInt.f 0).bind fun t104 => (some t104)) = some r := by rw [if_neg (show ¬ (false = true) by decide)] at H; exact H
  clear H
  have H := H1
  clear H1
  replace H := Option.bind_eq_some_iff.mp H
  obtain ⟨t104, A110, H⟩ := H
  replace H : (some t104) = some r := H
  have A11 := Aside0.mk A110
  clear A110
  obtain rfl := Option.some.inj H
  go_enter Try.func99, Try.ntmps99
  go_wp2_with (first | ((with_reducible refine gate_dst (N := 1) rfl ?_); refine box_event ?hg (N := 1) ?hd (cs := #[.bool false, .string a0_1]) (t := 33) ?hr ?_; (case hd => rfl); (case hg => rfl); (case hr => first | (go_simp; done) | (go_simp; rfl)); intro gb101 hg w12 hbox hb; have n0_ := Aside0.mk (below_step HB.out hb); have n1_ := Aside0.mk (hbox); have n2_ := Aside0.mk ((by rw [hg]; exact below_size HB.out : w.heap.size ≤ gb101)); have n3_ := Aside0.mk ((by rw [hg]; exact below_size HB.out : w.heap.size ≤ gb101)); clear HB; have HB := n0_; have BK101 := n1_; have GW101 := n2_; have GE101 := n3_; clear n0_ n1_ n2_ n3_; clear hb hbox hg; obtain ⟨hcz13_0, hcz13_1⟩ := cl2 (W := w12) BK101.out; obtain ⟨hfz13_0, hfz13_1⟩ := fr2 BK101.out) | ((with_reducible refine gate_callee (f := 98) rfl ?_); refine goesL_ (some 6) rfl rfl Try.func98 (by kernel_rfl) rfl #[.int .i64 0] rfl (by (try simp only [List.map_toArray, List.map_cons, List.map_nil]); first | done | rfl | (simp only [List.length_drop, List.length_take]; rfl)) ?_; (with_reducible refine (nibInt.calls 0 t104 _ A11.out).mono ?_); rintro e w14 ⟨rfl, hb⟩; refine ⟨_, rfl, ?_⟩; have n0_ := Aside0.mk (blk_below BK101.out hb); have n1_ := Aside0.mk (below_step HB.out hb); clear BK101; clear HB; have BK101 := n0_; have HB := n1_; clear n0_ n1_; (try clear hb); (try clear hb2); (try clear hk); (try clear hi)))
  go_ret
  exact ⟨by first | rfl | (simp [errW_none, errW_some] <;> rfl) | (simp [*, errW_none, errW_some] <;> rfl), by repeat (first | (with_reducible first | exact HB.out | apply below_alloc | apply pw_below_drewN | apply below_drew1 | refine below_set ?_ GE101.out) | exact HB.out)⟩
end Go.Proofs.Ytfjmnaobfbmllaa.M
namespace Go.Proofs.Ytfjmnaobfbmllaa.M
open Go.RowKit Go.Proofs.YtfjmnaobfbmllaaW.PrintWords Go.Proofs.YtfjmnaobfbmllaaW.PrintLast Go.Proofs.YtfjmnaobfbmllaaW.PrintMore
set_option linter.unusedVariables false
set_option linter.unusedSimpArgs false
theorem entslot_eq (u : Bool) (d : ByteArray) (h : d.size ≤ 200) : entry_slot.f u d = some (strOfNums (slotE ⟨u, d⟩)) := by
  unfold entry_slot.f nibInt.f nibStr.f slotE
  have h1 := (intB_len 1).2
  have h2 := strB_len d
  cases u with
  | true =>
    rw [if_pos rfl, if_pos (by decide), Option.bind_some, if_pos (by omega), Option.bind_some, if_pos (by rw [strOfNums_size, strOfNums_size]; omega),
      str_app2 _ _ (show ∀ b ∈ intB 1, 0 ≤ b ∧ b ≤ 255 from intB_range 1 (by decide)) (strB_range d (by omega))]
    rfl
  | false =>
    rw [if_neg Bool.false_ne_true, if_pos (by decide), Option.bind_some]
    rfl
theorem field_at (x : S65) (g i : Nat) (hi : i < (numsE x).length) : ∃ o : Nat, (fieldPs g)[i]? = some (.pointer (some ⟨g, o, none⟩)) ∧ (#[.int .i64 x.f0, .int .i64 x.f1.f0, .int .i64 x.f1.f1, .int .i64 x.f1.f2, .int .i64 x.f2, .int .i64 x.f3, .int .i64 x.f4, .int .i64 x.f5, .bool x.f6.f0, .string x.f6.f1, .bool x.f7.f0, .string x.f7.f1, .int .i64 x.f8] : Array Value)[o]? = some (.int .i64 (numsE x)[i]) := by
  unfold numsE at hi ⊢
  split at hi
  · have : i = 0 ∨ i = 1 ∨ i = 2 ∨ i = 3 ∨ i = 4 ∨ i = 5 ∨ i = 6 ∨ i = 7 ∨ i = 8 := by simp at hi; omega
    rename_i hk
    simp only [if_pos hk]
    rcases this with rfl | rfl | rfl | rfl | rfl | rfl | rfl | rfl | rfl <;> exact ⟨_, rfl, rfl⟩
  · have : i = 0 ∨ i = 1 ∨ i = 2 ∨ i = 3 ∨ i = 4 ∨ i = 5 := by simp at hi; omega
    rename_i hk
    simp only [if_neg hk]
    rcases this with rfl | rfl | rfl | rfl | rfl | rfl <;> exact ⟨_, rfl, rfl⟩
theorem nums_len (x : S65) : (numsE x).length = if x.f0 = 1 ∨ x.f0 = 2 then 9 else 6 := by unfold numsE; split <;> simp
set_option maxHeartbeats 8000000 in
set_option maxRecDepth 100000 in
theorem entry_Encode.bad (x : S65) (hg : ¬ GoodE x) (w : World) :
    Calls Try.prog 53 #[.agg #[.int .i64 x.f0, .int .i64 x.f1.f0, .int .i64 x.f1.f1, .int .i64 x.f1.f2, .int .i64 x.f2, .int .i64 x.f3, .int .i64 x.f4, .int .i64 x.f5, .bool x.f6.f0, .string x.f6.f1, .bool x.f7.f0, .string x.f7.f1, .int .i64 x.f8]] w fun e w' => e = .returned (.tuple #[.string ⟨#[]⟩, .int .i64 1]) ∧ Below w.heap.size w w' := by
  have hu65 := Try.underlying65
  have HGD : Aside0 (entGood.f x.f0 x.f1.f0 x.f1.f1 x.f1.f2 x.f2 x.f3 x.f4 x.f5 x.f6.f0 x.f6.f1 x.f7.f0 x.f7.f1 x.f8 = some false) := ⟨congrArg some (decide_eq_false hg)⟩
  go_enter Try.func53, Try.ntmps53
  go_wp2_with (first | ((with_reducible refine gate_dst (N := 1) rfl ?_); refine box_event ?hg (N := 1) ?hd (cs := #[.int .i64 x.f0, .int .i64 x.f1.f0, .int .i64 x.f1.f1, .int .i64 x.f1.f2, .int .i64 x.f2, .int .i64 x.f3, .int .i64 x.f4, .int .i64 x.f5, .bool x.f6.f0, .string x.f6.f1, .bool x.f7.f0, .string x.f7.f1, .int .i64 x.f8]) (t := 65) ?hr ?_; (case hd => rfl); (case hg => rfl); (case hr => first | (go_simp; done) | (go_simp; rfl)); intro g1 hg1 w2 hbox hb; have HBK := Aside0.mk hbox; have HB := Aside0.mk hb; have HG := Aside0.mk (show w.heap.size ≤ g1 by rw [hg1]; exact Nat.le_refl _); clear hbox hb hg1; have hcz0 : w2.cell? ⟨g1, 0, none⟩ = some (.int .i64 x.f0) := (blk_cell HBK.out 0).trans rfl; have hfz0 := blk_frozen HBK.out 0; have hcz1 : w2.cell? ⟨g1, 1, none⟩ = some (.int .i64 x.f1.f0) := (blk_cell HBK.out 1).trans rfl; have hfz1 := blk_frozen HBK.out 1; have hcz2 : w2.cell? ⟨g1, 2, none⟩ = some (.int .i64 x.f1.f1) := (blk_cell HBK.out 2).trans rfl; have hfz2 := blk_frozen HBK.out 2; have hcz3 : w2.cell? ⟨g1, 3, none⟩ = some (.int .i64 x.f1.f2) := (blk_cell HBK.out 3).trans rfl; have hfz3 := blk_frozen HBK.out 3; have hcz4 : w2.cell? ⟨g1, 4, none⟩ = some (.int .i64 x.f2) := (blk_cell HBK.out 4).trans rfl; have hfz4 := blk_frozen HBK.out 4; have hcz5 : w2.cell? ⟨g1, 5, none⟩ = some (.int .i64 x.f3) := (blk_cell HBK.out 5).trans rfl; have hfz5 := blk_frozen HBK.out 5; have hcz6 : w2.cell? ⟨g1, 6, none⟩ = some (.int .i64 x.f4) := (blk_cell HBK.out 6).trans rfl; have hfz6 := blk_frozen HBK.out 6; have hcz7 : w2.cell? ⟨g1, 7, none⟩ = some (.int .i64 x.f5) := (blk_cell HBK.out 7).trans rfl; have hfz7 := blk_frozen HBK.out 7; have hcz8 : w2.cell? ⟨g1, 8, none⟩ = some (.bool x.f6.f0) := (blk_cell HBK.out 8).trans rfl; have hfz8 := blk_frozen HBK.out 8; have hcz9 : w2.cell? ⟨g1, 9, none⟩ = some (.string x.f6.f1) := (blk_cell HBK.out 9).trans rfl; have hfz9 := blk_frozen HBK.out 9; have hcz10 : w2.cell? ⟨g1, 10, none⟩ = some (.bool x.f7.f0) := (blk_cell HBK.out 10).trans rfl; have hfz10 := blk_frozen HBK.out 10; have hcz11 : w2.cell? ⟨g1, 11, none⟩ = some (.string x.f7.f1) := (blk_cell HBK.out 11).trans rfl; have hfz11 := blk_frozen HBK.out 11; have hcz12 : w2.cell? ⟨g1, 12, none⟩ = some (.int .i64 x.f8) := (blk_cell HBK.out 12).trans rfl; have hfz12 := blk_frozen HBK.out 12) | ((with_reducible refine gate_callee (f := 55) rfl ?_); refine goesL_ (some 8) rfl rfl Try.func55 (by kernel_rfl) rfl #[.agg #[.int .i64 x.f0, .int .i64 x.f1.f0, .int .i64 x.f1.f1, .int .i64 x.f1.f2, .int .i64 x.f2, .int .i64 x.f3, .int .i64 x.f4, .int .i64 x.f5, .bool x.f6.f0, .string x.f6.f1, .bool x.f7.f0, .string x.f7.f1, .int .i64 x.f8]] rfl (by (try simp only [List.map_toArray, List.map_cons, List.map_nil]); first | done | rfl) ?_; (with_reducible refine (entGood.calls x.f0 x.f1.f0 x.f1.f1 x.f1.f2 x.f2 x.f3 x.f4 x.f5 x.f6.f0 x.f6.f1 x.f7.f0 x.f7.f1 x.f8 false _ HGD.out).mono ?_); rintro e w3 ⟨rfl, hb⟩; refine ⟨_, rfl, ?_⟩; have n0_ := Aside0.mk (blk_below HBK.out hb); have n1_ := Aside0.mk (below_step HB.out hb); clear HBK HB; have HBK := n0_; have HB := n1_; clear n0_ n1_ hb; clear hcz0 hfz0 hcz1 hfz1 hcz2 hfz2 hcz3 hfz3 hcz4 hfz4 hcz5 hfz5 hcz6 hfz6 hcz7 hfz7 hcz8 hfz8 hcz9 hfz9 hcz10 hfz10 hcz11 hfz11 hcz12 hfz12; have hcz0 : w3.cell? ⟨g1, 0, none⟩ = some (.int .i64 x.f0) := (blk_cell HBK.out 0).trans rfl; have hfz0 := blk_frozen HBK.out 0; have hcz1 : w3.cell? ⟨g1, 1, none⟩ = some (.int .i64 x.f1.f0) := (blk_cell HBK.out 1).trans rfl; have hfz1 := blk_frozen HBK.out 1; have hcz2 : w3.cell? ⟨g1, 2, none⟩ = some (.int .i64 x.f1.f1) := (blk_cell HBK.out 2).trans rfl; have hfz2 := blk_frozen HBK.out 2; have hcz3 : w3.cell? ⟨g1, 3, none⟩ = some (.int .i64 x.f1.f2) := (blk_cell HBK.out 3).trans rfl; have hfz3 := blk_frozen HBK.out 3; have hcz4 : w3.cell? ⟨g1, 4, none⟩ = some (.int .i64 x.f2) := (blk_cell HBK.out 4).trans rfl; have hfz4 := blk_frozen HBK.out 4; have hcz5 : w3.cell? ⟨g1, 5, none⟩ = some (.int .i64 x.f3) := (blk_cell HBK.out 5).trans rfl; have hfz5 := blk_frozen HBK.out 5; have hcz6 : w3.cell? ⟨g1, 6, none⟩ = some (.int .i64 x.f4) := (blk_cell HBK.out 6).trans rfl; have hfz6 := blk_frozen HBK.out 6; have hcz7 : w3.cell? ⟨g1, 7, none⟩ = some (.int .i64 x.f5) := (blk_cell HBK.out 7).trans rfl; have hfz7 := blk_frozen HBK.out 7; have hcz8 : w3.cell? ⟨g1, 8, none⟩ = some (.bool x.f6.f0) := (blk_cell HBK.out 8).trans rfl; have hfz8 := blk_frozen HBK.out 8; have hcz9 : w3.cell? ⟨g1, 9, none⟩ = some (.string x.f6.f1) := (blk_cell HBK.out 9).trans rfl; have hfz9 := blk_frozen HBK.out 9; have hcz10 : w3.cell? ⟨g1, 10, none⟩ = some (.bool x.f7.f0) := (blk_cell HBK.out 10).trans rfl; have hfz10 := blk_frozen HBK.out 10; have hcz11 : w3.cell? ⟨g1, 11, none⟩ = some (.string x.f7.f1) := (blk_cell HBK.out 11).trans rfl; have hfz11 := blk_frozen HBK.out 11; have hcz12 : w3.cell? ⟨g1, 12, none⟩ = some (.int .i64 x.f8) := (blk_cell HBK.out 12).trans rfl; have hfz12 := blk_frozen HBK.out 12))
  go_ret2
  exact ⟨rfl, HB.out⟩
set_option maxHeartbeats 8000000 in
set_option maxRecDepth 100000 in
theorem entry_Encode.good (x : S65) (hg : GoodE x) (w : World) :
    Calls Try.prog 53 #[.agg #[.int .i64 x.f0, .int .i64 x.f1.f0, .int .i64 x.f1.f1, .int .i64 x.f1.f2, .int .i64 x.f2, .int .i64 x.f3, .int .i64 x.f4, .int .i64 x.f5, .bool x.f6.f0, .string x.f6.f1, .bool x.f7.f0, .string x.f7.f1, .int .i64 x.f8]] w fun e w' => e = .returned (.tuple #[.string (strOfNums (encE x)), .int .i64 0]) ∧ Below w.heap.size w w' := by
  have hu65 := Try.underlying65
  have hu116 := Try.underlying116
  have hu33 := Try.underlying33
  have HGD : Aside0 (entGood.f x.f0 x.f1.f0 x.f1.f1 x.f1.f2 x.f2 x.f3 x.f4 x.f5 x.f6.f0 x.f6.f1 x.f7.f0 x.f7.f1 x.f8 = some true) := ⟨congrArg some (decide_eq_true hg)⟩
  have HGG := Aside0.mk hg
  clear hg
  go_enter Try.func53, Try.ntmps53
  go_wp2_with (first | ((with_reducible refine gate_dst (N := 1) rfl ?_); refine box_event ?hg (N := 1) ?hd (cs := #[.int .i64 x.f0, .int .i64 x.f1.f0, .int .i64 x.f1.f1, .int .i64 x.f1.f2, .int .i64 x.f2, .int .i64 x.f3, .int .i64 x.f4, .int .i64 x.f5, .bool x.f6.f0, .string x.f6.f1, .bool x.f7.f0, .string x.f7.f1, .int .i64 x.f8]) (t := 65) ?hr ?_; (case hd => rfl); (case hg => rfl); (case hr => first | (go_simp; done) | (go_simp; rfl)); intro g1 hg1 w2 hbox hb; have HBK := Aside0.mk hbox; have HB := Aside0.mk hb; have HG := Aside0.mk (show w.heap.size ≤ g1 by rw [hg1]; exact Nat.le_refl _); clear hbox hb hg1; have hcz0 : w2.cell? ⟨g1, 0, none⟩ = some (.int .i64 x.f0) := (blk_cell HBK.out 0).trans rfl; have hfz0 := blk_frozen HBK.out 0; have hcz1 : w2.cell? ⟨g1, 1, none⟩ = some (.int .i64 x.f1.f0) := (blk_cell HBK.out 1).trans rfl; have hfz1 := blk_frozen HBK.out 1; have hcz2 : w2.cell? ⟨g1, 2, none⟩ = some (.int .i64 x.f1.f1) := (blk_cell HBK.out 2).trans rfl; have hfz2 := blk_frozen HBK.out 2; have hcz3 : w2.cell? ⟨g1, 3, none⟩ = some (.int .i64 x.f1.f2) := (blk_cell HBK.out 3).trans rfl; have hfz3 := blk_frozen HBK.out 3; have hcz4 : w2.cell? ⟨g1, 4, none⟩ = some (.int .i64 x.f2) := (blk_cell HBK.out 4).trans rfl; have hfz4 := blk_frozen HBK.out 4; have hcz5 : w2.cell? ⟨g1, 5, none⟩ = some (.int .i64 x.f3) := (blk_cell HBK.out 5).trans rfl; have hfz5 := blk_frozen HBK.out 5; have hcz6 : w2.cell? ⟨g1, 6, none⟩ = some (.int .i64 x.f4) := (blk_cell HBK.out 6).trans rfl; have hfz6 := blk_frozen HBK.out 6; have hcz7 : w2.cell? ⟨g1, 7, none⟩ = some (.int .i64 x.f5) := (blk_cell HBK.out 7).trans rfl; have hfz7 := blk_frozen HBK.out 7; have hcz8 : w2.cell? ⟨g1, 8, none⟩ = some (.bool x.f6.f0) := (blk_cell HBK.out 8).trans rfl; have hfz8 := blk_frozen HBK.out 8; have hcz9 : w2.cell? ⟨g1, 9, none⟩ = some (.string x.f6.f1) := (blk_cell HBK.out 9).trans rfl; have hfz9 := blk_frozen HBK.out 9; have hcz10 : w2.cell? ⟨g1, 10, none⟩ = some (.bool x.f7.f0) := (blk_cell HBK.out 10).trans rfl; have hfz10 := blk_frozen HBK.out 10; have hcz11 : w2.cell? ⟨g1, 11, none⟩ = some (.string x.f7.f1) := (blk_cell HBK.out 11).trans rfl; have hfz11 := blk_frozen HBK.out 11; have hcz12 : w2.cell? ⟨g1, 12, none⟩ = some (.int .i64 x.f8) := (blk_cell HBK.out 12).trans rfl; have hfz12 := blk_frozen HBK.out 12) | ((with_reducible refine gate_callee (f := 55) rfl ?_); refine goesL_ (some 8) rfl rfl Try.func55 (by kernel_rfl) rfl #[.agg #[.int .i64 x.f0, .int .i64 x.f1.f0, .int .i64 x.f1.f1, .int .i64 x.f1.f2, .int .i64 x.f2, .int .i64 x.f3, .int .i64 x.f4, .int .i64 x.f5, .bool x.f6.f0, .string x.f6.f1, .bool x.f7.f0, .string x.f7.f1, .int .i64 x.f8]] rfl (by (try simp only [List.map_toArray, List.map_cons, List.map_nil]); first | done | rfl) ?_; (with_reducible refine (entGood.calls x.f0 x.f1.f0 x.f1.f1 x.f1.f2 x.f2 x.f3 x.f4 x.f5 x.f6.f0 x.f6.f1 x.f7.f0 x.f7.f1 x.f8 true _ HGD.out).mono ?_); rintro e w3 ⟨rfl, hb⟩; refine ⟨_, rfl, ?_⟩; have n0_ := Aside0.mk (blk_below HBK.out hb); have n1_ := Aside0.mk (below_step HB.out hb); clear HBK HB; have HBK := n0_; have HB := n1_; clear n0_ n1_ hb; clear hcz0 hfz0 hcz1 hfz1 hcz2 hfz2 hcz3 hfz3 hcz4 hfz4 hcz5 hfz5 hcz6 hfz6 hcz7 hfz7 hcz8 hfz8 hcz9 hfz9 hcz10 hfz10 hcz11 hfz11 hcz12 hfz12; have hcz0 : w3.cell? ⟨g1, 0, none⟩ = some (.int .i64 x.f0) := (blk_cell HBK.out 0).trans rfl; have hfz0 := blk_frozen HBK.out 0; have hcz1 : w3.cell? ⟨g1, 1, none⟩ = some (.int .i64 x.f1.f0) := (blk_cell HBK.out 1).trans rfl; have hfz1 := blk_frozen HBK.out 1; have hcz2 : w3.cell? ⟨g1, 2, none⟩ = some (.int .i64 x.f1.f1) := (blk_cell HBK.out 2).trans rfl; have hfz2 := blk_frozen HBK.out 2; have hcz3 : w3.cell? ⟨g1, 3, none⟩ = some (.int .i64 x.f1.f2) := (blk_cell HBK.out 3).trans rfl; have hfz3 := blk_frozen HBK.out 3; have hcz4 : w3.cell? ⟨g1, 4, none⟩ = some (.int .i64 x.f2) := (blk_cell HBK.out 4).trans rfl; have hfz4 := blk_frozen HBK.out 4; have hcz5 : w3.cell? ⟨g1, 5, none⟩ = some (.int .i64 x.f3) := (blk_cell HBK.out 5).trans rfl; have hfz5 := blk_frozen HBK.out 5; have hcz6 : w3.cell? ⟨g1, 6, none⟩ = some (.int .i64 x.f4) := (blk_cell HBK.out 6).trans rfl; have hfz6 := blk_frozen HBK.out 6; have hcz7 : w3.cell? ⟨g1, 7, none⟩ = some (.int .i64 x.f5) := (blk_cell HBK.out 7).trans rfl; have hfz7 := blk_frozen HBK.out 7; have hcz8 : w3.cell? ⟨g1, 8, none⟩ = some (.bool x.f6.f0) := (blk_cell HBK.out 8).trans rfl; have hfz8 := blk_frozen HBK.out 8; have hcz9 : w3.cell? ⟨g1, 9, none⟩ = some (.string x.f6.f1) := (blk_cell HBK.out 9).trans rfl; have hfz9 := blk_frozen HBK.out 9; have hcz10 : w3.cell? ⟨g1, 10, none⟩ = some (.bool x.f7.f0) := (blk_cell HBK.out 10).trans rfl; have hfz10 := blk_frozen HBK.out 10; have hcz11 : w3.cell? ⟨g1, 11, none⟩ = some (.string x.f7.f1) := (blk_cell HBK.out 11).trans rfl; have hfz11 := blk_frozen HBK.out 11; have hcz12 : w3.cell? ⟨g1, 12, none⟩ = some (.int .i64 x.f8) := (blk_cell HBK.out 12).trans rfl; have hfz12 := blk_frozen HBK.out 12) | ((with_reducible refine gate_callee (f := 97) rfl ?_); refine goesL_ (some 10) rfl rfl Try.func97 (by kernel_rfl) rfl #[.pointer (some ⟨g1, 0, none⟩)] rfl (by (try simp only [List.map_toArray, List.map_cons, List.map_nil]); first | done | rfl) ?_; (refine (entry_fields.calls g1 x.f0 _ _ HBK.out hcz0).mono ?_); rintro e w4 ⟨g2, he, hbh, hlt, hb⟩; rw [← nums_len x] at he; subst he; refine ⟨_, rfl, ?_⟩; have n0_ := Aside0.mk (blk_below HBK.out hb); have n1_ := Aside0.mk (below_step HB.out hb); have HH := Aside0.mk hbh; have HNE := Aside0.mk (show g2 ≠ g1 by have := blk_lt HBK.out; omega); clear HBK HB; have HBK := n0_; have HB := n1_; clear n0_ n1_ hb hbh hlt; clear hcz0 hfz0 hcz1 hfz1 hcz2 hfz2 hcz3 hfz3 hcz4 hfz4 hcz5 hfz5 hcz6 hfz6 hcz7 hfz7 hcz8 hfz8 hcz9 hfz9 hcz10 hfz10 hcz11 hfz11 hcz12 hfz12; have hcz0 : w4.cell? ⟨g1, 0, none⟩ = some (.int .i64 x.f0) := (blk_cell HBK.out 0).trans rfl; have hfz0 := blk_frozen HBK.out 0; have hcz1 : w4.cell? ⟨g1, 1, none⟩ = some (.int .i64 x.f1.f0) := (blk_cell HBK.out 1).trans rfl; have hfz1 := blk_frozen HBK.out 1; have hcz2 : w4.cell? ⟨g1, 2, none⟩ = some (.int .i64 x.f1.f1) := (blk_cell HBK.out 2).trans rfl; have hfz2 := blk_frozen HBK.out 2; have hcz3 : w4.cell? ⟨g1, 3, none⟩ = some (.int .i64 x.f1.f2) := (blk_cell HBK.out 3).trans rfl; have hfz3 := blk_frozen HBK.out 3; have hcz4 : w4.cell? ⟨g1, 4, none⟩ = some (.int .i64 x.f2) := (blk_cell HBK.out 4).trans rfl; have hfz4 := blk_frozen HBK.out 4; have hcz5 : w4.cell? ⟨g1, 5, none⟩ = some (.int .i64 x.f3) := (blk_cell HBK.out 5).trans rfl; have hfz5 := blk_frozen HBK.out 5; have hcz6 : w4.cell? ⟨g1, 6, none⟩ = some (.int .i64 x.f4) := (blk_cell HBK.out 6).trans rfl; have hfz6 := blk_frozen HBK.out 6; have hcz7 : w4.cell? ⟨g1, 7, none⟩ = some (.int .i64 x.f5) := (blk_cell HBK.out 7).trans rfl; have hfz7 := blk_frozen HBK.out 7; have hcz8 : w4.cell? ⟨g1, 8, none⟩ = some (.bool x.f6.f0) := (blk_cell HBK.out 8).trans rfl; have hfz8 := blk_frozen HBK.out 8; have hcz9 : w4.cell? ⟨g1, 9, none⟩ = some (.string x.f6.f1) := (blk_cell HBK.out 9).trans rfl; have hfz9 := blk_frozen HBK.out 9; have hcz10 : w4.cell? ⟨g1, 10, none⟩ = some (.bool x.f7.f0) := (blk_cell HBK.out 10).trans rfl; have hfz10 := blk_frozen HBK.out 10; have hcz11 : w4.cell? ⟨g1, 11, none⟩ = some (.string x.f7.f1) := (blk_cell HBK.out 11).trans rfl; have hfz11 := blk_frozen HBK.out 11; have hcz12 : w4.cell? ⟨g1, 12, none⟩ = some (.int .i64 x.f8) := (blk_cell HBK.out 12).trans rfl; have hfz12 := blk_frozen HBK.out 12))
  clear hcz0 hfz0 hcz1 hfz1 hcz2 hfz2 hcz3 hfz3 hcz4 hfz4 hcz5 hfz5 hcz6 hfz6 hcz7 hfz7 hcz8 hfz8 hcz9 hfz9 hcz10 hfz10 hcz11 hfz11 hcz12 hfz12
  go_loopg [4, 6, 12] (numsE x).length (fun gg v4 v6 v12 wr => ∃ i : Nat, i ≤ (numsE x).length ∧ (numsE x).length - i ≤ gg ∧ v12 = .int .i64 i ∧ v4 = .string (strOfNums (((numsE x).take i).flatMap intB)) ∧ Aside0 (wr.heap[g1]? = some (.cells #[.int .i64 x.f0, .int .i64 x.f1.f0, .int .i64 x.f1.f1, .int .i64 x.f1.f2, .int .i64 x.f2, .int .i64 x.f3, .int .i64 x.f4, .int .i64 x.f5, .bool x.f6.f0, .string x.f6.f1, .bool x.f7.f0, .string x.f7.f1, .int .i64 x.f8] 65 (0, 0))) ∧ Aside0 (wr.heap[g2]? = some (.cells (fieldPs g1) 119 (0, 0))) ∧ Aside0 (Below w.heap.size w wr))
  case atStart => exact ⟨0, Nat.zero_le _, by omega, rfl, rfl, HBK, HH, HB⟩
  case round =>
    clear HBK HH HB
    obtain ⟨i, hi, hgg, rfl, rfl, HBK, HH, HB⟩ := hrel
    have hl9 : (numsE x).length ≤ 9 := by unfold numsE; split <;> simp
    by_cases hlt : i < (numsE x).length
    · have q0 : (i : Int) < ((numsE x).length : Int) := by omega
      have q1 : (0 : Int) ≤ (i : Int) := by omega
      obtain ⟨o, hp, hc⟩ := field_at x g1 i hlt
      have hsm := nums_small HGG.out _ (List.getElem_mem hlt)
      have hcp : wr.cell? ⟨g2, i, none⟩ = some (.pointer (some ⟨g1, o, none⟩)) := (blk_cell HH.out i).trans hp
      have hcn : wr.cell? ⟨g1, o, none⟩ = some (.int .i64 (numsE x)[i]) := (blk_cell HBK.out o).trans hc
      have HS : Aside0 (strOfNums (((numsE x).take i).flatMap intB) ++ strOfNums (intB (numsE x)[i]) = strOfNums (((numsE x).take (i + 1)).flatMap intB)) := ⟨by
        rw [List.take_succ_eq_append_getElem hlt, List.flatMap_append, List.flatMap_singleton, str_app2 _ _ (flat_small _ (fun n hn => nums_small HGG.out n (List.mem_of_mem_take hn))) (intB_small hsm)]⟩
      have HNI : Aside0 (nibInt.f (numsE x)[i] = some (strOfNums (intB (numsE x)[i]))) := ⟨if_pos hsm⟩
      have hsz1 : (strOfNums (((numsE x).take i).flatMap intB)).size ≤ 99 := by
        rw [strOfNums_size]
        have := flat_len ((numsE x).take i)
        rw [List.length_take] at this
        omega
      have hsz2 : (strOfNums (intB (numsE x)[i])).size ≤ 11 := by rw [strOfNums_size]; exact (intB_len _).2
      clear hp hc hsm
      generalize (numsE x)[i] = n at *
      generalize strOfNums (((numsE x).take i).flatMap intB) = s0 at *
      have hj : (strOfNums (intB n)).size + s0.size ≤ 9223372036854775807 := by omega
      have hj2 : s0.size + (strOfNums (intB n)).size ≤ 9223372036854775807 := by omega
      have hj3 : (9223372036854775807 < s0.size + (strOfNums (intB n)).size) = False := eq_false (Nat.not_lt.2 hj2)
      go_wp2_with (first | ((with_reducible refine gate_callee (f := 98) rfl ?_); refine goesL_ (some 20) rfl rfl Try.func98 (by kernel_rfl) rfl #[.int .i64 n] rfl (by (try simp only [List.map_toArray, List.map_cons, List.map_nil]); first | done | rfl) ?_; (with_reducible refine (nibInt.calls n (strOfNums (intB n)) _ HNI.out).mono ?_); rintro e w6 ⟨rfl, hb⟩; refine ⟨_, rfl, ?_⟩; have n0_ := Aside0.mk (blk_below HBK.out hb); have n1_ := Aside0.mk (below_step HB.out hb); have n2_ := Aside0.mk (blk_below HH.out hb); clear HBK HB HH; have HBK := n0_; have HB := n1_; have HH := n2_; clear n0_ n1_ n2_ hb))
      go_roundg ((numsE x).length - (i + 1))
      case measure => omega
      case rel => exact ⟨i + 1, by omega, by omega, by go_num, by rw [HS.out], HBK, HH, HB⟩
    · have hltz : ¬ (i : Int) < ((numsE x).length : Int) := by omega
      have HT : Aside0 (((numsE x).take i).flatMap intB = (numsE x).flatMap intB) := ⟨by rw [List.take_of_length_le (by omega)]⟩
      rw [HT.out]
      clear HT
      have hs := good_slots HGG.out
      have hsz : (strOfNums ((numsE x).flatMap intB)).size ≤ 99 := by rw [strOfNums_size]; have := flat_len (numsE x); omega
      have H29 : Aside0 (entry_slot.f x.f6.f0 x.f6.f1 = some (strOfNums (slotE x.f6))) := ⟨entslot_eq _ _ hs.1⟩
      have H32 : Aside0 (entry_slot.f x.f7.f0 x.f7.f1 = some (strOfNums (slotE x.f7))) := ⟨entslot_eq _ _ hs.2⟩
      have hz6 : (strOfNums (slotE x.f6)).size ≤ 222 := by rw [strOfNums_size]; exact slotE_len _ hs.1
      have hz7 : (strOfNums (slotE x.f7)).size ≤ 222 := by rw [strOfNums_size]; exact slotE_len _ hs.2
      have HE : Aside0 (strOfNums ((numsE x).flatMap intB) ++ (strOfNums (slotE x.f6) ++ strOfNums (slotE x.f7)) = strOfNums ((numsE x).flatMap intB ++ (slotE x.f6 ++ slotE x.f7))) := ⟨by rw [str_app2 _ _ (slotE_range _ hs.1) (slotE_range _ hs.2), str_app2 _ _ (flat_small _ (nums_small HGG.out)) (fun b hb => by rw [List.mem_append] at hb; rcases hb with hb | hb; exact slotE_range _ hs.1 b hb; exact slotE_range _ hs.2 b hb)]⟩
      have HK3 : Aside0 (x.f0 ≤ 2 ↔ (x.f0 = 1 ∨ x.f0 = 2)) := ⟨by rcases HGG.out.2.2.2 with h | h | h <;> omega⟩
      have hcz0 : wr.cell? ⟨g1, 0, none⟩ = some (.int .i64 x.f0) := (blk_cell HBK.out 0).trans rfl
      by_cases hk : x.f0 ≤ 2
      · have HX : Aside0 ((numsE x).flatMap intB ++ (slotE x.f6 ++ slotE x.f7) = encE x) := ⟨by unfold encE tailE; rw [if_pos (HK3.out.mp hk)]⟩
        generalize strOfNums (slotE x.f6) = s6 at *
        generalize strOfNums (slotE x.f7) = s7 at *
        generalize strOfNums ((numsE x).flatMap intB) = s0 at *
        have hj1 : s6.size + s7.size ≤ 9223372036854775807 := by omega
        have hj2 : s0.size + (s6.size + s7.size) ≤ 9223372036854775807 := by omega
        have hj3 : (9223372036854775807 < s6.size + s7.size) = False := eq_false (Nat.not_lt.2 hj1)
        have hj4 : (9223372036854775807 < s0.size + (s6.size + s7.size)) = False := eq_false (Nat.not_lt.2 hj2)
        go_wp2
        have n0_ := Aside0.mk (blk_drew HBK.out)
        have n1_ := Aside0.mk (below_drew1 HB.out)
        clear HBK HB hcz0
        have HBK := n0_
        have HB := n1_
        clear n0_ n1_
        refine start_ (n := 10) (S := fun w' => w'.cell? ⟨g1, 8, none⟩ = some (.bool x.f6.f0) ∧ w'.cell? ⟨g1, 9, none⟩ = some (.string x.f6.f1) ∧ w'.cell? ⟨g1, 10, none⟩ = some (.bool x.f7.f0) ∧ w'.cell? ⟨g1, 11, none⟩ = some (.string x.f7.f1)) (ds := []) #[false, false, false, false, false, false, false, false, false, false] (by kernel_rfl) rfl rfl ⟨(blk_cell HBK.out 8).trans rfl, (blk_cell HBK.out 9).trans rfl, (blk_cell HBK.out 10).trans rfl, (blk_cell HBK.out 11).trans rfl⟩ (fun hHeld => ?_)
        generalize wr.drew = w6 at HBK HB hHeld ⊢
        refine pure_ (i := 0) (N := some 26) (v := ?_) (a' := ?_) #[true, false, false, false, false, false, false, false, false, false] rfl rfl (by kernel_rfl) (fun _ _ _ h => h) (Or.inl ⟨by rfl, ?_⟩) ?_ ?_
        rotate_left
        · intro w'
          go_simp
          with_reducible rfl
        rotate_left
        · simp only [Act.put, List.setIfInBounds_toArray, List.set_cons_zero, List.set_cons_succ, i64_w, i32_w]
          rfl
        refine pure_ (i := 1) (N := some 27) (v := ?_) (a' := ?_) #[true, true, false, false, false, false, false, false, false, false] rfl rfl (by kernel_rfl) (fun _ _ _ h => h) (Or.inl ⟨by rfl, ?_⟩) ?_ ?_
        rotate_left
        · intro w'
          go_simp
          with_reducible rfl
        rotate_left
        · simp only [Act.put, List.setIfInBounds_toArray, List.set_cons_zero, List.set_cons_succ, i64_w, i32_w]
          rfl
        refine pure_ (i := 4) (N := some 30) (v := ?_) (a' := ?_) #[true, true, false, false, true, false, false, false, false, false] rfl rfl (by kernel_rfl) (fun _ _ _ h => h) (Or.inl ⟨by rfl, ?_⟩) ?_ ?_
        rotate_left
        · intro w'
          go_simp
          with_reducible rfl
        rotate_left
        · simp only [Act.put, List.setIfInBounds_toArray, List.set_cons_zero, List.set_cons_succ, i64_w, i32_w]
          rfl
        refine take_ (i := 2) (N := some 28) (v := ?_) (a' := ?_) #[true, true, true, false, true, false, false, false, false, false] rfl rfl (by kernel_rfl) (fun _ _ _ h => h) (Or.inl ⟨by rfl, ?_⟩) hHeld ?_ ?_
        rotate_left
        · rintro w' ⟨s8, s9, s10, s11⟩
          go_simp
          with_reducible rfl
        rotate_left
        · simp only [Act.put, List.setIfInBounds_toArray, List.set_cons_zero, List.set_cons_succ, i64_w, i32_w]
          rfl
        refine take_ (i := 5) (N := some 31) (v := ?_) (a' := ?_) #[true, true, true, false, true, true, false, false, false, false] rfl rfl (by kernel_rfl) (fun _ _ _ h => h) (Or.inl ⟨by rfl, ?_⟩) hHeld ?_ ?_
        rotate_left
        · rintro w' ⟨s8, s9, s10, s11⟩
          go_simp
          with_reducible rfl
        rotate_left
        · simp only [Act.put, List.setIfInBounds_toArray, List.set_cons_zero, List.set_cons_succ, i64_w, i32_w]
          rfl
        refine one_ (i := 3) (N := some 29) #[true, true, true, true, true, true, false, false, false, false] rfl rfl (by kernel_rfl) (by decide) (fun K hK => ?_)
        refine goes_ Try.func99 (by kernel_rfl) rfl #[.agg #[.bool x.f6.f0, .string x.f6.f1]] (by rfl) rfl rfl (by (try simp only [List.map_toArray, List.map_cons, List.map_nil]); first | done | rfl) ?_
        with_reducible refine (entry_slot.calls x.f6.f0 x.f6.f1 _ _ H29.out).mono ?_
        rintro e w7 ⟨rfl, hb⟩
        refine ⟨_, rfl, ?_⟩
        have n0_ := Aside0.mk (blk_below HBK.out hb)
        have n1_ := Aside0.mk (below_step HB.out hb)
        clear HBK HB hb
        have HBK := n0_
        have HB := n1_
        clear n0_ n1_
        refine hK.out _ _ ⟨(blk_cell HBK.out 8).trans rfl, (blk_cell HBK.out 9).trans rfl, (blk_cell HBK.out 10).trans rfl, (blk_cell HBK.out 11).trans rfl⟩ (fun hHeld => ?_)
        clear hK K
        refine norm_ (a' := ?_) ?_ ?_
        rotate_left
        · show Act.put _ (some 29) _ = _
          simp only [Act.put, List.setIfInBounds_toArray, List.set_cons_zero, List.set_cons_succ, i64_w, i32_w]
          rfl
        refine one_ (i := 6) (N := some 32) #[true, true, true, true, true, true, true, false, false, false] rfl rfl (by kernel_rfl) (by decide) (fun K hK => ?_)
        refine goes_ Try.func99 (by kernel_rfl) rfl #[.agg #[.bool x.f7.f0, .string x.f7.f1]] (by rfl) rfl rfl (by (try simp only [List.map_toArray, List.map_cons, List.map_nil]); first | done | rfl) ?_
        with_reducible refine (entry_slot.calls x.f7.f0 x.f7.f1 _ _ H32.out).mono ?_
        rintro e w7 ⟨rfl, hb⟩
        refine ⟨_, rfl, ?_⟩
        have n0_ := Aside0.mk (blk_below HBK.out hb)
        have n1_ := Aside0.mk (below_step HB.out hb)
        clear HBK HB hb
        have HBK := n0_
        have HB := n1_
        clear n0_ n1_
        refine hK.out _ _ ⟨(blk_cell HBK.out 8).trans rfl, (blk_cell HBK.out 9).trans rfl, (blk_cell HBK.out 10).trans rfl, (blk_cell HBK.out 11).trans rfl⟩ (fun hHeld => ?_)
        clear hK K
        refine norm_ (a' := ?_) ?_ ?_
        rotate_left
        · show Act.put _ (some 32) _ = _
          simp only [Act.put, List.setIfInBounds_toArray, List.set_cons_zero, List.set_cons_succ, i64_w, i32_w]
          rfl
        refine pure_ (i := 7) (N := some 33) (v := ?_) (a' := ?_) #[true, true, true, true, true, true, true, true, false, false] rfl rfl (by kernel_rfl) (fun _ _ _ h => h) (Or.inl ⟨by rfl, ?_⟩) ?_ ?_
        rotate_left
        · intro w'
          go_simp
          with_reducible rfl
        rotate_left
        · simp only [Act.put, List.setIfInBounds_toArray, List.set_cons_zero, List.set_cons_succ, i64_w, i32_w]
          rfl
        refine pure_ (i := 8) (N := some 34) (v := ?_) (a' := ?_) #[true, true, true, true, true, true, true, true, true, false] rfl rfl (by kernel_rfl) (fun _ _ _ h => h) (Or.inl ⟨by rfl, ?_⟩) ?_ ?_
        rotate_left
        · intro w'
          go_simp
          with_reducible rfl
        rotate_left
        · simp only [Act.put, List.setIfInBounds_toArray, List.set_cons_zero, List.set_cons_succ, i64_w, i32_w]
          rfl
        refine pure_ (i := 9) (N := some 4) (v := ?_) (a' := ?_) #[true, true, true, true, true, true, true, true, true, true] rfl rfl (by kernel_rfl) (fun _ _ _ h => h) (Or.inl ⟨by rfl, ?_⟩) ?_ ?_
        rotate_left
        · intro w'
          go_simp
          with_reducible rfl
        rotate_left
        · simp only [Act.put, List.setIfInBounds_toArray, List.set_cons_zero, List.set_cons_succ, i64_w, i32_w]
          rfl
        refine done_ (by kernel_rfl) ?_
        try go_wp2
        go_ret2
        exact ⟨by rw [← HX.out, ← HE.out]; rfl, HB.out⟩
      · have HX : Aside0 ((numsE x).flatMap intB = encE x) := ⟨by unfold encE tailE; rw [if_neg (fun h => hk (HK3.out.mpr h)), List.append_nil]⟩
        go_wp2
        go_ret2
        exact ⟨by rw [← HX.out]; rfl, HB.out⟩
def entEnc.f (k c e n lsn prev p s : Int) (u : Bool) (d : ByteArray) (u2 : Bool) (d2 : ByteArray) (next : Int) : Option (ByteArray × Int) := some (encX (mkE k c e n lsn prev p s u d u2 d2 next))
theorem entEnc.calls (k c e n lsn prev p s : Int) (u : Bool) (d : ByteArray) (u2 : Bool) (d2 : ByteArray) (next : Int) (r1 : ByteArray) (r2 : Int) (w : World) (h : entEnc.f k c e n lsn prev p s u d u2 d2 next = some (r1, r2)) :
    Calls Try.prog 53 #[.agg #[.int .i64 k, .int .i64 c, .int .i64 e, .int .i64 n, .int .i64 lsn, .int .i64 prev, .int .i64 p, .int .i64 s, .bool u, .string d, .bool u2, .string d2, .int .i64 next]] w fun e w' => e = .returned (.tuple #[.string r1, .int .i64 r2]) ∧ Below w.heap.size w w' := by
  unfold entEnc.f encX at h
  by_cases hg : GoodE (mkE k c e n lsn prev p s u d u2 d2 next)
  · rw [if_pos hg] at h
    cases h
    exact entry_Encode.good (mkE k c e n lsn prev p s u d u2 d2 next) hg w
  · rw [if_neg hg] at h
    cases h
    exact entry_Encode.bad (mkE k c e n lsn prev p s u d u2 d2 next) hg w
end Go.Proofs.Ytfjmnaobfbmllaa.M
namespace Go.Proofs.Ytfjmnaobfbmllaa.M
open Go.RowKit Go.Proofs.YtfjmnaobfbmllaaW.PrintWords Go.Proofs.YtfjmnaobfbmllaaW.PrintLast Go.Proofs.YtfjmnaobfbmllaaW.PrintMore
attribute [local go_sem] max2_int min2_int max_two min_two max_three min_three max_four min_four   -- for this text's walks alone
set_option linter.unusedVariables false
set_option linter.unusedSimpArgs false
def entry_Cost.f (a0_0 : Int) (a0_1 : Int) (a0_2 : Int) (a0_3 : Int) (a0_4 : Int) (a0_5 : Int) (a0_6 : Int) (a0_7 : Int) (a0_8 : Bool) (a0_9 : ByteArray) (a0_10 : Bool) (a0_11 : ByteArray) (a0_12 : Int) : Option (Int) := (entEnc.f a0_0 a0_1 a0_2 a0_3 a0_4 a0_5 a0_6 a0_7 a0_8 a0_9 a0_10 a0_11 a0_12).bind fun bt102 => (if bt102.2 = 0 then (some (wrap64 (1 + (wrap64 (Int.tdiv (wrap64 ((wrap64 ((bt102.1.size : Int) + 232)) - 1)) 232))))) else (some 0))
set_option maxHeartbeats 8000000 in
set_option maxRecDepth 100000 in
theorem entry_Cost.calls (a0_0 : Int) (a0_1 : Int) (a0_2 : Int) (a0_3 : Int) (a0_4 : Int) (a0_5 : Int) (a0_6 : Int) (a0_7 : Int) (a0_8 : Bool) (a0_9 : ByteArray) (a0_10 : Bool) (a0_11 : ByteArray) (a0_12 : Int) (r : Int) (w : World) (h : entry_Cost.f a0_0 a0_1 a0_2 a0_3 a0_4 a0_5 a0_6 a0_7 a0_8 a0_9 a0_10 a0_11 a0_12 = some r) :
  Calls Try.prog 57 #[.agg #[.int .i64 a0_0, .int .i64 a0_1, .int .i64 a0_2, .int .i64 a0_3, .int .i64 a0_4, .int .i64 a0_5, .int .i64 a0_6, .int .i64 a0_7, .bool a0_8, .string a0_9, .bool a0_10, .string a0_11, .int .i64 a0_12]] w fun e w' => e = .returned (.int .i64 r) ∧ Below w.heap.size w w' := by
 have hu65 := Try.underlying65
 have HB := Aside0.mk (Below.refl w.heap.size w)
 have H : ((entEnc.f a0_0 a0_1 a0_2 a0_3 a0_4 a0_5 a0_6 a0_7 a0_8 a0_9 a0_10 a0_11 a0_12).bind fun bt102 => (if bt102.2 = 0 then (some (wrap64 (1 + (wrap64 (Int.tdiv (wrap64 ((wrap64 ((bt102.1.size : Int) + 232)) - 1)) 232))))) else (some 0))) = some r := h
 clear h
 replace H := Option.bind_eq_some_iff.mp H
 obtain ⟨⟨t102, t103⟩, A20, H⟩ := H
 replace H : (if t103 = 0 then (some (wrap64 (1 + (wrap64 (Int.tdiv (wrap64 ((wrap64 ((t102.size : Int) + 232)) - 1)) 232))))) else (some 0)) = some r := H
 have A2 := Aside0.mk A20
 clear A20
 by_cases c3 : t103 = 0
 ·rw [if_pos c3] at H
  have c3b0 : (t103 == 0) = true := beq_iff_eq.mpr c3
  have c3b1 : (t103 != 0) = false := bne_eq_false_iff_eq.mpr c3
  clear c3
  obtain rfl := Option.some.inj H
  go_enter Try.func57, Try.ntmps57
  go_wp2_with (first | ((with_reducible refine gate_dst (N := 1) rfl ?_); refine box_event ?hg (N := 1) ?hd (cs := #[.int .i64 a0_0, .int .i64 a0_1, .int .i64 a0_2, .int .i64 a0_3, .int .i64 a0_4, .int .i64 a0_5, .int .i64 a0_6, .int .i64 a0_7, .bool a0_8, .string a0_9, .bool a0_10, .string a0_11, .int .i64 a0_12]) (t := 65) ?hr ?_; (case hd => rfl); (case hg => rfl); (case hr => first | (go_simp; done) | (go_simp; rfl)); intro gb101 hg w4 hbox hb; have n0_ := Aside0.mk (below_step HB.out hb); have n1_ := Aside0.mk (hbox); have n2_ := Aside0.mk ((by rw [hg]; exact below_size HB.out : w.heap.size ≤ gb101)); have n3_ := Aside0.mk ((by rw [hg]; exact below_size HB.out : w.heap.size ≤ gb101)); clear HB; have HB := n0_; have BK101 := n1_; have GW101 := n2_; have GE101 := n3_; clear n0_ n1_ n2_ n3_; clear hb hbox hg; obtain ⟨hcz5_0, hcz5_1, hcz5_2, hcz5_3, hcz5_4, hcz5_5, hcz5_6, hcz5_7, hcz5_8, hcz5_9, hcz5_10, hcz5_11, hcz5_12⟩ := cl13 (W := w4) BK101.out; obtain ⟨hfz5_0, hfz5_1, hfz5_2, hfz5_3, hfz5_4, hfz5_5, hfz5_6, hfz5_7, hfz5_8, hfz5_9, hfz5_10, hfz5_11, hfz5_12⟩ := fr13 BK101.out) | ((with_reducible refine gate_callee (f := 53) rfl ?_); refine goesL_ (some 7) rfl rfl Try.func53 (by kernel_rfl) rfl #[.agg #[.int .i64 a0_0, .int .i64 a0_1, .int .i64 a0_2, .int .i64 a0_3, .int .i64 a0_4, .int .i64 a0_5, .int .i64 a0_6, .int .i64 a0_7, .bool a0_8, .string a0_9, .bool a0_10, .string a0_11, .int .i64 a0_12]] rfl (by (try simp only [List.map_toArray, List.map_cons, List.map_nil]); first | done | rfl | (simp only [List.length_drop, List.length_take]; rfl)) ?_; (with_reducible refine (entEnc.calls a0_0 a0_1 a0_2 a0_3 a0_4 a0_5 a0_6 a0_7 a0_8 a0_9 a0_10 a0_11 a0_12 t102 t103 _ A2.out).mono ?_); rintro e w6 ⟨rfl, hb⟩; refine ⟨_, rfl, ?_⟩; have n0_ := Aside0.mk (blk_below BK101.out hb); have n1_ := Aside0.mk (below_step HB.out hb); clear BK101; clear HB; have BK101 := n0_; have HB := n1_; clear n0_ n1_; (try clear hb); (try clear hb2); (try clear hk); (try clear hi)))
  go_ret
  exact ⟨by first | rfl | (simp [errW_none, errW_some] <;> rfl) | (simp [*, errW_none, errW_some] <;> rfl), by repeat (first | (with_reducible first | exact HB.out | apply below_alloc | apply pw_below_drewN | apply below_drew1 | refine below_set ?_ GE101.out) | exact HB.out)⟩
 ·rw [if_neg c3] at H
  have c3b0 : (t103 == 0) = false := beq_eq_false_iff_ne.mpr c3
  have c3b1 : (t103 != 0) = true := bne_iff_ne.mpr c3
  obtain rfl := Option.some.inj H
  go_enter Try.func57, Try.ntmps57
  go_wp2_with (first | ((with_reducible refine gate_dst (N := 1) rfl ?_); refine box_event ?hg (N := 1) ?hd (cs := #[.int .i64 a0_0, .int .i64 a0_1, .int .i64 a0_2, .int .i64 a0_3, .int .i64 a0_4, .int .i64 a0_5, .int .i64 a0_6, .int .i64 a0_7, .bool a0_8, .string a0_9, .bool a0_10, .string a0_11, .int .i64 a0_12]) (t := 65) ?hr ?_; (case hd => rfl); (case hg => rfl); (case hr => first | (go_simp; done) | (go_simp; rfl)); intro gb101 hg w7 hbox hb; have n0_ := Aside0.mk (below_step HB.out hb); have n1_ := Aside0.mk (hbox); have n2_ := Aside0.mk ((by rw [hg]; exact below_size HB.out : w.heap.size ≤ gb101)); have n3_ := Aside0.mk ((by rw [hg]; exact below_size HB.out : w.heap.size ≤ gb101)); clear HB; have HB := n0_; have BK101 := n1_; have GW101 := n2_; have GE101 := n3_; clear n0_ n1_ n2_ n3_; clear hb hbox hg; obtain ⟨hcz8_0, hcz8_1, hcz8_2, hcz8_3, hcz8_4, hcz8_5, hcz8_6, hcz8_7, hcz8_8, hcz8_9, hcz8_10, hcz8_11, hcz8_12⟩ := cl13 (W := w7) BK101.out; obtain ⟨hfz8_0, hfz8_1, hfz8_2, hfz8_3, hfz8_4, hfz8_5, hfz8_6, hfz8_7, hfz8_8, hfz8_9, hfz8_10, hfz8_11, hfz8_12⟩ := fr13 BK101.out) | ((with_reducible refine gate_callee (f := 53) rfl ?_); refine goesL_ (some 7) rfl rfl Try.func53 (by kernel_rfl) rfl #[.agg #[.int .i64 a0_0, .int .i64 a0_1, .int .i64 a0_2, .int .i64 a0_3, .int .i64 a0_4, .int .i64 a0_5, .int .i64 a0_6, .int .i64 a0_7, .bool a0_8, .string a0_9, .bool a0_10, .string a0_11, .int .i64 a0_12]] rfl (by (try simp only [List.map_toArray, List.map_cons, List.map_nil]); first | done | rfl | (simp only [List.length_drop, List.length_take]; rfl)) ?_; (with_reducible refine (entEnc.calls a0_0 a0_1 a0_2 a0_3 a0_4 a0_5 a0_6 a0_7 a0_8 a0_9 a0_10 a0_11 a0_12 t102 t103 _ A2.out).mono ?_); rintro e w9 ⟨rfl, hb⟩; refine ⟨_, rfl, ?_⟩; have n0_ := Aside0.mk (blk_below BK101.out hb); have n1_ := Aside0.mk (below_step HB.out hb); clear BK101; clear HB; have BK101 := n0_; have HB := n1_; clear n0_ n1_; (try clear hb); (try clear hb2); (try clear hk); (try clear hi)))
  go_ret
  exact ⟨by first | rfl | (simp [errW_none, errW_some] <;> rfl) | (simp [*, errW_none, errW_some] <;> rfl), by repeat (first | (with_reducible first | exact HB.out | apply below_alloc | apply pw_below_drewN | apply below_drew1 | refine below_set ?_ GE101.out) | exact HB.out)⟩
end Go.Proofs.Ytfjmnaobfbmllaa.M
namespace Go.Proofs.Ytfjmnaobfbmllaa.M
open Go.RowKit Go.Proofs.YtfjmnaobfbmllaaW.PrintWords Go.Proofs.YtfjmnaobfbmllaaW.PrintLast Go.Proofs.YtfjmnaobfbmllaaW.PrintMore
set_option linter.unusedVariables false
set_option linter.unusedSimpArgs false
def costE (x : S65) : Int := if GoodE x then 1 + (((encE x).length + 231) / 232 : Nat) else 0
theorem cost_pure (x : S65) : entry_Cost.f x.f0 x.f1.f0 x.f1.f1 x.f1.f2 x.f2 x.f3 x.f4 x.f5 x.f6.f0 x.f6.f1 x.f7.f0 x.f7.f1 x.f8 = some (costE x) := by
  unfold entry_Cost.f entEnc.f
  have ex : mkE x.f0 x.f1.f0 x.f1.f1 x.f1.f2 x.f2 x.f3 x.f4 x.f5 x.f6.f0 x.f6.f1 x.f7.f0 x.f7.f1 x.f8 = x := rfl
  rw [ex, Option.bind_some]
  unfold encX costE
  by_cases hg : GoodE x
  · have hl := encE_len hg
    rw [if_pos hg, if_pos hg]
    simp only
    rw [if_pos trivial, strOfNums_size, w64 (((encE x).length : Int) + 232) (by omega) (by omega), w64 (((encE x).length : Int) + 232 - 1) (by omega) (by omega), show ((encE x).length : Int) + 232 - 1 = (((encE x).length + 231 : Nat) : Int) by omega]
    have e : Int.tdiv (((encE x).length + 231 : Nat) : Int) 232 = ((((encE x).length + 231) / 232 : Nat) : Int) := by rw [Int.tdiv_eq_ediv_of_nonneg (by omega)]; rfl
    rw [e, w64 ((((encE x).length + 231) / 232 : Nat) : Int) (by omega) (by omega), w64 (1 + ((((encE x).length + 231) / 232 : Nat) : Int)) (by omega) (by omega)]
  · rw [if_neg hg, if_neg hg]
    rfl
def entCost.f (k c e n lsn prev p s : Int) (u : Bool) (d : ByteArray) (u2 : Bool) (d2 : ByteArray) (next : Int) : Option Int := some (costE (mkE k c e n lsn prev p s u d u2 d2 next))
end Go.Proofs.Ytfjmnaobfbmllaa.M
