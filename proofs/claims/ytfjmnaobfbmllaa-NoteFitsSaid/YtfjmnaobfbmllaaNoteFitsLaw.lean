/- The law NoteFits: it returns true for every input, and its arguments read as they did. No condition. Part 4 of 4. -/
import Derived.Test.YtfjmnaobfbmllaaProg
import Derived.Test.YtfjmnaobfbmllaaRows
import Derived.Test.YtfjmnaobfbmllaaUApart
import Derived.Test.YtfjmnaobfbmllaaUEqStruct
import Derived.Test.YtfjmnaobfbmllaaUFoot
import Derived.Test.YtfjmnaobfbmllaaUGuard
import Derived.Test.YtfjmnaobfbmllaaUInv
import Derived.Test.YtfjmnaobfbmllaaUKept
import Derived.Test.YtfjmnaobfbmllaaULast
import Derived.Test.YtfjmnaobfbmllaaUMore
import Derived.Test.YtfjmnaobfbmllaaUN
import Derived.Test.YtfjmnaobfbmllaaURepsOne
import Derived.Test.YtfjmnaobfbmllaaUShare
import Derived.Test.YtfjmnaobfbmllaaUTab
import Derived.Test.YtfjmnaobfbmllaaUWords
import Derived.ArgAppend
import Derived.Below
import Derived.BigQuiet
import Derived.Carry
import Derived.ChangeArms
import Derived.ChangeMaps
import Derived.ChangeOld
import Derived.Deep.AppendLies
import Derived.Deep.CutBlock
import Derived.Deep.DeepCutAuto
import Derived.Deep.Draws
import Derived.Deep.LoopGhost
import Derived.Deep.OwnRows
import Derived.Deep.QuietTactic
import Derived.Deep.RegionHeld3
import Derived.Deep.Slices
import Derived.KernelRfl
import Derived.Laws.Bits64
import Derived.Laws.Bits64b
import Derived.Laws.BitsAllLaws
import Derived.Laws.BitsLemmas
import Derived.Laws.BytesArg
import Derived.Laws.CopyOwn
import Derived.Laws.IdiomCopy
import Derived.Laws.MakeOwn
import Derived.Laws.OwnMore
import Derived.Laws.Rows
import Derived.Laws.Slices
import Derived.Lib.AppendStr
import Derived.Lib.ConvBytes
import Derived.Maps.AppendAt
import Derived.OpenShut
import Derived.OrdersHeld
import Derived.OwnWalk
import Derived.ProofKit
import Derived.RowKit
import Derived.RowKit3
import Derived.ShutString
import Derived.SizedLaws
import Derived.Tactics
import Derived.WalkKit
import Derived.WideLaws
import Derived.Test.YtfjmnaobfbmllaaNoteFitsA0
import Derived.Test.YtfjmnaobfbmllaaNoteFitsA1
import Derived.Test.YtfjmnaobfbmllaaNoteFitsA2
namespace Go.Proofs.Ytfjmnaobfbmllaa.M
open Go.RowKit Go.Proofs.YtfjmnaobfbmllaaW.PrintWords Go.Proofs.YtfjmnaobfbmllaaW.PrintLast Go.Proofs.YtfjmnaobfbmllaaW.PrintMore
theorem kfar13 {w W : World} {g q : Nat} {row : Option Nat} (h : KeepBut w W q row) (hp : w.heap.size ≤ g) (b0 b1 b2 b3 b4 b5 b6 b7 b8 b9 b10 b11 b12 : Value) : KeepBut w (((((((((((((W.setCell ⟨g, 0, none⟩ b0).setCell ⟨g, 1, none⟩ b1).setCell ⟨g, 2, none⟩ b2).setCell ⟨g, 3, none⟩ b3).setCell ⟨g, 4, none⟩ b4).setCell ⟨g, 5, none⟩ b5).setCell ⟨g, 6, none⟩ b6).setCell ⟨g, 7, none⟩ b7).setCell ⟨g, 8, none⟩ b8).setCell ⟨g, 9, none⟩ b9).setCell ⟨g, 10, none⟩ b10).setCell ⟨g, 11, none⟩ b11).setCell ⟨g, 12, none⟩ b12) q row :=
  (keep_far (p := ⟨g, 12, none⟩) (keep_far (p := ⟨g, 11, none⟩) (keep_far (p := ⟨g, 10, none⟩) (keep_far (p := ⟨g, 9, none⟩) (keep_far (p := ⟨g, 8, none⟩) (keep_far (p := ⟨g, 7, none⟩) (keep_far (p := ⟨g, 6, none⟩) (keep_far (p := ⟨g, 5, none⟩) (keep_far (p := ⟨g, 4, none⟩) (keep_far (p := ⟨g, 3, none⟩) (keep_far (p := ⟨g, 2, none⟩) (keep_far (p := ⟨g, 1, none⟩) (keep_far (p := ⟨g, 0, none⟩) h hp b0) hp b1) hp b2) hp b3) hp b4) hp b5) hp b6) hp b7) hp b8) hp b9) hp b10) hp b11) hp b12)
theorem bset13 {w W : World} {g : Nat} (h : Below w.heap.size w W) (hg : w.heap.size ≤ g) (b0 b1 b2 b3 b4 b5 b6 b7 b8 b9 b10 b11 b12 : Value) : Below w.heap.size w (((((((((((((W.setCell ⟨g, 0, none⟩ b0).setCell ⟨g, 1, none⟩ b1).setCell ⟨g, 2, none⟩ b2).setCell ⟨g, 3, none⟩ b3).setCell ⟨g, 4, none⟩ b4).setCell ⟨g, 5, none⟩ b5).setCell ⟨g, 6, none⟩ b6).setCell ⟨g, 7, none⟩ b7).setCell ⟨g, 8, none⟩ b8).setCell ⟨g, 9, none⟩ b9).setCell ⟨g, 10, none⟩ b10).setCell ⟨g, 11, none⟩ b11).setCell ⟨g, 12, none⟩ b12) :=
  (below_set (j := 12) (v := b12) (below_set (j := 11) (v := b11) (below_set (j := 10) (v := b10) (below_set (j := 9) (v := b9) (below_set (j := 8) (v := b8) (below_set (j := 7) (v := b7) (below_set (j := 6) (v := b6) (below_set (j := 5) (v := b5) (below_set (j := 4) (v := b4) (below_set (j := 3) (v := b3) (below_set (j := 2) (v := b2) (below_set (j := 1) (v := b1) (below_set (j := 0) (v := b0) h hg) hg) hg) hg) hg) hg) hg) hg) hg) hg) hg) hg) hg)
theorem bfar13 {W : World} {g q : Nat} {t : TypeId} {cs : Array Value} (h : W.heap[q]? = some (.cells cs t (0, 0))) (hne : q ≠ g) (b0 b1 b2 b3 b4 b5 b6 b7 b8 b9 b10 b11 b12 : Value) : (((((((((((((W.setCell ⟨g, 0, none⟩ b0).setCell ⟨g, 1, none⟩ b1).setCell ⟨g, 2, none⟩ b2).setCell ⟨g, 3, none⟩ b3).setCell ⟨g, 4, none⟩ b4).setCell ⟨g, 5, none⟩ b5).setCell ⟨g, 6, none⟩ b6).setCell ⟨g, 7, none⟩ b7).setCell ⟨g, 8, none⟩ b8).setCell ⟨g, 9, none⟩ b9).setCell ⟨g, 10, none⟩ b10).setCell ⟨g, 11, none⟩ b11).setCell ⟨g, 12, none⟩ b12).heap[q]? = some (.cells cs t (0, 0)) :=
  (blk_far (p := ⟨g, 12, none⟩) (blk_far (p := ⟨g, 11, none⟩) (blk_far (p := ⟨g, 10, none⟩) (blk_far (p := ⟨g, 9, none⟩) (blk_far (p := ⟨g, 8, none⟩) (blk_far (p := ⟨g, 7, none⟩) (blk_far (p := ⟨g, 6, none⟩) (blk_far (p := ⟨g, 5, none⟩) (blk_far (p := ⟨g, 4, none⟩) (blk_far (p := ⟨g, 3, none⟩) (blk_far (p := ⟨g, 2, none⟩) (blk_far (p := ⟨g, 1, none⟩) (blk_far (p := ⟨g, 0, none⟩) h hne b0) hne b1) hne b2) hne b3) hne b4) hne b5) hne b6) hne b7) hne b8) hne b9) hne b10) hne b11) hne b12)
end Go.Proofs.Ytfjmnaobfbmllaa.M
namespace Go.Proofs.Ytfjmnaobfbmllaa.M
open Go.RowKit Go.Proofs.YtfjmnaobfbmllaaW.PrintWords Go.Proofs.YtfjmnaobfbmllaaW.PrintLast Go.Proofs.YtfjmnaobfbmllaaW.PrintMore
attribute [local go_sem] max2_int min2_int max_two min_two max_three min_three max_four min_four   -- for this text's walks alone
set_option linter.unusedVariables false
set_option linter.unusedSimpArgs false
def note_scan_entries.l0 : Nat → List (S65) → Int → ByteArray → Bool → Option ((List (S65)) × ByteArray × Bool)
 | 0, _, _, _, _ => none
 | k + 1, x3, x4, x1000, x1001 => if (x3.length : Int) < (mn x4 17) then (if x1001 = true then (some (x3, x1000, true)) else ((entry_Decode.f x1000).bind fun bt104 => (if x3.length < 1172812402961 then (note_scan_entries.l0 k (x3 ++ [(⟨bt104.1, (⟨bt104.2.1, bt104.2.2.1, bt104.2.2.2.1⟩ : S52), bt104.2.2.2.2.1, bt104.2.2.2.2.2.1, bt104.2.2.2.2.2.2.1, bt104.2.2.2.2.2.2.2.1, (⟨bt104.2.2.2.2.2.2.2.2.1, bt104.2.2.2.2.2.2.2.2.2.1⟩ : S33), (⟨bt104.2.2.2.2.2.2.2.2.2.2.1, bt104.2.2.2.2.2.2.2.2.2.2.2.1⟩ : S33), bt104.2.2.2.2.2.2.2.2.2.2.2.2.1⟩ : S65)]) x4 bt104.2.2.2.2.2.2.2.2.2.2.2.2.2.1 (bt104.2.2.2.2.2.2.2.2.2.2.2.2.2.2 != 0)) else (none)))) else (if x1001 = true then (some (x3, x1000, true)) else (some (x3, x1000, (x4 != (x3.length : Int)))))
def note_scan_entries.f (k : Nat) (s0_0 : ByteArray) (s0_1 : Bool) : Option ((List (S65)) × ByteArray × Bool) := (note_scan_int.f s0_0 s0_1).bind fun bt101 => (note_scan_entries.l0 k ([] : List (S65)) bt101.1 bt101.2.1 bt101.2.2)
set_option maxHeartbeats 8000000 in
set_option maxRecDepth 100000 in
theorem note_scan_entries.calls (k : Nat) (g : Nat) (s0_0 : ByteArray) (s0_1 : Bool) (r1 : List (S65)) (r2 : ByteArray) (r3 : Bool) (w0 w : World) (hI : IsS104 w0 w g s0_0 s0_1) (hB : Below w0.heap.size w0 w) (h : note_scan_entries.f k s0_0 s0_1 = some (r1, r2, r3)) :
  Calls Try.prog 91 #[.pointer (some ⟨g, 0, none⟩)] w fun e w' => ∃ v0_ : Value, e = .returned (v0_) ∧ Kd.R k65 65 w' w.heap.size (fun _ => True) v0_ r1 ∧ IsS104 w0 w' g r2 r3 ∧ Below w0.heap.size w0 w' ∧ KeepBut w w' g none := by
 have hu65 := Try.underlying65
 have HI0 := aq hI
 have HK := aq (KeepBut.refl w g none)
 have HL := aq hB.size
 clear hI
 have HW0 := aq hB.size
 have HB := aq hB
 clear hB
 have H : ((note_scan_int.f s0_0 s0_1).bind fun bt101 => (note_scan_entries.l0 k ([] : List (S65)) bt101.1 bt101.2.1 bt101.2.2)) = some (r1, r2, r3) := h
 clear h
 replace H := Option.bind_eq_some_iff.mp H
 obtain ⟨⟨t101, t102, t103⟩, A20, H⟩ := H
 try dsimp only at H
 have A2 := aq A20
 clear A20
 have H' := aq H
 clear H
 go_enter Try.func91, Try.ntmps91
 go_wp2_with (first | ((with_reducible refine gate_callee (f := 87) rfl ?_); refine goesL_ (some 9) rfl rfl Try.func87 (by kernel_rfl) rfl #[.pointer (some ⟨g, 0, none⟩)] rfl fitR ?_; (with_reducible refine (note_scan_int.calls g s0_0 s0_1 t101 t102 t103 w0 _ ?side1 ?side2 A2.out).mono ?_); (case side1 => repeat (first | (with_reducible first | exact HI0.out | apply IsS104.alloc | apply IsS104.drewN | apply IsS104.drew | apply IsS104.set_0 | apply IsS104.set_1) | exact HI0.out)); (case side2 => repeat (first | (with_reducible first | exact HB.out | apply below_alloc | apply pw_below_drewN | apply below_drew1 | refine below_set ?_ (IsS104.ge HI0.out)) | exact HB.out)); rintro e w3 ⟨rfl, hi, hb, hk⟩; refine ⟨_, rfl, ?_⟩; have n0_ := aq (KeepBut.trans (stK HK) hk (.inl rfl)); have n1_ := aq (hb); have n2_ := aq (hi); replace HK := n0_; replace HB := n1_; replace HI0 := n2_; clear n0_ n1_ n2_; (try clear hb); (try clear hk); (try clear hi)))
 go_loopg [3] k (fun kq v3 w' => ∃ (x3_1 : List (S65)) (x1000_1 : ByteArray) (x1001_1 : Bool), Aside0 (note_scan_entries.l0 kq x3_1 t101 x1000_1 x1001_1 = some (r1, r2, r3)) ∧ Aside0 (kq ≤ k) ∧ Aside0 (Kd.R k65 65 w' w.heap.size (fun _ => True) v3 x3_1) ∧ Aside0 (IsS104 w0 w' g x1000_1 x1001_1) ∧ Aside0 (KeepBut w w' g none) ∧ Aside0 (Below w0.heap.size w0 w'))
 case atStart => exact ⟨(([] : List (S65))), (t102), (t103), H', ⟨Nat.le_refl _⟩, ⟨by first | exact Kd.R_nil _ _ _ _ _ | exact Kd.N_nil _ _ _ _ _ | exact Kd.V_nil _ _ _ _ _ | exact Kd.Q_nil _ _ _ _ _ | exact Kd.S_nil _ _ _ _ _⟩, ⟨IsS104.st HI0⟩, ⟨stK HK⟩, ⟨IsS104.stH HB⟩⟩
 case round =>
  clear H'
  try clear p2
  obtain ⟨x3_1, x1000_1, x1001_1, HA, HK1, HO_3, HI0, HK, HB⟩ := hrel
  cases gk with
  | zero => exact absurd HA.out (by simp [note_scan_entries.l0])
  | succ k1 =>
   have H := HA.out
   clear HA
   simp only [note_scan_entries.l0] at H
   obtain ⟨ji4, hji4⟩ : ∃ j_ : Int, (mn t101 17) = j_ := ⟨_, rfl⟩
   replace H : (if (x3_1.length : Int) < (ji4) then (if x1001_1 = true then (some (x3_1, x1000_1, true)) else ((entry_Decode.f x1000_1).bind fun bt104 => (if x3_1.length < 1172812402961 then (note_scan_entries.l0 k1 (x3_1 ++ [(⟨bt104.1, (⟨bt104.2.1, bt104.2.2.1, bt104.2.2.2.1⟩ : S52), bt104.2.2.2.2.1, bt104.2.2.2.2.2.1, bt104.2.2.2.2.2.2.1, bt104.2.2.2.2.2.2.2.1, (⟨bt104.2.2.2.2.2.2.2.2.1, bt104.2.2.2.2.2.2.2.2.2.1⟩ : S33), (⟨bt104.2.2.2.2.2.2.2.2.2.2.1, bt104.2.2.2.2.2.2.2.2.2.2.2.1⟩ : S33), bt104.2.2.2.2.2.2.2.2.2.2.2.2.1⟩ : S65)]) t101 bt104.2.2.2.2.2.2.2.2.2.2.2.2.2.1 (bt104.2.2.2.2.2.2.2.2.2.2.2.2.2.2 != 0)) else (none)))) else (if x1001_1 = true then (some (x3_1, x1000_1, true)) else (some (x3_1, x1000_1, (t101 != (x3_1.length : Int)))))) = some (r1, r2, r3) := by first | (rw [hji4] at H; exact H) | (simp only [hji4] at H ⊢; exact H)
   have hji4_ : (if 17 < t101 then 17 else t101) = ji4 := hji4
   by_cases c5 : (x3_1.length : Int) < (ji4)
   ·rw [if_pos c5] at H
    have c5b0 : decide ((x3_1.length : Int) < (ji4)) = true := decide_eq_true c5
    clear c5
    by_cases c6 : x1001_1 = true
    ·subst c6
     rw [if_pos rfl] at H
     simp only [Option.some.injEq, Prod.mk.injEq] at H
     obtain ⟨rfl, rfl, rfl⟩ := H
     obtain ⟨Ao7, co7, eo7⟩ := Kd.R_slice HO_3.out
     subst eo7
     obtain ⟨HGz8, hgz8⟩ := HI0.out
     have k8a := cellS104_0 HGz8
     have k8b := cellS104_1 HGz8
     obtain ⟨u8a, u8b⟩ := fr2 HGz8
     clear HGz8 hgz8
     go_wp2
     go_ret
     exact ⟨_, by first | rfl | (simp [errW_none, errW_some] <;> rfl) | (simp only [← hji4]; first | rfl | (simp [errW_none, errW_some] <;> rfl)) | (simp [*, errW_none, errW_some] <;> rfl), by (with_reducible repeat (first | apply Kd.R_alloc | apply Kd.R_drewN | apply Kd.R_drew)); exact Kd.R_mono (Kd.R_far (p := ⟨g, 1, none⟩) (IsS104.apart HI0.out HO_3.out (by decide)) (fun _ hk => hk.2) (.bool true)) (fun _ hk => trivial), by repeat (first | (with_reducible first | exact HI0.out | apply IsS104.alloc | apply IsS104.drewN | apply IsS104.drew | apply IsS104.set_0 | apply IsS104.set_1) | exact HI0.out), by repeat (first | (with_reducible first | exact HB.out | apply below_alloc | apply pw_below_drewN | apply below_drew1 | refine below_set ?_ (IsS104.ge HI0.out)) | exact HB.out), by repeat (first | (with_reducible first | exact HK.out | apply KeepBut.set_ | apply keep_drewN | apply keep_drew | apply keep_alloc) | exact HK.out)⟩
    ·replace c6 := Bool.eq_false_iff.mpr c6
     subst c6
     rw [if_neg (show ¬ (false = true) by decide)] at H
     replace H := Option.bind_eq_some_iff.mp H
     obtain ⟨⟨t104, t105, t106, t107, t108, t109, t110, t111, t112, t113, t114, t115, t116, t117, t118⟩, A90, H⟩ := H
     try dsimp only at H
     have A9 := aq A90
     clear A90
     by_cases c10 : x3_1.length < 1172812402961
     ·rw [if_pos c10] at H
      have LMc10 := aq c10
      clear c10
      obtain ⟨y120, hy120⟩ : ∃ y_ : List (S65), y_ = (x3_1 ++ [(⟨t104, (⟨t105, t106, t107⟩ : S52), t108, t109, t110, t111, (⟨t112, t113⟩ : S33), (⟨t114, t115⟩ : S33), t116⟩ : S65)]) := ⟨_, rfl⟩
      replace H : (note_scan_entries.l0 k1 y120 t101 t117 (t118 != 0)) = some (r1, r2, r3) := by first | (rw [hy120]; with_reducible exact H) | (have H2_ := (Option.bind_some _ _).symm.trans H; rw [hy120]; with_reducible exact H2_) | (have H2_ := (Option.bind_some _ _).symm.trans H; with_reducible exact H2_) | with_reducible exact H | (rw [hy120]; exact H) | exact H
      have Ny120 := aq hy120
      clear hy120
      have H' := aq H
      clear H
      obtain ⟨Ao11, co11, eo11⟩ := Kd.R_slice HO_3.out
      subst eo11
      obtain ⟨HGz12, hgz12⟩ := HI0.out
      have k12a := cellS104_0 HGz12
      have k12b := cellS104_1 HGz12
      obtain ⟨u12a, u12b⟩ := fr2 HGz12
      clear HGz12 hgz12
      go_upto_region 5 with (first | ((with_reducible refine gate_callee (f := 63) rfl ?_); refine goesL_ (some 27) rfl rfl Try.func63 (by kernel_rfl) rfl #[.string x1000_1] rfl fitR ?_; (with_reducible refine (entry_Decode.calls x1000_1 t104 t105 t106 t107 t108 t109 t110 t111 t112 t113 t114 t115 t116 t117 t118 _ A9.out).mono ?_); rintro e w13 ⟨rfl, hb⟩; refine ⟨_, rfl, ?_⟩; have n0_ := aq (Kd.R_below (by (with_reducible repeat (first | apply Kd.R_alloc | apply Kd.R_drewN | apply Kd.R_drew)); exact HO_3.out) hb); have n1_ := aq (IsS104.below (IsS104.st HI0) hb); have n2_ := aq (KeepBut.trans (stK HK) (KeepBut.of_below hb g none) (.inl rfl)); have n3_ := aq (below_step (IsS104.stH HB) hb); replace HO_3 := n0_; replace HI0 := n1_; replace HK := n2_; replace HB := n3_; clear n0_ n1_ n2_ n3_; (try clear hb)) | ((with_reducible refine gate_dst (N := 5) rfl ?_); (try (refine gate_guard (by rfl) ?_; dsimp only)); refine box_event ?hg (N := 5) ?hd (cs := #[.int .i64 0, .int .i64 0, .int .i64 0, .int .i64 0, .int .i64 0, .int .i64 0, .int .i64 0, .int .i64 0, .bool false, .string (⟨#[]⟩ : ByteArray), .bool false, .string (⟨#[]⟩ : ByteArray), .int .i64 0]) (t := 65) ?hr ?_; (case hd => rfl); (case hg => rfl); (case hr => first | (go_simp; done) | (go_simp; rfl)); intro gb119 hg w14 hbox hb; have n0_ := aq (Kd.R_below (Kd.R_elderB (by (with_reducible repeat (first | apply Kd.R_alloc | apply Kd.R_drewN | apply Kd.R_drew)); exact HO_3.out) gb119 (Nat.le_of_eq hg.symm)) hb); have n1_ := aq (IsS104.below (IsS104.st HI0) hb); have n2_ := aq (KeepBut.trans (stK HK) (KeepBut.of_below hb g none) (.inl rfl)); have n3_ := aq (below_step (IsS104.stH HB) hb); have n4_ := aq (hbox); have n5_ := aq ((by rw [hg]; exact (keep_size (w := w) (g := g) (row := none) (stK HK)) : w.heap.size ≤ gb119)); have n6_ := aq ((Nat.le_trans HW0.out (by rw [hg]; exact (keep_size (w := w) (g := g) (row := none) (stK HK)) : w.heap.size ≤ gb119) : w0.heap.size ≤ gb119)); have n7_ := aq ((by rw [hg]; exact Nat.ne_of_lt (IsS104.lt (show IsS104 w0 _ g x1000_1 false from by repeat (first | (with_reducible first | exact HI0.out | apply IsS104.alloc | apply IsS104.drewN | apply IsS104.drew | apply IsS104.set_0 | apply IsS104.set_1) | exact HI0.out))) : g ≠ gb119)); have n8_ := aq ((by rw [hg]; exact Nat.ne_of_gt (IsS104.lt (show IsS104 w0 _ g x1000_1 false from by repeat (first | (with_reducible first | exact HI0.out | apply IsS104.alloc | apply IsS104.drewN | apply IsS104.drew | apply IsS104.set_0 | apply IsS104.set_1) | exact HI0.out))) : gb119 ≠ g)); replace HO_3 := n0_; replace HI0 := n1_; replace HK := n2_; replace HB := n3_; have BK119 := n4_; have GW119 := n5_; have GE119 := n6_; have NB0_119 := n7_; have NB119_0 := n8_; clear n0_ n1_ n2_ n3_ n4_ n5_ n6_ n7_ n8_; clear hb hbox hg; have hnb15 := NB119_0.out; have hnc15 := NB0_119.out; obtain ⟨k16a, k16b, k16c, k16d, k16e, k16f, k16g, k16h, k16i, k16j, k16k, k16l, k16m⟩ := cl13 (W := w14) BK119.out; obtain ⟨u16a, u16b, u16c, u16d, u16e, u16f, u16g, u16h, u16i, u16j, u16k, u16l, u16m⟩ := fr13 BK119.out; obtain ⟨HGz17, hgz17⟩ := HI0.out; have k17a := cellS104_0 HGz17; have k17b := cellS104_1 HGz17; obtain ⟨u17a, u17b⟩ := fr2 HGz17; clear HGz17 hgz17))
      have n0_ : Aside0 ((((((((((((((w14.setCell ⟨gb119, 0, none⟩ (.int .i64 t104)).setCell ⟨gb119, 1, none⟩ (.int .i64 t105)).setCell ⟨gb119, 2, none⟩ (.int .i64 t106)).setCell ⟨gb119, 3, none⟩ (.int .i64 t107)).setCell ⟨gb119, 4, none⟩ (.int .i64 t108)).setCell ⟨gb119, 5, none⟩ (.int .i64 t109)).setCell ⟨gb119, 6, none⟩ (.int .i64 t110)).setCell ⟨gb119, 7, none⟩ (.int .i64 t111)).setCell ⟨gb119, 8, none⟩ (.bool t112)).setCell ⟨gb119, 9, none⟩ (.string t113)).setCell ⟨gb119, 10, none⟩ (.bool t114)).setCell ⟨gb119, 11, none⟩ (.string t115)).setCell ⟨gb119, 12, none⟩ (.int .i64 t116)).heap[gb119]? = some (.cells #[.int .i64 t104, .int .i64 t105, .int .i64 t106, .int .i64 t107, .int .i64 t108, .int .i64 t109, .int .i64 t110, .int .i64 t111, .bool t112, .string t113, .bool t114, .string t115, .int .i64 t116] 65 (0, 0))) := ⟨puts13 (cs := #[.int .i64 0, .int .i64 0, .int .i64 0, .int .i64 0, .int .i64 0, .int .i64 0, .int .i64 0, .int .i64 0, .bool false, .string (⟨#[]⟩ : ByteArray), .bool false, .string (⟨#[]⟩ : ByteArray), .int .i64 0]) rfl BK119.out⟩
      have n1_ := aq (rfar13 (g := gb119) HO_3.out (fun _ hk => hk.2) (.int .i64 t104) (.int .i64 t105) (.int .i64 t106) (.int .i64 t107) (.int .i64 t108) (.int .i64 t109) (.int .i64 t110) (.int .i64 t111) (.bool t112) (.string t113) (.bool t114) (.string t115) (.int .i64 t116))
      have n2_ : Aside0 (IsS104 w0 (((((((((((((w14.setCell ⟨gb119, 0, none⟩ (.int .i64 t104)).setCell ⟨gb119, 1, none⟩ (.int .i64 t105)).setCell ⟨gb119, 2, none⟩ (.int .i64 t106)).setCell ⟨gb119, 3, none⟩ (.int .i64 t107)).setCell ⟨gb119, 4, none⟩ (.int .i64 t108)).setCell ⟨gb119, 5, none⟩ (.int .i64 t109)).setCell ⟨gb119, 6, none⟩ (.int .i64 t110)).setCell ⟨gb119, 7, none⟩ (.int .i64 t111)).setCell ⟨gb119, 8, none⟩ (.bool t112)).setCell ⟨gb119, 9, none⟩ (.string t113)).setCell ⟨gb119, 10, none⟩ (.bool t114)).setCell ⟨gb119, 11, none⟩ (.string t115)).setCell ⟨gb119, 12, none⟩ (.int .i64 t116)) g x1000_1 false) := ⟨bfar13 HI0.out.1 NB0_119.out (.int .i64 t104) (.int .i64 t105) (.int .i64 t106) (.int .i64 t107) (.int .i64 t108) (.int .i64 t109) (.int .i64 t110) (.int .i64 t111) (.bool t112) (.string t113) (.bool t114) (.string t115) (.int .i64 t116), HI0.out.2⟩
      have n3_ := aq (kfar13 HK.out GW119.out (.int .i64 t104) (.int .i64 t105) (.int .i64 t106) (.int .i64 t107) (.int .i64 t108) (.int .i64 t109) (.int .i64 t110) (.int .i64 t111) (.bool t112) (.string t113) (.bool t114) (.string t115) (.int .i64 t116))
      have n4_ := aq (bset13 HB.out GE119.out (.int .i64 t104) (.int .i64 t105) (.int .i64 t106) (.int .i64 t107) (.int .i64 t108) (.int .i64 t109) (.int .i64 t110) (.int .i64 t111) (.bool t112) (.string t113) (.bool t114) (.string t115) (.int .i64 t116))
      clear HO_3 HI0 HK HB BK119
      try clear k16a k16b k16c k16d k16e k16f k16g k16h k16i k16j k16k k16l k16m
      try clear u16a u16b u16c u16d u16e u16f u16g u16h u16i u16j u16k u16l u16m
      try clear k17a k17b u17a u17b
      have BK119 := n0_
      have HO_3 := n1_
      have HI0 := n2_
      have HK := n3_
      have HB := n4_
      clear n0_ n1_ n2_ n3_ n4_
      generalize (((((((((((((w14.setCell ⟨gb119, 0, none⟩ (.int .i64 t104)).setCell ⟨gb119, 1, none⟩ (.int .i64 t105)).setCell ⟨gb119, 2, none⟩ (.int .i64 t106)).setCell ⟨gb119, 3, none⟩ (.int .i64 t107)).setCell ⟨gb119, 4, none⟩ (.int .i64 t108)).setCell ⟨gb119, 5, none⟩ (.int .i64 t109)).setCell ⟨gb119, 6, none⟩ (.int .i64 t110)).setCell ⟨gb119, 7, none⟩ (.int .i64 t111)).setCell ⟨gb119, 8, none⟩ (.bool t112)).setCell ⟨gb119, 9, none⟩ (.string t113)).setCell ⟨gb119, 10, none⟩ (.bool t114)).setCell ⟨gb119, 11, none⟩ (.string t115)).setCell ⟨gb119, 12, none⟩ (.int .i64 t116)) = w70 at BK119 HO_3 HI0 HK HB ⊢
      obtain ⟨hcx_0, hcx_1, hcx_2, hcx_3, hcx_4, hcx_5, hcx_6, hcx_7, hcx_8, hcx_9, hcx_10, hcx_11, hcx_12⟩ := cl13 (W := w70) BK119.out
      obtain ⟨hfx_0, hfx_1, hfx_2, hfx_3, hfx_4, hfx_5, hfx_6, hfx_7, hfx_8, hfx_9, hfx_10, hfx_11, hfx_12⟩ := fr13 BK119.out
      obtain ⟨HGx, hgx⟩ := HI0.out
      have hcy_0 := cellS104_0 HGx
      have hcy_1 := cellS104_1 HGx
      obtain ⟨hfy_0, hfy_1⟩ := fr2 HGx
      clear HGx hgx
      go_wp2_with (first | ((with_reducible refine gate_builtin (b := .append) (xs := #[.tmp 40, .tmp 42]) rfl ?_); (try (refine gate_guard (by rfl) ?_; dsimp only)); at_builtin; refine Kd.R_append k65 w.heap.size rfl (.tmp 40) (.tmp 42) 53 65 (.agg #[(.int .i64 0), (.int .i64 0), (.int .i64 0), (.int .i64 0), (.int .i64 0), (.int .i64 0), (.int .i64 0), (.int .i64 0), (.bool false), (.string ⟨#[]⟩), (.bool false), (.string ⟨#[]⟩), (.int .i64 0)]) 120 rfl Try.underlying53 info65 rfl (by decide) (by omega) (.slice Ao11 x3_1.length co11) x3_1 (⟨t104, (⟨t105, t106, t107⟩ : S52), t108, t109, t110, t111, (⟨t112, t113⟩ : S33), (⟨t114, t115⟩ : S33), t116⟩ : S65) [.int .i64 t104, .int .i64 t105, .int .i64 t106, .int .i64 t107, .int .i64 t108, .int .i64 t109, .int .i64 t110, .int .i64 t111, .bool t112, .string t113, .bool t114, .string t115, .int .i64 t116] (fun k_ => k_ ≠ gb119) (fun _ => False) rfl (by first | (go_simp; done) | (go_simp; rfl)) ?aP (fun _ hk => hk.elim) ?aF ?aO (Below.refl _ _) ?aS ?aL ?_; (case aP => exact k65_mkM _ _ _ (⟨t104, (⟨t105, t106, t107⟩ : S52), t108, t109, t110, t111, (⟨t112, t113⟩ : S33), (⟨t114, t115⟩ : S33), t116⟩ : S65)); (case aF => exact (fun k_ hk => Kd.freshB (g := gb119) (o := .cells #[.int .i64 t104, .int .i64 t105, .int .i64 t106, .int .i64 t107, .int .i64 t108, .int .i64 t109, .int .i64 t110, .int .i64 t111, .bool t112, .string t113, .bool t114, .string t115, .int .i64 t116] 65 (0, 0)) (stF BK119) k_ hk)); (case aO => exact (by (with_reducible repeat (first | apply Kd.R_alloc | apply Kd.R_drewN | apply Kd.R_drew)); exact Kd.R_mono (Kd.R_far (p := ⟨g, 1, none⟩) (Kd.R_far (p := ⟨g, 0, none⟩) (IsS104.apart HI0.out (Kd.R_mono HO_3.out (fun k_ hk => (⟨hk, hk.2⟩ : _ ∧ k_ ≠ gb119))) (by decide)) (fun _ hk => hk.2) (.string t117)) (fun _ hk => hk.2) (.bool (t118 != 0))) (fun _ hk => hk.1.1.2))); (case aS => exact (keep_size (w := w) (g := g) (row := none) (stK HK))); (case aL => have := LMc10.out; omega); intro v121 w18 ho hb hg hat; rw [← Ny120.out] at ho; have n0_ := aq (IsS104.grown (IsS104.st HI0) hg (IsS104.own_ne HI0.out HO_3.out (by decide))); have n1_ := aq (blk_grown (g := gb119) (o := .cells #[.int .i64 t104, .int .i64 t105, .int .i64 t106, .int .i64 t107, .int .i64 t108, .int .i64 t109, .int .i64 t110, .int .i64 t111, .bool t112, .string t113, .bool t114, .string t115, .int .i64 t116] 65 (0, 0)) (stF BK119) hg (Kd.R_away HO_3.out (fun _ hk => hk.2))); have n2_ := aq (below_weaken (IsS104.stH HB) HL.out hb); have n3_ := aq (KeepBut.trans (stK HK) (KeepBut.of_grown hg g) (Kd.R_base2 HO_3.out)); have n4_ := aq (ho); clear HI0; clear BK119; clear HB; clear HK; clear HO_3; have HI0 := n0_; have BK119 := n1_; have HB := n2_; have HK := n3_; have HO122 := n4_; clear n0_ n1_ n2_ n3_ n4_; clear ho hb hg hat))
      go_roundg k1
      case measure => have := HK1.out; omega
      case rel => exact ⟨(y120), (t117), ((t118 != 0)), H', ⟨by have := HK1.out; omega⟩, ⟨by (with_reducible repeat (first | apply Kd.R_alloc | apply Kd.R_drewN | apply Kd.R_drew)); exact Kd.R_mono HO122.out (fun _ hk => trivial)⟩, ⟨IsS104.st HI0⟩, ⟨stK HK⟩, ⟨IsS104.stH HB⟩⟩
     ·rw [if_neg c10] at H
      exact absurd H (by simp)
   ·rw [if_neg c5] at H
    have c5b0 : decide ((x3_1.length : Int) < (ji4)) = false := decide_eq_false c5
    clear c5
    by_cases c19 : x1001_1 = true
    ·subst c19
     rw [if_pos rfl] at H
     simp only [Option.some.injEq, Prod.mk.injEq] at H
     obtain ⟨rfl, rfl, rfl⟩ := H
     obtain ⟨Ao20, co20, eo20⟩ := Kd.R_slice HO_3.out
     subst eo20
     obtain ⟨HGz21, hgz21⟩ := HI0.out
     have k21a := cellS104_0 HGz21
     have k21b := cellS104_1 HGz21
     obtain ⟨u21a, u21b⟩ := fr2 HGz21
     clear HGz21 hgz21
     go_wp2
     go_ret
     exact ⟨_, by first | rfl | (simp [errW_none, errW_some] <;> rfl) | (simp only [← hji4]; first | rfl | (simp [errW_none, errW_some] <;> rfl)) | (simp [*, errW_none, errW_some] <;> rfl), by (with_reducible repeat (first | apply Kd.R_alloc | apply Kd.R_drewN | apply Kd.R_drew)); exact Kd.R_mono (Kd.R_far (p := ⟨g, 1, none⟩) (IsS104.apart HI0.out HO_3.out (by decide)) (fun _ hk => hk.2) (.bool true)) (fun _ hk => trivial), by repeat (first | (with_reducible first | exact HI0.out | apply IsS104.alloc | apply IsS104.drewN | apply IsS104.drew | apply IsS104.set_0 | apply IsS104.set_1) | exact HI0.out), by repeat (first | (with_reducible first | exact HB.out | apply below_alloc | apply pw_below_drewN | apply below_drew1 | refine below_set ?_ (IsS104.ge HI0.out)) | exact HB.out), by repeat (first | (with_reducible first | exact HK.out | apply KeepBut.set_ | apply keep_drewN | apply keep_drew | apply keep_alloc) | exact HK.out)⟩
    ·replace c19 := Bool.eq_false_iff.mpr c19
     subst c19
     rw [if_neg (show ¬ (false = true) by decide)] at H
     simp only [Option.some.injEq, Prod.mk.injEq] at H
     obtain ⟨rfl, rfl, rfl⟩ := H
     obtain ⟨Ao22, co22, eo22⟩ := Kd.R_slice HO_3.out
     subst eo22
     obtain ⟨HGz23, hgz23⟩ := HI0.out
     have k23a := cellS104_0 HGz23
     have k23b := cellS104_1 HGz23
     obtain ⟨u23a, u23b⟩ := fr2 HGz23
     clear HGz23 hgz23
     go_wp2
     go_ret
     exact ⟨_, by first | rfl | (simp [errW_none, errW_some] <;> rfl) | (simp only [← hji4]; first | rfl | (simp [errW_none, errW_some] <;> rfl)) | (simp [*, errW_none, errW_some] <;> rfl), by (with_reducible repeat (first | apply Kd.R_alloc | apply Kd.R_drewN | apply Kd.R_drew)); exact Kd.R_mono (Kd.R_far (p := ⟨g, 1, none⟩) (IsS104.apart HI0.out HO_3.out (by decide)) (fun _ hk => hk.2) (.bool (t101 != (x3_1.length : Int)))) (fun _ hk => trivial), by repeat (first | (with_reducible first | exact HI0.out | apply IsS104.alloc | apply IsS104.drewN | apply IsS104.drew | apply IsS104.set_0 | apply IsS104.set_1) | exact HI0.out), by repeat (first | (with_reducible first | exact HB.out | apply below_alloc | apply pw_below_drewN | apply below_drew1 | refine below_set ?_ (IsS104.ge HI0.out)) | exact HB.out), by repeat (first | (with_reducible first | exact HK.out | apply KeepBut.set_ | apply keep_drewN | apply keep_drew | apply keep_alloc) | exact HK.out)⟩
end Go.Proofs.Ytfjmnaobfbmllaa.M
namespace Go.Proofs.Ytfjmnaobfbmllaa.M
open Go.RowKit Go.Proofs.YtfjmnaobfbmllaaW.PrintWords Go.Proofs.YtfjmnaobfbmllaaW.PrintLast Go.Proofs.YtfjmnaobfbmllaaW.PrintMore
set_option linter.unusedVariables false
set_option linter.unusedSimpArgs false
theorem sint_eq (r : ByteArray) (b : Bool) : note_scan_int.f r b = some (tI r b) := by
  unfold note_scan_int.f nibTake.f tI
  rw [Option.bind_some]
  cases b with
  | true => rw [if_pos rfl]; rfl
  | false => rw [if_neg Bool.false_ne_true]; rfl
theorem nwith_eq (a lo hi : Int) : note_within.f a lo hi = some (decide (lo ≤ a ∧ a ≤ hi)) := by
  unfold note_within.f
  by_cases h : a ≥ lo
  · rw [if_pos h]; congr 1; rw [decide_eq_decide]; omega
  · rw [if_neg h]; congr 1; rw [eq_comm, decide_eq_false_iff_not]; omega
theorem sflag_eq (r : ByteArray) (b : Bool) : note_scan_flag.f r b = some (tF r b) := by
  unfold note_scan_flag.f tF
  rw [sint_eq, Option.bind_some]
  cases hb : (tI r b).2.2 with
  | true => rw [if_pos rfl]; rfl
  | false => rw [if_neg Bool.false_ne_true, nwith_eq, Option.bind_some]; rfl
theorem simg_eq (r : ByteArray) (b : Bool) : note_scan_image.f r b = some ((tP r b).1.1, (tP r b).1.2, (tP r b).2.1, (tP r b).2.2) := by
  unfold note_scan_image.f tP slabDec.f
  by_cases h : r.size < 240
  · rw [if_pos (by omega), if_pos h]
  · rw [if_neg (by omega), if_neg h, if_pos (by decide), if_pos (by omega), Option.bind_some]
    cases b with
    | true => rw [if_pos rfl]; rfl
    | false => rw [if_neg Bool.false_ne_true]; rfl
theorem mk_ent (x : S65) : (⟨x.f0, (⟨x.f1.f0, x.f1.f1, x.f1.f2⟩ : S52), x.f2, x.f3, x.f4, x.f5, (⟨x.f6.f0, x.f6.f1⟩ : S33), (⟨x.f7.f0, x.f7.f1⟩ : S33), x.f8⟩ : S65) = x := rfl
theorem ents_loop (n : Int) (d : Nat) : ∀ (k : Nat) (acc : List S65) (r : ByteArray) (b : Bool), d < k → acc.length + d ≤ 17 → (d = 0 → mn n 17 ≤ acc.length) → (0 < d → mn n 17 = acc.length + d) →
    note_scan_entries.l0 k acc n r b = some ((tEs d acc r b).1, (tEs d acc r b).2.1, (tEs d acc r b).2.2 || !decide (n = ((tEs d acc r b).1.length : Int))) := by
  induction d with
  | zero =>
    intro k acc r b hk hl h0 h1
    obtain ⟨k, rfl⟩ : ∃ m, k = m + 1 := ⟨k - 1, by omega⟩
    have := h0 rfl
    simp only [note_scan_entries.l0, tEs]
    rw [if_neg (by omega)]
    cases b with
    | true => rw [if_pos rfl]; rfl
    | false => rw [if_neg Bool.false_ne_true]; rfl
  | succ d ih =>
    intro k acc r b hk hl h0 h1
    obtain ⟨k, rfl⟩ : ∃ m, k = m + 1 := ⟨k - 1, by omega⟩
    have h2 := h1 (by omega)
    simp only [note_scan_entries.l0, tEs]
    rw [if_pos (by omega)]
    cases b with
    | true => rw [if_pos rfl]; rfl
    | false =>
      rw [if_neg Bool.false_ne_true]
      unfold entry_Decode.f entTup
      rw [Option.bind_some]
      simp only
      rw [if_pos (by omega)]
      have e : ((decE r).2.2 != 0) = !decide ((decE r).2.2 = 0) := rfl
      rw [mk_ent, e]
      have := ih k (acc ++ [(decE r).1]) (decE r).2.1 (!decide ((decE r).2.2 = 0)) (by omega) (by simp; omega) (fun h => by simp; omega) (fun h => by simp; omega)
      simpa using this
theorem mn_17 (n : Int) : mn n 17 = min n 17 := by unfold mn; split <;> omega
def scanEnts.f (r : ByteArray) (b : Bool) : Option (List S65 × ByteArray × Bool) := some (tE r b)
theorem ents_pure (r : ByteArray) (b : Bool) : note_scan_entries.f 20 r b = scanEnts.f r b := by
  unfold note_scan_entries.f scanEnts.f
  rw [sint_eq, Option.bind_some]
  have e := mn_17 (tI r b).1
  rw [ents_loop (tI r b).1 (min (tI r b).1 17).toNat 20 [] (tI r b).2.1 (tI r b).2.2 (by omega) (by simp; omega) (fun h => by simp; omega) (fun h => by simp; omega)]
  rfl
theorem scanEnts.calls (g : Nat) (s0_0 : ByteArray) (s0_1 : Bool) (r1 : List (S65)) (r2 : ByteArray) (r3 : Bool) (w0 w : World) (hI : IsS104 w0 w g s0_0 s0_1) (hB : Below w0.heap.size w0 w) (h : scanEnts.f s0_0 s0_1 = some (r1, r2, r3)) :
    Calls Try.prog 91 #[.pointer (some ⟨g, 0, none⟩)] w fun e w' => ∃ v0_ : Value, e = .returned (v0_) ∧ Kd.R k65 65 w' w.heap.size (fun _ => True) v0_ r1 ∧ IsS104 w0 w' g r2 r3 ∧ Below w0.heap.size w0 w' ∧ KeepBut w w' g none :=
  note_scan_entries.calls 20 g s0_0 s0_1 r1 r2 r3 w0 w hI hB (by rw [ents_pure]; exact h)
end Go.Proofs.Ytfjmnaobfbmllaa.M
namespace Go.Proofs.Ytfjmnaobfbmllaa.M
open Go.RowKit Go.Proofs.YtfjmnaobfbmllaaW.PrintWords Go.Proofs.YtfjmnaobfbmllaaW.PrintLast Go.Proofs.YtfjmnaobfbmllaaW.PrintMore
def newScan.f (s : ByteArray) (b : Bool) : Option (ByteArray × Bool) := some (s, b)
theorem newScan.mk {w0 W : World} {g : Nat} {s t : ByteArray} {b u : Bool} (h : newScan.f s b = some (t, u)) (hx : W.heap[g]? = some (.cells #[.string s, .bool b] 104 (0, 0))) (hg : w0.heap.size ≤ g) : IsS104 w0 W g t u := by
  have h2 := Option.some.inj h
  obtain rfl : s = t := congrArg Prod.fst h2
  obtain rfl : b = u := congrArg Prod.snd h2
  exact ⟨hx, hg⟩
end Go.Proofs.Ytfjmnaobfbmllaa.M
namespace Go.Proofs.Ytfjmnaobfbmllaa.M
open Go.RowKit Go.Proofs.YtfjmnaobfbmllaaW.PrintWords Go.Proofs.YtfjmnaobfbmllaaW.PrintLast Go.Proofs.YtfjmnaobfbmllaaW.PrintMore
attribute [local go_sem] max2_int min2_int max_two min_two max_three min_three max_four min_four   -- for this text's walks alone
set_option linter.unusedVariables false
set_option linter.unusedSimpArgs false
mutual
def note_Decode.j0 : Nat → ByteArray → Bool → Int → Int → Bool → Bool → Int → Int → Int → Int → Int → Bool → Bool → Bool → Bool → Bool → Bool → Bool → Option (Int × Int × Bool × Bool × Int × Int × Int × Int × Int × (List (S33)) × (List (S65)) × Int)
 | 0, _, _, _, _, _, _, _, _, _, _, _, _, _, _, _, _, _, _ => none
 | k + 1, x110000, x110001, x114000, x114001, x114002, x114003, x114004, x114005, x114006, x114007, x114008, x123000, x123001, x123002, x123003, x123004, x123005, x123006 => if x123001 = true then ((note_scan_flag.f x110000 x110001).bind fun bt126 => (note_Decode.j1 k bt126.2.1 bt126.2.2 x114000 x114001 bt126.1 x114003 x114004 x114005 x114006 x114007 x114008 x123000 x123001 x123002 x123003 x123004 x123005 x123006)) else (note_Decode.j1 k x110000 x110001 x114000 x114001 x114002 x114003 x114004 x114005 x114006 x114007 x114008 x123000 x123001 x123002 x123003 x123004 x123005 x123006)
def note_Decode.j1 : Nat → ByteArray → Bool → Int → Int → Bool → Bool → Int → Int → Int → Int → Int → Bool → Bool → Bool → Bool → Bool → Bool → Bool → Option (Int × Int × Bool × Bool × Int × Int × Int × Int × Int × (List (S33)) × (List (S65)) × Int)
 | 0, _, _, _, _, _, _, _, _, _, _, _, _, _, _, _, _, _, _ => none
 | k + 1, x110000, x110001, x114000, x114001, x114002, x114003, x114004, x114005, x114006, x114007, x114008, x123000, x123001, x123002, x123003, x123004, x123005, x123006 => if x123002 = true then ((note_scan_flag.f x110000 x110001).bind fun bt129 => (note_Decode.j2 k bt129.2.1 bt129.2.2 x114000 x114001 x114002 bt129.1 x114004 x114005 x114006 x114007 x114008 x123000 x123001 x123002 x123003 x123004 x123005 x123006)) else (note_Decode.j2 k x110000 x110001 x114000 x114001 x114002 x114003 x114004 x114005 x114006 x114007 x114008 x123000 x123001 x123002 x123003 x123004 x123005 x123006)
def note_Decode.j2 : Nat → ByteArray → Bool → Int → Int → Bool → Bool → Int → Int → Int → Int → Int → Bool → Bool → Bool → Bool → Bool → Bool → Bool → Option (Int × Int × Bool × Bool × Int × Int × Int × Int × Int × (List (S33)) × (List (S65)) × Int)
 | 0, _, _, _, _, _, _, _, _, _, _, _, _, _, _, _, _, _, _ => none
 | k + 1, x110000, x110001, x114000, x114001, x114002, x114003, x114004, x114005, x114006, x114007, x114008, x123000, x123001, x123002, x123003, x123004, x123005, x123006 => if x123003 = true then ((note_scan_int.f x110000 x110001).bind fun bt132 => ((note_scan_int.f bt132.2.1 bt132.2.2).bind fun bt135 => ((note_scan_int.f bt135.2.1 bt135.2.2).bind fun bt138 => (note_Decode.j3 k bt138.2.1 bt138.2.2 x114000 x114001 x114002 x114003 x114004 bt132.1 bt135.1 bt138.1 x114008 x123000 x123001 x123002 x123003 x123004 x123005 x123006)))) else (note_Decode.j3 k x110000 x110001 x114000 x114001 x114002 x114003 x114004 x114005 x114006 x114007 x114008 x123000 x123001 x123002 x123003 x123004 x123005 x123006)
def note_Decode.j3 : Nat → ByteArray → Bool → Int → Int → Bool → Bool → Int → Int → Int → Int → Int → Bool → Bool → Bool → Bool → Bool → Bool → Bool → Option (Int × Int × Bool × Bool × Int × Int × Int × Int × Int × (List (S33)) × (List (S65)) × Int)
 | 0, _, _, _, _, _, _, _, _, _, _, _, _, _, _, _, _, _, _ => none
 | k + 1, x110000, x110001, x114000, x114001, x114002, x114003, x114004, x114005, x114006, x114007, x114008, x123000, x123001, x123002, x123003, x123004, x123005, x123006 => if x123004 = true then ((note_scan_int.f x110000 x110001).bind fun bt141 => (note_Decode.j4 k bt141.2.1 bt141.2.2 x114000 x114001 x114002 x114003 bt141.1 x114005 x114006 x114007 x114008 x123000 x123001 x123002 x123003 x123004 x123005 x123006)) else (note_Decode.j4 k x110000 x110001 x114000 x114001 x114002 x114003 x114004 x114005 x114006 x114007 x114008 x123000 x123001 x123002 x123003 x123004 x123005 x123006)
def note_Decode.j4 : Nat → ByteArray → Bool → Int → Int → Bool → Bool → Int → Int → Int → Int → Int → Bool → Bool → Bool → Bool → Bool → Bool → Bool → Option (Int × Int × Bool × Bool × Int × Int × Int × Int × Int × (List (S33)) × (List (S65)) × Int)
 | 0, _, _, _, _, _, _, _, _, _, _, _, _, _, _, _, _, _, _ => none
 | k + 1, x110000, x110001, x114000, x114001, x114002, x114003, x114004, x114005, x114006, x114007, x114008, x123000, x123001, x123002, x123003, x123004, x123005, x123006 => (noteShape.f x114000 x114001 x114002 x114003 x114004 x114005 x114006 x114007 x114008 ([] : List (S33)) ([] : List (S65))).bind fun bt144 => (if bt144.2.2.2.2.2.1 = true then ((note_scan_image.f x110000 x110001).bind fun bt153 => (note_Decode.j5 k bt153.2.2.1 bt153.2.2.2 x114000 x114001 x114002 x114003 x114004 x114005 x114006 x114007 bt153.1 bt153.2.1 x123000 x123001 x123002 x123003 x123004 x123005 x123006)) else (note_Decode.j5 k x110000 x110001 x114000 x114001 x114002 x114003 x114004 x114005 x114006 x114007 x114008 ([] : List (S33)) x123000 x123001 x123002 x123003 x123004 x123005 x123006))
def note_Decode.j5 : Nat → ByteArray → Bool → Int → Int → Bool → Bool → Int → Int → Int → Int → Int → List (S33) → Bool → Bool → Bool → Bool → Bool → Bool → Bool → Option (Int × Int × Bool × Bool × Int × Int × Int × Int × Int × (List (S33)) × (List (S65)) × Int)
 | 0, _, _, _, _, _, _, _, _, _, _, _, _, _, _, _, _, _, _, _ => none
 | k + 1, x110000, x110001, x114000, x114001, x114002, x114003, x114004, x114005, x114006, x114007, x114008, x114009, x123000, x123001, x123002, x123003, x123004, x123005, x123006 => if x123006 = true then ((scanEnts.f x110000 x110001).bind fun bt159 => (if bt159.2.2 = true then (some (0, 0, false, false, 0, 0, 0, 0, 0, ([] : List (S33)), ([] : List (S65)), 4)) else (if bt159.2.1.toList = ([] : List UInt8) then ((noteGood.f x114000 x114001 x114002 x114003 x114004 x114005 x114006 x114007 x114008 x114009 bt159.1).bind fun t164 => (if t164 = true then (some (x114000, x114001, x114002, x114003, x114004, x114005, x114006, x114007, x114008, x114009, bt159.1, 0)) else (some (0, 0, false, false, 0, 0, 0, 0, 0, ([] : List (S33)), ([] : List (S65)), 4)))) else (some (0, 0, false, false, 0, 0, 0, 0, 0, ([] : List (S33)), ([] : List (S65)), 4))))) else (if x110001 = true then (some (0, 0, false, false, 0, 0, 0, 0, 0, ([] : List (S33)), ([] : List (S65)), 4)) else (if x110000.toList = ([] : List UInt8) then ((noteGood.f x114000 x114001 x114002 x114003 x114004 x114005 x114006 x114007 x114008 x114009 ([] : List (S65))).bind fun t165 => (if t165 = true then (some (x114000, x114001, x114002, x114003, x114004, x114005, x114006, x114007, x114008, x114009, ([] : List (S65)), 0)) else (some (0, 0, false, false, 0, 0, 0, 0, 0, ([] : List (S33)), ([] : List (S65)), 4)))) else (some (0, 0, false, false, 0, 0, 0, 0, 0, ([] : List (S33)), ([] : List (S65)), 4))))
end
def note_Decode.f (k : Nat) (a0 : ByteArray) : Option (Int × Int × Bool × Bool × Int × Int × Int × Int × Int × (List (S33)) × (List (S65)) × Int) := if (a0.size : Int) < 4 then (some (0, 0, false, false, 0, 0, 0, 0, 0, ([] : List (S33)), ([] : List (S65)), 3)) else (if 0 ≤ 4 then (if 4 ≤ (a0.size : Int) then ((high_Get.f (a0.extract 0 4)).bind fun t102 => ((sum_Of.f (([a0.extract 4 a0.size] : List ByteArray))).bind fun t106 => (if t102 = (IntKind.u64.wrap (t106)) then ((newScan.f (a0.extract 4 a0.size) false).bind fun bt107 => ((note_scan_int.f bt107.1 bt107.2).bind fun bt110 => ((noteShape.f bt110.1 0 false false 0 0 0 0 0 ([] : List (S33)) ([] : List (S65))).bind fun bt114 => (if bt114.1 = true then ((note_scan_int.f bt110.2.1 bt110.2.2).bind fun bt123 => (note_Decode.j0 k bt123.2.1 bt123.2.2 bt110.1 bt123.1 false false 0 0 0 0 0 bt114.1 bt114.2.1 bt114.2.2.1 bt114.2.2.2.1 bt114.2.2.2.2.1 bt114.2.2.2.2.2.1 bt114.2.2.2.2.2.2.1)) else (note_Decode.j0 k bt110.2.1 bt110.2.2 bt110.1 0 false false 0 0 0 0 0 bt114.1 bt114.2.1 bt114.2.2.1 bt114.2.2.2.1 bt114.2.2.2.2.1 bt114.2.2.2.2.2.1 bt114.2.2.2.2.2.2.1))))) else (some (0, 0, false, false, 0, 0, 0, 0, 0, ([] : List (S33)), ([] : List (S65)), 20))))) else (none)) else (none))
def note_Decode.T3 : Bool × List (List Nat × List Nat) := (true, [([], []), ([0], [0]), ([1], [1]), ([], []), ([3], [3]), ([4], [4]), ([5, 2], [5]), ([6], [6]), ([2, 7], [2, 7]), ([8, 6], [8])])
def note_Decode.B3 : List Nat := [0, 1, 3, 0, 8, 24, 63, 127, 255, 511]
theorem note_Decode.tab3 : rtab .any (opsOf Try.f47 3) = note_Decode.T3 := by kernel_rfl
theorem note_Decode.bits3 : waitsOk note_Decode.T3.2 note_Decode.B3 = true := by kernel_rfl
set_option maxHeartbeats 8000000 in
set_option maxRecDepth 100000 in
theorem note_Decode.calls (k : Nat) (a0 : ByteArray) (r1 : Int) (r2 : Int) (r3 : Bool) (r4 : Bool) (r5 : Int) (r6 : Int) (r7 : Int) (r8 : Int) (r9 : Int) (r10 : List (S33)) (r11 : List (S65)) (r12 : Int) (w : World) (h : note_Decode.f k a0 = some (r1, r2, r3, r4, r5, r6, r7, r8, r9, r10, r11, r12)) :
  Calls Try.prog 47 #[.string a0] w fun e w' => ∃ v9_ v10_ : Value, e = .returned (.tuple #[.agg #[.int .i64 r1, .int .i64 r2, .bool r3, .bool r4, .int .i64 r5, .int .i64 r6, .int .i64 r7, .int .i64 r8, .int .i64 r9, v9_, v10_], .int .i64 r12]) ∧ Kd.R k33 33 w' w.heap.size (fun _ => True) v9_ r10 ∧ Kd.R k65 65 w' w.heap.size (fun _ => True) v10_ r11 ∧ Below w.heap.size w w' := by
 have hu55 := Try.underlying55
 have hu104 := Try.underlying104
 have hu107 := Try.underlying107
 have hu52 := Try.underlying52
 have hu24 := Try.underlying24
 have HB := aq (Below.refl w.heap.size w)
 have H : (if (a0.size : Int) < 4 then (some (0, 0, false, false, 0, 0, 0, 0, 0, ([] : List (S33)), ([] : List (S65)), 3)) else (if 0 ≤ 4 then (if 4 ≤ (a0.size : Int) then ((high_Get.f (a0.extract 0 4)).bind fun t102 => ((sum_Of.f (([a0.extract 4 a0.size] : List ByteArray))).bind fun t106 => (if t102 = (IntKind.u64.wrap (t106)) then ((newScan.f (a0.extract 4 a0.size) false).bind fun bt107 => ((note_scan_int.f bt107.1 bt107.2).bind fun bt110 => ((noteShape.f bt110.1 0 false false 0 0 0 0 0 ([] : List (S33)) ([] : List (S65))).bind fun bt114 => (if bt114.1 = true then ((note_scan_int.f bt110.2.1 bt110.2.2).bind fun bt123 => (note_Decode.j0 k bt123.2.1 bt123.2.2 bt110.1 bt123.1 false false 0 0 0 0 0 bt114.1 bt114.2.1 bt114.2.2.1 bt114.2.2.2.1 bt114.2.2.2.2.1 bt114.2.2.2.2.2.1 bt114.2.2.2.2.2.2.1)) else (note_Decode.j0 k bt110.2.1 bt110.2.2 bt110.1 0 false false 0 0 0 0 0 bt114.1 bt114.2.1 bt114.2.2.1 bt114.2.2.2.1 bt114.2.2.2.2.1 bt114.2.2.2.2.2.1 bt114.2.2.2.2.2.2.1))))) else (some (0, 0, false, false, 0, 0, 0, 0, 0, ([] : List (S33)), ([] : List (S65)), 20))))) else (none)) else (none))) = some (r1, r2, r3, r4, r5, r6, r7, r8, r9, r10, r11, r12) := h
 clear h
 by_cases c2 : (a0.size : Int) < 4
 ·rw [if_pos c2] at H
  have c2b0 : decide ((a0.size : Int) < 4) = true := decide_eq_true c2
  have c2b1 : decide (a0.size < 4) = true := decide_eq_true (by omega)
  clear c2
  simp only [Option.some.injEq, Prod.mk.injEq] at H
  obtain ⟨rfl, rfl, rfl, rfl, rfl, rfl, rfl, rfl, rfl, rfl, rfl, rfl⟩ := H
  go_enter Try.func47, Try.ntmps47
  go_wp2_with (first | ((with_reducible refine gate_dst (N := 2) rfl ?_); refine box_event ?hg (N := 2) ?hd (cs := #[.int .i64 0, .int .i64 0, .bool false, .bool false, .int .i64 0, .int .i64 0, .int .i64 0, .int .i64 0, .int .i64 0, .slice none 0 0, .slice none 0 0]) (t := 55) ?hr ?_; (case hd => rfl); (case hg => rfl); (case hr => first | (go_simp; done) | (go_simp; rfl)); intro gb101 hg w3 hbox hb; have n0_ := aq (below_step (stH HB) hb); have n1_ := aq (hbox); have n2_ := aq ((by rw [hg]; exact (below_size (stH HB)) : w.heap.size ≤ gb101)); have n3_ := aq ((by rw [hg]; exact (below_size (stH HB)) : w.heap.size ≤ gb101)); replace HB := n0_; have BK101 := n1_; have GW101 := n2_; have GE101 := n3_; clear n0_ n1_ n2_ n3_; clear hb hbox hg; obtain ⟨k4a, k4b, k4c, k4d, k4e, k4f, k4g, k4h, k4i, k4j, k4k⟩ := cl11 (W := w3) BK101.out; obtain ⟨u4a, u4b, u4c, u4d, u4e, u4f, u4g, u4h, u4i, u4j, u4k⟩ := fr11 BK101.out))
  refine bodyPost_ret (results_ct rfl _ _ gb101 55 #[.int .i64 0, .int .i64 0, .bool false, .bool false, .int .i64 0, .int .i64 0, .int .i64 0, .int .i64 0, .int .i64 0, .slice none 0 0, .slice none 0 0] (0, 0) _ rfl (by (with_reducible repeat (first | refine blk_drewN ?_ _ | refine blk_drew ?_ | refine blk_alloc ?_ _)); refine puts11 (cs := #[.int .i64 0, .int .i64 0, .bool false, .bool false, .int .i64 0, .int .i64 0, .int .i64 0, .int .i64 0, .int .i64 0, .slice none 0 0, .slice none 0 0]) rfl ?_; (with_reducible repeat (first | refine blk_drewN ?_ _ | refine blk_drew ?_ | refine blk_alloc ?_ _)); exact BK101.out) Try.underlying55 rfl (by kernel_rfl)) rfl ?_
  exact ⟨_, _, eqW, by first | exact Kd.R_nil _ _ _ _ _ | exact Kd.N_nil _ _ _ _ _ | exact Kd.V_nil _ _ _ _ _ | exact Kd.Q_nil _ _ _ _ _ | exact Kd.S_nil _ _ _ _ _, by first | exact Kd.R_nil _ _ _ _ _ | exact Kd.N_nil _ _ _ _ _ | exact Kd.V_nil _ _ _ _ _ | exact Kd.Q_nil _ _ _ _ _ | exact Kd.S_nil _ _ _ _ _, by repeat (first | (with_reducible first | exact HB.out | apply below_alloc | apply pw_below_drewN | apply below_drew1 | refine below_set ?_ GE101.out) | exact HB.out)⟩
 ·rw [if_neg c2] at H
  have c2b0 : decide ((a0.size : Int) < 4) = false := decide_eq_false c2
  have c2b1 : decide (a0.size < 4) = false := decide_eq_false (by omega)
  clear c2
  by_cases c5 : 0 ≤ 4
  ·rw [if_pos c5] at H
   have c5b0 := eq_true c5
   have c5b1 : decide (0 ≤ 4) = true := decide_eq_true c5
   clear c5
   by_cases c6 : 4 ≤ (a0.size : Int)
   ·rw [if_pos c6] at H
    have c6b0 := eq_true c6
    have c6b1 : decide (4 ≤ (a0.size : Int)) = true := decide_eq_true c6
    clear c6
    replace H := Option.bind_eq_some_iff.mp H
    obtain ⟨t102, A70, H⟩ := H
    try dsimp only at H
    have A7 := aq A70
    clear A70
    have c8b0 := eq_true (of_decide_eq_true (by first | (with_reducible assumption) | assumption) : 4 ≤ (a0.size : Int))
    obtain ⟨y103, hy103⟩ : ∃ y_ : List ByteArray, y_ = (([a0.extract 4 a0.size] : List ByteArray)) := ⟨_, rfl⟩
    replace H : ((sum_Of.f y103).bind fun t106 => (if t102 = (IntKind.u64.wrap (t106)) then ((newScan.f (a0.extract 4 a0.size) false).bind fun bt107 => ((note_scan_int.f bt107.1 bt107.2).bind fun bt110 => ((noteShape.f bt110.1 0 false false 0 0 0 0 0 ([] : List (S33)) ([] : List (S65))).bind fun bt114 => (if bt114.1 = true then ((note_scan_int.f bt110.2.1 bt110.2.2).bind fun bt123 => (note_Decode.j0 k bt123.2.1 bt123.2.2 bt110.1 bt123.1 false false 0 0 0 0 0 bt114.1 bt114.2.1 bt114.2.2.1 bt114.2.2.2.1 bt114.2.2.2.2.1 bt114.2.2.2.2.2.1 bt114.2.2.2.2.2.2.1)) else (note_Decode.j0 k bt110.2.1 bt110.2.2 bt110.1 0 false false 0 0 0 0 0 bt114.1 bt114.2.1 bt114.2.2.1 bt114.2.2.2.1 bt114.2.2.2.2.1 bt114.2.2.2.2.2.1 bt114.2.2.2.2.2.2.1))))) else (some (0, 0, false, false, 0, 0, 0, 0, 0, ([] : List (S33)), ([] : List (S65)), 20)))) = some (r1, r2, r3, r4, r5, r6, r7, r8, r9, r10, r11, r12) := by first | (rw [hy103]; with_reducible exact H) | (have H2_ := (Option.bind_some _ _).symm.trans H; rw [hy103]; with_reducible exact H2_) | (have H2_ := (Option.bind_some _ _).symm.trans H; with_reducible exact H2_) | with_reducible exact H | (rw [hy103]; exact H) | exact H
    have Ny103 := aq hy103
    clear hy103
    replace H := Option.bind_eq_some_iff.mp H
    obtain ⟨t106, A90, H⟩ := H
    try dsimp only at H
    have A9 := aq A90
    clear A90
    by_cases c10 : t102 = (IntKind.u64.wrap (t106))
    ·rw [if_pos c10] at H
     have c10b0 : (t102 == (IntKind.u64.wrap (t106))) = true := beq_iff_eq.mpr c10
     have c10b1 : (t102 != (IntKind.u64.wrap (t106))) = false := bne_eq_false_iff_eq.mpr c10
     clear c10
     have c11b0 := eq_true (of_decide_eq_true (by first | (with_reducible assumption) | assumption) : 4 ≤ (a0.size : Int))
     replace H := Option.bind_eq_some_iff.mp H
     obtain ⟨⟨t107, t108⟩, A120, H⟩ := H
     try dsimp only at H
     have A12 := aq A120
     clear A120
     replace H := Option.bind_eq_some_iff.mp H
     obtain ⟨⟨t110, t111, t112⟩, A130, H⟩ := H
     try dsimp only at H
     have A13 := aq A130
     clear A130
     replace H := Option.bind_eq_some_iff.mp H
     obtain ⟨⟨t114, t115, t116, t117, t118, t119, t120, t121⟩, A140, H⟩ := H
     try dsimp only at H
     have A14 := aq A140
     clear A140
     have HC15 := aq H
     clear H
     go_enter Try.func47, Try.ntmps47
     try go_wp2_with (first | ((with_reducible refine gate_dst (N := 2) rfl ?_); refine box_event ?hg (N := 2) ?hd (cs := #[.int .i64 0, .int .i64 0, .bool false, .bool false, .int .i64 0, .int .i64 0, .int .i64 0, .int .i64 0, .int .i64 0, .slice none 0 0, .slice none 0 0]) (t := 55) ?hr ?_; (case hd => rfl); (case hg => rfl); (case hr => first | (go_simp; done) | (go_simp; rfl)); intro gb101 hg w16 hbox hb; have n0_ := aq (below_step (stH HB) hb); have n1_ := aq (hbox); have n2_ := aq ((by rw [hg]; exact (below_size (stH HB)) : w.heap.size ≤ gb101)); have n3_ := aq ((by rw [hg]; exact (below_size (stH HB)) : w.heap.size ≤ gb101)); replace HB := n0_; have BK101 := n1_; have GW101 := n2_; have GE101 := n3_; clear n0_ n1_ n2_ n3_; clear hb hbox hg))
     have n0_ := aq (blk_drew BK101.out)
     have n1_ := aq (below_drew1 HB.out)
     clear BK101
     clear HB
     have BK101 := n0_
     have HB := n1_
     clear n0_ n1_
     refine start_ (n := 10) (S := fun w' => True) (ds := []) #[false, false, false, false, false, false, false, false, false, false] (by kernel_rfl) rfl rfl trivial (fun hHeld => ?_); refine with_tabW note_Decode.tab3 note_Decode.bits3 (fun HT_ HW_ => ?_)
     generalize w16.drew = w17 at BK101 HB hHeld ⊢
     refine pure_ (i := 0) (N := some 16) (v := ?_) (a' := ?_) #[true, false, false, false, false, false, false, false, false, false] rfl rfl (any_of HT_.out (by kernel_rfl)) (fun _ _ _ h => h) (Or.inl ⟨by rfl, ?_⟩) ?_ ?_
     rotate_left
     ·intro w'
      go_simp
      with_reducible rfl
     rotate_left
     ·simp only [Act.put, List.setIfInBounds_toArray, List.set_cons_zero, List.set_cons_succ, i64_w, i32_w]
      rfl
     refine pure_ (i := 3) (N := some 19) (v := ?_) (a' := ?_) #[true, false, false, true, false, false, false, false, false, false] rfl rfl (any_of HT_.out (by kernel_rfl)) (fun _ _ _ h => h) (Or.inl ⟨by rfl, ?_⟩) ?_ ?_
     rotate_left
     ·intro w'
      go_simp
      with_reducible rfl
     rotate_left
     ·simp only [Act.put, List.setIfInBounds_toArray, List.set_cons_zero, List.set_cons_succ, i64_w, i32_w]
      rfl
     refine inv_at [1, 2, 4, 5, 6, 7, 8, 9] (fun a0_ b a w' => ∃ (v104 : Value), a = putSel a0_ b [(1, 17, .string (a0.extract 0 4)), (2, 18, .int .u64 t102), (4, 20, .string (a0.extract 4 a0.size)), (5, 21, v104), (6, 22, .int .u32 t106), (7, 23, .int .u64 (IntKind.u64.wrap (t106))), (8, 24, .bool (t102 != (IntKind.u64.wrap (t106)))), (9, 15, .bool (t102 != (IntKind.u64.wrap (t106))))] ∧ (w'.heap[gb101]? = some (.cells #[.int .i64 0, .int .i64 0, .bool false, .bool false, .int .i64 0, .int .i64 0, .int .i64 0, .int .i64 0, .int .i64 0, .slice none 0 0, .slice none 0 0] 55 (0, 0))) ∧ (Below w.heap.size w w') ∧ (b 5 = true → Kd.R Kd.string 9 w' w.heap.size (fun _ => True) v104 y103)) HT_.out HW_.out (by kernel_rfl) (by kernel_rfl) ?_ ?_ ?_
     ·exact ⟨.bool false, by simp only [putSel, Bool.false_eq_true, if_false], BK101.out, HB.out, fun h_ => absurd h_ (by decide)⟩
     ·skip
      clear BK101 HB
      refine steps_cons ?_ ?_
      ·rintro b a w' ⟨v104, ha, Q_BK101, Q_HB, Q_HO105⟩ hb_ hon hoff
       refine ⟨_, rfl, fun K hK => ?_⟩
       have e16 : a.tmps[16]? = some (.string a0) := by rw [ha]; exact (putSel_off rfl).trans rfl
       replace ha := aq ha
       have BK101 := aq Q_BK101
       have HB := aq Q_HB
       refine value_ (w1 := w') (v := .string (a0.extract 0 4)) (by rfl) rfl ?_ ?_
       ·go_simp
        (try simp only [i64_w])
        try rfl
       refine hK.out _ _ ⟨v104, (by rw [ha.out]; exact putSel_upk 0 hb_ rfl rfl rfl), Q_BK101, Q_HB, Q_HO105⟩
      refine steps_cons ?_ ?_
      ·rintro b a w' ⟨v104, ha, Q_BK101, Q_HB, Q_HO105⟩ hb_ hon hoff
       refine ⟨_, rfl, fun K hK => ?_⟩
       have e17 : a.tmps[17]? = some (.string (a0.extract 0 4)) := by rw [ha]; exact putSel_on (e := (1, 17, .string (a0.extract 0 4))) 0 rfl rfl (hon 1 (by kernel_rfl)) rfl
       replace ha := aq ha
       have BK101 := aq Q_BK101
       have HB := aq Q_HB
       refine goes_ Try.func86 (by kernel_rfl) rfl #[.string (a0.extract 0 4)] (by rfl) rfl rfl (by first | (simp only [List.map_toArray, List.map_cons, List.map_nil, Act.eval, Array.getD_eq_getD_getElem?, Option.getD_some, e17]; done) | (simp only [List.map_toArray, List.map_cons, List.map_nil, Act.eval, Array.getD_eq_getD_getElem?, Option.getD_some, e17]; rfl)) ?_
       with_reducible refine (high_Get.calls (a0.extract 0 4) t102 _ A7.out).mono ?_
       rintro e w18 ⟨rfl, hb⟩
       refine ⟨_, rfl, ?_⟩
       have n0_ := aq (blk_below (stB BK101) hb)
       have n1_ := aq (below_step (stH HB) hb)
       have z_HO105 := fun (h0_ : b 5 = true) => (show Kd.R Kd.string 9 w18 w.heap.size (fun _ => True) v104 y103 from by first | exact (Kd.R_below (by (with_reducible repeat (first | apply Kd.R_alloc | apply Kd.R_drewN | apply Kd.R_drew)); exact (Q_HO105 h0_)) hb) | exact Kd.R_mono (Kd.R_below (by (with_reducible repeat (first | apply Kd.R_alloc | apply Kd.R_drewN | apply Kd.R_drew)); exact (Q_HO105 h0_)) hb) (fun _ h_ => by first | trivial | exact h_ | exact h_.1))
       clear BK101
       clear HB
       have BK101 := n0_
       have HB := n1_
       clear n0_ n1_
       (try clear hb)
       (try clear hb2)
       (try clear hk)
       (try clear hi)
       refine hK.out _ _ ⟨v104, (by rw [ha.out]; exact putSel_upk 1 hb_ rfl rfl rfl), (stB BK101), (stH HB), z_HO105⟩
      refine steps_cons ?_ ?_
      ·rintro b a w' ⟨v104, ha, Q_BK101, Q_HB, Q_HO105⟩ hb_ hon hoff
       refine ⟨_, rfl, fun K hK => ?_⟩
       have e19 : a.tmps[19]? = some (.string a0) := by rw [ha]; exact (putSel_off rfl).trans rfl
       replace ha := aq ha
       have BK101 := aq Q_BK101
       have HB := aq Q_HB
       refine value_ (w1 := w') (v := .string (a0.extract 4 a0.size)) (by rfl) rfl ?_ ?_
       ·go_simp
        (try simp only [i64_w])
        try rfl
       refine hK.out _ _ ⟨v104, (by rw [ha.out]; exact putSel_upk 2 hb_ rfl rfl rfl), Q_BK101, Q_HB, fun h0_ => absurd ((hoff 5 (by kernel_rfl)).symm.trans h0_) (by decide)⟩
      refine steps_cons ?_ ?_
      ·rintro b a w' ⟨v104, ha, Q_BK101, Q_HB, Q_HO105⟩ hb_ hon hoff
       refine ⟨_, rfl, fun K hK => ?_⟩
       have e20 : a.tmps[20]? = some (.string (a0.extract 4 a0.size)) := by rw [ha]; exact putSel_on (e := (4, 20, .string (a0.extract 4 a0.size))) 2 rfl rfl (hon 4 (by kernel_rfl)) rfl
       replace ha := aq ha
       have BK101 := aq Q_BK101
       have HB := aq Q_HB
       refine Kd.R_lit_step Kd.string _ 9 ?hg (N := 21) ?hd (xs := ([a0.extract 4 a0.size] : List ByteArray)) (inner := [.string (a0.extract 4 a0.size)]) (ok := fun _ => True) (okp := fun _ => True) ?hr ?hp (fun _ hk => hk) trivial (Below.refl _ _) (Nat.le_refl _) (by simp) ?_; (case hd => rfl); (case hg => rfl); (case hr => first | (go_simp; done) | (go_simp; rfl)); (case hp => exact (Reps.one (show Kd.M Kd.string _ _ _ (a0.extract 4 a0.size) [.string (a0.extract 4 a0.size)] from rfl) (Reps.none _ _)))
       intro v104 w18 ho19 hb hg_ hnew_
       clear hg_ hnew_
       (first | rw [← Ny103.out] at ho19 | (simp only [Int.reduceToNat] at ho19; rw [← Ny103.out] at ho19))
       have n0_ := aq (Kd.R_lower ho19 (below_size (stH HB)))
       have n1_ := aq (blk_below (stB BK101) hb)
       have n2_ := aq (below_step (stH HB) hb)
       clear BK101
       clear HB
       have HO105 := n0_
       have BK101 := n1_
       have HB := n2_
       clear n0_ n1_ n2_
       clear hb ho19
       refine hK.out _ _ ⟨v104, (by rw [ha.out]; exact putSel_upk 3 hb_ rfl rfl rfl), (stB BK101), (stH HB), fun _ => (by (with_reducible repeat (first | apply Kd.R_alloc | apply Kd.R_drewN | apply Kd.R_drew)); exact HO105.out)⟩
      refine steps_cons ?_ ?_
      ·rintro b a w' ⟨v104, ha, Q_BK101, Q_HB, Q_HO105⟩ hb_ hon hoff
       refine ⟨_, rfl, fun K hK => ?_⟩
       have e21 : a.tmps[21]? = some (v104) := by rw [ha]; exact putSel_on (e := (5, 21, v104)) 3 rfl rfl (hon 5 (by kernel_rfl)) rfl
       replace ha := aq ha
       have BK101 := aq Q_BK101
       have HB := aq Q_HB
       have HO105 := aq (Q_HO105 (hon 5 (by kernel_rfl)))
       obtain ⟨Ao22, co22, eo22⟩ := Kd.R_slice HO105.out
       (first | subst eo22 | (injection eo22 with f1_ f2_ f3_; have f4_ := f1_.symm; have f5_ := f3_.symm; clear f1_ f2_ f3_; subst f4_; subst f5_))
       refine goes_ Try.func46 (by kernel_rfl) rfl #[.slice Ao22 y103.length co22] (by rfl) rfl rfl (by first | (simp only [List.map_toArray, List.map_cons, List.map_nil, Act.eval, Array.getD_eq_getD_getElem?, Option.getD_some, e21]; done) | (simp only [List.map_toArray, List.map_cons, List.map_nil, Act.eval, Array.getD_eq_getD_getElem?, Option.getD_some, e21]; rfl)) ?_
       with_reducible refine (sum_Of.calls _ _ y103 t106 _ ?side1 ?side2 A9.out).mono ?_
       (case side1 => repeat (first | exact (Kd.R_reads' HO105.out).2.2 | (with_reducible refine Kd.C_alloc ?_ _) | (with_reducible refine Kd.C_drewN ?_ _) | (with_reducible refine Kd.C_drew ?_)))
       (case side2 => exact (Kd.R_reads' HO105.out).2.1)
       rintro e w23 ⟨rfl, hb⟩
       refine ⟨_, rfl, ?_⟩
       have n0_ := aq (Kd.R_below (by (with_reducible repeat (first | apply Kd.R_alloc | apply Kd.R_drewN | apply Kd.R_drew)); exact HO105.out) hb)
       have n1_ := aq (blk_below (stB BK101) hb)
       have n2_ := aq (below_step (stH HB) hb)
       clear HO105
       clear BK101
       clear HB
       have HO105 := n0_
       have BK101 := n1_
       have HB := n2_
       clear n0_ n1_ n2_
       (try clear hb)
       (try clear hb2)
       (try clear hk)
       (try clear hi)
       refine hK.out _ _ ⟨.slice Ao22 y103.length co22, (by rw [ha.out]; exact putSel_upk 4 hb_ rfl rfl rfl), (stB BK101), (stH HB), fun _ => (by (with_reducible repeat (first | apply Kd.R_alloc | apply Kd.R_drewN | apply Kd.R_drew)); exact HO105.out)⟩
      refine steps_cons ?_ ?_
      ·rintro b a w' ⟨v104, ha, Q_BK101, Q_HB, Q_HO105⟩ hb_ hon hoff
       refine ⟨_, rfl, fun K hK => ?_⟩
       have e22 : a.tmps[22]? = some (.int .u32 t106) := by rw [ha]; exact putSel_on (e := (6, 22, .int .u32 t106)) 4 rfl rfl (hon 6 (by kernel_rfl)) rfl
       replace ha := aq ha
       have BK101 := aq Q_BK101
       have HB := aq Q_HB
       have HO105 := aq (Q_HO105 (hon 5 (by kernel_rfl)))
       refine value_ (w1 := w') (v := .int .u64 (IntKind.u64.wrap (t106))) (by rfl) rfl ?_ ?_
       ·go_simp
        (try simp only [i64_w])
        try rfl
       refine hK.out _ _ ⟨v104, (by rw [ha.out]; exact putSel_upk 5 hb_ rfl rfl rfl), Q_BK101, Q_HB, Q_HO105⟩
      refine steps_cons ?_ ?_
      ·rintro b a w' ⟨v104, ha, Q_BK101, Q_HB, Q_HO105⟩ hb_ hon hoff
       refine ⟨_, rfl, fun K hK => ?_⟩
       have e18 : a.tmps[18]? = some (.int .u64 t102) := by rw [ha]; exact putSel_on (e := (2, 18, .int .u64 t102)) 1 rfl rfl (hon 2 (by kernel_rfl)) rfl
       have e23 : a.tmps[23]? = some (.int .u64 (IntKind.u64.wrap (t106))) := by rw [ha]; exact putSel_on (e := (7, 23, .int .u64 (IntKind.u64.wrap (t106)))) 5 rfl rfl (hon 7 (by kernel_rfl)) rfl
       replace ha := aq ha
       have BK101 := aq Q_BK101
       have HB := aq Q_HB
       have HO105 := aq (Q_HO105 (hon 5 (by kernel_rfl)))
       refine value_ (w1 := w') (v := .bool (t102 != (IntKind.u64.wrap (t106)))) (by rfl) rfl ?_ ?_
       ·go_simp
        (try simp only [i64_w])
        try rfl
       refine hK.out _ _ ⟨v104, (by rw [ha.out]; exact putSel_upk 6 hb_ rfl rfl rfl), Q_BK101, Q_HB, Q_HO105⟩
      refine steps_cons ?_ ?_
      ·rintro b a w' ⟨v104, ha, Q_BK101, Q_HB, Q_HO105⟩ hb_ hon hoff
       refine ⟨_, rfl, fun K hK => ?_⟩
       have e24 : a.tmps[24]? = some (.bool (t102 != (IntKind.u64.wrap (t106)))) := by rw [ha]; exact putSel_on (e := (8, 24, .bool (t102 != (IntKind.u64.wrap (t106))))) 6 rfl rfl (hon 8 (by kernel_rfl)) rfl
       replace ha := aq ha
       have BK101 := aq Q_BK101
       have HB := aq Q_HB
       have HO105 := aq (Q_HO105 (hon 5 (by kernel_rfl)))
       refine value_ (w1 := w') (v := .bool (t102 != (IntKind.u64.wrap (t106)))) (by rfl) rfl ?_ ?_
       ·go_simp
        (try simp only [i64_w])
        try rfl
       refine hK.out _ _ ⟨v104, (by rw [ha.out]; exact putSel_upk 7 hb_ rfl rfl rfl), Q_BK101, Q_HB, Q_HO105⟩
      exact steps_nil
     rintro b a w23 hall ⟨v104, ha, Q_BK101, Q_HB, Q_HO105⟩
     clear BK101 HB
     have hb1_ := hall 1 (by kernel_rfl)
     have hb2_ := hall 2 (by kernel_rfl)
     have hb4_ := hall 4 (by kernel_rfl)
     have hb5_ := hall 5 (by kernel_rfl)
     have hb6_ := hall 6 (by kernel_rfl)
     have hb7_ := hall 7 (by kernel_rfl)
     have hb8_ := hall 8 (by kernel_rfl)
     have hb9_ := hall 9 (by kernel_rfl)
     subst ha
     simp only [putSel, hb1_, hb2_, hb4_, hb5_, hb6_, hb7_, hb8_, hb9_, if_true, Act.put, List.setIfInBounds_toArray, List.set_cons_zero, List.set_cons_succ]
     have BK101 := aq Q_BK101
     clear Q_BK101
     have HB := aq Q_HB
     clear Q_HB
     have HO105 := aq (Q_HO105 hb5_)
     clear Q_HO105
     clear hall hb1_ hb2_ hb4_ hb5_ hb6_ hb7_ hb8_ hb9_
     go_upto_if 39 with (first | ((with_reducible refine gate_dst (N := 29) rfl ?_); refine box_event ?hg (N := 29) ?hd (cs := #[.string (a0.extract 4 a0.size), .bool false]) (t := 104) ?hr ?_; (case hd => rfl); (case hg => rfl); (case hr => first | (go_simp; done) | (go_simp; rfl)); intro g109 hg w24 hbox hb2; have hb := below_step (stH HB) hb2; have hi := newScan.mk A12.out hbox ((by rw [hg]; exact below_size (stH HB) : w.heap.size ≤ g109)); clear hbox hg; have n0_ := aq (Kd.R_below (by (with_reducible repeat (first | apply Kd.R_alloc | apply Kd.R_drewN | apply Kd.R_drew)); exact HO105.out) hb2); have n1_ := aq (blk_below (stB BK101) hb2); have n2_ := aq (hb); have n3_ := aq (hi); have n4_ := aq (IsS104.ne_blk hi (blk_below (stB BK101) hb2) (by decide)); have n5_ := aq (Ne.symm (IsS104.ne_blk hi (blk_below (stB BK101) hb2) (by decide))); replace HO105 := n0_; replace BK101 := n1_; replace HB := n2_; have HI109 := n3_; have NB109_101 := n4_; have NB101_109 := n5_; clear n0_ n1_ n2_ n3_ n4_ n5_; (try clear hb); (try clear hb2); (try clear hi)) | ((with_reducible refine gate_callee (f := 87) rfl ?_); refine goesL_ (some 31) rfl rfl Try.func87 (by kernel_rfl) rfl #[.pointer (some ⟨g109, 0, none⟩)] rfl fitR ?_; (with_reducible refine (note_scan_int.calls g109 t107 t108 t110 t111 t112 w _ ?side1 ?side2 A13.out).mono ?_); (case side1 => repeat (first | (with_reducible first | exact HI109.out | apply IsS104.alloc | apply IsS104.drewN | apply IsS104.drew | apply IsS104.set_0 | apply IsS104.set_1 | refine IsS104.far ?_ NB109_101.out _) | exact HI109.out)); (case side2 => repeat (first | (with_reducible first | exact HB.out | apply below_alloc | apply pw_below_drewN | apply below_drew1 | refine below_set ?_ (IsS104.ge HI109.out) | refine below_set ?_ GE101.out) | exact HB.out)); rintro e w25 ⟨rfl, hi, hb, hk⟩; refine ⟨_, rfl, ?_⟩; have n0_ := aq (KeepBut.blk hk (stB BK101) NB101_109.out (by simp)); have n1_ := aq (Kd.R_mono (Kd.R_keep (IsS104.apart (show IsS104 w _ g109 t107 t108 from by repeat (first | (with_reducible first | exact HI109.out | apply IsS104.alloc | apply IsS104.drewN | apply IsS104.drew | apply IsS104.set_0 | apply IsS104.set_1 | refine IsS104.far ?_ NB109_101.out _) | exact HI109.out)) (by (with_reducible repeat (first | apply Kd.R_alloc | apply Kd.R_drewN | apply Kd.R_drew)); exact HO105.out) (by decide)) hk (fun _ h => h.2)) (fun _ h => h.1)); have n2_ := aq (hb); have n3_ := aq (hi); replace BK101 := n0_; replace HO105 := n1_; replace HB := n2_; replace HI109 := n3_; clear n0_ n1_ n2_ n3_; (try clear hb); (try clear hk); (try clear hi)) | ((with_reducible refine gate_dst (N := 5) rfl ?_); refine box_event ?hg (N := 5) ?hd (cs := #[.int .i64 0, .int .i64 0, .bool false, .bool false, .int .i64 0, .int .i64 0, .int .i64 0, .int .i64 0, .int .i64 0, .slice none 0 0, .slice none 0 0]) (t := 55) ?hr ?_; (case hd => rfl); (case hg => rfl); (case hr => first | (go_simp; done) | (go_simp; rfl)); intro gb113 hg w26 hbox hb; have n0_ := aq (Kd.R_below (by (with_reducible repeat (first | apply Kd.R_alloc | apply Kd.R_drewN | apply Kd.R_drew)); exact HO105.out) hb); have n1_ := aq (blk_below (stB BK101) hb); have n2_ := aq (IsS104.below (IsS104.st HI109) hb); have n3_ := aq (below_step (IsS104.stH HB) hb); have n4_ := aq (hbox); have n5_ := aq ((by rw [hg]; exact (below_size (IsS104.stH HB)) : w.heap.size ≤ gb113)); have n6_ := aq ((by rw [hg]; exact (below_size (IsS104.stH HB)) : w.heap.size ≤ gb113)); have n7_ := aq ((by rw [hg]; exact Nat.ne_of_lt (blk_lt (stB BK101)) : gb101 ≠ gb113)); have n8_ := aq ((by rw [hg]; exact Nat.ne_of_gt (blk_lt (stB BK101)) : gb113 ≠ gb101)); have n9_ := aq ((by rw [hg]; exact Nat.ne_of_lt (IsS104.lt (show IsS104 w _ g109 t111 t112 from by repeat (first | (with_reducible first | exact HI109.out | apply IsS104.alloc | apply IsS104.drewN | apply IsS104.drew | apply IsS104.set_0 | apply IsS104.set_1 | refine IsS104.far ?_ NB109_101.out _) | exact HI109.out))) : g109 ≠ gb113)); have n10_ := aq ((by rw [hg]; exact Nat.ne_of_gt (IsS104.lt (show IsS104 w _ g109 t111 t112 from by repeat (first | (with_reducible first | exact HI109.out | apply IsS104.alloc | apply IsS104.drewN | apply IsS104.drew | apply IsS104.set_0 | apply IsS104.set_1 | refine IsS104.far ?_ NB109_101.out _) | exact HI109.out))) : gb113 ≠ g109)); replace HO105 := n0_; replace BK101 := n1_; replace HI109 := n2_; replace HB := n3_; have BK113 := n4_; have GW113 := n5_; have GE113 := n6_; have NB101_113 := n7_; have NB113_101 := n8_; have NB109_113 := n9_; have NB113_109 := n10_; clear n0_ n1_ n2_ n3_ n4_ n5_ n6_ n7_ n8_ n9_ n10_; clear hb hbox hg; have hnb27 := NB113_101.out; have hnc27 := NB101_113.out; have hnb28 := NB113_109.out; have hnc28 := NB109_113.out; obtain ⟨k29a, k29b, k29c, k29d, k29e, k29f, k29g, k29h, k29i, k29j, k29k⟩ := cl11 (W := w26) BK113.out; obtain ⟨u29a, u29b, u29c, u29d, u29e, u29f, u29g, u29h, u29i, u29j, u29k⟩ := fr11 BK113.out) | ((with_reducible refine gate_callee (f := 88) rfl ?_); refine goesL_ (some 35) rfl rfl Try.func88 (by kernel_rfl) rfl #[.agg #[.int .i64 t110, .int .i64 0, .bool false, .bool false, .int .i64 0, .int .i64 0, .int .i64 0, .int .i64 0, .int .i64 0, .slice none 0 0, .slice none 0 0]] rfl fitR ?_; (refine (noteShape.calls t110 0 false false 0 0 0 0 0 _ _ ([] : List (S33)) _ _ ([] : List (S65)) t114 t115 t116 t117 t118 t119 t120 t121 _ ?side1 ?side2 ?side3 ?side4 A14.out).mono ?_); (case side1 => exact Kd.C_nil _ _); (case side2 => exact Nat.le_refl _); (case side3 => exact Kd.C_nil _ _); (case side4 => exact Nat.le_refl _); rintro e w30 ⟨rfl, hb⟩; refine ⟨_, rfl, ?_⟩; have n0_ := aq (Kd.R_below (by (with_reducible repeat (first | apply Kd.R_alloc | apply Kd.R_drewN | apply Kd.R_drew)); exact (Kd.R_mono (Kd.R_far (p := ⟨gb113, 10, none⟩) (Kd.R_far (p := ⟨gb113, 9, none⟩) (Kd.R_far (p := ⟨gb113, 8, none⟩) (Kd.R_far (p := ⟨gb113, 7, none⟩) (Kd.R_far (p := ⟨gb113, 6, none⟩) (Kd.R_far (p := ⟨gb113, 5, none⟩) (Kd.R_far (p := ⟨gb113, 4, none⟩) (Kd.R_far (p := ⟨gb113, 3, none⟩) (Kd.R_far (p := ⟨gb113, 2, none⟩) (Kd.R_far (p := ⟨gb113, 1, none⟩) (Kd.R_far (p := ⟨gb113, 0, none⟩) (Kd.R_types HO105.out BK113.out (by decide)) (fun _ hk => hk.2) (.int .i64 t110)) (fun _ hk => hk.2) (.int .i64 0)) (fun _ hk => hk.2) (.bool false)) (fun _ hk => hk.2) (.bool false)) (fun _ hk => hk.2) (.int .i64 0)) (fun _ hk => hk.2) (.int .i64 0)) (fun _ hk => hk.2) (.int .i64 0)) (fun _ hk => hk.2) (.int .i64 0)) (fun _ hk => hk.2) (.int .i64 0)) (fun _ hk => hk.2) (.slice none 0 0)) (fun _ hk => hk.2) (.slice none 0 0)) (fun _ h_ => h_.1))) hb); have n1_ := aq (blk_below (g := gb101) (o := .cells #[.int .i64 0, .int .i64 0, .bool false, .bool false, .int .i64 0, .int .i64 0, .int .i64 0, .int .i64 0, .int .i64 0, .slice none 0 0, .slice none 0 0] 55 (0, 0)) (stF BK101) hb); have n2_ := aq (IsS104.below (show IsS104 w (((((((((((w26.setCell ⟨gb113, 0, none⟩ (.int .i64 t110)).setCell ⟨gb113, 1, none⟩ (.int .i64 0)).setCell ⟨gb113, 2, none⟩ (.bool false)).setCell ⟨gb113, 3, none⟩ (.bool false)).setCell ⟨gb113, 4, none⟩ (.int .i64 0)).setCell ⟨gb113, 5, none⟩ (.int .i64 0)).setCell ⟨gb113, 6, none⟩ (.int .i64 0)).setCell ⟨gb113, 7, none⟩ (.int .i64 0)).setCell ⟨gb113, 8, none⟩ (.int .i64 0)).setCell ⟨gb113, 9, none⟩ (.slice none 0 0)).setCell ⟨gb113, 10, none⟩ (.slice none 0 0)) g109 t111 t112 from by repeat (first | (with_reducible first | exact HI109.out | apply IsS104.alloc | apply IsS104.drewN | apply IsS104.drew | apply IsS104.set_0 | apply IsS104.set_1 | refine IsS104.far ?_ NB109_101.out _ | refine IsS104.far ?_ NB109_113.out _) | exact HI109.out)) hb); have n3_ := aq (blk_below (g := gb113) (o := .cells #[.int .i64 t110, .int .i64 0, .bool false, .bool false, .int .i64 0, .int .i64 0, .int .i64 0, .int .i64 0, .int .i64 0, .slice none 0 0, .slice none 0 0] 55 (0, 0)) (by (with_reducible repeat (first | refine blk_drewN ?_ _ | refine blk_drew ?_ | refine blk_alloc ?_ _)); refine puts11 (cs := #[.int .i64 0, .int .i64 0, .bool false, .bool false, .int .i64 0, .int .i64 0, .int .i64 0, .int .i64 0, .int .i64 0, .slice none 0 0, .slice none 0 0]) rfl ?_; (with_reducible repeat (first | refine blk_drewN ?_ _ | refine blk_drew ?_ | refine blk_alloc ?_ _)); exact BK113.out) hb); have n4_ := aq (below_step (IsS104.stH HB) hb); replace HO105 := n0_; replace BK101 := n1_; replace HI109 := n2_; replace BK113 := n3_; replace HB := n4_; clear n0_ n1_ n2_ n3_ n4_; (try clear hb); (try clear hk)) | ((with_reducible refine gate_dst (N := 6) rfl ?_); refine box_event ?hg (N := 6) ?hd (cs := #[.bool false, .bool false, .bool false, .bool false, .bool false, .bool false, .bool false]) (t := 107) ?hr ?_; (case hd => rfl); (case hg => rfl); (case hr => first | (go_simp; done) | (go_simp; rfl)); intro gb122 hg w31 hbox hb; have n0_ := aq (Kd.R_below (by (with_reducible repeat (first | apply Kd.R_alloc | apply Kd.R_drewN | apply Kd.R_drew)); exact HO105.out) hb); have n1_ := aq (blk_below (stB BK101) hb); have n2_ := aq (IsS104.below (IsS104.st HI109) hb); have n3_ := aq (blk_below (stB BK113) hb); have n4_ := aq (below_step (IsS104.stH HB) hb); have n5_ := aq (hbox); have n6_ := aq ((by rw [hg]; exact (below_size (IsS104.stH HB)) : w.heap.size ≤ gb122)); have n7_ := aq ((by rw [hg]; exact (below_size (IsS104.stH HB)) : w.heap.size ≤ gb122)); have n8_ := aq ((by rw [hg]; exact Nat.ne_of_lt (blk_lt (stB BK101)) : gb101 ≠ gb122)); have n9_ := aq ((by rw [hg]; exact Nat.ne_of_gt (blk_lt (stB BK101)) : gb122 ≠ gb101)); have n10_ := aq ((by rw [hg]; exact Nat.ne_of_lt (blk_lt (stB BK113)) : gb113 ≠ gb122)); have n11_ := aq ((by rw [hg]; exact Nat.ne_of_gt (blk_lt (stB BK113)) : gb122 ≠ gb113)); have n12_ := aq ((by rw [hg]; exact Nat.ne_of_lt (IsS104.lt (show IsS104 w _ g109 t111 t112 from by repeat (first | (with_reducible first | exact HI109.out | apply IsS104.alloc | apply IsS104.drewN | apply IsS104.drew | apply IsS104.set_0 | apply IsS104.set_1 | refine IsS104.far ?_ NB109_101.out _ | refine IsS104.far ?_ NB109_113.out _) | exact HI109.out))) : g109 ≠ gb122)); have n13_ := aq ((by rw [hg]; exact Nat.ne_of_gt (IsS104.lt (show IsS104 w _ g109 t111 t112 from by repeat (first | (with_reducible first | exact HI109.out | apply IsS104.alloc | apply IsS104.drewN | apply IsS104.drew | apply IsS104.set_0 | apply IsS104.set_1 | refine IsS104.far ?_ NB109_101.out _ | refine IsS104.far ?_ NB109_113.out _) | exact HI109.out))) : gb122 ≠ g109)); replace HO105 := n0_; replace BK101 := n1_; replace HI109 := n2_; replace BK113 := n3_; replace HB := n4_; have BK122 := n5_; have GW122 := n6_; have GE122 := n7_; have NB101_122 := n8_; have NB122_101 := n9_; have NB113_122 := n10_; have NB122_113 := n11_; have NB109_122 := n12_; have NB122_109 := n13_; clear n0_ n1_ n2_ n3_ n4_ n5_ n6_ n7_ n8_ n9_ n10_ n11_ n12_ n13_; clear hb hbox hg; have hnb32 := NB122_101.out; have hnc32 := NB101_122.out; have hnb33 := NB122_113.out; have hnc33 := NB113_122.out; have hnb34 := NB122_109.out; have hnc34 := NB109_122.out; obtain ⟨k35a, k35b, k35c, k35d, k35e, k35f, k35g⟩ := cl7 (W := w31) BK122.out; obtain ⟨u35a, u35b, u35c, u35d, u35e, u35f, u35g⟩ := fr7 BK122.out))
     (try simp only [Act.put, List.setIfInBounds_toArray, List.set_cons_zero, List.set_cons_succ])
     go_cut [] (fun wc => ∃ (kq : Nat) (x110000_14 : ByteArray) (x110001_14 : Bool) (x114001_14 : Int), Aside0 (note_Decode.j0 kq x110000_14 x110001_14 t110 x114001_14 false false 0 0 0 0 0 t114 t115 t116 t117 t118 t119 t120 = some (r1, r2, r3, r4, r5, r6, r7, r8, r9, r10, r11, r12)) ∧ Aside0 (kq ≤ k) ∧ Aside0 (wc.heap[gb101]? = some (.cells #[.int .i64 0, .int .i64 0, .bool false, .bool false, .int .i64 0, .int .i64 0, .int .i64 0, .int .i64 0, .int .i64 0, (.slice none 0 0), (.slice none 0 0)] 55 (0, 0))) ∧ Aside0 (wc.heap[gb113]? = some (.cells #[.int .i64 t110, .int .i64 x114001_14, .bool false, .bool false, .int .i64 0, .int .i64 0, .int .i64 0, .int .i64 0, .int .i64 0, (.slice none 0 0), (.slice none 0 0)] 55 (0, 0))) ∧ Aside0 (wc.heap[gb122]? = some (.cells #[.bool t114, .bool t115, .bool t116, .bool t117, .bool t118, .bool t119, .bool t120] 107 (0, 0))) ∧ Aside0 (IsS104 w wc g109 x110000_14 x110001_14) ∧ Aside0 (Below w.heap.size w wc))
     case first =>
      have H := HC15.out
      clear HC15
      by_cases c36 : t114 = true
      ·subst c36
       rw [if_pos rfl] at H
       replace H := Option.bind_eq_some_iff.mp H
       obtain ⟨⟨t123, t124, t125⟩, A370, H⟩ := H
       try dsimp only at H
       have A37 := aq A370
       clear A370
       have H' := aq H
       clear H
       go_wp2_with (first | ((with_reducible refine gate_callee (f := 87) rfl ?_); refine goesL_ (some 41) rfl rfl Try.func87 (by kernel_rfl) rfl #[.pointer (some ⟨g109, 0, none⟩)] rfl fitR ?_; (with_reducible refine (note_scan_int.calls g109 t111 t112 t123 t124 t125 w _ ?side1 ?side2 A37.out).mono ?_); (case side1 => repeat (first | (with_reducible first | exact HI109.out | apply IsS104.alloc | apply IsS104.drewN | apply IsS104.drew | apply IsS104.set_0 | apply IsS104.set_1 | refine IsS104.far ?_ NB109_101.out _ | refine IsS104.far ?_ NB109_113.out _ | refine IsS104.far ?_ NB109_122.out _) | exact HI109.out)); (case side2 => repeat (first | (with_reducible first | exact HB.out | apply below_alloc | apply pw_below_drewN | apply below_drew1 | refine below_set ?_ (IsS104.ge HI109.out) | refine below_set ?_ GE101.out | refine below_set ?_ GE113.out | refine below_set ?_ GE122.out) | exact HB.out)); rintro e w38 ⟨rfl, hi, hb, hk⟩; refine ⟨_, rfl, ?_⟩; have n0_ := aq (KeepBut.blk hk (g' := gb101) (o := .cells #[.int .i64 0, .int .i64 0, .bool false, .bool false, .int .i64 0, .int .i64 0, .int .i64 0, .int .i64 0, .int .i64 0, .slice none 0 0, .slice none 0 0] 55 (0, 0)) (stF BK101) NB101_109.out (by simp)); have n1_ := aq (Kd.R_mono (Kd.R_keep (IsS104.apart (show IsS104 w _ g109 t111 t112 from by repeat (first | (with_reducible first | exact HI109.out | apply IsS104.alloc | apply IsS104.drewN | apply IsS104.drew | apply IsS104.set_0 | apply IsS104.set_1 | refine IsS104.far ?_ NB109_101.out _ | refine IsS104.far ?_ NB109_113.out _ | refine IsS104.far ?_ NB109_122.out _) | exact HI109.out)) (by (with_reducible repeat (first | apply Kd.R_alloc | apply Kd.R_drewN | apply Kd.R_drew)); exact (Kd.R_mono (Kd.R_far (p := ⟨gb122, 6, none⟩) (Kd.R_far (p := ⟨gb122, 5, none⟩) (Kd.R_far (p := ⟨gb122, 4, none⟩) (Kd.R_far (p := ⟨gb122, 3, none⟩) (Kd.R_far (p := ⟨gb122, 2, none⟩) (Kd.R_far (p := ⟨gb122, 1, none⟩) (Kd.R_far (p := ⟨gb122, 0, none⟩) (Kd.R_types HO105.out BK122.out (by decide)) (fun _ hk => hk.2) (.bool true)) (fun _ hk => hk.2) (.bool t115)) (fun _ hk => hk.2) (.bool t116)) (fun _ hk => hk.2) (.bool t117)) (fun _ hk => hk.2) (.bool t118)) (fun _ hk => hk.2) (.bool t119)) (fun _ hk => hk.2) (.bool t120)) (fun _ h_ => h_.1))) (by decide)) hk (fun _ h => h.2)) (fun _ h => h.1)); have n2_ := aq (KeepBut.blk hk (g' := gb113) (o := .cells #[.int .i64 t110, .int .i64 0, .bool false, .bool false, .int .i64 0, .int .i64 0, .int .i64 0, .int .i64 0, .int .i64 0, .slice none 0 0, .slice none 0 0] 55 (0, 0)) (stF BK113) NB113_109.out (by simp)); have n3_ := aq (KeepBut.blk hk (g' := gb122) (o := .cells #[.bool true, .bool t115, .bool t116, .bool t117, .bool t118, .bool t119, .bool t120] 107 (0, 0)) (by (with_reducible repeat (first | refine blk_drewN ?_ _ | refine blk_drew ?_ | refine blk_alloc ?_ _)); refine puts7 (cs := #[.bool false, .bool false, .bool false, .bool false, .bool false, .bool false, .bool false]) rfl ?_; (with_reducible repeat (first | refine blk_drewN ?_ _ | refine blk_drew ?_ | refine blk_alloc ?_ _)); exact BK122.out) NB122_109.out (by simp)); have n4_ := aq (hb); have n5_ := aq (hi); replace BK101 := n0_; replace HO105 := n1_; replace BK113 := n2_; replace BK122 := n3_; replace HB := n4_; replace HI109 := n5_; clear n0_ n1_ n2_ n3_ n4_ n5_; (try clear hb); (try clear hk); (try clear hi); have hnb39 := NB113_101.out; have hnc39 := NB101_113.out; have hnb40 := NB113_122.out; have hnc40 := NB122_113.out; have hnb41 := NB113_109.out; have hnc41 := NB109_113.out; obtain ⟨k42a, k42b, k42c, k42d, k42e, k42f, k42g, k42h, k42i, k42j, k42k⟩ := cl11 (W := w38) BK113.out; obtain ⟨u42a, u42b, u42c, u42d, u42e, u42f, u42g, u42h, u42i, u42j, u42k⟩ := fr11 BK113.out))
       go_meet
       case rel => exact ⟨_, (t124), (t125), (t123), H', ⟨by first | omega | exact Nat.le_refl _⟩, ⟨stF BK101⟩, ⟨by (with_reducible repeat (first | refine blk_drewN ?_ _ | refine blk_drew ?_ | refine blk_alloc ?_ _)); refine blk_put (cs := #[.int .i64 t110, .int .i64 0, .bool false, .bool false, .int .i64 0, .int .i64 0, .int .i64 0, .int .i64 0, .int .i64 0, .slice none 0 0, .slice none 0 0]) ?_ 1 _ rfl; (with_reducible repeat (first | refine blk_drewN ?_ _ | refine blk_drew ?_ | refine blk_alloc ?_ _)); exact BK113.out⟩, ⟨stF BK122⟩, ⟨IsS104.st HI109⟩, ⟨IsS104.stH HB⟩⟩
      ·replace c36 := Bool.eq_false_iff.mpr c36
       subst c36
       rw [if_neg (show ¬ (false = true) by decide)] at H
       have H' := aq H
       clear H
       go_wp2
       go_meet
       case rel => exact ⟨_, (t111), (t112), (0), H', ⟨by first | omega | exact Nat.le_refl _⟩, ⟨stF BK101⟩, ⟨stF BK113⟩, ⟨by (with_reducible repeat (first | refine blk_drewN ?_ _ | refine blk_drew ?_ | refine blk_alloc ?_ _)); refine puts7 (cs := #[.bool false, .bool false, .bool false, .bool false, .bool false, .bool false, .bool false]) rfl ?_; (with_reducible repeat (first | refine blk_drewN ?_ _ | refine blk_drew ?_ | refine blk_alloc ?_ _)); exact BK122.out⟩, ⟨IsS104.st HI109⟩, ⟨IsS104.stH HB⟩⟩
     case rest =>
      clear HC15
      try clear k29a k29b k29c k29d k29e k29f k29g k29h k29i k29j k29k
      try clear u29a u29b u29c u29d u29e u29f u29g u29h u29i u29j u29k
      try clear k35a k35b k35c k35d k35e k35f k35g
      try clear u35a u35b u35c u35d u35e u35f u35g
      try clear c1
      try clear c2
      try clear c2b0
      try clear c2b1
      try clear p2
      try clear c3
      try clear c4
      try clear c5
      try clear c5b0
      try clear c5b1
      try clear c6
      try clear c6b0
      try clear c6b1
      try clear c8
      try clear c8b0
      try clear c9
      try clear c10
      try clear c10b0
      try clear c10b1
      try clear c11
      try clear c11b0
      try clear c27
      try clear c28
      try clear c32
      try clear c33
      try clear c34
      try clear c36
      try clear c39
      try clear c40
      try clear c41
      obtain ⟨kq, x110000_14, x110001_14, x114001_14, HA, HJ14, BK101, BK113, BK122, HI109, HB⟩ := hcut
      cases kq with
      | zero => exact absurd HA.out (by simp [note_Decode.j0])
      | succ kj14 =>
       have H := HA.out
       clear HA
       simp only [note_Decode.j0] at H
       have HC43 := aq H
       clear H
       have hnb44 := NB122_101.out
       have hnc44 := NB101_122.out
       have hnb45 := NB122_113.out
       have hnc45 := NB113_122.out
       have hnb46 := NB122_109.out
       have hnc46 := NB109_122.out
       obtain ⟨k47a, k47b, k47c, k47d, k47e, k47f, k47g⟩ := cl7 (W := wc) BK122.out
       obtain ⟨u47a, u47b, u47c, u47d, u47e, u47f, u47g⟩ := fr7 BK122.out
       go_upto_if 44 with (fail)
       go_cut [] (fun wc => ∃ (kq : Nat) (x110000_42 : ByteArray) (x110001_42 : Bool) (x114002_42 : Bool), Aside0 (note_Decode.j1 kq x110000_42 x110001_42 t110 x114001_14 x114002_42 false 0 0 0 0 0 t114 t115 t116 t117 t118 t119 t120 = some (r1, r2, r3, r4, r5, r6, r7, r8, r9, r10, r11, r12)) ∧ Aside0 (kq ≤ kj14) ∧ Aside0 (wc.heap[gb101]? = some (.cells #[.int .i64 0, .int .i64 0, .bool false, .bool false, .int .i64 0, .int .i64 0, .int .i64 0, .int .i64 0, .int .i64 0, (.slice none 0 0), (.slice none 0 0)] 55 (0, 0))) ∧ Aside0 (wc.heap[gb113]? = some (.cells #[.int .i64 t110, .int .i64 x114001_14, .bool x114002_42, .bool false, .int .i64 0, .int .i64 0, .int .i64 0, .int .i64 0, .int .i64 0, (.slice none 0 0), (.slice none 0 0)] 55 (0, 0))) ∧ Aside0 (wc.heap[gb122]? = some (.cells #[.bool t114, .bool t115, .bool t116, .bool t117, .bool t118, .bool t119, .bool t120] 107 (0, 0))) ∧ Aside0 (IsS104 w wc g109 x110000_42 x110001_42) ∧ Aside0 (Below w.heap.size w wc))
       case first =>
        have H := HC43.out
        clear HC43
        by_cases c48 : t115 = true
        ·subst c48
         rw [if_pos rfl] at H
         replace H := Option.bind_eq_some_iff.mp H
         obtain ⟨⟨t126, t127, t128⟩, A490, H⟩ := H
         try dsimp only at H
         have A49 := aq A490
         clear A490
         have H' := aq H
         clear H
         go_wp2_with (first | ((with_reducible refine gate_callee (f := 89) rfl ?_); refine goesL_ (some 46) rfl rfl Try.func89 (by kernel_rfl) rfl #[.pointer (some ⟨g109, 0, none⟩)] rfl fitR ?_; (with_reducible refine (note_scan_flag.calls g109 x110000_14 x110001_14 t126 t127 t128 w _ ?side1 ?side2 A49.out).mono ?_); (case side1 => repeat (first | (with_reducible first | exact HI109.out | apply IsS104.alloc | apply IsS104.drewN | apply IsS104.drew | apply IsS104.set_0 | apply IsS104.set_1 | refine IsS104.far ?_ NB109_101.out _ | refine IsS104.far ?_ NB109_113.out _ | refine IsS104.far ?_ NB109_122.out _) | exact HI109.out)); (case side2 => repeat (first | (with_reducible first | exact HB.out | apply below_alloc | apply pw_below_drewN | apply below_drew1 | refine below_set ?_ (IsS104.ge HI109.out) | refine below_set ?_ GE101.out | refine below_set ?_ GE113.out | refine below_set ?_ GE122.out) | exact HB.out)); rintro e w50 ⟨rfl, hi, hb, hk⟩; refine ⟨_, rfl, ?_⟩; have n0_ := aq (KeepBut.blk hk (stB BK101) NB101_109.out (by simp)); have n1_ := aq (KeepBut.blk hk (stB BK113) NB113_109.out (by simp)); have n2_ := aq (KeepBut.blk hk (stB BK122) NB122_109.out (by simp)); have n3_ := aq (hb); have n4_ := aq (hi); replace BK101 := n0_; replace BK113 := n1_; replace BK122 := n2_; replace HB := n3_; replace HI109 := n4_; clear n0_ n1_ n2_ n3_ n4_; (try clear hb); (try clear hk); (try clear hi); have hnb51 := NB113_101.out; have hnc51 := NB101_113.out; have hnb52 := NB113_122.out; have hnc52 := NB122_113.out; have hnb53 := NB113_109.out; have hnc53 := NB109_113.out; obtain ⟨k54a, k54b, k54c, k54d, k54e, k54f, k54g, k54h, k54i, k54j, k54k⟩ := cl11 (W := w50) BK113.out; obtain ⟨u54a, u54b, u54c, u54d, u54e, u54f, u54g, u54h, u54i, u54j, u54k⟩ := fr11 BK113.out))
         go_meet
         case rel => exact ⟨_, (t127), (t128), (t126), H', ⟨by have := HJ14.out; first | omega | exact Nat.le_refl _⟩, ⟨stF BK101⟩, ⟨by (with_reducible repeat (first | refine blk_drewN ?_ _ | refine blk_drew ?_ | refine blk_alloc ?_ _)); refine blk_put (cs := #[.int .i64 t110, .int .i64 x114001_14, .bool false, .bool false, .int .i64 0, .int .i64 0, .int .i64 0, .int .i64 0, .int .i64 0, .slice none 0 0, .slice none 0 0]) ?_ 2 _ rfl; (with_reducible repeat (first | refine blk_drewN ?_ _ | refine blk_drew ?_ | refine blk_alloc ?_ _)); exact BK113.out⟩, ⟨stF BK122⟩, ⟨IsS104.st HI109⟩, ⟨IsS104.stH HB⟩⟩
        ·replace c48 := Bool.eq_false_iff.mpr c48
         subst c48
         rw [if_neg (show ¬ (false = true) by decide)] at H
         have H' := aq H
         clear H
         go_wp2
         go_meet
         case rel => exact ⟨_, (x110000_14), (x110001_14), (false), H', ⟨by have := HJ14.out; first | omega | exact Nat.le_refl _⟩, ⟨stB BK101⟩, ⟨stB BK113⟩, ⟨stB BK122⟩, ⟨IsS104.st HI109⟩, ⟨IsS104.stH HB⟩⟩
       case rest =>
        clear HC43
        try clear k47a k47b k47c k47d k47e k47f k47g
        try clear u47a u47b u47c u47d u47e u47f u47g
        try clear c1
        try clear c2
        try clear c2b0
        try clear c2b1
        try clear p2
        try clear c3
        try clear c4
        try clear c5
        try clear c5b0
        try clear c5b1
        try clear c6
        try clear c6b0
        try clear c6b1
        try clear c8
        try clear c8b0
        try clear c9
        try clear c10
        try clear c10b0
        try clear c10b1
        try clear c11
        try clear c11b0
        try clear c27
        try clear c28
        try clear c32
        try clear c33
        try clear c34
        try clear c36
        try clear c39
        try clear c40
        try clear c41
        try clear c44
        try clear c45
        try clear c46
        try clear c47
        try clear c48
        try clear c51
        try clear c52
        try clear c53
        obtain ⟨kq, x110000_42, x110001_42, x114002_42, HA, HJ42, BK101, BK113, BK122, HI109, HB⟩ := hcut
        cases kq with
        | zero => exact absurd HA.out (by simp [note_Decode.j1])
        | succ kj42 =>
         have H := HA.out
         clear HA
         simp only [note_Decode.j1] at H
         have HC55 := aq H
         clear H
         have hnb56 := NB122_101.out
         have hnc56 := NB101_122.out
         have hnb57 := NB122_113.out
         have hnc57 := NB113_122.out
         have hnb58 := NB122_109.out
         have hnc58 := NB109_122.out
         obtain ⟨k59a, k59b, k59c, k59d, k59e, k59f, k59g⟩ := cl7 (W := wc) BK122.out
         obtain ⟨u59a, u59b, u59c, u59d, u59e, u59f, u59g⟩ := fr7 BK122.out
         go_upto_if 49 with (fail)
         go_cut [] (fun wc => ∃ (kq : Nat) (x110000_54 : ByteArray) (x110001_54 : Bool) (x114003_54 : Bool), Aside0 (note_Decode.j2 kq x110000_54 x110001_54 t110 x114001_14 x114002_42 x114003_54 0 0 0 0 0 t114 t115 t116 t117 t118 t119 t120 = some (r1, r2, r3, r4, r5, r6, r7, r8, r9, r10, r11, r12)) ∧ Aside0 (kq ≤ kj42) ∧ Aside0 (wc.heap[gb101]? = some (.cells #[.int .i64 0, .int .i64 0, .bool false, .bool false, .int .i64 0, .int .i64 0, .int .i64 0, .int .i64 0, .int .i64 0, (.slice none 0 0), (.slice none 0 0)] 55 (0, 0))) ∧ Aside0 (wc.heap[gb113]? = some (.cells #[.int .i64 t110, .int .i64 x114001_14, .bool x114002_42, .bool x114003_54, .int .i64 0, .int .i64 0, .int .i64 0, .int .i64 0, .int .i64 0, (.slice none 0 0), (.slice none 0 0)] 55 (0, 0))) ∧ Aside0 (wc.heap[gb122]? = some (.cells #[.bool t114, .bool t115, .bool t116, .bool t117, .bool t118, .bool t119, .bool t120] 107 (0, 0))) ∧ Aside0 (IsS104 w wc g109 x110000_54 x110001_54) ∧ Aside0 (Below w.heap.size w wc))
         case first =>
          have H := HC55.out
          clear HC55
          by_cases c60 : t116 = true
          ·subst c60
           rw [if_pos rfl] at H
           replace H := Option.bind_eq_some_iff.mp H
           obtain ⟨⟨t129, t130, t131⟩, A610, H⟩ := H
           try dsimp only at H
           have A61 := aq A610
           clear A610
           have H' := aq H
           clear H
           go_wp2_with (first | ((with_reducible refine gate_callee (f := 89) rfl ?_); refine goesL_ (some 51) rfl rfl Try.func89 (by kernel_rfl) rfl #[.pointer (some ⟨g109, 0, none⟩)] rfl fitR ?_; (with_reducible refine (note_scan_flag.calls g109 x110000_42 x110001_42 t129 t130 t131 w _ ?side1 ?side2 A61.out).mono ?_); (case side1 => repeat (first | (with_reducible first | exact HI109.out | apply IsS104.alloc | apply IsS104.drewN | apply IsS104.drew | apply IsS104.set_0 | apply IsS104.set_1 | refine IsS104.far ?_ NB109_101.out _ | refine IsS104.far ?_ NB109_113.out _ | refine IsS104.far ?_ NB109_122.out _) | exact HI109.out)); (case side2 => repeat (first | (with_reducible first | exact HB.out | apply below_alloc | apply pw_below_drewN | apply below_drew1 | refine below_set ?_ (IsS104.ge HI109.out) | refine below_set ?_ GE101.out | refine below_set ?_ GE113.out | refine below_set ?_ GE122.out) | exact HB.out)); rintro e w62 ⟨rfl, hi, hb, hk⟩; refine ⟨_, rfl, ?_⟩; have n0_ := aq (KeepBut.blk hk (stB BK101) NB101_109.out (by simp)); have n1_ := aq (KeepBut.blk hk (stB BK113) NB113_109.out (by simp)); have n2_ := aq (KeepBut.blk hk (stB BK122) NB122_109.out (by simp)); have n3_ := aq (hb); have n4_ := aq (hi); replace BK101 := n0_; replace BK113 := n1_; replace BK122 := n2_; replace HB := n3_; replace HI109 := n4_; clear n0_ n1_ n2_ n3_ n4_; (try clear hb); (try clear hk); (try clear hi); have hnb63 := NB113_101.out; have hnc63 := NB101_113.out; have hnb64 := NB113_122.out; have hnc64 := NB122_113.out; have hnb65 := NB113_109.out; have hnc65 := NB109_113.out; obtain ⟨k66a, k66b, k66c, k66d, k66e, k66f, k66g, k66h, k66i, k66j, k66k⟩ := cl11 (W := w62) BK113.out; obtain ⟨u66a, u66b, u66c, u66d, u66e, u66f, u66g, u66h, u66i, u66j, u66k⟩ := fr11 BK113.out))
           go_meet
           case rel => exact ⟨_, (t130), (t131), (t129), H', ⟨by have := HJ14.out; have := HJ42.out; first | omega | exact Nat.le_refl _⟩, ⟨stF BK101⟩, ⟨by (with_reducible repeat (first | refine blk_drewN ?_ _ | refine blk_drew ?_ | refine blk_alloc ?_ _)); refine blk_put (cs := #[.int .i64 t110, .int .i64 x114001_14, .bool x114002_42, .bool false, .int .i64 0, .int .i64 0, .int .i64 0, .int .i64 0, .int .i64 0, .slice none 0 0, .slice none 0 0]) ?_ 3 _ rfl; (with_reducible repeat (first | refine blk_drewN ?_ _ | refine blk_drew ?_ | refine blk_alloc ?_ _)); exact BK113.out⟩, ⟨stF BK122⟩, ⟨IsS104.st HI109⟩, ⟨IsS104.stH HB⟩⟩
          ·replace c60 := Bool.eq_false_iff.mpr c60
           subst c60
           rw [if_neg (show ¬ (false = true) by decide)] at H
           have H' := aq H
           clear H
           go_wp2
           go_meet
           case rel => exact ⟨_, (x110000_42), (x110001_42), (false), H', ⟨by have := HJ14.out; have := HJ42.out; first | omega | exact Nat.le_refl _⟩, ⟨stB BK101⟩, ⟨stB BK113⟩, ⟨stB BK122⟩, ⟨IsS104.st HI109⟩, ⟨IsS104.stH HB⟩⟩
         case rest =>
          clear HC55
          try clear k59a k59b k59c k59d k59e k59f k59g
          try clear u59a u59b u59c u59d u59e u59f u59g
          try clear c1
          try clear c2
          try clear c2b0
          try clear c2b1
          try clear p2
          try clear c3
          try clear c4
          try clear c5
          try clear c5b0
          try clear c5b1
          try clear c6
          try clear c6b0
          try clear c6b1
          try clear c8
          try clear c8b0
          try clear c9
          try clear c10
          try clear c10b0
          try clear c10b1
          try clear c11
          try clear c11b0
          try clear c27
          try clear c28
          try clear c32
          try clear c33
          try clear c34
          try clear c36
          try clear c39
          try clear c40
          try clear c41
          try clear c44
          try clear c45
          try clear c46
          try clear c47
          try clear c48
          try clear c51
          try clear c52
          try clear c53
          try clear c56
          try clear c57
          try clear c58
          try clear c60
          try clear c63
          try clear c64
          try clear c65
          obtain ⟨kq, x110000_54, x110001_54, x114003_54, HA, HJ54, BK101, BK113, BK122, HI109, HB⟩ := hcut
          cases kq with
          | zero => exact absurd HA.out (by simp [note_Decode.j2])
          | succ kj54 =>
           have H := HA.out
           clear HA
           simp only [note_Decode.j2] at H
           have HC67 := aq H
           clear H
           have hnb68 := NB122_101.out
           have hnc68 := NB101_122.out
           have hnb69 := NB122_113.out
           have hnc69 := NB113_122.out
           have hnb70 := NB122_109.out
           have hnc70 := NB109_122.out
           obtain ⟨k71a, k71b, k71c, k71d, k71e, k71f, k71g⟩ := cl7 (W := wc) BK122.out
           obtain ⟨u71a, u71b, u71c, u71d, u71e, u71f, u71g⟩ := fr7 BK122.out
           go_upto_if 54 with (fail)
           go_cut [] (fun wc => ∃ (kq : Nat) (x110000_66 : ByteArray) (x110001_66 : Bool) (x114005_66 : Int) (x114006_66 : Int) (x114007_66 : Int), Aside0 (note_Decode.j3 kq x110000_66 x110001_66 t110 x114001_14 x114002_42 x114003_54 0 x114005_66 x114006_66 x114007_66 0 t114 t115 t116 t117 t118 t119 t120 = some (r1, r2, r3, r4, r5, r6, r7, r8, r9, r10, r11, r12)) ∧ Aside0 (kq ≤ kj54) ∧ Aside0 (wc.heap[gb101]? = some (.cells #[.int .i64 0, .int .i64 0, .bool false, .bool false, .int .i64 0, .int .i64 0, .int .i64 0, .int .i64 0, .int .i64 0, (.slice none 0 0), (.slice none 0 0)] 55 (0, 0))) ∧ Aside0 (wc.heap[gb113]? = some (.cells #[.int .i64 t110, .int .i64 x114001_14, .bool x114002_42, .bool x114003_54, .int .i64 0, .int .i64 x114005_66, .int .i64 x114006_66, .int .i64 x114007_66, .int .i64 0, (.slice none 0 0), (.slice none 0 0)] 55 (0, 0))) ∧ Aside0 (wc.heap[gb122]? = some (.cells #[.bool t114, .bool t115, .bool t116, .bool t117, .bool t118, .bool t119, .bool t120] 107 (0, 0))) ∧ Aside0 (IsS104 w wc g109 x110000_66 x110001_66) ∧ Aside0 (Below w.heap.size w wc))
           case first =>
            have H := HC67.out
            clear HC67
            by_cases c72 : t117 = true
            ·subst c72
             rw [if_pos rfl] at H
             replace H := Option.bind_eq_some_iff.mp H
             obtain ⟨⟨t132, t133, t134⟩, A730, H⟩ := H
             try dsimp only at H
             have A73 := aq A730
             clear A730
             replace H := Option.bind_eq_some_iff.mp H
             obtain ⟨⟨t135, t136, t137⟩, A740, H⟩ := H
             try dsimp only at H
             have A74 := aq A740
             clear A740
             replace H := Option.bind_eq_some_iff.mp H
             obtain ⟨⟨t138, t139, t140⟩, A750, H⟩ := H
             try dsimp only at H
             have A75 := aq A750
             clear A750
             have H' := aq H
             clear H
             go_wp2_with (first | ((with_reducible refine gate_callee (f := 87) rfl ?_); refine goesL_ (some 56) rfl rfl Try.func87 (by kernel_rfl) rfl #[.pointer (some ⟨g109, 0, none⟩)] rfl fitR ?_; (with_reducible refine (note_scan_int.calls g109 x110000_54 x110001_54 t132 t133 t134 w _ ?side1 ?side2 A73.out).mono ?_); (case side1 => repeat (first | (with_reducible first | exact HI109.out | apply IsS104.alloc | apply IsS104.drewN | apply IsS104.drew | apply IsS104.set_0 | apply IsS104.set_1 | refine IsS104.far ?_ NB109_101.out _ | refine IsS104.far ?_ NB109_113.out _ | refine IsS104.far ?_ NB109_122.out _) | exact HI109.out)); (case side2 => repeat (first | (with_reducible first | exact HB.out | apply below_alloc | apply pw_below_drewN | apply below_drew1 | refine below_set ?_ (IsS104.ge HI109.out) | refine below_set ?_ GE101.out | refine below_set ?_ GE113.out | refine below_set ?_ GE122.out) | exact HB.out)); rintro e w76 ⟨rfl, hi, hb, hk⟩; refine ⟨_, rfl, ?_⟩; have n0_ := aq (KeepBut.blk hk (stB BK101) NB101_109.out (by simp)); have n1_ := aq (KeepBut.blk hk (stB BK113) NB113_109.out (by simp)); have n2_ := aq (KeepBut.blk hk (stB BK122) NB122_109.out (by simp)); have n3_ := aq (hb); have n4_ := aq (hi); replace BK101 := n0_; replace BK113 := n1_; replace BK122 := n2_; replace HB := n3_; replace HI109 := n4_; clear n0_ n1_ n2_ n3_ n4_; (try clear hb); (try clear hk); (try clear hi)) | ((with_reducible refine gate_callee (f := 87) rfl ?_); refine goesL_ (some 58) rfl rfl Try.func87 (by kernel_rfl) rfl #[.pointer (some ⟨g109, 0, none⟩)] rfl fitR ?_; (with_reducible refine (note_scan_int.calls g109 t133 t134 t135 t136 t137 w _ ?side1 ?side2 A74.out).mono ?_); (case side1 => repeat (first | (with_reducible first | exact HI109.out | apply IsS104.alloc | apply IsS104.drewN | apply IsS104.drew | apply IsS104.set_0 | apply IsS104.set_1 | refine IsS104.far ?_ NB109_101.out _ | refine IsS104.far ?_ NB109_113.out _ | refine IsS104.far ?_ NB109_122.out _) | exact HI109.out)); (case side2 => repeat (first | (with_reducible first | exact HB.out | apply below_alloc | apply pw_below_drewN | apply below_drew1 | refine below_set ?_ (IsS104.ge HI109.out) | refine below_set ?_ GE101.out | refine below_set ?_ GE113.out | refine below_set ?_ GE122.out) | exact HB.out)); rintro e w77 ⟨rfl, hi, hb, hk⟩; refine ⟨_, rfl, ?_⟩; have n0_ := aq (KeepBut.blk hk (stB BK101) NB101_109.out (by simp)); have n1_ := aq (KeepBut.blk hk (stB BK113) NB113_109.out (by simp)); have n2_ := aq (KeepBut.blk hk (stB BK122) NB122_109.out (by simp)); have n3_ := aq (hb); have n4_ := aq (hi); replace BK101 := n0_; replace BK113 := n1_; replace BK122 := n2_; replace HB := n3_; replace HI109 := n4_; clear n0_ n1_ n2_ n3_ n4_; (try clear hb); (try clear hk); (try clear hi)) | ((with_reducible refine gate_callee (f := 87) rfl ?_); refine goesL_ (some 60) rfl rfl Try.func87 (by kernel_rfl) rfl #[.pointer (some ⟨g109, 0, none⟩)] rfl fitR ?_; (with_reducible refine (note_scan_int.calls g109 t136 t137 t138 t139 t140 w _ ?side1 ?side2 A75.out).mono ?_); (case side1 => repeat (first | (with_reducible first | exact HI109.out | apply IsS104.alloc | apply IsS104.drewN | apply IsS104.drew | apply IsS104.set_0 | apply IsS104.set_1 | refine IsS104.far ?_ NB109_101.out _ | refine IsS104.far ?_ NB109_113.out _ | refine IsS104.far ?_ NB109_122.out _) | exact HI109.out)); (case side2 => repeat (first | (with_reducible first | exact HB.out | apply below_alloc | apply pw_below_drewN | apply below_drew1 | refine below_set ?_ (IsS104.ge HI109.out) | refine below_set ?_ GE101.out | refine below_set ?_ GE113.out | refine below_set ?_ GE122.out) | exact HB.out)); rintro e w78 ⟨rfl, hi, hb, hk⟩; refine ⟨_, rfl, ?_⟩; have n0_ := aq (KeepBut.blk hk (stB BK101) NB101_109.out (by simp)); have n1_ := aq (KeepBut.blk hk (stB BK113) NB113_109.out (by simp)); have n2_ := aq (KeepBut.blk hk (stB BK122) NB122_109.out (by simp)); have n3_ := aq (hb); have n4_ := aq (hi); replace BK101 := n0_; replace BK113 := n1_; replace BK122 := n2_; replace HB := n3_; replace HI109 := n4_; clear n0_ n1_ n2_ n3_ n4_; (try clear hb); (try clear hk); (try clear hi); have hnb79 := NB113_101.out; have hnc79 := NB101_113.out; have hnb80 := NB113_122.out; have hnc80 := NB122_113.out; have hnb81 := NB113_109.out; have hnc81 := NB109_113.out; obtain ⟨k82a, k82b, k82c, k82d, k82e, k82f, k82g, k82h, k82i, k82j, k82k⟩ := cl11 (W := w78) BK113.out; obtain ⟨u82a, u82b, u82c, u82d, u82e, u82f, u82g, u82h, u82i, u82j, u82k⟩ := fr11 BK113.out))
             go_meet
             case rel => exact ⟨_, (t139), (t140), (t132), (t135), (t138), H', ⟨by have := HJ14.out; have := HJ42.out; have := HJ54.out; first | omega | exact Nat.le_refl _⟩, ⟨stF BK101⟩, ⟨by (with_reducible repeat (first | refine blk_drewN ?_ _ | refine blk_drew ?_ | refine blk_alloc ?_ _)); refine blk_put (cs := #[.int .i64 t110, .int .i64 x114001_14, .bool x114002_42, .bool x114003_54, .int .i64 0, .int .i64 t132, .int .i64 t135, .int .i64 0, .int .i64 0, .slice none 0 0, .slice none 0 0]) ?_ 7 _ rfl; refine blk_put (cs := #[.int .i64 t110, .int .i64 x114001_14, .bool x114002_42, .bool x114003_54, .int .i64 0, .int .i64 t132, .int .i64 0, .int .i64 0, .int .i64 0, .slice none 0 0, .slice none 0 0]) ?_ 6 _ rfl; refine blk_put (cs := #[.int .i64 t110, .int .i64 x114001_14, .bool x114002_42, .bool x114003_54, .int .i64 0, .int .i64 0, .int .i64 0, .int .i64 0, .int .i64 0, .slice none 0 0, .slice none 0 0]) ?_ 5 _ rfl; (with_reducible repeat (first | refine blk_drewN ?_ _ | refine blk_drew ?_ | refine blk_alloc ?_ _)); exact BK113.out⟩, ⟨stF BK122⟩, ⟨IsS104.st HI109⟩, ⟨IsS104.stH HB⟩⟩
            ·replace c72 := Bool.eq_false_iff.mpr c72
             subst c72
             rw [if_neg (show ¬ (false = true) by decide)] at H
             have H' := aq H
             clear H
             go_wp2
             go_meet
             case rel => exact ⟨_, (x110000_54), (x110001_54), (0), (0), (0), H', ⟨by have := HJ14.out; have := HJ42.out; have := HJ54.out; first | omega | exact Nat.le_refl _⟩, ⟨stB BK101⟩, ⟨stB BK113⟩, ⟨stB BK122⟩, ⟨IsS104.st HI109⟩, ⟨IsS104.stH HB⟩⟩
           case rest =>
            clear HC67
            try clear k71a k71b k71c k71d k71e k71f k71g
            try clear u71a u71b u71c u71d u71e u71f u71g
            try clear c1
            try clear c2
            try clear c2b0
            try clear c2b1
            try clear p2
            try clear c3
            try clear c4
            try clear c5
            try clear c5b0
            try clear c5b1
            try clear c6
            try clear c6b0
            try clear c6b1
            try clear c7
            try clear c8
            try clear c8b0
            try clear c9
            try clear c10
            try clear c10b0
            try clear c10b1
            try clear c11
            try clear c11b0
            try clear c27
            try clear c28
            try clear c32
            try clear c33
            try clear c34
            try clear c36
            try clear c39
            try clear c40
            try clear c41
            try clear c44
            try clear c45
            try clear c46
            try clear c47
            try clear c48
            try clear c51
            try clear c52
            try clear c53
            try clear c56
            try clear c57
            try clear c58
            try clear c60
            try clear c63
            try clear c64
            try clear c65
            try clear c68
            try clear c69
            try clear c70
            try clear c72
            try clear c79
            try clear c80
            try clear c81
            obtain ⟨kq, x110000_66, x110001_66, x114005_66, x114006_66, x114007_66, HA, HJ66, BK101, BK113, BK122, HI109, HB⟩ := hcut
            cases kq with
            | zero => exact absurd HA.out (by simp [note_Decode.j3])
            | succ kj66 =>
             have H := HA.out
             clear HA
             simp only [note_Decode.j3] at H
             have HC83 := aq H
             clear H
             have hnb84 := NB122_101.out
             have hnc84 := NB101_122.out
             have hnb85 := NB122_113.out
             have hnc85 := NB113_122.out
             have hnb86 := NB122_109.out
             have hnc86 := NB109_122.out
             obtain ⟨k87a, k87b, k87c, k87d, k87e, k87f, k87g⟩ := cl7 (W := wc) BK122.out
             obtain ⟨u87a, u87b, u87c, u87d, u87e, u87f, u87g⟩ := fr7 BK122.out
             go_upto_if 64 with (fail)
             go_cut [] (fun wc => ∃ (kq : Nat) (x110000_82 : ByteArray) (x110001_82 : Bool) (x114004_82 : Int), Aside0 (note_Decode.j4 kq x110000_82 x110001_82 t110 x114001_14 x114002_42 x114003_54 x114004_82 x114005_66 x114006_66 x114007_66 0 t114 t115 t116 t117 t118 t119 t120 = some (r1, r2, r3, r4, r5, r6, r7, r8, r9, r10, r11, r12)) ∧ Aside0 (kq ≤ kj66) ∧ Aside0 (wc.heap[gb101]? = some (.cells #[.int .i64 0, .int .i64 0, .bool false, .bool false, .int .i64 0, .int .i64 0, .int .i64 0, .int .i64 0, .int .i64 0, (.slice none 0 0), (.slice none 0 0)] 55 (0, 0))) ∧ Aside0 (wc.heap[gb113]? = some (.cells #[.int .i64 t110, .int .i64 x114001_14, .bool x114002_42, .bool x114003_54, .int .i64 x114004_82, .int .i64 x114005_66, .int .i64 x114006_66, .int .i64 x114007_66, .int .i64 0, (.slice none 0 0), (.slice none 0 0)] 55 (0, 0))) ∧ Aside0 (wc.heap[gb122]? = some (.cells #[.bool t114, .bool t115, .bool t116, .bool t117, .bool t118, .bool t119, .bool t120] 107 (0, 0))) ∧ Aside0 (IsS104 w wc g109 x110000_82 x110001_82) ∧ Aside0 (Below w.heap.size w wc))
             case first =>
              have H := HC83.out
              clear HC83
              by_cases c88 : t118 = true
              ·subst c88
               rw [if_pos rfl] at H
               replace H := Option.bind_eq_some_iff.mp H
               obtain ⟨⟨t141, t142, t143⟩, A890, H⟩ := H
               try dsimp only at H
               have A89 := aq A890
               clear A890
               have H' := aq H
               clear H
               go_wp2_with (first | ((with_reducible refine gate_callee (f := 87) rfl ?_); refine goesL_ (some 66) rfl rfl Try.func87 (by kernel_rfl) rfl #[.pointer (some ⟨g109, 0, none⟩)] rfl fitR ?_; (with_reducible refine (note_scan_int.calls g109 x110000_66 x110001_66 t141 t142 t143 w _ ?side1 ?side2 A89.out).mono ?_); (case side1 => repeat (first | (with_reducible first | exact HI109.out | apply IsS104.alloc | apply IsS104.drewN | apply IsS104.drew | apply IsS104.set_0 | apply IsS104.set_1 | refine IsS104.far ?_ NB109_101.out _ | refine IsS104.far ?_ NB109_113.out _ | refine IsS104.far ?_ NB109_122.out _) | exact HI109.out)); (case side2 => repeat (first | (with_reducible first | exact HB.out | apply below_alloc | apply pw_below_drewN | apply below_drew1 | refine below_set ?_ (IsS104.ge HI109.out) | refine below_set ?_ GE101.out | refine below_set ?_ GE113.out | refine below_set ?_ GE122.out) | exact HB.out)); rintro e w90 ⟨rfl, hi, hb, hk⟩; refine ⟨_, rfl, ?_⟩; have n0_ := aq (KeepBut.blk hk (stB BK101) NB101_109.out (by simp)); have n1_ := aq (KeepBut.blk hk (stB BK113) NB113_109.out (by simp)); have n2_ := aq (KeepBut.blk hk (stB BK122) NB122_109.out (by simp)); have n3_ := aq (hb); have n4_ := aq (hi); replace BK101 := n0_; replace BK113 := n1_; replace BK122 := n2_; replace HB := n3_; replace HI109 := n4_; clear n0_ n1_ n2_ n3_ n4_; (try clear hb); (try clear hk); (try clear hi); have hnb91 := NB113_101.out; have hnc91 := NB101_113.out; have hnb92 := NB113_122.out; have hnc92 := NB122_113.out; have hnb93 := NB113_109.out; have hnc93 := NB109_113.out; obtain ⟨k94a, k94b, k94c, k94d, k94e, k94f, k94g, k94h, k94i, k94j, k94k⟩ := cl11 (W := w90) BK113.out; obtain ⟨u94a, u94b, u94c, u94d, u94e, u94f, u94g, u94h, u94i, u94j, u94k⟩ := fr11 BK113.out))
               go_meet
               case rel => exact ⟨_, (t142), (t143), (t141), H', ⟨by have := HJ14.out; have := HJ42.out; have := HJ54.out; have := HJ66.out; first | omega | exact Nat.le_refl _⟩, ⟨stF BK101⟩, ⟨by (with_reducible repeat (first | refine blk_drewN ?_ _ | refine blk_drew ?_ | refine blk_alloc ?_ _)); refine blk_put (cs := #[.int .i64 t110, .int .i64 x114001_14, .bool x114002_42, .bool x114003_54, .int .i64 0, .int .i64 x114005_66, .int .i64 x114006_66, .int .i64 x114007_66, .int .i64 0, .slice none 0 0, .slice none 0 0]) ?_ 4 _ rfl; (with_reducible repeat (first | refine blk_drewN ?_ _ | refine blk_drew ?_ | refine blk_alloc ?_ _)); exact BK113.out⟩, ⟨stF BK122⟩, ⟨IsS104.st HI109⟩, ⟨IsS104.stH HB⟩⟩
              ·replace c88 := Bool.eq_false_iff.mpr c88
               subst c88
               rw [if_neg (show ¬ (false = true) by decide)] at H
               have H' := aq H
               clear H
               go_wp2
               go_meet
               case rel => exact ⟨_, (x110000_66), (x110001_66), (0), H', ⟨by have := HJ14.out; have := HJ42.out; have := HJ54.out; have := HJ66.out; first | omega | exact Nat.le_refl _⟩, ⟨stB BK101⟩, ⟨stB BK113⟩, ⟨stB BK122⟩, ⟨IsS104.st HI109⟩, ⟨IsS104.stH HB⟩⟩
             case rest =>
              clear HC83
              try clear k87a k87b k87c k87d k87e k87f k87g
              try clear u87a u87b u87c u87d u87e u87f u87g
              try clear c1
              try clear c2
              try clear c2b0
              try clear c2b1
              try clear p2
              try clear c3
              try clear c4
              try clear c5
              try clear c5b0
              try clear c5b1
              try clear c6
              try clear c6b0
              try clear c6b1
              try clear c7
              try clear c8
              try clear c8b0
              try clear c9
              try clear c10
              try clear c10b0
              try clear c10b1
              try clear c11
              try clear c11b0
              try clear c27
              try clear c28
              try clear c32
              try clear c33
              try clear c34
              try clear c36
              try clear c39
              try clear c40
              try clear c41
              try clear c44
              try clear c45
              try clear c46
              try clear c47
              try clear c48
              try clear c51
              try clear c52
              try clear c53
              try clear c56
              try clear c57
              try clear c58
              try clear c60
              try clear c63
              try clear c64
              try clear c65
              try clear c68
              try clear c69
              try clear c70
              try clear c72
              try clear c79
              try clear c80
              try clear c81
              try clear c84
              try clear c85
              try clear c86
              try clear c87
              try clear c88
              try clear c89
              try clear c91
              try clear c92
              try clear c93
              obtain ⟨kq, x110000_82, x110001_82, x114004_82, HA, HJ82, BK101, BK113, BK122, HI109, HB⟩ := hcut
              cases kq with
              | zero => exact absurd HA.out (by simp [note_Decode.j4])
              | succ kj82 =>
               have H := HA.out
               clear HA
               simp only [note_Decode.j4] at H
               replace H := Option.bind_eq_some_iff.mp H
               obtain ⟨⟨t144, t145, t146, t147, t148, t149, t150, t151⟩, A950, H⟩ := H
               try dsimp only at H
               have A95 := aq A950
               clear A950
               have HC96 := aq H
               clear H
               have hnb97 := NB113_101.out
               have hnc97 := NB101_113.out
               have hnb98 := NB113_122.out
               have hnc98 := NB122_113.out
               have hnb99 := NB113_109.out
               have hnc99 := NB109_113.out
               obtain ⟨k100a, k100b, k100c, k100d, k100e, k100f, k100g, k100h, k100i, k100j, k100k⟩ := cl11 (W := wc) BK113.out
               obtain ⟨u100a, u100b, u100c, u100d, u100e, u100f, u100g, u100h, u100i, u100j, u100k⟩ := fr11 BK113.out
               go_upto_if 74 with (first | ((with_reducible refine gate_callee (f := 88) rfl ?_); refine goesL_ (some 70) rfl rfl Try.func88 (by kernel_rfl) rfl #[.agg #[.int .i64 t110, .int .i64 x114001_14, .bool x114002_42, .bool x114003_54, .int .i64 x114004_82, .int .i64 x114005_66, .int .i64 x114006_66, .int .i64 x114007_66, .int .i64 0, .slice none 0 0, .slice none 0 0]] rfl fitR ?_; (refine (noteShape.calls t110 x114001_14 x114002_42 x114003_54 x114004_82 x114005_66 x114006_66 x114007_66 0 _ _ ([] : List (S33)) _ _ ([] : List (S65)) t144 t145 t146 t147 t148 t149 t150 t151 _ ?side1 ?side2 ?side3 ?side4 A95.out).mono ?_); (case side1 => exact Kd.C_nil _ _); (case side2 => exact Nat.le_refl _); (case side3 => exact Kd.C_nil _ _); (case side4 => exact Nat.le_refl _); rintro e w101 ⟨rfl, hb⟩; refine ⟨_, rfl, ?_⟩; have n0_ := aq (blk_below (stB BK101) hb); have n1_ := aq (blk_below (stB BK113) hb); have n2_ := aq (blk_below (stB BK122) hb); have n3_ := aq (IsS104.below (IsS104.st HI109) hb); have n4_ := aq (below_step (IsS104.stH HB) hb); replace BK101 := n0_; replace BK113 := n1_; replace BK122 := n2_; replace HI109 := n3_; replace HB := n4_; clear n0_ n1_ n2_ n3_ n4_; (try clear hb)) | ((with_reducible refine gate_dst (N := 8) rfl ?_); refine box_event ?hg (N := 8) ?hd (cs := #[.bool false, .bool false, .bool false, .bool false, .bool false, .bool false, .bool false]) (t := 107) ?hr ?_; (case hd => rfl); (case hg => rfl); (case hr => first | (go_simp; done) | (go_simp; rfl)); intro gb152 hg w102 hbox hb; have n0_ := aq (blk_below (stB BK101) hb); have n1_ := aq (blk_below (stB BK113) hb); have n2_ := aq (blk_below (stB BK122) hb); have n3_ := aq (IsS104.below (IsS104.st HI109) hb); have n4_ := aq (below_step (IsS104.stH HB) hb); have n5_ := aq (hbox); have n6_ := aq ((by rw [hg]; exact (below_size (IsS104.stH HB)) : w.heap.size ≤ gb152)); have n7_ := aq ((by rw [hg]; exact (below_size (IsS104.stH HB)) : w.heap.size ≤ gb152)); have n8_ := aq ((by rw [hg]; exact Nat.ne_of_lt (blk_lt (stB BK101)) : gb101 ≠ gb152)); have n9_ := aq ((by rw [hg]; exact Nat.ne_of_gt (blk_lt (stB BK101)) : gb152 ≠ gb101)); have n10_ := aq ((by rw [hg]; exact Nat.ne_of_lt (blk_lt (stB BK113)) : gb113 ≠ gb152)); have n11_ := aq ((by rw [hg]; exact Nat.ne_of_gt (blk_lt (stB BK113)) : gb152 ≠ gb113)); have n12_ := aq ((by rw [hg]; exact Nat.ne_of_lt (blk_lt (stB BK122)) : gb122 ≠ gb152)); have n13_ := aq ((by rw [hg]; exact Nat.ne_of_gt (blk_lt (stB BK122)) : gb152 ≠ gb122)); have n14_ := aq ((by rw [hg]; exact Nat.ne_of_lt (IsS104.lt (show IsS104 w _ g109 x110000_82 x110001_82 from by repeat (first | (with_reducible first | exact HI109.out | apply IsS104.alloc | apply IsS104.drewN | apply IsS104.drew | apply IsS104.set_0 | apply IsS104.set_1 | refine IsS104.far ?_ NB109_101.out _ | refine IsS104.far ?_ NB109_113.out _ | refine IsS104.far ?_ NB109_122.out _) | exact HI109.out))) : g109 ≠ gb152)); have n15_ := aq ((by rw [hg]; exact Nat.ne_of_gt (IsS104.lt (show IsS104 w _ g109 x110000_82 x110001_82 from by repeat (first | (with_reducible first | exact HI109.out | apply IsS104.alloc | apply IsS104.drewN | apply IsS104.drew | apply IsS104.set_0 | apply IsS104.set_1 | refine IsS104.far ?_ NB109_101.out _ | refine IsS104.far ?_ NB109_113.out _ | refine IsS104.far ?_ NB109_122.out _) | exact HI109.out))) : gb152 ≠ g109)); replace BK101 := n0_; replace BK113 := n1_; replace BK122 := n2_; replace HI109 := n3_; replace HB := n4_; have BK152 := n5_; have GW152 := n6_; have GE152 := n7_; have NB101_152 := n8_; have NB152_101 := n9_; have NB113_152 := n10_; have NB152_113 := n11_; have NB122_152 := n12_; have NB152_122 := n13_; have NB109_152 := n14_; have NB152_109 := n15_; clear n0_ n1_ n2_ n3_ n4_ n5_ n6_ n7_ n8_ n9_ n10_ n11_ n12_ n13_ n14_ n15_; clear hb hbox hg; have hnb103 := NB152_101.out; have hnc103 := NB101_152.out; have hnb104 := NB152_113.out; have hnc104 := NB113_152.out; have hnb105 := NB152_122.out; have hnc105 := NB122_152.out; have hnb106 := NB152_109.out; have hnc106 := NB109_152.out; obtain ⟨k107a, k107b, k107c, k107d, k107e, k107f, k107g⟩ := cl7 (W := w102) BK152.out; obtain ⟨u107a, u107b, u107c, u107d, u107e, u107f, u107g⟩ := fr7 BK152.out))
               (try simp only [Act.put, List.setIfInBounds_toArray, List.set_cons_zero, List.set_cons_succ])
               go_cut [] (fun wc => ∃ (kq : Nat) (x110000_95 : ByteArray) (x110001_95 : Bool) (x114008_95 : Int) (x114009_95 : List (S33)) (u114009 : Value), Aside0 (note_Decode.j5 kq x110000_95 x110001_95 t110 x114001_14 x114002_42 x114003_54 x114004_82 x114005_66 x114006_66 x114007_66 x114008_95 x114009_95 t114 t115 t116 t117 t118 t119 t120 = some (r1, r2, r3, r4, r5, r6, r7, r8, r9, r10, r11, r12)) ∧ Aside0 (kq ≤ kj82) ∧ Aside0 (Kd.R k33 33 wc w.heap.size (fun _ => True) u114009 x114009_95) ∧ Aside0 (wc.heap[gb101]? = some (.cells #[.int .i64 0, .int .i64 0, .bool false, .bool false, .int .i64 0, .int .i64 0, .int .i64 0, .int .i64 0, .int .i64 0, (.slice none 0 0), (.slice none 0 0)] 55 (0, 0))) ∧ Aside0 (wc.heap[gb113]? = some (.cells #[.int .i64 t110, .int .i64 x114001_14, .bool x114002_42, .bool x114003_54, .int .i64 x114004_82, .int .i64 x114005_66, .int .i64 x114006_66, .int .i64 x114007_66, .int .i64 x114008_95, u114009, (.slice none 0 0)] 55 (0, 0))) ∧ Aside0 (wc.heap[gb122]? = some (.cells #[.bool t114, .bool t115, .bool t116, .bool t117, .bool t118, .bool t119, .bool t120] 107 (0, 0))) ∧ Aside0 (wc.heap[gb152]? = some (.cells #[.bool t144, .bool t145, .bool t146, .bool t147, .bool t148, .bool t149, .bool t150] 107 (0, 0))) ∧ Aside0 (IsS104 w wc g109 x110000_95 x110001_95) ∧ Aside0 (Below w.heap.size w wc))
               case first =>
                have H := HC96.out
                clear HC96
                by_cases c108 : t149 = true
                ·subst c108
                 rw [if_pos rfl] at H
                 replace H := Option.bind_eq_some_iff.mp H
                 obtain ⟨⟨t153, t154, t157, t158⟩, A1090, H⟩ := H
                 try dsimp only at H
                 have A109 := aq A1090
                 clear A1090
                 have H' := aq H
                 clear H
                 go_wp2_with (first | ((with_reducible refine gate_callee (f := 90) rfl ?_); refine goesL_ (some 76) rfl rfl Try.func90 (by kernel_rfl) rfl #[.pointer (some ⟨g109, 0, none⟩)] rfl fitR ?_; (with_reducible refine (note_scan_image.calls g109 x110000_82 x110001_82 t153 t154 t157 t158 w _ ?side1 ?side2 A109.out).mono ?_); (case side1 => repeat (first | (with_reducible first | exact HI109.out | apply IsS104.alloc | apply IsS104.drewN | apply IsS104.drew | apply IsS104.set_0 | apply IsS104.set_1 | refine IsS104.far ?_ NB109_101.out _ | refine IsS104.far ?_ NB109_113.out _ | refine IsS104.far ?_ NB109_122.out _ | refine IsS104.far ?_ NB109_152.out _) | exact HI109.out)); (case side2 => repeat (first | (with_reducible first | exact HB.out | apply below_alloc | apply pw_below_drewN | apply below_drew1 | refine below_set ?_ (IsS104.ge HI109.out) | refine below_set ?_ GE101.out | refine below_set ?_ GE113.out | refine below_set ?_ GE122.out | refine below_set ?_ GE152.out) | exact HB.out)); rintro e w110 ⟨v155, rfl, ho0, hi, hb, hk⟩; refine ⟨_, rfl, ?_⟩; have n0_ := aq (KeepBut.blk hk (g' := gb101) (o := .cells #[.int .i64 0, .int .i64 0, .bool false, .bool false, .int .i64 0, .int .i64 0, .int .i64 0, .int .i64 0, .int .i64 0, .slice none 0 0, .slice none 0 0] 55 (0, 0)) (stF BK101) NB101_109.out (by simp)); have n1_ := aq (KeepBut.blk hk (g' := gb113) (o := .cells #[.int .i64 t110, .int .i64 x114001_14, .bool x114002_42, .bool x114003_54, .int .i64 x114004_82, .int .i64 x114005_66, .int .i64 x114006_66, .int .i64 x114007_66, .int .i64 0, .slice none 0 0, .slice none 0 0] 55 (0, 0)) (stF BK113) NB113_109.out (by simp)); have n2_ := aq (KeepBut.blk hk (g' := gb122) (o := .cells #[.bool t114, .bool t115, .bool t116, .bool t117, .bool t118, .bool t119, .bool t120] 107 (0, 0)) (stF BK122) NB122_109.out (by simp)); have n3_ := aq (KeepBut.blk hk (g' := gb152) (o := .cells #[.bool t144, .bool t145, .bool t146, .bool t147, .bool t148, .bool true, .bool t150] 107 (0, 0)) (by (with_reducible repeat (first | refine blk_drewN ?_ _ | refine blk_drew ?_ | refine blk_alloc ?_ _)); refine puts7 (cs := #[.bool false, .bool false, .bool false, .bool false, .bool false, .bool false, .bool false]) rfl ?_; (with_reducible repeat (first | refine blk_drewN ?_ _ | refine blk_drew ?_ | refine blk_alloc ?_ _)); exact BK152.out) NB152_109.out (by simp)); have n4_ := aq (Kd.R_lower ho0 (below_size (IsS104.stH HB))); have n5_ := aq (hb); have n6_ := aq (hi); replace BK101 := n0_; replace BK113 := n1_; replace BK122 := n2_; replace BK152 := n3_; have HO156 := n4_; replace HB := n5_; replace HI109 := n6_; clear n0_ n1_ n2_ n3_ n4_ n5_ n6_; (try clear hb); (try clear hk); (try clear hi); (try clear ho0); have hnb111 := NB113_101.out; have hnc111 := NB101_113.out; have hnb112 := NB113_122.out; have hnc112 := NB122_113.out; have hnb113 := NB113_152.out; have hnc113 := NB152_113.out; have hnb114 := NB113_109.out; have hnc114 := NB109_113.out; obtain ⟨k115a, k115b, k115c, k115d, k115e, k115f, k115g, k115h, k115i, k115j, k115k⟩ := cl11 (W := w110) BK113.out; obtain ⟨u115a, u115b, u115c, u115d, u115e, u115f, u115g, u115h, u115i, u115j, u115k⟩ := fr11 BK113.out; obtain ⟨Ao116, co116, eo116⟩ := Kd.R_slice HO156.out; subst eo116))
                 go_meet
                 case rel => exact ⟨_, (t157), (t158), (t153), (t154), (.slice Ao116 t154.length co116), H', ⟨by have := HJ14.out; have := HJ42.out; have := HJ54.out; have := HJ66.out; have := HJ82.out; first | omega | exact Nat.le_refl _⟩, ⟨by (with_reducible repeat (first | apply Kd.R_alloc | apply Kd.R_drewN | apply Kd.R_drew)); exact Kd.R_mono (Kd.R_far (p := ⟨gb113, 9, none⟩) (Kd.R_far (p := ⟨gb113, 8, none⟩) (Kd.R_types HO156.out BK113.out (by decide)) (fun _ hk => hk.2) (.int .i64 t153)) (fun _ hk => hk.2) (.slice Ao116 t154.length co116)) (fun _ hk => trivial)⟩, ⟨stF BK101⟩, ⟨by (with_reducible repeat (first | refine blk_drewN ?_ _ | refine blk_drew ?_ | refine blk_alloc ?_ _)); refine blk_put (cs := #[.int .i64 t110, .int .i64 x114001_14, .bool x114002_42, .bool x114003_54, .int .i64 x114004_82, .int .i64 x114005_66, .int .i64 x114006_66, .int .i64 x114007_66, .int .i64 t153, .slice none 0 0, .slice none 0 0]) ?_ 9 _ rfl; refine blk_put (cs := #[.int .i64 t110, .int .i64 x114001_14, .bool x114002_42, .bool x114003_54, .int .i64 x114004_82, .int .i64 x114005_66, .int .i64 x114006_66, .int .i64 x114007_66, .int .i64 0, .slice none 0 0, .slice none 0 0]) ?_ 8 _ rfl; (with_reducible repeat (first | refine blk_drewN ?_ _ | refine blk_drew ?_ | refine blk_alloc ?_ _)); exact BK113.out⟩, ⟨stF BK122⟩, ⟨stF BK152⟩, ⟨IsS104.st HI109⟩, ⟨IsS104.stH HB⟩⟩
                ·replace c108 := Bool.eq_false_iff.mpr c108
                 subst c108
                 rw [if_neg (show ¬ (false = true) by decide)] at H
                 have H' := aq H
                 clear H
                 go_wp2
                 go_meet
                 case rel => exact ⟨_, (x110000_82), (x110001_82), (0), (([] : List (S33))), (.slice none 0 0), H', ⟨by have := HJ14.out; have := HJ42.out; have := HJ54.out; have := HJ66.out; have := HJ82.out; first | omega | exact Nat.le_refl _⟩, ⟨by first | exact Kd.R_nil _ _ _ _ _ | exact Kd.N_nil _ _ _ _ _ | exact Kd.V_nil _ _ _ _ _ | exact Kd.Q_nil _ _ _ _ _ | exact Kd.S_nil _ _ _ _ _⟩, ⟨stF BK101⟩, ⟨stF BK113⟩, ⟨stF BK122⟩, ⟨by (with_reducible repeat (first | refine blk_drewN ?_ _ | refine blk_drew ?_ | refine blk_alloc ?_ _)); refine puts7 (cs := #[.bool false, .bool false, .bool false, .bool false, .bool false, .bool false, .bool false]) rfl ?_; (with_reducible repeat (first | refine blk_drewN ?_ _ | refine blk_drew ?_ | refine blk_alloc ?_ _)); exact BK152.out⟩, ⟨IsS104.st HI109⟩, ⟨IsS104.stH HB⟩⟩
               case rest =>
                clear HC96
                try clear k100a k100b k100c k100d k100e k100f k100g k100h k100i k100j k100k
                try clear u100a u100b u100c u100d u100e u100f u100g u100h u100i u100j u100k
                try clear k107a k107b k107c k107d k107e k107f k107g
                try clear u107a u107b u107c u107d u107e u107f u107g
                try clear c1
                try clear c2
                try clear c2b0
                try clear c2b1
                try clear p2
                try clear c3
                try clear c4
                try clear c5
                try clear c5b0
                try clear c5b1
                try clear c6
                try clear c6b0
                try clear c6b1
                try clear c7
                try clear c8
                try clear c8b0
                try clear c9
                try clear c10
                try clear c10b0
                try clear c10b1
                try clear c11
                try clear c11b0
                try clear c27
                try clear c28
                try clear c32
                try clear c33
                try clear c34
                try clear c36
                try clear c39
                try clear c40
                try clear c41
                try clear c44
                try clear c45
                try clear c46
                try clear c47
                try clear c48
                try clear c51
                try clear c52
                try clear c53
                try clear c56
                try clear c57
                try clear c58
                try clear c60
                try clear c63
                try clear c64
                try clear c65
                try clear c68
                try clear c69
                try clear c70
                try clear c72
                try clear c79
                try clear c80
                try clear c81
                try clear c84
                try clear c85
                try clear c86
                try clear c87
                try clear c88
                try clear c89
                try clear c90
                try clear c91
                try clear c92
                try clear c93
                try clear c97
                try clear c98
                try clear c99
                try clear c103
                try clear c104
                try clear c105
                try clear c106
                try clear c108
                try clear c111
                try clear c112
                try clear c113
                try clear c114
                obtain ⟨kq, x110000_95, x110001_95, x114008_95, x114009_95, u114009, HA, HJ95, HO_114009, BK101, BK113, BK122, BK152, HI109, HB⟩ := hcut
                cases kq with
                | zero => exact absurd HA.out (by simp [note_Decode.j5])
                | succ kj95 =>
                 have H := HA.out
                 clear HA
                 simp only [note_Decode.j5] at H
                 by_cases c117 : t120 = true
                 ·subst c117
                  rw [if_pos rfl] at H
                  replace H := Option.bind_eq_some_iff.mp H
                  obtain ⟨⟨t159, t162, t163⟩, A1180, H⟩ := H
                  try dsimp only at H
                  have A118 := aq A1180
                  clear A1180
                  by_cases c119 : t163 = true
                  ·subst c119
                   rw [if_pos rfl] at H
                   simp only [Option.some.injEq, Prod.mk.injEq] at H
                   obtain ⟨rfl, rfl, rfl, rfl, rfl, rfl, rfl, rfl, rfl, rfl, rfl, rfl⟩ := H
                   have hnb120 := NB122_101.out
                   have hnc120 := NB101_122.out
                   have hnb121 := NB122_113.out
                   have hnc121 := NB113_122.out
                   have hnb122 := NB122_152.out
                   have hnc122 := NB152_122.out
                   have hnb123 := NB122_109.out
                   have hnc123 := NB109_122.out
                   obtain ⟨k124a, k124b, k124c, k124d, k124e, k124f, k124g⟩ := cl7 (W := wc) BK122.out
                   obtain ⟨u124a, u124b, u124c, u124d, u124e, u124f, u124g⟩ := fr7 BK122.out
                   go_wp2_with (first | ((with_reducible refine gate_callee (f := 91) rfl ?_); refine goesL_ (some 81) rfl rfl Try.func91 (by kernel_rfl) rfl #[.pointer (some ⟨g109, 0, none⟩)] rfl fitR ?_; (with_reducible refine (scanEnts.calls g109 x110000_95 x110001_95 t159 t162 true w _ ?side1 ?side2 A118.out).mono ?_); (case side1 => repeat (first | (with_reducible first | exact HI109.out | apply IsS104.alloc | apply IsS104.drewN | apply IsS104.drew | apply IsS104.set_0 | apply IsS104.set_1 | refine IsS104.far ?_ NB109_101.out _ | refine IsS104.far ?_ NB109_113.out _ | refine IsS104.far ?_ NB109_122.out _ | refine IsS104.far ?_ NB109_152.out _) | exact HI109.out)); (case side2 => repeat (first | (with_reducible first | exact HB.out | apply below_alloc | apply pw_below_drewN | apply below_drew1 | refine below_set ?_ (IsS104.ge HI109.out) | refine below_set ?_ GE101.out | refine below_set ?_ GE113.out | refine below_set ?_ GE122.out | refine below_set ?_ GE152.out) | exact HB.out)); rintro e w125 ⟨v160, rfl, ho0, hi, hb, hk⟩; refine ⟨_, rfl, ?_⟩; have n0_ := aq (Kd.R_mono (Kd.R_keep (IsS104.apart (show IsS104 w _ g109 x110000_95 x110001_95 from by repeat (first | (with_reducible first | exact HI109.out | apply IsS104.alloc | apply IsS104.drewN | apply IsS104.drew | apply IsS104.set_0 | apply IsS104.set_1 | refine IsS104.far ?_ NB109_101.out _ | refine IsS104.far ?_ NB109_113.out _ | refine IsS104.far ?_ NB109_122.out _ | refine IsS104.far ?_ NB109_152.out _) | exact HI109.out)) (by (with_reducible repeat (first | apply Kd.R_alloc | apply Kd.R_drewN | apply Kd.R_drew)); exact HO_114009.out) (by decide)) hk (fun _ h => h.2)) (fun _ h => h.1)); have n1_ := aq (KeepBut.blk hk (stB BK101) NB101_109.out (by simp)); have n2_ := aq (KeepBut.blk hk (stB BK113) NB113_109.out (by simp)); have n3_ := aq (KeepBut.blk hk (stB BK122) NB122_109.out (by simp)); have n4_ := aq (KeepBut.blk hk (stB BK152) NB152_109.out (by simp)); have n5_ := aq (Kd.R_lower ho0 (below_size (IsS104.stH HB))); have n6_ := aq (hb); have n7_ := aq (hi); replace HO_114009 := n0_; replace BK101 := n1_; replace BK113 := n2_; replace BK122 := n3_; replace BK152 := n4_; have HO161 := n5_; replace HB := n6_; replace HI109 := n7_; clear n0_ n1_ n2_ n3_ n4_ n5_ n6_ n7_; (try clear hb); (try clear hk); (try clear hi); (try clear ho0); obtain ⟨Ao126, co126, eo126⟩ := Kd.R_slice HO161.out; subst eo126; have hnb127 := NB113_101.out; have hnc127 := NB101_113.out; have hnb128 := NB113_152.out; have hnc128 := NB152_113.out; have hnb129 := NB113_109.out; have hnc129 := NB109_113.out; obtain ⟨k130a, k130b, k130c, k130d, k130e, k130f, k130g, k130h, k130i, k130j, k130k⟩ := cl11 (W := w125) BK113.out; obtain ⟨u130a, u130b, u130c, u130d, u130e, u130f, u130g, u130h, u130i, u130j, u130k⟩ := fr11 BK113.out; obtain ⟨HGz131, hgz131⟩ := HI109.out; have k131a := cellS104_0 HGz131; have k131b := cellS104_1 HGz131; obtain ⟨u131a, u131b⟩ := fr2 HGz131; clear HGz131 hgz131; have hnb132 := NB101_152.out; have hnc132 := NB152_101.out; have hnb133 := NB101_109.out; have hnc133 := NB109_101.out; obtain ⟨k134a, k134b, k134c, k134d, k134e, k134f, k134g, k134h, k134i, k134j, k134k⟩ := cl11 (W := w125) BK101.out; obtain ⟨u134a, u134b, u134c, u134d, u134e, u134f, u134g, u134h, u134i, u134j, u134k⟩ := fr11 BK101.out))
                   refine bodyPost_ret (results_ct rfl _ _ gb101 55 #[.int .i64 0, .int .i64 0, .bool false, .bool false, .int .i64 0, .int .i64 0, .int .i64 0, .int .i64 0, .int .i64 0, .slice none 0 0, .slice none 0 0] (0, 0) _ rfl (by (with_reducible repeat (first | refine blk_drewN ?_ _ | refine blk_drew ?_ | refine blk_alloc ?_ _)); refine puts11 (cs := #[.int .i64 0, .int .i64 0, .bool false, .bool false, .int .i64 0, .int .i64 0, .int .i64 0, .int .i64 0, .int .i64 0, .slice none 0 0, .slice none 0 0]) rfl ?_; refine blk_far ?_ NB101_113.out _; (with_reducible repeat (first | refine blk_drewN ?_ _ | refine blk_drew ?_ | refine blk_alloc ?_ _)); exact BK101.out) Try.underlying55 rfl (by kernel_rfl)) rfl ?_
                   exact ⟨_, _, eqW, by first | exact Kd.R_nil _ _ _ _ _ | exact Kd.N_nil _ _ _ _ _ | exact Kd.V_nil _ _ _ _ _ | exact Kd.Q_nil _ _ _ _ _ | exact Kd.S_nil _ _ _ _ _, by first | exact Kd.R_nil _ _ _ _ _ | exact Kd.N_nil _ _ _ _ _ | exact Kd.V_nil _ _ _ _ _ | exact Kd.Q_nil _ _ _ _ _ | exact Kd.S_nil _ _ _ _ _, by repeat (first | (with_reducible first | exact HB.out | apply below_alloc | apply pw_below_drewN | apply below_drew1 | refine below_set ?_ (IsS104.ge HI109.out) | refine below_set ?_ GE101.out | refine below_set ?_ GE113.out | refine below_set ?_ GE122.out | refine below_set ?_ GE152.out) | exact HB.out)⟩
                  ·replace c119 := Bool.eq_false_iff.mpr c119
                   subst c119
                   rw [if_neg (show ¬ (false = true) by decide)] at H
                   by_cases c135 : t162.toList = ([] : List UInt8)
                   ·rw [if_pos c135] at H
                    have c135b0 : (t162.toList == ([] : List UInt8)) = true := beq_iff_eq.mpr c135
                    have c135b1 : (t162.toList != ([] : List UInt8)) = false := bne_eq_false_iff_eq.mpr c135
                    clear c135
                    replace H := Option.bind_eq_some_iff.mp H
                    obtain ⟨t164, A1360, H⟩ := H
                    try dsimp only at H
                    have A136 := aq A1360
                    clear A1360
                    by_cases c137 : t164 = true
                    ·subst c137
                     rw [if_pos rfl] at H
                     simp only [Option.some.injEq, Prod.mk.injEq] at H
                     obtain ⟨rfl, rfl, rfl, rfl, rfl, rfl, rfl, rfl, rfl, rfl, rfl, rfl⟩ := H
                     have hnb138 := NB122_101.out
                     have hnc138 := NB101_122.out
                     have hnb139 := NB122_113.out
                     have hnc139 := NB113_122.out
                     have hnb140 := NB122_152.out
                     have hnc140 := NB152_122.out
                     have hnb141 := NB122_109.out
                     have hnc141 := NB109_122.out
                     obtain ⟨k142a, k142b, k142c, k142d, k142e, k142f, k142g⟩ := cl7 (W := wc) BK122.out
                     obtain ⟨u142a, u142b, u142c, u142d, u142e, u142f, u142g⟩ := fr7 BK122.out
                     go_wp2_with (first | ((with_reducible refine gate_callee (f := 91) rfl ?_); refine goesL_ (some 81) rfl rfl Try.func91 (by kernel_rfl) rfl #[.pointer (some ⟨g109, 0, none⟩)] rfl fitR ?_; (with_reducible refine (scanEnts.calls g109 x110000_95 x110001_95 t159 t162 false w _ ?side1 ?side2 A118.out).mono ?_); (case side1 => repeat (first | (with_reducible first | exact HI109.out | apply IsS104.alloc | apply IsS104.drewN | apply IsS104.drew | apply IsS104.set_0 | apply IsS104.set_1 | refine IsS104.far ?_ NB109_101.out _ | refine IsS104.far ?_ NB109_113.out _ | refine IsS104.far ?_ NB109_122.out _ | refine IsS104.far ?_ NB109_152.out _) | exact HI109.out)); (case side2 => repeat (first | (with_reducible first | exact HB.out | apply below_alloc | apply pw_below_drewN | apply below_drew1 | refine below_set ?_ (IsS104.ge HI109.out) | refine below_set ?_ GE101.out | refine below_set ?_ GE113.out | refine below_set ?_ GE122.out | refine below_set ?_ GE152.out) | exact HB.out)); rintro e w143 ⟨v160, rfl, ho0, hi, hb, hk⟩; refine ⟨_, rfl, ?_⟩; have n0_ := aq (Kd.R_mono (Kd.R_keep (IsS104.apart (show IsS104 w _ g109 x110000_95 x110001_95 from by repeat (first | (with_reducible first | exact HI109.out | apply IsS104.alloc | apply IsS104.drewN | apply IsS104.drew | apply IsS104.set_0 | apply IsS104.set_1 | refine IsS104.far ?_ NB109_101.out _ | refine IsS104.far ?_ NB109_113.out _ | refine IsS104.far ?_ NB109_122.out _ | refine IsS104.far ?_ NB109_152.out _) | exact HI109.out)) (by (with_reducible repeat (first | apply Kd.R_alloc | apply Kd.R_drewN | apply Kd.R_drew)); exact HO_114009.out) (by decide)) hk (fun _ h => h.2)) (fun _ h => h.1)); have n1_ := aq (KeepBut.blk hk (stB BK101) NB101_109.out (by simp)); have n2_ := aq (KeepBut.blk hk (stB BK113) NB113_109.out (by simp)); have n3_ := aq (KeepBut.blk hk (stB BK122) NB122_109.out (by simp)); have n4_ := aq (KeepBut.blk hk (stB BK152) NB152_109.out (by simp)); have n5_ := aq (Kd.R_lower ho0 (below_size (IsS104.stH HB))); have n6_ := aq (hb); have n7_ := aq (hi); replace HO_114009 := n0_; replace BK101 := n1_; replace BK113 := n2_; replace BK122 := n3_; replace BK152 := n4_; have HO161 := n5_; replace HB := n6_; replace HI109 := n7_; clear n0_ n1_ n2_ n3_ n4_ n5_ n6_ n7_; (try clear hb); (try clear hk); (try clear hi); (try clear ho0); obtain ⟨Ao144, co144, eo144⟩ := Kd.R_slice HO161.out; subst eo144; have hnb145 := NB113_101.out; have hnc145 := NB101_113.out; have hnb146 := NB113_152.out; have hnc146 := NB152_113.out; have hnb147 := NB113_109.out; have hnc147 := NB109_113.out; obtain ⟨k148a, k148b, k148c, k148d, k148e, k148f, k148g, k148h, k148i, k148j, k148k⟩ := cl11 (W := w143) BK113.out; obtain ⟨u148a, u148b, u148c, u148d, u148e, u148f, u148g, u148h, u148i, u148j, u148k⟩ := fr11 BK113.out; obtain ⟨HGz149, hgz149⟩ := HI109.out; have k149a := cellS104_0 HGz149; have k149b := cellS104_1 HGz149; obtain ⟨u149a, u149b⟩ := fr2 HGz149; clear HGz149 hgz149; obtain ⟨Ao150, co150, eo150⟩ := Kd.R_slice HO_114009.out; subst eo150) | (go_at_call 49; (with_reducible refine (noteGood.calls t110 x114001_14 x114002_42 x114003_54 x114004_82 x114005_66 x114006_66 x114007_66 x114008_95 _ _ x114009_95 _ _ t159 true _ ?side1 ?side2 ?side3 ?side4 A136.out).mono ?_); (case side1 => refine (Kd.R_reads' (e := 33) (base := w.heap.size) (ok := fun k_ => True) (n := x114009_95.length) (c := co150) ?_).2.2; exact (by (with_reducible repeat (first | apply Kd.R_alloc | apply Kd.R_drewN | apply Kd.R_drew)); exact (Kd.R_mono (Kd.R_far (p := ⟨gb113, 10, none⟩) (Kd.R_types HO_114009.out BK113.out (by decide)) (fun _ hk => hk.2) (.slice Ao144 t159.length co144)) (fun _ h_ => h_.1)))); (case side2 => exact (Kd.R_reads' HO_114009.out).2.1); (case side3 => refine (Kd.R_reads' (e := 65) (base := w.heap.size) (ok := fun k_ => True) (n := t159.length) (c := co144) ?_).2.2; exact (by (with_reducible repeat (first | apply Kd.R_alloc | apply Kd.R_drewN | apply Kd.R_drew)); exact (Kd.R_mono (Kd.R_far (p := ⟨gb113, 10, none⟩) (Kd.R_types HO161.out BK113.out (by decide)) (fun _ hk => hk.2) (.slice Ao144 t159.length co144)) (fun _ h_ => h_.1)))); (case side4 => exact (Kd.R_reads' HO161.out).2.1); rintro e w151 ⟨rfl, hb⟩; have n0_ := aq (Kd.R_below (by (with_reducible repeat (first | apply Kd.R_alloc | apply Kd.R_drewN | apply Kd.R_drew)); exact (Kd.R_mono (Kd.R_far (p := ⟨gb113, 10, none⟩) (Kd.R_types HO_114009.out BK113.out (by decide)) (fun _ hk => hk.2) (.slice Ao144 t159.length co144)) (fun _ h_ => h_.1))) hb); have n1_ := aq (Kd.R_below (by (with_reducible repeat (first | apply Kd.R_alloc | apply Kd.R_drewN | apply Kd.R_drew)); exact (Kd.R_mono (Kd.R_far (p := ⟨gb113, 10, none⟩) (Kd.R_types HO161.out BK113.out (by decide)) (fun _ hk => hk.2) (.slice Ao144 t159.length co144)) (fun _ h_ => h_.1))) hb); have n2_ := aq (blk_below (g := gb101) (o := .cells #[.int .i64 0, .int .i64 0, .bool false, .bool false, .int .i64 0, .int .i64 0, .int .i64 0, .int .i64 0, .int .i64 0, .slice none 0 0, .slice none 0 0] 55 (0, 0)) (stF BK101) hb); have n3_ := aq (blk_below (g := gb113) (o := .cells #[.int .i64 t110, .int .i64 x114001_14, .bool x114002_42, .bool x114003_54, .int .i64 x114004_82, .int .i64 x114005_66, .int .i64 x114006_66, .int .i64 x114007_66, .int .i64 x114008_95, .slice Ao150 x114009_95.length co150, .slice Ao144 t159.length co144] 55 (0, 0)) (by (with_reducible repeat (first | refine blk_drewN ?_ _ | refine blk_drew ?_ | refine blk_alloc ?_ _)); refine blk_put (cs := #[.int .i64 t110, .int .i64 x114001_14, .bool x114002_42, .bool x114003_54, .int .i64 x114004_82, .int .i64 x114005_66, .int .i64 x114006_66, .int .i64 x114007_66, .int .i64 x114008_95, .slice Ao150 x114009_95.length co150, .slice none 0 0]) ?_ 10 _ rfl; (with_reducible repeat (first | refine blk_drewN ?_ _ | refine blk_drew ?_ | refine blk_alloc ?_ _)); exact BK113.out) hb); have n4_ := aq (blk_below (g := gb122) (o := .cells #[.bool t114, .bool t115, .bool t116, .bool t117, .bool t118, .bool t119, .bool true] 107 (0, 0)) (stF BK122) hb); have n5_ := aq (blk_below (g := gb152) (o := .cells #[.bool t144, .bool t145, .bool t146, .bool t147, .bool t148, .bool t149, .bool t150] 107 (0, 0)) (stF BK152) hb); have n6_ := aq (IsS104.below (show IsS104 w (w143.setCell ⟨gb113, 10, none⟩ (.slice Ao144 t159.length co144)) g109 t162 false from by repeat (first | (with_reducible first | exact HI109.out | apply IsS104.alloc | apply IsS104.drewN | apply IsS104.drew | apply IsS104.set_0 | apply IsS104.set_1 | refine IsS104.far ?_ NB109_101.out _ | refine IsS104.far ?_ NB109_113.out _ | refine IsS104.far ?_ NB109_122.out _ | refine IsS104.far ?_ NB109_152.out _) | exact HI109.out)) hb); have n7_ := aq (below_step (IsS104.stH HB) hb); replace HO_114009 := n0_; replace HO161 := n1_; replace BK101 := n2_; replace BK113 := n3_; replace BK122 := n4_; replace BK152 := n5_; replace HI109 := n6_; replace HB := n7_; clear n0_ n1_ n2_ n3_ n4_ n5_ n6_ n7_; (try clear hb); (try clear hk); obtain ⟨k152a, k152b, k152c, k152d, k152e, k152f, k152g, k152h, k152i, k152j, k152k⟩ := cl11 (W := w151) BK113.out; obtain ⟨u152a, u152b, u152c, u152d, u152e, u152f, u152g, u152h, u152i, u152j, u152k⟩ := fr11 BK113.out; have hnb153 := NB101_152.out; have hnc153 := NB152_101.out; have hnb154 := NB101_109.out; have hnc154 := NB109_101.out; obtain ⟨k155a, k155b, k155c, k155d, k155e, k155f, k155g, k155h, k155i, k155j, k155k⟩ := cl11 (W := w151) BK101.out; obtain ⟨u155a, u155b, u155c, u155d, u155e, u155f, u155g, u155h, u155i, u155j, u155k⟩ := fr11 BK101.out))
                     refine bodyPost_ret (results_ct rfl _ _ gb101 55 #[.int .i64 t110, .int .i64 x114001_14, .bool x114002_42, .bool x114003_54, .int .i64 x114004_82, .int .i64 x114005_66, .int .i64 x114006_66, .int .i64 x114007_66, .int .i64 x114008_95, .slice Ao150 x114009_95.length co150, .slice Ao144 t159.length co144] (0, 0) _ rfl (by (with_reducible repeat (first | refine blk_drewN ?_ _ | refine blk_drew ?_ | refine blk_alloc ?_ _)); refine puts11 (cs := #[.int .i64 0, .int .i64 0, .bool false, .bool false, .int .i64 0, .int .i64 0, .int .i64 0, .int .i64 0, .int .i64 0, .slice none 0 0, .slice none 0 0]) rfl ?_; (with_reducible repeat (first | refine blk_drewN ?_ _ | refine blk_drew ?_ | refine blk_alloc ?_ _)); exact BK101.out) Try.underlying55 rfl (by kernel_rfl)) rfl ?_
                     exact ⟨_, _, eqW, by (with_reducible repeat (first | apply Kd.R_alloc | apply Kd.R_drewN | apply Kd.R_drew)); exact Kd.R_mono (Kd.R_far (p := ⟨gb101, 10, none⟩) (Kd.R_far (p := ⟨gb101, 9, none⟩) (Kd.R_far (p := ⟨gb101, 8, none⟩) (Kd.R_far (p := ⟨gb101, 7, none⟩) (Kd.R_far (p := ⟨gb101, 6, none⟩) (Kd.R_far (p := ⟨gb101, 5, none⟩) (Kd.R_far (p := ⟨gb101, 4, none⟩) (Kd.R_far (p := ⟨gb101, 3, none⟩) (Kd.R_far (p := ⟨gb101, 2, none⟩) (Kd.R_far (p := ⟨gb101, 1, none⟩) (Kd.R_far (p := ⟨gb101, 0, none⟩) (Kd.R_types HO_114009.out BK101.out (by decide)) (fun _ hk => hk.2) (.int .i64 t110)) (fun _ hk => hk.2) (.int .i64 x114001_14)) (fun _ hk => hk.2) (.bool x114002_42)) (fun _ hk => hk.2) (.bool x114003_54)) (fun _ hk => hk.2) (.int .i64 x114004_82)) (fun _ hk => hk.2) (.int .i64 x114005_66)) (fun _ hk => hk.2) (.int .i64 x114006_66)) (fun _ hk => hk.2) (.int .i64 x114007_66)) (fun _ hk => hk.2) (.int .i64 x114008_95)) (fun _ hk => hk.2) (.slice Ao150 x114009_95.length co150)) (fun _ hk => hk.2) (.slice Ao144 t159.length co144)) (fun _ hk => trivial), by (with_reducible repeat (first | apply Kd.R_alloc | apply Kd.R_drewN | apply Kd.R_drew)); exact Kd.R_mono (Kd.R_far (p := ⟨gb101, 10, none⟩) (Kd.R_far (p := ⟨gb101, 9, none⟩) (Kd.R_far (p := ⟨gb101, 8, none⟩) (Kd.R_far (p := ⟨gb101, 7, none⟩) (Kd.R_far (p := ⟨gb101, 6, none⟩) (Kd.R_far (p := ⟨gb101, 5, none⟩) (Kd.R_far (p := ⟨gb101, 4, none⟩) (Kd.R_far (p := ⟨gb101, 3, none⟩) (Kd.R_far (p := ⟨gb101, 2, none⟩) (Kd.R_far (p := ⟨gb101, 1, none⟩) (Kd.R_far (p := ⟨gb101, 0, none⟩) (Kd.R_types HO161.out BK101.out (by decide)) (fun _ hk => hk.2) (.int .i64 t110)) (fun _ hk => hk.2) (.int .i64 x114001_14)) (fun _ hk => hk.2) (.bool x114002_42)) (fun _ hk => hk.2) (.bool x114003_54)) (fun _ hk => hk.2) (.int .i64 x114004_82)) (fun _ hk => hk.2) (.int .i64 x114005_66)) (fun _ hk => hk.2) (.int .i64 x114006_66)) (fun _ hk => hk.2) (.int .i64 x114007_66)) (fun _ hk => hk.2) (.int .i64 x114008_95)) (fun _ hk => hk.2) (.slice Ao150 x114009_95.length co150)) (fun _ hk => hk.2) (.slice Ao144 t159.length co144)) (fun _ hk => trivial), by repeat (first | (with_reducible first | exact HB.out | apply below_alloc | apply pw_below_drewN | apply below_drew1 | refine below_set ?_ (IsS104.ge HI109.out) | refine below_set ?_ GE101.out | refine below_set ?_ GE113.out | refine below_set ?_ GE122.out | refine below_set ?_ GE152.out) | exact HB.out)⟩
                    ·replace c137 := Bool.eq_false_iff.mpr c137
                     subst c137
                     rw [if_neg (show ¬ (false = true) by decide)] at H
                     simp only [Option.some.injEq, Prod.mk.injEq] at H
                     obtain ⟨rfl, rfl, rfl, rfl, rfl, rfl, rfl, rfl, rfl, rfl, rfl, rfl⟩ := H
                     have hnb156 := NB122_101.out
                     have hnc156 := NB101_122.out
                     have hnb157 := NB122_113.out
                     have hnc157 := NB113_122.out
                     have hnb158 := NB122_152.out
                     have hnc158 := NB152_122.out
                     have hnb159 := NB122_109.out
                     have hnc159 := NB109_122.out
                     obtain ⟨k160a, k160b, k160c, k160d, k160e, k160f, k160g⟩ := cl7 (W := wc) BK122.out
                     obtain ⟨u160a, u160b, u160c, u160d, u160e, u160f, u160g⟩ := fr7 BK122.out
                     go_wp2_with (first | ((with_reducible refine gate_callee (f := 91) rfl ?_); refine goesL_ (some 81) rfl rfl Try.func91 (by kernel_rfl) rfl #[.pointer (some ⟨g109, 0, none⟩)] rfl fitR ?_; (with_reducible refine (scanEnts.calls g109 x110000_95 x110001_95 t159 t162 false w _ ?side1 ?side2 A118.out).mono ?_); (case side1 => repeat (first | (with_reducible first | exact HI109.out | apply IsS104.alloc | apply IsS104.drewN | apply IsS104.drew | apply IsS104.set_0 | apply IsS104.set_1 | refine IsS104.far ?_ NB109_101.out _ | refine IsS104.far ?_ NB109_113.out _ | refine IsS104.far ?_ NB109_122.out _ | refine IsS104.far ?_ NB109_152.out _) | exact HI109.out)); (case side2 => repeat (first | (with_reducible first | exact HB.out | apply below_alloc | apply pw_below_drewN | apply below_drew1 | refine below_set ?_ (IsS104.ge HI109.out) | refine below_set ?_ GE101.out | refine below_set ?_ GE113.out | refine below_set ?_ GE122.out | refine below_set ?_ GE152.out) | exact HB.out)); rintro e w161 ⟨v160, rfl, ho0, hi, hb, hk⟩; refine ⟨_, rfl, ?_⟩; have n0_ := aq (Kd.R_mono (Kd.R_keep (IsS104.apart (show IsS104 w _ g109 x110000_95 x110001_95 from by repeat (first | (with_reducible first | exact HI109.out | apply IsS104.alloc | apply IsS104.drewN | apply IsS104.drew | apply IsS104.set_0 | apply IsS104.set_1 | refine IsS104.far ?_ NB109_101.out _ | refine IsS104.far ?_ NB109_113.out _ | refine IsS104.far ?_ NB109_122.out _ | refine IsS104.far ?_ NB109_152.out _) | exact HI109.out)) (by (with_reducible repeat (first | apply Kd.R_alloc | apply Kd.R_drewN | apply Kd.R_drew)); exact HO_114009.out) (by decide)) hk (fun _ h => h.2)) (fun _ h => h.1)); have n1_ := aq (KeepBut.blk hk (stB BK101) NB101_109.out (by simp)); have n2_ := aq (KeepBut.blk hk (stB BK113) NB113_109.out (by simp)); have n3_ := aq (KeepBut.blk hk (stB BK122) NB122_109.out (by simp)); have n4_ := aq (KeepBut.blk hk (stB BK152) NB152_109.out (by simp)); have n5_ := aq (Kd.R_lower ho0 (below_size (IsS104.stH HB))); have n6_ := aq (hb); have n7_ := aq (hi); replace HO_114009 := n0_; replace BK101 := n1_; replace BK113 := n2_; replace BK122 := n3_; replace BK152 := n4_; have HO161 := n5_; replace HB := n6_; replace HI109 := n7_; clear n0_ n1_ n2_ n3_ n4_ n5_ n6_ n7_; (try clear hb); (try clear hk); (try clear hi); (try clear ho0); obtain ⟨Ao162, co162, eo162⟩ := Kd.R_slice HO161.out; subst eo162; have hnb163 := NB113_101.out; have hnc163 := NB101_113.out; have hnb164 := NB113_152.out; have hnc164 := NB152_113.out; have hnb165 := NB113_109.out; have hnc165 := NB109_113.out; obtain ⟨k166a, k166b, k166c, k166d, k166e, k166f, k166g, k166h, k166i, k166j, k166k⟩ := cl11 (W := w161) BK113.out; obtain ⟨u166a, u166b, u166c, u166d, u166e, u166f, u166g, u166h, u166i, u166j, u166k⟩ := fr11 BK113.out; obtain ⟨HGz167, hgz167⟩ := HI109.out; have k167a := cellS104_0 HGz167; have k167b := cellS104_1 HGz167; obtain ⟨u167a, u167b⟩ := fr2 HGz167; clear HGz167 hgz167; obtain ⟨Ao168, co168, eo168⟩ := Kd.R_slice HO_114009.out; subst eo168) | (go_at_call 49; (with_reducible refine (noteGood.calls t110 x114001_14 x114002_42 x114003_54 x114004_82 x114005_66 x114006_66 x114007_66 x114008_95 _ _ x114009_95 _ _ t159 false _ ?side1 ?side2 ?side3 ?side4 A136.out).mono ?_); (case side1 => refine (Kd.R_reads' (e := 33) (base := w.heap.size) (ok := fun k_ => True) (n := x114009_95.length) (c := co168) ?_).2.2; exact (by (with_reducible repeat (first | apply Kd.R_alloc | apply Kd.R_drewN | apply Kd.R_drew)); exact (Kd.R_mono (Kd.R_far (p := ⟨gb113, 10, none⟩) (Kd.R_types HO_114009.out BK113.out (by decide)) (fun _ hk => hk.2) (.slice Ao162 t159.length co162)) (fun _ h_ => h_.1)))); (case side2 => exact (Kd.R_reads' HO_114009.out).2.1); (case side3 => refine (Kd.R_reads' (e := 65) (base := w.heap.size) (ok := fun k_ => True) (n := t159.length) (c := co162) ?_).2.2; exact (by (with_reducible repeat (first | apply Kd.R_alloc | apply Kd.R_drewN | apply Kd.R_drew)); exact (Kd.R_mono (Kd.R_far (p := ⟨gb113, 10, none⟩) (Kd.R_types HO161.out BK113.out (by decide)) (fun _ hk => hk.2) (.slice Ao162 t159.length co162)) (fun _ h_ => h_.1)))); (case side4 => exact (Kd.R_reads' HO161.out).2.1); rintro e w169 ⟨rfl, hb⟩; have n0_ := aq (Kd.R_below (by (with_reducible repeat (first | apply Kd.R_alloc | apply Kd.R_drewN | apply Kd.R_drew)); exact (Kd.R_mono (Kd.R_far (p := ⟨gb113, 10, none⟩) (Kd.R_types HO_114009.out BK113.out (by decide)) (fun _ hk => hk.2) (.slice Ao162 t159.length co162)) (fun _ h_ => h_.1))) hb); have n1_ := aq (Kd.R_below (by (with_reducible repeat (first | apply Kd.R_alloc | apply Kd.R_drewN | apply Kd.R_drew)); exact (Kd.R_mono (Kd.R_far (p := ⟨gb113, 10, none⟩) (Kd.R_types HO161.out BK113.out (by decide)) (fun _ hk => hk.2) (.slice Ao162 t159.length co162)) (fun _ h_ => h_.1))) hb); have n2_ := aq (blk_below (g := gb101) (o := .cells #[.int .i64 0, .int .i64 0, .bool false, .bool false, .int .i64 0, .int .i64 0, .int .i64 0, .int .i64 0, .int .i64 0, .slice none 0 0, .slice none 0 0] 55 (0, 0)) (stF BK101) hb); have n3_ := aq (blk_below (g := gb113) (o := .cells #[.int .i64 t110, .int .i64 x114001_14, .bool x114002_42, .bool x114003_54, .int .i64 x114004_82, .int .i64 x114005_66, .int .i64 x114006_66, .int .i64 x114007_66, .int .i64 x114008_95, .slice Ao168 x114009_95.length co168, .slice Ao162 t159.length co162] 55 (0, 0)) (by (with_reducible repeat (first | refine blk_drewN ?_ _ | refine blk_drew ?_ | refine blk_alloc ?_ _)); refine blk_put (cs := #[.int .i64 t110, .int .i64 x114001_14, .bool x114002_42, .bool x114003_54, .int .i64 x114004_82, .int .i64 x114005_66, .int .i64 x114006_66, .int .i64 x114007_66, .int .i64 x114008_95, .slice Ao168 x114009_95.length co168, .slice none 0 0]) ?_ 10 _ rfl; (with_reducible repeat (first | refine blk_drewN ?_ _ | refine blk_drew ?_ | refine blk_alloc ?_ _)); exact BK113.out) hb); have n4_ := aq (blk_below (g := gb122) (o := .cells #[.bool t114, .bool t115, .bool t116, .bool t117, .bool t118, .bool t119, .bool true] 107 (0, 0)) (stF BK122) hb); have n5_ := aq (blk_below (g := gb152) (o := .cells #[.bool t144, .bool t145, .bool t146, .bool t147, .bool t148, .bool t149, .bool t150] 107 (0, 0)) (stF BK152) hb); have n6_ := aq (IsS104.below (show IsS104 w (w161.setCell ⟨gb113, 10, none⟩ (.slice Ao162 t159.length co162)) g109 t162 false from by repeat (first | (with_reducible first | exact HI109.out | apply IsS104.alloc | apply IsS104.drewN | apply IsS104.drew | apply IsS104.set_0 | apply IsS104.set_1 | refine IsS104.far ?_ NB109_101.out _ | refine IsS104.far ?_ NB109_113.out _ | refine IsS104.far ?_ NB109_122.out _ | refine IsS104.far ?_ NB109_152.out _) | exact HI109.out)) hb); have n7_ := aq (below_step (IsS104.stH HB) hb); replace HO_114009 := n0_; replace HO161 := n1_; replace BK101 := n2_; replace BK113 := n3_; replace BK122 := n4_; replace BK152 := n5_; replace HI109 := n6_; replace HB := n7_; clear n0_ n1_ n2_ n3_ n4_ n5_ n6_ n7_; (try clear hb); (try clear hk); have hnb170 := NB101_152.out; have hnc170 := NB152_101.out; have hnb171 := NB101_109.out; have hnc171 := NB109_101.out; obtain ⟨k172a, k172b, k172c, k172d, k172e, k172f, k172g, k172h, k172i, k172j, k172k⟩ := cl11 (W := w169) BK101.out; obtain ⟨u172a, u172b, u172c, u172d, u172e, u172f, u172g, u172h, u172i, u172j, u172k⟩ := fr11 BK101.out))
                     refine bodyPost_ret (results_ct rfl _ _ gb101 55 #[.int .i64 0, .int .i64 0, .bool false, .bool false, .int .i64 0, .int .i64 0, .int .i64 0, .int .i64 0, .int .i64 0, .slice none 0 0, .slice none 0 0] (0, 0) _ rfl (by (with_reducible repeat (first | refine blk_drewN ?_ _ | refine blk_drew ?_ | refine blk_alloc ?_ _)); refine puts11 (cs := #[.int .i64 0, .int .i64 0, .bool false, .bool false, .int .i64 0, .int .i64 0, .int .i64 0, .int .i64 0, .int .i64 0, .slice none 0 0, .slice none 0 0]) rfl ?_; (with_reducible repeat (first | refine blk_drewN ?_ _ | refine blk_drew ?_ | refine blk_alloc ?_ _)); exact BK101.out) Try.underlying55 rfl (by kernel_rfl)) rfl ?_
                     exact ⟨_, _, eqW, by first | exact Kd.R_nil _ _ _ _ _ | exact Kd.N_nil _ _ _ _ _ | exact Kd.V_nil _ _ _ _ _ | exact Kd.Q_nil _ _ _ _ _ | exact Kd.S_nil _ _ _ _ _, by first | exact Kd.R_nil _ _ _ _ _ | exact Kd.N_nil _ _ _ _ _ | exact Kd.V_nil _ _ _ _ _ | exact Kd.Q_nil _ _ _ _ _ | exact Kd.S_nil _ _ _ _ _, by repeat (first | (with_reducible first | exact HB.out | apply below_alloc | apply pw_below_drewN | apply below_drew1 | refine below_set ?_ (IsS104.ge HI109.out) | refine below_set ?_ GE101.out | refine below_set ?_ GE113.out | refine below_set ?_ GE122.out | refine below_set ?_ GE152.out) | exact HB.out)⟩
                   ·rw [if_neg c135] at H
                    have c135b0 : (t162.toList == ([] : List UInt8)) = false := beq_eq_false_iff_ne.mpr c135
                    have c135b1 : (t162.toList != ([] : List UInt8)) = true := bne_iff_ne.mpr c135
                    simp only [Option.some.injEq, Prod.mk.injEq] at H
                    obtain ⟨rfl, rfl, rfl, rfl, rfl, rfl, rfl, rfl, rfl, rfl, rfl, rfl⟩ := H
                    have hnb173 := NB122_101.out
                    have hnc173 := NB101_122.out
                    have hnb174 := NB122_113.out
                    have hnc174 := NB113_122.out
                    have hnb175 := NB122_152.out
                    have hnc175 := NB152_122.out
                    have hnb176 := NB122_109.out
                    have hnc176 := NB109_122.out
                    obtain ⟨k177a, k177b, k177c, k177d, k177e, k177f, k177g⟩ := cl7 (W := wc) BK122.out
                    obtain ⟨u177a, u177b, u177c, u177d, u177e, u177f, u177g⟩ := fr7 BK122.out
                    go_wp2_with (first | ((with_reducible refine gate_callee (f := 91) rfl ?_); refine goesL_ (some 81) rfl rfl Try.func91 (by kernel_rfl) rfl #[.pointer (some ⟨g109, 0, none⟩)] rfl fitR ?_; (with_reducible refine (scanEnts.calls g109 x110000_95 x110001_95 t159 t162 false w _ ?side1 ?side2 A118.out).mono ?_); (case side1 => repeat (first | (with_reducible first | exact HI109.out | apply IsS104.alloc | apply IsS104.drewN | apply IsS104.drew | apply IsS104.set_0 | apply IsS104.set_1 | refine IsS104.far ?_ NB109_101.out _ | refine IsS104.far ?_ NB109_113.out _ | refine IsS104.far ?_ NB109_122.out _ | refine IsS104.far ?_ NB109_152.out _) | exact HI109.out)); (case side2 => repeat (first | (with_reducible first | exact HB.out | apply below_alloc | apply pw_below_drewN | apply below_drew1 | refine below_set ?_ (IsS104.ge HI109.out) | refine below_set ?_ GE101.out | refine below_set ?_ GE113.out | refine below_set ?_ GE122.out | refine below_set ?_ GE152.out) | exact HB.out)); rintro e w178 ⟨v160, rfl, ho0, hi, hb, hk⟩; refine ⟨_, rfl, ?_⟩; have n0_ := aq (Kd.R_mono (Kd.R_keep (IsS104.apart (show IsS104 w _ g109 x110000_95 x110001_95 from by repeat (first | (with_reducible first | exact HI109.out | apply IsS104.alloc | apply IsS104.drewN | apply IsS104.drew | apply IsS104.set_0 | apply IsS104.set_1 | refine IsS104.far ?_ NB109_101.out _ | refine IsS104.far ?_ NB109_113.out _ | refine IsS104.far ?_ NB109_122.out _ | refine IsS104.far ?_ NB109_152.out _) | exact HI109.out)) (by (with_reducible repeat (first | apply Kd.R_alloc | apply Kd.R_drewN | apply Kd.R_drew)); exact HO_114009.out) (by decide)) hk (fun _ h => h.2)) (fun _ h => h.1)); have n1_ := aq (KeepBut.blk hk (stB BK101) NB101_109.out (by simp)); have n2_ := aq (KeepBut.blk hk (stB BK113) NB113_109.out (by simp)); have n3_ := aq (KeepBut.blk hk (stB BK122) NB122_109.out (by simp)); have n4_ := aq (KeepBut.blk hk (stB BK152) NB152_109.out (by simp)); have n5_ := aq (Kd.R_lower ho0 (below_size (IsS104.stH HB))); have n6_ := aq (hb); have n7_ := aq (hi); replace HO_114009 := n0_; replace BK101 := n1_; replace BK113 := n2_; replace BK122 := n3_; replace BK152 := n4_; have HO161 := n5_; replace HB := n6_; replace HI109 := n7_; clear n0_ n1_ n2_ n3_ n4_ n5_ n6_ n7_; (try clear hb); (try clear hk); (try clear hi); (try clear ho0); obtain ⟨Ao179, co179, eo179⟩ := Kd.R_slice HO161.out; subst eo179; have hnb180 := NB113_101.out; have hnc180 := NB101_113.out; have hnb181 := NB113_152.out; have hnc181 := NB152_113.out; have hnb182 := NB113_109.out; have hnc182 := NB109_113.out; obtain ⟨k183a, k183b, k183c, k183d, k183e, k183f, k183g, k183h, k183i, k183j, k183k⟩ := cl11 (W := w178) BK113.out; obtain ⟨u183a, u183b, u183c, u183d, u183e, u183f, u183g, u183h, u183i, u183j, u183k⟩ := fr11 BK113.out; obtain ⟨HGz184, hgz184⟩ := HI109.out; have k184a := cellS104_0 HGz184; have k184b := cellS104_1 HGz184; obtain ⟨u184a, u184b⟩ := fr2 HGz184; clear HGz184 hgz184; have hnb185 := NB101_152.out; have hnc185 := NB152_101.out; have hnb186 := NB101_109.out; have hnc186 := NB109_101.out; obtain ⟨k187a, k187b, k187c, k187d, k187e, k187f, k187g, k187h, k187i, k187j, k187k⟩ := cl11 (W := w178) BK101.out; obtain ⟨u187a, u187b, u187c, u187d, u187e, u187f, u187g, u187h, u187i, u187j, u187k⟩ := fr11 BK101.out))
                    refine bodyPost_ret (results_ct rfl _ _ gb101 55 #[.int .i64 0, .int .i64 0, .bool false, .bool false, .int .i64 0, .int .i64 0, .int .i64 0, .int .i64 0, .int .i64 0, .slice none 0 0, .slice none 0 0] (0, 0) _ rfl (by (with_reducible repeat (first | refine blk_drewN ?_ _ | refine blk_drew ?_ | refine blk_alloc ?_ _)); refine puts11 (cs := #[.int .i64 0, .int .i64 0, .bool false, .bool false, .int .i64 0, .int .i64 0, .int .i64 0, .int .i64 0, .int .i64 0, .slice none 0 0, .slice none 0 0]) rfl ?_; refine blk_far ?_ NB101_113.out _; (with_reducible repeat (first | refine blk_drewN ?_ _ | refine blk_drew ?_ | refine blk_alloc ?_ _)); exact BK101.out) Try.underlying55 rfl (by kernel_rfl)) rfl ?_
                    exact ⟨_, _, eqW, by first | exact Kd.R_nil _ _ _ _ _ | exact Kd.N_nil _ _ _ _ _ | exact Kd.V_nil _ _ _ _ _ | exact Kd.Q_nil _ _ _ _ _ | exact Kd.S_nil _ _ _ _ _, by first | exact Kd.R_nil _ _ _ _ _ | exact Kd.N_nil _ _ _ _ _ | exact Kd.V_nil _ _ _ _ _ | exact Kd.Q_nil _ _ _ _ _ | exact Kd.S_nil _ _ _ _ _, by repeat (first | (with_reducible first | exact HB.out | apply below_alloc | apply pw_below_drewN | apply below_drew1 | refine below_set ?_ (IsS104.ge HI109.out) | refine below_set ?_ GE101.out | refine below_set ?_ GE113.out | refine below_set ?_ GE122.out | refine below_set ?_ GE152.out) | exact HB.out)⟩
                 ·replace c117 := Bool.eq_false_iff.mpr c117
                  subst c117
                  rw [if_neg (show ¬ (false = true) by decide)] at H
                  by_cases c188 : x110001_95 = true
                  ·subst c188
                   rw [if_pos rfl] at H
                   simp only [Option.some.injEq, Prod.mk.injEq] at H
                   obtain ⟨rfl, rfl, rfl, rfl, rfl, rfl, rfl, rfl, rfl, rfl, rfl, rfl⟩ := H
                   have hnb189 := NB122_101.out
                   have hnc189 := NB101_122.out
                   have hnb190 := NB122_113.out
                   have hnc190 := NB113_122.out
                   have hnb191 := NB122_152.out
                   have hnc191 := NB152_122.out
                   have hnb192 := NB122_109.out
                   have hnc192 := NB109_122.out
                   obtain ⟨k193a, k193b, k193c, k193d, k193e, k193f, k193g⟩ := cl7 (W := wc) BK122.out
                   obtain ⟨u193a, u193b, u193c, u193d, u193e, u193f, u193g⟩ := fr7 BK122.out
                   obtain ⟨HGz194, hgz194⟩ := HI109.out
                   have k194a := cellS104_0 HGz194
                   have k194b := cellS104_1 HGz194
                   obtain ⟨u194a, u194b⟩ := fr2 HGz194
                   clear HGz194 hgz194
                   have hnb195 := NB101_113.out
                   have hnc195 := NB113_101.out
                   have hnb196 := NB101_152.out
                   have hnc196 := NB152_101.out
                   have hnb197 := NB101_109.out
                   have hnc197 := NB109_101.out
                   obtain ⟨k198a, k198b, k198c, k198d, k198e, k198f, k198g, k198h, k198i, k198j, k198k⟩ := cl11 (W := wc) BK101.out
                   obtain ⟨u198a, u198b, u198c, u198d, u198e, u198f, u198g, u198h, u198i, u198j, u198k⟩ := fr11 BK101.out
                   go_wp2
                   refine bodyPost_ret (results_ct rfl _ _ gb101 55 #[.int .i64 0, .int .i64 0, .bool false, .bool false, .int .i64 0, .int .i64 0, .int .i64 0, .int .i64 0, .int .i64 0, .slice none 0 0, .slice none 0 0] (0, 0) _ rfl (by (with_reducible repeat (first | refine blk_drewN ?_ _ | refine blk_drew ?_ | refine blk_alloc ?_ _)); refine puts11 (cs := #[.int .i64 0, .int .i64 0, .bool false, .bool false, .int .i64 0, .int .i64 0, .int .i64 0, .int .i64 0, .int .i64 0, .slice none 0 0, .slice none 0 0]) rfl ?_; (with_reducible repeat (first | refine blk_drewN ?_ _ | refine blk_drew ?_ | refine blk_alloc ?_ _)); exact BK101.out) Try.underlying55 rfl (by kernel_rfl)) rfl ?_
                   exact ⟨_, _, eqW, by first | exact Kd.R_nil _ _ _ _ _ | exact Kd.N_nil _ _ _ _ _ | exact Kd.V_nil _ _ _ _ _ | exact Kd.Q_nil _ _ _ _ _ | exact Kd.S_nil _ _ _ _ _, by first | exact Kd.R_nil _ _ _ _ _ | exact Kd.N_nil _ _ _ _ _ | exact Kd.V_nil _ _ _ _ _ | exact Kd.Q_nil _ _ _ _ _ | exact Kd.S_nil _ _ _ _ _, by repeat (first | (with_reducible first | exact HB.out | apply below_alloc | apply pw_below_drewN | apply below_drew1 | refine below_set ?_ (IsS104.ge HI109.out) | refine below_set ?_ GE101.out | refine below_set ?_ GE113.out | refine below_set ?_ GE122.out | refine below_set ?_ GE152.out) | exact HB.out)⟩
                  ·replace c188 := Bool.eq_false_iff.mpr c188
                   subst c188
                   rw [if_neg (show ¬ (false = true) by decide)] at H
                   by_cases c199 : x110000_95.toList = ([] : List UInt8)
                   ·rw [if_pos c199] at H
                    have c199b0 : (x110000_95.toList == ([] : List UInt8)) = true := beq_iff_eq.mpr c199
                    have c199b1 : (x110000_95.toList != ([] : List UInt8)) = false := bne_eq_false_iff_eq.mpr c199
                    clear c199
                    replace H := Option.bind_eq_some_iff.mp H
                    obtain ⟨t165, A2000, H⟩ := H
                    try dsimp only at H
                    have A200 := aq A2000
                    clear A2000
                    by_cases c201 : t165 = true
                    ·subst c201
                     rw [if_pos rfl] at H
                     simp only [Option.some.injEq, Prod.mk.injEq] at H
                     obtain ⟨rfl, rfl, rfl, rfl, rfl, rfl, rfl, rfl, rfl, rfl, rfl, rfl⟩ := H
                     have hnb202 := NB122_101.out
                     have hnc202 := NB101_122.out
                     have hnb203 := NB122_113.out
                     have hnc203 := NB113_122.out
                     have hnb204 := NB122_152.out
                     have hnc204 := NB152_122.out
                     have hnb205 := NB122_109.out
                     have hnc205 := NB109_122.out
                     obtain ⟨k206a, k206b, k206c, k206d, k206e, k206f, k206g⟩ := cl7 (W := wc) BK122.out
                     obtain ⟨u206a, u206b, u206c, u206d, u206e, u206f, u206g⟩ := fr7 BK122.out
                     obtain ⟨HGz207, hgz207⟩ := HI109.out
                     have k207a := cellS104_0 HGz207
                     have k207b := cellS104_1 HGz207
                     obtain ⟨u207a, u207b⟩ := fr2 HGz207
                     clear HGz207 hgz207
                     have hnb208 := NB113_101.out
                     have hnc208 := NB101_113.out
                     have hnb209 := NB113_152.out
                     have hnc209 := NB152_113.out
                     have hnb210 := NB113_109.out
                     have hnc210 := NB109_113.out
                     obtain ⟨k211a, k211b, k211c, k211d, k211e, k211f, k211g, k211h, k211i, k211j, k211k⟩ := cl11 (W := wc) BK113.out
                     obtain ⟨u211a, u211b, u211c, u211d, u211e, u211f, u211g, u211h, u211i, u211j, u211k⟩ := fr11 BK113.out
                     obtain ⟨Ao212, co212, eo212⟩ := Kd.R_slice HO_114009.out
                     subst eo212
                     go_wp2_with (first | (go_at_call 49; (refine (noteGood.calls t110 x114001_14 x114002_42 x114003_54 x114004_82 x114005_66 x114006_66 x114007_66 x114008_95 _ _ x114009_95 _ _ ([] : List (S65)) true _ ?side1 ?side2 ?side3 ?side4 A200.out).mono ?_); (case side1 => repeat (first | exact (Kd.R_reads' HO_114009.out).2.2 | (with_reducible refine Kd.C_alloc ?_ _) | (with_reducible refine Kd.C_drewN ?_ _) | (with_reducible refine Kd.C_drew ?_))); (case side2 => exact (Kd.R_reads' HO_114009.out).2.1); (case side3 => exact Kd.C_nil _ _); (case side4 => exact Nat.le_refl _); rintro e w213 ⟨rfl, hb⟩; have n0_ := aq (Kd.R_below (by (with_reducible repeat (first | apply Kd.R_alloc | apply Kd.R_drewN | apply Kd.R_drew)); exact HO_114009.out) hb); have n1_ := aq (blk_below (stB BK101) hb); have n2_ := aq (blk_below (stB BK113) hb); have n3_ := aq (blk_below (stB BK122) hb); have n4_ := aq (blk_below (stB BK152) hb); have n5_ := aq (IsS104.below (IsS104.st HI109) hb); have n6_ := aq (below_step (IsS104.stH HB) hb); replace HO_114009 := n0_; replace BK101 := n1_; replace BK113 := n2_; replace BK122 := n3_; replace BK152 := n4_; replace HI109 := n5_; replace HB := n6_; clear n0_ n1_ n2_ n3_ n4_ n5_ n6_; (try clear hb); obtain ⟨k214a, k214b, k214c, k214d, k214e, k214f, k214g, k214h, k214i, k214j, k214k⟩ := cl11 (W := w213) BK113.out; obtain ⟨u214a, u214b, u214c, u214d, u214e, u214f, u214g, u214h, u214i, u214j, u214k⟩ := fr11 BK113.out; have hnb215 := NB101_152.out; have hnc215 := NB152_101.out; have hnb216 := NB101_109.out; have hnc216 := NB109_101.out; obtain ⟨k217a, k217b, k217c, k217d, k217e, k217f, k217g, k217h, k217i, k217j, k217k⟩ := cl11 (W := w213) BK101.out; obtain ⟨u217a, u217b, u217c, u217d, u217e, u217f, u217g, u217h, u217i, u217j, u217k⟩ := fr11 BK101.out))
                     refine bodyPost_ret (results_ct rfl _ _ gb101 55 #[.int .i64 t110, .int .i64 x114001_14, .bool x114002_42, .bool x114003_54, .int .i64 x114004_82, .int .i64 x114005_66, .int .i64 x114006_66, .int .i64 x114007_66, .int .i64 x114008_95, .slice Ao212 x114009_95.length co212, .slice none 0 0] (0, 0) _ rfl (by (with_reducible repeat (first | refine blk_drewN ?_ _ | refine blk_drew ?_ | refine blk_alloc ?_ _)); refine puts11 (cs := #[.int .i64 0, .int .i64 0, .bool false, .bool false, .int .i64 0, .int .i64 0, .int .i64 0, .int .i64 0, .int .i64 0, .slice none 0 0, .slice none 0 0]) rfl ?_; (with_reducible repeat (first | refine blk_drewN ?_ _ | refine blk_drew ?_ | refine blk_alloc ?_ _)); exact BK101.out) Try.underlying55 rfl (by kernel_rfl)) rfl ?_
                     exact ⟨_, _, eqW, by (with_reducible repeat (first | apply Kd.R_alloc | apply Kd.R_drewN | apply Kd.R_drew)); exact Kd.R_mono (Kd.R_far (p := ⟨gb101, 10, none⟩) (Kd.R_far (p := ⟨gb101, 9, none⟩) (Kd.R_far (p := ⟨gb101, 8, none⟩) (Kd.R_far (p := ⟨gb101, 7, none⟩) (Kd.R_far (p := ⟨gb101, 6, none⟩) (Kd.R_far (p := ⟨gb101, 5, none⟩) (Kd.R_far (p := ⟨gb101, 4, none⟩) (Kd.R_far (p := ⟨gb101, 3, none⟩) (Kd.R_far (p := ⟨gb101, 2, none⟩) (Kd.R_far (p := ⟨gb101, 1, none⟩) (Kd.R_far (p := ⟨gb101, 0, none⟩) (Kd.R_types HO_114009.out BK101.out (by decide)) (fun _ hk => hk.2) (.int .i64 t110)) (fun _ hk => hk.2) (.int .i64 x114001_14)) (fun _ hk => hk.2) (.bool x114002_42)) (fun _ hk => hk.2) (.bool x114003_54)) (fun _ hk => hk.2) (.int .i64 x114004_82)) (fun _ hk => hk.2) (.int .i64 x114005_66)) (fun _ hk => hk.2) (.int .i64 x114006_66)) (fun _ hk => hk.2) (.int .i64 x114007_66)) (fun _ hk => hk.2) (.int .i64 x114008_95)) (fun _ hk => hk.2) (.slice Ao212 x114009_95.length co212)) (fun _ hk => hk.2) (.slice none 0 0)) (fun _ hk => trivial), by first | exact Kd.R_nil _ _ _ _ _ | exact Kd.N_nil _ _ _ _ _ | exact Kd.V_nil _ _ _ _ _ | exact Kd.Q_nil _ _ _ _ _ | exact Kd.S_nil _ _ _ _ _, by repeat (first | (with_reducible first | exact HB.out | apply below_alloc | apply pw_below_drewN | apply below_drew1 | refine below_set ?_ (IsS104.ge HI109.out) | refine below_set ?_ GE101.out | refine below_set ?_ GE113.out | refine below_set ?_ GE122.out | refine below_set ?_ GE152.out) | exact HB.out)⟩
                    ·replace c201 := Bool.eq_false_iff.mpr c201
                     subst c201
                     rw [if_neg (show ¬ (false = true) by decide)] at H
                     simp only [Option.some.injEq, Prod.mk.injEq] at H
                     obtain ⟨rfl, rfl, rfl, rfl, rfl, rfl, rfl, rfl, rfl, rfl, rfl, rfl⟩ := H
                     have hnb218 := NB122_101.out
                     have hnc218 := NB101_122.out
                     have hnb219 := NB122_113.out
                     have hnc219 := NB113_122.out
                     have hnb220 := NB122_152.out
                     have hnc220 := NB152_122.out
                     have hnb221 := NB122_109.out
                     have hnc221 := NB109_122.out
                     obtain ⟨k222a, k222b, k222c, k222d, k222e, k222f, k222g⟩ := cl7 (W := wc) BK122.out
                     obtain ⟨u222a, u222b, u222c, u222d, u222e, u222f, u222g⟩ := fr7 BK122.out
                     obtain ⟨HGz223, hgz223⟩ := HI109.out
                     have k223a := cellS104_0 HGz223
                     have k223b := cellS104_1 HGz223
                     obtain ⟨u223a, u223b⟩ := fr2 HGz223
                     clear HGz223 hgz223
                     have hnb224 := NB113_101.out
                     have hnc224 := NB101_113.out
                     have hnb225 := NB113_152.out
                     have hnc225 := NB152_113.out
                     have hnb226 := NB113_109.out
                     have hnc226 := NB109_113.out
                     obtain ⟨k227a, k227b, k227c, k227d, k227e, k227f, k227g, k227h, k227i, k227j, k227k⟩ := cl11 (W := wc) BK113.out
                     obtain ⟨u227a, u227b, u227c, u227d, u227e, u227f, u227g, u227h, u227i, u227j, u227k⟩ := fr11 BK113.out
                     obtain ⟨Ao228, co228, eo228⟩ := Kd.R_slice HO_114009.out
                     subst eo228
                     go_wp2_with (first | (go_at_call 49; (refine (noteGood.calls t110 x114001_14 x114002_42 x114003_54 x114004_82 x114005_66 x114006_66 x114007_66 x114008_95 _ _ x114009_95 _ _ ([] : List (S65)) false _ ?side1 ?side2 ?side3 ?side4 A200.out).mono ?_); (case side1 => repeat (first | exact (Kd.R_reads' HO_114009.out).2.2 | (with_reducible refine Kd.C_alloc ?_ _) | (with_reducible refine Kd.C_drewN ?_ _) | (with_reducible refine Kd.C_drew ?_))); (case side2 => exact (Kd.R_reads' HO_114009.out).2.1); (case side3 => exact Kd.C_nil _ _); (case side4 => exact Nat.le_refl _); rintro e w229 ⟨rfl, hb⟩; have n0_ := aq (Kd.R_below (by (with_reducible repeat (first | apply Kd.R_alloc | apply Kd.R_drewN | apply Kd.R_drew)); exact HO_114009.out) hb); have n1_ := aq (blk_below (stB BK101) hb); have n2_ := aq (blk_below (stB BK113) hb); have n3_ := aq (blk_below (stB BK122) hb); have n4_ := aq (blk_below (stB BK152) hb); have n5_ := aq (IsS104.below (IsS104.st HI109) hb); have n6_ := aq (below_step (IsS104.stH HB) hb); replace HO_114009 := n0_; replace BK101 := n1_; replace BK113 := n2_; replace BK122 := n3_; replace BK152 := n4_; replace HI109 := n5_; replace HB := n6_; clear n0_ n1_ n2_ n3_ n4_ n5_ n6_; (try clear hb); have hnb230 := NB101_152.out; have hnc230 := NB152_101.out; have hnb231 := NB101_109.out; have hnc231 := NB109_101.out; obtain ⟨k232a, k232b, k232c, k232d, k232e, k232f, k232g, k232h, k232i, k232j, k232k⟩ := cl11 (W := w229) BK101.out; obtain ⟨u232a, u232b, u232c, u232d, u232e, u232f, u232g, u232h, u232i, u232j, u232k⟩ := fr11 BK101.out))
                     refine bodyPost_ret (results_ct rfl _ _ gb101 55 #[.int .i64 0, .int .i64 0, .bool false, .bool false, .int .i64 0, .int .i64 0, .int .i64 0, .int .i64 0, .int .i64 0, .slice none 0 0, .slice none 0 0] (0, 0) _ rfl (by (with_reducible repeat (first | refine blk_drewN ?_ _ | refine blk_drew ?_ | refine blk_alloc ?_ _)); refine puts11 (cs := #[.int .i64 0, .int .i64 0, .bool false, .bool false, .int .i64 0, .int .i64 0, .int .i64 0, .int .i64 0, .int .i64 0, .slice none 0 0, .slice none 0 0]) rfl ?_; (with_reducible repeat (first | refine blk_drewN ?_ _ | refine blk_drew ?_ | refine blk_alloc ?_ _)); exact BK101.out) Try.underlying55 rfl (by kernel_rfl)) rfl ?_
                     exact ⟨_, _, eqW, by first | exact Kd.R_nil _ _ _ _ _ | exact Kd.N_nil _ _ _ _ _ | exact Kd.V_nil _ _ _ _ _ | exact Kd.Q_nil _ _ _ _ _ | exact Kd.S_nil _ _ _ _ _, by first | exact Kd.R_nil _ _ _ _ _ | exact Kd.N_nil _ _ _ _ _ | exact Kd.V_nil _ _ _ _ _ | exact Kd.Q_nil _ _ _ _ _ | exact Kd.S_nil _ _ _ _ _, by repeat (first | (with_reducible first | exact HB.out | apply below_alloc | apply pw_below_drewN | apply below_drew1 | refine below_set ?_ (IsS104.ge HI109.out) | refine below_set ?_ GE101.out | refine below_set ?_ GE113.out | refine below_set ?_ GE122.out | refine below_set ?_ GE152.out) | exact HB.out)⟩
                   ·rw [if_neg c199] at H
                    have c199b0 : (x110000_95.toList == ([] : List UInt8)) = false := beq_eq_false_iff_ne.mpr c199
                    have c199b1 : (x110000_95.toList != ([] : List UInt8)) = true := bne_iff_ne.mpr c199
                    simp only [Option.some.injEq, Prod.mk.injEq] at H
                    obtain ⟨rfl, rfl, rfl, rfl, rfl, rfl, rfl, rfl, rfl, rfl, rfl, rfl⟩ := H
                    have hnb233 := NB122_101.out
                    have hnc233 := NB101_122.out
                    have hnb234 := NB122_113.out
                    have hnc234 := NB113_122.out
                    have hnb235 := NB122_152.out
                    have hnc235 := NB152_122.out
                    have hnb236 := NB122_109.out
                    have hnc236 := NB109_122.out
                    obtain ⟨k237a, k237b, k237c, k237d, k237e, k237f, k237g⟩ := cl7 (W := wc) BK122.out
                    obtain ⟨u237a, u237b, u237c, u237d, u237e, u237f, u237g⟩ := fr7 BK122.out
                    obtain ⟨HGz238, hgz238⟩ := HI109.out
                    have k238a := cellS104_0 HGz238
                    have k238b := cellS104_1 HGz238
                    obtain ⟨u238a, u238b⟩ := fr2 HGz238
                    clear HGz238 hgz238
                    have hnb239 := NB101_113.out
                    have hnc239 := NB113_101.out
                    have hnb240 := NB101_152.out
                    have hnc240 := NB152_101.out
                    have hnb241 := NB101_109.out
                    have hnc241 := NB109_101.out
                    obtain ⟨k242a, k242b, k242c, k242d, k242e, k242f, k242g, k242h, k242i, k242j, k242k⟩ := cl11 (W := wc) BK101.out
                    obtain ⟨u242a, u242b, u242c, u242d, u242e, u242f, u242g, u242h, u242i, u242j, u242k⟩ := fr11 BK101.out
                    go_wp2
                    refine bodyPost_ret (results_ct rfl _ _ gb101 55 #[.int .i64 0, .int .i64 0, .bool false, .bool false, .int .i64 0, .int .i64 0, .int .i64 0, .int .i64 0, .int .i64 0, .slice none 0 0, .slice none 0 0] (0, 0) _ rfl (by (with_reducible repeat (first | refine blk_drewN ?_ _ | refine blk_drew ?_ | refine blk_alloc ?_ _)); refine puts11 (cs := #[.int .i64 0, .int .i64 0, .bool false, .bool false, .int .i64 0, .int .i64 0, .int .i64 0, .int .i64 0, .int .i64 0, .slice none 0 0, .slice none 0 0]) rfl ?_; (with_reducible repeat (first | refine blk_drewN ?_ _ | refine blk_drew ?_ | refine blk_alloc ?_ _)); exact BK101.out) Try.underlying55 rfl (by kernel_rfl)) rfl ?_
                    exact ⟨_, _, eqW, by first | exact Kd.R_nil _ _ _ _ _ | exact Kd.N_nil _ _ _ _ _ | exact Kd.V_nil _ _ _ _ _ | exact Kd.Q_nil _ _ _ _ _ | exact Kd.S_nil _ _ _ _ _, by first | exact Kd.R_nil _ _ _ _ _ | exact Kd.N_nil _ _ _ _ _ | exact Kd.V_nil _ _ _ _ _ | exact Kd.Q_nil _ _ _ _ _ | exact Kd.S_nil _ _ _ _ _, by repeat (first | (with_reducible first | exact HB.out | apply below_alloc | apply pw_below_drewN | apply below_drew1 | refine below_set ?_ (IsS104.ge HI109.out) | refine below_set ?_ GE101.out | refine below_set ?_ GE113.out | refine below_set ?_ GE122.out | refine below_set ?_ GE152.out) | exact HB.out)⟩
    ·rw [if_neg c10] at H
     have c10b0 : (t102 == (IntKind.u64.wrap (t106))) = false := beq_eq_false_iff_ne.mpr c10
     have c10b1 : (t102 != (IntKind.u64.wrap (t106))) = true := bne_iff_ne.mpr c10
     simp only [Option.some.injEq, Prod.mk.injEq] at H
     obtain ⟨rfl, rfl, rfl, rfl, rfl, rfl, rfl, rfl, rfl, rfl, rfl, rfl⟩ := H
     go_enter Try.func47, Try.ntmps47
     try go_wp2_with (first | ((with_reducible refine gate_dst (N := 2) rfl ?_); refine box_event ?hg (N := 2) ?hd (cs := #[.int .i64 0, .int .i64 0, .bool false, .bool false, .int .i64 0, .int .i64 0, .int .i64 0, .int .i64 0, .int .i64 0, .slice none 0 0, .slice none 0 0]) (t := 55) ?hr ?_; (case hd => rfl); (case hg => rfl); (case hr => first | (go_simp; done) | (go_simp; rfl)); intro gb101 hg w243 hbox hb; have n0_ := aq (below_step (stH HB) hb); have n1_ := aq (hbox); have n2_ := aq ((by rw [hg]; exact (below_size (stH HB)) : w.heap.size ≤ gb101)); have n3_ := aq ((by rw [hg]; exact (below_size (stH HB)) : w.heap.size ≤ gb101)); replace HB := n0_; have BK101 := n1_; have GW101 := n2_; have GE101 := n3_; clear n0_ n1_ n2_ n3_; clear hb hbox hg))
     have n0_ := aq (blk_drew BK101.out)
     have n1_ := aq (below_drew1 HB.out)
     clear BK101
     clear HB
     have BK101 := n0_
     have HB := n1_
     clear n0_ n1_
     refine start_ (n := 10) (S := fun w' => True) (ds := []) #[false, false, false, false, false, false, false, false, false, false] (by kernel_rfl) rfl rfl trivial (fun hHeld => ?_); refine with_tabW note_Decode.tab3 note_Decode.bits3 (fun HT_ HW_ => ?_)
     generalize w243.drew = w244 at BK101 HB hHeld ⊢
     refine pure_ (i := 0) (N := some 16) (v := ?_) (a' := ?_) #[true, false, false, false, false, false, false, false, false, false] rfl rfl (any_of HT_.out (by kernel_rfl)) (fun _ _ _ h => h) (Or.inl ⟨by rfl, ?_⟩) ?_ ?_
     rotate_left
     ·intro w'
      go_simp
      with_reducible rfl
     rotate_left
     ·simp only [Act.put, List.setIfInBounds_toArray, List.set_cons_zero, List.set_cons_succ, i64_w, i32_w]
      rfl
     refine pure_ (i := 3) (N := some 19) (v := ?_) (a' := ?_) #[true, false, false, true, false, false, false, false, false, false] rfl rfl (any_of HT_.out (by kernel_rfl)) (fun _ _ _ h => h) (Or.inl ⟨by rfl, ?_⟩) ?_ ?_
     rotate_left
     ·intro w'
      go_simp
      with_reducible rfl
     rotate_left
     ·simp only [Act.put, List.setIfInBounds_toArray, List.set_cons_zero, List.set_cons_succ, i64_w, i32_w]
      rfl
     refine inv_at [1, 2, 4, 5, 6, 7, 8, 9] (fun a0_ b a w' => ∃ (v104 : Value), a = putSel a0_ b [(1, 17, .string (a0.extract 0 4)), (2, 18, .int .u64 t102), (4, 20, .string (a0.extract 4 a0.size)), (5, 21, v104), (6, 22, .int .u32 t106), (7, 23, .int .u64 (IntKind.u64.wrap (t106))), (8, 24, .bool (t102 != (IntKind.u64.wrap (t106)))), (9, 15, .bool (t102 != (IntKind.u64.wrap (t106))))] ∧ (w'.heap[gb101]? = some (.cells #[.int .i64 0, .int .i64 0, .bool false, .bool false, .int .i64 0, .int .i64 0, .int .i64 0, .int .i64 0, .int .i64 0, .slice none 0 0, .slice none 0 0] 55 (0, 0))) ∧ (Below w.heap.size w w') ∧ (b 5 = true → Kd.R Kd.string 9 w' w.heap.size (fun _ => True) v104 y103)) HT_.out HW_.out (by kernel_rfl) (by kernel_rfl) ?_ ?_ ?_
     ·exact ⟨.bool false, by simp only [putSel, Bool.false_eq_true, if_false], BK101.out, HB.out, fun h_ => absurd h_ (by decide)⟩
     ·skip
      clear BK101 HB
      refine steps_cons ?_ ?_
      ·rintro b a w' ⟨v104, ha, Q_BK101, Q_HB, Q_HO105⟩ hb_ hon hoff
       refine ⟨_, rfl, fun K hK => ?_⟩
       have e16 : a.tmps[16]? = some (.string a0) := by rw [ha]; exact (putSel_off rfl).trans rfl
       replace ha := aq ha
       have BK101 := aq Q_BK101
       have HB := aq Q_HB
       refine value_ (w1 := w') (v := .string (a0.extract 0 4)) (by rfl) rfl ?_ ?_
       ·go_simp
        (try simp only [i64_w])
        try rfl
       refine hK.out _ _ ⟨v104, (by rw [ha.out]; exact putSel_upk 0 hb_ rfl rfl rfl), Q_BK101, Q_HB, Q_HO105⟩
      refine steps_cons ?_ ?_
      ·rintro b a w' ⟨v104, ha, Q_BK101, Q_HB, Q_HO105⟩ hb_ hon hoff
       refine ⟨_, rfl, fun K hK => ?_⟩
       have e17 : a.tmps[17]? = some (.string (a0.extract 0 4)) := by rw [ha]; exact putSel_on (e := (1, 17, .string (a0.extract 0 4))) 0 rfl rfl (hon 1 (by kernel_rfl)) rfl
       replace ha := aq ha
       have BK101 := aq Q_BK101
       have HB := aq Q_HB
       refine goes_ Try.func86 (by kernel_rfl) rfl #[.string (a0.extract 0 4)] (by rfl) rfl rfl (by first | (simp only [List.map_toArray, List.map_cons, List.map_nil, Act.eval, Array.getD_eq_getD_getElem?, Option.getD_some, e17]; done) | (simp only [List.map_toArray, List.map_cons, List.map_nil, Act.eval, Array.getD_eq_getD_getElem?, Option.getD_some, e17]; rfl)) ?_
       with_reducible refine (high_Get.calls (a0.extract 0 4) t102 _ A7.out).mono ?_
       rintro e w245 ⟨rfl, hb⟩
       refine ⟨_, rfl, ?_⟩
       have n0_ := aq (blk_below (stB BK101) hb)
       have n1_ := aq (below_step (stH HB) hb)
       have z_HO105 := fun (h0_ : b 5 = true) => (show Kd.R Kd.string 9 w245 w.heap.size (fun _ => True) v104 y103 from by first | exact (Kd.R_below (by (with_reducible repeat (first | apply Kd.R_alloc | apply Kd.R_drewN | apply Kd.R_drew)); exact (Q_HO105 h0_)) hb) | exact Kd.R_mono (Kd.R_below (by (with_reducible repeat (first | apply Kd.R_alloc | apply Kd.R_drewN | apply Kd.R_drew)); exact (Q_HO105 h0_)) hb) (fun _ h_ => by first | trivial | exact h_ | exact h_.1))
       clear BK101
       clear HB
       have BK101 := n0_
       have HB := n1_
       clear n0_ n1_
       (try clear hb)
       (try clear hb2)
       (try clear hk)
       (try clear hi)
       refine hK.out _ _ ⟨v104, (by rw [ha.out]; exact putSel_upk 1 hb_ rfl rfl rfl), (stB BK101), (stH HB), z_HO105⟩
      refine steps_cons ?_ ?_
      ·rintro b a w' ⟨v104, ha, Q_BK101, Q_HB, Q_HO105⟩ hb_ hon hoff
       refine ⟨_, rfl, fun K hK => ?_⟩
       have e19 : a.tmps[19]? = some (.string a0) := by rw [ha]; exact (putSel_off rfl).trans rfl
       replace ha := aq ha
       have BK101 := aq Q_BK101
       have HB := aq Q_HB
       refine value_ (w1 := w') (v := .string (a0.extract 4 a0.size)) (by rfl) rfl ?_ ?_
       ·go_simp
        (try simp only [i64_w])
        try rfl
       refine hK.out _ _ ⟨v104, (by rw [ha.out]; exact putSel_upk 2 hb_ rfl rfl rfl), Q_BK101, Q_HB, fun h0_ => absurd ((hoff 5 (by kernel_rfl)).symm.trans h0_) (by decide)⟩
      refine steps_cons ?_ ?_
      ·rintro b a w' ⟨v104, ha, Q_BK101, Q_HB, Q_HO105⟩ hb_ hon hoff
       refine ⟨_, rfl, fun K hK => ?_⟩
       have e20 : a.tmps[20]? = some (.string (a0.extract 4 a0.size)) := by rw [ha]; exact putSel_on (e := (4, 20, .string (a0.extract 4 a0.size))) 2 rfl rfl (hon 4 (by kernel_rfl)) rfl
       replace ha := aq ha
       have BK101 := aq Q_BK101
       have HB := aq Q_HB
       refine Kd.R_lit_step Kd.string _ 9 ?hg (N := 21) ?hd (xs := ([a0.extract 4 a0.size] : List ByteArray)) (inner := [.string (a0.extract 4 a0.size)]) (ok := fun _ => True) (okp := fun _ => True) ?hr ?hp (fun _ hk => hk) trivial (Below.refl _ _) (Nat.le_refl _) (by simp) ?_; (case hd => rfl); (case hg => rfl); (case hr => first | (go_simp; done) | (go_simp; rfl)); (case hp => exact (Reps.one (show Kd.M Kd.string _ _ _ (a0.extract 4 a0.size) [.string (a0.extract 4 a0.size)] from rfl) (Reps.none _ _)))
       intro v104 w245 ho246 hb hg_ hnew_
       clear hg_ hnew_
       (first | rw [← Ny103.out] at ho246 | (simp only [Int.reduceToNat] at ho246; rw [← Ny103.out] at ho246))
       have n0_ := aq (Kd.R_lower ho246 (below_size (stH HB)))
       have n1_ := aq (blk_below (stB BK101) hb)
       have n2_ := aq (below_step (stH HB) hb)
       clear BK101
       clear HB
       have HO105 := n0_
       have BK101 := n1_
       have HB := n2_
       clear n0_ n1_ n2_
       clear hb ho246
       refine hK.out _ _ ⟨v104, (by rw [ha.out]; exact putSel_upk 3 hb_ rfl rfl rfl), (stB BK101), (stH HB), fun _ => (by (with_reducible repeat (first | apply Kd.R_alloc | apply Kd.R_drewN | apply Kd.R_drew)); exact HO105.out)⟩
      refine steps_cons ?_ ?_
      ·rintro b a w' ⟨v104, ha, Q_BK101, Q_HB, Q_HO105⟩ hb_ hon hoff
       refine ⟨_, rfl, fun K hK => ?_⟩
       have e21 : a.tmps[21]? = some (v104) := by rw [ha]; exact putSel_on (e := (5, 21, v104)) 3 rfl rfl (hon 5 (by kernel_rfl)) rfl
       replace ha := aq ha
       have BK101 := aq Q_BK101
       have HB := aq Q_HB
       have HO105 := aq (Q_HO105 (hon 5 (by kernel_rfl)))
       obtain ⟨Ao249, co249, eo249⟩ := Kd.R_slice HO105.out
       (first | subst eo249 | (injection eo249 with f1_ f2_ f3_; have f4_ := f1_.symm; have f5_ := f3_.symm; clear f1_ f2_ f3_; subst f4_; subst f5_))
       refine goes_ Try.func46 (by kernel_rfl) rfl #[.slice Ao249 y103.length co249] (by rfl) rfl rfl (by first | (simp only [List.map_toArray, List.map_cons, List.map_nil, Act.eval, Array.getD_eq_getD_getElem?, Option.getD_some, e21]; done) | (simp only [List.map_toArray, List.map_cons, List.map_nil, Act.eval, Array.getD_eq_getD_getElem?, Option.getD_some, e21]; rfl)) ?_
       with_reducible refine (sum_Of.calls _ _ y103 t106 _ ?side1 ?side2 A9.out).mono ?_
       (case side1 => repeat (first | exact (Kd.R_reads' HO105.out).2.2 | (with_reducible refine Kd.C_alloc ?_ _) | (with_reducible refine Kd.C_drewN ?_ _) | (with_reducible refine Kd.C_drew ?_)))
       (case side2 => exact (Kd.R_reads' HO105.out).2.1)
       rintro e w250 ⟨rfl, hb⟩
       refine ⟨_, rfl, ?_⟩
       have n0_ := aq (Kd.R_below (by (with_reducible repeat (first | apply Kd.R_alloc | apply Kd.R_drewN | apply Kd.R_drew)); exact HO105.out) hb)
       have n1_ := aq (blk_below (stB BK101) hb)
       have n2_ := aq (below_step (stH HB) hb)
       clear HO105
       clear BK101
       clear HB
       have HO105 := n0_
       have BK101 := n1_
       have HB := n2_
       clear n0_ n1_ n2_
       (try clear hb)
       (try clear hb2)
       (try clear hk)
       (try clear hi)
       refine hK.out _ _ ⟨.slice Ao249 y103.length co249, (by rw [ha.out]; exact putSel_upk 4 hb_ rfl rfl rfl), (stB BK101), (stH HB), fun _ => (by (with_reducible repeat (first | apply Kd.R_alloc | apply Kd.R_drewN | apply Kd.R_drew)); exact HO105.out)⟩
      refine steps_cons ?_ ?_
      ·rintro b a w' ⟨v104, ha, Q_BK101, Q_HB, Q_HO105⟩ hb_ hon hoff
       refine ⟨_, rfl, fun K hK => ?_⟩
       have e22 : a.tmps[22]? = some (.int .u32 t106) := by rw [ha]; exact putSel_on (e := (6, 22, .int .u32 t106)) 4 rfl rfl (hon 6 (by kernel_rfl)) rfl
       replace ha := aq ha
       have BK101 := aq Q_BK101
       have HB := aq Q_HB
       have HO105 := aq (Q_HO105 (hon 5 (by kernel_rfl)))
       refine value_ (w1 := w') (v := .int .u64 (IntKind.u64.wrap (t106))) (by rfl) rfl ?_ ?_
       ·go_simp
        (try simp only [i64_w])
        try rfl
       refine hK.out _ _ ⟨v104, (by rw [ha.out]; exact putSel_upk 5 hb_ rfl rfl rfl), Q_BK101, Q_HB, Q_HO105⟩
      refine steps_cons ?_ ?_
      ·rintro b a w' ⟨v104, ha, Q_BK101, Q_HB, Q_HO105⟩ hb_ hon hoff
       refine ⟨_, rfl, fun K hK => ?_⟩
       have e18 : a.tmps[18]? = some (.int .u64 t102) := by rw [ha]; exact putSel_on (e := (2, 18, .int .u64 t102)) 1 rfl rfl (hon 2 (by kernel_rfl)) rfl
       have e23 : a.tmps[23]? = some (.int .u64 (IntKind.u64.wrap (t106))) := by rw [ha]; exact putSel_on (e := (7, 23, .int .u64 (IntKind.u64.wrap (t106)))) 5 rfl rfl (hon 7 (by kernel_rfl)) rfl
       replace ha := aq ha
       have BK101 := aq Q_BK101
       have HB := aq Q_HB
       have HO105 := aq (Q_HO105 (hon 5 (by kernel_rfl)))
       refine value_ (w1 := w') (v := .bool (t102 != (IntKind.u64.wrap (t106)))) (by rfl) rfl ?_ ?_
       ·go_simp
        (try simp only [i64_w])
        try rfl
       refine hK.out _ _ ⟨v104, (by rw [ha.out]; exact putSel_upk 6 hb_ rfl rfl rfl), Q_BK101, Q_HB, Q_HO105⟩
      refine steps_cons ?_ ?_
      ·rintro b a w' ⟨v104, ha, Q_BK101, Q_HB, Q_HO105⟩ hb_ hon hoff
       refine ⟨_, rfl, fun K hK => ?_⟩
       have e24 : a.tmps[24]? = some (.bool (t102 != (IntKind.u64.wrap (t106)))) := by rw [ha]; exact putSel_on (e := (8, 24, .bool (t102 != (IntKind.u64.wrap (t106))))) 6 rfl rfl (hon 8 (by kernel_rfl)) rfl
       replace ha := aq ha
       have BK101 := aq Q_BK101
       have HB := aq Q_HB
       have HO105 := aq (Q_HO105 (hon 5 (by kernel_rfl)))
       refine value_ (w1 := w') (v := .bool (t102 != (IntKind.u64.wrap (t106)))) (by rfl) rfl ?_ ?_
       ·go_simp
        (try simp only [i64_w])
        try rfl
       refine hK.out _ _ ⟨v104, (by rw [ha.out]; exact putSel_upk 7 hb_ rfl rfl rfl), Q_BK101, Q_HB, Q_HO105⟩
      exact steps_nil
     rintro b a w250 hall ⟨v104, ha, Q_BK101, Q_HB, Q_HO105⟩
     clear BK101 HB
     have hb1_ := hall 1 (by kernel_rfl)
     have hb2_ := hall 2 (by kernel_rfl)
     have hb4_ := hall 4 (by kernel_rfl)
     have hb5_ := hall 5 (by kernel_rfl)
     have hb6_ := hall 6 (by kernel_rfl)
     have hb7_ := hall 7 (by kernel_rfl)
     have hb8_ := hall 8 (by kernel_rfl)
     have hb9_ := hall 9 (by kernel_rfl)
     subst ha
     simp only [putSel, hb1_, hb2_, hb4_, hb5_, hb6_, hb7_, hb8_, hb9_, if_true, Act.put, List.setIfInBounds_toArray, List.set_cons_zero, List.set_cons_succ]
     have BK101 := aq Q_BK101
     clear Q_BK101
     have HB := aq Q_HB
     clear Q_HB
     have HO105 := aq (Q_HO105 hb5_)
     clear Q_HO105
     clear hall hb1_ hb2_ hb4_ hb5_ hb6_ hb7_ hb8_ hb9_
     obtain ⟨k251a, k251b, k251c, k251d, k251e, k251f, k251g, k251h, k251i, k251j, k251k⟩ := cl11 (W := w250) BK101.out
     obtain ⟨u251a, u251b, u251c, u251d, u251e, u251f, u251g, u251h, u251i, u251j, u251k⟩ := fr11 BK101.out
     try go_wp2
     refine bodyPost_ret (results_ct rfl _ _ gb101 55 #[.int .i64 0, .int .i64 0, .bool false, .bool false, .int .i64 0, .int .i64 0, .int .i64 0, .int .i64 0, .int .i64 0, .slice none 0 0, .slice none 0 0] (0, 0) _ rfl (by (with_reducible repeat (first | refine blk_drewN ?_ _ | refine blk_drew ?_ | refine blk_alloc ?_ _)); refine puts11 (cs := #[.int .i64 0, .int .i64 0, .bool false, .bool false, .int .i64 0, .int .i64 0, .int .i64 0, .int .i64 0, .int .i64 0, .slice none 0 0, .slice none 0 0]) rfl ?_; (with_reducible repeat (first | refine blk_drewN ?_ _ | refine blk_drew ?_ | refine blk_alloc ?_ _)); exact BK101.out) Try.underlying55 rfl (by kernel_rfl)) rfl ?_
     exact ⟨_, _, eqW, by first | exact Kd.R_nil _ _ _ _ _ | exact Kd.N_nil _ _ _ _ _ | exact Kd.V_nil _ _ _ _ _ | exact Kd.Q_nil _ _ _ _ _ | exact Kd.S_nil _ _ _ _ _, by first | exact Kd.R_nil _ _ _ _ _ | exact Kd.N_nil _ _ _ _ _ | exact Kd.V_nil _ _ _ _ _ | exact Kd.Q_nil _ _ _ _ _ | exact Kd.S_nil _ _ _ _ _, by repeat (first | (with_reducible first | exact HB.out | apply below_alloc | apply pw_below_drewN | apply below_drew1 | refine below_set ?_ GE101.out) | exact HB.out)⟩
   ·rw [if_neg c6] at H
    exact absurd H (by simp)
  ·rw [if_neg c5] at H
   exact absurd H (by simp)
end Go.Proofs.Ytfjmnaobfbmllaa.M
namespace Go.Proofs.Ytfjmnaobfbmllaa.M
open Go.RowKit Go.Proofs.YtfjmnaobfbmllaaW.PrintWords Go.Proofs.YtfjmnaobfbmllaaW.PrintLast Go.Proofs.YtfjmnaobfbmllaaW.PrintMore
set_option linter.unusedVariables false
set_option linter.unusedSimpArgs false
def msgTup (q : S55 × Int) : Int × Int × Bool × Bool × Int × Int × Int × Int × Int × List S33 × List S65 × Int :=
  (q.1.f0, q.1.f1, q.1.f2, q.1.f3, q.1.f4, q.1.f5.f0, q.1.f5.f1, q.1.f5.f2, q.1.f6.f0, q.1.f6.f1, q.1.f7, q.2)
theorem dec_tail (k pg : Int) (x nd : Bool) (n t1 t2 t3 ls : Int) (l : List S33) (m : List S65) (r : ByteArray) (b : Bool) :
    (if b = true then (some (0, 0, false, false, 0, 0, 0, 0, 0, ([] : List S33), ([] : List S65), (4 : Int))) else if r.toList = ([] : List UInt8) then (noteGood.f k pg x nd n t1 t2 t3 ls l m).bind fun t => if t = true then some (k, pg, x, nd, n, t1, t2, t3, ls, l, m, 0) else some (0, 0, false, false, 0, 0, 0, 0, 0, ([] : List S33), ([] : List S65), 4) else some (0, 0, false, false, 0, 0, 0, 0, 0, ([] : List S33), ([] : List S65), 4))
      = some (msgTup (finM (msg k pg x nd n t1 t2 t3 ls l m, r, b))) := by
  unfold finM noteGood.f
  cases b with
  | true => rw [if_pos rfl, if_neg (fun h => by cases h.1)]; rfl
  | false =>
    rw [if_neg Bool.false_ne_true, Option.bind_some]
    by_cases hr : r = ⟨#[]⟩
    · rw [if_pos ((ba_nil _).mpr hr)]
      by_cases hg : GoodM (msg k pg x nd n t1 t2 t3 ls l m)
      · rw [decide_eq_true hg, if_pos rfl, if_pos ⟨rfl, hr, hg⟩]; rfl
      · rw [decide_eq_false hg, if_neg Bool.false_ne_true, if_neg (fun h => hg h.2.2)]; rfl
    · rw [if_neg (fun h => hr ((ba_nil _).mp h)), if_neg (fun h => hr h.2.1)]; rfl
section
variable (f0 f1 f2 f3 f4 f5 f6 : Bool)
def C5 (k pg : Int) (x nd : Bool) (n t1 t2 t3 ls : Int) (l : List S33) (q : ByteArray × Bool) : S55 × Int := finM (msg k pg x nd n t1 t2 t3 ls l (onT f6 [] tE q).1, (onT f6 [] tE q).2)
theorem dec_j5 (K : Nat) (r : ByteArray) (b : Bool) (k pg : Int) (x nd : Bool) (n t1 t2 t3 ls : Int) (l : List S33) :
    note_Decode.j5 (K + 1) r b k pg x nd n t1 t2 t3 ls l f0 f1 f2 f3 f4 f5 f6 = some (msgTup (C5 f6 k pg x nd n t1 t2 t3 ls l (r, b))) := by
  simp only [note_Decode.j5]
  unfold C5 onT
  cases f6 with
  | true =>
    unfold scanEnts.f
    rw [if_pos rfl, Option.bind_some, if_pos rfl]
    exact dec_tail k pg x nd n t1 t2 t3 ls l (tE r b).1 (tE r b).2.1 (tE r b).2.2
  | false =>
    rw [if_neg Bool.false_ne_true, if_neg Bool.false_ne_true]
    exact dec_tail k pg x nd n t1 t2 t3 ls l [] r b
def C4 (k pg : Int) (x nd : Bool) (n t1 t2 t3 : Int) (q : ByteArray × Bool) : S55 × Int :=
  C5 f6 k pg x nd n t1 t2 t3 (onT (shP k nd).2.2.2.2.2.1 ((0, []) : Int × List S33) tP q).1.1 (onT (shP k nd).2.2.2.2.2.1 ((0, []) : Int × List S33) tP q).1.2 (onT (shP k nd).2.2.2.2.2.1 ((0, []) : Int × List S33) tP q).2
theorem dec_j4 (K : Nat) (r : ByteArray) (b : Bool) (k pg : Int) (x nd : Bool) (n t1 t2 t3 : Int) :
    note_Decode.j4 (K + 2) r b k pg x nd n t1 t2 t3 0 f0 f1 f2 f3 f4 f5 f6 = some (msgTup (C4 f6 k pg x nd n t1 t2 t3 (r, b))) := by
  simp only [note_Decode.j4]
  unfold C4 noteShape.f
  rw [Option.bind_some]
  simp only
  cases hf : (shP k nd).2.2.2.2.2.1 with
  | true => rw [if_pos rfl, simg_eq, Option.bind_some]; exact dec_j5 f0 f1 f2 f3 f4 f5 f6 K _ _ k pg x nd n t1 t2 t3 _ _
  | false => rw [if_neg Bool.false_ne_true]; exact dec_j5 f0 f1 f2 f3 f4 f5 f6 K _ _ k pg x nd n t1 t2 t3 _ _
def C3 (k pg : Int) (x nd : Bool) (t1 t2 t3 : Int) (q : ByteArray × Bool) : S55 × Int := C4 f6 k pg x nd (onT f4 (0 : Int) tI q).1 t1 t2 t3 (onT f4 (0 : Int) tI q).2
theorem dec_j3 (K : Nat) (r : ByteArray) (b : Bool) (k pg : Int) (x nd : Bool) (t1 t2 t3 : Int) :
    note_Decode.j3 (K + 3) r b k pg x nd 0 t1 t2 t3 0 f0 f1 f2 f3 f4 f5 f6 = some (msgTup (C3 f4 f6 k pg x nd t1 t2 t3 (r, b))) := by
  simp only [note_Decode.j3]
  unfold C3
  cases f4 with
  | true => rw [if_pos rfl, sint_eq, Option.bind_some]; exact dec_j4 f0 f1 f2 f3 true f5 f6 K _ _ k pg x nd _ t1 t2 t3
  | false => rw [if_neg Bool.false_ne_true]; exact dec_j4 f0 f1 f2 f3 false f5 f6 K _ _ k pg x nd _ t1 t2 t3
def C2 (k pg : Int) (x nd : Bool) (q : ByteArray × Bool) : S55 × Int := C3 f4 f6 k pg x nd (onT f3 ((0, 0, 0) : Int × Int × Int) tT q).1.1 (onT f3 ((0, 0, 0) : Int × Int × Int) tT q).1.2.1 (onT f3 ((0, 0, 0) : Int × Int × Int) tT q).1.2.2 (onT f3 ((0, 0, 0) : Int × Int × Int) tT q).2
theorem dec_j2 (K : Nat) (r : ByteArray) (b : Bool) (k pg : Int) (x nd : Bool) :
    note_Decode.j2 (K + 4) r b k pg x nd 0 0 0 0 0 f0 f1 f2 f3 f4 f5 f6 = some (msgTup (C2 f3 f4 f6 k pg x nd (r, b))) := by
  simp only [note_Decode.j2]
  unfold C2
  cases f3 with
  | true => rw [if_pos rfl, sint_eq, Option.bind_some, sint_eq, Option.bind_some, sint_eq, Option.bind_some]; exact dec_j3 f0 f1 f2 true f4 f5 f6 K _ _ k pg x nd _ _ _
  | false => rw [if_neg Bool.false_ne_true]; exact dec_j3 f0 f1 f2 false f4 f5 f6 K _ _ k pg x nd _ _ _
def C1 (k pg : Int) (x : Bool) (q : ByteArray × Bool) : S55 × Int := C2 f3 f4 f6 k pg x (onT f2 false tF q).1 (onT f2 false tF q).2
theorem dec_j1 (K : Nat) (r : ByteArray) (b : Bool) (k pg : Int) (x : Bool) :
    note_Decode.j1 (K + 5) r b k pg x false 0 0 0 0 0 f0 f1 f2 f3 f4 f5 f6 = some (msgTup (C1 f2 f3 f4 f6 k pg x (r, b))) := by
  simp only [note_Decode.j1]
  unfold C1
  cases f2 with
  | true => rw [if_pos rfl, sflag_eq, Option.bind_some]; exact dec_j2 f0 f1 true f3 f4 f5 f6 K _ _ k pg x _
  | false => rw [if_neg Bool.false_ne_true]; exact dec_j2 f0 f1 false f3 f4 f5 f6 K _ _ k pg x _
def C0 (k pg : Int) (q : ByteArray × Bool) : S55 × Int := C1 f2 f3 f4 f6 k pg (onT f1 false tF q).1 (onT f1 false tF q).2
theorem dec_j0 (K : Nat) (r : ByteArray) (b : Bool) (k pg : Int) :
    note_Decode.j0 (K + 6) r b k pg false false 0 0 0 0 0 f0 f1 f2 f3 f4 f5 f6 = some (msgTup (C0 f1 f2 f3 f4 f6 k pg (r, b))) := by
  simp only [note_Decode.j0]
  unfold C0
  cases f1 with
  | true => rw [if_pos rfl, sflag_eq, Option.bind_some]; exact dec_j1 f0 true f2 f3 f4 f5 f6 K _ _ k pg _
  | false => rw [if_neg Bool.false_ne_true]; exact dec_j1 f0 false f2 f3 f4 f5 f6 K _ _ k pg _
end
theorem decQ_fin (s : ByteArray) : finM (decQ s) = C0 (shP (tI s false).1 false).2.1 (shP (tI s false).1 false).2.2.1 (shP (tI s false).1 false).2.2.2.1 (shP (tI s false).1 false).2.2.2.2.1 (shP (tI s false).1 false).2.2.2.2.2.2 (tI s false).1 (onT (shP (tI s false).1 false).1 (0 : Int) tI (tI s false).2).1 (onT (shP (tI s false).1 false).1 (0 : Int) tI (tI s false).2).2 := rfl
def noteDec.f (s : ByteArray) : Option (Int × Int × Bool × Bool × Int × Int × Int × Int × Int × List S33 × List S65 × Int) := if s.size ≤ 4611686018427387904 then some (msgTup (decM s)) else none
theorem dec_pureM {s : ByteArray} (hs : s.size ≤ 4611686018427387904) : note_Decode.f 6 s = some (msgTup (decM s)) := by
  unfold note_Decode.f decM
  by_cases h4 : s.size < 4
  · rw [if_pos (by omega), if_pos h4]; rfl
  · have hz1 : (s.extract 0 4).size = 4 := by rw [ByteArray.size_extract]; omega
    have hz2 : (s.extract 4 s.size).size ≤ s.size := by rw [ByteArray.size_extract]; omega
    rw [if_neg (by omega), if_neg h4, if_pos (by decide), if_pos (by omega)]
    unfold high_Get.f
    rw [if_pos (by omega), Option.bind_some, sumOf_one (by omega), Option.bind_some, chk_wrap]
    by_cases hc : getN (bytesOf (s.extract 0 4)) = (chk (s.extract 4 s.size) : Int)
    · rw [if_pos hc, if_pos hc]
      unfold newScan.f noteShape.f
      rw [Option.bind_some]
      simp only
      rw [sint_eq, Option.bind_some]
      simp only [Option.bind_some]
      rw [decQ_fin]
      generalize tI (s.extract 4 s.size) false = Q
      cases hf : (shP Q.1 false).1 with
      | true =>
        rw [if_pos rfl, sint_eq, Option.bind_some]
        rw [show onT true (0 : Int) tI Q.2 = tI Q.2.1 Q.2.2 from rfl]
        generalize tI Q.2.1 Q.2.2 = R
        exact dec_j0 true _ _ _ _ _ _ 0 R.2.1 R.2.2 Q.1 R.1
      | false =>
        rw [if_neg Bool.false_ne_true]
        rw [show onT false (0 : Int) tI Q.2 = (0, Q.2.1, Q.2.2) from rfl]
        exact dec_j0 false _ _ _ _ _ _ 0 Q.2.1 Q.2.2 Q.1 0
    · rw [if_neg hc, if_neg hc]; rfl
theorem noteDec.calls (a0 : ByteArray) (r1 : Int) (r2 : Int) (r3 : Bool) (r4 : Bool) (r5 : Int) (r6 : Int) (r7 : Int) (r8 : Int) (r9 : Int) (r10 : List (S33)) (r11 : List (S65)) (r12 : Int) (w : World) (h : noteDec.f a0 = some (r1, r2, r3, r4, r5, r6, r7, r8, r9, r10, r11, r12)) :
    Calls Try.prog 47 #[.string a0] w fun e w' => ∃ v9_ v10_ : Value, e = .returned (.tuple #[.agg #[.int .i64 r1, .int .i64 r2, .bool r3, .bool r4, .int .i64 r5, .int .i64 r6, .int .i64 r7, .int .i64 r8, .int .i64 r9, v9_, v10_], .int .i64 r12]) ∧ Kd.R k33 33 w' w.heap.size (fun _ => True) v9_ r10 ∧ Kd.R k65 65 w' w.heap.size (fun _ => True) v10_ r11 ∧ Below w.heap.size w w' := by
  unfold noteDec.f at h
  split at h
  · rename_i hs
    exact note_Decode.calls 6 a0 r1 r2 r3 r4 r5 r6 r7 r8 r9 r10 r11 r12 w (by rw [dec_pureM hs]; exact h)
  · cases h
end Go.Proofs.Ytfjmnaobfbmllaa.M
namespace Go.Proofs.Ytfjmnaobfbmllaa.M
open Go.RowKit Go.Proofs.YtfjmnaobfbmllaaW.PrintWords Go.Proofs.YtfjmnaobfbmllaaW.PrintLast Go.Proofs.YtfjmnaobfbmllaaW.PrintMore
def vm1 : ByteArray := ⟨#[56, 86, 209, 16, 20, 2, 2]⟩
def vm2 : S55 := ⟨10, 1, true, false, 0, ⟨0, 0, 0⟩, ⟨0, []⟩, []⟩
theorem vm2_good : GoodM vm2 := by decide +kernel
theorem vm2_enc : encM vm2 = (vm1, 0) := by decide +kernel
theorem v45_1 : noteEnc.f 10 1 true false 0 0 0 0 0 ([] : List S33) ([] : List S65) = some (vm1, 0) := congrArg some vm2_enc
theorem v45_2 : noteDec.f vm1 = some (10, 1, true, false, 0, 0, 0, 0, 0, ([] : List S33), ([] : List S65), 0) := by
  have h := decM_enc vm2_good
  rw [vm2_enc] at h
  unfold noteDec.f
  rw [if_pos (by decide +kernel), h]
  rfl
theorem v45_3 : noteDec.f (⟨#[120]⟩ : ByteArray) = some (0, 0, false, false, 0, 0, 0, 0, 0, ([] : List S33), ([] : List S65), 3) := by
  unfold noteDec.f decM
  rw [if_pos (by decide +kernel), if_pos (by decide +kernel)]
  rfl
theorem v45_12 : noteGood.f 10 1 true false 0 0 0 0 0 ([] : List S33) ([] : List S65) = some true := congrArg some (decide_eq_true vm2_good)
end Go.Proofs.Ytfjmnaobfbmllaa.M
namespace Go.Proofs.Ytfjmnaobfbmllaa.M
open Go.RowKit Go.Proofs.YtfjmnaobfbmllaaW.PrintWords Go.Proofs.YtfjmnaobfbmllaaW.PrintLast Go.Proofs.YtfjmnaobfbmllaaW.PrintMore
attribute [local go_sem] max2_int min2_int max_two min_two max_three min_three max_four min_four   -- for this text's walks alone
set_option linter.unusedVariables false
set_option linter.unusedSimpArgs false
def seneschallaw11_awake.f  : Option (Bool) := (noteEnc.f 10 1 true false 0 0 0 0 0 ([] : List (S33)) ([] : List (S65))).bind fun bt101 => ((noteDec.f bt101.1).bind fun bt103 => ((noteDec.f (⟨#[120]⟩ : ByteArray)).bind fun bt120 => (if bt101.2 = 0 then (if (bt101.1.size : Int) = 7 then (if 4 ≤ (bt101.1.size : Int) then (if (bt101.1.extract 4 bt101.1.size).toList = ([20, 2, 2] : List UInt8) then (if bt103.2.2.2.2.2.2.2.2.2.2.2 = 0 then (if bt103.2.1 = 1 then (if bt103.2.2.1 = true then (if bt120.2.2.2.2.2.2.2.2.2.2.2 = 3 then ((noteGood.f bt103.1 bt103.2.1 bt103.2.2.1 bt103.2.2.2.1 bt103.2.2.2.2.1 bt103.2.2.2.2.2.1 bt103.2.2.2.2.2.2.1 bt103.2.2.2.2.2.2.2.1 bt103.2.2.2.2.2.2.2.2.1 bt103.2.2.2.2.2.2.2.2.2.1 bt103.2.2.2.2.2.2.2.2.2.2.1).bind fun t137 => (if t137 = true then ((noteGood.f 0 0 false false 0 0 0 0 0 ([] : List (S33)) ([] : List (S65))).bind fun t138 => (some (!t138))) else (some false))) else (some false)) else (some false)) else (some false)) else (some false)) else (some false)) else (none)) else (some false)) else (some false))))
set_option maxHeartbeats 8000000 in
set_option maxRecDepth 100000 in
theorem seneschallaw11_awake.calls  (r : Bool) (w : World) (h : seneschallaw11_awake.f  = some r) :
  Calls Try.prog 45 #[] w fun e w' => e = .returned (.bool r) ∧ Below w.heap.size w w' := by
 have hu55 := Try.underlying55
 have HB := aq (Below.refl w.heap.size w)
 have H : ((noteEnc.f 10 1 true false 0 0 0 0 0 ([] : List (S33)) ([] : List (S65))).bind fun bt101 => ((noteDec.f bt101.1).bind fun bt103 => ((noteDec.f (⟨#[120]⟩ : ByteArray)).bind fun bt120 => (if bt101.2 = 0 then (if (bt101.1.size : Int) = 7 then (if 4 ≤ (bt101.1.size : Int) then (if (bt101.1.extract 4 bt101.1.size).toList = ([20, 2, 2] : List UInt8) then (if bt103.2.2.2.2.2.2.2.2.2.2.2 = 0 then (if bt103.2.1 = 1 then (if bt103.2.2.1 = true then (if bt120.2.2.2.2.2.2.2.2.2.2.2 = 3 then ((noteGood.f bt103.1 bt103.2.1 bt103.2.2.1 bt103.2.2.2.1 bt103.2.2.2.2.1 bt103.2.2.2.2.2.1 bt103.2.2.2.2.2.2.1 bt103.2.2.2.2.2.2.2.1 bt103.2.2.2.2.2.2.2.2.1 bt103.2.2.2.2.2.2.2.2.2.1 bt103.2.2.2.2.2.2.2.2.2.2.1).bind fun t137 => (if t137 = true then ((noteGood.f 0 0 false false 0 0 0 0 0 ([] : List (S33)) ([] : List (S65))).bind fun t138 => (some (!t138))) else (some false))) else (some false)) else (some false)) else (some false)) else (some false)) else (some false)) else (none)) else (some false)) else (some false))))) = some r := h
 clear h
 replace H := Option.bind_eq_some_iff.mp H
 obtain ⟨⟨t101, t102⟩, A10, H⟩ := H
 try dsimp only at H
 have A1 := aq A10
 clear A10
 replace H := Option.bind_eq_some_iff.mp H
 obtain ⟨⟨t103, t104, t105, t106, t107, t108, t109, t110, t111, t112, t115, t118⟩, A20, H⟩ := H
 try dsimp only at H
 have A2 := aq A20
 clear A20
 replace H := Option.bind_eq_some_iff.mp H
 obtain ⟨⟨t120, t121, t122, t123, t124, t125, t126, t127, t128, t129, t132, t135⟩, A30, H⟩ := H
 try dsimp only at H
 have A3 := aq A30
 clear A30
 by_cases c4 : t102 = 0
 ·rw [if_pos c4] at H
  have c4b0 : (t102 == 0) = true := beq_iff_eq.mpr c4
  have c4b1 : (t102 != 0) = false := bne_eq_false_iff_eq.mpr c4
  clear c4
  by_cases c5 : (t101.size : Int) = 7
  ·rw [if_pos c5] at H
   have c5b0 : ((t101.size : Int) == 7) = true := beq_iff_eq.mpr c5
   have c5b1 : ((t101.size : Int) != 7) = false := bne_eq_false_iff_eq.mpr c5
   clear c5
   by_cases c6 : 4 ≤ (t101.size : Int)
   ·rw [if_pos c6] at H
    have c6b0 := eq_true c6
    have c6b1 : decide (4 ≤ (t101.size : Int)) = true := decide_eq_true c6
    clear c6
    by_cases c7 : (t101.extract 4 t101.size).toList = ([20, 2, 2] : List UInt8)
    ·rw [if_pos c7] at H
     have c7b0 : ((t101.extract 4 t101.size).toList == ([20, 2, 2] : List UInt8)) = true := beq_iff_eq.mpr c7
     have c7b1 : ((t101.extract 4 t101.size).toList != ([20, 2, 2] : List UInt8)) = false := bne_eq_false_iff_eq.mpr c7
     clear c7
     by_cases c8 : t118 = 0
     ·rw [if_pos c8] at H
      have c8b0 : (t118 == 0) = true := beq_iff_eq.mpr c8
      have c8b1 : (t118 != 0) = false := bne_eq_false_iff_eq.mpr c8
      clear c8
      by_cases c9 : t104 = 1
      ·rw [if_pos c9] at H
       have c9b0 : (t104 == 1) = true := beq_iff_eq.mpr c9
       have c9b1 : (t104 != 1) = false := bne_eq_false_iff_eq.mpr c9
       clear c9
       by_cases c10 : t105 = true
       ·subst c10
        rw [if_pos rfl] at H
        by_cases c11 : t135 = 3
        ·rw [if_pos c11] at H
         have c11b0 : (t135 == 3) = true := beq_iff_eq.mpr c11
         have c11b1 : (t135 != 3) = false := bne_eq_false_iff_eq.mpr c11
         clear c11
         replace H := Option.bind_eq_some_iff.mp H
         obtain ⟨t137, A120, H⟩ := H
         try dsimp only at H
         have A12 := aq A120
         clear A120
         by_cases c13 : t137 = true
         ·subst c13
          rw [if_pos rfl] at H
          replace H := Option.bind_eq_some_iff.mp H
          obtain ⟨t138, A140, H⟩ := H
          try dsimp only at H
          have A14 := aq A140
          clear A140
          obtain rfl := Option.some.inj H
          go_enter Try.func45, Try.ntmps45
          go_wp2_with (first | ((with_reducible refine gate_callee (f := 62) rfl ?_); refine goesL_ (some 9) rfl rfl Try.func62 (by kernel_rfl) rfl #[.agg #[.int .i64 10, .int .i64 1, .bool true, .bool false, .int .i64 0, .int .i64 0, .int .i64 0, .int .i64 0, .int .i64 0, .slice none 0 0, .slice none 0 0]] rfl fitR ?_; (refine (noteEnc.calls 10 1 true false 0 0 0 0 0 _ _ ([] : List (S33)) _ _ ([] : List (S65)) t101 t102 _ ?side1 ?side2 ?side3 ?side4 A1.out).mono ?_); (case side1 => exact Kd.C_nil _ _); (case side2 => exact Nat.le_refl _); (case side3 => exact Kd.C_nil _ _); (case side4 => exact Nat.le_refl _); rintro e w15 ⟨rfl, hb⟩; refine ⟨_, rfl, ?_⟩; have n0_ := aq (below_step (stH HB) hb); replace HB := n0_; clear n0_; (try clear hb)) | ((with_reducible refine gate_callee (f := 47) rfl ?_); refine goesL_ (some 14) rfl rfl Try.func47 (by kernel_rfl) rfl #[.string t101] rfl fitR ?_; (with_reducible refine (noteDec.calls t101 t103 t104 true t106 t107 t108 t109 t110 t111 t112 t115 t118 _ A2.out).mono ?_); rintro e w16 ⟨v113, v116, rfl, ho0, ho1, hb⟩; refine ⟨_, rfl, ?_⟩; have n0_ := aq (Kd.R_lower ho0 (below_size (stH HB))); have n1_ := aq (Kd.R_lower ho1 (below_size (stH HB))); have n2_ := aq (below_step (stH HB) hb); have HO114 := n0_; have HO117 := n1_; replace HB := n2_; clear n0_ n1_ n2_; (try clear hb); (try clear ho0); (try clear ho1)) | ((with_reducible refine gate_dst (N := 3) rfl ?_); (try (refine gate_guard (by rfl) ?_; dsimp only)); refine box_event ?hg (N := 3) ?hd (cs := #[.int .i64 0, .int .i64 0, .bool false, .bool false, .int .i64 0, .int .i64 0, .int .i64 0, .int .i64 0, .int .i64 0, .slice none 0 0, .slice none 0 0]) (t := 55) ?hr ?_; (case hd => rfl); (case hg => rfl); (case hr => first | (go_simp; done) | (go_simp; rfl)); intro gb119 hg w17 hbox hb; have n0_ := aq (Kd.R_below (by (with_reducible repeat (first | apply Kd.R_alloc | apply Kd.R_drewN | apply Kd.R_drew)); exact HO114.out) hb); have n1_ := aq (Kd.R_below (by (with_reducible repeat (first | apply Kd.R_alloc | apply Kd.R_drewN | apply Kd.R_drew)); exact HO117.out) hb); have n2_ := aq (below_step (stH HB) hb); have n3_ := aq (hbox); have n4_ := aq ((by rw [hg]; exact (below_size (stH HB)) : w.heap.size ≤ gb119)); have n5_ := aq ((by rw [hg]; exact (below_size (stH HB)) : w.heap.size ≤ gb119)); replace HO114 := n0_; replace HO117 := n1_; replace HB := n2_; have BK119 := n3_; have GW119 := n4_; have GE119 := n5_; clear n0_ n1_ n2_ n3_ n4_ n5_; clear hb hbox hg; obtain ⟨k18a, k18b, k18c, k18d, k18e, k18f, k18g, k18h, k18i, k18j, k18k⟩ := cl11 (W := w17) BK119.out; obtain ⟨u18a, u18b, u18c, u18d, u18e, u18f, u18g, u18h, u18i, u18j, u18k⟩ := fr11 BK119.out; obtain ⟨Ao19, co19, eo19⟩ := Kd.R_slice HO114.out; subst eo19; obtain ⟨Ao20, co20, eo20⟩ := Kd.R_slice HO117.out; subst eo20) | ((with_reducible refine gate_callee (f := 47) rfl ?_); refine goesL_ (some 18) rfl rfl Try.func47 (by kernel_rfl) rfl #[.string (⟨#[120]⟩ : ByteArray)] rfl fitR ?_; (with_reducible refine (noteDec.calls (⟨#[120]⟩ : ByteArray) t120 t121 t122 t123 t124 t125 t126 t127 t128 t129 t132 t135 _ A3.out).mono ?_); rintro e w21 ⟨v130, v133, rfl, ho0, ho1, hb⟩; refine ⟨_, rfl, ?_⟩; have n0_ := aq (Kd.R_elder' (by (with_reducible repeat (first | apply Kd.R_alloc | apply Kd.R_drewN | apply Kd.R_drew)); exact (Kd.R_mono (Kd.R_far (p := ⟨gb119, 10, none⟩) (Kd.R_far (p := ⟨gb119, 9, none⟩) (Kd.R_far (p := ⟨gb119, 8, none⟩) (Kd.R_far (p := ⟨gb119, 7, none⟩) (Kd.R_far (p := ⟨gb119, 6, none⟩) (Kd.R_far (p := ⟨gb119, 5, none⟩) (Kd.R_far (p := ⟨gb119, 4, none⟩) (Kd.R_far (p := ⟨gb119, 3, none⟩) (Kd.R_far (p := ⟨gb119, 2, none⟩) (Kd.R_far (p := ⟨gb119, 1, none⟩) (Kd.R_far (p := ⟨gb119, 0, none⟩) (Kd.R_types HO114.out BK119.out (by decide)) (fun _ hk => hk.2) (.int .i64 t103)) (fun _ hk => hk.2) (.int .i64 t104)) (fun _ hk => hk.2) (.bool true)) (fun _ hk => hk.2) (.bool t106)) (fun _ hk => hk.2) (.int .i64 t107)) (fun _ hk => hk.2) (.int .i64 t108)) (fun _ hk => hk.2) (.int .i64 t109)) (fun _ hk => hk.2) (.int .i64 t110)) (fun _ hk => hk.2) (.int .i64 t111)) (fun _ hk => hk.2) (.slice Ao19 t112.length co19)) (fun _ hk => hk.2) (.slice Ao20 t115.length co20)) (fun _ h_ => h_.1))) (Kd.R_base ho0) hb); have n1_ := aq (Kd.R_elder' (by (with_reducible repeat (first | apply Kd.R_alloc | apply Kd.R_drewN | apply Kd.R_drew)); exact (Kd.R_mono (Kd.R_far (p := ⟨gb119, 10, none⟩) (Kd.R_far (p := ⟨gb119, 9, none⟩) (Kd.R_far (p := ⟨gb119, 8, none⟩) (Kd.R_far (p := ⟨gb119, 7, none⟩) (Kd.R_far (p := ⟨gb119, 6, none⟩) (Kd.R_far (p := ⟨gb119, 5, none⟩) (Kd.R_far (p := ⟨gb119, 4, none⟩) (Kd.R_far (p := ⟨gb119, 3, none⟩) (Kd.R_far (p := ⟨gb119, 2, none⟩) (Kd.R_far (p := ⟨gb119, 1, none⟩) (Kd.R_far (p := ⟨gb119, 0, none⟩) (Kd.R_types HO117.out BK119.out (by decide)) (fun _ hk => hk.2) (.int .i64 t103)) (fun _ hk => hk.2) (.int .i64 t104)) (fun _ hk => hk.2) (.bool true)) (fun _ hk => hk.2) (.bool t106)) (fun _ hk => hk.2) (.int .i64 t107)) (fun _ hk => hk.2) (.int .i64 t108)) (fun _ hk => hk.2) (.int .i64 t109)) (fun _ hk => hk.2) (.int .i64 t110)) (fun _ hk => hk.2) (.int .i64 t111)) (fun _ hk => hk.2) (.slice Ao19 t112.length co19)) (fun _ hk => hk.2) (.slice Ao20 t115.length co20)) (fun _ h_ => h_.1))) (Kd.R_base ho1) hb); have n2_ := aq (Kd.R_lower (Kd.R_new' ho0 (Kd.R_lt (by (with_reducible repeat (first | apply Kd.R_alloc | apply Kd.R_drewN | apply Kd.R_drew)); exact (Kd.R_mono (Kd.R_far (p := ⟨gb119, 10, none⟩) (Kd.R_far (p := ⟨gb119, 9, none⟩) (Kd.R_far (p := ⟨gb119, 8, none⟩) (Kd.R_far (p := ⟨gb119, 7, none⟩) (Kd.R_far (p := ⟨gb119, 6, none⟩) (Kd.R_far (p := ⟨gb119, 5, none⟩) (Kd.R_far (p := ⟨gb119, 4, none⟩) (Kd.R_far (p := ⟨gb119, 3, none⟩) (Kd.R_far (p := ⟨gb119, 2, none⟩) (Kd.R_far (p := ⟨gb119, 1, none⟩) (Kd.R_far (p := ⟨gb119, 0, none⟩) (Kd.R_types HO114.out BK119.out (by decide)) (fun _ hk => hk.2) (.int .i64 t103)) (fun _ hk => hk.2) (.int .i64 t104)) (fun _ hk => hk.2) (.bool true)) (fun _ hk => hk.2) (.bool t106)) (fun _ hk => hk.2) (.int .i64 t107)) (fun _ hk => hk.2) (.int .i64 t108)) (fun _ hk => hk.2) (.int .i64 t109)) (fun _ hk => hk.2) (.int .i64 t110)) (fun _ hk => hk.2) (.int .i64 t111)) (fun _ hk => hk.2) (.slice Ao19 t112.length co19)) (fun _ hk => hk.2) (.slice Ao20 t115.length co20)) (fun _ h_ => h_.1))))) (below_size (stH HB))); have n3_ := aq (Kd.R_lower (Kd.R_new' ho1 (Kd.R_lt (by (with_reducible repeat (first | apply Kd.R_alloc | apply Kd.R_drewN | apply Kd.R_drew)); exact (Kd.R_mono (Kd.R_far (p := ⟨gb119, 10, none⟩) (Kd.R_far (p := ⟨gb119, 9, none⟩) (Kd.R_far (p := ⟨gb119, 8, none⟩) (Kd.R_far (p := ⟨gb119, 7, none⟩) (Kd.R_far (p := ⟨gb119, 6, none⟩) (Kd.R_far (p := ⟨gb119, 5, none⟩) (Kd.R_far (p := ⟨gb119, 4, none⟩) (Kd.R_far (p := ⟨gb119, 3, none⟩) (Kd.R_far (p := ⟨gb119, 2, none⟩) (Kd.R_far (p := ⟨gb119, 1, none⟩) (Kd.R_far (p := ⟨gb119, 0, none⟩) (Kd.R_types HO117.out BK119.out (by decide)) (fun _ hk => hk.2) (.int .i64 t103)) (fun _ hk => hk.2) (.int .i64 t104)) (fun _ hk => hk.2) (.bool true)) (fun _ hk => hk.2) (.bool t106)) (fun _ hk => hk.2) (.int .i64 t107)) (fun _ hk => hk.2) (.int .i64 t108)) (fun _ hk => hk.2) (.int .i64 t109)) (fun _ hk => hk.2) (.int .i64 t110)) (fun _ hk => hk.2) (.int .i64 t111)) (fun _ hk => hk.2) (.slice Ao19 t112.length co19)) (fun _ hk => hk.2) (.slice Ao20 t115.length co20)) (fun _ h_ => h_.1))))) (below_size (stH HB))); have n4_ := aq (blk_below (g := gb119) (o := .cells #[.int .i64 t103, .int .i64 t104, .bool true, .bool t106, .int .i64 t107, .int .i64 t108, .int .i64 t109, .int .i64 t110, .int .i64 t111, .slice Ao19 t112.length co19, .slice Ao20 t115.length co20] 55 (0, 0)) (by (with_reducible repeat (first | refine blk_drewN ?_ _ | refine blk_drew ?_ | refine blk_alloc ?_ _)); refine puts11 (cs := #[.int .i64 0, .int .i64 0, .bool false, .bool false, .int .i64 0, .int .i64 0, .int .i64 0, .int .i64 0, .int .i64 0, .slice none 0 0, .slice none 0 0]) rfl ?_; (with_reducible repeat (first | refine blk_drewN ?_ _ | refine blk_drew ?_ | refine blk_alloc ?_ _)); exact BK119.out) hb); have n5_ := aq (below_step (stH HB) hb); replace HO114 := n0_; replace HO117 := n1_; have HO131 := n2_; have HO134 := n3_; replace BK119 := n4_; replace HB := n5_; clear n0_ n1_ n2_ n3_ n4_ n5_; (try clear hb); (try clear hk); (try clear ho0); (try clear ho1)) | ((with_reducible refine gate_dst (N := 5) rfl ?_); (try (refine gate_guard (by rfl) ?_; dsimp only)); refine box_event ?hg (N := 5) ?hd (cs := #[.int .i64 0, .int .i64 0, .bool false, .bool false, .int .i64 0, .int .i64 0, .int .i64 0, .int .i64 0, .int .i64 0, .slice none 0 0, .slice none 0 0]) (t := 55) ?hr ?_; (case hd => rfl); (case hg => rfl); (case hr => first | (go_simp; done) | (go_simp; rfl)); intro gb136 hg w22 hbox hb; have n0_ := aq (Kd.R_below (by (with_reducible repeat (first | apply Kd.R_alloc | apply Kd.R_drewN | apply Kd.R_drew)); exact HO114.out) hb); have n1_ := aq (Kd.R_below (by (with_reducible repeat (first | apply Kd.R_alloc | apply Kd.R_drewN | apply Kd.R_drew)); exact HO117.out) hb); have n2_ := aq (Kd.R_below (by (with_reducible repeat (first | apply Kd.R_alloc | apply Kd.R_drewN | apply Kd.R_drew)); exact HO131.out) hb); have n3_ := aq (Kd.R_below (by (with_reducible repeat (first | apply Kd.R_alloc | apply Kd.R_drewN | apply Kd.R_drew)); exact HO134.out) hb); have n4_ := aq (blk_below (stB BK119) hb); have n5_ := aq (below_step (stH HB) hb); have n6_ := aq (hbox); have n7_ := aq ((by rw [hg]; exact (below_size (stH HB)) : w.heap.size ≤ gb136)); have n8_ := aq ((by rw [hg]; exact (below_size (stH HB)) : w.heap.size ≤ gb136)); have n9_ := aq ((by rw [hg]; exact Nat.ne_of_lt (blk_lt (stB BK119)) : gb119 ≠ gb136)); have n10_ := aq ((by rw [hg]; exact Nat.ne_of_gt (blk_lt (stB BK119)) : gb136 ≠ gb119)); replace HO114 := n0_; replace HO117 := n1_; replace HO131 := n2_; replace HO134 := n3_; replace BK119 := n4_; replace HB := n5_; have BK136 := n6_; have GW136 := n7_; have GE136 := n8_; have NB119_136 := n9_; have NB136_119 := n10_; clear n0_ n1_ n2_ n3_ n4_ n5_ n6_ n7_ n8_ n9_ n10_; clear hb hbox hg; have hnb23 := NB136_119.out; have hnc23 := NB119_136.out; obtain ⟨k24a, k24b, k24c, k24d, k24e, k24f, k24g, k24h, k24i, k24j, k24k⟩ := cl11 (W := w22) BK136.out; obtain ⟨u24a, u24b, u24c, u24d, u24e, u24f, u24g, u24h, u24i, u24j, u24k⟩ := fr11 BK136.out; obtain ⟨Ao25, co25, eo25⟩ := Kd.R_slice HO131.out; subst eo25; obtain ⟨Ao26, co26, eo26⟩ := Kd.R_slice HO134.out; subst eo26; obtain ⟨k27a, k27b, k27c, k27d, k27e, k27f, k27g, k27h, k27i, k27j, k27k⟩ := cl11 (W := w22) BK119.out; obtain ⟨u27a, u27b, u27c, u27d, u27e, u27f, u27g, u27h, u27i, u27j, u27k⟩ := fr11 BK119.out) | (go_at_call 49; (with_reducible refine (noteGood.calls t103 t104 true t106 t107 t108 t109 t110 t111 _ _ t112 _ _ t115 true _ ?side1 ?side2 ?side3 ?side4 A12.out).mono ?_); (case side1 => refine (Kd.R_reads' (e := 33) (base := w.heap.size) (ok := fun k_ => (True ∧ some k_ ≠ (.slice Ao25 t129.length co25 : Value).ownBlock)) (n := t112.length) (c := co19) ?_).2.2; exact (by (with_reducible repeat (first | apply Kd.R_alloc | apply Kd.R_drewN | apply Kd.R_drew)); exact (Kd.R_mono (Kd.R_far (p := ⟨gb136, 10, none⟩) (Kd.R_far (p := ⟨gb136, 9, none⟩) (Kd.R_far (p := ⟨gb136, 8, none⟩) (Kd.R_far (p := ⟨gb136, 7, none⟩) (Kd.R_far (p := ⟨gb136, 6, none⟩) (Kd.R_far (p := ⟨gb136, 5, none⟩) (Kd.R_far (p := ⟨gb136, 4, none⟩) (Kd.R_far (p := ⟨gb136, 3, none⟩) (Kd.R_far (p := ⟨gb136, 2, none⟩) (Kd.R_far (p := ⟨gb136, 1, none⟩) (Kd.R_far (p := ⟨gb136, 0, none⟩) (Kd.R_types HO114.out BK136.out (by decide)) (fun _ hk => hk.2) (.int .i64 t120)) (fun _ hk => hk.2) (.int .i64 t121)) (fun _ hk => hk.2) (.bool t122)) (fun _ hk => hk.2) (.bool t123)) (fun _ hk => hk.2) (.int .i64 t124)) (fun _ hk => hk.2) (.int .i64 t125)) (fun _ hk => hk.2) (.int .i64 t126)) (fun _ hk => hk.2) (.int .i64 t127)) (fun _ hk => hk.2) (.int .i64 t128)) (fun _ hk => hk.2) (.slice Ao25 t129.length co25)) (fun _ hk => hk.2) (.slice Ao26 t132.length co26)) (fun _ h_ => h_.1)))); (case side2 => exact (Kd.R_reads' HO114.out).2.1); (case side3 => refine (Kd.R_reads' (e := 65) (base := w.heap.size) (ok := fun k_ => (True ∧ some k_ ≠ (.slice Ao26 t132.length co26 : Value).ownBlock)) (n := t115.length) (c := co20) ?_).2.2; exact (by (with_reducible repeat (first | apply Kd.R_alloc | apply Kd.R_drewN | apply Kd.R_drew)); exact (Kd.R_mono (Kd.R_far (p := ⟨gb136, 10, none⟩) (Kd.R_far (p := ⟨gb136, 9, none⟩) (Kd.R_far (p := ⟨gb136, 8, none⟩) (Kd.R_far (p := ⟨gb136, 7, none⟩) (Kd.R_far (p := ⟨gb136, 6, none⟩) (Kd.R_far (p := ⟨gb136, 5, none⟩) (Kd.R_far (p := ⟨gb136, 4, none⟩) (Kd.R_far (p := ⟨gb136, 3, none⟩) (Kd.R_far (p := ⟨gb136, 2, none⟩) (Kd.R_far (p := ⟨gb136, 1, none⟩) (Kd.R_far (p := ⟨gb136, 0, none⟩) (Kd.R_types HO117.out BK136.out (by decide)) (fun _ hk => hk.2) (.int .i64 t120)) (fun _ hk => hk.2) (.int .i64 t121)) (fun _ hk => hk.2) (.bool t122)) (fun _ hk => hk.2) (.bool t123)) (fun _ hk => hk.2) (.int .i64 t124)) (fun _ hk => hk.2) (.int .i64 t125)) (fun _ hk => hk.2) (.int .i64 t126)) (fun _ hk => hk.2) (.int .i64 t127)) (fun _ hk => hk.2) (.int .i64 t128)) (fun _ hk => hk.2) (.slice Ao25 t129.length co25)) (fun _ hk => hk.2) (.slice Ao26 t132.length co26)) (fun _ h_ => h_.1)))); (case side4 => exact (Kd.R_reads' HO117.out).2.1); rintro e w28 ⟨rfl, hb⟩; have n0_ := aq (Kd.R_below (by (with_reducible repeat (first | apply Kd.R_alloc | apply Kd.R_drewN | apply Kd.R_drew)); exact (Kd.R_mono (Kd.R_far (p := ⟨gb136, 10, none⟩) (Kd.R_far (p := ⟨gb136, 9, none⟩) (Kd.R_far (p := ⟨gb136, 8, none⟩) (Kd.R_far (p := ⟨gb136, 7, none⟩) (Kd.R_far (p := ⟨gb136, 6, none⟩) (Kd.R_far (p := ⟨gb136, 5, none⟩) (Kd.R_far (p := ⟨gb136, 4, none⟩) (Kd.R_far (p := ⟨gb136, 3, none⟩) (Kd.R_far (p := ⟨gb136, 2, none⟩) (Kd.R_far (p := ⟨gb136, 1, none⟩) (Kd.R_far (p := ⟨gb136, 0, none⟩) (Kd.R_types HO114.out BK136.out (by decide)) (fun _ hk => hk.2) (.int .i64 t120)) (fun _ hk => hk.2) (.int .i64 t121)) (fun _ hk => hk.2) (.bool t122)) (fun _ hk => hk.2) (.bool t123)) (fun _ hk => hk.2) (.int .i64 t124)) (fun _ hk => hk.2) (.int .i64 t125)) (fun _ hk => hk.2) (.int .i64 t126)) (fun _ hk => hk.2) (.int .i64 t127)) (fun _ hk => hk.2) (.int .i64 t128)) (fun _ hk => hk.2) (.slice Ao25 t129.length co25)) (fun _ hk => hk.2) (.slice Ao26 t132.length co26)) (fun _ h_ => h_.1))) hb); have n1_ := aq (Kd.R_below (by (with_reducible repeat (first | apply Kd.R_alloc | apply Kd.R_drewN | apply Kd.R_drew)); exact (Kd.R_mono (Kd.R_far (p := ⟨gb136, 10, none⟩) (Kd.R_far (p := ⟨gb136, 9, none⟩) (Kd.R_far (p := ⟨gb136, 8, none⟩) (Kd.R_far (p := ⟨gb136, 7, none⟩) (Kd.R_far (p := ⟨gb136, 6, none⟩) (Kd.R_far (p := ⟨gb136, 5, none⟩) (Kd.R_far (p := ⟨gb136, 4, none⟩) (Kd.R_far (p := ⟨gb136, 3, none⟩) (Kd.R_far (p := ⟨gb136, 2, none⟩) (Kd.R_far (p := ⟨gb136, 1, none⟩) (Kd.R_far (p := ⟨gb136, 0, none⟩) (Kd.R_types HO117.out BK136.out (by decide)) (fun _ hk => hk.2) (.int .i64 t120)) (fun _ hk => hk.2) (.int .i64 t121)) (fun _ hk => hk.2) (.bool t122)) (fun _ hk => hk.2) (.bool t123)) (fun _ hk => hk.2) (.int .i64 t124)) (fun _ hk => hk.2) (.int .i64 t125)) (fun _ hk => hk.2) (.int .i64 t126)) (fun _ hk => hk.2) (.int .i64 t127)) (fun _ hk => hk.2) (.int .i64 t128)) (fun _ hk => hk.2) (.slice Ao25 t129.length co25)) (fun _ hk => hk.2) (.slice Ao26 t132.length co26)) (fun _ h_ => h_.1))) hb); have n2_ := aq (Kd.R_below (by (with_reducible repeat (first | apply Kd.R_alloc | apply Kd.R_drewN | apply Kd.R_drew)); exact (Kd.R_mono (Kd.R_far (p := ⟨gb136, 10, none⟩) (Kd.R_far (p := ⟨gb136, 9, none⟩) (Kd.R_far (p := ⟨gb136, 8, none⟩) (Kd.R_far (p := ⟨gb136, 7, none⟩) (Kd.R_far (p := ⟨gb136, 6, none⟩) (Kd.R_far (p := ⟨gb136, 5, none⟩) (Kd.R_far (p := ⟨gb136, 4, none⟩) (Kd.R_far (p := ⟨gb136, 3, none⟩) (Kd.R_far (p := ⟨gb136, 2, none⟩) (Kd.R_far (p := ⟨gb136, 1, none⟩) (Kd.R_far (p := ⟨gb136, 0, none⟩) (Kd.R_types HO131.out BK136.out (by decide)) (fun _ hk => hk.2) (.int .i64 t120)) (fun _ hk => hk.2) (.int .i64 t121)) (fun _ hk => hk.2) (.bool t122)) (fun _ hk => hk.2) (.bool t123)) (fun _ hk => hk.2) (.int .i64 t124)) (fun _ hk => hk.2) (.int .i64 t125)) (fun _ hk => hk.2) (.int .i64 t126)) (fun _ hk => hk.2) (.int .i64 t127)) (fun _ hk => hk.2) (.int .i64 t128)) (fun _ hk => hk.2) (.slice Ao25 t129.length co25)) (fun _ hk => hk.2) (.slice Ao26 t132.length co26)) (fun _ h_ => h_.1))) hb); have n3_ := aq (Kd.R_below (by (with_reducible repeat (first | apply Kd.R_alloc | apply Kd.R_drewN | apply Kd.R_drew)); exact (Kd.R_mono (Kd.R_far (p := ⟨gb136, 10, none⟩) (Kd.R_far (p := ⟨gb136, 9, none⟩) (Kd.R_far (p := ⟨gb136, 8, none⟩) (Kd.R_far (p := ⟨gb136, 7, none⟩) (Kd.R_far (p := ⟨gb136, 6, none⟩) (Kd.R_far (p := ⟨gb136, 5, none⟩) (Kd.R_far (p := ⟨gb136, 4, none⟩) (Kd.R_far (p := ⟨gb136, 3, none⟩) (Kd.R_far (p := ⟨gb136, 2, none⟩) (Kd.R_far (p := ⟨gb136, 1, none⟩) (Kd.R_far (p := ⟨gb136, 0, none⟩) (Kd.R_types HO134.out BK136.out (by decide)) (fun _ hk => hk.2) (.int .i64 t120)) (fun _ hk => hk.2) (.int .i64 t121)) (fun _ hk => hk.2) (.bool t122)) (fun _ hk => hk.2) (.bool t123)) (fun _ hk => hk.2) (.int .i64 t124)) (fun _ hk => hk.2) (.int .i64 t125)) (fun _ hk => hk.2) (.int .i64 t126)) (fun _ hk => hk.2) (.int .i64 t127)) (fun _ hk => hk.2) (.int .i64 t128)) (fun _ hk => hk.2) (.slice Ao25 t129.length co25)) (fun _ hk => hk.2) (.slice Ao26 t132.length co26)) (fun _ h_ => h_.1))) hb); have n4_ := aq (blk_below (g := gb119) (o := .cells #[.int .i64 t103, .int .i64 t104, .bool true, .bool t106, .int .i64 t107, .int .i64 t108, .int .i64 t109, .int .i64 t110, .int .i64 t111, .slice Ao19 t112.length co19, .slice Ao20 t115.length co20] 55 (0, 0)) (stF BK119) hb); have n5_ := aq (blk_below (g := gb136) (o := .cells #[.int .i64 t120, .int .i64 t121, .bool t122, .bool t123, .int .i64 t124, .int .i64 t125, .int .i64 t126, .int .i64 t127, .int .i64 t128, .slice Ao25 t129.length co25, .slice Ao26 t132.length co26] 55 (0, 0)) (by (with_reducible repeat (first | refine blk_drewN ?_ _ | refine blk_drew ?_ | refine blk_alloc ?_ _)); refine puts11 (cs := #[.int .i64 0, .int .i64 0, .bool false, .bool false, .int .i64 0, .int .i64 0, .int .i64 0, .int .i64 0, .int .i64 0, .slice none 0 0, .slice none 0 0]) rfl ?_; (with_reducible repeat (first | refine blk_drewN ?_ _ | refine blk_drew ?_ | refine blk_alloc ?_ _)); exact BK136.out) hb); have n6_ := aq (below_step (stH HB) hb); replace HO114 := n0_; replace HO117 := n1_; replace HO131 := n2_; replace HO134 := n3_; replace BK119 := n4_; replace BK136 := n5_; replace HB := n6_; clear n0_ n1_ n2_ n3_ n4_ n5_ n6_; (try clear hb); (try clear hk)) | (go_at_call 49; (refine (noteGood.calls 0 0 false false 0 0 0 0 0 _ _ ([] : List (S33)) _ _ ([] : List (S65)) t138 _ ?side1 ?side2 ?side3 ?side4 A14.out).mono ?_); (case side1 => exact Kd.C_nil _ _); (case side2 => exact Nat.le_refl _); (case side3 => exact Kd.C_nil _ _); (case side4 => exact Nat.le_refl _); rintro e w29 ⟨rfl, hb⟩; have n0_ := aq (Kd.R_below (by (with_reducible repeat (first | apply Kd.R_alloc | apply Kd.R_drewN | apply Kd.R_drew)); exact HO114.out) hb); have n1_ := aq (Kd.R_below (by (with_reducible repeat (first | apply Kd.R_alloc | apply Kd.R_drewN | apply Kd.R_drew)); exact HO117.out) hb); have n2_ := aq (Kd.R_below (by (with_reducible repeat (first | apply Kd.R_alloc | apply Kd.R_drewN | apply Kd.R_drew)); exact HO131.out) hb); have n3_ := aq (Kd.R_below (by (with_reducible repeat (first | apply Kd.R_alloc | apply Kd.R_drewN | apply Kd.R_drew)); exact HO134.out) hb); have n4_ := aq (blk_below (stB BK119) hb); have n5_ := aq (blk_below (stB BK136) hb); have n6_ := aq (below_step (stH HB) hb); replace HO114 := n0_; replace HO117 := n1_; replace HO131 := n2_; replace HO134 := n3_; replace BK119 := n4_; replace BK136 := n5_; replace HB := n6_; clear n0_ n1_ n2_ n3_ n4_ n5_ n6_; (try clear hb)))
          go_ret
          exact ⟨eqW, by repeat (first | (with_reducible first | exact HB.out | apply below_alloc | apply pw_below_drewN | apply below_drew1 | refine below_set ?_ GE119.out | refine below_set ?_ GE136.out) | exact HB.out)⟩
         ·exfalso; have q_ := Option.some.inj (A1.out.symm.trans v45_1); simp only [Prod.mk.injEq] at q_; obtain ⟨rfl, rfl⟩ := q_; have q_ := Option.some.inj (A2.out.symm.trans v45_2); (first | (simp only [Prod.mk.injEq] at q_; obtain ⟨rfl, rfl, rfl, rfl, rfl, rfl, rfl, rfl, rfl, rfl, rfl, rfl⟩ := q_) | cases q_); have q_ := Option.some.inj (A3.out.symm.trans v45_3); (first | (simp only [Prod.mk.injEq] at q_; obtain ⟨rfl, rfl, rfl, rfl, rfl, rfl, rfl, rfl, rfl, rfl, rfl, rfl⟩ := q_) | cases q_); have q_ := Option.some.inj (A12.out.symm.trans v45_12); subst q_; exact c13 (by decide +kernel)
        ·exfalso; have q_ := Option.some.inj (A1.out.symm.trans v45_1); simp only [Prod.mk.injEq] at q_; obtain ⟨rfl, rfl⟩ := q_; have q_ := Option.some.inj (A2.out.symm.trans v45_2); (first | (simp only [Prod.mk.injEq] at q_; obtain ⟨rfl, rfl, rfl, rfl, rfl, rfl, rfl, rfl, rfl, rfl, rfl, rfl⟩ := q_) | cases q_); have q_ := Option.some.inj (A3.out.symm.trans v45_3); (first | (simp only [Prod.mk.injEq] at q_; obtain ⟨rfl, rfl, rfl, rfl, rfl, rfl, rfl, rfl, rfl, rfl, rfl, rfl⟩ := q_) | cases q_); exact c11 (by decide +kernel)
       ·exfalso; have q_ := Option.some.inj (A1.out.symm.trans v45_1); simp only [Prod.mk.injEq] at q_; obtain ⟨rfl, rfl⟩ := q_; have q_ := Option.some.inj (A2.out.symm.trans v45_2); (first | (simp only [Prod.mk.injEq] at q_; obtain ⟨rfl, rfl, rfl, rfl, rfl, rfl, rfl, rfl, rfl, rfl, rfl, rfl⟩ := q_) | cases q_); have q_ := Option.some.inj (A3.out.symm.trans v45_3); (first | (simp only [Prod.mk.injEq] at q_; obtain ⟨rfl, rfl, rfl, rfl, rfl, rfl, rfl, rfl, rfl, rfl, rfl, rfl⟩ := q_) | cases q_); exact c10 (by decide +kernel)
      ·exfalso; have q_ := Option.some.inj (A1.out.symm.trans v45_1); simp only [Prod.mk.injEq] at q_; obtain ⟨rfl, rfl⟩ := q_; have q_ := Option.some.inj (A2.out.symm.trans v45_2); (first | (simp only [Prod.mk.injEq] at q_; obtain ⟨rfl, rfl, rfl, rfl, rfl, rfl, rfl, rfl, rfl, rfl, rfl, rfl⟩ := q_) | cases q_); have q_ := Option.some.inj (A3.out.symm.trans v45_3); (first | (simp only [Prod.mk.injEq] at q_; obtain ⟨rfl, rfl, rfl, rfl, rfl, rfl, rfl, rfl, rfl, rfl, rfl, rfl⟩ := q_) | cases q_); exact c9 (by decide +kernel)
     ·exfalso; have q_ := Option.some.inj (A1.out.symm.trans v45_1); simp only [Prod.mk.injEq] at q_; obtain ⟨rfl, rfl⟩ := q_; have q_ := Option.some.inj (A2.out.symm.trans v45_2); (first | (simp only [Prod.mk.injEq] at q_; obtain ⟨rfl, rfl, rfl, rfl, rfl, rfl, rfl, rfl, rfl, rfl, rfl, rfl⟩ := q_) | cases q_); have q_ := Option.some.inj (A3.out.symm.trans v45_3); (first | (simp only [Prod.mk.injEq] at q_; obtain ⟨rfl, rfl, rfl, rfl, rfl, rfl, rfl, rfl, rfl, rfl, rfl, rfl⟩ := q_) | cases q_); exact c8 (by decide +kernel)
    ·exfalso; have q_ := Option.some.inj (A1.out.symm.trans v45_1); simp only [Prod.mk.injEq] at q_; obtain ⟨rfl, rfl⟩ := q_; have q_ := Option.some.inj (A2.out.symm.trans v45_2); (first | (simp only [Prod.mk.injEq] at q_; obtain ⟨rfl, rfl, rfl, rfl, rfl, rfl, rfl, rfl, rfl, rfl, rfl, rfl⟩ := q_) | cases q_); have q_ := Option.some.inj (A3.out.symm.trans v45_3); (first | (simp only [Prod.mk.injEq] at q_; obtain ⟨rfl, rfl, rfl, rfl, rfl, rfl, rfl, rfl, rfl, rfl, rfl, rfl⟩ := q_) | cases q_); exact c7 (by decide +kernel)
   ·exfalso; have q_ := Option.some.inj (A1.out.symm.trans v45_1); simp only [Prod.mk.injEq] at q_; obtain ⟨rfl, rfl⟩ := q_; have q_ := Option.some.inj (A2.out.symm.trans v45_2); (first | (simp only [Prod.mk.injEq] at q_; obtain ⟨rfl, rfl, rfl, rfl, rfl, rfl, rfl, rfl, rfl, rfl, rfl, rfl⟩ := q_) | cases q_); have q_ := Option.some.inj (A3.out.symm.trans v45_3); (first | (simp only [Prod.mk.injEq] at q_; obtain ⟨rfl, rfl, rfl, rfl, rfl, rfl, rfl, rfl, rfl, rfl, rfl, rfl⟩ := q_) | cases q_); exact c6 (by decide +kernel)
  ·exfalso; have q_ := Option.some.inj (A1.out.symm.trans v45_1); simp only [Prod.mk.injEq] at q_; obtain ⟨rfl, rfl⟩ := q_; have q_ := Option.some.inj (A2.out.symm.trans v45_2); (first | (simp only [Prod.mk.injEq] at q_; obtain ⟨rfl, rfl, rfl, rfl, rfl, rfl, rfl, rfl, rfl, rfl, rfl, rfl⟩ := q_) | cases q_); have q_ := Option.some.inj (A3.out.symm.trans v45_3); (first | (simp only [Prod.mk.injEq] at q_; obtain ⟨rfl, rfl, rfl, rfl, rfl, rfl, rfl, rfl, rfl, rfl, rfl, rfl⟩ := q_) | cases q_); exact c5 (by decide +kernel)
 ·exfalso; have q_ := Option.some.inj (A1.out.symm.trans v45_1); simp only [Prod.mk.injEq] at q_; obtain ⟨rfl, rfl⟩ := q_; have q_ := Option.some.inj (A2.out.symm.trans v45_2); (first | (simp only [Prod.mk.injEq] at q_; obtain ⟨rfl, rfl, rfl, rfl, rfl, rfl, rfl, rfl, rfl, rfl, rfl, rfl⟩ := q_) | cases q_); have q_ := Option.some.inj (A3.out.symm.trans v45_3); (first | (simp only [Prod.mk.injEq] at q_; obtain ⟨rfl, rfl, rfl, rfl, rfl, rfl, rfl, rfl, rfl, rfl, rfl, rfl⟩ := q_) | cases q_); exact c4 (by decide +kernel)
end Go.Proofs.Ytfjmnaobfbmllaa.M
namespace Go.Proofs.Ytfjmnaobfbmllaa.M
open Go.RowKit Go.Proofs.YtfjmnaobfbmllaaW.PrintWords Go.Proofs.YtfjmnaobfbmllaaW.PrintLast Go.Proofs.YtfjmnaobfbmllaaW.PrintMore
theorem zM_bad : ¬ GoodM zM := by decide +kernel
theorem awake11_pure : seneschallaw11_awake.f = some true := by
  unfold seneschallaw11_awake.f
  rw [v45_1, Option.bind_some]
  simp only
  rw [v45_2, Option.bind_some, v45_3, Option.bind_some]
  simp only
  rw [if_pos trivial, if_pos (by decide +kernel), if_pos (by decide +kernel), if_pos (by decide +kernel), if_pos trivial, if_pos trivial, if_pos trivial, if_pos trivial, v45_12, Option.bind_some, if_pos rfl,
    show noteGood.f 0 0 false false 0 0 0 0 0 ([] : List S33) ([] : List S65) = some false from congrArg some (decide_eq_false zM_bad)]
  rfl
def awake11.f : Option Bool := some true
theorem awake11.calls (r : Bool) (w : World) (h : awake11.f = some r) : Calls Try.prog 45 #[] w fun e w' => e = .returned (.bool r) ∧ Below w.heap.size w w' :=
  seneschallaw11_awake.calls r w (by rw [awake11_pure]; exact h)
end Go.Proofs.Ytfjmnaobfbmllaa.M
namespace Go.Proofs.Ytfjmnaobfbmllaa.M
open Go.RowKit Go.Proofs.YtfjmnaobfbmllaaW.PrintWords Go.Proofs.YtfjmnaobfbmllaaW.PrintLast Go.Proofs.YtfjmnaobfbmllaaW.PrintMore
attribute [local go_sem] max2_int min2_int max_two min_two max_three min_three max_four min_four   -- for this text's walks alone
set_option linter.unusedVariables false
set_option linter.unusedSimpArgs false
def seneschallaw11_NoteFits.f (a0_0 : Int) (a0_1 : Int) (a0_2 : Bool) (a0_3 : Bool) (a0_4 : Int) (a0_5 : Int) (a0_6 : Int) (a0_7 : Int) (a0_8 : Int) (l0_9 : List (S33)) (l0_10 : List (S65)) : Option (Bool) := (awake11.f).bind fun t102 => (if t102 = true then ((great11.f a0_0 a0_1 a0_2 a0_3 a0_4 a0_5 a0_6 a0_7 a0_8 l0_9 l0_10).bind fun t103 => (if t103 = true then (some true) else ((noteEnc.f a0_0 a0_1 a0_2 a0_3 a0_4 a0_5 a0_6 a0_7 a0_8 l0_9 l0_10).bind fun bt104 => (if bt104.2 = 0 then (if (bt104.1.size : Int) > 4 then (if (bt104.1.size : Int) ≤ 16384 then (some true) else (if bt104.2 = 1 then (some (bt104.1.toList == ([] : List UInt8))) else (some false))) else (if bt104.2 = 1 then (some (bt104.1.toList == ([] : List UInt8))) else (some false))) else (if bt104.2 = 1 then (some (bt104.1.toList == ([] : List UInt8))) else (some false)))))) else (some false))
set_option maxHeartbeats 8000000 in
set_option maxRecDepth 100000 in
theorem seneschallaw11_NoteFits.calls (a0_0 : Int) (a0_1 : Int) (a0_2 : Bool) (a0_3 : Bool) (a0_4 : Int) (a0_5 : Int) (a0_6 : Int) (a0_7 : Int) (a0_8 : Int) (A0_9 : Option Addr) (c0_9 : Nat) (l0_9 : List (S33)) (A0_10 : Option Addr) (c0_10 : Nat) (l0_10 : List (S65)) (r : Bool) (hrt : r = true) (w : World) (hr0_9 : Kd.C k33 w A0_9 l0_9.length l0_9) (hc0_9 : l0_9.length ≤ c0_9) (hr0_10 : Kd.C k65 w A0_10 l0_10.length l0_10) (hc0_10 : l0_10.length ≤ c0_10) (h : seneschallaw11_NoteFits.f a0_0 a0_1 a0_2 a0_3 a0_4 a0_5 a0_6 a0_7 a0_8 l0_9 l0_10 = some r) :
  Calls Try.prog 12 #[.agg #[.int .i64 a0_0, .int .i64 a0_1, .bool a0_2, .bool a0_3, .int .i64 a0_4, .int .i64 a0_5, .int .i64 a0_6, .int .i64 a0_7, .int .i64 a0_8, .slice A0_9 l0_9.length c0_9, .slice A0_10 l0_10.length c0_10]] w fun e w' => e = .returned (.bool r) ∧ Below w.heap.size w w' := by
 have HRT := aq hrt
 clear hrt
 have hu55 := Try.underlying55
 have HR0_9 := aq hr0_9
 have HC0_9 := aq hc0_9
 clear hr0_9 hc0_9
 have HR0_10 := aq hr0_10
 have HC0_10 := aq hc0_10
 clear hr0_10 hc0_10
 have HB := aq (Below.refl w.heap.size w)
 have H : ((awake11.f).bind fun t102 => (if t102 = true then ((great11.f a0_0 a0_1 a0_2 a0_3 a0_4 a0_5 a0_6 a0_7 a0_8 l0_9 l0_10).bind fun t103 => (if t103 = true then (some true) else ((noteEnc.f a0_0 a0_1 a0_2 a0_3 a0_4 a0_5 a0_6 a0_7 a0_8 l0_9 l0_10).bind fun bt104 => (if bt104.2 = 0 then (if (bt104.1.size : Int) > 4 then (if (bt104.1.size : Int) ≤ 16384 then (some true) else (if bt104.2 = 1 then (some (bt104.1.toList == ([] : List UInt8))) else (some false))) else (if bt104.2 = 1 then (some (bt104.1.toList == ([] : List UInt8))) else (some false))) else (if bt104.2 = 1 then (some (bt104.1.toList == ([] : List UInt8))) else (some false)))))) else (some false))) = some r := h
 clear h
 replace H := Option.bind_eq_some_iff.mp H
 obtain ⟨t102, A20, H⟩ := H
 try dsimp only at H
 have A2 := aq A20
 clear A20
 by_cases c3 : t102 = true
 ·subst c3
  rw [if_pos rfl] at H
  replace H := Option.bind_eq_some_iff.mp H
  obtain ⟨t103, A40, H⟩ := H
  try dsimp only at H
  have A4 := aq A40
  clear A40
  by_cases c5 : t103 = true
  ·subst c5
   rw [if_pos rfl] at H
   obtain rfl := Option.some.inj H
   go_enter Try.func12, Try.ntmps12
   go_wp2_with (first | ((with_reducible refine gate_dst (N := 1) rfl ?_); (try (refine gate_guard (by rfl) ?_; dsimp only)); refine box_event ?hg (N := 1) ?hd (cs := #[.int .i64 a0_0, .int .i64 a0_1, .bool a0_2, .bool a0_3, .int .i64 a0_4, .int .i64 a0_5, .int .i64 a0_6, .int .i64 a0_7, .int .i64 a0_8, .slice A0_9 l0_9.length c0_9, .slice A0_10 l0_10.length c0_10]) (t := 55) ?hr ?_; (case hd => rfl); (case hg => rfl); (case hr => first | (go_simp; done) | (go_simp; rfl)); intro gb101 hg w6 hbox hb; have n0_ := aq (below_step (stH HB) hb); have n1_ := aq (hbox); have n2_ := aq ((by rw [hg]; exact (below_size (stH HB)) : w.heap.size ≤ gb101)); have n3_ := aq ((by rw [hg]; exact (below_size (stH HB)) : w.heap.size ≤ gb101)); replace HB := n0_; have BK101 := n1_; have GW101 := n2_; have GE101 := n3_; clear n0_ n1_ n2_ n3_; clear hb hbox hg) | ((with_reducible refine gate_callee (f := 45) rfl ?_); refine goesL_ (some 5) rfl rfl Try.func45 (by kernel_rfl) rfl #[] rfl fitR ?_; (with_reducible refine (awake11.calls  true _ A2.out).mono ?_); rintro e w7 ⟨rfl, hb⟩; refine ⟨_, rfl, ?_⟩; have n0_ := aq (blk_below (stB BK101) hb); have n1_ := aq (below_step (stH HB) hb); replace BK101 := n0_; replace HB := n1_; clear n0_ n1_; (try clear hb); obtain ⟨k8a, k8b, k8c, k8d, k8e, k8f, k8g, k8h, k8i, k8j, k8k⟩ := cl11 (W := w7) BK101.out; obtain ⟨u8a, u8b, u8c, u8d, u8e, u8f, u8g, u8h, u8i, u8j, u8k⟩ := fr11 BK101.out) | ((with_reducible refine gate_callee (f := 61) rfl ?_); refine goesL_ (some 8) rfl rfl Try.func61 (by kernel_rfl) rfl #[.agg #[.int .i64 a0_0, .int .i64 a0_1, .bool a0_2, .bool a0_3, .int .i64 a0_4, .int .i64 a0_5, .int .i64 a0_6, .int .i64 a0_7, .int .i64 a0_8, .slice A0_9 l0_9.length c0_9, .slice A0_10 l0_10.length c0_10]] rfl fitR ?_; (with_reducible refine (great11.calls a0_0 a0_1 a0_2 a0_3 a0_4 a0_5 a0_6 a0_7 a0_8 _ _ l0_9 _ _ l0_10 true _ ?side1 ?side2 ?side3 ?side4 A4.out).mono ?_); (case side1 => exact stC (Kd.C_below HR0_9.out HB.out)); (case side2 => exact HC0_9.out); (case side3 => exact stC (Kd.C_below HR0_10.out HB.out)); (case side4 => exact HC0_10.out); rintro e w9 ⟨rfl, hb⟩; refine ⟨_, rfl, ?_⟩; have n0_ := aq (blk_below (stB BK101) hb); have n1_ := aq (below_step (stH HB) hb); replace BK101 := n0_; replace HB := n1_; clear n0_ n1_; (try clear hb)))
   go_ret
   exact ⟨eqW, by repeat (first | (with_reducible first | exact HB.out | apply below_alloc | apply pw_below_drewN | apply below_drew1 | refine below_set ?_ GE101.out) | exact HB.out)⟩
  ·replace c5 := Bool.eq_false_iff.mpr c5
   subst c5
   rw [if_neg (show ¬ (false = true) by decide)] at H
   replace H := Option.bind_eq_some_iff.mp H
   obtain ⟨⟨t104, t105⟩, A100, H⟩ := H
   try dsimp only at H
   have A10 := aq A100
   clear A100
   by_cases c11 : t105 = 0
   ·rw [if_pos c11] at H
    have c11b0 : (t105 == 0) = true := beq_iff_eq.mpr c11
    have c11b1 : (t105 != 0) = false := bne_eq_false_iff_eq.mpr c11
    clear c11
    by_cases c12 : (t104.size : Int) > 4
    ·rw [if_pos c12] at H
     have c12b0 : decide (4 < (t104.size : Int)) = true := decide_eq_true c12
     have c12b1 : decide (4 < t104.size) = true := decide_eq_true (by omega)
     clear c12
     by_cases c13 : (t104.size : Int) ≤ 16384
     ·rw [if_pos c13] at H
      have c13b0 : decide ((t104.size : Int) ≤ 16384) = true := decide_eq_true c13
      have c13b1 : decide (t104.size ≤ 16384) = true := decide_eq_true (by omega)
      clear c13
      obtain rfl := Option.some.inj H
      go_enter Try.func12, Try.ntmps12
      go_wp2_with (first | ((with_reducible refine gate_dst (N := 1) rfl ?_); (try (refine gate_guard (by rfl) ?_; dsimp only)); refine box_event ?hg (N := 1) ?hd (cs := #[.int .i64 a0_0, .int .i64 a0_1, .bool a0_2, .bool a0_3, .int .i64 a0_4, .int .i64 a0_5, .int .i64 a0_6, .int .i64 a0_7, .int .i64 a0_8, .slice A0_9 l0_9.length c0_9, .slice A0_10 l0_10.length c0_10]) (t := 55) ?hr ?_; (case hd => rfl); (case hg => rfl); (case hr => first | (go_simp; done) | (go_simp; rfl)); intro gb101 hg w14 hbox hb; have n0_ := aq (below_step (stH HB) hb); have n1_ := aq (hbox); have n2_ := aq ((by rw [hg]; exact (below_size (stH HB)) : w.heap.size ≤ gb101)); have n3_ := aq ((by rw [hg]; exact (below_size (stH HB)) : w.heap.size ≤ gb101)); replace HB := n0_; have BK101 := n1_; have GW101 := n2_; have GE101 := n3_; clear n0_ n1_ n2_ n3_; clear hb hbox hg) | ((with_reducible refine gate_callee (f := 45) rfl ?_); refine goesL_ (some 5) rfl rfl Try.func45 (by kernel_rfl) rfl #[] rfl fitR ?_; (with_reducible refine (awake11.calls  true _ A2.out).mono ?_); rintro e w15 ⟨rfl, hb⟩; refine ⟨_, rfl, ?_⟩; have n0_ := aq (blk_below (stB BK101) hb); have n1_ := aq (below_step (stH HB) hb); replace BK101 := n0_; replace HB := n1_; clear n0_ n1_; (try clear hb); obtain ⟨k16a, k16b, k16c, k16d, k16e, k16f, k16g, k16h, k16i, k16j, k16k⟩ := cl11 (W := w15) BK101.out; obtain ⟨u16a, u16b, u16c, u16d, u16e, u16f, u16g, u16h, u16i, u16j, u16k⟩ := fr11 BK101.out) | ((with_reducible refine gate_callee (f := 61) rfl ?_); refine goesL_ (some 8) rfl rfl Try.func61 (by kernel_rfl) rfl #[.agg #[.int .i64 a0_0, .int .i64 a0_1, .bool a0_2, .bool a0_3, .int .i64 a0_4, .int .i64 a0_5, .int .i64 a0_6, .int .i64 a0_7, .int .i64 a0_8, .slice A0_9 l0_9.length c0_9, .slice A0_10 l0_10.length c0_10]] rfl fitR ?_; (with_reducible refine (great11.calls a0_0 a0_1 a0_2 a0_3 a0_4 a0_5 a0_6 a0_7 a0_8 _ _ l0_9 _ _ l0_10 false _ ?side1 ?side2 ?side3 ?side4 A4.out).mono ?_); (case side1 => exact stC (Kd.C_below HR0_9.out HB.out)); (case side2 => exact HC0_9.out); (case side3 => exact stC (Kd.C_below HR0_10.out HB.out)); (case side4 => exact HC0_10.out); rintro e w17 ⟨rfl, hb⟩; refine ⟨_, rfl, ?_⟩; have n0_ := aq (blk_below (stB BK101) hb); have n1_ := aq (below_step (stH HB) hb); replace BK101 := n0_; replace HB := n1_; clear n0_ n1_; (try clear hb); obtain ⟨k18a, k18b, k18c, k18d, k18e, k18f, k18g, k18h, k18i, k18j, k18k⟩ := cl11 (W := w17) BK101.out; obtain ⟨u18a, u18b, u18c, u18d, u18e, u18f, u18g, u18h, u18i, u18j, u18k⟩ := fr11 BK101.out) | ((with_reducible refine gate_callee (f := 62) rfl ?_); refine goesL_ (some 11) rfl rfl Try.func62 (by kernel_rfl) rfl #[.agg #[.int .i64 a0_0, .int .i64 a0_1, .bool a0_2, .bool a0_3, .int .i64 a0_4, .int .i64 a0_5, .int .i64 a0_6, .int .i64 a0_7, .int .i64 a0_8, .slice A0_9 l0_9.length c0_9, .slice A0_10 l0_10.length c0_10]] rfl fitR ?_; (with_reducible refine (noteEnc.calls a0_0 a0_1 a0_2 a0_3 a0_4 a0_5 a0_6 a0_7 a0_8 _ _ l0_9 _ _ l0_10 t104 t105 _ ?side1 ?side2 ?side3 ?side4 A10.out).mono ?_); (case side1 => exact stC (Kd.C_below HR0_9.out HB.out)); (case side2 => exact HC0_9.out); (case side3 => exact stC (Kd.C_below HR0_10.out HB.out)); (case side4 => exact HC0_10.out); rintro e w19 ⟨rfl, hb⟩; refine ⟨_, rfl, ?_⟩; have n0_ := aq (blk_below (stB BK101) hb); have n1_ := aq (below_step (stH HB) hb); replace BK101 := n0_; replace HB := n1_; clear n0_ n1_; (try clear hb)))
      go_ret
      exact ⟨eqW, by repeat (first | (with_reducible first | exact HB.out | apply below_alloc | apply pw_below_drewN | apply below_drew1 | refine below_set ?_ GE101.out) | exact HB.out)⟩
     ·rw [if_neg c13] at H
      have c13b0 : decide ((t104.size : Int) ≤ 16384) = false := decide_eq_false c13
      have c13b1 : decide (t104.size ≤ 16384) = false := decide_eq_false (by omega)
      clear c13
      by_cases c20 : t105 = 1
      ·rw [if_pos c20] at H
       have c20b0 : (t105 == 1) = true := beq_iff_eq.mpr c20
       have c20b1 : (t105 != 1) = false := bne_eq_false_iff_eq.mpr c20
       clear c20
       obtain rfl := Option.some.inj H
       go_enter Try.func12, Try.ntmps12
       go_wp2_with (first | ((with_reducible refine gate_dst (N := 1) rfl ?_); (try (refine gate_guard (by rfl) ?_; dsimp only)); refine box_event ?hg (N := 1) ?hd (cs := #[.int .i64 a0_0, .int .i64 a0_1, .bool a0_2, .bool a0_3, .int .i64 a0_4, .int .i64 a0_5, .int .i64 a0_6, .int .i64 a0_7, .int .i64 a0_8, .slice A0_9 l0_9.length c0_9, .slice A0_10 l0_10.length c0_10]) (t := 55) ?hr ?_; (case hd => rfl); (case hg => rfl); (case hr => first | (go_simp; done) | (go_simp; rfl)); intro gb101 hg w21 hbox hb; have n0_ := aq (below_step (stH HB) hb); have n1_ := aq (hbox); have n2_ := aq ((by rw [hg]; exact (below_size (stH HB)) : w.heap.size ≤ gb101)); have n3_ := aq ((by rw [hg]; exact (below_size (stH HB)) : w.heap.size ≤ gb101)); replace HB := n0_; have BK101 := n1_; have GW101 := n2_; have GE101 := n3_; clear n0_ n1_ n2_ n3_; clear hb hbox hg) | ((with_reducible refine gate_callee (f := 45) rfl ?_); refine goesL_ (some 5) rfl rfl Try.func45 (by kernel_rfl) rfl #[] rfl fitR ?_; (with_reducible refine (awake11.calls  true _ A2.out).mono ?_); rintro e w22 ⟨rfl, hb⟩; refine ⟨_, rfl, ?_⟩; have n0_ := aq (blk_below (stB BK101) hb); have n1_ := aq (below_step (stH HB) hb); replace BK101 := n0_; replace HB := n1_; clear n0_ n1_; (try clear hb); obtain ⟨k23a, k23b, k23c, k23d, k23e, k23f, k23g, k23h, k23i, k23j, k23k⟩ := cl11 (W := w22) BK101.out; obtain ⟨u23a, u23b, u23c, u23d, u23e, u23f, u23g, u23h, u23i, u23j, u23k⟩ := fr11 BK101.out) | ((with_reducible refine gate_callee (f := 61) rfl ?_); refine goesL_ (some 8) rfl rfl Try.func61 (by kernel_rfl) rfl #[.agg #[.int .i64 a0_0, .int .i64 a0_1, .bool a0_2, .bool a0_3, .int .i64 a0_4, .int .i64 a0_5, .int .i64 a0_6, .int .i64 a0_7, .int .i64 a0_8, .slice A0_9 l0_9.length c0_9, .slice A0_10 l0_10.length c0_10]] rfl fitR ?_; (with_reducible refine (great11.calls a0_0 a0_1 a0_2 a0_3 a0_4 a0_5 a0_6 a0_7 a0_8 _ _ l0_9 _ _ l0_10 false _ ?side1 ?side2 ?side3 ?side4 A4.out).mono ?_); (case side1 => exact stC (Kd.C_below HR0_9.out HB.out)); (case side2 => exact HC0_9.out); (case side3 => exact stC (Kd.C_below HR0_10.out HB.out)); (case side4 => exact HC0_10.out); rintro e w24 ⟨rfl, hb⟩; refine ⟨_, rfl, ?_⟩; have n0_ := aq (blk_below (stB BK101) hb); have n1_ := aq (below_step (stH HB) hb); replace BK101 := n0_; replace HB := n1_; clear n0_ n1_; (try clear hb); obtain ⟨k25a, k25b, k25c, k25d, k25e, k25f, k25g, k25h, k25i, k25j, k25k⟩ := cl11 (W := w24) BK101.out; obtain ⟨u25a, u25b, u25c, u25d, u25e, u25f, u25g, u25h, u25i, u25j, u25k⟩ := fr11 BK101.out) | ((with_reducible refine gate_callee (f := 62) rfl ?_); refine goesL_ (some 11) rfl rfl Try.func62 (by kernel_rfl) rfl #[.agg #[.int .i64 a0_0, .int .i64 a0_1, .bool a0_2, .bool a0_3, .int .i64 a0_4, .int .i64 a0_5, .int .i64 a0_6, .int .i64 a0_7, .int .i64 a0_8, .slice A0_9 l0_9.length c0_9, .slice A0_10 l0_10.length c0_10]] rfl fitR ?_; (with_reducible refine (noteEnc.calls a0_0 a0_1 a0_2 a0_3 a0_4 a0_5 a0_6 a0_7 a0_8 _ _ l0_9 _ _ l0_10 t104 t105 _ ?side1 ?side2 ?side3 ?side4 A10.out).mono ?_); (case side1 => exact stC (Kd.C_below HR0_9.out HB.out)); (case side2 => exact HC0_9.out); (case side3 => exact stC (Kd.C_below HR0_10.out HB.out)); (case side4 => exact HC0_10.out); rintro e w26 ⟨rfl, hb⟩; refine ⟨_, rfl, ?_⟩; have n0_ := aq (blk_below (stB BK101) hb); have n1_ := aq (below_step (stH HB) hb); replace BK101 := n0_; replace HB := n1_; clear n0_ n1_; (try clear hb)))
       go_ret
       exact ⟨eqW, by repeat (first | (with_reducible first | exact HB.out | apply below_alloc | apply pw_below_drewN | apply below_drew1 | refine below_set ?_ GE101.out) | exact HB.out)⟩
      ·rw [if_neg c20] at H
       have c20b0 : (t105 == 1) = false := beq_eq_false_iff_ne.mpr c20
       have c20b1 : (t105 != 1) = true := bne_iff_ne.mpr c20
       obtain rfl := Option.some.inj H
       exact absurd HRT.out (by decide)
    ·rw [if_neg c12] at H
     have c12b0 : decide (4 < (t104.size : Int)) = false := decide_eq_false c12
     have c12b1 : decide (4 < t104.size) = false := decide_eq_false (by omega)
     clear c12
     by_cases c27 : t105 = 1
     ·rw [if_pos c27] at H
      have c27b0 : (t105 == 1) = true := beq_iff_eq.mpr c27
      have c27b1 : (t105 != 1) = false := bne_eq_false_iff_eq.mpr c27
      clear c27
      obtain rfl := Option.some.inj H
      go_enter Try.func12, Try.ntmps12
      go_wp2_with (first | ((with_reducible refine gate_dst (N := 1) rfl ?_); (try (refine gate_guard (by rfl) ?_; dsimp only)); refine box_event ?hg (N := 1) ?hd (cs := #[.int .i64 a0_0, .int .i64 a0_1, .bool a0_2, .bool a0_3, .int .i64 a0_4, .int .i64 a0_5, .int .i64 a0_6, .int .i64 a0_7, .int .i64 a0_8, .slice A0_9 l0_9.length c0_9, .slice A0_10 l0_10.length c0_10]) (t := 55) ?hr ?_; (case hd => rfl); (case hg => rfl); (case hr => first | (go_simp; done) | (go_simp; rfl)); intro gb101 hg w28 hbox hb; have n0_ := aq (below_step (stH HB) hb); have n1_ := aq (hbox); have n2_ := aq ((by rw [hg]; exact (below_size (stH HB)) : w.heap.size ≤ gb101)); have n3_ := aq ((by rw [hg]; exact (below_size (stH HB)) : w.heap.size ≤ gb101)); replace HB := n0_; have BK101 := n1_; have GW101 := n2_; have GE101 := n3_; clear n0_ n1_ n2_ n3_; clear hb hbox hg) | ((with_reducible refine gate_callee (f := 45) rfl ?_); refine goesL_ (some 5) rfl rfl Try.func45 (by kernel_rfl) rfl #[] rfl fitR ?_; (with_reducible refine (awake11.calls  true _ A2.out).mono ?_); rintro e w29 ⟨rfl, hb⟩; refine ⟨_, rfl, ?_⟩; have n0_ := aq (blk_below (stB BK101) hb); have n1_ := aq (below_step (stH HB) hb); replace BK101 := n0_; replace HB := n1_; clear n0_ n1_; (try clear hb); obtain ⟨k30a, k30b, k30c, k30d, k30e, k30f, k30g, k30h, k30i, k30j, k30k⟩ := cl11 (W := w29) BK101.out; obtain ⟨u30a, u30b, u30c, u30d, u30e, u30f, u30g, u30h, u30i, u30j, u30k⟩ := fr11 BK101.out) | ((with_reducible refine gate_callee (f := 61) rfl ?_); refine goesL_ (some 8) rfl rfl Try.func61 (by kernel_rfl) rfl #[.agg #[.int .i64 a0_0, .int .i64 a0_1, .bool a0_2, .bool a0_3, .int .i64 a0_4, .int .i64 a0_5, .int .i64 a0_6, .int .i64 a0_7, .int .i64 a0_8, .slice A0_9 l0_9.length c0_9, .slice A0_10 l0_10.length c0_10]] rfl fitR ?_; (with_reducible refine (great11.calls a0_0 a0_1 a0_2 a0_3 a0_4 a0_5 a0_6 a0_7 a0_8 _ _ l0_9 _ _ l0_10 false _ ?side1 ?side2 ?side3 ?side4 A4.out).mono ?_); (case side1 => exact stC (Kd.C_below HR0_9.out HB.out)); (case side2 => exact HC0_9.out); (case side3 => exact stC (Kd.C_below HR0_10.out HB.out)); (case side4 => exact HC0_10.out); rintro e w31 ⟨rfl, hb⟩; refine ⟨_, rfl, ?_⟩; have n0_ := aq (blk_below (stB BK101) hb); have n1_ := aq (below_step (stH HB) hb); replace BK101 := n0_; replace HB := n1_; clear n0_ n1_; (try clear hb); obtain ⟨k32a, k32b, k32c, k32d, k32e, k32f, k32g, k32h, k32i, k32j, k32k⟩ := cl11 (W := w31) BK101.out; obtain ⟨u32a, u32b, u32c, u32d, u32e, u32f, u32g, u32h, u32i, u32j, u32k⟩ := fr11 BK101.out) | ((with_reducible refine gate_callee (f := 62) rfl ?_); refine goesL_ (some 11) rfl rfl Try.func62 (by kernel_rfl) rfl #[.agg #[.int .i64 a0_0, .int .i64 a0_1, .bool a0_2, .bool a0_3, .int .i64 a0_4, .int .i64 a0_5, .int .i64 a0_6, .int .i64 a0_7, .int .i64 a0_8, .slice A0_9 l0_9.length c0_9, .slice A0_10 l0_10.length c0_10]] rfl fitR ?_; (with_reducible refine (noteEnc.calls a0_0 a0_1 a0_2 a0_3 a0_4 a0_5 a0_6 a0_7 a0_8 _ _ l0_9 _ _ l0_10 t104 t105 _ ?side1 ?side2 ?side3 ?side4 A10.out).mono ?_); (case side1 => exact stC (Kd.C_below HR0_9.out HB.out)); (case side2 => exact HC0_9.out); (case side3 => exact stC (Kd.C_below HR0_10.out HB.out)); (case side4 => exact HC0_10.out); rintro e w33 ⟨rfl, hb⟩; refine ⟨_, rfl, ?_⟩; have n0_ := aq (blk_below (stB BK101) hb); have n1_ := aq (below_step (stH HB) hb); replace BK101 := n0_; replace HB := n1_; clear n0_ n1_; (try clear hb)))
      go_ret
      exact ⟨eqW, by repeat (first | (with_reducible first | exact HB.out | apply below_alloc | apply pw_below_drewN | apply below_drew1 | refine below_set ?_ GE101.out) | exact HB.out)⟩
     ·rw [if_neg c27] at H
      have c27b0 : (t105 == 1) = false := beq_eq_false_iff_ne.mpr c27
      have c27b1 : (t105 != 1) = true := bne_iff_ne.mpr c27
      obtain rfl := Option.some.inj H
      exact absurd HRT.out (by decide)
   ·rw [if_neg c11] at H
    have c11b0 : (t105 == 0) = false := beq_eq_false_iff_ne.mpr c11
    have c11b1 : (t105 != 0) = true := bne_iff_ne.mpr c11
    by_cases c34 : t105 = 1
    ·rw [if_pos c34] at H
     have c34b0 : (t105 == 1) = true := beq_iff_eq.mpr c34
     have c34b1 : (t105 != 1) = false := bne_eq_false_iff_eq.mpr c34
     clear c34
     obtain rfl := Option.some.inj H
     go_enter Try.func12, Try.ntmps12
     go_wp2_with (first | ((with_reducible refine gate_dst (N := 1) rfl ?_); (try (refine gate_guard (by rfl) ?_; dsimp only)); refine box_event ?hg (N := 1) ?hd (cs := #[.int .i64 a0_0, .int .i64 a0_1, .bool a0_2, .bool a0_3, .int .i64 a0_4, .int .i64 a0_5, .int .i64 a0_6, .int .i64 a0_7, .int .i64 a0_8, .slice A0_9 l0_9.length c0_9, .slice A0_10 l0_10.length c0_10]) (t := 55) ?hr ?_; (case hd => rfl); (case hg => rfl); (case hr => first | (go_simp; done) | (go_simp; rfl)); intro gb101 hg w35 hbox hb; have n0_ := aq (below_step (stH HB) hb); have n1_ := aq (hbox); have n2_ := aq ((by rw [hg]; exact (below_size (stH HB)) : w.heap.size ≤ gb101)); have n3_ := aq ((by rw [hg]; exact (below_size (stH HB)) : w.heap.size ≤ gb101)); replace HB := n0_; have BK101 := n1_; have GW101 := n2_; have GE101 := n3_; clear n0_ n1_ n2_ n3_; clear hb hbox hg) | ((with_reducible refine gate_callee (f := 45) rfl ?_); refine goesL_ (some 5) rfl rfl Try.func45 (by kernel_rfl) rfl #[] rfl fitR ?_; (with_reducible refine (awake11.calls  true _ A2.out).mono ?_); rintro e w36 ⟨rfl, hb⟩; refine ⟨_, rfl, ?_⟩; have n0_ := aq (blk_below (stB BK101) hb); have n1_ := aq (below_step (stH HB) hb); replace BK101 := n0_; replace HB := n1_; clear n0_ n1_; (try clear hb); obtain ⟨k37a, k37b, k37c, k37d, k37e, k37f, k37g, k37h, k37i, k37j, k37k⟩ := cl11 (W := w36) BK101.out; obtain ⟨u37a, u37b, u37c, u37d, u37e, u37f, u37g, u37h, u37i, u37j, u37k⟩ := fr11 BK101.out) | ((with_reducible refine gate_callee (f := 61) rfl ?_); refine goesL_ (some 8) rfl rfl Try.func61 (by kernel_rfl) rfl #[.agg #[.int .i64 a0_0, .int .i64 a0_1, .bool a0_2, .bool a0_3, .int .i64 a0_4, .int .i64 a0_5, .int .i64 a0_6, .int .i64 a0_7, .int .i64 a0_8, .slice A0_9 l0_9.length c0_9, .slice A0_10 l0_10.length c0_10]] rfl fitR ?_; (with_reducible refine (great11.calls a0_0 a0_1 a0_2 a0_3 a0_4 a0_5 a0_6 a0_7 a0_8 _ _ l0_9 _ _ l0_10 false _ ?side1 ?side2 ?side3 ?side4 A4.out).mono ?_); (case side1 => exact stC (Kd.C_below HR0_9.out HB.out)); (case side2 => exact HC0_9.out); (case side3 => exact stC (Kd.C_below HR0_10.out HB.out)); (case side4 => exact HC0_10.out); rintro e w38 ⟨rfl, hb⟩; refine ⟨_, rfl, ?_⟩; have n0_ := aq (blk_below (stB BK101) hb); have n1_ := aq (below_step (stH HB) hb); replace BK101 := n0_; replace HB := n1_; clear n0_ n1_; (try clear hb); obtain ⟨k39a, k39b, k39c, k39d, k39e, k39f, k39g, k39h, k39i, k39j, k39k⟩ := cl11 (W := w38) BK101.out; obtain ⟨u39a, u39b, u39c, u39d, u39e, u39f, u39g, u39h, u39i, u39j, u39k⟩ := fr11 BK101.out) | ((with_reducible refine gate_callee (f := 62) rfl ?_); refine goesL_ (some 11) rfl rfl Try.func62 (by kernel_rfl) rfl #[.agg #[.int .i64 a0_0, .int .i64 a0_1, .bool a0_2, .bool a0_3, .int .i64 a0_4, .int .i64 a0_5, .int .i64 a0_6, .int .i64 a0_7, .int .i64 a0_8, .slice A0_9 l0_9.length c0_9, .slice A0_10 l0_10.length c0_10]] rfl fitR ?_; (with_reducible refine (noteEnc.calls a0_0 a0_1 a0_2 a0_3 a0_4 a0_5 a0_6 a0_7 a0_8 _ _ l0_9 _ _ l0_10 t104 t105 _ ?side1 ?side2 ?side3 ?side4 A10.out).mono ?_); (case side1 => exact stC (Kd.C_below HR0_9.out HB.out)); (case side2 => exact HC0_9.out); (case side3 => exact stC (Kd.C_below HR0_10.out HB.out)); (case side4 => exact HC0_10.out); rintro e w40 ⟨rfl, hb⟩; refine ⟨_, rfl, ?_⟩; have n0_ := aq (blk_below (stB BK101) hb); have n1_ := aq (below_step (stH HB) hb); replace BK101 := n0_; replace HB := n1_; clear n0_ n1_; (try clear hb)))
     go_ret
     exact ⟨eqW, by repeat (first | (with_reducible first | exact HB.out | apply below_alloc | apply pw_below_drewN | apply below_drew1 | refine below_set ?_ GE101.out) | exact HB.out)⟩
    ·rw [if_neg c34] at H
     have c34b0 : (t105 == 1) = false := beq_eq_false_iff_ne.mpr c34
     have c34b1 : (t105 != 1) = true := bne_iff_ne.mpr c34
     obtain rfl := Option.some.inj H
     exact absurd HRT.out (by decide)
 ·replace c3 := Bool.eq_false_iff.mpr c3
  subst c3
  rw [if_neg (show ¬ (false = true) by decide)] at H
  obtain rfl := Option.some.inj H
  exact absurd HRT.out (by decide)
end Go.Proofs.Ytfjmnaobfbmllaa.M
namespace Go.Proofs.Ytfjmnaobfbmllaa.M
open Go.RowKit Go.Proofs.YtfjmnaobfbmllaaW.PrintWords Go.Proofs.YtfjmnaobfbmllaaW.PrintLast Go.Proofs.YtfjmnaobfbmllaaW.PrintMore
set_option linter.unusedVariables false
set_option linter.unusedSimpArgs false
theorem pureNoteFits (x0 : S55) : seneschallaw11_NoteFits.f x0.f0 x0.f1 x0.f2 x0.f3 x0.f4 x0.f5.f0 x0.f5.f1 x0.f5.f2 x0.f6.f0 x0.f6.f1 x0.f7 = some true := by
  unfold seneschallaw11_NoteFits.f awake11.f great11.f noteEnc.f
  rw [Option.bind_some, if_pos rfl, Option.bind_some]
  cases greatM x0.f6.f1 x0.f7 with
  | true => rw [if_pos rfl]
  | false =>
    rw [if_neg Bool.false_ne_true, Option.bind_some, show msg x0.f0 x0.f1 x0.f2 x0.f3 x0.f4 x0.f5.f0 x0.f5.f1 x0.f5.f2 x0.f6.f0 x0.f6.f1 x0.f7 = x0 from rfl]
    by_cases hg : GoodM x0
    · have h1 := encM_size hg
      have h2 := bdy_size hg
      rw [if_pos (by rw [encM_good hg]), if_pos (by omega), if_pos (by omega)]
    · rw [encM_bad hg]
      simp only
      rw [if_neg (by decide), if_pos trivial]
      exact congrArg some (beq_iff_eq.mpr ((ba_nil _).mpr rfl))
end Go.Proofs.Ytfjmnaobfbmllaa.M
namespace Go.Proofs.Ytfjmnaobfbmllaa.noteFits
open Go.ChangeShapes Go.WideShapes Go.ChangeAt Go.RowKit Go.Proofs.Ytfjmnaobfbmllaa.M
open Go.Proofs.YtfjmnaobfbmllaaW.PrintWords Go.Proofs.YtfjmnaobfbmllaaW.PrintLast Go.Proofs.YtfjmnaobfbmllaaW.PrintMore
open Go.ChangeMaps (open_string shut_string)
set_option linter.unusedVariables false
theorem own : ownKnob Try.prog.godebug = none := by kernel_rfl
theorem laidOut : laidOutB Try.prog = true := by kernel_rfl
set_option maxRecDepth 100000 in
theorem lifted (os : Os) (started : os.Started) (H : Type) (enc : TypeId × Value → H) :
    ReturnsInHanded {} Try.checked os 12 .any (Rows.noteFitsSpec.pre6 enc Try.prog Try.f12 Rows.noteFitsRow.domain false) (Rows.noteFitsSpec.post enc Try.prog Try.f12 false true false false) := by
  refine returnsInHanded_of_change_sized (C := Try.checked) own started (by kernel_rfl) Try.func12
    (ChangeSpec.witness6 (enc := enc) (C := Try.checked) false ⟨#[], #[.agg #[.int .i64 0, .int .i64 0, .bool false, .bool false, .int .i64 0, .int .i64 0, .int .i64 0, .int .i64 0, .int .i64 0, .slice none 0 0, .slice none 0 0]], []⟩ 8 (by kernel_rfl) (by kernel_rfl) (by kernel_rfl) (by kernel_rfl)) ?_
  intro W base args ds gs before hval0 hW hcnd hsz0 _
  have hsz : (DataW.weightsEach Try.prog (Try.f12.params.toList ++ Rows.noteFitsSpec.plain.varTypes Try.prog) (ds ++ gs)).all (· ≤ reachBytes) = true := hsz0
  have hval : ∀ (j : Nat) t v, Try.f12.params[j]? = some t → args[j]? = some v → Value.okWide Try.prog W .any base t v := hval0
  have hW' := hW
  obtain ⟨p, q, hA0, hV, rfl, hfz, hnd⟩ := hW
  have hA : DataW.TrodAll enc Try.prog W 0 (fun _ => true) true Try.f12.params.toList args.toList ds p := hA0
  rw [Try.params12] at hA hval hsz
  obtain ⟨v0, vs0, d0, ds0, p0, q0, hargs, rfl, rfl, h0, r0⟩ := trodAll_cons hA
  obtain ⟨rfl, rfl, rfl⟩ := trodAll_nil r0
  obtain rfl : args = #[v0] := by cases args; simp_all
  obtain ⟨rfl, rfl⟩ := trodVars_none hV
  have k0 := h0
  have lt0 : ∀ x ∈ p0, x.block < W.heap.size := by obtain ⟨m, hm⟩ := k0; exact DataW.trod_lt m _ _ _ hm
  obtain ⟨x0, A0, c0, B0, e0, rfl, hr0, hc0, hs0, he0⟩ := V55 (hval 0 55 v0 rfl rfl) h0
  clear hA0 hval0 hsz0 hsz hval
  have hp := pureNoteFits x0
  refine (seneschallaw11_NoteFits.calls (x0.f0) (x0.f1) (x0.f2) (x0.f3) (x0.f4) (x0.f5.f0) (x0.f5.f1) (x0.f5.f2) (x0.f6.f0) A0 c0 (x0.f6.f1) B0 e0 (x0.f7) true rfl W hr0 hc0 hs0 he0 hp).mono fun e W' ⟨he, bel⟩ => ?_
  subst he
  exact ⟨_, rfl, _, _, _, [], _, [], hW', trodAll_mk1 (shut_bool Try.underlying4 _), (trodAll_cons_mk (Below.trod laidOut (by kernel_rfl) (of_decide_eq_true (by kernel_rfl)) k0 bel lt0) trodAll_mk0), rfl, bel.frame _, fun h => by cases h⟩
theorem joined : joinedFacts Try.prog 12 Try.f12 Rows.noteFitsSpec Rows.noteFitsRow = true := by
  unfold joinedFacts
  rw [may_enter, lifts_final, make_is]
  kernel_rfl
theorem over : Rows.noteFitsRow.holds Try.pinned (OpenSpec.ofChange Rows.noteFitsSpec) :=
  OpenClaim.holds_of_wide 12 Try.f12 rfl rfl rfl rfl rfl rfl rfl ⟨rfl, rfl, rfl, rfl, rfl⟩ rfl rfl rfl rfl rfl (by kernel_rfl) Try.func12 joined
    (of_decide_eq_true (by kernel_rfl)) (by unfold Func.isWrapper; first | (rw [if_pos (by decide +kernel)]; kernel_rfl) | (rw [if_neg (by decide +kernel)]; exact ⟨rfl, rfl⟩))
    (fun os started H enc _ => lifted os started H enc)
theorem proved : Rows.NoteFitsSaid := over
#print axioms proved
end Go.Proofs.Ytfjmnaobfbmllaa.noteFits
namespace Go.Proofs.Ytfjmnaobfbmllaa
theorem noteFits_holds : Rows.NoteFitsSaid := noteFits.proved
end Go.Proofs.Ytfjmnaobfbmllaa
