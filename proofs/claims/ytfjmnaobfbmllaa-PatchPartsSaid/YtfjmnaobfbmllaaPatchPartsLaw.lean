/- The law PatchParts: it returns true for every input, and its arguments read as they did. No condition. Part 4 of 4. -/
import Derived.Test.YtfjmnaobfbmllaaProg
import Derived.Test.YtfjmnaobfbmllaaRows
import Derived.Test.YtfjmnaobfbmllaaUApart
import Derived.Test.YtfjmnaobfbmllaaUEqStruct
import Derived.Test.YtfjmnaobfbmllaaUFoot
import Derived.Test.YtfjmnaobfbmllaaUGuard
import Derived.Test.YtfjmnaobfbmllaaUKept
import Derived.Test.YtfjmnaobfbmllaaULast
import Derived.Test.YtfjmnaobfbmllaaUMore
import Derived.Test.YtfjmnaobfbmllaaUN
import Derived.Test.YtfjmnaobfbmllaaURepsOne
import Derived.Test.YtfjmnaobfbmllaaUShare
import Derived.Test.YtfjmnaobfbmllaaUTab
import Derived.Test.YtfjmnaobfbmllaaUWords
import Derived.ArgAppend
import Derived.Below
import Derived.BigQuiet
import Derived.Carry
import Derived.ChangeArms
import Derived.ChangeMaps
import Derived.ChangeOld
import Derived.Deep.AppendLies
import Derived.Deep.CutBlock
import Derived.Deep.DeepCutAuto
import Derived.Deep.Draws
import Derived.Deep.LoopGhost
import Derived.Deep.OwnRows
import Derived.Deep.QuietTactic
import Derived.Deep.RegionHeld3
import Derived.Deep.Slices
import Derived.KernelRfl
import Derived.Laws.Bits64
import Derived.Laws.Bits64b
import Derived.Laws.BitsAllLaws
import Derived.Laws.BitsLemmas
import Derived.Laws.BytesArg
import Derived.Laws.CopyOwn
import Derived.Laws.IdiomCopy
import Derived.Laws.MakeOwn
import Derived.Laws.OwnMore
import Derived.Laws.Rows
import Derived.Laws.Slices
import Derived.Lib.AppendStr
import Derived.Lib.ConvBytes
import Derived.Maps.AppendAt
import Derived.OpenShut
import Derived.OrdersHeld
import Derived.OwnWalk
import Derived.ProofKit
import Derived.RowKit
import Derived.RowKit3
import Derived.ShutString
import Derived.SizedLaws
import Derived.Tactics
import Derived.WalkKit
import Derived.WalkSpells
import Derived.WideLaws
import Derived.Test.YtfjmnaobfbmllaaPatchPartsA0
import Derived.Test.YtfjmnaobfbmllaaPatchPartsA1
import Derived.Test.YtfjmnaobfbmllaaPatchPartsA2
namespace Go.Proofs.Ytfjmnaobfbmllaa.M
open Go.RowKit Go.Proofs.YtfjmnaobfbmllaaW.PrintWords Go.Proofs.YtfjmnaobfbmllaaW.PrintLast Go.Proofs.YtfjmnaobfbmllaaW.PrintMore
attribute [local go_sem] max2_int min2_int max_two min_two max_three min_three max_four min_four   -- for this text's walks alone
set_option linter.unusedVariables false
set_option linter.unusedSimpArgs false
set_option maxHeartbeats 8000000 in
set_option maxRecDepth 100000 in
theorem seneschallaw05_awake.calls  (r : Bool) (w : World) (h : seneschallaw05_awake.f  = some r) :
  Calls Try.prog 65 #[] w fun e w' => e = .returned (.bool r) ∧ Below w.heap.size w w' := by
 have hu65 := Try.underlying65
 have hu24 := Try.underlying24
 have HB := Aside0.mk (Below.refl w.heap.size w)
 have H : ((seneschallaw05_insert.f).bind fun bt101 => ((patRedo.f 0 ([] : List (S33)) bt101.1 bt101.2.1 bt101.2.2.1 bt101.2.2.2.1 bt101.2.2.2.2.1 bt101.2.2.2.2.2.1 bt101.2.2.2.2.2.2.1 bt101.2.2.2.2.2.2.2.1 bt101.2.2.2.2.2.2.2.2.1 bt101.2.2.2.2.2.2.2.2.2.1 bt101.2.2.2.2.2.2.2.2.2.2.1 bt101.2.2.2.2.2.2.2.2.2.2.2.1 bt101.2.2.2.2.2.2.2.2.2.2.2.2).bind fun bt115 => ((patRedo.f bt115.1 bt115.2.1 bt101.1 bt101.2.1 bt101.2.2.1 bt101.2.2.2.1 bt101.2.2.2.2.1 bt101.2.2.2.2.2.1 bt101.2.2.2.2.2.2.1 bt101.2.2.2.2.2.2.2.1 bt101.2.2.2.2.2.2.2.2.1 bt101.2.2.2.2.2.2.2.2.2.1 bt101.2.2.2.2.2.2.2.2.2.2.1 bt101.2.2.2.2.2.2.2.2.2.2.2.1 bt101.2.2.2.2.2.2.2.2.2.2.2.2).bind fun bt122 => ((patTurn.f bt101.1 bt101.2.1 bt101.2.2.1 bt101.2.2.2.1 bt101.2.2.2.2.1 bt101.2.2.2.2.2.1 bt101.2.2.2.2.2.2.1 bt101.2.2.2.2.2.2.2.1 bt101.2.2.2.2.2.2.2.2.1 bt101.2.2.2.2.2.2.2.2.2.1 bt101.2.2.2.2.2.2.2.2.2.2.1 bt101.2.2.2.2.2.2.2.2.2.2.2.1 bt101.2.2.2.2.2.2.2.2.2.2.2.2 6 5).bind fun bt129 => ((patAll.f bt115.1 bt115.2.1 0 (([(⟨bt101.1, (⟨bt101.2.1, bt101.2.2.1, bt101.2.2.2.1⟩ : S52), bt101.2.2.2.2.1, bt101.2.2.2.2.2.1, bt101.2.2.2.2.2.2.1, bt101.2.2.2.2.2.2.2.1, (⟨bt101.2.2.2.2.2.2.2.2.1, bt101.2.2.2.2.2.2.2.2.2.1⟩ : S33), (⟨bt101.2.2.2.2.2.2.2.2.2.2.1, bt101.2.2.2.2.2.2.2.2.2.2.2.1⟩ : S33), bt101.2.2.2.2.2.2.2.2.2.2.2.2⟩ : S65), (⟨bt129.1, (⟨bt129.2.1, bt129.2.2.1, bt129.2.2.2.1⟩ : S52), bt129.2.2.2.2.1, bt129.2.2.2.2.2.1, bt129.2.2.2.2.2.2.1, bt129.2.2.2.2.2.2.2.1, (⟨bt129.2.2.2.2.2.2.2.2.1, bt129.2.2.2.2.2.2.2.2.2.1⟩ : S33), (⟨bt129.2.2.2.2.2.2.2.2.2.2.1, bt129.2.2.2.2.2.2.2.2.2.2.2.1⟩ : S33), bt129.2.2.2.2.2.2.2.2.2.2.2.2.1⟩ : S65)] : List (S65)))).bind fun bt147 => (if bt115.2.2.1 = true then (if bt115.2.2.2 = 0 then (if bt115.1 = 5 then (if (bt115.2.1.length : Int) = 1 then (if 0 < (bt115.2.1.length : Int) then (if ((rd_T33 bt115.2.1 0).f1).toList = ([97] : List UInt8) then (if bt122.2.2.1 = true then (some false) else (if bt122.2.2.2 = 0 then (if bt129.2.2.2.2.2.2.2.2.2.2.2.2.2 = 0 then (if bt129.1 = 2 then (if bt147.2.2 = 0 then (if bt147.1 = 6 then (some ((bt147.2.1.length : Int) == 0)) else (some false)) else (some false)) else (some false)) else (some false)) else (some false))) else (some false)) else (none)) else (some false)) else (some false)) else (some false)) else (some false))))))) = some r := h
 clear h
 replace H := Option.bind_eq_some_iff.mp H
 obtain ⟨⟨t101, t102, t103, t104, t105, t106, t107, t108, t109, t110, t111, t112, t113⟩, A10, H⟩ := H
 replace H : ((patRedo.f 0 ([] : List (S33)) t101 t102 t103 t104 t105 t106 t107 t108 t109 t110 t111 t112 t113).bind fun bt115 => ((patRedo.f bt115.1 bt115.2.1 t101 t102 t103 t104 t105 t106 t107 t108 t109 t110 t111 t112 t113).bind fun bt122 => ((patTurn.f t101 t102 t103 t104 t105 t106 t107 t108 t109 t110 t111 t112 t113 6 5).bind fun bt129 => ((patAll.f bt115.1 bt115.2.1 0 (([(⟨t101, (⟨t102, t103, t104⟩ : S52), t105, t106, t107, t108, (⟨t109, t110⟩ : S33), (⟨t111, t112⟩ : S33), t113⟩ : S65), (⟨bt129.1, (⟨bt129.2.1, bt129.2.2.1, bt129.2.2.2.1⟩ : S52), bt129.2.2.2.2.1, bt129.2.2.2.2.2.1, bt129.2.2.2.2.2.2.1, bt129.2.2.2.2.2.2.2.1, (⟨bt129.2.2.2.2.2.2.2.2.1, bt129.2.2.2.2.2.2.2.2.2.1⟩ : S33), (⟨bt129.2.2.2.2.2.2.2.2.2.2.1, bt129.2.2.2.2.2.2.2.2.2.2.2.1⟩ : S33), bt129.2.2.2.2.2.2.2.2.2.2.2.2.1⟩ : S65)] : List (S65)))).bind fun bt147 => (if bt115.2.2.1 = true then (if bt115.2.2.2 = 0 then (if bt115.1 = 5 then (if (bt115.2.1.length : Int) = 1 then (if 0 < (bt115.2.1.length : Int) then (if ((rd_T33 bt115.2.1 0).f1).toList = ([97] : List UInt8) then (if bt122.2.2.1 = true then (some false) else (if bt122.2.2.2 = 0 then (if bt129.2.2.2.2.2.2.2.2.2.2.2.2.2 = 0 then (if bt129.1 = 2 then (if bt147.2.2 = 0 then (if bt147.1 = 6 then (some ((bt147.2.1.length : Int) == 0)) else (some false)) else (some false)) else (some false)) else (some false)) else (some false))) else (some false)) else (none)) else (some false)) else (some false)) else (some false)) else (some false)))))) = some r := H
 have A1 := Aside0.mk A10
 clear A10
 replace H := Option.bind_eq_some_iff.mp H
 obtain ⟨⟨t115, t116, t119, t120⟩, A20, H⟩ := H
 replace H : ((patRedo.f t115 t116 t101 t102 t103 t104 t105 t106 t107 t108 t109 t110 t111 t112 t113).bind fun bt122 => ((patTurn.f t101 t102 t103 t104 t105 t106 t107 t108 t109 t110 t111 t112 t113 6 5).bind fun bt129 => ((patAll.f t115 t116 0 (([(⟨t101, (⟨t102, t103, t104⟩ : S52), t105, t106, t107, t108, (⟨t109, t110⟩ : S33), (⟨t111, t112⟩ : S33), t113⟩ : S65), (⟨bt129.1, (⟨bt129.2.1, bt129.2.2.1, bt129.2.2.2.1⟩ : S52), bt129.2.2.2.2.1, bt129.2.2.2.2.2.1, bt129.2.2.2.2.2.2.1, bt129.2.2.2.2.2.2.2.1, (⟨bt129.2.2.2.2.2.2.2.2.1, bt129.2.2.2.2.2.2.2.2.2.1⟩ : S33), (⟨bt129.2.2.2.2.2.2.2.2.2.2.1, bt129.2.2.2.2.2.2.2.2.2.2.2.1⟩ : S33), bt129.2.2.2.2.2.2.2.2.2.2.2.2.1⟩ : S65)] : List (S65)))).bind fun bt147 => (if t119 = true then (if t120 = 0 then (if t115 = 5 then (if (t116.length : Int) = 1 then (if 0 < (t116.length : Int) then (if ((rd_T33 t116 0).f1).toList = ([97] : List UInt8) then (if bt122.2.2.1 = true then (some false) else (if bt122.2.2.2 = 0 then (if bt129.2.2.2.2.2.2.2.2.2.2.2.2.2 = 0 then (if bt129.1 = 2 then (if bt147.2.2 = 0 then (if bt147.1 = 6 then (some ((bt147.2.1.length : Int) == 0)) else (some false)) else (some false)) else (some false)) else (some false)) else (some false))) else (some false)) else (none)) else (some false)) else (some false)) else (some false)) else (some false))))) = some r := H
 have A2 := Aside0.mk A20
 clear A20
 replace H := Option.bind_eq_some_iff.mp H
 obtain ⟨⟨t122, t123, t126, t127⟩, A30, H⟩ := H
 replace H : ((patTurn.f t101 t102 t103 t104 t105 t106 t107 t108 t109 t110 t111 t112 t113 6 5).bind fun bt129 => ((patAll.f t115 t116 0 (([(⟨t101, (⟨t102, t103, t104⟩ : S52), t105, t106, t107, t108, (⟨t109, t110⟩ : S33), (⟨t111, t112⟩ : S33), t113⟩ : S65), (⟨bt129.1, (⟨bt129.2.1, bt129.2.2.1, bt129.2.2.2.1⟩ : S52), bt129.2.2.2.2.1, bt129.2.2.2.2.2.1, bt129.2.2.2.2.2.2.1, bt129.2.2.2.2.2.2.2.1, (⟨bt129.2.2.2.2.2.2.2.2.1, bt129.2.2.2.2.2.2.2.2.2.1⟩ : S33), (⟨bt129.2.2.2.2.2.2.2.2.2.2.1, bt129.2.2.2.2.2.2.2.2.2.2.2.1⟩ : S33), bt129.2.2.2.2.2.2.2.2.2.2.2.2.1⟩ : S65)] : List (S65)))).bind fun bt147 => (if t119 = true then (if t120 = 0 then (if t115 = 5 then (if (t116.length : Int) = 1 then (if 0 < (t116.length : Int) then (if ((rd_T33 t116 0).f1).toList = ([97] : List UInt8) then (if t126 = true then (some false) else (if t127 = 0 then (if bt129.2.2.2.2.2.2.2.2.2.2.2.2.2 = 0 then (if bt129.1 = 2 then (if bt147.2.2 = 0 then (if bt147.1 = 6 then (some ((bt147.2.1.length : Int) == 0)) else (some false)) else (some false)) else (some false)) else (some false)) else (some false))) else (some false)) else (none)) else (some false)) else (some false)) else (some false)) else (some false)))) = some r := H
 have A3 := Aside0.mk A30
 clear A30
 replace H := Option.bind_eq_some_iff.mp H
 obtain ⟨⟨t129, t130, t131, t132, t133, t134, t135, t136, t137, t138, t139, t140, t141, t142⟩, A40, H⟩ := H
 replace H : ((patAll.f t115 t116 0 (([(⟨t101, (⟨t102, t103, t104⟩ : S52), t105, t106, t107, t108, (⟨t109, t110⟩ : S33), (⟨t111, t112⟩ : S33), t113⟩ : S65), (⟨t129, (⟨t130, t131, t132⟩ : S52), t133, t134, t135, t136, (⟨t137, t138⟩ : S33), (⟨t139, t140⟩ : S33), t141⟩ : S65)] : List (S65)))).bind fun bt147 => (if t119 = true then (if t120 = 0 then (if t115 = 5 then (if (t116.length : Int) = 1 then (if 0 < (t116.length : Int) then (if ((rd_T33 t116 0).f1).toList = ([97] : List UInt8) then (if t126 = true then (some false) else (if t127 = 0 then (if t142 = 0 then (if t129 = 2 then (if bt147.2.2 = 0 then (if bt147.1 = 6 then (some ((bt147.2.1.length : Int) == 0)) else (some false)) else (some false)) else (some false)) else (some false)) else (some false))) else (some false)) else (none)) else (some false)) else (some false)) else (some false)) else (some false))) = some r := H
 have A4 := Aside0.mk A40
 clear A40
 obtain ⟨y144, hy144⟩ : ∃ y_ : List (S65), y_ = (([(⟨t101, (⟨t102, t103, t104⟩ : S52), t105, t106, t107, t108, (⟨t109, t110⟩ : S33), (⟨t111, t112⟩ : S33), t113⟩ : S65), (⟨t129, (⟨t130, t131, t132⟩ : S52), t133, t134, t135, t136, (⟨t137, t138⟩ : S33), (⟨t139, t140⟩ : S33), t141⟩ : S65)] : List (S65))) := ⟨_, rfl⟩
 replace H : ((patAll.f t115 t116 0 y144).bind fun bt147 => (if t119 = true then (if t120 = 0 then (if t115 = 5 then (if (t116.length : Int) = 1 then (if 0 < (t116.length : Int) then (if ((rd_T33 t116 0).f1).toList = ([97] : List UInt8) then (if t126 = true then (some false) else (if t127 = 0 then (if t142 = 0 then (if t129 = 2 then (if bt147.2.2 = 0 then (if bt147.1 = 6 then (some ((bt147.2.1.length : Int) == 0)) else (some false)) else (some false)) else (some false)) else (some false)) else (some false))) else (some false)) else (none)) else (some false)) else (some false)) else (some false)) else (some false))) = some r := by first | (rw [hy144]; with_reducible exact H) | (have H2_ := (Option.bind_some _ _).symm.trans H; rw [hy144]; with_reducible exact H2_) | (have H2_ := (Option.bind_some _ _).symm.trans H; with_reducible exact H2_) | with_reducible exact H | (rw [hy144]; exact H) | exact H
 have Ny144 := Aside0.mk hy144
 clear hy144
 replace H := Option.bind_eq_some_iff.mp H
 obtain ⟨⟨t147, t148, t151⟩, A50, H⟩ := H
 replace H : (if t119 = true then (if t120 = 0 then (if t115 = 5 then (if (t116.length : Int) = 1 then (if 0 < (t116.length : Int) then (if ((rd_T33 t116 0).f1).toList = ([97] : List UInt8) then (if t126 = true then (some false) else (if t127 = 0 then (if t142 = 0 then (if t129 = 2 then (if t151 = 0 then (if t147 = 6 then (some ((t148.length : Int) == 0)) else (some false)) else (some false)) else (some false)) else (some false)) else (some false))) else (some false)) else (none)) else (some false)) else (some false)) else (some false)) else (some false)) = some r := H
 have A5 := Aside0.mk A50
 clear A50
 by_cases c6 : t119 = true
 ·subst c6
  have H1 : (if t120 = 0 then (if t115 = 5 then (if (t116.length : Int) = 1 then (if 0 < (t116.length : Int) then (if ((rd_T33 t116 0).f1).toList = ([97] : List UInt8) then (if t126 = true then (some false) else (if t127 = 0 then (if t142 = 0 then (if t129 = 2 then (if t151 = 0 then (if t147 = 6 then (some ((t148.length : Int) == 0)) else (some false)) else (some false)) else (some false)) else (some false)) else (some false))) else (some false)) else (none)) else (some false)) else (some false)) else (some false)) = some r := by rw [if_pos rfl] at H; exact H
  clear H
  have H := H1
  clear H1
  by_cases c7 : t120 = 0
  ·rw [if_pos c7] at H
   have c7b0 : (t120 == 0) = true := beq_iff_eq.mpr c7
   have c7b1 : (t120 != 0) = false := bne_eq_false_iff_eq.mpr c7
   clear c7
   by_cases c8 : t115 = 5
   ·rw [if_pos c8] at H
    have c8b0 : (t115 == 5) = true := beq_iff_eq.mpr c8
    have c8b1 : (t115 != 5) = false := bne_eq_false_iff_eq.mpr c8
    clear c8
    by_cases c9 : (t116.length : Int) = 1
    ·rw [if_pos c9] at H
     have c9b0 : ((t116.length : Int) == 1) = true := beq_iff_eq.mpr c9
     have c9b1 : ((t116.length : Int) != 1) = false := bne_eq_false_iff_eq.mpr c9
     clear c9
     by_cases c10 : 0 < (t116.length : Int)
     ·rw [if_pos c10] at H
      have c10b0 : decide (0 < (t116.length : Int)) = true := decide_eq_true c10
      have c10b1 : decide (0 < t116.length) = true := decide_eq_true (by omega)
      clear c10
      by_cases c11 : ((rd_T33 t116 0).f1).toList = ([97] : List UInt8)
      ·rw [if_pos c11] at H
       have c11b0 : (((rd_T33 t116 0).f1).toList == ([97] : List UInt8)) = true := beq_iff_eq.mpr c11
       have c11b1 : (((rd_T33 t116 0).f1).toList != ([97] : List UInt8)) = false := bne_eq_false_iff_eq.mpr c11
       clear c11
       by_cases c12 : t126 = true
       ·exfalso; have q_ := Option.some.inj (A1.out.symm.trans v65_1); (first | (simp only [Prod.mk.injEq] at q_; obtain ⟨rfl, rfl, rfl, rfl, rfl, rfl, rfl, rfl, rfl, rfl, rfl, rfl, rfl⟩ := q_) | cases q_); have q_ := Option.some.inj (A2.out.symm.trans v65_2); (first | (simp only [Prod.mk.injEq] at q_; obtain ⟨rfl, rfl, rfl, rfl⟩ := q_) | cases q_); have q_ := Option.some.inj (A3.out.symm.trans v65_3); (first | (simp only [Prod.mk.injEq] at q_; obtain ⟨rfl, rfl, rfl, rfl⟩ := q_) | cases q_); have q_ := Option.some.inj (A4.out.symm.trans v65_4); (first | (simp only [Prod.mk.injEq] at q_; obtain ⟨rfl, rfl, rfl, rfl, rfl, rfl, rfl, rfl, rfl, rfl, rfl, rfl, rfl, rfl⟩ := q_) | cases q_); have a_ := A5.out; rw [Ny144.out] at a_; have q_ := Option.some.inj (a_.symm.trans v65_5); (first | (simp only [Prod.mk.injEq] at q_; obtain ⟨rfl, rfl, rfl⟩ := q_) | cases q_); exact absurd c12 (by decide)
       ·replace c12 := Bool.eq_false_iff.mpr c12
        subst c12
        have H1 : (if t127 = 0 then (if t142 = 0 then (if t129 = 2 then (if t151 = 0 then (if t147 = 6 then (some ((t148.length : Int) == 0)) else (some false)) else (some false)) else (some false)) else (some false)) else (some false)) = some r := by rw [if_neg (show ¬ (false = true) by decide)] at H; exact H
        clear H
        have H := H1
        clear H1
        by_cases c49 : t127 = 0
        ·rw [if_pos c49] at H
         have c49b0 : (t127 == 0) = true := beq_iff_eq.mpr c49
         have c49b1 : (t127 != 0) = false := bne_eq_false_iff_eq.mpr c49
         clear c49
         by_cases c50 : t142 = 0
         ·rw [if_pos c50] at H
          have c50b0 : (t142 == 0) = true := beq_iff_eq.mpr c50
          have c50b1 : (t142 != 0) = false := bne_eq_false_iff_eq.mpr c50
          clear c50
          by_cases c51 : t129 = 2
          ·rw [if_pos c51] at H
           have c51b0 : (t129 == 2) = true := beq_iff_eq.mpr c51
           have c51b1 : (t129 != 2) = false := bne_eq_false_iff_eq.mpr c51
           clear c51
           by_cases c52 : t151 = 0
           ·rw [if_pos c52] at H
            have c52b0 : (t151 == 0) = true := beq_iff_eq.mpr c52
            have c52b1 : (t151 != 0) = false := bne_eq_false_iff_eq.mpr c52
            clear c52
            by_cases c53 : t147 = 6
            ·rw [if_pos c53] at H
             have c53b0 : (t147 == 6) = true := beq_iff_eq.mpr c53
             have c53b1 : (t147 != 6) = false := bne_eq_false_iff_eq.mpr c53
             clear c53
             obtain rfl := Option.some.inj H
             go_enter Try.func65, Try.ntmps65
             go_wp2_with (first | ((with_reducible refine gate_callee (f := 111) rfl ?_); refine goesL_ (some 12) rfl rfl Try.func111 (by kernel_rfl) rfl #[] rfl (by (try simp only [List.map_toArray, List.map_cons, List.map_nil]); first | done | rfl | (simp only [List.length_drop, List.length_take]; rfl)) ?_; (with_reducible refine (seneschallaw05_insert.calls  t101 t102 t103 t104 t105 t106 t107 t108 t109 t110 t111 t112 t113 _ A1.out).mono ?_); rintro e w54 ⟨rfl, hb⟩; refine ⟨_, rfl, ?_⟩; have n0_ := Aside0.mk (below_step (by repeat (first | (with_reducible first | exact HB.out | apply below_alloc | apply pw_below_drewN | apply below_drew1) | exact HB.out)) hb); clear HB; have HB := n0_; clear n0_; (try clear hb); (try clear hb2); (try clear hk); (try clear hi)) | ((with_reducible refine gate_dst (N := 1) rfl ?_); (try (refine gate_guard (by rfl) ?_; dsimp only)); refine box_event ?hg (N := 1) ?hd (cs := #[.int .i64 0, .int .i64 0, .int .i64 0, .int .i64 0, .int .i64 0, .int .i64 0, .int .i64 0, .int .i64 0, .bool false, .string (⟨#[]⟩ : ByteArray), .bool false, .string (⟨#[]⟩ : ByteArray), .int .i64 0]) (t := 65) ?hr ?_; (case hd => rfl); (case hg => rfl); (case hr => first | (go_simp; done) | (go_simp; rfl)); intro gb114 hg w55 hbox hb; have n0_ := Aside0.mk (below_step (by repeat (first | (with_reducible first | exact HB.out | apply below_alloc | apply pw_below_drewN | apply below_drew1) | exact HB.out)) hb); have n1_ := Aside0.mk (hbox); have n2_ := Aside0.mk ((by rw [hg]; exact (below_size (by repeat (first | (with_reducible first | exact HB.out | apply below_alloc | apply pw_below_drewN | apply below_drew1) | exact HB.out))) : w.heap.size ≤ gb114)); have n3_ := Aside0.mk ((by rw [hg]; exact (below_size (by repeat (first | (with_reducible first | exact HB.out | apply below_alloc | apply pw_below_drewN | apply below_drew1) | exact HB.out))) : w.heap.size ≤ gb114)); clear HB; have HB := n0_; have BK114 := n1_; have GW114 := n2_; have GE114 := n3_; clear n0_ n1_ n2_ n3_; clear hb hbox hg; obtain ⟨hcz56_0, hcz56_1, hcz56_2, hcz56_3, hcz56_4, hcz56_5, hcz56_6, hcz56_7, hcz56_8, hcz56_9, hcz56_10, hcz56_11, hcz56_12⟩ := cl13 (W := w55) BK114.out; obtain ⟨hfz56_0, hfz56_1, hfz56_2, hfz56_3, hfz56_4, hfz56_5, hfz56_6, hfz56_7, hfz56_8, hfz56_9, hfz56_10, hfz56_11, hfz56_12⟩ := fr13 BK114.out) | ((with_reducible refine gate_callee (f := 67) rfl ?_); refine goesL_ (some 16) rfl rfl Try.func67 (by kernel_rfl) rfl #[.agg #[.int .i64 0, .slice none 0 0], .agg #[.int .i64 t101, .int .i64 t102, .int .i64 t103, .int .i64 t104, .int .i64 t105, .int .i64 t106, .int .i64 t107, .int .i64 t108, .bool t109, .string t110, .bool t111, .string t112, .int .i64 t113]] rfl (by (try simp only [List.map_toArray, List.map_cons, List.map_nil]); first | done | rfl | (simp only [List.length_drop, List.length_take]; rfl)) ?_; (refine (patRedo.calls 0 _ _ ([] : List (S33)) t101 t102 t103 t104 t105 t106 t107 t108 t109 t110 t111 t112 t113 t115 t116 true t120 _ ?side1 ?side2 A2.out).mono ?_); (case side1 => exact Kd.C_nil _ _); (case side2 => exact Nat.le_refl _); rintro e w57 ⟨v117, rfl, ho0, hb⟩; refine ⟨_, rfl, ?_⟩; have n0_ := Aside0.mk (Kd.R_lower ho0 (below_size (by repeat (first | (with_reducible first | exact HB.out | apply below_alloc | apply pw_below_drewN | apply below_drew1 | refine below_set ?_ GE114.out) | exact HB.out)))); have n1_ := Aside0.mk (blk_below (g := gb114) (o := .cells #[.int .i64 t101, .int .i64 t102, .int .i64 t103, .int .i64 t104, .int .i64 t105, .int .i64 t106, .int .i64 t107, .int .i64 t108, .bool t109, .string t110, .bool t111, .string t112, .int .i64 t113] 65 (0, 0)) (by (with_reducible repeat (first | refine blk_drewN ?_ _ | refine blk_drew ?_ | refine blk_alloc ?_ _)); refine blk_put (cs := #[.int .i64 t101, .int .i64 t102, .int .i64 t103, .int .i64 t104, .int .i64 t105, .int .i64 t106, .int .i64 t107, .int .i64 t108, .bool t109, .string t110, .bool t111, .string t112, .int .i64 0]) ?_ 12 _ rfl; refine blk_put (cs := #[.int .i64 t101, .int .i64 t102, .int .i64 t103, .int .i64 t104, .int .i64 t105, .int .i64 t106, .int .i64 t107, .int .i64 t108, .bool t109, .string t110, .bool t111, .string (⟨#[]⟩ : ByteArray), .int .i64 0]) ?_ 11 _ rfl; refine blk_put (cs := #[.int .i64 t101, .int .i64 t102, .int .i64 t103, .int .i64 t104, .int .i64 t105, .int .i64 t106, .int .i64 t107, .int .i64 t108, .bool t109, .string t110, .bool false, .string (⟨#[]⟩ : ByteArray), .int .i64 0]) ?_ 10 _ rfl; refine blk_put (cs := #[.int .i64 t101, .int .i64 t102, .int .i64 t103, .int .i64 t104, .int .i64 t105, .int .i64 t106, .int .i64 t107, .int .i64 t108, .bool t109, .string (⟨#[]⟩ : ByteArray), .bool false, .string (⟨#[]⟩ : ByteArray), .int .i64 0]) ?_ 9 _ rfl; refine blk_put (cs := #[.int .i64 t101, .int .i64 t102, .int .i64 t103, .int .i64 t104, .int .i64 t105, .int .i64 t106, .int .i64 t107, .int .i64 t108, .bool false, .string (⟨#[]⟩ : ByteArray), .bool false, .string (⟨#[]⟩ : ByteArray), .int .i64 0]) ?_ 8 _ rfl; refine blk_put (cs := #[.int .i64 t101, .int .i64 t102, .int .i64 t103, .int .i64 t104, .int .i64 t105, .int .i64 t106, .int .i64 t107, .int .i64 0, .bool false, .string (⟨#[]⟩ : ByteArray), .bool false, .string (⟨#[]⟩ : ByteArray), .int .i64 0]) ?_ 7 _ rfl; refine blk_put (cs := #[.int .i64 t101, .int .i64 t102, .int .i64 t103, .int .i64 t104, .int .i64 t105, .int .i64 t106, .int .i64 0, .int .i64 0, .bool false, .string (⟨#[]⟩ : ByteArray), .bool false, .string (⟨#[]⟩ : ByteArray), .int .i64 0]) ?_ 6 _ rfl; refine blk_put (cs := #[.int .i64 t101, .int .i64 t102, .int .i64 t103, .int .i64 t104, .int .i64 t105, .int .i64 0, .int .i64 0, .int .i64 0, .bool false, .string (⟨#[]⟩ : ByteArray), .bool false, .string (⟨#[]⟩ : ByteArray), .int .i64 0]) ?_ 5 _ rfl; refine blk_put (cs := #[.int .i64 t101, .int .i64 t102, .int .i64 t103, .int .i64 t104, .int .i64 0, .int .i64 0, .int .i64 0, .int .i64 0, .bool false, .string (⟨#[]⟩ : ByteArray), .bool false, .string (⟨#[]⟩ : ByteArray), .int .i64 0]) ?_ 4 _ rfl; refine blk_put (cs := #[.int .i64 t101, .int .i64 t102, .int .i64 t103, .int .i64 0, .int .i64 0, .int .i64 0, .int .i64 0, .int .i64 0, .bool false, .string (⟨#[]⟩ : ByteArray), .bool false, .string (⟨#[]⟩ : ByteArray), .int .i64 0]) ?_ 3 _ rfl; refine blk_put (cs := #[.int .i64 t101, .int .i64 t102, .int .i64 0, .int .i64 0, .int .i64 0, .int .i64 0, .int .i64 0, .int .i64 0, .bool false, .string (⟨#[]⟩ : ByteArray), .bool false, .string (⟨#[]⟩ : ByteArray), .int .i64 0]) ?_ 2 _ rfl; refine blk_put (cs := #[.int .i64 t101, .int .i64 0, .int .i64 0, .int .i64 0, .int .i64 0, .int .i64 0, .int .i64 0, .int .i64 0, .bool false, .string (⟨#[]⟩ : ByteArray), .bool false, .string (⟨#[]⟩ : ByteArray), .int .i64 0]) ?_ 1 _ rfl; refine blk_put (cs := #[.int .i64 0, .int .i64 0, .int .i64 0, .int .i64 0, .int .i64 0, .int .i64 0, .int .i64 0, .int .i64 0, .bool false, .string (⟨#[]⟩ : ByteArray), .bool false, .string (⟨#[]⟩ : ByteArray), .int .i64 0]) ?_ 0 _ rfl; (with_reducible repeat (first | refine blk_drewN ?_ _ | refine blk_drew ?_ | refine blk_alloc ?_ _)); exact BK114.out) hb); have n2_ := Aside0.mk (below_step (by repeat (first | (with_reducible first | exact HB.out | apply below_alloc | apply pw_below_drewN | apply below_drew1 | refine below_set ?_ GE114.out) | exact HB.out)) hb); clear BK114; clear HB; have HO118 := n0_; have BK114 := n1_; have HB := n2_; clear n0_ n1_ n2_; (try clear hb); (try clear hb2); (try clear hk); (try clear hi); (try clear ho0)) | ((with_reducible refine gate_dst (N := 2) rfl ?_); (try (refine gate_guard (by rfl) ?_; dsimp only)); refine box_event ?hg (N := 2) ?hd (cs := #[.int .i64 0, .slice none 0 0]) (t := 24) ?hr ?_; (case hd => rfl); (case hg => rfl); (case hr => first | (go_simp; done) | (go_simp; rfl)); intro gb121 hg w58 hbox hb; have n0_ := Aside0.mk (Kd.R_below (by (with_reducible repeat (first | apply Kd.R_alloc | apply Kd.R_drewN | apply Kd.R_drew)); exact HO118.out) hb); have n1_ := Aside0.mk (blk_below (g := gb114) (o := .cells #[.int .i64 t101, .int .i64 t102, .int .i64 t103, .int .i64 t104, .int .i64 t105, .int .i64 t106, .int .i64 t107, .int .i64 t108, .bool t109, .string t110, .bool t111, .string t112, .int .i64 t113] 65 (0, 0)) (by (with_reducible repeat (first | refine blk_drewN ?_ _ | refine blk_drew ?_ | refine blk_alloc ?_ _)); exact BK114.out) hb); have n2_ := Aside0.mk (below_step (by repeat (first | (with_reducible first | exact HB.out | apply below_alloc | apply pw_below_drewN | apply below_drew1 | refine below_set ?_ GE114.out) | exact HB.out)) hb); have n3_ := Aside0.mk (hbox); have n4_ := Aside0.mk ((by rw [hg]; exact (below_size (by repeat (first | (with_reducible first | exact HB.out | apply below_alloc | apply pw_below_drewN | apply below_drew1 | refine below_set ?_ GE114.out) | exact HB.out))) : w.heap.size ≤ gb121)); have n5_ := Aside0.mk ((by rw [hg]; exact (below_size (by repeat (first | (with_reducible first | exact HB.out | apply below_alloc | apply pw_below_drewN | apply below_drew1 | refine below_set ?_ GE114.out) | exact HB.out))) : w.heap.size ≤ gb121)); have n6_ := Aside0.mk ((by rw [hg]; exact Nat.ne_of_lt (blk_lt (g := gb114) (o := .cells #[.int .i64 t101, .int .i64 t102, .int .i64 t103, .int .i64 t104, .int .i64 t105, .int .i64 t106, .int .i64 t107, .int .i64 t108, .bool t109, .string t110, .bool t111, .string t112, .int .i64 t113] 65 (0, 0)) (by (with_reducible repeat (first | refine blk_drewN ?_ _ | refine blk_drew ?_ | refine blk_alloc ?_ _)); exact BK114.out)) : gb114 ≠ gb121)); have n7_ := Aside0.mk ((by rw [hg]; exact Nat.ne_of_gt (blk_lt (g := gb114) (o := .cells #[.int .i64 t101, .int .i64 t102, .int .i64 t103, .int .i64 t104, .int .i64 t105, .int .i64 t106, .int .i64 t107, .int .i64 t108, .bool t109, .string t110, .bool t111, .string t112, .int .i64 t113] 65 (0, 0)) (by (with_reducible repeat (first | refine blk_drewN ?_ _ | refine blk_drew ?_ | refine blk_alloc ?_ _)); exact BK114.out)) : gb121 ≠ gb114)); clear HO118; clear BK114; clear HB; have HO118 := n0_; have BK114 := n1_; have HB := n2_; have BK121 := n3_; have GW121 := n4_; have GE121 := n5_; have NB114_121 := n6_; have NB121_114 := n7_; clear n0_ n1_ n2_ n3_ n4_ n5_ n6_ n7_; clear hb hbox hg; have hnb59 := NB121_114.out; have hnc59 := NB114_121.out; obtain ⟨hcz60_0, hcz60_1⟩ := cl2 (W := w58) BK121.out; obtain ⟨hfz60_0, hfz60_1⟩ := fr2 BK121.out; obtain ⟨Ao61, co61, eo61⟩ := Kd.R_slice HO118.out; subst eo61; obtain ⟨hcz62_0, hcz62_1, hcz62_2, hcz62_3, hcz62_4, hcz62_5, hcz62_6, hcz62_7, hcz62_8, hcz62_9, hcz62_10, hcz62_11, hcz62_12⟩ := cl13 (W := w58) BK114.out; obtain ⟨hfz62_0, hfz62_1, hfz62_2, hfz62_3, hfz62_4, hfz62_5, hfz62_6, hfz62_7, hfz62_8, hfz62_9, hfz62_10, hfz62_11, hfz62_12⟩ := fr13 BK114.out) | ((with_reducible refine gate_callee (f := 67) rfl ?_); refine goesL_ (some 23) rfl rfl Try.func67 (by kernel_rfl) rfl #[.agg #[.int .i64 t115, .slice Ao61 t116.length co61], .agg #[.int .i64 t101, .int .i64 t102, .int .i64 t103, .int .i64 t104, .int .i64 t105, .int .i64 t106, .int .i64 t107, .int .i64 t108, .bool t109, .string t110, .bool t111, .string t112, .int .i64 t113]] rfl (by (try simp only [List.map_toArray, List.map_cons, List.map_nil]); first | done | rfl | (simp only [List.length_drop, List.length_take]; rfl)) ?_; (with_reducible refine (patRedo.calls t115 _ _ t116 t101 t102 t103 t104 t105 t106 t107 t108 t109 t110 t111 t112 t113 t122 t123 false t127 _ ?side1 ?side2 A3.out).mono ?_); (case side1 => refine (Kd.R_reads' (e := 33) (base := w.heap.size) (ok := fun k_ => True) (n := t116.length) (c := co61) ?_).2.2; exact (by (with_reducible repeat (first | apply Kd.R_alloc | apply Kd.R_drewN | apply Kd.R_drew)); exact (Kd.R_mono (Kd.R_far (p := ⟨gb121, 1, none⟩) (Kd.R_far (p := ⟨gb121, 0, none⟩) (Kd.R_types HO118.out BK121.out (by decide)) (fun _ hk => hk.2) (.int .i64 t115)) (fun _ hk => hk.2) (.slice Ao61 t116.length co61)) (fun _ h_ => h_.1)))); (case side2 => exact (Kd.R_reads' HO118.out).2.1); rintro e w63 ⟨v124, rfl, ho0, hb⟩; refine ⟨_, rfl, ?_⟩; have n0_ := Aside0.mk (Kd.R_elder' (by (with_reducible repeat (first | apply Kd.R_alloc | apply Kd.R_drewN | apply Kd.R_drew)); exact (Kd.R_mono (Kd.R_far (p := ⟨gb121, 1, none⟩) (Kd.R_far (p := ⟨gb121, 0, none⟩) (Kd.R_types HO118.out BK121.out (by decide)) (fun _ hk => hk.2) (.int .i64 t115)) (fun _ hk => hk.2) (.slice Ao61 t116.length co61)) (fun _ h_ => h_.1))) (Kd.R_base ho0) hb); have n1_ := Aside0.mk (Kd.R_lower (Kd.R_new' ho0 (Kd.R_lt (by (with_reducible repeat (first | apply Kd.R_alloc | apply Kd.R_drewN | apply Kd.R_drew)); exact (Kd.R_mono (Kd.R_far (p := ⟨gb121, 1, none⟩) (Kd.R_far (p := ⟨gb121, 0, none⟩) (Kd.R_types HO118.out BK121.out (by decide)) (fun _ hk => hk.2) (.int .i64 t115)) (fun _ hk => hk.2) (.slice Ao61 t116.length co61)) (fun _ h_ => h_.1))))) (below_size (by repeat (first | (with_reducible first | exact HB.out | apply below_alloc | apply pw_below_drewN | apply below_drew1 | refine below_set ?_ GE114.out | refine below_set ?_ GE121.out) | exact HB.out)))); have n2_ := Aside0.mk (blk_below (g := gb114) (o := .cells #[.int .i64 t101, .int .i64 t102, .int .i64 t103, .int .i64 t104, .int .i64 t105, .int .i64 t106, .int .i64 t107, .int .i64 t108, .bool t109, .string t110, .bool t111, .string t112, .int .i64 t113] 65 (0, 0)) (by (with_reducible repeat (first | refine blk_drewN ?_ _ | refine blk_drew ?_ | refine blk_alloc ?_ _)); refine blk_far ?_ NB114_121.out _; refine blk_far ?_ NB114_121.out _; (with_reducible repeat (first | refine blk_drewN ?_ _ | refine blk_drew ?_ | refine blk_alloc ?_ _)); exact BK114.out) hb); have n3_ := Aside0.mk (blk_below (g := gb121) (o := .cells #[.int .i64 t115, .slice Ao61 t116.length co61] 24 (0, 0)) (by (with_reducible repeat (first | refine blk_drewN ?_ _ | refine blk_drew ?_ | refine blk_alloc ?_ _)); refine blk_put (cs := #[.int .i64 t115, .slice none 0 0]) ?_ 1 _ rfl; refine blk_put (cs := #[.int .i64 0, .slice none 0 0]) ?_ 0 _ rfl; (with_reducible repeat (first | refine blk_drewN ?_ _ | refine blk_drew ?_ | refine blk_alloc ?_ _)); exact BK121.out) hb); have n4_ := Aside0.mk (below_step (by repeat (first | (with_reducible first | exact HB.out | apply below_alloc | apply pw_below_drewN | apply below_drew1 | refine below_set ?_ GE114.out | refine below_set ?_ GE121.out) | exact HB.out)) hb); clear HO118; clear BK114; clear BK121; clear HB; have HO118 := n0_; have HO125 := n1_; have BK114 := n2_; have BK121 := n3_; have HB := n4_; clear n0_ n1_ n2_ n3_ n4_; (try clear hb); (try clear hb2); (try clear hk); (try clear hi); (try clear ho0)) | ((with_reducible refine gate_dst (N := 5) rfl ?_); (try (refine gate_guard (by rfl) ?_; dsimp only)); refine box_event ?hg (N := 5) ?hd (cs := #[.int .i64 0, .slice none 0 0]) (t := 24) ?hr ?_; (case hd => rfl); (case hg => rfl); (case hr => first | (go_simp; done) | (go_simp; rfl)); intro gb128 hg w64 hbox hb; have n0_ := Aside0.mk (Kd.R_below (by (with_reducible repeat (first | apply Kd.R_alloc | apply Kd.R_drewN | apply Kd.R_drew)); exact HO118.out) hb); have n1_ := Aside0.mk (Kd.R_below (by (with_reducible repeat (first | apply Kd.R_alloc | apply Kd.R_drewN | apply Kd.R_drew)); exact HO125.out) hb); have n2_ := Aside0.mk (blk_below (g := gb114) (o := .cells #[.int .i64 t101, .int .i64 t102, .int .i64 t103, .int .i64 t104, .int .i64 t105, .int .i64 t106, .int .i64 t107, .int .i64 t108, .bool t109, .string t110, .bool t111, .string t112, .int .i64 t113] 65 (0, 0)) (by (with_reducible repeat (first | refine blk_drewN ?_ _ | refine blk_drew ?_ | refine blk_alloc ?_ _)); exact BK114.out) hb); have n3_ := Aside0.mk (blk_below (g := gb121) (o := .cells #[.int .i64 t115, .slice Ao61 t116.length co61] 24 (0, 0)) (by (with_reducible repeat (first | refine blk_drewN ?_ _ | refine blk_drew ?_ | refine blk_alloc ?_ _)); exact BK121.out) hb); have n4_ := Aside0.mk (below_step (by repeat (first | (with_reducible first | exact HB.out | apply below_alloc | apply pw_below_drewN | apply below_drew1 | refine below_set ?_ GE114.out | refine below_set ?_ GE121.out) | exact HB.out)) hb); have n5_ := Aside0.mk (hbox); have n6_ := Aside0.mk ((by rw [hg]; exact (below_size (by repeat (first | (with_reducible first | exact HB.out | apply below_alloc | apply pw_below_drewN | apply below_drew1 | refine below_set ?_ GE114.out | refine below_set ?_ GE121.out) | exact HB.out))) : w.heap.size ≤ gb128)); have n7_ := Aside0.mk ((by rw [hg]; exact (below_size (by repeat (first | (with_reducible first | exact HB.out | apply below_alloc | apply pw_below_drewN | apply below_drew1 | refine below_set ?_ GE114.out | refine below_set ?_ GE121.out) | exact HB.out))) : w.heap.size ≤ gb128)); have n8_ := Aside0.mk ((by rw [hg]; exact Nat.ne_of_lt (blk_lt (g := gb114) (o := .cells #[.int .i64 t101, .int .i64 t102, .int .i64 t103, .int .i64 t104, .int .i64 t105, .int .i64 t106, .int .i64 t107, .int .i64 t108, .bool t109, .string t110, .bool t111, .string t112, .int .i64 t113] 65 (0, 0)) (by (with_reducible repeat (first | refine blk_drewN ?_ _ | refine blk_drew ?_ | refine blk_alloc ?_ _)); exact BK114.out)) : gb114 ≠ gb128)); have n9_ := Aside0.mk ((by rw [hg]; exact Nat.ne_of_gt (blk_lt (g := gb114) (o := .cells #[.int .i64 t101, .int .i64 t102, .int .i64 t103, .int .i64 t104, .int .i64 t105, .int .i64 t106, .int .i64 t107, .int .i64 t108, .bool t109, .string t110, .bool t111, .string t112, .int .i64 t113] 65 (0, 0)) (by (with_reducible repeat (first | refine blk_drewN ?_ _ | refine blk_drew ?_ | refine blk_alloc ?_ _)); exact BK114.out)) : gb128 ≠ gb114)); have n10_ := Aside0.mk ((by rw [hg]; exact Nat.ne_of_lt (blk_lt (g := gb121) (o := .cells #[.int .i64 t115, .slice Ao61 t116.length co61] 24 (0, 0)) (by (with_reducible repeat (first | refine blk_drewN ?_ _ | refine blk_drew ?_ | refine blk_alloc ?_ _)); exact BK121.out)) : gb121 ≠ gb128)); have n11_ := Aside0.mk ((by rw [hg]; exact Nat.ne_of_gt (blk_lt (g := gb121) (o := .cells #[.int .i64 t115, .slice Ao61 t116.length co61] 24 (0, 0)) (by (with_reducible repeat (first | refine blk_drewN ?_ _ | refine blk_drew ?_ | refine blk_alloc ?_ _)); exact BK121.out)) : gb128 ≠ gb121)); clear HO118; clear HO125; clear BK114; clear BK121; clear HB; have HO118 := n0_; have HO125 := n1_; have BK114 := n2_; have BK121 := n3_; have HB := n4_; have BK128 := n5_; have GW128 := n6_; have GE128 := n7_; have NB114_128 := n8_; have NB128_114 := n9_; have NB121_128 := n10_; have NB128_121 := n11_; clear n0_ n1_ n2_ n3_ n4_ n5_ n6_ n7_ n8_ n9_ n10_ n11_; clear hb hbox hg; have hnb65 := NB128_114.out; have hnc65 := NB114_128.out; have hnb66 := NB128_121.out; have hnc66 := NB121_128.out; obtain ⟨hcz67_0, hcz67_1⟩ := cl2 (W := w64) BK128.out; obtain ⟨hfz67_0, hfz67_1⟩ := fr2 BK128.out; obtain ⟨Ao68, co68, eo68⟩ := Kd.R_slice HO125.out; subst eo68; obtain ⟨hcz69_0, hcz69_1, hcz69_2, hcz69_3, hcz69_4, hcz69_5, hcz69_6, hcz69_7, hcz69_8, hcz69_9, hcz69_10, hcz69_11, hcz69_12⟩ := cl13 (W := w64) BK114.out; obtain ⟨hfz69_0, hfz69_1, hfz69_2, hfz69_3, hfz69_4, hfz69_5, hfz69_6, hfz69_7, hfz69_8, hfz69_9, hfz69_10, hfz69_11, hfz69_12⟩ := fr13 BK114.out) | ((with_reducible refine gate_callee (f := 69) rfl ?_); refine goesL_ (some 29) rfl rfl Try.func69 (by kernel_rfl) rfl #[.agg #[.int .i64 t101, .int .i64 t102, .int .i64 t103, .int .i64 t104, .int .i64 t105, .int .i64 t106, .int .i64 t107, .int .i64 t108, .bool t109, .string t110, .bool t111, .string t112, .int .i64 t113], .int .i64 6, .int .i64 5] rfl (by (try simp only [List.map_toArray, List.map_cons, List.map_nil]); first | done | rfl | (simp only [List.length_drop, List.length_take]; rfl)) ?_; (with_reducible refine (patTurn.calls t101 t102 t103 t104 t105 t106 t107 t108 t109 t110 t111 t112 t113 6 5 t129 t130 t131 t132 t133 t134 t135 t136 t137 t138 t139 t140 t141 t142 _ A4.out).mono ?_); rintro e w70 ⟨rfl, hb⟩; refine ⟨_, rfl, ?_⟩; have n0_ := Aside0.mk (Kd.R_below (by (with_reducible repeat (first | apply Kd.R_alloc | apply Kd.R_drewN | apply Kd.R_drew)); exact (Kd.R_mono (Kd.R_far (p := ⟨gb128, 1, none⟩) (Kd.R_far (p := ⟨gb128, 0, none⟩) (Kd.R_types HO118.out BK128.out (by decide)) (fun _ hk => hk.2) (.int .i64 t122)) (fun _ hk => hk.2) (.slice Ao68 t123.length co68)) (fun _ h_ => h_.1))) hb); have n1_ := Aside0.mk (Kd.R_below (by (with_reducible repeat (first | apply Kd.R_alloc | apply Kd.R_drewN | apply Kd.R_drew)); exact (Kd.R_mono (Kd.R_far (p := ⟨gb128, 1, none⟩) (Kd.R_far (p := ⟨gb128, 0, none⟩) (Kd.R_types HO125.out BK128.out (by decide)) (fun _ hk => hk.2) (.int .i64 t122)) (fun _ hk => hk.2) (.slice Ao68 t123.length co68)) (fun _ h_ => h_.1))) hb); have n2_ := Aside0.mk (blk_below (g := gb114) (o := .cells #[.int .i64 t101, .int .i64 t102, .int .i64 t103, .int .i64 t104, .int .i64 t105, .int .i64 t106, .int .i64 t107, .int .i64 t108, .bool t109, .string t110, .bool t111, .string t112, .int .i64 t113] 65 (0, 0)) (by (with_reducible repeat (first | refine blk_drewN ?_ _ | refine blk_drew ?_ | refine blk_alloc ?_ _)); refine blk_far ?_ NB114_128.out _; refine blk_far ?_ NB114_128.out _; (with_reducible repeat (first | refine blk_drewN ?_ _ | refine blk_drew ?_ | refine blk_alloc ?_ _)); exact BK114.out) hb); have n3_ := Aside0.mk (blk_below (g := gb121) (o := .cells #[.int .i64 t115, .slice Ao61 t116.length co61] 24 (0, 0)) (by (with_reducible repeat (first | refine blk_drewN ?_ _ | refine blk_drew ?_ | refine blk_alloc ?_ _)); refine blk_far ?_ NB121_128.out _; refine blk_far ?_ NB121_128.out _; (with_reducible repeat (first | refine blk_drewN ?_ _ | refine blk_drew ?_ | refine blk_alloc ?_ _)); exact BK121.out) hb); have n4_ := Aside0.mk (blk_below (g := gb128) (o := .cells #[.int .i64 t122, .slice Ao68 t123.length co68] 24 (0, 0)) (by (with_reducible repeat (first | refine blk_drewN ?_ _ | refine blk_drew ?_ | refine blk_alloc ?_ _)); refine blk_put (cs := #[.int .i64 t122, .slice none 0 0]) ?_ 1 _ rfl; refine blk_put (cs := #[.int .i64 0, .slice none 0 0]) ?_ 0 _ rfl; (with_reducible repeat (first | refine blk_drewN ?_ _ | refine blk_drew ?_ | refine blk_alloc ?_ _)); exact BK128.out) hb); have n5_ := Aside0.mk (below_step (by repeat (first | (with_reducible first | exact HB.out | apply below_alloc | apply pw_below_drewN | apply below_drew1 | refine below_set ?_ GE114.out | refine below_set ?_ GE121.out | refine below_set ?_ GE128.out) | exact HB.out)) hb); clear HO118; clear HO125; clear BK114; clear BK121; clear BK128; clear HB; have HO118 := n0_; have HO125 := n1_; have BK114 := n2_; have BK121 := n3_; have BK128 := n4_; have HB := n5_; clear n0_ n1_ n2_ n3_ n4_ n5_; (try clear hb); (try clear hb2); (try clear hk); (try clear hi)) | ((with_reducible refine gate_dst (N := 8) rfl ?_); (try (refine gate_guard (by rfl) ?_; dsimp only)); refine box_event ?hg (N := 8) ?hd (cs := #[.int .i64 0, .int .i64 0, .int .i64 0, .int .i64 0, .int .i64 0, .int .i64 0, .int .i64 0, .int .i64 0, .bool false, .string (⟨#[]⟩ : ByteArray), .bool false, .string (⟨#[]⟩ : ByteArray), .int .i64 0]) (t := 65) ?hr ?_; (case hd => rfl); (case hg => rfl); (case hr => first | (go_simp; done) | (go_simp; rfl)); intro gb143 hg w71 hbox hb; have n0_ := Aside0.mk (Kd.R_below (by (with_reducible repeat (first | apply Kd.R_alloc | apply Kd.R_drewN | apply Kd.R_drew)); exact HO118.out) hb); have n1_ := Aside0.mk (Kd.R_below (by (with_reducible repeat (first | apply Kd.R_alloc | apply Kd.R_drewN | apply Kd.R_drew)); exact HO125.out) hb); have n2_ := Aside0.mk (blk_below (g := gb114) (o := .cells #[.int .i64 t101, .int .i64 t102, .int .i64 t103, .int .i64 t104, .int .i64 t105, .int .i64 t106, .int .i64 t107, .int .i64 t108, .bool t109, .string t110, .bool t111, .string t112, .int .i64 t113] 65 (0, 0)) (by (with_reducible repeat (first | refine blk_drewN ?_ _ | refine blk_drew ?_ | refine blk_alloc ?_ _)); exact BK114.out) hb); have n3_ := Aside0.mk (blk_below (g := gb121) (o := .cells #[.int .i64 t115, .slice Ao61 t116.length co61] 24 (0, 0)) (by (with_reducible repeat (first | refine blk_drewN ?_ _ | refine blk_drew ?_ | refine blk_alloc ?_ _)); exact BK121.out) hb); have n4_ := Aside0.mk (blk_below (g := gb128) (o := .cells #[.int .i64 t122, .slice Ao68 t123.length co68] 24 (0, 0)) (by (with_reducible repeat (first | refine blk_drewN ?_ _ | refine blk_drew ?_ | refine blk_alloc ?_ _)); exact BK128.out) hb); have n5_ := Aside0.mk (below_step (by repeat (first | (with_reducible first | exact HB.out | apply below_alloc | apply pw_below_drewN | apply below_drew1 | refine below_set ?_ GE114.out | refine below_set ?_ GE121.out | refine below_set ?_ GE128.out) | exact HB.out)) hb); have n6_ := Aside0.mk (hbox); have n7_ := Aside0.mk ((by rw [hg]; exact (below_size (by repeat (first | (with_reducible first | exact HB.out | apply below_alloc | apply pw_below_drewN | apply below_drew1 | refine below_set ?_ GE114.out | refine below_set ?_ GE121.out | refine below_set ?_ GE128.out) | exact HB.out))) : w.heap.size ≤ gb143)); have n8_ := Aside0.mk ((by rw [hg]; exact (below_size (by repeat (first | (with_reducible first | exact HB.out | apply below_alloc | apply pw_below_drewN | apply below_drew1 | refine below_set ?_ GE114.out | refine below_set ?_ GE121.out | refine below_set ?_ GE128.out) | exact HB.out))) : w.heap.size ≤ gb143)); have n9_ := Aside0.mk ((by rw [hg]; exact Nat.ne_of_lt (blk_lt (g := gb114) (o := .cells #[.int .i64 t101, .int .i64 t102, .int .i64 t103, .int .i64 t104, .int .i64 t105, .int .i64 t106, .int .i64 t107, .int .i64 t108, .bool t109, .string t110, .bool t111, .string t112, .int .i64 t113] 65 (0, 0)) (by (with_reducible repeat (first | refine blk_drewN ?_ _ | refine blk_drew ?_ | refine blk_alloc ?_ _)); exact BK114.out)) : gb114 ≠ gb143)); have n10_ := Aside0.mk ((by rw [hg]; exact Nat.ne_of_gt (blk_lt (g := gb114) (o := .cells #[.int .i64 t101, .int .i64 t102, .int .i64 t103, .int .i64 t104, .int .i64 t105, .int .i64 t106, .int .i64 t107, .int .i64 t108, .bool t109, .string t110, .bool t111, .string t112, .int .i64 t113] 65 (0, 0)) (by (with_reducible repeat (first | refine blk_drewN ?_ _ | refine blk_drew ?_ | refine blk_alloc ?_ _)); exact BK114.out)) : gb143 ≠ gb114)); have n11_ := Aside0.mk ((by rw [hg]; exact Nat.ne_of_lt (blk_lt (g := gb121) (o := .cells #[.int .i64 t115, .slice Ao61 t116.length co61] 24 (0, 0)) (by (with_reducible repeat (first | refine blk_drewN ?_ _ | refine blk_drew ?_ | refine blk_alloc ?_ _)); exact BK121.out)) : gb121 ≠ gb143)); have n12_ := Aside0.mk ((by rw [hg]; exact Nat.ne_of_gt (blk_lt (g := gb121) (o := .cells #[.int .i64 t115, .slice Ao61 t116.length co61] 24 (0, 0)) (by (with_reducible repeat (first | refine blk_drewN ?_ _ | refine blk_drew ?_ | refine blk_alloc ?_ _)); exact BK121.out)) : gb143 ≠ gb121)); have n13_ := Aside0.mk ((by rw [hg]; exact Nat.ne_of_lt (blk_lt (g := gb128) (o := .cells #[.int .i64 t122, .slice Ao68 t123.length co68] 24 (0, 0)) (by (with_reducible repeat (first | refine blk_drewN ?_ _ | refine blk_drew ?_ | refine blk_alloc ?_ _)); exact BK128.out)) : gb128 ≠ gb143)); have n14_ := Aside0.mk ((by rw [hg]; exact Nat.ne_of_gt (blk_lt (g := gb128) (o := .cells #[.int .i64 t122, .slice Ao68 t123.length co68] 24 (0, 0)) (by (with_reducible repeat (first | refine blk_drewN ?_ _ | refine blk_drew ?_ | refine blk_alloc ?_ _)); exact BK128.out)) : gb143 ≠ gb128)); clear HO118; clear HO125; clear BK114; clear BK121; clear BK128; clear HB; have HO118 := n0_; have HO125 := n1_; have BK114 := n2_; have BK121 := n3_; have BK128 := n4_; have HB := n5_; have BK143 := n6_; have GW143 := n7_; have GE143 := n8_; have NB114_143 := n9_; have NB143_114 := n10_; have NB121_143 := n11_; have NB143_121 := n12_; have NB128_143 := n13_; have NB143_128 := n14_; clear n0_ n1_ n2_ n3_ n4_ n5_ n6_ n7_ n8_ n9_ n10_ n11_ n12_ n13_ n14_; clear hb hbox hg; have hnb72 := NB143_114.out; have hnc72 := NB114_143.out; have hnb73 := NB143_121.out; have hnc73 := NB121_143.out; have hnb74 := NB143_128.out; have hnc74 := NB128_143.out; obtain ⟨hcz75_0, hcz75_1, hcz75_2, hcz75_3, hcz75_4, hcz75_5, hcz75_6, hcz75_7, hcz75_8, hcz75_9, hcz75_10, hcz75_11, hcz75_12⟩ := cl13 (W := w71) BK143.out; obtain ⟨hfz75_0, hfz75_1, hfz75_2, hfz75_3, hfz75_4, hfz75_5, hfz75_6, hfz75_7, hfz75_8, hfz75_9, hfz75_10, hfz75_11, hfz75_12⟩ := fr13 BK143.out; obtain ⟨hcz76_0, hcz76_1⟩ := cl2 (W := w71) BK121.out; obtain ⟨hfz76_0, hfz76_1⟩ := fr2 BK121.out; obtain ⟨hcz77_0, hcz77_1, hcz77_2, hcz77_3, hcz77_4, hcz77_5, hcz77_6, hcz77_7, hcz77_8, hcz77_9, hcz77_10, hcz77_11, hcz77_12⟩ := cl13 (W := w71) BK114.out; obtain ⟨hfz77_0, hfz77_1, hfz77_2, hfz77_3, hfz77_4, hfz77_5, hfz77_6, hfz77_7, hfz77_8, hfz77_9, hfz77_10, hfz77_11, hfz77_12⟩ := fr13 BK114.out) | ((with_reducible refine gate_dst (N := 36) rfl ?_); (try (refine gate_guard (by rfl) ?_; dsimp only)); refine Kd.R_lit k65 _ 65 ?hg (N := 36) ?hd (xs := ([(⟨t101, (⟨t102, t103, t104⟩ : S52), t105, t106, t107, t108, (⟨t109, t110⟩ : S33), (⟨t111, t112⟩ : S33), t113⟩ : S65), (⟨t129, (⟨t130, t131, t132⟩ : S52), t133, t134, t135, t136, (⟨t137, t138⟩ : S33), (⟨t139, t140⟩ : S33), t141⟩ : S65)] : List (S65))) (inner := [.int .i64 t101, .int .i64 t102, .int .i64 t103, .int .i64 t104, .int .i64 t105, .int .i64 t106, .int .i64 t107, .int .i64 t108, .bool t109, .string t110, .bool t111, .string t112, .int .i64 t113, .int .i64 t129, .int .i64 t130, .int .i64 t131, .int .i64 t132, .int .i64 t133, .int .i64 t134, .int .i64 t135, .int .i64 t136, .bool t137, .string t138, .bool t139, .string t140, .int .i64 t141]) (ok := fun _ => True) (okp := fun _ => True) ?hr ?hp (fun _ hk => hk) trivial (Below.refl _ _) (Nat.le_refl _) (by simp) ?_; (case hd => rfl); (case hg => rfl); (case hr => first | (go_simp; done) | (go_simp; rfl)); (case hp => exact (Reps.front (show Kd.M k65 _ _ _ (⟨t101, (⟨t102, t103, t104⟩ : S52), t105, t106, t107, t108, (⟨t109, t110⟩ : S33), (⟨t111, t112⟩ : S33), t113⟩ : S65) [.int .i64 t101, .int .i64 t102, .int .i64 t103, .int .i64 t104, .int .i64 t105, .int .i64 t106, .int .i64 t107, .int .i64 t108, .bool t109, .string t110, .bool t111, .string t112, .int .i64 t113] from (k65_mkM _ _ _ (⟨t101, (⟨t102, t103, t104⟩ : S52), t105, t106, t107, t108, (⟨t109, t110⟩ : S33), (⟨t111, t112⟩ : S33), t113⟩ : S65) )) rfl (Reps.front (show Kd.M k65 _ _ _ (⟨t129, (⟨t130, t131, t132⟩ : S52), t133, t134, t135, t136, (⟨t137, t138⟩ : S33), (⟨t139, t140⟩ : S33), t141⟩ : S65) [.int .i64 t129, .int .i64 t130, .int .i64 t131, .int .i64 t132, .int .i64 t133, .int .i64 t134, .int .i64 t135, .int .i64 t136, .bool t137, .string t138, .bool t139, .string t140, .int .i64 t141] from (k65_mkM _ _ _ (⟨t129, (⟨t130, t131, t132⟩ : S52), t133, t134, t135, t136, (⟨t137, t138⟩ : S33), (⟨t139, t140⟩ : S33), t141⟩ : S65) )) rfl (Reps.none _ _) rfl) rfl)); intro v145 w78 ho79 hb hg_ hnew_; clear hg_ hnew_; (first | rw [← Ny144.out] at ho79 | (simp only [Int.reduceToNat] at ho79; rw [← Ny144.out] at ho79)); have n0_ := Aside0.mk (Kd.R_below (by (with_reducible repeat (first | apply Kd.R_alloc | apply Kd.R_drewN | apply Kd.R_drew)); exact (Kd.R_mono (Kd.R_far (p := ⟨gb143, 12, none⟩) (Kd.R_far (p := ⟨gb143, 11, none⟩) (Kd.R_far (p := ⟨gb143, 10, none⟩) (Kd.R_far (p := ⟨gb143, 9, none⟩) (Kd.R_far (p := ⟨gb143, 8, none⟩) (Kd.R_far (p := ⟨gb143, 7, none⟩) (Kd.R_far (p := ⟨gb143, 6, none⟩) (Kd.R_far (p := ⟨gb143, 5, none⟩) (Kd.R_far (p := ⟨gb143, 4, none⟩) (Kd.R_far (p := ⟨gb143, 3, none⟩) (Kd.R_far (p := ⟨gb143, 2, none⟩) (Kd.R_far (p := ⟨gb143, 1, none⟩) (Kd.R_far (p := ⟨gb143, 0, none⟩) (Kd.R_types HO118.out BK143.out (by decide)) (fun _ hk => hk.2) (.int .i64 t129)) (fun _ hk => hk.2) (.int .i64 t130)) (fun _ hk => hk.2) (.int .i64 t131)) (fun _ hk => hk.2) (.int .i64 t132)) (fun _ hk => hk.2) (.int .i64 t133)) (fun _ hk => hk.2) (.int .i64 t134)) (fun _ hk => hk.2) (.int .i64 t135)) (fun _ hk => hk.2) (.int .i64 t136)) (fun _ hk => hk.2) (.bool t137)) (fun _ hk => hk.2) (.string t138)) (fun _ hk => hk.2) (.bool t139)) (fun _ hk => hk.2) (.string t140)) (fun _ hk => hk.2) (.int .i64 t141)) (fun _ h_ => h_.1))) hb); have n1_ := Aside0.mk (Kd.R_below (by (with_reducible repeat (first | apply Kd.R_alloc | apply Kd.R_drewN | apply Kd.R_drew)); exact (Kd.R_mono (Kd.R_far (p := ⟨gb143, 12, none⟩) (Kd.R_far (p := ⟨gb143, 11, none⟩) (Kd.R_far (p := ⟨gb143, 10, none⟩) (Kd.R_far (p := ⟨gb143, 9, none⟩) (Kd.R_far (p := ⟨gb143, 8, none⟩) (Kd.R_far (p := ⟨gb143, 7, none⟩) (Kd.R_far (p := ⟨gb143, 6, none⟩) (Kd.R_far (p := ⟨gb143, 5, none⟩) (Kd.R_far (p := ⟨gb143, 4, none⟩) (Kd.R_far (p := ⟨gb143, 3, none⟩) (Kd.R_far (p := ⟨gb143, 2, none⟩) (Kd.R_far (p := ⟨gb143, 1, none⟩) (Kd.R_far (p := ⟨gb143, 0, none⟩) (Kd.R_types HO125.out BK143.out (by decide)) (fun _ hk => hk.2) (.int .i64 t129)) (fun _ hk => hk.2) (.int .i64 t130)) (fun _ hk => hk.2) (.int .i64 t131)) (fun _ hk => hk.2) (.int .i64 t132)) (fun _ hk => hk.2) (.int .i64 t133)) (fun _ hk => hk.2) (.int .i64 t134)) (fun _ hk => hk.2) (.int .i64 t135)) (fun _ hk => hk.2) (.int .i64 t136)) (fun _ hk => hk.2) (.bool t137)) (fun _ hk => hk.2) (.string t138)) (fun _ hk => hk.2) (.bool t139)) (fun _ hk => hk.2) (.string t140)) (fun _ hk => hk.2) (.int .i64 t141)) (fun _ h_ => h_.1))) hb); have n2_ := Aside0.mk (Kd.R_lower (Kd.R_newB (Kd.R_newB ho79 (g := gb114) (o := .cells #[.int .i64 t101, .int .i64 t102, .int .i64 t103, .int .i64 t104, .int .i64 t105, .int .i64 t106, .int .i64 t107, .int .i64 t108, .bool t109, .string t110, .bool t111, .string t112, .int .i64 t113] 65 (0, 0)) (by (with_reducible repeat (first | refine blk_drewN ?_ _ | refine blk_drew ?_ | refine blk_alloc ?_ _)); refine blk_far ?_ NB114_143.out _; refine blk_far ?_ NB114_143.out _; refine blk_far ?_ NB114_143.out _; refine blk_far ?_ NB114_143.out _; refine blk_far ?_ NB114_143.out _; refine blk_far ?_ NB114_143.out _; refine blk_far ?_ NB114_143.out _; refine blk_far ?_ NB114_143.out _; refine blk_far ?_ NB114_143.out _; refine blk_far ?_ NB114_143.out _; refine blk_far ?_ NB114_143.out _; refine blk_far ?_ NB114_143.out _; refine blk_far ?_ NB114_143.out _; (with_reducible repeat (first | refine blk_drewN ?_ _ | refine blk_drew ?_ | refine blk_alloc ?_ _)); exact BK114.out)) (g := gb143) (o := .cells #[.int .i64 t129, .int .i64 t130, .int .i64 t131, .int .i64 t132, .int .i64 t133, .int .i64 t134, .int .i64 t135, .int .i64 t136, .bool t137, .string t138, .bool t139, .string t140, .int .i64 t141] 65 (0, 0)) (by (with_reducible repeat (first | refine blk_drewN ?_ _ | refine blk_drew ?_ | refine blk_alloc ?_ _)); refine blk_put (cs := #[.int .i64 t129, .int .i64 t130, .int .i64 t131, .int .i64 t132, .int .i64 t133, .int .i64 t134, .int .i64 t135, .int .i64 t136, .bool t137, .string t138, .bool t139, .string t140, .int .i64 0]) ?_ 12 _ rfl; refine blk_put (cs := #[.int .i64 t129, .int .i64 t130, .int .i64 t131, .int .i64 t132, .int .i64 t133, .int .i64 t134, .int .i64 t135, .int .i64 t136, .bool t137, .string t138, .bool t139, .string (⟨#[]⟩ : ByteArray), .int .i64 0]) ?_ 11 _ rfl; refine blk_put (cs := #[.int .i64 t129, .int .i64 t130, .int .i64 t131, .int .i64 t132, .int .i64 t133, .int .i64 t134, .int .i64 t135, .int .i64 t136, .bool t137, .string t138, .bool false, .string (⟨#[]⟩ : ByteArray), .int .i64 0]) ?_ 10 _ rfl; refine blk_put (cs := #[.int .i64 t129, .int .i64 t130, .int .i64 t131, .int .i64 t132, .int .i64 t133, .int .i64 t134, .int .i64 t135, .int .i64 t136, .bool t137, .string (⟨#[]⟩ : ByteArray), .bool false, .string (⟨#[]⟩ : ByteArray), .int .i64 0]) ?_ 9 _ rfl; refine blk_put (cs := #[.int .i64 t129, .int .i64 t130, .int .i64 t131, .int .i64 t132, .int .i64 t133, .int .i64 t134, .int .i64 t135, .int .i64 t136, .bool false, .string (⟨#[]⟩ : ByteArray), .bool false, .string (⟨#[]⟩ : ByteArray), .int .i64 0]) ?_ 8 _ rfl; refine blk_put (cs := #[.int .i64 t129, .int .i64 t130, .int .i64 t131, .int .i64 t132, .int .i64 t133, .int .i64 t134, .int .i64 t135, .int .i64 0, .bool false, .string (⟨#[]⟩ : ByteArray), .bool false, .string (⟨#[]⟩ : ByteArray), .int .i64 0]) ?_ 7 _ rfl; refine blk_put (cs := #[.int .i64 t129, .int .i64 t130, .int .i64 t131, .int .i64 t132, .int .i64 t133, .int .i64 t134, .int .i64 0, .int .i64 0, .bool false, .string (⟨#[]⟩ : ByteArray), .bool false, .string (⟨#[]⟩ : ByteArray), .int .i64 0]) ?_ 6 _ rfl; refine blk_put (cs := #[.int .i64 t129, .int .i64 t130, .int .i64 t131, .int .i64 t132, .int .i64 t133, .int .i64 0, .int .i64 0, .int .i64 0, .bool false, .string (⟨#[]⟩ : ByteArray), .bool false, .string (⟨#[]⟩ : ByteArray), .int .i64 0]) ?_ 5 _ rfl; refine blk_put (cs := #[.int .i64 t129, .int .i64 t130, .int .i64 t131, .int .i64 t132, .int .i64 0, .int .i64 0, .int .i64 0, .int .i64 0, .bool false, .string (⟨#[]⟩ : ByteArray), .bool false, .string (⟨#[]⟩ : ByteArray), .int .i64 0]) ?_ 4 _ rfl; refine blk_put (cs := #[.int .i64 t129, .int .i64 t130, .int .i64 t131, .int .i64 0, .int .i64 0, .int .i64 0, .int .i64 0, .int .i64 0, .bool false, .string (⟨#[]⟩ : ByteArray), .bool false, .string (⟨#[]⟩ : ByteArray), .int .i64 0]) ?_ 3 _ rfl; refine blk_put (cs := #[.int .i64 t129, .int .i64 t130, .int .i64 0, .int .i64 0, .int .i64 0, .int .i64 0, .int .i64 0, .int .i64 0, .bool false, .string (⟨#[]⟩ : ByteArray), .bool false, .string (⟨#[]⟩ : ByteArray), .int .i64 0]) ?_ 2 _ rfl; refine blk_put (cs := #[.int .i64 t129, .int .i64 0, .int .i64 0, .int .i64 0, .int .i64 0, .int .i64 0, .int .i64 0, .int .i64 0, .bool false, .string (⟨#[]⟩ : ByteArray), .bool false, .string (⟨#[]⟩ : ByteArray), .int .i64 0]) ?_ 1 _ rfl; refine blk_put (cs := #[.int .i64 0, .int .i64 0, .int .i64 0, .int .i64 0, .int .i64 0, .int .i64 0, .int .i64 0, .int .i64 0, .bool false, .string (⟨#[]⟩ : ByteArray), .bool false, .string (⟨#[]⟩ : ByteArray), .int .i64 0]) ?_ 0 _ rfl; (with_reducible repeat (first | refine blk_drewN ?_ _ | refine blk_drew ?_ | refine blk_alloc ?_ _)); exact BK143.out)) (below_size (by repeat (first | (with_reducible first | exact HB.out | apply below_alloc | apply pw_below_drewN | apply below_drew1 | refine below_set ?_ GE114.out | refine below_set ?_ GE121.out | refine below_set ?_ GE128.out | refine below_set ?_ GE143.out) | exact HB.out)))); have n3_ := Aside0.mk (blk_below (g := gb114) (o := .cells #[.int .i64 t101, .int .i64 t102, .int .i64 t103, .int .i64 t104, .int .i64 t105, .int .i64 t106, .int .i64 t107, .int .i64 t108, .bool t109, .string t110, .bool t111, .string t112, .int .i64 t113] 65 (0, 0)) (by (with_reducible repeat (first | refine blk_drewN ?_ _ | refine blk_drew ?_ | refine blk_alloc ?_ _)); refine blk_far ?_ NB114_143.out _; refine blk_far ?_ NB114_143.out _; refine blk_far ?_ NB114_143.out _; refine blk_far ?_ NB114_143.out _; refine blk_far ?_ NB114_143.out _; refine blk_far ?_ NB114_143.out _; refine blk_far ?_ NB114_143.out _; refine blk_far ?_ NB114_143.out _; refine blk_far ?_ NB114_143.out _; refine blk_far ?_ NB114_143.out _; refine blk_far ?_ NB114_143.out _; refine blk_far ?_ NB114_143.out _; refine blk_far ?_ NB114_143.out _; (with_reducible repeat (first | refine blk_drewN ?_ _ | refine blk_drew ?_ | refine blk_alloc ?_ _)); exact BK114.out) hb); have n4_ := Aside0.mk (blk_below (g := gb121) (o := .cells #[.int .i64 t115, .slice Ao61 t116.length co61] 24 (0, 0)) (by (with_reducible repeat (first | refine blk_drewN ?_ _ | refine blk_drew ?_ | refine blk_alloc ?_ _)); refine blk_far ?_ NB121_143.out _; refine blk_far ?_ NB121_143.out _; refine blk_far ?_ NB121_143.out _; refine blk_far ?_ NB121_143.out _; refine blk_far ?_ NB121_143.out _; refine blk_far ?_ NB121_143.out _; refine blk_far ?_ NB121_143.out _; refine blk_far ?_ NB121_143.out _; refine blk_far ?_ NB121_143.out _; refine blk_far ?_ NB121_143.out _; refine blk_far ?_ NB121_143.out _; refine blk_far ?_ NB121_143.out _; refine blk_far ?_ NB121_143.out _; (with_reducible repeat (first | refine blk_drewN ?_ _ | refine blk_drew ?_ | refine blk_alloc ?_ _)); exact BK121.out) hb); have n5_ := Aside0.mk (blk_below (g := gb128) (o := .cells #[.int .i64 t122, .slice Ao68 t123.length co68] 24 (0, 0)) (by (with_reducible repeat (first | refine blk_drewN ?_ _ | refine blk_drew ?_ | refine blk_alloc ?_ _)); refine blk_far ?_ NB128_143.out _; refine blk_far ?_ NB128_143.out _; refine blk_far ?_ NB128_143.out _; refine blk_far ?_ NB128_143.out _; refine blk_far ?_ NB128_143.out _; refine blk_far ?_ NB128_143.out _; refine blk_far ?_ NB128_143.out _; refine blk_far ?_ NB128_143.out _; refine blk_far ?_ NB128_143.out _; refine blk_far ?_ NB128_143.out _; refine blk_far ?_ NB128_143.out _; refine blk_far ?_ NB128_143.out _; refine blk_far ?_ NB128_143.out _; (with_reducible repeat (first | refine blk_drewN ?_ _ | refine blk_drew ?_ | refine blk_alloc ?_ _)); exact BK128.out) hb); have n6_ := Aside0.mk (blk_below (g := gb143) (o := .cells #[.int .i64 t129, .int .i64 t130, .int .i64 t131, .int .i64 t132, .int .i64 t133, .int .i64 t134, .int .i64 t135, .int .i64 t136, .bool t137, .string t138, .bool t139, .string t140, .int .i64 t141] 65 (0, 0)) (by (with_reducible repeat (first | refine blk_drewN ?_ _ | refine blk_drew ?_ | refine blk_alloc ?_ _)); refine blk_put (cs := #[.int .i64 t129, .int .i64 t130, .int .i64 t131, .int .i64 t132, .int .i64 t133, .int .i64 t134, .int .i64 t135, .int .i64 t136, .bool t137, .string t138, .bool t139, .string t140, .int .i64 0]) ?_ 12 _ rfl; refine blk_put (cs := #[.int .i64 t129, .int .i64 t130, .int .i64 t131, .int .i64 t132, .int .i64 t133, .int .i64 t134, .int .i64 t135, .int .i64 t136, .bool t137, .string t138, .bool t139, .string (⟨#[]⟩ : ByteArray), .int .i64 0]) ?_ 11 _ rfl; refine blk_put (cs := #[.int .i64 t129, .int .i64 t130, .int .i64 t131, .int .i64 t132, .int .i64 t133, .int .i64 t134, .int .i64 t135, .int .i64 t136, .bool t137, .string t138, .bool false, .string (⟨#[]⟩ : ByteArray), .int .i64 0]) ?_ 10 _ rfl; refine blk_put (cs := #[.int .i64 t129, .int .i64 t130, .int .i64 t131, .int .i64 t132, .int .i64 t133, .int .i64 t134, .int .i64 t135, .int .i64 t136, .bool t137, .string (⟨#[]⟩ : ByteArray), .bool false, .string (⟨#[]⟩ : ByteArray), .int .i64 0]) ?_ 9 _ rfl; refine blk_put (cs := #[.int .i64 t129, .int .i64 t130, .int .i64 t131, .int .i64 t132, .int .i64 t133, .int .i64 t134, .int .i64 t135, .int .i64 t136, .bool false, .string (⟨#[]⟩ : ByteArray), .bool false, .string (⟨#[]⟩ : ByteArray), .int .i64 0]) ?_ 8 _ rfl; refine blk_put (cs := #[.int .i64 t129, .int .i64 t130, .int .i64 t131, .int .i64 t132, .int .i64 t133, .int .i64 t134, .int .i64 t135, .int .i64 0, .bool false, .string (⟨#[]⟩ : ByteArray), .bool false, .string (⟨#[]⟩ : ByteArray), .int .i64 0]) ?_ 7 _ rfl; refine blk_put (cs := #[.int .i64 t129, .int .i64 t130, .int .i64 t131, .int .i64 t132, .int .i64 t133, .int .i64 t134, .int .i64 0, .int .i64 0, .bool false, .string (⟨#[]⟩ : ByteArray), .bool false, .string (⟨#[]⟩ : ByteArray), .int .i64 0]) ?_ 6 _ rfl; refine blk_put (cs := #[.int .i64 t129, .int .i64 t130, .int .i64 t131, .int .i64 t132, .int .i64 t133, .int .i64 0, .int .i64 0, .int .i64 0, .bool false, .string (⟨#[]⟩ : ByteArray), .bool false, .string (⟨#[]⟩ : ByteArray), .int .i64 0]) ?_ 5 _ rfl; refine blk_put (cs := #[.int .i64 t129, .int .i64 t130, .int .i64 t131, .int .i64 t132, .int .i64 0, .int .i64 0, .int .i64 0, .int .i64 0, .bool false, .string (⟨#[]⟩ : ByteArray), .bool false, .string (⟨#[]⟩ : ByteArray), .int .i64 0]) ?_ 4 _ rfl; refine blk_put (cs := #[.int .i64 t129, .int .i64 t130, .int .i64 t131, .int .i64 0, .int .i64 0, .int .i64 0, .int .i64 0, .int .i64 0, .bool false, .string (⟨#[]⟩ : ByteArray), .bool false, .string (⟨#[]⟩ : ByteArray), .int .i64 0]) ?_ 3 _ rfl; refine blk_put (cs := #[.int .i64 t129, .int .i64 t130, .int .i64 0, .int .i64 0, .int .i64 0, .int .i64 0, .int .i64 0, .int .i64 0, .bool false, .string (⟨#[]⟩ : ByteArray), .bool false, .string (⟨#[]⟩ : ByteArray), .int .i64 0]) ?_ 2 _ rfl; refine blk_put (cs := #[.int .i64 t129, .int .i64 0, .int .i64 0, .int .i64 0, .int .i64 0, .int .i64 0, .int .i64 0, .int .i64 0, .bool false, .string (⟨#[]⟩ : ByteArray), .bool false, .string (⟨#[]⟩ : ByteArray), .int .i64 0]) ?_ 1 _ rfl; refine blk_put (cs := #[.int .i64 0, .int .i64 0, .int .i64 0, .int .i64 0, .int .i64 0, .int .i64 0, .int .i64 0, .int .i64 0, .bool false, .string (⟨#[]⟩ : ByteArray), .bool false, .string (⟨#[]⟩ : ByteArray), .int .i64 0]) ?_ 0 _ rfl; (with_reducible repeat (first | refine blk_drewN ?_ _ | refine blk_drew ?_ | refine blk_alloc ?_ _)); exact BK143.out) hb); have n7_ := Aside0.mk (below_step (by repeat (first | (with_reducible first | exact HB.out | apply below_alloc | apply pw_below_drewN | apply below_drew1 | refine below_set ?_ GE114.out | refine below_set ?_ GE121.out | refine below_set ?_ GE128.out | refine below_set ?_ GE143.out) | exact HB.out)) hb); clear HO118; clear HO125; clear BK114; clear BK121; clear BK128; clear BK143; clear HB; have HO118 := n0_; have HO125 := n1_; have HO146 := n2_; have BK114 := n3_; have BK121 := n4_; have BK128 := n5_; have BK143 := n6_; have HB := n7_; clear n0_ n1_ n2_ n3_ n4_ n5_ n6_ n7_; clear hb ho79; obtain ⟨Ao80, co80, eo80⟩ := Kd.R_slice HO146.out; subst eo80) | ((with_reducible refine gate_callee (f := 71) rfl ?_); refine goesL_ (some 37) rfl rfl Try.func71 (by kernel_rfl) rfl #[.agg #[.int .i64 t115, .slice Ao61 t116.length co61], .int .i64 0, .slice Ao80 y144.length co80] rfl (by (try simp only [List.map_toArray, List.map_cons, List.map_nil]); first | done | rfl | (simp only [List.length_drop, List.length_take]; rfl)) ?_; (with_reducible refine (patAll.calls t115 _ _ t116 0 _ _ y144 t147 t148 t151 _ ?side1 ?side2 ?side3 ?side4 A5.out).mono ?_); (case side1 => repeat (first | exact (Kd.R_reads' HO118.out).2.2 | (with_reducible refine Kd.C_alloc ?_ _) | (with_reducible refine Kd.C_drewN ?_ _) | (with_reducible refine Kd.C_drew ?_))); (case side2 => exact (Kd.R_reads' HO118.out).2.1); (case side3 => repeat (first | exact (Kd.R_reads' HO146.out).2.2 | (with_reducible refine Kd.C_alloc ?_ _) | (with_reducible refine Kd.C_drewN ?_ _) | (with_reducible refine Kd.C_drew ?_))); (case side4 => exact (Kd.R_reads' HO146.out).2.1); rintro e w81 ⟨v149, rfl, ho0, hb⟩; refine ⟨_, rfl, ?_⟩; have n0_ := Aside0.mk (Kd.R_elder' (by (with_reducible repeat (first | apply Kd.R_alloc | apply Kd.R_drewN | apply Kd.R_drew)); exact HO118.out) (Kd.R_base ho0) hb); have n1_ := Aside0.mk (Kd.R_elder' (by (with_reducible repeat (first | apply Kd.R_alloc | apply Kd.R_drewN | apply Kd.R_drew)); exact HO125.out) (Kd.R_base ho0) hb); have n2_ := Aside0.mk (Kd.R_below (by (with_reducible repeat (first | apply Kd.R_alloc | apply Kd.R_drewN | apply Kd.R_drew)); exact HO146.out) hb); have n3_ := Aside0.mk (Kd.R_lower (Kd.R_new' (Kd.R_new' ho0 (Kd.R_lt (by (with_reducible repeat (first | apply Kd.R_alloc | apply Kd.R_drewN | apply Kd.R_drew)); exact HO118.out))) (Kd.R_lt (by (with_reducible repeat (first | apply Kd.R_alloc | apply Kd.R_drewN | apply Kd.R_drew)); exact HO125.out))) (below_size (by repeat (first | (with_reducible first | exact HB.out | apply below_alloc | apply pw_below_drewN | apply below_drew1 | refine below_set ?_ GE114.out | refine below_set ?_ GE121.out | refine below_set ?_ GE128.out | refine below_set ?_ GE143.out) | exact HB.out)))); have n4_ := Aside0.mk (blk_below (g := gb114) (o := .cells #[.int .i64 t101, .int .i64 t102, .int .i64 t103, .int .i64 t104, .int .i64 t105, .int .i64 t106, .int .i64 t107, .int .i64 t108, .bool t109, .string t110, .bool t111, .string t112, .int .i64 t113] 65 (0, 0)) (by (with_reducible repeat (first | refine blk_drewN ?_ _ | refine blk_drew ?_ | refine blk_alloc ?_ _)); exact BK114.out) hb); have n5_ := Aside0.mk (blk_below (g := gb121) (o := .cells #[.int .i64 t115, .slice Ao61 t116.length co61] 24 (0, 0)) (by (with_reducible repeat (first | refine blk_drewN ?_ _ | refine blk_drew ?_ | refine blk_alloc ?_ _)); exact BK121.out) hb); have n6_ := Aside0.mk (blk_below (g := gb128) (o := .cells #[.int .i64 t122, .slice Ao68 t123.length co68] 24 (0, 0)) (by (with_reducible repeat (first | refine blk_drewN ?_ _ | refine blk_drew ?_ | refine blk_alloc ?_ _)); exact BK128.out) hb); have n7_ := Aside0.mk (blk_below (g := gb143) (o := .cells #[.int .i64 t129, .int .i64 t130, .int .i64 t131, .int .i64 t132, .int .i64 t133, .int .i64 t134, .int .i64 t135, .int .i64 t136, .bool t137, .string t138, .bool t139, .string t140, .int .i64 t141] 65 (0, 0)) (by (with_reducible repeat (first | refine blk_drewN ?_ _ | refine blk_drew ?_ | refine blk_alloc ?_ _)); exact BK143.out) hb); have n8_ := Aside0.mk (below_step (by repeat (first | (with_reducible first | exact HB.out | apply below_alloc | apply pw_below_drewN | apply below_drew1 | refine below_set ?_ GE114.out | refine below_set ?_ GE121.out | refine below_set ?_ GE128.out | refine below_set ?_ GE143.out) | exact HB.out)) hb); clear HO118; clear HO125; clear HO146; clear BK114; clear BK121; clear BK128; clear BK143; clear HB; have HO118 := n0_; have HO125 := n1_; have HO146 := n2_; have HO150 := n3_; have BK114 := n4_; have BK121 := n5_; have BK128 := n6_; have BK143 := n7_; have HB := n8_; clear n0_ n1_ n2_ n3_ n4_ n5_ n6_ n7_ n8_; (try clear hb); (try clear hb2); (try clear hk); (try clear hi); (try clear ho0)) | ((with_reducible refine gate_dst (N := 10) rfl ?_); (try (refine gate_guard (by rfl) ?_; dsimp only)); refine box_event ?hg (N := 10) ?hd (cs := #[.int .i64 0, .slice none 0 0]) (t := 24) ?hr ?_; (case hd => rfl); (case hg => rfl); (case hr => first | (go_simp; done) | (go_simp; rfl)); intro gb152 hg w82 hbox hb; have n0_ := Aside0.mk (Kd.R_below (by (with_reducible repeat (first | apply Kd.R_alloc | apply Kd.R_drewN | apply Kd.R_drew)); exact HO118.out) hb); have n1_ := Aside0.mk (Kd.R_below (by (with_reducible repeat (first | apply Kd.R_alloc | apply Kd.R_drewN | apply Kd.R_drew)); exact HO125.out) hb); have n2_ := Aside0.mk (Kd.R_below (by (with_reducible repeat (first | apply Kd.R_alloc | apply Kd.R_drewN | apply Kd.R_drew)); exact HO146.out) hb); have n3_ := Aside0.mk (Kd.R_below (by (with_reducible repeat (first | apply Kd.R_alloc | apply Kd.R_drewN | apply Kd.R_drew)); exact HO150.out) hb); have n4_ := Aside0.mk (blk_below (g := gb114) (o := .cells #[.int .i64 t101, .int .i64 t102, .int .i64 t103, .int .i64 t104, .int .i64 t105, .int .i64 t106, .int .i64 t107, .int .i64 t108, .bool t109, .string t110, .bool t111, .string t112, .int .i64 t113] 65 (0, 0)) (by (with_reducible repeat (first | refine blk_drewN ?_ _ | refine blk_drew ?_ | refine blk_alloc ?_ _)); exact BK114.out) hb); have n5_ := Aside0.mk (blk_below (g := gb121) (o := .cells #[.int .i64 t115, .slice Ao61 t116.length co61] 24 (0, 0)) (by (with_reducible repeat (first | refine blk_drewN ?_ _ | refine blk_drew ?_ | refine blk_alloc ?_ _)); exact BK121.out) hb); have n6_ := Aside0.mk (blk_below (g := gb128) (o := .cells #[.int .i64 t122, .slice Ao68 t123.length co68] 24 (0, 0)) (by (with_reducible repeat (first | refine blk_drewN ?_ _ | refine blk_drew ?_ | refine blk_alloc ?_ _)); exact BK128.out) hb); have n7_ := Aside0.mk (blk_below (g := gb143) (o := .cells #[.int .i64 t129, .int .i64 t130, .int .i64 t131, .int .i64 t132, .int .i64 t133, .int .i64 t134, .int .i64 t135, .int .i64 t136, .bool t137, .string t138, .bool t139, .string t140, .int .i64 t141] 65 (0, 0)) (by (with_reducible repeat (first | refine blk_drewN ?_ _ | refine blk_drew ?_ | refine blk_alloc ?_ _)); exact BK143.out) hb); have n8_ := Aside0.mk (below_step (by repeat (first | (with_reducible first | exact HB.out | apply below_alloc | apply pw_below_drewN | apply below_drew1 | refine below_set ?_ GE114.out | refine below_set ?_ GE121.out | refine below_set ?_ GE128.out | refine below_set ?_ GE143.out) | exact HB.out)) hb); have n9_ := Aside0.mk (hbox); have n10_ := Aside0.mk ((by rw [hg]; exact (below_size (by repeat (first | (with_reducible first | exact HB.out | apply below_alloc | apply pw_below_drewN | apply below_drew1 | refine below_set ?_ GE114.out | refine below_set ?_ GE121.out | refine below_set ?_ GE128.out | refine below_set ?_ GE143.out) | exact HB.out))) : w.heap.size ≤ gb152)); have n11_ := Aside0.mk ((by rw [hg]; exact (below_size (by repeat (first | (with_reducible first | exact HB.out | apply below_alloc | apply pw_below_drewN | apply below_drew1 | refine below_set ?_ GE114.out | refine below_set ?_ GE121.out | refine below_set ?_ GE128.out | refine below_set ?_ GE143.out) | exact HB.out))) : w.heap.size ≤ gb152)); have n12_ := Aside0.mk ((by rw [hg]; exact Nat.ne_of_lt (blk_lt (g := gb114) (o := .cells #[.int .i64 t101, .int .i64 t102, .int .i64 t103, .int .i64 t104, .int .i64 t105, .int .i64 t106, .int .i64 t107, .int .i64 t108, .bool t109, .string t110, .bool t111, .string t112, .int .i64 t113] 65 (0, 0)) (by (with_reducible repeat (first | refine blk_drewN ?_ _ | refine blk_drew ?_ | refine blk_alloc ?_ _)); exact BK114.out)) : gb114 ≠ gb152)); have n13_ := Aside0.mk ((by rw [hg]; exact Nat.ne_of_gt (blk_lt (g := gb114) (o := .cells #[.int .i64 t101, .int .i64 t102, .int .i64 t103, .int .i64 t104, .int .i64 t105, .int .i64 t106, .int .i64 t107, .int .i64 t108, .bool t109, .string t110, .bool t111, .string t112, .int .i64 t113] 65 (0, 0)) (by (with_reducible repeat (first | refine blk_drewN ?_ _ | refine blk_drew ?_ | refine blk_alloc ?_ _)); exact BK114.out)) : gb152 ≠ gb114)); have n14_ := Aside0.mk ((by rw [hg]; exact Nat.ne_of_lt (blk_lt (g := gb121) (o := .cells #[.int .i64 t115, .slice Ao61 t116.length co61] 24 (0, 0)) (by (with_reducible repeat (first | refine blk_drewN ?_ _ | refine blk_drew ?_ | refine blk_alloc ?_ _)); exact BK121.out)) : gb121 ≠ gb152)); have n15_ := Aside0.mk ((by rw [hg]; exact Nat.ne_of_gt (blk_lt (g := gb121) (o := .cells #[.int .i64 t115, .slice Ao61 t116.length co61] 24 (0, 0)) (by (with_reducible repeat (first | refine blk_drewN ?_ _ | refine blk_drew ?_ | refine blk_alloc ?_ _)); exact BK121.out)) : gb152 ≠ gb121)); have n16_ := Aside0.mk ((by rw [hg]; exact Nat.ne_of_lt (blk_lt (g := gb128) (o := .cells #[.int .i64 t122, .slice Ao68 t123.length co68] 24 (0, 0)) (by (with_reducible repeat (first | refine blk_drewN ?_ _ | refine blk_drew ?_ | refine blk_alloc ?_ _)); exact BK128.out)) : gb128 ≠ gb152)); have n17_ := Aside0.mk ((by rw [hg]; exact Nat.ne_of_gt (blk_lt (g := gb128) (o := .cells #[.int .i64 t122, .slice Ao68 t123.length co68] 24 (0, 0)) (by (with_reducible repeat (first | refine blk_drewN ?_ _ | refine blk_drew ?_ | refine blk_alloc ?_ _)); exact BK128.out)) : gb152 ≠ gb128)); have n18_ := Aside0.mk ((by rw [hg]; exact Nat.ne_of_lt (blk_lt (g := gb143) (o := .cells #[.int .i64 t129, .int .i64 t130, .int .i64 t131, .int .i64 t132, .int .i64 t133, .int .i64 t134, .int .i64 t135, .int .i64 t136, .bool t137, .string t138, .bool t139, .string t140, .int .i64 t141] 65 (0, 0)) (by (with_reducible repeat (first | refine blk_drewN ?_ _ | refine blk_drew ?_ | refine blk_alloc ?_ _)); exact BK143.out)) : gb143 ≠ gb152)); have n19_ := Aside0.mk ((by rw [hg]; exact Nat.ne_of_gt (blk_lt (g := gb143) (o := .cells #[.int .i64 t129, .int .i64 t130, .int .i64 t131, .int .i64 t132, .int .i64 t133, .int .i64 t134, .int .i64 t135, .int .i64 t136, .bool t137, .string t138, .bool t139, .string t140, .int .i64 t141] 65 (0, 0)) (by (with_reducible repeat (first | refine blk_drewN ?_ _ | refine blk_drew ?_ | refine blk_alloc ?_ _)); exact BK143.out)) : gb152 ≠ gb143)); clear HO118; clear HO125; clear HO146; clear HO150; clear BK114; clear BK121; clear BK128; clear BK143; clear HB; have HO118 := n0_; have HO125 := n1_; have HO146 := n2_; have HO150 := n3_; have BK114 := n4_; have BK121 := n5_; have BK128 := n6_; have BK143 := n7_; have HB := n8_; have BK152 := n9_; have GW152 := n10_; have GE152 := n11_; have NB114_152 := n12_; have NB152_114 := n13_; have NB121_152 := n14_; have NB152_121 := n15_; have NB128_152 := n16_; have NB152_128 := n17_; have NB143_152 := n18_; have NB152_143 := n19_; clear n0_ n1_ n2_ n3_ n4_ n5_ n6_ n7_ n8_ n9_ n10_ n11_ n12_ n13_ n14_ n15_ n16_ n17_ n18_ n19_; clear hb hbox hg; have hnb83 := NB152_114.out; have hnc83 := NB114_152.out; have hnb84 := NB152_121.out; have hnc84 := NB121_152.out; have hnb85 := NB152_128.out; have hnc85 := NB128_152.out; have hnb86 := NB152_143.out; have hnc86 := NB143_152.out; obtain ⟨hcz87_0, hcz87_1⟩ := cl2 (W := w82) BK152.out; obtain ⟨hfz87_0, hfz87_1⟩ := fr2 BK152.out; obtain ⟨Ao88, co88, eo88⟩ := Kd.R_slice HO150.out; subst eo88; obtain ⟨hcz89_0, hcz89_1⟩ := cl2 (W := w82) BK121.out; obtain ⟨hfz89_0, hfz89_1⟩ := fr2 BK121.out; have p153 : 0 ≤ (0 : Int) := (by omega); have q153 : 0 < (t116.length : Int) := of_decide_eq_true (by first | (with_reducible assumption) | assumption); obtain ⟨ad153, e153, hx153_0, hx153_1⟩ := at_T33 (Kd.R_reads' HO118.out).2.2 0 p153 q153; cases e153; have qi153 : (0 < t116.length) = True := eq_true (by omega); (try rw [show ((0 : Int)).toNat = 0 from rfl] at hx153_0); (try rw [show 0 * 2 = 0 from rfl] at hx153_0); (try rw [Addr.add_zero'] at hx153_0); (try rw [show ((0 : Int)).toNat = 0 from rfl] at hx153_1); (try rw [show 0 * 2 = 0 from rfl] at hx153_1); (try rw [Addr.add_zero'] at hx153_1); have hn153_0 : ad153.block ≠ gb152 := Kd.own_blk (Kd.R_ne HO118.out BK152.out (by decide)); have hn153_1 : ad153.block ≠ gb152 := Kd.own_blk (Kd.R_ne HO118.out BK152.out (by decide)); replace hx153_0 := (cell_far (p := ⟨gb152, 0, none⟩) (by first | (rw [add_block]; exact hn153_0) | (show (Addr.add _ _).block ≠ _; rw [add_block]; exact hn153_0) | exact hn153_0) (.int .i64 t147)).trans hx153_0; replace hx153_1 := (cell_far (p := ⟨gb152, 0, none⟩) (by first | (rw [add_block]; exact hn153_0) | (show (Addr.add _ _).block ≠ _; rw [add_block]; exact hn153_0) | exact hn153_0) (.int .i64 t147)).trans hx153_1; replace hx153_0 := (cell_far (p := ⟨gb152, 1, none⟩) (by first | (rw [add_block]; exact hn153_1) | (show (Addr.add _ _).block ≠ _; rw [add_block]; exact hn153_1) | exact hn153_1) (.slice Ao88 t148.length co88)).trans hx153_0; replace hx153_1 := (cell_far (p := ⟨gb152, 1, none⟩) (by first | (rw [add_block]; exact hn153_1) | (show (Addr.add _ _).block ≠ _; rw [add_block]; exact hn153_1) | exact hn153_1) (.slice Ao88 t148.length co88)).trans hx153_1; clear hn153_0; clear hn153_1; replace p153 := eq_true p153; replace q153 := eq_true q153; obtain ⟨hcz90_0, hcz90_1, hcz90_2, hcz90_3, hcz90_4, hcz90_5, hcz90_6, hcz90_7, hcz90_8, hcz90_9, hcz90_10, hcz90_11, hcz90_12⟩ := cl13 (W := w82) BK143.out; obtain ⟨hfz90_0, hfz90_1, hfz90_2, hfz90_3, hfz90_4, hfz90_5, hfz90_6, hfz90_7, hfz90_8, hfz90_9, hfz90_10, hfz90_11, hfz90_12⟩ := fr13 BK143.out))
             go_ret
             exact ⟨by first | rfl | (simp [errW_none, errW_some] <;> rfl) | (simp [*, errW_none, errW_some] <;> rfl), by repeat (first | (with_reducible first | exact HB.out | apply below_alloc | apply pw_below_drewN | apply below_drew1 | refine below_set ?_ GE114.out | refine below_set ?_ GE121.out | refine below_set ?_ GE128.out | refine below_set ?_ GE143.out | refine below_set ?_ GE152.out) | exact HB.out)⟩
            ·exfalso; have q_ := Option.some.inj (A1.out.symm.trans v65_1); (first | (simp only [Prod.mk.injEq] at q_; obtain ⟨rfl, rfl, rfl, rfl, rfl, rfl, rfl, rfl, rfl, rfl, rfl, rfl, rfl⟩ := q_) | cases q_); have q_ := Option.some.inj (A2.out.symm.trans v65_2); (first | (simp only [Prod.mk.injEq] at q_; obtain ⟨rfl, rfl, rfl, rfl⟩ := q_) | cases q_); have q_ := Option.some.inj (A3.out.symm.trans v65_3); (first | (simp only [Prod.mk.injEq] at q_; obtain ⟨rfl, rfl, rfl, rfl⟩ := q_) | cases q_); have q_ := Option.some.inj (A4.out.symm.trans v65_4); (first | (simp only [Prod.mk.injEq] at q_; obtain ⟨rfl, rfl, rfl, rfl, rfl, rfl, rfl, rfl, rfl, rfl, rfl, rfl, rfl, rfl⟩ := q_) | cases q_); have a_ := A5.out; rw [Ny144.out] at a_; have q_ := Option.some.inj (a_.symm.trans v65_5); (first | (simp only [Prod.mk.injEq] at q_; obtain ⟨rfl, rfl, rfl⟩ := q_) | cases q_); exact c53 (by decide +kernel)
           ·exfalso; have q_ := Option.some.inj (A1.out.symm.trans v65_1); (first | (simp only [Prod.mk.injEq] at q_; obtain ⟨rfl, rfl, rfl, rfl, rfl, rfl, rfl, rfl, rfl, rfl, rfl, rfl, rfl⟩ := q_) | cases q_); have q_ := Option.some.inj (A2.out.symm.trans v65_2); (first | (simp only [Prod.mk.injEq] at q_; obtain ⟨rfl, rfl, rfl, rfl⟩ := q_) | cases q_); have q_ := Option.some.inj (A3.out.symm.trans v65_3); (first | (simp only [Prod.mk.injEq] at q_; obtain ⟨rfl, rfl, rfl, rfl⟩ := q_) | cases q_); have q_ := Option.some.inj (A4.out.symm.trans v65_4); (first | (simp only [Prod.mk.injEq] at q_; obtain ⟨rfl, rfl, rfl, rfl, rfl, rfl, rfl, rfl, rfl, rfl, rfl, rfl, rfl, rfl⟩ := q_) | cases q_); have a_ := A5.out; rw [Ny144.out] at a_; have q_ := Option.some.inj (a_.symm.trans v65_5); (first | (simp only [Prod.mk.injEq] at q_; obtain ⟨rfl, rfl, rfl⟩ := q_) | cases q_); exact c52 (by decide +kernel)
          ·exfalso; have q_ := Option.some.inj (A1.out.symm.trans v65_1); (first | (simp only [Prod.mk.injEq] at q_; obtain ⟨rfl, rfl, rfl, rfl, rfl, rfl, rfl, rfl, rfl, rfl, rfl, rfl, rfl⟩ := q_) | cases q_); have q_ := Option.some.inj (A2.out.symm.trans v65_2); (first | (simp only [Prod.mk.injEq] at q_; obtain ⟨rfl, rfl, rfl, rfl⟩ := q_) | cases q_); have q_ := Option.some.inj (A3.out.symm.trans v65_3); (first | (simp only [Prod.mk.injEq] at q_; obtain ⟨rfl, rfl, rfl, rfl⟩ := q_) | cases q_); have q_ := Option.some.inj (A4.out.symm.trans v65_4); (first | (simp only [Prod.mk.injEq] at q_; obtain ⟨rfl, rfl, rfl, rfl, rfl, rfl, rfl, rfl, rfl, rfl, rfl, rfl, rfl, rfl⟩ := q_) | cases q_); have a_ := A5.out; rw [Ny144.out] at a_; have q_ := Option.some.inj (a_.symm.trans v65_5); (first | (simp only [Prod.mk.injEq] at q_; obtain ⟨rfl, rfl, rfl⟩ := q_) | cases q_); exact c51 (by decide +kernel)
         ·exfalso; have q_ := Option.some.inj (A1.out.symm.trans v65_1); (first | (simp only [Prod.mk.injEq] at q_; obtain ⟨rfl, rfl, rfl, rfl, rfl, rfl, rfl, rfl, rfl, rfl, rfl, rfl, rfl⟩ := q_) | cases q_); have q_ := Option.some.inj (A2.out.symm.trans v65_2); (first | (simp only [Prod.mk.injEq] at q_; obtain ⟨rfl, rfl, rfl, rfl⟩ := q_) | cases q_); have q_ := Option.some.inj (A3.out.symm.trans v65_3); (first | (simp only [Prod.mk.injEq] at q_; obtain ⟨rfl, rfl, rfl, rfl⟩ := q_) | cases q_); have q_ := Option.some.inj (A4.out.symm.trans v65_4); (first | (simp only [Prod.mk.injEq] at q_; obtain ⟨rfl, rfl, rfl, rfl, rfl, rfl, rfl, rfl, rfl, rfl, rfl, rfl, rfl, rfl⟩ := q_) | cases q_); have a_ := A5.out; rw [Ny144.out] at a_; have q_ := Option.some.inj (a_.symm.trans v65_5); (first | (simp only [Prod.mk.injEq] at q_; obtain ⟨rfl, rfl, rfl⟩ := q_) | cases q_); exact c50 (by decide +kernel)
        ·exfalso; have q_ := Option.some.inj (A1.out.symm.trans v65_1); (first | (simp only [Prod.mk.injEq] at q_; obtain ⟨rfl, rfl, rfl, rfl, rfl, rfl, rfl, rfl, rfl, rfl, rfl, rfl, rfl⟩ := q_) | cases q_); have q_ := Option.some.inj (A2.out.symm.trans v65_2); (first | (simp only [Prod.mk.injEq] at q_; obtain ⟨rfl, rfl, rfl, rfl⟩ := q_) | cases q_); have q_ := Option.some.inj (A3.out.symm.trans v65_3); (first | (simp only [Prod.mk.injEq] at q_; obtain ⟨rfl, rfl, rfl, rfl⟩ := q_) | cases q_); have q_ := Option.some.inj (A4.out.symm.trans v65_4); (first | (simp only [Prod.mk.injEq] at q_; obtain ⟨rfl, rfl, rfl, rfl, rfl, rfl, rfl, rfl, rfl, rfl, rfl, rfl, rfl, rfl⟩ := q_) | cases q_); have a_ := A5.out; rw [Ny144.out] at a_; have q_ := Option.some.inj (a_.symm.trans v65_5); (first | (simp only [Prod.mk.injEq] at q_; obtain ⟨rfl, rfl, rfl⟩ := q_) | cases q_); exact c49 (by decide +kernel)
      ·exfalso; have q_ := Option.some.inj (A1.out.symm.trans v65_1); (first | (simp only [Prod.mk.injEq] at q_; obtain ⟨rfl, rfl, rfl, rfl, rfl, rfl, rfl, rfl, rfl, rfl, rfl, rfl, rfl⟩ := q_) | cases q_); have q_ := Option.some.inj (A2.out.symm.trans v65_2); (first | (simp only [Prod.mk.injEq] at q_; obtain ⟨rfl, rfl, rfl, rfl⟩ := q_) | cases q_); have q_ := Option.some.inj (A3.out.symm.trans v65_3); (first | (simp only [Prod.mk.injEq] at q_; obtain ⟨rfl, rfl, rfl, rfl⟩ := q_) | cases q_); have q_ := Option.some.inj (A4.out.symm.trans v65_4); (first | (simp only [Prod.mk.injEq] at q_; obtain ⟨rfl, rfl, rfl, rfl, rfl, rfl, rfl, rfl, rfl, rfl, rfl, rfl, rfl, rfl⟩ := q_) | cases q_); have a_ := A5.out; rw [Ny144.out] at a_; have q_ := Option.some.inj (a_.symm.trans v65_5); (first | (simp only [Prod.mk.injEq] at q_; obtain ⟨rfl, rfl, rfl⟩ := q_) | cases q_); exact c11 (by decide +kernel)
     ·exfalso; have q_ := Option.some.inj (A1.out.symm.trans v65_1); (first | (simp only [Prod.mk.injEq] at q_; obtain ⟨rfl, rfl, rfl, rfl, rfl, rfl, rfl, rfl, rfl, rfl, rfl, rfl, rfl⟩ := q_) | cases q_); have q_ := Option.some.inj (A2.out.symm.trans v65_2); (first | (simp only [Prod.mk.injEq] at q_; obtain ⟨rfl, rfl, rfl, rfl⟩ := q_) | cases q_); have q_ := Option.some.inj (A3.out.symm.trans v65_3); (first | (simp only [Prod.mk.injEq] at q_; obtain ⟨rfl, rfl, rfl, rfl⟩ := q_) | cases q_); have q_ := Option.some.inj (A4.out.symm.trans v65_4); (first | (simp only [Prod.mk.injEq] at q_; obtain ⟨rfl, rfl, rfl, rfl, rfl, rfl, rfl, rfl, rfl, rfl, rfl, rfl, rfl, rfl⟩ := q_) | cases q_); have a_ := A5.out; rw [Ny144.out] at a_; have q_ := Option.some.inj (a_.symm.trans v65_5); (first | (simp only [Prod.mk.injEq] at q_; obtain ⟨rfl, rfl, rfl⟩ := q_) | cases q_); exact c10 (by decide +kernel)
    ·exfalso; have q_ := Option.some.inj (A1.out.symm.trans v65_1); (first | (simp only [Prod.mk.injEq] at q_; obtain ⟨rfl, rfl, rfl, rfl, rfl, rfl, rfl, rfl, rfl, rfl, rfl, rfl, rfl⟩ := q_) | cases q_); have q_ := Option.some.inj (A2.out.symm.trans v65_2); (first | (simp only [Prod.mk.injEq] at q_; obtain ⟨rfl, rfl, rfl, rfl⟩ := q_) | cases q_); have q_ := Option.some.inj (A3.out.symm.trans v65_3); (first | (simp only [Prod.mk.injEq] at q_; obtain ⟨rfl, rfl, rfl, rfl⟩ := q_) | cases q_); have q_ := Option.some.inj (A4.out.symm.trans v65_4); (first | (simp only [Prod.mk.injEq] at q_; obtain ⟨rfl, rfl, rfl, rfl, rfl, rfl, rfl, rfl, rfl, rfl, rfl, rfl, rfl, rfl⟩ := q_) | cases q_); have a_ := A5.out; rw [Ny144.out] at a_; have q_ := Option.some.inj (a_.symm.trans v65_5); (first | (simp only [Prod.mk.injEq] at q_; obtain ⟨rfl, rfl, rfl⟩ := q_) | cases q_); exact c9 (by decide +kernel)
   ·exfalso; have q_ := Option.some.inj (A1.out.symm.trans v65_1); (first | (simp only [Prod.mk.injEq] at q_; obtain ⟨rfl, rfl, rfl, rfl, rfl, rfl, rfl, rfl, rfl, rfl, rfl, rfl, rfl⟩ := q_) | cases q_); have q_ := Option.some.inj (A2.out.symm.trans v65_2); (first | (simp only [Prod.mk.injEq] at q_; obtain ⟨rfl, rfl, rfl, rfl⟩ := q_) | cases q_); have q_ := Option.some.inj (A3.out.symm.trans v65_3); (first | (simp only [Prod.mk.injEq] at q_; obtain ⟨rfl, rfl, rfl, rfl⟩ := q_) | cases q_); have q_ := Option.some.inj (A4.out.symm.trans v65_4); (first | (simp only [Prod.mk.injEq] at q_; obtain ⟨rfl, rfl, rfl, rfl, rfl, rfl, rfl, rfl, rfl, rfl, rfl, rfl, rfl, rfl⟩ := q_) | cases q_); have a_ := A5.out; rw [Ny144.out] at a_; have q_ := Option.some.inj (a_.symm.trans v65_5); (first | (simp only [Prod.mk.injEq] at q_; obtain ⟨rfl, rfl, rfl⟩ := q_) | cases q_); exact c8 (by decide +kernel)
  ·exfalso; have q_ := Option.some.inj (A1.out.symm.trans v65_1); (first | (simp only [Prod.mk.injEq] at q_; obtain ⟨rfl, rfl, rfl, rfl, rfl, rfl, rfl, rfl, rfl, rfl, rfl, rfl, rfl⟩ := q_) | cases q_); have q_ := Option.some.inj (A2.out.symm.trans v65_2); (first | (simp only [Prod.mk.injEq] at q_; obtain ⟨rfl, rfl, rfl, rfl⟩ := q_) | cases q_); have q_ := Option.some.inj (A3.out.symm.trans v65_3); (first | (simp only [Prod.mk.injEq] at q_; obtain ⟨rfl, rfl, rfl, rfl⟩ := q_) | cases q_); have q_ := Option.some.inj (A4.out.symm.trans v65_4); (first | (simp only [Prod.mk.injEq] at q_; obtain ⟨rfl, rfl, rfl, rfl, rfl, rfl, rfl, rfl, rfl, rfl, rfl, rfl, rfl, rfl⟩ := q_) | cases q_); have a_ := A5.out; rw [Ny144.out] at a_; have q_ := Option.some.inj (a_.symm.trans v65_5); (first | (simp only [Prod.mk.injEq] at q_; obtain ⟨rfl, rfl, rfl⟩ := q_) | cases q_); exact c7 (by decide +kernel)
 ·exfalso; have q_ := Option.some.inj (A1.out.symm.trans v65_1); (first | (simp only [Prod.mk.injEq] at q_; obtain ⟨rfl, rfl, rfl, rfl, rfl, rfl, rfl, rfl, rfl, rfl, rfl, rfl, rfl⟩ := q_) | cases q_); have q_ := Option.some.inj (A2.out.symm.trans v65_2); (first | (simp only [Prod.mk.injEq] at q_; obtain ⟨rfl, rfl, rfl, rfl⟩ := q_) | cases q_); have q_ := Option.some.inj (A3.out.symm.trans v65_3); (first | (simp only [Prod.mk.injEq] at q_; obtain ⟨rfl, rfl, rfl, rfl⟩ := q_) | cases q_); have q_ := Option.some.inj (A4.out.symm.trans v65_4); (first | (simp only [Prod.mk.injEq] at q_; obtain ⟨rfl, rfl, rfl, rfl, rfl, rfl, rfl, rfl, rfl, rfl, rfl, rfl, rfl, rfl⟩ := q_) | cases q_); have a_ := A5.out; rw [Ny144.out] at a_; have q_ := Option.some.inj (a_.symm.trans v65_5); (first | (simp only [Prod.mk.injEq] at q_; obtain ⟨rfl, rfl, rfl⟩ := q_) | cases q_); exact c6 (by decide +kernel)
end Go.Proofs.Ytfjmnaobfbmllaa.M
namespace Go.Proofs.Ytfjmnaobfbmllaa.M
open Go.RowKit Go.Proofs.YtfjmnaobfbmllaaW.PrintWords Go.Proofs.YtfjmnaobfbmllaaW.PrintLast Go.Proofs.YtfjmnaobfbmllaaW.PrintMore
theorem awake5_pure : seneschallaw05_awake.f = some true := by decide +kernel
def awake5.f : Option Bool := some true
theorem awake5.calls (r : Bool) (w : World) (h : awake5.f = some r) : Calls Try.prog 65 #[] w fun e w' => e = .returned (.bool r) ∧ Below w.heap.size w w' :=
  seneschallaw05_awake.calls r w (by rw [awake5_pure]; exact h)
end Go.Proofs.Ytfjmnaobfbmllaa.M
namespace Go.Proofs.Ytfjmnaobfbmllaa.M
open Go.RowKit Go.Proofs.YtfjmnaobfbmllaaW.PrintWords Go.Proofs.YtfjmnaobfbmllaaW.PrintLast Go.Proofs.YtfjmnaobfbmllaaW.PrintMore
attribute [local go_sem] max2_int min2_int max_two min_two max_three min_three max_four min_four   -- for this text's walks alone
set_option linter.unusedVariables false
set_option linter.unusedSimpArgs false
attribute [local go_sem high] eqA33
mutual
def seneschalref03_Same.j0 : Nat → Bool → Int → List (S33) → Int → List (S33) → Option (Bool)
 | 0, _, _, _, _, _ => none
 | k + 1, x19, x102000, x102001, x103000, x103001 => if x19 = true then (some false) else (seneschalref03_Same.l0 k 0 x102000 x102001 x103000 x103001)
def seneschalref03_Same.l0 : Nat → Int → Int → List (S33) → Int → List (S33) → Option (Bool)
 | 0, _, _, _, _, _ => none
 | k + 1, x5, x102000, x102001, x103000, x103001 => if x5 < (x102001.length : Int) then (if 0 ≤ x5 then (if x5 < (x103001.length : Int) then (if (!(((rd_T33 x102001 x5).f0) == ((rd_T33 x103001 x5).f0)) || (!((((rd_T33 x102001 x5).f1).toList) == (((rd_T33 x103001 x5).f1).toList)))) = true then (some false) else (seneschalref03_Same.l0 k (wrap64 (x5 + 1)) x102000 x102001 x103000 x103001)) else (none)) else (none)) else (some true)
end
def seneschalref03_Same.f (k : Nat) (a0_0 : Int) (l0_1 : List (S33)) (a1_0 : Int) (l1_1 : List (S33)) : Option (Bool) := if a0_0 = a1_0 then (seneschalref03_Same.j0 k ((l0_1.length : Int) != (l1_1.length : Int)) a0_0 l0_1 a1_0 l1_1) else (seneschalref03_Same.j0 k true a0_0 l0_1 a1_0 l1_1)
set_option maxHeartbeats 8000000 in
set_option maxRecDepth 100000 in
theorem seneschalref03_Same.calls (k : Nat) (a0_0 : Int) (A0_1 : Option Addr) (c0_1 : Nat) (l0_1 : List (S33)) (a1_0 : Int) (A1_1 : Option Addr) (c1_1 : Nat) (l1_1 : List (S33)) (r : Bool) (w : World) (hr0_1 : Kd.C k33 w A0_1 l0_1.length l0_1) (hc0_1 : l0_1.length ≤ c0_1) (hr1_1 : Kd.C k33 w A1_1 l1_1.length l1_1) (hc1_1 : l1_1.length ≤ c1_1) (h : seneschalref03_Same.f k a0_0 l0_1 a1_0 l1_1 = some r) :
  Calls Try.prog 42 #[.agg #[.int .i64 a0_0, .slice A0_1 l0_1.length c0_1], .agg #[.int .i64 a1_0, .slice A1_1 l1_1.length c1_1]] w fun e w' => e = .returned (.bool r) ∧ Below w.heap.size w w' := by
 have hu24 := Try.underlying24
 have hu33 := Try.underlying33
 have HR0_1 := Aside0.mk hr0_1
 have HC0_1 := Aside0.mk hc0_1
 clear hr0_1 hc0_1
 have HR1_1 := Aside0.mk hr1_1
 have HC1_1 := Aside0.mk hc1_1
 clear hr1_1 hc1_1
 have HB := Aside0.mk (Below.refl w.heap.size w)
 have H : (if a0_0 = a1_0 then (seneschalref03_Same.j0 k ((l0_1.length : Int) != (l1_1.length : Int)) a0_0 l0_1 a1_0 l1_1) else (seneschalref03_Same.j0 k true a0_0 l0_1 a1_0 l1_1)) = some r := h
 clear h
 have HC3 := Aside0.mk H
 clear H
 go_enter Try.func42, Try.ntmps42
 go_upto_region 1 with (first | ((with_reducible refine gate_dst (N := 2) rfl ?_); (try (refine gate_guard (by rfl) ?_; dsimp only)); refine box_event ?hg (N := 2) ?hd (cs := #[.int .i64 a0_0, .slice A0_1 l0_1.length c0_1]) (t := 24) ?hr ?_; (case hd => rfl); (case hg => rfl); (case hr => first | (go_simp; done) | (go_simp; rfl)); intro gb101 hg w4 hbox hb; have n0_ := Aside0.mk (below_step (by repeat (first | (with_reducible first | exact HB.out | apply below_alloc | apply pw_below_drewN | apply below_drew1) | exact HB.out)) hb); have n1_ := Aside0.mk (hbox); have n2_ := Aside0.mk ((by rw [hg]; exact (below_size (by repeat (first | (with_reducible first | exact HB.out | apply below_alloc | apply pw_below_drewN | apply below_drew1) | exact HB.out))) : w.heap.size ≤ gb101)); have n3_ := Aside0.mk ((by rw [hg]; exact (below_size (by repeat (first | (with_reducible first | exact HB.out | apply below_alloc | apply pw_below_drewN | apply below_drew1) | exact HB.out))) : w.heap.size ≤ gb101)); clear HB; have HB := n0_; have BK101 := n1_; have GW101 := n2_; have GE101 := n3_; clear n0_ n1_ n2_ n3_; clear hb hbox hg) | ((with_reducible refine gate_dst (N := 3) rfl ?_); (try (refine gate_guard (by rfl) ?_; dsimp only)); refine box_event ?hg (N := 3) ?hd (cs := #[.int .i64 a1_0, .slice A1_1 l1_1.length c1_1]) (t := 24) ?hr ?_; (case hd => rfl); (case hg => rfl); (case hr => first | (go_simp; done) | (go_simp; rfl)); intro gb102 hg w5 hbox hb; have n0_ := Aside0.mk (blk_below (g := gb101) (o := .cells #[.int .i64 a0_0, .slice A0_1 l0_1.length c0_1] 24 (0, 0)) (by (with_reducible repeat (first | refine blk_drewN ?_ _ | refine blk_drew ?_ | refine blk_alloc ?_ _)); exact BK101.out) hb); have n1_ := Aside0.mk (below_step (by repeat (first | (with_reducible first | exact HB.out | apply below_alloc | apply pw_below_drewN | apply below_drew1 | refine below_set ?_ GE101.out) | exact HB.out)) hb); have n2_ := Aside0.mk (hbox); have n3_ := Aside0.mk ((by rw [hg]; exact (below_size (by repeat (first | (with_reducible first | exact HB.out | apply below_alloc | apply pw_below_drewN | apply below_drew1 | refine below_set ?_ GE101.out) | exact HB.out))) : w.heap.size ≤ gb102)); have n4_ := Aside0.mk ((by rw [hg]; exact (below_size (by repeat (first | (with_reducible first | exact HB.out | apply below_alloc | apply pw_below_drewN | apply below_drew1 | refine below_set ?_ GE101.out) | exact HB.out))) : w.heap.size ≤ gb102)); have n5_ := Aside0.mk ((by rw [hg]; exact Nat.ne_of_lt (blk_lt (g := gb101) (o := .cells #[.int .i64 a0_0, .slice A0_1 l0_1.length c0_1] 24 (0, 0)) (by (with_reducible repeat (first | refine blk_drewN ?_ _ | refine blk_drew ?_ | refine blk_alloc ?_ _)); exact BK101.out)) : gb101 ≠ gb102)); have n6_ := Aside0.mk ((by rw [hg]; exact Nat.ne_of_gt (blk_lt (g := gb101) (o := .cells #[.int .i64 a0_0, .slice A0_1 l0_1.length c0_1] 24 (0, 0)) (by (with_reducible repeat (first | refine blk_drewN ?_ _ | refine blk_drew ?_ | refine blk_alloc ?_ _)); exact BK101.out)) : gb102 ≠ gb101)); clear BK101; clear HB; have BK101 := n0_; have HB := n1_; have BK102 := n2_; have GW102 := n3_; have GE102 := n4_; have NB101_102 := n5_; have NB102_101 := n6_; clear n0_ n1_ n2_ n3_ n4_ n5_ n6_; clear hb hbox hg))
 repeat (go_quiet (first | ((with_reducible refine gate_dst (N := 2) rfl ?_); (try (refine gate_guard (by rfl) ?_; dsimp only)); refine box_event ?hg (N := 2) ?hd (cs := #[.int .i64 a0_0, .slice A0_1 l0_1.length c0_1]) (t := 24) ?hr ?_; (case hd => rfl); (case hg => rfl); (case hr => first | (go_simp; done) | (go_simp; rfl)); intro gb101 hg w4 hbox hb; have n0_ := Aside0.mk (below_step (by repeat (first | (with_reducible first | exact HB.out | apply below_alloc | apply pw_below_drewN | apply below_drew1) | exact HB.out)) hb); have n1_ := Aside0.mk (hbox); have n2_ := Aside0.mk ((by rw [hg]; exact (below_size (by repeat (first | (with_reducible first | exact HB.out | apply below_alloc | apply pw_below_drewN | apply below_drew1) | exact HB.out))) : w.heap.size ≤ gb101)); have n3_ := Aside0.mk ((by rw [hg]; exact (below_size (by repeat (first | (with_reducible first | exact HB.out | apply below_alloc | apply pw_below_drewN | apply below_drew1) | exact HB.out))) : w.heap.size ≤ gb101)); clear HB; have HB := n0_; have BK101 := n1_; have GW101 := n2_; have GE101 := n3_; clear n0_ n1_ n2_ n3_; clear hb hbox hg) | ((with_reducible refine gate_dst (N := 3) rfl ?_); (try (refine gate_guard (by rfl) ?_; dsimp only)); refine box_event ?hg (N := 3) ?hd (cs := #[.int .i64 a1_0, .slice A1_1 l1_1.length c1_1]) (t := 24) ?hr ?_; (case hd => rfl); (case hg => rfl); (case hr => first | (go_simp; done) | (go_simp; rfl)); intro gb102 hg w5 hbox hb; have n0_ := Aside0.mk (blk_below (g := gb101) (o := .cells #[.int .i64 a0_0, .slice A0_1 l0_1.length c0_1] 24 (0, 0)) (by (with_reducible repeat (first | refine blk_drewN ?_ _ | refine blk_drew ?_ | refine blk_alloc ?_ _)); exact BK101.out) hb); have n1_ := Aside0.mk (below_step (by repeat (first | (with_reducible first | exact HB.out | apply below_alloc | apply pw_below_drewN | apply below_drew1 | refine below_set ?_ GE101.out) | exact HB.out)) hb); have n2_ := Aside0.mk (hbox); have n3_ := Aside0.mk ((by rw [hg]; exact (below_size (by repeat (first | (with_reducible first | exact HB.out | apply below_alloc | apply pw_below_drewN | apply below_drew1 | refine below_set ?_ GE101.out) | exact HB.out))) : w.heap.size ≤ gb102)); have n4_ := Aside0.mk ((by rw [hg]; exact (below_size (by repeat (first | (with_reducible first | exact HB.out | apply below_alloc | apply pw_below_drewN | apply below_drew1 | refine below_set ?_ GE101.out) | exact HB.out))) : w.heap.size ≤ gb102)); have n5_ := Aside0.mk ((by rw [hg]; exact Nat.ne_of_lt (blk_lt (g := gb101) (o := .cells #[.int .i64 a0_0, .slice A0_1 l0_1.length c0_1] 24 (0, 0)) (by (with_reducible repeat (first | refine blk_drewN ?_ _ | refine blk_drew ?_ | refine blk_alloc ?_ _)); exact BK101.out)) : gb101 ≠ gb102)); have n6_ := Aside0.mk ((by rw [hg]; exact Nat.ne_of_gt (blk_lt (g := gb101) (o := .cells #[.int .i64 a0_0, .slice A0_1 l0_1.length c0_1] 24 (0, 0)) (by (with_reducible repeat (first | refine blk_drewN ?_ _ | refine blk_drew ?_ | refine blk_alloc ?_ _)); exact BK101.out)) : gb102 ≠ gb101)); clear BK101; clear HB; have BK101 := n0_; have HB := n1_; have BK102 := n2_; have GW102 := n3_; have GE102 := n4_; have NB101_102 := n5_; have NB102_101 := n6_; clear n0_ n1_ n2_ n3_ n4_ n5_ n6_; clear hb hbox hg)); go_upto_region 1 with (first | ((with_reducible refine gate_dst (N := 2) rfl ?_); (try (refine gate_guard (by rfl) ?_; dsimp only)); refine box_event ?hg (N := 2) ?hd (cs := #[.int .i64 a0_0, .slice A0_1 l0_1.length c0_1]) (t := 24) ?hr ?_; (case hd => rfl); (case hg => rfl); (case hr => first | (go_simp; done) | (go_simp; rfl)); intro gb101 hg w4 hbox hb; have n0_ := Aside0.mk (below_step (by repeat (first | (with_reducible first | exact HB.out | apply below_alloc | apply pw_below_drewN | apply below_drew1) | exact HB.out)) hb); have n1_ := Aside0.mk (hbox); have n2_ := Aside0.mk ((by rw [hg]; exact (below_size (by repeat (first | (with_reducible first | exact HB.out | apply below_alloc | apply pw_below_drewN | apply below_drew1) | exact HB.out))) : w.heap.size ≤ gb101)); have n3_ := Aside0.mk ((by rw [hg]; exact (below_size (by repeat (first | (with_reducible first | exact HB.out | apply below_alloc | apply pw_below_drewN | apply below_drew1) | exact HB.out))) : w.heap.size ≤ gb101)); clear HB; have HB := n0_; have BK101 := n1_; have GW101 := n2_; have GE101 := n3_; clear n0_ n1_ n2_ n3_; clear hb hbox hg) | ((with_reducible refine gate_dst (N := 3) rfl ?_); (try (refine gate_guard (by rfl) ?_; dsimp only)); refine box_event ?hg (N := 3) ?hd (cs := #[.int .i64 a1_0, .slice A1_1 l1_1.length c1_1]) (t := 24) ?hr ?_; (case hd => rfl); (case hg => rfl); (case hr => first | (go_simp; done) | (go_simp; rfl)); intro gb102 hg w5 hbox hb; have n0_ := Aside0.mk (blk_below (g := gb101) (o := .cells #[.int .i64 a0_0, .slice A0_1 l0_1.length c0_1] 24 (0, 0)) (by (with_reducible repeat (first | refine blk_drewN ?_ _ | refine blk_drew ?_ | refine blk_alloc ?_ _)); exact BK101.out) hb); have n1_ := Aside0.mk (below_step (by repeat (first | (with_reducible first | exact HB.out | apply below_alloc | apply pw_below_drewN | apply below_drew1 | refine below_set ?_ GE101.out) | exact HB.out)) hb); have n2_ := Aside0.mk (hbox); have n3_ := Aside0.mk ((by rw [hg]; exact (below_size (by repeat (first | (with_reducible first | exact HB.out | apply below_alloc | apply pw_below_drewN | apply below_drew1 | refine below_set ?_ GE101.out) | exact HB.out))) : w.heap.size ≤ gb102)); have n4_ := Aside0.mk ((by rw [hg]; exact (below_size (by repeat (first | (with_reducible first | exact HB.out | apply below_alloc | apply pw_below_drewN | apply below_drew1 | refine below_set ?_ GE101.out) | exact HB.out))) : w.heap.size ≤ gb102)); have n5_ := Aside0.mk ((by rw [hg]; exact Nat.ne_of_lt (blk_lt (g := gb101) (o := .cells #[.int .i64 a0_0, .slice A0_1 l0_1.length c0_1] 24 (0, 0)) (by (with_reducible repeat (first | refine blk_drewN ?_ _ | refine blk_drew ?_ | refine blk_alloc ?_ _)); exact BK101.out)) : gb101 ≠ gb102)); have n6_ := Aside0.mk ((by rw [hg]; exact Nat.ne_of_gt (blk_lt (g := gb101) (o := .cells #[.int .i64 a0_0, .slice A0_1 l0_1.length c0_1] 24 (0, 0)) (by (with_reducible repeat (first | refine blk_drewN ?_ _ | refine blk_drew ?_ | refine blk_alloc ?_ _)); exact BK101.out)) : gb102 ≠ gb101)); clear BK101; clear HB; have BK101 := n0_; have HB := n1_; have BK102 := n2_; have GW102 := n3_; have GE102 := n4_; have NB101_102 := n5_; have NB102_101 := n6_; clear n0_ n1_ n2_ n3_ n4_ n5_ n6_; clear hb hbox hg)))
 (try simp only [Act.put, List.setIfInBounds_toArray, List.set_cons_zero, List.set_cons_succ])
 go_cut [19] (fun v19 wc => ∃ (kq : Nat) (x19_2 : Bool), v19 = .bool x19_2 ∧ Aside0 (seneschalref03_Same.j0 kq x19_2 a0_0 l0_1 a1_0 l1_1 = some r) ∧ Aside0 (kq ≤ k) ∧ Aside0 (wc.heap[gb101]? = some (.cells #[.int .i64 a0_0, (.slice A0_1 l0_1.length c0_1)] 24 (0, 0))) ∧ Aside0 (wc.heap[gb102]? = some (.cells #[.int .i64 a1_0, (.slice A1_1 l1_1.length c1_1)] 24 (0, 0))) ∧ Aside0 (Below w.heap.size w wc))
 case first =>
  have H := HC3.out
  clear HC3
  by_cases c6 : a0_0 = a1_0
  ·rw [if_pos c6] at H
   have c6b0 : (a0_0 == a1_0) = true := beq_iff_eq.mpr c6
   have c6b1 : (a0_0 != a1_0) = false := bne_eq_false_iff_eq.mpr c6
   clear c6
   (first | rw [c6b0] | (simp only [i64_w, i32_w]; rw [c6b0]) | skip)
   have H' := Aside0.mk H
   clear H
   have hnb7 := NB101_102.out
   have hnc7 := NB102_101.out
   obtain ⟨hcz8_0, hcz8_1⟩ := cl2 (W := w5) BK101.out
   obtain ⟨hfz8_0, hfz8_1⟩ := fr2 BK101.out
   obtain ⟨hcz9_0, hcz9_1⟩ := cl2 (W := w5) BK102.out
   obtain ⟨hfz9_0, hfz9_1⟩ := fr2 BK102.out
   go_wp2
   repeat (go_quiet (fail); try go_wp2)
   go_meet
   case rel => exact ⟨_, (((l0_1.length : Int) != (l1_1.length : Int))), (by first | rfl | (simp; done) | (simp [*]; done)), H', ⟨by first | omega | exact Nat.le_refl _⟩, ⟨by (with_reducible repeat (first | refine blk_drewN ?_ _ | refine blk_drew ?_ | refine blk_alloc ?_ _)); exact BK101.out⟩, ⟨by (with_reducible repeat (first | refine blk_drewN ?_ _ | refine blk_drew ?_ | refine blk_alloc ?_ _)); exact BK102.out⟩, ⟨by repeat (first | (with_reducible first | exact HB.out | apply below_alloc | apply pw_below_drewN | apply below_drew1 | refine below_set ?_ GE101.out | refine below_set ?_ GE102.out) | exact HB.out)⟩⟩
  ·rw [if_neg c6] at H
   have c6b0 : (a0_0 == a1_0) = false := beq_eq_false_iff_ne.mpr c6
   have c6b1 : (a0_0 != a1_0) = true := bne_iff_ne.mpr c6
   (first | rw [c6b0] | (simp only [i64_w, i32_w]; rw [c6b0]) | skip)
   have H' := Aside0.mk H
   clear H
   have hnb10 := NB101_102.out
   have hnc10 := NB102_101.out
   obtain ⟨hcz11_0, hcz11_1⟩ := cl2 (W := w5) BK101.out
   obtain ⟨hfz11_0, hfz11_1⟩ := fr2 BK101.out
   obtain ⟨hcz12_0, hcz12_1⟩ := cl2 (W := w5) BK102.out
   obtain ⟨hfz12_0, hfz12_1⟩ := fr2 BK102.out
   go_wp2
   repeat (go_quiet (fail); try go_wp2)
   go_meet
   case rel => exact ⟨_, (true), (by first | rfl | (simp; done) | (simp [*]; done)), H', ⟨by first | omega | exact Nat.le_refl _⟩, ⟨by (with_reducible repeat (first | refine blk_drewN ?_ _ | refine blk_drew ?_ | refine blk_alloc ?_ _)); exact BK101.out⟩, ⟨by (with_reducible repeat (first | refine blk_drewN ?_ _ | refine blk_drew ?_ | refine blk_alloc ?_ _)); exact BK102.out⟩, ⟨by repeat (first | (with_reducible first | exact HB.out | apply below_alloc | apply pw_below_drewN | apply below_drew1 | refine below_set ?_ GE101.out | refine below_set ?_ GE102.out) | exact HB.out)⟩⟩
 case rest =>
  clear HC3
  try clear c1
  try clear p2
  try clear c4
  try clear c6
  try clear c6b0
  try clear c6b1
  try clear c7
  try clear c10
  try clear hcz11_0
  try clear hcz11_1
  try clear hcz12_0
  try clear hcz12_1
  try clear hcz8_0
  try clear hcz8_1
  try clear hcz9_0
  try clear hcz9_1
  try clear hfz11_0
  try clear hfz11_1
  try clear hfz12_0
  try clear hfz12_1
  try clear hfz8_0
  try clear hfz8_1
  try clear hfz9_0
  try clear hfz9_1
  obtain ⟨kq, x19_2, rfl, HA, HJ2, BK101, BK102, HB⟩ := hcut
  cases kq with
  | zero => exact absurd HA.out (by simp [seneschalref03_Same.j0])
  | succ kj2 =>
   have H := HA.out
   clear HA
   simp only [seneschalref03_Same.j0] at H
   by_cases c13 : x19_2 = true
   ·subst c13
    have H1 : (some false) = some r := by rw [if_pos rfl] at H; exact H
    clear H
    have H := H1
    clear H1
    obtain rfl := Option.some.inj H
    go_wp2
    repeat (go_quiet (fail); try go_wp2)
    go_ret
    exact ⟨by first | rfl | (simp [errW_none, errW_some] <;> rfl) | (simp [*, errW_none, errW_some] <;> rfl), by repeat (first | (with_reducible first | exact HB.out | apply below_alloc | apply pw_below_drewN | apply below_drew1 | refine below_set ?_ GE101.out | refine below_set ?_ GE102.out) | exact HB.out)⟩
   ·replace c13 := Bool.eq_false_iff.mpr c13
    subst c13
    have H1 : (seneschalref03_Same.l0 kj2 0 a0_0 l0_1 a1_0 l1_1) = some r := by rw [if_neg (show ¬ (false = true) by decide)] at H; exact H
    clear H
    have H := H1
    clear H1
    have H' := Aside0.mk H
    clear H
    go_wp2
    repeat (go_quiet (fail); try go_wp2)
    go_loopg [5] kj2 (fun kq v5 w' => ∃ (x5_2 : Int), v5 = .int .i64 x5_2 ∧ Aside0 (seneschalref03_Same.l0 kq x5_2 a0_0 l0_1 a1_0 l1_1 = some r) ∧ Aside0 (kq ≤ kj2) ∧ Aside0 (w'.heap[gb101]? = some (.cells #[.int .i64 a0_0, (.slice A0_1 l0_1.length c0_1)] 24 (0, 0))) ∧ Aside0 (w'.heap[gb102]? = some (.cells #[.int .i64 a1_0, (.slice A1_1 l1_1.length c1_1)] 24 (0, 0))) ∧ Aside0 (Below w.heap.size w w'))
    case atStart => exact ⟨(0), (by first | rfl | (simp; done) | (simp [*]; done)), H', ⟨Nat.le_refl _⟩, ⟨by (with_reducible repeat (first | refine blk_drewN ?_ _ | refine blk_drew ?_ | refine blk_alloc ?_ _)); exact BK101.out⟩, ⟨by (with_reducible repeat (first | refine blk_drewN ?_ _ | refine blk_drew ?_ | refine blk_alloc ?_ _)); exact BK102.out⟩, ⟨by repeat (first | (with_reducible first | exact HB.out | apply below_alloc | apply pw_below_drewN | apply below_drew1 | refine below_set ?_ GE101.out | refine below_set ?_ GE102.out) | exact HB.out)⟩⟩
    case round =>
     clear H'
     try clear c1
     try clear p2
     try clear c4
     try clear c6
     try clear c6b0
     try clear c6b1
     try clear c7
     try clear c10
     try clear c13
     try clear hcz11_0
     try clear hcz11_1
     try clear hcz12_0
     try clear hcz12_1
     try clear hcz8_0
     try clear hcz8_1
     try clear hcz9_0
     try clear hcz9_1
     try clear hfz11_0
     try clear hfz11_1
     try clear hfz12_0
     try clear hfz12_1
     try clear hfz8_0
     try clear hfz8_1
     try clear hfz9_0
     try clear hfz9_1
     try clear p2
     obtain ⟨x5_2, rfl, HA, HK2, BK101, BK102, HB⟩ := hrel
     cases gk with
     | zero => exact absurd HA.out (by simp [seneschalref03_Same.l0])
     | succ k2 =>
      have H := HA.out
      clear HA
      simp only [seneschalref03_Same.l0] at H
      by_cases c14 : x5_2 < (l0_1.length : Int)
      ·rw [if_pos c14] at H
       have c14b0 : decide (x5_2 < (l0_1.length : Int)) = true := decide_eq_true c14
       clear c14
       by_cases c15 : 0 ≤ x5_2
       ·rw [if_pos c15] at H
        have c15b0 : decide (0 ≤ x5_2) = true := decide_eq_true c15
        clear c15
        by_cases c16 : x5_2 < (l1_1.length : Int)
        ·rw [if_pos c16] at H
         have c16b0 : decide (x5_2 < (l1_1.length : Int)) = true := decide_eq_true c16
         clear c16
         by_cases c17 : (!(((rd_T33 l0_1 x5_2).f0) == ((rd_T33 l1_1 x5_2).f0)) || (!((((rd_T33 l0_1 x5_2).f1).toList) == (((rd_T33 l1_1 x5_2).f1).toList)))) = true
         ·rw [if_pos c17] at H
          have c17b0 : (!(((rd_T33 l0_1 x5_2).f0) == ((rd_T33 l1_1 x5_2).f0)) || (!((((rd_T33 l0_1 x5_2).f1).toList) == (((rd_T33 l1_1 x5_2).f1).toList)))) = true := c17
          clear c17
          obtain rfl := Option.some.inj H
          have hnb18 := NB101_102.out
          have hnc18 := NB102_101.out
          obtain ⟨hcz19_0, hcz19_1⟩ := cl2 (W := wr) BK101.out
          obtain ⟨hfz19_0, hfz19_1⟩ := fr2 BK101.out
          have p103 : 0 ≤ (x5_2 : Int) := of_decide_eq_true (by first | (with_reducible assumption) | assumption)
          have q103 : x5_2 < (l0_1.length : Int) := of_decide_eq_true (by first | (with_reducible assumption) | assumption)
          obtain ⟨ad103, e103, hx103_0, hx103_1⟩ := at_T33 HR0_1.out x5_2 p103 q103
          cases e103
          replace hx103_0 := (HB.out.cell (World.block_lt_of_cell? w _ hx103_0)).trans hx103_0
          replace hx103_1 := (HB.out.cell (World.block_lt_of_cell? w _ hx103_1)).trans hx103_1
          replace p103 := eq_true p103
          replace q103 := eq_true q103
          obtain ⟨hcz20_0, hcz20_1⟩ := cl2 (W := wr) BK102.out
          obtain ⟨hfz20_0, hfz20_1⟩ := fr2 BK102.out
          have p104 : 0 ≤ (x5_2 : Int) := of_decide_eq_true (by first | (with_reducible assumption) | assumption)
          have q104 : x5_2 < (l1_1.length : Int) := of_decide_eq_true (by first | (with_reducible assumption) | assumption)
          obtain ⟨ad104, e104, hx104_0, hx104_1⟩ := at_T33 HR1_1.out x5_2 p104 q104
          cases e104
          replace hx104_0 := (HB.out.cell (World.block_lt_of_cell? w _ hx104_0)).trans hx104_0
          replace hx104_1 := (HB.out.cell (World.block_lt_of_cell? w _ hx104_1)).trans hx104_1
          replace p104 := eq_true p104
          replace q104 := eq_true q104
          go_wp2
          repeat (go_quiet (fail); try go_wp2)
          go_ret
          exact ⟨by first | rfl | (simp [errW_none, errW_some] <;> rfl) | (simp [*, errW_none, errW_some] <;> rfl), by repeat (first | (with_reducible first | exact HB.out | apply below_alloc | apply pw_below_drewN | apply below_drew1 | refine below_set ?_ GE101.out | refine below_set ?_ GE102.out) | exact HB.out)⟩
         ·rw [if_neg c17] at H
          have c17b0 : (!(((rd_T33 l0_1 x5_2).f0) == ((rd_T33 l1_1 x5_2).f0)) || (!((((rd_T33 l0_1 x5_2).f1).toList) == (((rd_T33 l1_1 x5_2).f1).toList)))) = false := by simpa using c17
          clear c17
          have H' := Aside0.mk H
          clear H
          have hnb21 := NB101_102.out
          have hnc21 := NB102_101.out
          obtain ⟨hcz22_0, hcz22_1⟩ := cl2 (W := wr) BK101.out
          obtain ⟨hfz22_0, hfz22_1⟩ := fr2 BK101.out
          have p103 : 0 ≤ (x5_2 : Int) := of_decide_eq_true (by first | (with_reducible assumption) | assumption)
          have q103 : x5_2 < (l0_1.length : Int) := of_decide_eq_true (by first | (with_reducible assumption) | assumption)
          obtain ⟨ad103, e103, hx103_0, hx103_1⟩ := at_T33 HR0_1.out x5_2 p103 q103
          cases e103
          replace hx103_0 := (HB.out.cell (World.block_lt_of_cell? w _ hx103_0)).trans hx103_0
          replace hx103_1 := (HB.out.cell (World.block_lt_of_cell? w _ hx103_1)).trans hx103_1
          replace p103 := eq_true p103
          replace q103 := eq_true q103
          obtain ⟨hcz23_0, hcz23_1⟩ := cl2 (W := wr) BK102.out
          obtain ⟨hfz23_0, hfz23_1⟩ := fr2 BK102.out
          have p104 : 0 ≤ (x5_2 : Int) := of_decide_eq_true (by first | (with_reducible assumption) | assumption)
          have q104 : x5_2 < (l1_1.length : Int) := of_decide_eq_true (by first | (with_reducible assumption) | assumption)
          obtain ⟨ad104, e104, hx104_0, hx104_1⟩ := at_T33 HR1_1.out x5_2 p104 q104
          cases e104
          replace hx104_0 := (HB.out.cell (World.block_lt_of_cell? w _ hx104_0)).trans hx104_0
          replace hx104_1 := (HB.out.cell (World.block_lt_of_cell? w _ hx104_1)).trans hx104_1
          replace p104 := eq_true p104
          replace q104 := eq_true q104
          go_wp2
          repeat (go_quiet (fail); try go_wp2)
          go_roundg k2
          case measure => have := HJ2.out; have := HK2.out; omega
          case rel => exact ⟨(wrap64 (x5_2 + 1)), (by first | rfl | (simp; done) | (simp [*]; done)), H', ⟨by have := HJ2.out; have := HK2.out; omega⟩, ⟨by (with_reducible repeat (first | refine blk_drewN ?_ _ | refine blk_drew ?_ | refine blk_alloc ?_ _)); exact BK101.out⟩, ⟨by (with_reducible repeat (first | refine blk_drewN ?_ _ | refine blk_drew ?_ | refine blk_alloc ?_ _)); exact BK102.out⟩, ⟨by repeat (first | (with_reducible first | exact HB.out | apply below_alloc | apply pw_below_drewN | apply below_drew1 | refine below_set ?_ GE101.out | refine below_set ?_ GE102.out) | exact HB.out)⟩⟩
        ·rw [if_neg c16] at H
         exact absurd H (by simp)
       ·rw [if_neg c15] at H
        exact absurd H (by simp)
      ·rw [if_neg c14] at H
       have c14b0 : decide (x5_2 < (l0_1.length : Int)) = false := decide_eq_false c14
       clear c14
       obtain rfl := Option.some.inj H
       have hnb24 := NB101_102.out
       have hnc24 := NB102_101.out
       obtain ⟨hcz25_0, hcz25_1⟩ := cl2 (W := wr) BK101.out
       obtain ⟨hfz25_0, hfz25_1⟩ := fr2 BK101.out
       go_wp2
       repeat (go_quiet (fail); try go_wp2)
       go_ret
       exact ⟨by first | rfl | (simp [errW_none, errW_some] <;> rfl) | (simp [*, errW_none, errW_some] <;> rfl), by repeat (first | (with_reducible first | exact HB.out | apply below_alloc | apply pw_below_drewN | apply below_drew1 | refine below_set ?_ GE101.out | refine below_set ?_ GE102.out) | exact HB.out)⟩
end Go.Proofs.Ytfjmnaobfbmllaa.M
namespace Go.Proofs.Ytfjmnaobfbmllaa.M
open Go.RowKit Go.Proofs.YtfjmnaobfbmllaaW.PrintWords Go.Proofs.YtfjmnaobfbmllaaW.PrintLast Go.Proofs.YtfjmnaobfbmllaaW.PrintMore
set_option linter.unusedVariables false
set_option linter.unusedSimpArgs false
def sameP (a : Int) (l : List S33) (b : Int) (m : List S33) : Bool := decide (a = b ∧ l = m)
theorem same_loop (a b : Int) (l m : List S33) (he : l.length = m.length) (hl : l.length ≤ 4611686018427387904) (d : Nat) : ∀ (k i : Nat), i + d = l.length → d < k →
    seneschalref03_Same.l0 k i a l b m = some (decide (l.drop i = m.drop i)) := by
  induction d with
  | zero =>
    intro k i hi hk
    obtain ⟨k, rfl⟩ : ∃ m, k = m + 1 := ⟨k - 1, by omega⟩
    simp only [seneschalref03_Same.l0]
    rw [if_neg (by omega), List.drop_of_length_le (by omega), List.drop_of_length_le (by omega)]; rfl
  | succ d ih =>
    intro k i hi hk
    obtain ⟨k, rfl⟩ : ∃ m, k = m + 1 := ⟨k - 1, by omega⟩
    have hlt : i < l.length := by omega
    simp only [seneschalref03_Same.l0]
    have := ih k (i + 1) (by omega) (by omega)
    rw [show ((i + 1 : Nat) : Int) = (i : Int) + 1 by omega] at this
    have hm : i < m.length := by omega
    have c1 : (i : Int) < (l.length : Int) := by omega
    have c2 : (0 : Int) ≤ (i : Int) := by omega
    have c3 : (i : Int) < (m.length : Int) := by omega
    rw [if_pos c1, if_pos c2, if_pos c3, rd33 l i hlt, rd33 m i hm, w64 ((i : Int) + 1) (by omega) (by omega), this,
      List.drop_eq_getElem_cons hlt, List.drop_eq_getElem_cons hm]
    have hs := s33_ne l[i] m[i]
    by_cases h : l[i] = m[i]
    · rw [if_neg (fun e => hs.mp e h)]
      exact congrArg some (decide_eq_decide.mpr ⟨fun e => by rw [h, e], fun e => (List.cons.inj e).2⟩)
    · rw [if_pos (hs.mpr h), decide_eq_false (fun e => h (List.cons.inj e).1)]
theorem same_pure (a b : Int) (l m : List S33) (k : Nat) (hl : l.length ≤ 4611686018427387904) (hk : l.length + 1 < k) : seneschalref03_Same.f k a l b m = some (sameP a l b m) := by
  obtain ⟨k, rfl⟩ : ∃ m, k = m + 1 := ⟨k - 1, by omega⟩
  unfold seneschalref03_Same.f sameP
  simp only [seneschalref03_Same.j0]
  by_cases h : a = b
  · rw [if_pos h]
    by_cases h2 : l.length = m.length
    · rw [if_neg (by simp; omega)]
      have := same_loop a b l m h2 hl l.length k 0 (by omega) (by omega)
      simpa [h] using this
    · rw [if_pos (by simp; omega)]
      have : l ≠ m := fun e => h2 (by rw [e])
      simp [this]
  · rw [if_neg h]; simp [h]
def refSame.f (a : Int) (l : List S33) (b : Int) (m : List S33) : Option Bool := if l.length ≤ 4611686018427387904 then some (sameP a l b m) else none
theorem refSame.calls (a : Int) (A : Option Addr) (c : Nat) (l : List S33) (b : Int) (B : Option Addr) (d : Nat) (m : List S33) (r : Bool) (w : World) (hr : Kd.C k33 w A l.length l) (hc : l.length ≤ c) (hr2 : Kd.C k33 w B m.length m) (hd : m.length ≤ d) (h : refSame.f a l b m = some r) :
    Calls Try.prog 42 #[.agg #[.int .i64 a, .slice A l.length c], .agg #[.int .i64 b, .slice B m.length d]] w fun e w' => e = .returned (.bool r) ∧ Below w.heap.size w w' := by
  unfold refSame.f at h
  split at h
  · rename_i hl
    exact seneschalref03_Same.calls (l.length + 2) a A c l b B d m r w hr hc hr2 hd (by rw [same_pure a b l m _ hl (by omega)]; exact h)
  · cases h
end Go.Proofs.Ytfjmnaobfbmllaa.M
namespace Go.Proofs.Ytfjmnaobfbmllaa.M
open Go.RowKit Go.Proofs.YtfjmnaobfbmllaaW.PrintWords Go.Proofs.YtfjmnaobfbmllaaW.PrintLast Go.Proofs.YtfjmnaobfbmllaaW.PrintMore
attribute [local go_sem] max2_int min2_int max_two min_two max_three min_three max_four min_four   -- for this text's walks alone
set_option linter.unusedVariables false
set_option linter.unusedSimpArgs false
def seneschallaw05_PatchParts.f (a0_0 : Int) (l0_1 : List (S33)) (l1 : List (S65)) (a2 : Int) : Option (Bool) := (awake5.f).bind fun t102 => (if t102 = true then ((great5.f a0_0 l0_1 l1).bind fun t103 => (if t103 = true then (some true) else (if (IntKind.u64.wrap (wrap64 ((l1.length : Int) + 1))) = 0 then (none) else ((patAll.f a0_0 l0_1 0 l1).bind fun bt104 => (if 0 ≤ (wrap64 (Int.tmod (IntKind.u64.wrap (a2)) (IntKind.u64.wrap (wrap64 ((l1.length : Int) + 1))))) then (if (wrap64 (Int.tmod (IntKind.u64.wrap (a2)) (IntKind.u64.wrap (wrap64 ((l1.length : Int) + 1))))) ≤ (l1.length : Int) then ((patAll.f a0_0 l0_1 0 (l1.take ((wrap64 (Int.tmod (IntKind.u64.wrap (a2)) (IntKind.u64.wrap (wrap64 ((l1.length : Int) + 1))))) : Int).toNat)).bind fun bt114 => (if bt114.2.2 = 0 then ((patAll.f bt114.1 bt114.2.1 0 (l1.drop ((wrap64 (Int.tmod (IntKind.u64.wrap (a2)) (IntKind.u64.wrap (wrap64 ((l1.length : Int) + 1))))) : Int).toNat)).bind fun bt124 => (if bt104.2.2 = bt124.2.2 then ((refSame.f bt124.1 bt124.2.1 bt104.1 bt104.2.1).bind fun t130 => (some t130)) else (some false))) else (some (bt104.2.2 == bt114.2.2)))) else (none)) else (none)))))) else (some false))
def seneschallaw05_PatchParts.T7 : Bool × List (List Nat × List Nat) := (true, [([], []), ([], []), ([], []), ([1, 2], [1, 2]), ([0, 3], [0, 3]), ([4], [4]), ([5], [5]), ([5], [5]), ([], []), ([8, 6, 4, 0, 1, 2, 3, 4, 5, 6, 8], [6, 8]), ([7, 9, 0, 1, 2, 3, 4, 5, 6, 7, 8, 9], [7])])
def seneschallaw05_PatchParts.B7 : List Nat := [0, 0, 0, 6, 15, 31, 63, 63, 0, 383, 1023]
theorem seneschallaw05_PatchParts.tab7 : rtab .any (opsOf Try.f22 7) = seneschallaw05_PatchParts.T7 := by kernel_rfl
theorem seneschallaw05_PatchParts.bits7 : waitsOk seneschallaw05_PatchParts.T7.2 seneschallaw05_PatchParts.B7 = true := by kernel_rfl
def seneschallaw05_PatchParts.T10 : Bool × List (List Nat × List Nat) := (true, [([], []), ([], []), ([], []), ([1, 2], [1, 2]), ([0, 3], [0, 3]), ([4], [4]), ([5], [5]), ([5], [5]), ([], []), ([8, 6, 4, 0, 1, 2, 3, 4, 5, 6, 8], [6, 8]), ([7, 9, 0, 1, 2, 3, 4, 5, 6, 7, 8, 9], [7])])
def seneschallaw05_PatchParts.B10 : List Nat := [0, 0, 0, 6, 15, 31, 63, 63, 0, 383, 1023]
theorem seneschallaw05_PatchParts.tab10 : rtab .any (opsOf Try.f22 10) = seneschallaw05_PatchParts.T10 := by kernel_rfl
theorem seneschallaw05_PatchParts.bits10 : waitsOk seneschallaw05_PatchParts.T10.2 seneschallaw05_PatchParts.B10 = true := by kernel_rfl
set_option maxHeartbeats 8000000 in
set_option maxRecDepth 100000 in
theorem seneschallaw05_PatchParts.calls (a0_0 : Int) (A0_1 : Option Addr) (c0_1 : Nat) (l0_1 : List (S33)) (A1 : Option Addr) (c1 : Nat) (l1 : List (S65)) (a2 : Int) (r : Bool) (hrt : r = true) (w : World) (hr0_1 : Kd.C k33 w A0_1 l0_1.length l0_1) (hc0_1 : l0_1.length ≤ c0_1) (hr1 : Kd.C k65 w A1 l1.length l1) (hc1 : l1.length ≤ c1) (h : seneschallaw05_PatchParts.f a0_0 l0_1 l1 a2 = some r) :
  Calls Try.prog 22 #[.agg #[.int .i64 a0_0, .slice A0_1 l0_1.length c0_1], .slice A1 l1.length c1, .int .i64 a2] w fun e w' => e = .returned (.bool r) ∧ Below w.heap.size w w' := by
 have HRT := Aside0.mk hrt
 clear hrt
 have hu24 := Try.underlying24
 have HR0_1 := Aside0.mk hr0_1
 have HC0_1 := Aside0.mk hc0_1
 clear hr0_1 hc0_1
 have HR1 := Aside0.mk hr1
 have HC1 := Aside0.mk hc1
 clear hr1 hc1
 have HB := Aside0.mk (Below.refl w.heap.size w)
 have H : ((awake5.f).bind fun t102 => (if t102 = true then ((great5.f a0_0 l0_1 l1).bind fun t103 => (if t103 = true then (some true) else (if (IntKind.u64.wrap (wrap64 ((l1.length : Int) + 1))) = 0 then (none) else ((patAll.f a0_0 l0_1 0 l1).bind fun bt104 => (if 0 ≤ (wrap64 (Int.tmod (IntKind.u64.wrap (a2)) (IntKind.u64.wrap (wrap64 ((l1.length : Int) + 1))))) then (if (wrap64 (Int.tmod (IntKind.u64.wrap (a2)) (IntKind.u64.wrap (wrap64 ((l1.length : Int) + 1))))) ≤ (l1.length : Int) then ((patAll.f a0_0 l0_1 0 (l1.take ((wrap64 (Int.tmod (IntKind.u64.wrap (a2)) (IntKind.u64.wrap (wrap64 ((l1.length : Int) + 1))))) : Int).toNat)).bind fun bt114 => (if bt114.2.2 = 0 then ((patAll.f bt114.1 bt114.2.1 0 (l1.drop ((wrap64 (Int.tmod (IntKind.u64.wrap (a2)) (IntKind.u64.wrap (wrap64 ((l1.length : Int) + 1))))) : Int).toNat)).bind fun bt124 => (if bt104.2.2 = bt124.2.2 then ((refSame.f bt124.1 bt124.2.1 bt104.1 bt104.2.1).bind fun t130 => (some t130)) else (some false))) else (some (bt104.2.2 == bt114.2.2)))) else (none)) else (none)))))) else (some false))) = some r := h
 clear h
 replace H := Option.bind_eq_some_iff.mp H
 obtain ⟨t102, A40, H⟩ := H
 replace H : (if t102 = true then ((great5.f a0_0 l0_1 l1).bind fun t103 => (if t103 = true then (some true) else (if (IntKind.u64.wrap (wrap64 ((l1.length : Int) + 1))) = 0 then (none) else ((patAll.f a0_0 l0_1 0 l1).bind fun bt104 => (if 0 ≤ (wrap64 (Int.tmod (IntKind.u64.wrap (a2)) (IntKind.u64.wrap (wrap64 ((l1.length : Int) + 1))))) then (if (wrap64 (Int.tmod (IntKind.u64.wrap (a2)) (IntKind.u64.wrap (wrap64 ((l1.length : Int) + 1))))) ≤ (l1.length : Int) then ((patAll.f a0_0 l0_1 0 (l1.take ((wrap64 (Int.tmod (IntKind.u64.wrap (a2)) (IntKind.u64.wrap (wrap64 ((l1.length : Int) + 1))))) : Int).toNat)).bind fun bt114 => (if bt114.2.2 = 0 then ((patAll.f bt114.1 bt114.2.1 0 (l1.drop ((wrap64 (Int.tmod (IntKind.u64.wrap (a2)) (IntKind.u64.wrap (wrap64 ((l1.length : Int) + 1))))) : Int).toNat)).bind fun bt124 => (if bt104.2.2 = bt124.2.2 then ((refSame.f bt124.1 bt124.2.1 bt104.1 bt104.2.1).bind fun t130 => (some t130)) else (some false))) else (some (bt104.2.2 == bt114.2.2)))) else (none)) else (none)))))) else (some false)) = some r := H
 have A4 := Aside0.mk A40
 clear A40
 by_cases c5 : t102 = true
 ·subst c5
  have H1 : ((great5.f a0_0 l0_1 l1).bind fun t103 => (if t103 = true then (some true) else (if (IntKind.u64.wrap (wrap64 ((l1.length : Int) + 1))) = 0 then (none) else ((patAll.f a0_0 l0_1 0 l1).bind fun bt104 => (if 0 ≤ (wrap64 (Int.tmod (IntKind.u64.wrap (a2)) (IntKind.u64.wrap (wrap64 ((l1.length : Int) + 1))))) then (if (wrap64 (Int.tmod (IntKind.u64.wrap (a2)) (IntKind.u64.wrap (wrap64 ((l1.length : Int) + 1))))) ≤ (l1.length : Int) then ((patAll.f a0_0 l0_1 0 (l1.take ((wrap64 (Int.tmod (IntKind.u64.wrap (a2)) (IntKind.u64.wrap (wrap64 ((l1.length : Int) + 1))))) : Int).toNat)).bind fun bt114 => (if bt114.2.2 = 0 then ((patAll.f bt114.1 bt114.2.1 0 (l1.drop ((wrap64 (Int.tmod (IntKind.u64.wrap (a2)) (IntKind.u64.wrap (wrap64 ((l1.length : Int) + 1))))) : Int).toNat)).bind fun bt124 => (if bt104.2.2 = bt124.2.2 then ((refSame.f bt124.1 bt124.2.1 bt104.1 bt104.2.1).bind fun t130 => (some t130)) else (some false))) else (some (bt104.2.2 == bt114.2.2)))) else (none)) else (none)))))) = some r := by rw [if_pos rfl] at H; exact H
  clear H
  have H := H1
  clear H1
  replace H := Option.bind_eq_some_iff.mp H
  obtain ⟨t103, A60, H⟩ := H
  replace H : (if t103 = true then (some true) else (if (IntKind.u64.wrap (wrap64 ((l1.length : Int) + 1))) = 0 then (none) else ((patAll.f a0_0 l0_1 0 l1).bind fun bt104 => (if 0 ≤ (wrap64 (Int.tmod (IntKind.u64.wrap (a2)) (IntKind.u64.wrap (wrap64 ((l1.length : Int) + 1))))) then (if (wrap64 (Int.tmod (IntKind.u64.wrap (a2)) (IntKind.u64.wrap (wrap64 ((l1.length : Int) + 1))))) ≤ (l1.length : Int) then ((patAll.f a0_0 l0_1 0 (l1.take ((wrap64 (Int.tmod (IntKind.u64.wrap (a2)) (IntKind.u64.wrap (wrap64 ((l1.length : Int) + 1))))) : Int).toNat)).bind fun bt114 => (if bt114.2.2 = 0 then ((patAll.f bt114.1 bt114.2.1 0 (l1.drop ((wrap64 (Int.tmod (IntKind.u64.wrap (a2)) (IntKind.u64.wrap (wrap64 ((l1.length : Int) + 1))))) : Int).toNat)).bind fun bt124 => (if bt104.2.2 = bt124.2.2 then ((refSame.f bt124.1 bt124.2.1 bt104.1 bt104.2.1).bind fun t130 => (some t130)) else (some false))) else (some (bt104.2.2 == bt114.2.2)))) else (none)) else (none))))) = some r := H
  have A6 := Aside0.mk A60
  clear A60
  by_cases c7 : t103 = true
  ·subst c7
   have H1 : (some true) = some r := by rw [if_pos rfl] at H; exact H
   clear H
   have H := H1
   clear H1
   obtain rfl := Option.some.inj H
   go_enter Try.func22, Try.ntmps22
   go_wp2_with (first | ((with_reducible refine gate_dst (N := 3) rfl ?_); refine box_event ?hg (N := 3) ?hd (cs := #[.int .i64 a0_0, .slice A0_1 l0_1.length c0_1]) (t := 24) ?hr ?_; (case hd => rfl); (case hg => rfl); (case hr => first | (go_simp; done) | (go_simp; rfl)); intro gb101 hg w8 hbox hb; have n0_ := Aside0.mk (below_step (by repeat (first | (with_reducible first | exact HB.out | apply below_alloc | apply pw_below_drewN | apply below_drew1) | exact HB.out)) hb); have n1_ := Aside0.mk (hbox); have n2_ := Aside0.mk ((by rw [hg]; exact (below_size (by repeat (first | (with_reducible first | exact HB.out | apply below_alloc | apply pw_below_drewN | apply below_drew1) | exact HB.out))) : w.heap.size ≤ gb101)); have n3_ := Aside0.mk ((by rw [hg]; exact (below_size (by repeat (first | (with_reducible first | exact HB.out | apply below_alloc | apply pw_below_drewN | apply below_drew1) | exact HB.out))) : w.heap.size ≤ gb101)); clear HB; have HB := n0_; have BK101 := n1_; have GW101 := n2_; have GE101 := n3_; clear n0_ n1_ n2_ n3_; clear hb hbox hg) | ((with_reducible refine gate_callee (f := 65) rfl ?_); refine goesL_ (some 14) rfl rfl Try.func65 (by kernel_rfl) rfl #[] rfl (by (try simp only [List.map_toArray, List.map_cons, List.map_nil]); first | done | rfl | (simp only [List.length_drop, List.length_take]; rfl)) ?_; (with_reducible refine (awake5.calls  true _ A4.out).mono ?_); rintro e w9 ⟨rfl, hb⟩; refine ⟨_, rfl, ?_⟩; have n0_ := Aside0.mk (blk_below (g := gb101) (o := .cells #[.int .i64 a0_0, .slice A0_1 l0_1.length c0_1] 24 (0, 0)) (by (with_reducible repeat (first | refine blk_drewN ?_ _ | refine blk_drew ?_ | refine blk_alloc ?_ _)); exact BK101.out) hb); have n1_ := Aside0.mk (below_step (by repeat (first | (with_reducible first | exact HB.out | apply below_alloc | apply pw_below_drewN | apply below_drew1 | refine below_set ?_ GE101.out) | exact HB.out)) hb); clear BK101; clear HB; have BK101 := n0_; have HB := n1_; clear n0_ n1_; (try clear hb); (try clear hb2); (try clear hk); (try clear hi); obtain ⟨hcz10_0, hcz10_1⟩ := cl2 (W := w9) BK101.out; obtain ⟨hfz10_0, hfz10_1⟩ := fr2 BK101.out) | ((with_reducible refine gate_callee (f := 66) rfl ?_); refine goesL_ (some 18) rfl rfl Try.func66 (by kernel_rfl) rfl #[.agg #[.int .i64 a0_0, .slice A0_1 l0_1.length c0_1], .slice A1 l1.length c1] rfl (by (try simp only [List.map_toArray, List.map_cons, List.map_nil]); first | done | rfl | (simp only [List.length_drop, List.length_take]; rfl)) ?_; (with_reducible refine (great5.calls a0_0 _ _ l0_1 _ _ l1 true _ ?side1 ?side2 ?side3 ?side4 A6.out).mono ?_); (case side1 => repeat (first | exact (Kd.C_below HR0_1.out HB.out) | (with_reducible refine Kd.C_alloc ?_ _) | (with_reducible refine Kd.C_drewN ?_ _) | (with_reducible refine Kd.C_drew ?_))); (case side2 => exact HC0_1.out); (case side3 => repeat (first | exact (Kd.C_below HR1.out HB.out) | (with_reducible refine Kd.C_alloc ?_ _) | (with_reducible refine Kd.C_drewN ?_ _) | (with_reducible refine Kd.C_drew ?_))); (case side4 => exact HC1.out); rintro e w11 ⟨rfl, hb⟩; refine ⟨_, rfl, ?_⟩; have n0_ := Aside0.mk (blk_below (g := gb101) (o := .cells #[.int .i64 a0_0, .slice A0_1 l0_1.length c0_1] 24 (0, 0)) (by (with_reducible repeat (first | refine blk_drewN ?_ _ | refine blk_drew ?_ | refine blk_alloc ?_ _)); exact BK101.out) hb); have n1_ := Aside0.mk (below_step (by repeat (first | (with_reducible first | exact HB.out | apply below_alloc | apply pw_below_drewN | apply below_drew1 | refine below_set ?_ GE101.out) | exact HB.out)) hb); clear BK101; clear HB; have BK101 := n0_; have HB := n1_; clear n0_ n1_; (try clear hb); (try clear hb2); (try clear hk); (try clear hi)))
   go_ret
   exact ⟨by first | rfl | (simp [errW_none, errW_some] <;> rfl) | (simp [*, errW_none, errW_some] <;> rfl), by repeat (first | (with_reducible first | exact HB.out | apply below_alloc | apply pw_below_drewN | apply below_drew1 | refine below_set ?_ GE101.out) | exact HB.out)⟩
  ·replace c7 := Bool.eq_false_iff.mpr c7
   subst c7
   have H1 : (if (IntKind.u64.wrap (wrap64 ((l1.length : Int) + 1))) = 0 then (none) else ((patAll.f a0_0 l0_1 0 l1).bind fun bt104 => (if 0 ≤ (wrap64 (Int.tmod (IntKind.u64.wrap (a2)) (IntKind.u64.wrap (wrap64 ((l1.length : Int) + 1))))) then (if (wrap64 (Int.tmod (IntKind.u64.wrap (a2)) (IntKind.u64.wrap (wrap64 ((l1.length : Int) + 1))))) ≤ (l1.length : Int) then ((patAll.f a0_0 l0_1 0 (l1.take ((wrap64 (Int.tmod (IntKind.u64.wrap (a2)) (IntKind.u64.wrap (wrap64 ((l1.length : Int) + 1))))) : Int).toNat)).bind fun bt114 => (if bt114.2.2 = 0 then ((patAll.f bt114.1 bt114.2.1 0 (l1.drop ((wrap64 (Int.tmod (IntKind.u64.wrap (a2)) (IntKind.u64.wrap (wrap64 ((l1.length : Int) + 1))))) : Int).toNat)).bind fun bt124 => (if bt104.2.2 = bt124.2.2 then ((refSame.f bt124.1 bt124.2.1 bt104.1 bt104.2.1).bind fun t130 => (some t130)) else (some false))) else (some (bt104.2.2 == bt114.2.2)))) else (none)) else (none)))) = some r := by rw [if_neg (show ¬ (false = true) by decide)] at H; exact H
   clear H
   have H := H1
   clear H1
   by_cases c12 : (IntKind.u64.wrap (wrap64 ((l1.length : Int) + 1))) = 0
   ·rw [if_pos c12] at H
    exact absurd H (by simp)
   ·rw [if_neg c12] at H
    have c12b0 : ((IntKind.u64.wrap (wrap64 ((l1.length : Int) + 1))) == 0) = false := beq_eq_false_iff_ne.mpr c12
    have c12b1 : ((IntKind.u64.wrap (wrap64 ((l1.length : Int) + 1))) != 0) = true := bne_iff_ne.mpr c12
    replace H := Option.bind_eq_some_iff.mp H
    obtain ⟨⟨t104, t105, t108⟩, A130, H⟩ := H
    replace H : (if 0 ≤ (wrap64 (Int.tmod (IntKind.u64.wrap (a2)) (IntKind.u64.wrap (wrap64 ((l1.length : Int) + 1))))) then (if (wrap64 (Int.tmod (IntKind.u64.wrap (a2)) (IntKind.u64.wrap (wrap64 ((l1.length : Int) + 1))))) ≤ (l1.length : Int) then ((patAll.f a0_0 l0_1 0 (l1.take ((wrap64 (Int.tmod (IntKind.u64.wrap (a2)) (IntKind.u64.wrap (wrap64 ((l1.length : Int) + 1))))) : Int).toNat)).bind fun bt114 => (if bt114.2.2 = 0 then ((patAll.f bt114.1 bt114.2.1 0 (l1.drop ((wrap64 (Int.tmod (IntKind.u64.wrap (a2)) (IntKind.u64.wrap (wrap64 ((l1.length : Int) + 1))))) : Int).toNat)).bind fun bt124 => (if t108 = bt124.2.2 then ((refSame.f bt124.1 bt124.2.1 t104 t105).bind fun t130 => (some t130)) else (some false))) else (some (t108 == bt114.2.2)))) else (none)) else (none)) = some r := H
    have A13 := Aside0.mk A130
    clear A130
    obtain ⟨ji14, hji14⟩ : ∃ j_ : Int, (wrap64 (Int.tmod (IntKind.u64.wrap (a2)) (IntKind.u64.wrap (wrap64 ((l1.length : Int) + 1))))) = j_ := ⟨_, rfl⟩
    replace H : (if 0 ≤ (ji14) then (if (ji14) ≤ (l1.length : Int) then ((patAll.f a0_0 l0_1 0 (l1.take ((ji14) : Int).toNat)).bind fun bt114 => (if bt114.2.2 = 0 then ((patAll.f bt114.1 bt114.2.1 0 (l1.drop ((ji14) : Int).toNat)).bind fun bt124 => (if t108 = bt124.2.2 then ((refSame.f bt124.1 bt124.2.1 t104 t105).bind fun t130 => (some t130)) else (some false))) else (some (t108 == bt114.2.2)))) else (none)) else (none)) = some r := by first | (rw [hji14] at H; exact H) | (simp only [hji14] at H ⊢; exact H)
    (try rw [hji14] at A4)
    (try rw [hji14] at A6)
    (try rw [hji14] at A13)
    have hji14w : (IntKind.i64.wrap (Int.tmod (IntKind.u64.wrap (a2)) (IntKind.u64.wrap (wrap64 ((l1.length : Int) + 1))))) = ji14 := (i64_w _).trans hji14
    by_cases c15 : 0 ≤ (ji14)
    ·rw [if_pos c15] at H
     have c15b0 := eq_true c15
     have c15b1 : decide (0 ≤ (ji14)) = true := decide_eq_true c15
     clear c15
     by_cases c16 : (ji14) ≤ (l1.length : Int)
     ·rw [if_pos c16] at H
      have c16b0 := eq_true c16
      have c16b1 : decide ((ji14) ≤ (l1.length : Int)) = true := decide_eq_true c16
      clear c16
      obtain ⟨y110, hy110⟩ : ∃ y_ : List (S65), y_ = (l1.take ((ji14) : Int).toNat) := ⟨_, rfl⟩
      replace H : ((patAll.f a0_0 l0_1 0 y110).bind fun bt114 => (if bt114.2.2 = 0 then ((patAll.f bt114.1 bt114.2.1 0 (l1.drop ((ji14) : Int).toNat)).bind fun bt124 => (if t108 = bt124.2.2 then ((refSame.f bt124.1 bt124.2.1 t104 t105).bind fun t130 => (some t130)) else (some false))) else (some (t108 == bt114.2.2)))) = some r := by first | (rw [hy110]; with_reducible exact H) | (have H2_ := (Option.bind_some _ _).symm.trans H; rw [hy110]; with_reducible exact H2_) | (have H2_ := (Option.bind_some _ _).symm.trans H; with_reducible exact H2_) | with_reducible exact H | (rw [hy110]; exact H) | exact H
      have Ny110 := Aside0.mk hy110
      clear hy110
      replace H := Option.bind_eq_some_iff.mp H
      obtain ⟨⟨t114, t115, t118⟩, A170, H⟩ := H
      replace H : (if t118 = 0 then ((patAll.f t114 t115 0 (l1.drop ((ji14) : Int).toNat)).bind fun bt124 => (if t108 = bt124.2.2 then ((refSame.f bt124.1 bt124.2.1 t104 t105).bind fun t130 => (some t130)) else (some false))) else (some (t108 == t118))) = some r := H
      have A17 := Aside0.mk A170
      clear A170
      by_cases c18 : t118 = 0
      ·rw [if_pos c18] at H
       have c18b0 : (t118 == 0) = true := beq_iff_eq.mpr c18
       have c18b1 : (t118 != 0) = false := bne_eq_false_iff_eq.mpr c18
       clear c18
       have c19b0 := eq_true (of_decide_eq_true (by first | (with_reducible assumption) | assumption) : 0 ≤ (ji14))
       have c20b0 := eq_true (of_decide_eq_true (by first | (with_reducible assumption) | assumption) : (ji14) ≤ (l1.length : Int))
       obtain ⟨y120, hy120⟩ : ∃ y_ : List (S65), y_ = (l1.drop ((ji14) : Int).toNat) := ⟨_, rfl⟩
       replace H : ((patAll.f t114 t115 0 y120).bind fun bt124 => (if t108 = bt124.2.2 then ((refSame.f bt124.1 bt124.2.1 t104 t105).bind fun t130 => (some t130)) else (some false))) = some r := by first | (rw [hy120]; with_reducible exact H) | (have H2_ := (Option.bind_some _ _).symm.trans H; rw [hy120]; with_reducible exact H2_) | (have H2_ := (Option.bind_some _ _).symm.trans H; with_reducible exact H2_) | with_reducible exact H | (rw [hy120]; exact H) | exact H
       have Ny120 := Aside0.mk hy120
       clear hy120
       replace H := Option.bind_eq_some_iff.mp H
       obtain ⟨⟨t124, t125, t128⟩, A210, H⟩ := H
       replace H : (if t108 = t128 then ((refSame.f t124 t125 t104 t105).bind fun t130 => (some t130)) else (some false)) = some r := H
       have A21 := Aside0.mk A210
       clear A210
       by_cases c22 : t108 = t128
       ·rw [if_pos c22] at H
        have c22b0 : (t108 == t128) = true := beq_iff_eq.mpr c22
        have c22b1 : (t108 != t128) = false := bne_eq_false_iff_eq.mpr c22
        clear c22
        replace H := Option.bind_eq_some_iff.mp H
        obtain ⟨t130, A230, H⟩ := H
        replace H : (some t130) = some r := H
        have A23 := Aside0.mk A230
        clear A230
        obtain rfl := Option.some.inj H
        go_enter Try.func22, Try.ntmps22
        try go_wp2_with (first | ((with_reducible refine gate_dst (N := 3) rfl ?_); refine box_event ?hg (N := 3) ?hd (cs := #[.int .i64 a0_0, .slice A0_1 l0_1.length c0_1]) (t := 24) ?hr ?_; (case hd => rfl); (case hg => rfl); (case hr => first | (go_simp; done) | (go_simp; rfl)); intro gb101 hg w24 hbox hb; have n0_ := Aside0.mk (below_step (by repeat (first | (with_reducible first | exact HB.out | apply below_alloc | apply pw_below_drewN | apply below_drew1) | exact HB.out)) hb); have n1_ := Aside0.mk (hbox); have n2_ := Aside0.mk ((by rw [hg]; exact (below_size (by repeat (first | (with_reducible first | exact HB.out | apply below_alloc | apply pw_below_drewN | apply below_drew1) | exact HB.out))) : w.heap.size ≤ gb101)); have n3_ := Aside0.mk ((by rw [hg]; exact (below_size (by repeat (first | (with_reducible first | exact HB.out | apply below_alloc | apply pw_below_drewN | apply below_drew1) | exact HB.out))) : w.heap.size ≤ gb101)); clear HB; have HB := n0_; have BK101 := n1_; have GW101 := n2_; have GE101 := n3_; clear n0_ n1_ n2_ n3_; clear hb hbox hg) | ((with_reducible refine gate_callee (f := 65) rfl ?_); refine goesL_ (some 14) rfl rfl Try.func65 (by kernel_rfl) rfl #[] rfl (by (try simp only [List.map_toArray, List.map_cons, List.map_nil]); first | done | rfl | (simp only [List.length_drop, List.length_take]; rfl)) ?_; (with_reducible refine (awake5.calls  true _ A4.out).mono ?_); rintro e w25 ⟨rfl, hb⟩; refine ⟨_, rfl, ?_⟩; have n0_ := Aside0.mk (blk_below (g := gb101) (o := .cells #[.int .i64 a0_0, .slice A0_1 l0_1.length c0_1] 24 (0, 0)) (by (with_reducible repeat (first | refine blk_drewN ?_ _ | refine blk_drew ?_ | refine blk_alloc ?_ _)); exact BK101.out) hb); have n1_ := Aside0.mk (below_step (by repeat (first | (with_reducible first | exact HB.out | apply below_alloc | apply pw_below_drewN | apply below_drew1 | refine below_set ?_ GE101.out) | exact HB.out)) hb); clear BK101; clear HB; have BK101 := n0_; have HB := n1_; clear n0_ n1_; (try clear hb); (try clear hb2); (try clear hk); (try clear hi); obtain ⟨hcz26_0, hcz26_1⟩ := cl2 (W := w25) BK101.out; obtain ⟨hfz26_0, hfz26_1⟩ := fr2 BK101.out) | ((with_reducible refine gate_callee (f := 66) rfl ?_); refine goesL_ (some 18) rfl rfl Try.func66 (by kernel_rfl) rfl #[.agg #[.int .i64 a0_0, .slice A0_1 l0_1.length c0_1], .slice A1 l1.length c1] rfl (by (try simp only [List.map_toArray, List.map_cons, List.map_nil]); first | done | rfl | (simp only [List.length_drop, List.length_take]; rfl)) ?_; (with_reducible refine (great5.calls a0_0 _ _ l0_1 _ _ l1 false _ ?side1 ?side2 ?side3 ?side4 A6.out).mono ?_); (case side1 => repeat (first | exact (Kd.C_below HR0_1.out HB.out) | (with_reducible refine Kd.C_alloc ?_ _) | (with_reducible refine Kd.C_drewN ?_ _) | (with_reducible refine Kd.C_drew ?_))); (case side2 => exact HC0_1.out); (case side3 => repeat (first | exact (Kd.C_below HR1.out HB.out) | (with_reducible refine Kd.C_alloc ?_ _) | (with_reducible refine Kd.C_drewN ?_ _) | (with_reducible refine Kd.C_drew ?_))); (case side4 => exact HC1.out); rintro e w27 ⟨rfl, hb⟩; refine ⟨_, rfl, ?_⟩; have n0_ := Aside0.mk (blk_below (g := gb101) (o := .cells #[.int .i64 a0_0, .slice A0_1 l0_1.length c0_1] 24 (0, 0)) (by (with_reducible repeat (first | refine blk_drewN ?_ _ | refine blk_drew ?_ | refine blk_alloc ?_ _)); exact BK101.out) hb); have n1_ := Aside0.mk (below_step (by repeat (first | (with_reducible first | exact HB.out | apply below_alloc | apply pw_below_drewN | apply below_drew1 | refine below_set ?_ GE101.out) | exact HB.out)) hb); clear BK101; clear HB; have BK101 := n0_; have HB := n1_; clear n0_ n1_; (try clear hb); (try clear hb2); (try clear hk); (try clear hi); obtain ⟨hcz28_0, hcz28_1⟩ := cl2 (W := w27) BK101.out; obtain ⟨hfz28_0, hfz28_1⟩ := fr2 BK101.out) | ((with_reducible refine gate_callee (f := 71) rfl ?_); refine goesL_ (some 30) rfl rfl Try.func71 (by kernel_rfl) rfl #[.agg #[.int .i64 a0_0, .slice A0_1 l0_1.length c0_1], .int .i64 0, .slice A1 l1.length c1] rfl (by (try simp only [List.map_toArray, List.map_cons, List.map_nil]); first | done | rfl | (simp only [List.length_drop, List.length_take]; rfl)) ?_; (with_reducible refine (patAll.calls a0_0 _ _ l0_1 0 _ _ l1 t104 t105 t108 _ ?side1 ?side2 ?side3 ?side4 A13.out).mono ?_); (case side1 => repeat (first | exact (Kd.C_below HR0_1.out HB.out) | (with_reducible refine Kd.C_alloc ?_ _) | (with_reducible refine Kd.C_drewN ?_ _) | (with_reducible refine Kd.C_drew ?_))); (case side2 => exact HC0_1.out); (case side3 => repeat (first | exact (Kd.C_below HR1.out HB.out) | (with_reducible refine Kd.C_alloc ?_ _) | (with_reducible refine Kd.C_drewN ?_ _) | (with_reducible refine Kd.C_drew ?_))); (case side4 => exact HC1.out); rintro e w29 ⟨v106, rfl, ho0, hb⟩; refine ⟨_, rfl, ?_⟩; have n0_ := Aside0.mk (Kd.R_lower ho0 (below_size (by repeat (first | (with_reducible first | exact HB.out | apply below_alloc | apply pw_below_drewN | apply below_drew1 | refine below_set ?_ GE101.out) | exact HB.out)))); have n1_ := Aside0.mk (blk_below (g := gb101) (o := .cells #[.int .i64 a0_0, .slice A0_1 l0_1.length c0_1] 24 (0, 0)) (by (with_reducible repeat (first | refine blk_drewN ?_ _ | refine blk_drew ?_ | refine blk_alloc ?_ _)); exact BK101.out) hb); have n2_ := Aside0.mk (below_step (by repeat (first | (with_reducible first | exact HB.out | apply below_alloc | apply pw_below_drewN | apply below_drew1 | refine below_set ?_ GE101.out) | exact HB.out)) hb); clear BK101; clear HB; have HO107 := n0_; have BK101 := n1_; have HB := n2_; clear n0_ n1_ n2_; (try clear hb); (try clear hb2); (try clear hk); (try clear hi); (try clear ho0)) | ((with_reducible refine gate_dst (N := 8) rfl ?_); refine box_event ?hg (N := 8) ?hd (cs := #[.int .i64 0, .slice none 0 0]) (t := 24) ?hr ?_; (case hd => rfl); (case hg => rfl); (case hr => first | (go_simp; done) | (go_simp; rfl)); intro gb109 hg w30 hbox hb; have n0_ := Aside0.mk (Kd.R_below (by (with_reducible repeat (first | apply Kd.R_alloc | apply Kd.R_drewN | apply Kd.R_drew)); exact HO107.out) hb); have n1_ := Aside0.mk (blk_below (g := gb101) (o := .cells #[.int .i64 a0_0, .slice A0_1 l0_1.length c0_1] 24 (0, 0)) (by (with_reducible repeat (first | refine blk_drewN ?_ _ | refine blk_drew ?_ | refine blk_alloc ?_ _)); exact BK101.out) hb); have n2_ := Aside0.mk (below_step (by repeat (first | (with_reducible first | exact HB.out | apply below_alloc | apply pw_below_drewN | apply below_drew1 | refine below_set ?_ GE101.out) | exact HB.out)) hb); have n3_ := Aside0.mk (hbox); have n4_ := Aside0.mk ((by rw [hg]; exact (below_size (by repeat (first | (with_reducible first | exact HB.out | apply below_alloc | apply pw_below_drewN | apply below_drew1 | refine below_set ?_ GE101.out) | exact HB.out))) : w.heap.size ≤ gb109)); have n5_ := Aside0.mk ((by rw [hg]; exact (below_size (by repeat (first | (with_reducible first | exact HB.out | apply below_alloc | apply pw_below_drewN | apply below_drew1 | refine below_set ?_ GE101.out) | exact HB.out))) : w.heap.size ≤ gb109)); have n6_ := Aside0.mk ((by rw [hg]; exact Nat.ne_of_lt (blk_lt (g := gb101) (o := .cells #[.int .i64 a0_0, .slice A0_1 l0_1.length c0_1] 24 (0, 0)) (by (with_reducible repeat (first | refine blk_drewN ?_ _ | refine blk_drew ?_ | refine blk_alloc ?_ _)); exact BK101.out)) : gb101 ≠ gb109)); have n7_ := Aside0.mk ((by rw [hg]; exact Nat.ne_of_gt (blk_lt (g := gb101) (o := .cells #[.int .i64 a0_0, .slice A0_1 l0_1.length c0_1] 24 (0, 0)) (by (with_reducible repeat (first | refine blk_drewN ?_ _ | refine blk_drew ?_ | refine blk_alloc ?_ _)); exact BK101.out)) : gb109 ≠ gb101)); clear HO107; clear BK101; clear HB; have HO107 := n0_; have BK101 := n1_; have HB := n2_; have BK109 := n3_; have GW109 := n4_; have GE109 := n5_; have NB101_109 := n6_; have NB109_101 := n7_; clear n0_ n1_ n2_ n3_ n4_ n5_ n6_ n7_; clear hb hbox hg; have hnb31 := NB109_101.out; have hnc31 := NB101_109.out; obtain ⟨hcz32_0, hcz32_1⟩ := cl2 (W := w30) BK109.out; obtain ⟨hfz32_0, hfz32_1⟩ := fr2 BK109.out; obtain ⟨Ao33, co33, eo33⟩ := Kd.R_slice HO107.out; subst eo33))
        have n0_ : Aside0 (Kd.R k33 33 ((w30.setCell ⟨gb109, 0, none⟩ (.int .i64 t104)).setCell ⟨gb109, 1, none⟩ (.slice Ao33 t105.length co33)) w.heap.size (fun _ => True) (.slice Ao33 t105.length co33) t105) := ⟨by (with_reducible repeat (first | apply Kd.R_alloc | apply Kd.R_drewN | apply Kd.R_drew)); exact Kd.R_mono (Kd.R_far (p := ⟨gb109, 1, none⟩) (Kd.R_far (p := ⟨gb109, 0, none⟩) (Kd.R_types HO107.out BK109.out (by decide)) (fun _ hk => hk.2) (.int .i64 t104)) (fun _ hk => hk.2) (.slice Ao33 t105.length co33)) (fun _ hk => trivial)⟩
        have n1_ : Aside0 (((w30.setCell ⟨gb109, 0, none⟩ (.int .i64 t104)).setCell ⟨gb109, 1, none⟩ (.slice Ao33 t105.length co33)).heap[gb101]? = some (.cells #[.int .i64 a0_0, .slice A0_1 l0_1.length c0_1] 24 (0, 0))) := ⟨by (with_reducible repeat (first | refine blk_drewN ?_ _ | refine blk_drew ?_ | refine blk_alloc ?_ _)); refine blk_far ?_ NB101_109.out _; refine blk_far ?_ NB101_109.out _; (with_reducible repeat (first | refine blk_drewN ?_ _ | refine blk_drew ?_ | refine blk_alloc ?_ _)); exact BK101.out⟩
        have n2_ : Aside0 (((w30.setCell ⟨gb109, 0, none⟩ (.int .i64 t104)).setCell ⟨gb109, 1, none⟩ (.slice Ao33 t105.length co33)).heap[gb109]? = some (.cells #[.int .i64 t104, .slice Ao33 t105.length co33] 24 (0, 0))) := ⟨by (with_reducible repeat (first | refine blk_drewN ?_ _ | refine blk_drew ?_ | refine blk_alloc ?_ _)); refine blk_put (cs := #[.int .i64 t104, .slice none 0 0]) ?_ 1 _ rfl; refine blk_put (cs := #[.int .i64 0, .slice none 0 0]) ?_ 0 _ rfl; (with_reducible repeat (first | refine blk_drewN ?_ _ | refine blk_drew ?_ | refine blk_alloc ?_ _)); exact BK109.out⟩
        have n3_ : Aside0 (Below w.heap.size w ((w30.setCell ⟨gb109, 0, none⟩ (.int .i64 t104)).setCell ⟨gb109, 1, none⟩ (.slice Ao33 t105.length co33))) := ⟨by repeat (first | (with_reducible first | exact HB.out | apply below_alloc | apply pw_below_drewN | apply below_drew1 | refine below_set ?_ GE101.out | refine below_set ?_ GE109.out) | exact HB.out)⟩
        (try clear HO107)
        (try clear BK101)
        (try clear BK109)
        (try clear HB)
        generalize ((w30.setCell ⟨gb109, 0, none⟩ (.int .i64 t104)).setCell ⟨gb109, 1, none⟩ (.slice Ao33 t105.length co33)) = w34 at n0_ n1_ n2_ n3_ ⊢
        have HO107 := n0_
        have BK101 := n1_
        have BK109 := n2_
        have HB := n3_
        clear n0_ n1_ n2_ n3_
        have n0_ := Aside0.mk (Kd.R_drew HO107.out)
        have n1_ := Aside0.mk (blk_drew BK101.out)
        have n2_ := Aside0.mk (blk_drew BK109.out)
        have n3_ := Aside0.mk (below_drew1 HB.out)
        clear HO107
        clear BK101
        clear BK109
        clear HB
        have HO107 := n0_
        have BK101 := n1_
        have BK109 := n2_
        have HB := n3_
        clear n0_ n1_ n2_ n3_
        have q36 : ((ji14) : Int) ≤ ((l1.length : Int) : Int) := of_decide_eq_true (by first | (with_reducible assumption) | assumption)
        obtain ⟨i036, hi036, _, hsz36, _⟩ := info_parts info65
        have hroom36 : l1.length ≤ c1 := HC1.out
        have hC36 : Kd.C k65 _ A1 l1.length l1 := HR1.out
        have hcut36 := cut_to (P := Try.prog) 53 65 .i64 Try.underlying53 hi036 A1 l1.length c1 (ji14) (of_decide_eq_true (by first | (with_reducible assumption) | assumption)) q36 hroom36
        have hr36 := Kd.C_take (m := ((ji14) : Int).toNat) hC36 (by omega)
        have hy36 : y110.length = ((ji14) : Int).toNat := (by rw [Ny110.out, List.length_take]; omega)
        rw [← Ny110.out] at hr36
        rw [← hy36] at hcut36
        have HR113 := Aside0.mk hr36
        have HC113 := Aside0.mk (show y110.length ≤ c1 from by omega)
        clear hr36 hC36 hroom36 hi036 hsz36
        have KY36 := Aside0.mk hy36
        clear hy36
        replace q36 := eq_true q36
        refine start_ (n := 11) (S := fun w' => w'.cell? ⟨gb101, 0, none⟩ = some (.int .i64 a0_0) ∧ w'.cell? ⟨gb101, 1, none⟩ = some (.slice A0_1 l0_1.length c0_1)) (ds := []) #[false, false, false, false, false, false, false, false, false, false, false] (by kernel_rfl) rfl rfl ⟨(blk_cell BK101.out 0).trans rfl, (blk_cell BK101.out 1).trans rfl⟩ (fun hHeld => ?_); refine with_tabW seneschallaw05_PatchParts.tab7 seneschallaw05_PatchParts.bits7 (fun HT_ HW_ => ?_)
        generalize w34.drew = w35 at HO107 BK101 BK109 HB HR113 hHeld ⊢
        refine pure_ (i := 1) (N := some 35) (v := ?_) (a' := ?_) #[false, true, false, false, false, false, false, false, false, false, false] rfl rfl (any_of HT_.out (by kernel_rfl)) (fun _ _ _ h => h) (Or.inl ⟨by rfl, ?_⟩) ?_ ?_
        rotate_left
        ·intro w'
         go_simp
         with_reducible rfl
        rotate_left
        ·simp only [Act.put, List.setIfInBounds_toArray, List.set_cons_zero, List.set_cons_succ, i64_w, i32_w]
         rfl
        refine pure_ (i := 2) (N := some 36) (v := ?_) (a' := ?_) #[false, true, true, false, false, false, false, false, false, false, false] rfl rfl (any_of HT_.out (by kernel_rfl)) (fun _ _ _ h => h) (Or.inl ⟨by rfl, ?_⟩) ?_ ?_
        rotate_left
        ·intro w'
         go_simp
         with_reducible rfl
        rotate_left
        ·simp only [Act.put, List.setIfInBounds_toArray, List.set_cons_zero, List.set_cons_succ, i64_w, i32_w]
         rfl
        refine pure_ (i := 3) (N := some 37) (v := ?_) (a' := ?_) #[false, true, true, true, false, false, false, false, false, false, false] rfl rfl (any_of HT_.out (by kernel_rfl)) (fun _ _ _ h => h) (Or.inl ⟨by rfl, ?_⟩) ?_ ?_
        rotate_left
        ·intro w'
         go_simp
         with_reducible rfl
        rotate_left
        ·simp only [Act.put, List.setIfInBounds_toArray, List.set_cons_zero, List.set_cons_succ, i64_w, i32_w]
         rfl
        refine take_ (i := 0) (N := some 34) (v := ?_) (a' := ?_) #[true, true, true, true, false, false, false, false, false, false, false] rfl rfl (take_ofW HT_.out HW_.out (by kernel_rfl)) (fun _ _ _ h => h) (Or.inl ⟨by rfl, ?_⟩) hHeld ?_ ?_
        rotate_left
        ·rintro w' ⟨s0, s1⟩
         go_simp
         with_reducible rfl
        rotate_left
        ·simp only [Act.put, List.setIfInBounds_toArray, List.set_cons_zero, List.set_cons_succ, i64_w, i32_w]
         rfl
        refine join_ (σ := Value × Nat) 2 #[true, true, true, true, true, true, true, true, true, false, false] (fun s_ => [(38, .tuple #[.agg #[.int .i64 t114, s_.1], .int .i64 t118]), (10, .pointer (some ⟨s_.2, 0, none⟩)), (33, .tuple #[.agg #[.int .i64 t114, s_.1], .int .i64 t118]), (39, .agg #[.int .i64 t114, s_.1]), (40, .int .i64 t118)]) (fun s_ w' => (w'.cell? ⟨gb101, 0, none⟩ = some (.int .i64 a0_0) ∧ w'.cell? ⟨gb101, 1, none⟩ = some (.slice A0_1 l0_1.length c0_1)) ∧ (Kd.R k33 33 w' w.heap.size (fun k_ => some k_ ≠ (s_.1 : Value).ownBlock) (.slice Ao33 t105.length co33) t105) ∧ (Kd.R k33 33 w' w.heap.size (fun k_ => some k_ ≠ (.slice Ao33 t105.length co33 : Value).ownBlock) s_.1 t115) ∧ (w'.heap[gb101]? = some (.cells #[.int .i64 a0_0, .slice A0_1 l0_1.length c0_1] 24 (0, 0))) ∧ (w'.heap[gb109]? = some (.cells #[.int .i64 t104, .slice Ao33 t105.length co33] 24 (0, 0))) ∧ (w'.heap[s_.2]? = some (.cells #[.int .i64 0, .slice none 0 0] 24 (0, 0))) ∧ (w.heap.size ≤ s_.2) ∧ (w.heap.size ≤ s_.2) ∧ (gb101 ≠ s_.2) ∧ (s_.2 ≠ gb101) ∧ (gb109 ≠ s_.2) ∧ (s_.2 ≠ gb109) ∧ (Below w.heap.size w w')) ?_ ?_
        rotate_left
        ·intro hCont
         refine two_ (i := 4) (j := 8) (Ni := some 38) (Nj := some 10) #[true, true, true, true, true, false, false, false, false, false, false] #[true, true, true, true, false, false, false, false, true, false, false] rfl rfl rfl rfl (two_of HT_.out (by kernel_rfl)) (by decide) (by decide) (fun K hK => ?_) (fun K hK => ?_)
         ·skip
          refine goes_ Try.func71 (by kernel_rfl) rfl #[.agg #[.int .i64 a0_0, .slice A0_1 l0_1.length c0_1], .int .i64 0, .slice A1 y110.length c1] (by rfl) rfl rfl (by (try simp only [List.map_toArray, List.map_cons, List.map_nil]); first | done | rfl | (simp only [List.length_drop, List.length_take]; rfl)) ?_
          with_reducible refine (patAll.calls a0_0 _ _ l0_1 0 _ _ y110 t114 t115 t118 _ ?side1 ?side2 ?side3 ?side4 A17.out).mono ?_
          (case side1 => repeat (first | exact (Kd.C_below HR0_1.out HB.out) | (with_reducible refine Kd.C_alloc ?_ _) | (with_reducible refine Kd.C_drewN ?_ _) | (with_reducible refine Kd.C_drew ?_)))
          (case side2 => exact HC0_1.out)
          (case side3 => repeat (first | exact (Kd.C_below HR113.out HB.out) | (with_reducible refine Kd.C_alloc ?_ _) | (with_reducible refine Kd.C_drewN ?_ _) | (with_reducible refine Kd.C_drew ?_)))
          (case side4 => exact HC113.out)
          rintro e w37 ⟨v116, rfl, ho0, hb⟩
          refine ⟨_, rfl, ?_⟩
          have n0_ := Aside0.mk (Kd.R_elder' (by (with_reducible repeat (first | apply Kd.R_alloc | apply Kd.R_drewN | apply Kd.R_drew)); exact HO107.out) (Kd.R_base ho0) hb)
          have n1_ := Aside0.mk (Kd.R_lower (Kd.R_new' ho0 (Kd.R_lt (by (with_reducible repeat (first | apply Kd.R_alloc | apply Kd.R_drewN | apply Kd.R_drew)); exact HO107.out))) (below_size (by repeat (first | (with_reducible first | exact HB.out | apply below_alloc | apply pw_below_drewN | apply below_drew1 | refine below_set ?_ GE101.out | refine below_set ?_ GE109.out) | exact HB.out))))
          have n2_ := Aside0.mk (blk_below (g := gb101) (o := .cells #[.int .i64 a0_0, .slice A0_1 l0_1.length c0_1] 24 (0, 0)) (by (with_reducible repeat (first | refine blk_drewN ?_ _ | refine blk_drew ?_ | refine blk_alloc ?_ _)); exact BK101.out) hb)
          have n3_ := Aside0.mk (blk_below (g := gb109) (o := .cells #[.int .i64 t104, .slice Ao33 t105.length co33] 24 (0, 0)) (by (with_reducible repeat (first | refine blk_drewN ?_ _ | refine blk_drew ?_ | refine blk_alloc ?_ _)); exact BK109.out) hb)
          have n4_ := Aside0.mk (below_step (by repeat (first | (with_reducible first | exact HB.out | apply below_alloc | apply pw_below_drewN | apply below_drew1 | refine below_set ?_ GE101.out | refine below_set ?_ GE109.out) | exact HB.out)) hb)
          clear HO107
          clear BK101
          clear BK109
          clear HB
          have HO107 := n0_
          have HO117 := n1_
          have BK101 := n2_
          have BK109 := n3_
          have HB := n4_
          clear n0_ n1_ n2_ n3_ n4_
          (try clear hb)
          (try clear hb2)
          (try clear hk)
          (try clear hi)
          (try clear ho0)
          refine hK.out _ _ ⟨(blk_cell BK101.out 0).trans rfl, (blk_cell BK101.out 1).trans rfl⟩ (fun hHeld => ?_)
          clear hK K
          refine norm_ (a' := ?_) ?_ ?_
          rotate_left
          ·show Act.put _ (some 38) _ = _
           simp only [Act.put, List.setIfInBounds_toArray, List.set_cons_zero, List.set_cons_succ, i64_w, i32_w]
           rfl
          refine pure_ (i := 5) (N := some 33) (v := ?_) (a' := ?_) #[true, true, true, true, true, true, false, false, false, false, false] rfl rfl (any_of HT_.out (by kernel_rfl)) (fun _ _ _ h => h) (Or.inl ⟨by rfl, ?_⟩) ?_ ?_
          rotate_left
          ·intro w'
           go_simp
           with_reducible rfl
          rotate_left
          ·simp only [Act.put, List.setIfInBounds_toArray, List.set_cons_zero, List.set_cons_succ, i64_w, i32_w]
           rfl
          refine pure_ (i := 6) (N := some 39) (v := ?_) (a' := ?_) #[true, true, true, true, true, true, true, false, false, false, false] rfl rfl (any_of HT_.out (by kernel_rfl)) (fun _ _ _ h => h) (Or.inl ⟨by rfl, ?_⟩) ?_ ?_
          rotate_left
          ·intro w'
           go_simp
           with_reducible rfl
          rotate_left
          ·simp only [Act.put, List.setIfInBounds_toArray, List.set_cons_zero, List.set_cons_succ, i64_w, i32_w]
           rfl
          refine pure_ (i := 7) (N := some 40) (v := ?_) (a' := ?_) #[true, true, true, true, true, true, true, true, false, false, false] rfl rfl (any_of HT_.out (by kernel_rfl)) (fun _ _ _ h => h) (Or.inl ⟨by rfl, ?_⟩) ?_ ?_
          rotate_left
          ·intro w'
           go_simp
           with_reducible rfl
          rotate_left
          ·simp only [Act.put, List.setIfInBounds_toArray, List.set_cons_zero, List.set_cons_succ, i64_w, i32_w]
           rfl
          refine one_ (i := 8) (N := some 10) #[true, true, true, true, true, true, true, true, true, false, false] rfl rfl (one_of HT_.out (by kernel_rfl)) (by decide) (fun K hK => ?_)
          refine box_step ?hg (N := 10) ?hd (cs := #[.int .i64 0, .slice none 0 0]) (t := 24) ?hr ?_; (case hd => rfl); (case hg => rfl); (case hr => first | (go_simp; done) | (go_simp; rfl))
          intro gb119 hg w38 hbox hb
          have n0_ := Aside0.mk (Kd.R_below (by (with_reducible repeat (first | apply Kd.R_alloc | apply Kd.R_drewN | apply Kd.R_drew)); exact HO107.out) hb)
          have n1_ := Aside0.mk (Kd.R_below (by (with_reducible repeat (first | apply Kd.R_alloc | apply Kd.R_drewN | apply Kd.R_drew)); exact HO117.out) hb)
          have n2_ := Aside0.mk (blk_below (g := gb101) (o := .cells #[.int .i64 a0_0, .slice A0_1 l0_1.length c0_1] 24 (0, 0)) (by (with_reducible repeat (first | refine blk_drewN ?_ _ | refine blk_drew ?_ | refine blk_alloc ?_ _)); exact BK101.out) hb)
          have n3_ := Aside0.mk (blk_below (g := gb109) (o := .cells #[.int .i64 t104, .slice Ao33 t105.length co33] 24 (0, 0)) (by (with_reducible repeat (first | refine blk_drewN ?_ _ | refine blk_drew ?_ | refine blk_alloc ?_ _)); exact BK109.out) hb)
          have n4_ := Aside0.mk (below_step (by repeat (first | (with_reducible first | exact HB.out | apply below_alloc | apply pw_below_drewN | apply below_drew1 | refine below_set ?_ GE101.out | refine below_set ?_ GE109.out) | exact HB.out)) hb)
          have n5_ := Aside0.mk (hbox)
          have n6_ := Aside0.mk ((by rw [hg]; exact (below_size (by repeat (first | (with_reducible first | exact HB.out | apply below_alloc | apply pw_below_drewN | apply below_drew1 | refine below_set ?_ GE101.out | refine below_set ?_ GE109.out) | exact HB.out))) : w.heap.size ≤ gb119))
          have n7_ := Aside0.mk ((by rw [hg]; exact (below_size (by repeat (first | (with_reducible first | exact HB.out | apply below_alloc | apply pw_below_drewN | apply below_drew1 | refine below_set ?_ GE101.out | refine below_set ?_ GE109.out) | exact HB.out))) : w.heap.size ≤ gb119))
          have n8_ := Aside0.mk ((by rw [hg]; exact Nat.ne_of_lt (blk_lt (g := gb101) (o := .cells #[.int .i64 a0_0, .slice A0_1 l0_1.length c0_1] 24 (0, 0)) (by (with_reducible repeat (first | refine blk_drewN ?_ _ | refine blk_drew ?_ | refine blk_alloc ?_ _)); exact BK101.out)) : gb101 ≠ gb119))
          have n9_ := Aside0.mk ((by rw [hg]; exact Nat.ne_of_gt (blk_lt (g := gb101) (o := .cells #[.int .i64 a0_0, .slice A0_1 l0_1.length c0_1] 24 (0, 0)) (by (with_reducible repeat (first | refine blk_drewN ?_ _ | refine blk_drew ?_ | refine blk_alloc ?_ _)); exact BK101.out)) : gb119 ≠ gb101))
          have n10_ := Aside0.mk ((by rw [hg]; exact Nat.ne_of_lt (blk_lt (g := gb109) (o := .cells #[.int .i64 t104, .slice Ao33 t105.length co33] 24 (0, 0)) (by (with_reducible repeat (first | refine blk_drewN ?_ _ | refine blk_drew ?_ | refine blk_alloc ?_ _)); exact BK109.out)) : gb109 ≠ gb119))
          have n11_ := Aside0.mk ((by rw [hg]; exact Nat.ne_of_gt (blk_lt (g := gb109) (o := .cells #[.int .i64 t104, .slice Ao33 t105.length co33] 24 (0, 0)) (by (with_reducible repeat (first | refine blk_drewN ?_ _ | refine blk_drew ?_ | refine blk_alloc ?_ _)); exact BK109.out)) : gb119 ≠ gb109))
          clear HO107
          clear HO117
          clear BK101
          clear BK109
          clear HB
          have HO107 := n0_
          have HO117 := n1_
          have BK101 := n2_
          have BK109 := n3_
          have HB := n4_
          have BK119 := n5_
          have GW119 := n6_
          have GE119 := n7_
          have NB101_119 := n8_
          have NB119_101 := n9_
          have NB109_119 := n10_
          have NB119_109 := n11_
          clear n0_ n1_ n2_ n3_ n4_ n5_ n6_ n7_ n8_ n9_ n10_ n11_
          clear hb hbox hg
          refine hK.out _ _ ⟨(blk_cell BK101.out 0).trans rfl, (blk_cell BK101.out 1).trans rfl⟩ (fun hHeld => ?_)
          clear hK K
          refine norm_ (a' := ?_) ?_ ?_
          rotate_left
          ·show Act.put _ (some 10) _ = _
           simp only [Act.put, List.setIfInBounds_toArray, List.set_cons_zero, List.set_cons_succ, i64_w, i32_w]
           rfl
          exact norm_ (by simp only [putAll, Act.put, List.setIfInBounds_toArray, List.set_cons_zero, List.set_cons_succ]) (hCont (v116, gb119) _ ⟨hHeld, (by (with_reducible repeat (first | apply Kd.R_alloc | apply Kd.R_drewN | apply Kd.R_drew)); exact Kd.R_mono HO107.out (fun _ hk => hk.2)), (by (with_reducible repeat (first | apply Kd.R_alloc | apply Kd.R_drewN | apply Kd.R_drew)); exact Kd.R_mono HO117.out (fun _ hk => hk.2)), (by (with_reducible repeat (first | refine blk_drewN ?_ _ | refine blk_drew ?_ | refine blk_alloc ?_ _)); exact BK101.out), (by (with_reducible repeat (first | refine blk_drewN ?_ _ | refine blk_drew ?_ | refine blk_alloc ?_ _)); exact BK109.out), (by (with_reducible repeat (first | refine blk_drewN ?_ _ | refine blk_drew ?_ | refine blk_alloc ?_ _)); exact BK119.out), GW119.out, GE119.out, NB101_119.out, NB119_101.out, NB109_119.out, NB119_109.out, (by repeat (first | (with_reducible first | exact HB.out | apply below_alloc | apply pw_below_drewN | apply below_drew1 | refine below_set ?_ GE101.out | refine below_set ?_ GE109.out | refine below_set ?_ GE119.out) | exact HB.out))⟩)
         ·skip
          refine box_step ?hg (N := 10) ?hd (cs := #[.int .i64 0, .slice none 0 0]) (t := 24) ?hr ?_; (case hd => rfl); (case hg => rfl); (case hr => first | (go_simp; done) | (go_simp; rfl))
          intro gb119 hg w37 hbox hb
          have n0_ := Aside0.mk (Kd.R_below (by (with_reducible repeat (first | apply Kd.R_alloc | apply Kd.R_drewN | apply Kd.R_drew)); exact HO107.out) hb)
          have n1_ := Aside0.mk (blk_below (g := gb101) (o := .cells #[.int .i64 a0_0, .slice A0_1 l0_1.length c0_1] 24 (0, 0)) (by (with_reducible repeat (first | refine blk_drewN ?_ _ | refine blk_drew ?_ | refine blk_alloc ?_ _)); exact BK101.out) hb)
          have n2_ := Aside0.mk (blk_below (g := gb109) (o := .cells #[.int .i64 t104, .slice Ao33 t105.length co33] 24 (0, 0)) (by (with_reducible repeat (first | refine blk_drewN ?_ _ | refine blk_drew ?_ | refine blk_alloc ?_ _)); exact BK109.out) hb)
          have n3_ := Aside0.mk (below_step (by repeat (first | (with_reducible first | exact HB.out | apply below_alloc | apply pw_below_drewN | apply below_drew1 | refine below_set ?_ GE101.out | refine below_set ?_ GE109.out) | exact HB.out)) hb)
          have n4_ := Aside0.mk (hbox)
          have n5_ := Aside0.mk ((by rw [hg]; exact (below_size (by repeat (first | (with_reducible first | exact HB.out | apply below_alloc | apply pw_below_drewN | apply below_drew1 | refine below_set ?_ GE101.out | refine below_set ?_ GE109.out) | exact HB.out))) : w.heap.size ≤ gb119))
          have n6_ := Aside0.mk ((by rw [hg]; exact (below_size (by repeat (first | (with_reducible first | exact HB.out | apply below_alloc | apply pw_below_drewN | apply below_drew1 | refine below_set ?_ GE101.out | refine below_set ?_ GE109.out) | exact HB.out))) : w.heap.size ≤ gb119))
          have n7_ := Aside0.mk ((by rw [hg]; exact Nat.ne_of_lt (blk_lt (g := gb101) (o := .cells #[.int .i64 a0_0, .slice A0_1 l0_1.length c0_1] 24 (0, 0)) (by (with_reducible repeat (first | refine blk_drewN ?_ _ | refine blk_drew ?_ | refine blk_alloc ?_ _)); exact BK101.out)) : gb101 ≠ gb119))
          have n8_ := Aside0.mk ((by rw [hg]; exact Nat.ne_of_gt (blk_lt (g := gb101) (o := .cells #[.int .i64 a0_0, .slice A0_1 l0_1.length c0_1] 24 (0, 0)) (by (with_reducible repeat (first | refine blk_drewN ?_ _ | refine blk_drew ?_ | refine blk_alloc ?_ _)); exact BK101.out)) : gb119 ≠ gb101))
          have n9_ := Aside0.mk ((by rw [hg]; exact Nat.ne_of_lt (blk_lt (g := gb109) (o := .cells #[.int .i64 t104, .slice Ao33 t105.length co33] 24 (0, 0)) (by (with_reducible repeat (first | refine blk_drewN ?_ _ | refine blk_drew ?_ | refine blk_alloc ?_ _)); exact BK109.out)) : gb109 ≠ gb119))
          have n10_ := Aside0.mk ((by rw [hg]; exact Nat.ne_of_gt (blk_lt (g := gb109) (o := .cells #[.int .i64 t104, .slice Ao33 t105.length co33] 24 (0, 0)) (by (with_reducible repeat (first | refine blk_drewN ?_ _ | refine blk_drew ?_ | refine blk_alloc ?_ _)); exact BK109.out)) : gb119 ≠ gb109))
          clear HO107
          clear BK101
          clear BK109
          clear HB
          have HO107 := n0_
          have BK101 := n1_
          have BK109 := n2_
          have HB := n3_
          have BK119 := n4_
          have GW119 := n5_
          have GE119 := n6_
          have NB101_119 := n7_
          have NB119_101 := n8_
          have NB109_119 := n9_
          have NB119_109 := n10_
          clear n0_ n1_ n2_ n3_ n4_ n5_ n6_ n7_ n8_ n9_ n10_
          clear hb hbox hg
          refine hK.out _ _ ⟨(blk_cell BK101.out 0).trans rfl, (blk_cell BK101.out 1).trans rfl⟩ (fun hHeld => ?_)
          clear hK K
          refine norm_ (a' := ?_) ?_ ?_
          rotate_left
          ·show Act.put _ (some 10) _ = _
           simp only [Act.put, List.setIfInBounds_toArray, List.set_cons_zero, List.set_cons_succ, i64_w, i32_w]
           rfl
          refine one_ (i := 4) (N := some 38) #[true, true, true, true, true, false, false, false, true, false, false] rfl rfl (one_of HT_.out (by kernel_rfl)) (by decide) (fun K hK => ?_)
          refine goes_ Try.func71 (by kernel_rfl) rfl #[.agg #[.int .i64 a0_0, .slice A0_1 l0_1.length c0_1], .int .i64 0, .slice A1 y110.length c1] (by rfl) rfl rfl (by (try simp only [List.map_toArray, List.map_cons, List.map_nil]); first | done | rfl | (simp only [List.length_drop, List.length_take]; rfl)) ?_
          with_reducible refine (patAll.calls a0_0 _ _ l0_1 0 _ _ y110 t114 t115 t118 _ ?side1 ?side2 ?side3 ?side4 A17.out).mono ?_
          (case side1 => repeat (first | exact (Kd.C_below HR0_1.out HB.out) | (with_reducible refine Kd.C_alloc ?_ _) | (with_reducible refine Kd.C_drewN ?_ _) | (with_reducible refine Kd.C_drew ?_)))
          (case side2 => exact HC0_1.out)
          (case side3 => repeat (first | exact (Kd.C_below HR113.out HB.out) | (with_reducible refine Kd.C_alloc ?_ _) | (with_reducible refine Kd.C_drewN ?_ _) | (with_reducible refine Kd.C_drew ?_)))
          (case side4 => exact HC113.out)
          rintro e w38 ⟨v116, rfl, ho0, hb⟩
          refine ⟨_, rfl, ?_⟩
          have n0_ := Aside0.mk (Kd.R_elder' (by (with_reducible repeat (first | apply Kd.R_alloc | apply Kd.R_drewN | apply Kd.R_drew)); exact HO107.out) (Kd.R_base ho0) hb)
          have n1_ := Aside0.mk (Kd.R_lower (Kd.R_new' ho0 (Kd.R_lt (by (with_reducible repeat (first | apply Kd.R_alloc | apply Kd.R_drewN | apply Kd.R_drew)); exact HO107.out))) (below_size (by repeat (first | (with_reducible first | exact HB.out | apply below_alloc | apply pw_below_drewN | apply below_drew1 | refine below_set ?_ GE101.out | refine below_set ?_ GE109.out | refine below_set ?_ GE119.out) | exact HB.out))))
          have n2_ := Aside0.mk (blk_below (g := gb101) (o := .cells #[.int .i64 a0_0, .slice A0_1 l0_1.length c0_1] 24 (0, 0)) (by (with_reducible repeat (first | refine blk_drewN ?_ _ | refine blk_drew ?_ | refine blk_alloc ?_ _)); exact BK101.out) hb)
          have n3_ := Aside0.mk (blk_below (g := gb109) (o := .cells #[.int .i64 t104, .slice Ao33 t105.length co33] 24 (0, 0)) (by (with_reducible repeat (first | refine blk_drewN ?_ _ | refine blk_drew ?_ | refine blk_alloc ?_ _)); exact BK109.out) hb)
          have n4_ := Aside0.mk (blk_below (g := gb119) (o := .cells #[.int .i64 0, .slice none 0 0] 24 (0, 0)) (by (with_reducible repeat (first | refine blk_drewN ?_ _ | refine blk_drew ?_ | refine blk_alloc ?_ _)); exact BK119.out) hb)
          have n5_ := Aside0.mk (below_step (by repeat (first | (with_reducible first | exact HB.out | apply below_alloc | apply pw_below_drewN | apply below_drew1 | refine below_set ?_ GE101.out | refine below_set ?_ GE109.out | refine below_set ?_ GE119.out) | exact HB.out)) hb)
          clear HO107
          clear BK101
          clear BK109
          clear BK119
          clear HB
          have HO107 := n0_
          have HO117 := n1_
          have BK101 := n2_
          have BK109 := n3_
          have BK119 := n4_
          have HB := n5_
          clear n0_ n1_ n2_ n3_ n4_ n5_
          (try clear hb)
          (try clear hb2)
          (try clear hk)
          (try clear hi)
          (try clear ho0)
          refine hK.out _ _ ⟨(blk_cell BK101.out 0).trans rfl, (blk_cell BK101.out 1).trans rfl⟩ (fun hHeld => ?_)
          clear hK K
          refine norm_ (a' := ?_) ?_ ?_
          rotate_left
          ·show Act.put _ (some 38) _ = _
           simp only [Act.put, List.setIfInBounds_toArray, List.set_cons_zero, List.set_cons_succ, i64_w, i32_w]
           rfl
          refine pure_ (i := 5) (N := some 33) (v := ?_) (a' := ?_) #[true, true, true, true, true, true, false, false, true, false, false] rfl rfl (any_of HT_.out (by kernel_rfl)) (fun _ _ _ h => h) (Or.inl ⟨by rfl, ?_⟩) ?_ ?_
          rotate_left
          ·intro w'
           go_simp
           with_reducible rfl
          rotate_left
          ·simp only [Act.put, List.setIfInBounds_toArray, List.set_cons_zero, List.set_cons_succ, i64_w, i32_w]
           rfl
          refine pure_ (i := 6) (N := some 39) (v := ?_) (a' := ?_) #[true, true, true, true, true, true, true, false, true, false, false] rfl rfl (any_of HT_.out (by kernel_rfl)) (fun _ _ _ h => h) (Or.inl ⟨by rfl, ?_⟩) ?_ ?_
          rotate_left
          ·intro w'
           go_simp
           with_reducible rfl
          rotate_left
          ·simp only [Act.put, List.setIfInBounds_toArray, List.set_cons_zero, List.set_cons_succ, i64_w, i32_w]
           rfl
          refine pure_ (i := 7) (N := some 40) (v := ?_) (a' := ?_) #[true, true, true, true, true, true, true, true, true, false, false] rfl rfl (any_of HT_.out (by kernel_rfl)) (fun _ _ _ h => h) (Or.inl ⟨by rfl, ?_⟩) ?_ ?_
          rotate_left
          ·intro w'
           go_simp
           with_reducible rfl
          rotate_left
          ·simp only [Act.put, List.setIfInBounds_toArray, List.set_cons_zero, List.set_cons_succ, i64_w, i32_w]
           rfl
          exact norm_ (by simp only [putAll, Act.put, List.setIfInBounds_toArray, List.set_cons_zero, List.set_cons_succ]) (hCont (v116, gb119) _ ⟨hHeld, (by (with_reducible repeat (first | apply Kd.R_alloc | apply Kd.R_drewN | apply Kd.R_drew)); exact Kd.R_mono HO107.out (fun _ hk => hk.2)), (by (with_reducible repeat (first | apply Kd.R_alloc | apply Kd.R_drewN | apply Kd.R_drew)); exact Kd.R_mono HO117.out (fun _ hk => hk.2)), (by (with_reducible repeat (first | refine blk_drewN ?_ _ | refine blk_drew ?_ | refine blk_alloc ?_ _)); exact BK101.out), (by (with_reducible repeat (first | refine blk_drewN ?_ _ | refine blk_drew ?_ | refine blk_alloc ?_ _)); exact BK109.out), (by (with_reducible repeat (first | refine blk_drewN ?_ _ | refine blk_drew ?_ | refine blk_alloc ?_ _)); exact BK119.out), GW119.out, GE119.out, NB101_119.out, NB119_101.out, NB109_119.out, NB119_109.out, (by repeat (first | (with_reducible first | exact HB.out | apply below_alloc | apply pw_below_drewN | apply below_drew1 | refine below_set ?_ GE101.out | refine below_set ?_ GE109.out | refine below_set ?_ GE119.out) | exact HB.out))⟩)
        rintro ⟨v116, gb119⟩ w39 ⟨hS_, h0_, h1_, h2_, h3_, h4_, h5_, h6_, h7_, h8_, h9_, h10_, h11_⟩
        have n0_ : Aside0 (Kd.R k33 33 w39 w.heap.size (fun k_ => some k_ ≠ (v116 : Value).ownBlock) (.slice Ao33 t105.length co33) t105) := ⟨h0_⟩
        have n1_ : Aside0 (Kd.R k33 33 w39 w.heap.size (fun k_ => some k_ ≠ (.slice Ao33 t105.length co33 : Value).ownBlock) v116 t115) := ⟨h1_⟩
        have n2_ : Aside0 (w39.heap[gb101]? = some (.cells #[.int .i64 a0_0, .slice A0_1 l0_1.length c0_1] 24 (0, 0))) := ⟨h2_⟩
        have n3_ : Aside0 (w39.heap[gb109]? = some (.cells #[.int .i64 t104, .slice Ao33 t105.length co33] 24 (0, 0))) := ⟨h3_⟩
        have n4_ : Aside0 (w39.heap[gb119]? = some (.cells #[.int .i64 0, .slice none 0 0] 24 (0, 0))) := ⟨h4_⟩
        have n5_ : Aside0 (w.heap.size ≤ gb119) := ⟨h5_⟩
        have n6_ : Aside0 (w.heap.size ≤ gb119) := ⟨h6_⟩
        have n7_ : Aside0 (gb101 ≠ gb119) := ⟨h7_⟩
        have n8_ : Aside0 (gb119 ≠ gb101) := ⟨h8_⟩
        have n9_ : Aside0 (gb109 ≠ gb119) := ⟨h9_⟩
        have n10_ : Aside0 (gb119 ≠ gb109) := ⟨h10_⟩
        have n11_ : Aside0 (Below w.heap.size w w39) := ⟨h11_⟩
        clear HO107
        clear BK101
        clear BK109
        clear HB
        clear h0_ h1_ h2_ h3_ h4_ h5_ h6_ h7_ h8_ h9_ h10_ h11_
        have HO107 := n0_
        have HO117 := n1_
        have BK101 := n2_
        have BK109 := n3_
        have BK119 := n4_
        have GW119 := n5_
        have GE119 := n6_
        have NB101_119 := n7_
        have NB119_101 := n8_
        have NB109_119 := n9_
        have NB119_109 := n10_
        have HB := n11_
        clear n0_ n1_ n2_ n3_ n4_ n5_ n6_ n7_ n8_ n9_ n10_ n11_
        have hHeld : w39.cell? ⟨gb101, 0, none⟩ = some (.int .i64 a0_0) ∧ w39.cell? ⟨gb101, 1, none⟩ = some (.slice A0_1 l0_1.length c0_1) := hS_
        obtain ⟨Ao41, co41, eo41⟩ := Kd.R_slice HO117.out
        (first | subst eo41 | (injection eo41 with f1_ f2_ f3_; have f4_ := f1_.symm; have f5_ := f3_.symm; clear f1_ f2_ f3_; subst f4_; subst f5_))
        refine norm_ (a' := ?_) ?_ ?_
        rotate_left
        ·simp only [putAll, Act.put, List.setIfInBounds_toArray, List.set_cons_zero, List.set_cons_succ]
         rfl
        refine one_ (i := 9) (N := none) #[true, true, true, true, true, true, true, true, true, true, false] rfl rfl (one_of HT_.out (by kernel_rfl)) (by decide) (fun K hK => ?_)
        have hs40 : w39.cell? ⟨gb119, 0, none⟩ = some (.int .i64 0) := (blk_cell BK119.out 0).trans rfl
        have hfs40 := blk_frozen BK119.out 0
        have hns40_0 := NB101_119.out
        have hns40_1 := NB109_119.out
        have hms40_0 := NB119_101.out
        have hms40_1 := NB119_109.out
        have hs42 : w39.cell? ⟨gb119, 1, none⟩ = some (.slice none 0 0) := (blk_cell BK119.out 1).trans rfl
        have hfs42 := blk_frozen BK119.out 1
        have hns42_0 := NB101_119.out
        have hns42_1 := NB109_119.out
        have hms42_0 := NB119_101.out
        have hms42_1 := NB119_109.out
        refine skip_ (w1 := ?_) (by rfl) rfl ?_ ?_
        rotate_left
        ·go_simp
         rfl
        refine hK.out _ _ ⟨((cell_far (p := ⟨gb119, _, none⟩) NB101_119.out _).trans (((cell_far (p := ⟨gb119, _, none⟩) NB101_119.out _).trans (hHeld.1)))), ((cell_far (p := ⟨gb119, _, none⟩) NB101_119.out _).trans (((cell_far (p := ⟨gb119, _, none⟩) NB101_119.out _).trans (hHeld.2))))⟩ (fun hHeld => ?_)
        clear hK K
        refine pure_ (i := 10) (N := some 11) (v := ?_) (a' := ?_) #[true, true, true, true, true, true, true, true, true, true, true] rfl rfl (any_of HT_.out (by kernel_rfl)) (fun _ _ _ h => h) (Or.inl ⟨by rfl, ?_⟩) ?_ ?_
        rotate_left
        ·intro w'
         go_simp
         with_reducible rfl
        rotate_left
        ·simp only [Act.put, List.setIfInBounds_toArray, List.set_cons_zero, List.set_cons_succ, i64_w, i32_w]
         rfl
        refine done_ (done_of HT_.out (by kernel_rfl)) ?_
        try go_wp2
        have n0_ : Aside0 (Kd.R k33 33 ((w39.setCell ⟨gb119, 0, none⟩ (.int .i64 t114)).setCell ⟨gb119, 1, none⟩ (.slice Ao41 t115.length co41)) w.heap.size (fun k_ => some k_ ≠ (.slice Ao41 t115.length co41 : Value).ownBlock) (.slice Ao33 t105.length co33) t105) := ⟨by (with_reducible repeat (first | apply Kd.R_alloc | apply Kd.R_drewN | apply Kd.R_drew)); exact Kd.R_mono (Kd.R_far (p := ⟨gb119, 1, none⟩) (Kd.R_far (p := ⟨gb119, 0, none⟩) (Kd.R_types HO107.out BK119.out (by decide)) (fun _ hk => hk.2) (.int .i64 t114)) (fun _ hk => hk.2) (.slice Ao41 t115.length co41)) (fun _ hk => hk.1)⟩
        have n1_ : Aside0 (Kd.R k33 33 ((w39.setCell ⟨gb119, 0, none⟩ (.int .i64 t114)).setCell ⟨gb119, 1, none⟩ (.slice Ao41 t115.length co41)) w.heap.size (fun k_ => some k_ ≠ (.slice Ao33 t105.length co33 : Value).ownBlock) (.slice Ao41 t115.length co41) t115) := ⟨by (with_reducible repeat (first | apply Kd.R_alloc | apply Kd.R_drewN | apply Kd.R_drew)); exact Kd.R_mono (Kd.R_far (p := ⟨gb119, 1, none⟩) (Kd.R_far (p := ⟨gb119, 0, none⟩) (Kd.R_types HO117.out BK119.out (by decide)) (fun _ hk => hk.2) (.int .i64 t114)) (fun _ hk => hk.2) (.slice Ao41 t115.length co41)) (fun _ hk => hk.1)⟩
        have n2_ : Aside0 (((w39.setCell ⟨gb119, 0, none⟩ (.int .i64 t114)).setCell ⟨gb119, 1, none⟩ (.slice Ao41 t115.length co41)).heap[gb101]? = some (.cells #[.int .i64 a0_0, .slice A0_1 l0_1.length c0_1] 24 (0, 0))) := ⟨by (with_reducible repeat (first | refine blk_drewN ?_ _ | refine blk_drew ?_ | refine blk_alloc ?_ _)); refine blk_far ?_ NB101_119.out _; refine blk_far ?_ NB101_119.out _; (with_reducible repeat (first | refine blk_drewN ?_ _ | refine blk_drew ?_ | refine blk_alloc ?_ _)); exact BK101.out⟩
        have n3_ : Aside0 (((w39.setCell ⟨gb119, 0, none⟩ (.int .i64 t114)).setCell ⟨gb119, 1, none⟩ (.slice Ao41 t115.length co41)).heap[gb109]? = some (.cells #[.int .i64 t104, .slice Ao33 t105.length co33] 24 (0, 0))) := ⟨by (with_reducible repeat (first | refine blk_drewN ?_ _ | refine blk_drew ?_ | refine blk_alloc ?_ _)); refine blk_far ?_ NB109_119.out _; refine blk_far ?_ NB109_119.out _; (with_reducible repeat (first | refine blk_drewN ?_ _ | refine blk_drew ?_ | refine blk_alloc ?_ _)); exact BK109.out⟩
        have n4_ : Aside0 (((w39.setCell ⟨gb119, 0, none⟩ (.int .i64 t114)).setCell ⟨gb119, 1, none⟩ (.slice Ao41 t115.length co41)).heap[gb119]? = some (.cells #[.int .i64 t114, .slice Ao41 t115.length co41] 24 (0, 0))) := ⟨by (with_reducible repeat (first | refine blk_drewN ?_ _ | refine blk_drew ?_ | refine blk_alloc ?_ _)); refine blk_put (cs := #[.int .i64 t114, .slice none 0 0]) ?_ 1 _ rfl; refine blk_put (cs := #[.int .i64 0, .slice none 0 0]) ?_ 0 _ rfl; (with_reducible repeat (first | refine blk_drewN ?_ _ | refine blk_drew ?_ | refine blk_alloc ?_ _)); exact BK119.out⟩
        have n5_ : Aside0 (Below w.heap.size w ((w39.setCell ⟨gb119, 0, none⟩ (.int .i64 t114)).setCell ⟨gb119, 1, none⟩ (.slice Ao41 t115.length co41))) := ⟨by repeat (first | (with_reducible first | exact HB.out | apply below_alloc | apply pw_below_drewN | apply below_drew1 | refine below_set ?_ GE101.out | refine below_set ?_ GE109.out | refine below_set ?_ GE119.out) | exact HB.out)⟩
        (try clear HO107)
        (try clear HO117)
        (try clear BK101)
        (try clear BK109)
        (try clear BK119)
        (try clear HB)
        generalize ((w39.setCell ⟨gb119, 0, none⟩ (.int .i64 t114)).setCell ⟨gb119, 1, none⟩ (.slice Ao41 t115.length co41)) = w43 at n0_ n1_ n2_ n3_ n4_ n5_ ⊢
        have HO107 := n0_
        have HO117 := n1_
        have BK101 := n2_
        have BK109 := n3_
        have BK119 := n4_
        have HB := n5_
        clear n0_ n1_ n2_ n3_ n4_ n5_
        have n0_ := Aside0.mk (Kd.R_drew HO107.out)
        have n1_ := Aside0.mk (Kd.R_drew HO117.out)
        have n2_ := Aside0.mk (blk_drew BK101.out)
        have n3_ := Aside0.mk (blk_drew BK109.out)
        have n4_ := Aside0.mk (blk_drew BK119.out)
        have n5_ := Aside0.mk (below_drew1 HB.out)
        clear HO107
        clear HO117
        clear BK101
        clear BK109
        clear BK119
        clear HB
        have HO107 := n0_
        have HO117 := n1_
        have BK101 := n2_
        have BK109 := n3_
        have BK119 := n4_
        have HB := n5_
        clear n0_ n1_ n2_ n3_ n4_ n5_
        have q45 : ((ji14) : Int) ≤ ((l1.length : Int) : Int) := of_decide_eq_true (by first | (with_reducible assumption) | assumption)
        obtain ⟨i045, hi045, _, hsz45, _⟩ := info_parts info65
        have hroom45 : l1.length ≤ c1 := HC1.out
        have hC45 : Kd.C k65 _ A1 l1.length l1 := HR1.out
        have q045 : (0 : Int) ≤ ((ji14) : Int) := of_decide_eq_true (by first | (with_reducible assumption) | assumption)
        have hcut45 := cut_from (P := Try.prog) 53 65 .i64 Try.underlying53 hi045 13 hsz45 A1 l1.length c1 (ji14) q045 q45
        have hr45 := Kd.C_drop (m := ((ji14) : Int).toNat) (c := c1) hC45 (by omega) hroom45
        obtain ⟨A45, hA45⟩ : ∃ A_, A_ = (if c1 = ((ji14) : Int).toNat then A1 else (A1 : Option Addr).map (·.add (((ji14) : Int).toNat * 13))) := ⟨_, rfl⟩
        obtain ⟨c45, hc45⟩ : ∃ c_, c_ = c1 - ((ji14) : Int).toNat := ⟨_, rfl⟩
        have hy45 : y120.length = l1.length - ((ji14) : Int).toNat := (by rw [Ny120.out, List.length_drop] <;> omega)
        rw [show (l1).drop ((ji14) : Int).toNat = y120 from Ny120.out.symm] at hr45
        replace hr45 : Kd.C k65 _ A45 y120.length y120 := (by rw [hA45]; exact hr45)
        rw [← hy45, ← hA45, ← hc45] at hcut45
        have HR123 := Aside0.mk hr45
        have HC123 := Aside0.mk (show y120.length ≤ c45 from by rw [hy45, hc45]; exact Nat.sub_le_sub_right hroom45 _)
        clear hr45 hC45 hroom45 hi045 hsz45 hc45
        have KY45 := Aside0.mk hy45
        have KA45 := Aside0.mk hA45
        clear hy45 hA45
        replace q45 := eq_true q45
        refine start_ (n := 11) (S := fun w' => w'.cell? ⟨gb119, 0, none⟩ = some (.int .i64 t114) ∧ w'.cell? ⟨gb119, 1, none⟩ = some (.slice Ao41 t115.length co41)) (ds := []) #[false, false, false, false, false, false, false, false, false, false, false] (by kernel_rfl) rfl rfl ⟨(blk_cell BK119.out 0).trans rfl, (blk_cell BK119.out 1).trans rfl⟩ (fun hHeld => ?_); refine with_tabW seneschallaw05_PatchParts.tab10 seneschallaw05_PatchParts.bits10 (fun HT_ HW_ => ?_)
        generalize w43.drew = w44 at HO107 HO117 BK101 BK109 BK119 HB HR123 hHeld ⊢
        refine pure_ (i := 1) (N := some 48) (v := ?_) (a' := ?_) #[false, true, false, false, false, false, false, false, false, false, false] rfl rfl (any_of HT_.out (by kernel_rfl)) (fun _ _ _ h => h) (Or.inl ⟨by rfl, ?_⟩) ?_ ?_
        rotate_left
        ·intro w'
         go_simp
         with_reducible rfl
        rotate_left
        ·simp only [Act.put, List.setIfInBounds_toArray, List.set_cons_zero, List.set_cons_succ, i64_w, i32_w]
         rfl
        refine pure_ (i := 2) (N := some 49) (v := ?_) (a' := ?_) #[false, true, true, false, false, false, false, false, false, false, false] rfl rfl (any_of HT_.out (by kernel_rfl)) (fun _ _ _ h => h) (Or.inl ⟨by rfl, ?_⟩) ?_ ?_
        rotate_left
        ·intro w'
         go_simp
         with_reducible rfl
        rotate_left
        ·simp only [Act.put, List.setIfInBounds_toArray, List.set_cons_zero, List.set_cons_succ, i64_w, i32_w]
         rfl
        refine pure_ (i := 3) (N := some 50) (v := ?_) (a' := ?_) #[false, true, true, true, false, false, false, false, false, false, false] rfl rfl (any_of HT_.out (by kernel_rfl)) (fun _ _ _ h => h) (Or.inl ⟨by rfl, ?_⟩) ?_ ?_
        rotate_left
        ·intro w'
         go_simp
         with_reducible rfl
        rotate_left
        ·simp only [Act.put, List.setIfInBounds_toArray, List.set_cons_zero, List.set_cons_succ, i64_w, i32_w]
         rfl
        refine take_ (i := 0) (N := some 47) (v := ?_) (a' := ?_) #[true, true, true, true, false, false, false, false, false, false, false] rfl rfl (take_ofW HT_.out HW_.out (by kernel_rfl)) (fun _ _ _ h => h) (Or.inl ⟨by rfl, ?_⟩) hHeld ?_ ?_
        rotate_left
        ·rintro w' ⟨s0, s1⟩
         go_simp
         with_reducible rfl
        rotate_left
        ·simp only [Act.put, List.setIfInBounds_toArray, List.set_cons_zero, List.set_cons_succ, i64_w, i32_w]
         rfl
        refine join_ (σ := Value × Nat) 2 #[true, true, true, true, true, true, true, true, true, false, false] (fun s_ => [(51, .tuple #[.agg #[.int .i64 t124, s_.1], .int .i64 t128]), (12, .pointer (some ⟨s_.2, 0, none⟩)), (46, .tuple #[.agg #[.int .i64 t124, s_.1], .int .i64 t128]), (52, .agg #[.int .i64 t124, s_.1]), (53, .int .i64 t128)]) (fun s_ w' => (w'.cell? ⟨gb119, 0, none⟩ = some (.int .i64 t114) ∧ w'.cell? ⟨gb119, 1, none⟩ = some (.slice Ao41 t115.length co41)) ∧ (Kd.R k33 33 w' w.heap.size (fun k_ => some k_ ≠ (.slice Ao41 t115.length co41 : Value).ownBlock ∧ some k_ ≠ (s_.1 : Value).ownBlock) (.slice Ao33 t105.length co33) t105) ∧ (Kd.R k33 33 w' w.heap.size (fun k_ => some k_ ≠ (.slice Ao33 t105.length co33 : Value).ownBlock ∧ some k_ ≠ (s_.1 : Value).ownBlock) (.slice Ao41 t115.length co41) t115) ∧ (Kd.R k33 33 w' w.heap.size (fun k_ => some k_ ≠ (.slice Ao33 t105.length co33 : Value).ownBlock ∧ some k_ ≠ (.slice Ao41 t115.length co41 : Value).ownBlock) s_.1 t125) ∧ (w'.heap[gb101]? = some (.cells #[.int .i64 a0_0, .slice A0_1 l0_1.length c0_1] 24 (0, 0))) ∧ (w'.heap[gb109]? = some (.cells #[.int .i64 t104, .slice Ao33 t105.length co33] 24 (0, 0))) ∧ (w'.heap[gb119]? = some (.cells #[.int .i64 t114, .slice Ao41 t115.length co41] 24 (0, 0))) ∧ (w'.heap[s_.2]? = some (.cells #[.int .i64 0, .slice none 0 0] 24 (0, 0))) ∧ (w.heap.size ≤ s_.2) ∧ (w.heap.size ≤ s_.2) ∧ (gb101 ≠ s_.2) ∧ (s_.2 ≠ gb101) ∧ (gb109 ≠ s_.2) ∧ (s_.2 ≠ gb109) ∧ (gb119 ≠ s_.2) ∧ (s_.2 ≠ gb119) ∧ (Below w.heap.size w w')) ?_ ?_
        rotate_left
        ·intro hCont
         refine two_ (i := 4) (j := 8) (Ni := some 51) (Nj := some 12) #[true, true, true, true, true, false, false, false, false, false, false] #[true, true, true, true, false, false, false, false, true, false, false] rfl rfl rfl rfl (two_of HT_.out (by kernel_rfl)) (by decide) (by decide) (fun K hK => ?_) (fun K hK => ?_)
         ·skip
          refine goes_ Try.func71 (by kernel_rfl) rfl #[.agg #[.int .i64 t114, .slice Ao41 t115.length co41], .int .i64 0, .slice A45 y120.length c45] (by rfl) rfl rfl (by (try simp only [List.map_toArray, List.map_cons, List.map_nil]); first | done | rfl | (simp only [List.length_drop, List.length_take]; rfl)) ?_
          with_reducible refine (patAll.calls t114 _ _ t115 0 _ _ y120 t124 t125 t128 _ ?side1 ?side2 ?side3 ?side4 A21.out).mono ?_
          (case side1 => repeat (first | exact (Kd.R_reads' HO117.out).2.2 | (with_reducible refine Kd.C_alloc ?_ _) | (with_reducible refine Kd.C_drewN ?_ _) | (with_reducible refine Kd.C_drew ?_)))
          (case side2 => exact (Kd.R_reads' HO117.out).2.1)
          (case side3 => repeat (first | exact (Kd.C_below HR123.out HB.out) | (with_reducible refine Kd.C_alloc ?_ _) | (with_reducible refine Kd.C_drewN ?_ _) | (with_reducible refine Kd.C_drew ?_)))
          (case side4 => exact HC123.out)
          rintro e w46 ⟨v126, rfl, ho0, hb⟩
          refine ⟨_, rfl, ?_⟩
          have n0_ := Aside0.mk (Kd.R_elder' (by (with_reducible repeat (first | apply Kd.R_alloc | apply Kd.R_drewN | apply Kd.R_drew)); exact HO107.out) (Kd.R_base ho0) hb)
          have n1_ := Aside0.mk (Kd.R_elder' (by (with_reducible repeat (first | apply Kd.R_alloc | apply Kd.R_drewN | apply Kd.R_drew)); exact HO117.out) (Kd.R_base ho0) hb)
          have n2_ := Aside0.mk (Kd.R_lower (Kd.R_new' (Kd.R_new' ho0 (Kd.R_lt (by (with_reducible repeat (first | apply Kd.R_alloc | apply Kd.R_drewN | apply Kd.R_drew)); exact HO107.out))) (Kd.R_lt (by (with_reducible repeat (first | apply Kd.R_alloc | apply Kd.R_drewN | apply Kd.R_drew)); exact HO117.out))) (below_size (by repeat (first | (with_reducible first | exact HB.out | apply below_alloc | apply pw_below_drewN | apply below_drew1 | refine below_set ?_ GE101.out | refine below_set ?_ GE109.out | refine below_set ?_ GE119.out) | exact HB.out))))
          have n3_ := Aside0.mk (blk_below (g := gb101) (o := .cells #[.int .i64 a0_0, .slice A0_1 l0_1.length c0_1] 24 (0, 0)) (by (with_reducible repeat (first | refine blk_drewN ?_ _ | refine blk_drew ?_ | refine blk_alloc ?_ _)); exact BK101.out) hb)
          have n4_ := Aside0.mk (blk_below (g := gb109) (o := .cells #[.int .i64 t104, .slice Ao33 t105.length co33] 24 (0, 0)) (by (with_reducible repeat (first | refine blk_drewN ?_ _ | refine blk_drew ?_ | refine blk_alloc ?_ _)); exact BK109.out) hb)
          have n5_ := Aside0.mk (blk_below (g := gb119) (o := .cells #[.int .i64 t114, .slice Ao41 t115.length co41] 24 (0, 0)) (by (with_reducible repeat (first | refine blk_drewN ?_ _ | refine blk_drew ?_ | refine blk_alloc ?_ _)); exact BK119.out) hb)
          have n6_ := Aside0.mk (below_step (by repeat (first | (with_reducible first | exact HB.out | apply below_alloc | apply pw_below_drewN | apply below_drew1 | refine below_set ?_ GE101.out | refine below_set ?_ GE109.out | refine below_set ?_ GE119.out) | exact HB.out)) hb)
          clear HO107
          clear HO117
          clear BK101
          clear BK109
          clear BK119
          clear HB
          have HO107 := n0_
          have HO117 := n1_
          have HO127 := n2_
          have BK101 := n3_
          have BK109 := n4_
          have BK119 := n5_
          have HB := n6_
          clear n0_ n1_ n2_ n3_ n4_ n5_ n6_
          (try clear hb)
          (try clear hb2)
          (try clear hk)
          (try clear hi)
          (try clear ho0)
          refine hK.out _ _ ⟨(blk_cell BK119.out 0).trans rfl, (blk_cell BK119.out 1).trans rfl⟩ (fun hHeld => ?_)
          clear hK K
          refine norm_ (a' := ?_) ?_ ?_
          rotate_left
          ·show Act.put _ (some 51) _ = _
           simp only [Act.put, List.setIfInBounds_toArray, List.set_cons_zero, List.set_cons_succ, i64_w, i32_w]
           rfl
          refine pure_ (i := 5) (N := some 46) (v := ?_) (a' := ?_) #[true, true, true, true, true, true, false, false, false, false, false] rfl rfl (any_of HT_.out (by kernel_rfl)) (fun _ _ _ h => h) (Or.inl ⟨by rfl, ?_⟩) ?_ ?_
          rotate_left
          ·intro w'
           go_simp
           with_reducible rfl
          rotate_left
          ·simp only [Act.put, List.setIfInBounds_toArray, List.set_cons_zero, List.set_cons_succ, i64_w, i32_w]
           rfl
          refine pure_ (i := 6) (N := some 52) (v := ?_) (a' := ?_) #[true, true, true, true, true, true, true, false, false, false, false] rfl rfl (any_of HT_.out (by kernel_rfl)) (fun _ _ _ h => h) (Or.inl ⟨by rfl, ?_⟩) ?_ ?_
          rotate_left
          ·intro w'
           go_simp
           with_reducible rfl
          rotate_left
          ·simp only [Act.put, List.setIfInBounds_toArray, List.set_cons_zero, List.set_cons_succ, i64_w, i32_w]
           rfl
          refine pure_ (i := 7) (N := some 53) (v := ?_) (a' := ?_) #[true, true, true, true, true, true, true, true, false, false, false] rfl rfl (any_of HT_.out (by kernel_rfl)) (fun _ _ _ h => h) (Or.inl ⟨by rfl, ?_⟩) ?_ ?_
          rotate_left
          ·intro w'
           go_simp
           with_reducible rfl
          rotate_left
          ·simp only [Act.put, List.setIfInBounds_toArray, List.set_cons_zero, List.set_cons_succ, i64_w, i32_w]
           rfl
          refine one_ (i := 8) (N := some 12) #[true, true, true, true, true, true, true, true, true, false, false] rfl rfl (one_of HT_.out (by kernel_rfl)) (by decide) (fun K hK => ?_)
          refine box_step ?hg (N := 12) ?hd (cs := #[.int .i64 0, .slice none 0 0]) (t := 24) ?hr ?_; (case hd => rfl); (case hg => rfl); (case hr => first | (go_simp; done) | (go_simp; rfl))
          intro gb129 hg w47 hbox hb
          have n0_ := Aside0.mk (Kd.R_below (by (with_reducible repeat (first | apply Kd.R_alloc | apply Kd.R_drewN | apply Kd.R_drew)); exact HO107.out) hb)
          have n1_ := Aside0.mk (Kd.R_below (by (with_reducible repeat (first | apply Kd.R_alloc | apply Kd.R_drewN | apply Kd.R_drew)); exact HO117.out) hb)
          have n2_ := Aside0.mk (Kd.R_below (by (with_reducible repeat (first | apply Kd.R_alloc | apply Kd.R_drewN | apply Kd.R_drew)); exact HO127.out) hb)
          have n3_ := Aside0.mk (blk_below (g := gb101) (o := .cells #[.int .i64 a0_0, .slice A0_1 l0_1.length c0_1] 24 (0, 0)) (by (with_reducible repeat (first | refine blk_drewN ?_ _ | refine blk_drew ?_ | refine blk_alloc ?_ _)); exact BK101.out) hb)
          have n4_ := Aside0.mk (blk_below (g := gb109) (o := .cells #[.int .i64 t104, .slice Ao33 t105.length co33] 24 (0, 0)) (by (with_reducible repeat (first | refine blk_drewN ?_ _ | refine blk_drew ?_ | refine blk_alloc ?_ _)); exact BK109.out) hb)
          have n5_ := Aside0.mk (blk_below (g := gb119) (o := .cells #[.int .i64 t114, .slice Ao41 t115.length co41] 24 (0, 0)) (by (with_reducible repeat (first | refine blk_drewN ?_ _ | refine blk_drew ?_ | refine blk_alloc ?_ _)); exact BK119.out) hb)
          have n6_ := Aside0.mk (below_step (by repeat (first | (with_reducible first | exact HB.out | apply below_alloc | apply pw_below_drewN | apply below_drew1 | refine below_set ?_ GE101.out | refine below_set ?_ GE109.out | refine below_set ?_ GE119.out) | exact HB.out)) hb)
          have n7_ := Aside0.mk (hbox)
          have n8_ := Aside0.mk ((by rw [hg]; exact (below_size (by repeat (first | (with_reducible first | exact HB.out | apply below_alloc | apply pw_below_drewN | apply below_drew1 | refine below_set ?_ GE101.out | refine below_set ?_ GE109.out | refine below_set ?_ GE119.out) | exact HB.out))) : w.heap.size ≤ gb129))
          have n9_ := Aside0.mk ((by rw [hg]; exact (below_size (by repeat (first | (with_reducible first | exact HB.out | apply below_alloc | apply pw_below_drewN | apply below_drew1 | refine below_set ?_ GE101.out | refine below_set ?_ GE109.out | refine below_set ?_ GE119.out) | exact HB.out))) : w.heap.size ≤ gb129))
          have n10_ := Aside0.mk ((by rw [hg]; exact Nat.ne_of_lt (blk_lt (g := gb101) (o := .cells #[.int .i64 a0_0, .slice A0_1 l0_1.length c0_1] 24 (0, 0)) (by (with_reducible repeat (first | refine blk_drewN ?_ _ | refine blk_drew ?_ | refine blk_alloc ?_ _)); exact BK101.out)) : gb101 ≠ gb129))
          have n11_ := Aside0.mk ((by rw [hg]; exact Nat.ne_of_gt (blk_lt (g := gb101) (o := .cells #[.int .i64 a0_0, .slice A0_1 l0_1.length c0_1] 24 (0, 0)) (by (with_reducible repeat (first | refine blk_drewN ?_ _ | refine blk_drew ?_ | refine blk_alloc ?_ _)); exact BK101.out)) : gb129 ≠ gb101))
          have n12_ := Aside0.mk ((by rw [hg]; exact Nat.ne_of_lt (blk_lt (g := gb109) (o := .cells #[.int .i64 t104, .slice Ao33 t105.length co33] 24 (0, 0)) (by (with_reducible repeat (first | refine blk_drewN ?_ _ | refine blk_drew ?_ | refine blk_alloc ?_ _)); exact BK109.out)) : gb109 ≠ gb129))
          have n13_ := Aside0.mk ((by rw [hg]; exact Nat.ne_of_gt (blk_lt (g := gb109) (o := .cells #[.int .i64 t104, .slice Ao33 t105.length co33] 24 (0, 0)) (by (with_reducible repeat (first | refine blk_drewN ?_ _ | refine blk_drew ?_ | refine blk_alloc ?_ _)); exact BK109.out)) : gb129 ≠ gb109))
          have n14_ := Aside0.mk ((by rw [hg]; exact Nat.ne_of_lt (blk_lt (g := gb119) (o := .cells #[.int .i64 t114, .slice Ao41 t115.length co41] 24 (0, 0)) (by (with_reducible repeat (first | refine blk_drewN ?_ _ | refine blk_drew ?_ | refine blk_alloc ?_ _)); exact BK119.out)) : gb119 ≠ gb129))
          have n15_ := Aside0.mk ((by rw [hg]; exact Nat.ne_of_gt (blk_lt (g := gb119) (o := .cells #[.int .i64 t114, .slice Ao41 t115.length co41] 24 (0, 0)) (by (with_reducible repeat (first | refine blk_drewN ?_ _ | refine blk_drew ?_ | refine blk_alloc ?_ _)); exact BK119.out)) : gb129 ≠ gb119))
          clear HO107
          clear HO117
          clear HO127
          clear BK101
          clear BK109
          clear BK119
          clear HB
          have HO107 := n0_
          have HO117 := n1_
          have HO127 := n2_
          have BK101 := n3_
          have BK109 := n4_
          have BK119 := n5_
          have HB := n6_
          have BK129 := n7_
          have GW129 := n8_
          have GE129 := n9_
          have NB101_129 := n10_
          have NB129_101 := n11_
          have NB109_129 := n12_
          have NB129_109 := n13_
          have NB119_129 := n14_
          have NB129_119 := n15_
          clear n0_ n1_ n2_ n3_ n4_ n5_ n6_ n7_ n8_ n9_ n10_ n11_ n12_ n13_ n14_ n15_
          clear hb hbox hg
          refine hK.out _ _ ⟨(blk_cell BK119.out 0).trans rfl, (blk_cell BK119.out 1).trans rfl⟩ (fun hHeld => ?_)
          clear hK K
          refine norm_ (a' := ?_) ?_ ?_
          rotate_left
          ·show Act.put _ (some 12) _ = _
           simp only [Act.put, List.setIfInBounds_toArray, List.set_cons_zero, List.set_cons_succ, i64_w, i32_w]
           rfl
          exact norm_ (by simp only [putAll, Act.put, List.setIfInBounds_toArray, List.set_cons_zero, List.set_cons_succ]) (hCont (v126, gb129) _ ⟨hHeld, (by (with_reducible repeat (first | apply Kd.R_alloc | apply Kd.R_drewN | apply Kd.R_drew)); exact HO107.out), (by (with_reducible repeat (first | apply Kd.R_alloc | apply Kd.R_drewN | apply Kd.R_drew)); exact HO117.out), (by (with_reducible repeat (first | apply Kd.R_alloc | apply Kd.R_drewN | apply Kd.R_drew)); exact Kd.R_mono HO127.out (fun _ hk => ⟨hk.1.2, hk.2⟩)), (by (with_reducible repeat (first | refine blk_drewN ?_ _ | refine blk_drew ?_ | refine blk_alloc ?_ _)); exact BK101.out), (by (with_reducible repeat (first | refine blk_drewN ?_ _ | refine blk_drew ?_ | refine blk_alloc ?_ _)); exact BK109.out), (by (with_reducible repeat (first | refine blk_drewN ?_ _ | refine blk_drew ?_ | refine blk_alloc ?_ _)); exact BK119.out), (by (with_reducible repeat (first | refine blk_drewN ?_ _ | refine blk_drew ?_ | refine blk_alloc ?_ _)); exact BK129.out), GW129.out, GE129.out, NB101_129.out, NB129_101.out, NB109_129.out, NB129_109.out, NB119_129.out, NB129_119.out, (by repeat (first | (with_reducible first | exact HB.out | apply below_alloc | apply pw_below_drewN | apply below_drew1 | refine below_set ?_ GE101.out | refine below_set ?_ GE109.out | refine below_set ?_ GE119.out | refine below_set ?_ GE129.out) | exact HB.out))⟩)
         ·skip
          refine box_step ?hg (N := 12) ?hd (cs := #[.int .i64 0, .slice none 0 0]) (t := 24) ?hr ?_; (case hd => rfl); (case hg => rfl); (case hr => first | (go_simp; done) | (go_simp; rfl))
          intro gb129 hg w46 hbox hb
          have n0_ := Aside0.mk (Kd.R_below (by (with_reducible repeat (first | apply Kd.R_alloc | apply Kd.R_drewN | apply Kd.R_drew)); exact HO107.out) hb)
          have n1_ := Aside0.mk (Kd.R_below (by (with_reducible repeat (first | apply Kd.R_alloc | apply Kd.R_drewN | apply Kd.R_drew)); exact HO117.out) hb)
          have n2_ := Aside0.mk (blk_below (g := gb101) (o := .cells #[.int .i64 a0_0, .slice A0_1 l0_1.length c0_1] 24 (0, 0)) (by (with_reducible repeat (first | refine blk_drewN ?_ _ | refine blk_drew ?_ | refine blk_alloc ?_ _)); exact BK101.out) hb)
          have n3_ := Aside0.mk (blk_below (g := gb109) (o := .cells #[.int .i64 t104, .slice Ao33 t105.length co33] 24 (0, 0)) (by (with_reducible repeat (first | refine blk_drewN ?_ _ | refine blk_drew ?_ | refine blk_alloc ?_ _)); exact BK109.out) hb)
          have n4_ := Aside0.mk (blk_below (g := gb119) (o := .cells #[.int .i64 t114, .slice Ao41 t115.length co41] 24 (0, 0)) (by (with_reducible repeat (first | refine blk_drewN ?_ _ | refine blk_drew ?_ | refine blk_alloc ?_ _)); exact BK119.out) hb)
          have n5_ := Aside0.mk (below_step (by repeat (first | (with_reducible first | exact HB.out | apply below_alloc | apply pw_below_drewN | apply below_drew1 | refine below_set ?_ GE101.out | refine below_set ?_ GE109.out | refine below_set ?_ GE119.out) | exact HB.out)) hb)
          have n6_ := Aside0.mk (hbox)
          have n7_ := Aside0.mk ((by rw [hg]; exact (below_size (by repeat (first | (with_reducible first | exact HB.out | apply below_alloc | apply pw_below_drewN | apply below_drew1 | refine below_set ?_ GE101.out | refine below_set ?_ GE109.out | refine below_set ?_ GE119.out) | exact HB.out))) : w.heap.size ≤ gb129))
          have n8_ := Aside0.mk ((by rw [hg]; exact (below_size (by repeat (first | (with_reducible first | exact HB.out | apply below_alloc | apply pw_below_drewN | apply below_drew1 | refine below_set ?_ GE101.out | refine below_set ?_ GE109.out | refine below_set ?_ GE119.out) | exact HB.out))) : w.heap.size ≤ gb129))
          have n9_ := Aside0.mk ((by rw [hg]; exact Nat.ne_of_lt (blk_lt (g := gb101) (o := .cells #[.int .i64 a0_0, .slice A0_1 l0_1.length c0_1] 24 (0, 0)) (by (with_reducible repeat (first | refine blk_drewN ?_ _ | refine blk_drew ?_ | refine blk_alloc ?_ _)); exact BK101.out)) : gb101 ≠ gb129))
          have n10_ := Aside0.mk ((by rw [hg]; exact Nat.ne_of_gt (blk_lt (g := gb101) (o := .cells #[.int .i64 a0_0, .slice A0_1 l0_1.length c0_1] 24 (0, 0)) (by (with_reducible repeat (first | refine blk_drewN ?_ _ | refine blk_drew ?_ | refine blk_alloc ?_ _)); exact BK101.out)) : gb129 ≠ gb101))
          have n11_ := Aside0.mk ((by rw [hg]; exact Nat.ne_of_lt (blk_lt (g := gb109) (o := .cells #[.int .i64 t104, .slice Ao33 t105.length co33] 24 (0, 0)) (by (with_reducible repeat (first | refine blk_drewN ?_ _ | refine blk_drew ?_ | refine blk_alloc ?_ _)); exact BK109.out)) : gb109 ≠ gb129))
          have n12_ := Aside0.mk ((by rw [hg]; exact Nat.ne_of_gt (blk_lt (g := gb109) (o := .cells #[.int .i64 t104, .slice Ao33 t105.length co33] 24 (0, 0)) (by (with_reducible repeat (first | refine blk_drewN ?_ _ | refine blk_drew ?_ | refine blk_alloc ?_ _)); exact BK109.out)) : gb129 ≠ gb109))
          have n13_ := Aside0.mk ((by rw [hg]; exact Nat.ne_of_lt (blk_lt (g := gb119) (o := .cells #[.int .i64 t114, .slice Ao41 t115.length co41] 24 (0, 0)) (by (with_reducible repeat (first | refine blk_drewN ?_ _ | refine blk_drew ?_ | refine blk_alloc ?_ _)); exact BK119.out)) : gb119 ≠ gb129))
          have n14_ := Aside0.mk ((by rw [hg]; exact Nat.ne_of_gt (blk_lt (g := gb119) (o := .cells #[.int .i64 t114, .slice Ao41 t115.length co41] 24 (0, 0)) (by (with_reducible repeat (first | refine blk_drewN ?_ _ | refine blk_drew ?_ | refine blk_alloc ?_ _)); exact BK119.out)) : gb129 ≠ gb119))
          clear HO107
          clear HO117
          clear BK101
          clear BK109
          clear BK119
          clear HB
          have HO107 := n0_
          have HO117 := n1_
          have BK101 := n2_
          have BK109 := n3_
          have BK119 := n4_
          have HB := n5_
          have BK129 := n6_
          have GW129 := n7_
          have GE129 := n8_
          have NB101_129 := n9_
          have NB129_101 := n10_
          have NB109_129 := n11_
          have NB129_109 := n12_
          have NB119_129 := n13_
          have NB129_119 := n14_
          clear n0_ n1_ n2_ n3_ n4_ n5_ n6_ n7_ n8_ n9_ n10_ n11_ n12_ n13_ n14_
          clear hb hbox hg
          refine hK.out _ _ ⟨(blk_cell BK119.out 0).trans rfl, (blk_cell BK119.out 1).trans rfl⟩ (fun hHeld => ?_)
          clear hK K
          refine norm_ (a' := ?_) ?_ ?_
          rotate_left
          ·show Act.put _ (some 12) _ = _
           simp only [Act.put, List.setIfInBounds_toArray, List.set_cons_zero, List.set_cons_succ, i64_w, i32_w]
           rfl
          refine one_ (i := 4) (N := some 51) #[true, true, true, true, true, false, false, false, true, false, false] rfl rfl (one_of HT_.out (by kernel_rfl)) (by decide) (fun K hK => ?_)
          refine goes_ Try.func71 (by kernel_rfl) rfl #[.agg #[.int .i64 t114, .slice Ao41 t115.length co41], .int .i64 0, .slice A45 y120.length c45] (by rfl) rfl rfl (by (try simp only [List.map_toArray, List.map_cons, List.map_nil]); first | done | rfl | (simp only [List.length_drop, List.length_take]; rfl)) ?_
          with_reducible refine (patAll.calls t114 _ _ t115 0 _ _ y120 t124 t125 t128 _ ?side1 ?side2 ?side3 ?side4 A21.out).mono ?_
          (case side1 => repeat (first | exact (Kd.R_reads' HO117.out).2.2 | (with_reducible refine Kd.C_alloc ?_ _) | (with_reducible refine Kd.C_drewN ?_ _) | (with_reducible refine Kd.C_drew ?_)))
          (case side2 => exact (Kd.R_reads' HO117.out).2.1)
          (case side3 => repeat (first | exact (Kd.C_below HR123.out HB.out) | (with_reducible refine Kd.C_alloc ?_ _) | (with_reducible refine Kd.C_drewN ?_ _) | (with_reducible refine Kd.C_drew ?_)))
          (case side4 => exact HC123.out)
          rintro e w47 ⟨v126, rfl, ho0, hb⟩
          refine ⟨_, rfl, ?_⟩
          have n0_ := Aside0.mk (Kd.R_elder' (by (with_reducible repeat (first | apply Kd.R_alloc | apply Kd.R_drewN | apply Kd.R_drew)); exact HO107.out) (Kd.R_base ho0) hb)
          have n1_ := Aside0.mk (Kd.R_elder' (by (with_reducible repeat (first | apply Kd.R_alloc | apply Kd.R_drewN | apply Kd.R_drew)); exact HO117.out) (Kd.R_base ho0) hb)
          have n2_ := Aside0.mk (Kd.R_lower (Kd.R_new' (Kd.R_new' ho0 (Kd.R_lt (by (with_reducible repeat (first | apply Kd.R_alloc | apply Kd.R_drewN | apply Kd.R_drew)); exact HO107.out))) (Kd.R_lt (by (with_reducible repeat (first | apply Kd.R_alloc | apply Kd.R_drewN | apply Kd.R_drew)); exact HO117.out))) (below_size (by repeat (first | (with_reducible first | exact HB.out | apply below_alloc | apply pw_below_drewN | apply below_drew1 | refine below_set ?_ GE101.out | refine below_set ?_ GE109.out | refine below_set ?_ GE119.out | refine below_set ?_ GE129.out) | exact HB.out))))
          have n3_ := Aside0.mk (blk_below (g := gb101) (o := .cells #[.int .i64 a0_0, .slice A0_1 l0_1.length c0_1] 24 (0, 0)) (by (with_reducible repeat (first | refine blk_drewN ?_ _ | refine blk_drew ?_ | refine blk_alloc ?_ _)); exact BK101.out) hb)
          have n4_ := Aside0.mk (blk_below (g := gb109) (o := .cells #[.int .i64 t104, .slice Ao33 t105.length co33] 24 (0, 0)) (by (with_reducible repeat (first | refine blk_drewN ?_ _ | refine blk_drew ?_ | refine blk_alloc ?_ _)); exact BK109.out) hb)
          have n5_ := Aside0.mk (blk_below (g := gb119) (o := .cells #[.int .i64 t114, .slice Ao41 t115.length co41] 24 (0, 0)) (by (with_reducible repeat (first | refine blk_drewN ?_ _ | refine blk_drew ?_ | refine blk_alloc ?_ _)); exact BK119.out) hb)
          have n6_ := Aside0.mk (blk_below (g := gb129) (o := .cells #[.int .i64 0, .slice none 0 0] 24 (0, 0)) (by (with_reducible repeat (first | refine blk_drewN ?_ _ | refine blk_drew ?_ | refine blk_alloc ?_ _)); exact BK129.out) hb)
          have n7_ := Aside0.mk (below_step (by repeat (first | (with_reducible first | exact HB.out | apply below_alloc | apply pw_below_drewN | apply below_drew1 | refine below_set ?_ GE101.out | refine below_set ?_ GE109.out | refine below_set ?_ GE119.out | refine below_set ?_ GE129.out) | exact HB.out)) hb)
          clear HO107
          clear HO117
          clear BK101
          clear BK109
          clear BK119
          clear BK129
          clear HB
          have HO107 := n0_
          have HO117 := n1_
          have HO127 := n2_
          have BK101 := n3_
          have BK109 := n4_
          have BK119 := n5_
          have BK129 := n6_
          have HB := n7_
          clear n0_ n1_ n2_ n3_ n4_ n5_ n6_ n7_
          (try clear hb)
          (try clear hb2)
          (try clear hk)
          (try clear hi)
          (try clear ho0)
          refine hK.out _ _ ⟨(blk_cell BK119.out 0).trans rfl, (blk_cell BK119.out 1).trans rfl⟩ (fun hHeld => ?_)
          clear hK K
          refine norm_ (a' := ?_) ?_ ?_
          rotate_left
          ·show Act.put _ (some 51) _ = _
           simp only [Act.put, List.setIfInBounds_toArray, List.set_cons_zero, List.set_cons_succ, i64_w, i32_w]
           rfl
          refine pure_ (i := 5) (N := some 46) (v := ?_) (a' := ?_) #[true, true, true, true, true, true, false, false, true, false, false] rfl rfl (any_of HT_.out (by kernel_rfl)) (fun _ _ _ h => h) (Or.inl ⟨by rfl, ?_⟩) ?_ ?_
          rotate_left
          ·intro w'
           go_simp
           with_reducible rfl
          rotate_left
          ·simp only [Act.put, List.setIfInBounds_toArray, List.set_cons_zero, List.set_cons_succ, i64_w, i32_w]
           rfl
          refine pure_ (i := 6) (N := some 52) (v := ?_) (a' := ?_) #[true, true, true, true, true, true, true, false, true, false, false] rfl rfl (any_of HT_.out (by kernel_rfl)) (fun _ _ _ h => h) (Or.inl ⟨by rfl, ?_⟩) ?_ ?_
          rotate_left
          ·intro w'
           go_simp
           with_reducible rfl
          rotate_left
          ·simp only [Act.put, List.setIfInBounds_toArray, List.set_cons_zero, List.set_cons_succ, i64_w, i32_w]
           rfl
          refine pure_ (i := 7) (N := some 53) (v := ?_) (a' := ?_) #[true, true, true, true, true, true, true, true, true, false, false] rfl rfl (any_of HT_.out (by kernel_rfl)) (fun _ _ _ h => h) (Or.inl ⟨by rfl, ?_⟩) ?_ ?_
          rotate_left
          ·intro w'
           go_simp
           with_reducible rfl
          rotate_left
          ·simp only [Act.put, List.setIfInBounds_toArray, List.set_cons_zero, List.set_cons_succ, i64_w, i32_w]
           rfl
          exact norm_ (by simp only [putAll, Act.put, List.setIfInBounds_toArray, List.set_cons_zero, List.set_cons_succ]) (hCont (v126, gb129) _ ⟨hHeld, (by (with_reducible repeat (first | apply Kd.R_alloc | apply Kd.R_drewN | apply Kd.R_drew)); exact HO107.out), (by (with_reducible repeat (first | apply Kd.R_alloc | apply Kd.R_drewN | apply Kd.R_drew)); exact HO117.out), (by (with_reducible repeat (first | apply Kd.R_alloc | apply Kd.R_drewN | apply Kd.R_drew)); exact Kd.R_mono HO127.out (fun _ hk => ⟨hk.1.2, hk.2⟩)), (by (with_reducible repeat (first | refine blk_drewN ?_ _ | refine blk_drew ?_ | refine blk_alloc ?_ _)); exact BK101.out), (by (with_reducible repeat (first | refine blk_drewN ?_ _ | refine blk_drew ?_ | refine blk_alloc ?_ _)); exact BK109.out), (by (with_reducible repeat (first | refine blk_drewN ?_ _ | refine blk_drew ?_ | refine blk_alloc ?_ _)); exact BK119.out), (by (with_reducible repeat (first | refine blk_drewN ?_ _ | refine blk_drew ?_ | refine blk_alloc ?_ _)); exact BK129.out), GW129.out, GE129.out, NB101_129.out, NB129_101.out, NB109_129.out, NB129_109.out, NB119_129.out, NB129_119.out, (by repeat (first | (with_reducible first | exact HB.out | apply below_alloc | apply pw_below_drewN | apply below_drew1 | refine below_set ?_ GE101.out | refine below_set ?_ GE109.out | refine below_set ?_ GE119.out | refine below_set ?_ GE129.out) | exact HB.out))⟩)
        rintro ⟨v126, gb129⟩ w48 ⟨hS_, h0_, h1_, h2_, h3_, h4_, h5_, h6_, h7_, h8_, h9_, h10_, h11_, h12_, h13_, h14_, h15_⟩
        have n0_ : Aside0 (Kd.R k33 33 w48 w.heap.size (fun k_ => some k_ ≠ (.slice Ao41 t115.length co41 : Value).ownBlock ∧ some k_ ≠ (v126 : Value).ownBlock) (.slice Ao33 t105.length co33) t105) := ⟨h0_⟩
        have n1_ : Aside0 (Kd.R k33 33 w48 w.heap.size (fun k_ => some k_ ≠ (.slice Ao33 t105.length co33 : Value).ownBlock ∧ some k_ ≠ (v126 : Value).ownBlock) (.slice Ao41 t115.length co41) t115) := ⟨h1_⟩
        have n2_ : Aside0 (Kd.R k33 33 w48 w.heap.size (fun k_ => some k_ ≠ (.slice Ao33 t105.length co33 : Value).ownBlock ∧ some k_ ≠ (.slice Ao41 t115.length co41 : Value).ownBlock) v126 t125) := ⟨h2_⟩
        have n3_ : Aside0 (w48.heap[gb101]? = some (.cells #[.int .i64 a0_0, .slice A0_1 l0_1.length c0_1] 24 (0, 0))) := ⟨h3_⟩
        have n4_ : Aside0 (w48.heap[gb109]? = some (.cells #[.int .i64 t104, .slice Ao33 t105.length co33] 24 (0, 0))) := ⟨h4_⟩
        have n5_ : Aside0 (w48.heap[gb119]? = some (.cells #[.int .i64 t114, .slice Ao41 t115.length co41] 24 (0, 0))) := ⟨h5_⟩
        have n6_ : Aside0 (w48.heap[gb129]? = some (.cells #[.int .i64 0, .slice none 0 0] 24 (0, 0))) := ⟨h6_⟩
        have n7_ : Aside0 (w.heap.size ≤ gb129) := ⟨h7_⟩
        have n8_ : Aside0 (w.heap.size ≤ gb129) := ⟨h8_⟩
        have n9_ : Aside0 (gb101 ≠ gb129) := ⟨h9_⟩
        have n10_ : Aside0 (gb129 ≠ gb101) := ⟨h10_⟩
        have n11_ : Aside0 (gb109 ≠ gb129) := ⟨h11_⟩
        have n12_ : Aside0 (gb129 ≠ gb109) := ⟨h12_⟩
        have n13_ : Aside0 (gb119 ≠ gb129) := ⟨h13_⟩
        have n14_ : Aside0 (gb129 ≠ gb119) := ⟨h14_⟩
        have n15_ : Aside0 (Below w.heap.size w w48) := ⟨h15_⟩
        clear HO107
        clear HO117
        clear BK101
        clear BK109
        clear BK119
        clear HB
        clear h0_ h1_ h2_ h3_ h4_ h5_ h6_ h7_ h8_ h9_ h10_ h11_ h12_ h13_ h14_ h15_
        have HO107 := n0_
        have HO117 := n1_
        have HO127 := n2_
        have BK101 := n3_
        have BK109 := n4_
        have BK119 := n5_
        have BK129 := n6_
        have GW129 := n7_
        have GE129 := n8_
        have NB101_129 := n9_
        have NB129_101 := n10_
        have NB109_129 := n11_
        have NB129_109 := n12_
        have NB119_129 := n13_
        have NB129_119 := n14_
        have HB := n15_
        clear n0_ n1_ n2_ n3_ n4_ n5_ n6_ n7_ n8_ n9_ n10_ n11_ n12_ n13_ n14_ n15_
        have hHeld : w48.cell? ⟨gb119, 0, none⟩ = some (.int .i64 t114) ∧ w48.cell? ⟨gb119, 1, none⟩ = some (.slice Ao41 t115.length co41) := hS_
        obtain ⟨Ao50, co50, eo50⟩ := Kd.R_slice HO127.out
        (first | subst eo50 | (injection eo50 with f1_ f2_ f3_; have f4_ := f1_.symm; have f5_ := f3_.symm; clear f1_ f2_ f3_; subst f4_; subst f5_))
        refine norm_ (a' := ?_) ?_ ?_
        rotate_left
        ·simp only [putAll, Act.put, List.setIfInBounds_toArray, List.set_cons_zero, List.set_cons_succ]
         rfl
        refine one_ (i := 9) (N := none) #[true, true, true, true, true, true, true, true, true, true, false] rfl rfl (one_of HT_.out (by kernel_rfl)) (by decide) (fun K hK => ?_)
        have hs49 : w48.cell? ⟨gb129, 0, none⟩ = some (.int .i64 0) := (blk_cell BK129.out 0).trans rfl
        have hfs49 := blk_frozen BK129.out 0
        have hns49_0 := NB101_129.out
        have hns49_1 := NB109_129.out
        have hns49_2 := NB119_129.out
        have hms49_0 := NB129_101.out
        have hms49_1 := NB129_109.out
        have hms49_2 := NB129_119.out
        have hs51 : w48.cell? ⟨gb129, 1, none⟩ = some (.slice none 0 0) := (blk_cell BK129.out 1).trans rfl
        have hfs51 := blk_frozen BK129.out 1
        have hns51_0 := NB101_129.out
        have hns51_1 := NB109_129.out
        have hns51_2 := NB119_129.out
        have hms51_0 := NB129_101.out
        have hms51_1 := NB129_109.out
        have hms51_2 := NB129_119.out
        refine skip_ (w1 := ?_) (by rfl) rfl ?_ ?_
        rotate_left
        ·go_simp
         rfl
        refine hK.out _ _ ⟨((cell_far (p := ⟨gb129, _, none⟩) NB119_129.out _).trans (((cell_far (p := ⟨gb129, _, none⟩) NB119_129.out _).trans (hHeld.1)))), ((cell_far (p := ⟨gb129, _, none⟩) NB119_129.out _).trans (((cell_far (p := ⟨gb129, _, none⟩) NB119_129.out _).trans (hHeld.2))))⟩ (fun hHeld => ?_)
        clear hK K
        refine pure_ (i := 10) (N := some 13) (v := ?_) (a' := ?_) #[true, true, true, true, true, true, true, true, true, true, true] rfl rfl (any_of HT_.out (by kernel_rfl)) (fun _ _ _ h => h) (Or.inl ⟨by rfl, ?_⟩) ?_ ?_
        rotate_left
        ·intro w'
         go_simp
         with_reducible rfl
        rotate_left
        ·simp only [Act.put, List.setIfInBounds_toArray, List.set_cons_zero, List.set_cons_succ, i64_w, i32_w]
         rfl
        refine done_ (done_of HT_.out (by kernel_rfl)) ?_
        have hnb52 := NB129_101.out
        have hnc52 := NB101_129.out
        have hnb53 := NB129_109.out
        have hnc53 := NB109_129.out
        have hnb54 := NB129_119.out
        have hnc54 := NB119_129.out
        obtain ⟨hcz55_0, hcz55_1⟩ := cl2 (W := w48) BK129.out
        obtain ⟨hfz55_0, hfz55_1⟩ := fr2 BK129.out
        have hnb56 := NB109_119.out
        have hnc56 := NB119_109.out
        obtain ⟨hcz57_0, hcz57_1⟩ := cl2 (W := w48) BK109.out
        obtain ⟨hfz57_0, hfz57_1⟩ := fr2 BK109.out
        try go_wp2_with (first | (go_at_call 42; (with_reducible refine (refSame.calls t124 _ _ t125 t104 _ _ t105 t130 _ ?side1 ?side2 ?side3 ?side4 A23.out).mono ?_); (case side1 => refine (Kd.R_reads' (e := 33) (base := w.heap.size) (ok := fun k_ => (some k_ ≠ (.slice Ao33 t105.length co33 : Value).ownBlock ∧ some k_ ≠ (.slice Ao41 t115.length co41 : Value).ownBlock)) (n := t125.length) (c := co50) ?_).2.2; exact (by (with_reducible repeat (first | apply Kd.R_alloc | apply Kd.R_drewN | apply Kd.R_drew)); exact (Kd.R_mono (Kd.R_far (p := ⟨gb129, 1, none⟩) (Kd.R_far (p := ⟨gb129, 0, none⟩) (Kd.R_types HO127.out BK129.out (by decide)) (fun _ hk => hk.2) (.int .i64 t124)) (fun _ hk => hk.2) (.slice Ao50 t125.length co50)) (fun _ h_ => h_.1)))); (case side2 => exact (Kd.R_reads' HO127.out).2.1); (case side3 => refine (Kd.R_reads' (e := 33) (base := w.heap.size) (ok := fun k_ => (some k_ ≠ (.slice Ao41 t115.length co41 : Value).ownBlock ∧ some k_ ≠ (.slice Ao50 t125.length co50 : Value).ownBlock)) (n := t105.length) (c := co33) ?_).2.2; exact (by (with_reducible repeat (first | apply Kd.R_alloc | apply Kd.R_drewN | apply Kd.R_drew)); exact (Kd.R_mono (Kd.R_far (p := ⟨gb129, 1, none⟩) (Kd.R_far (p := ⟨gb129, 0, none⟩) (Kd.R_types HO107.out BK129.out (by decide)) (fun _ hk => hk.2) (.int .i64 t124)) (fun _ hk => hk.2) (.slice Ao50 t125.length co50)) (fun _ h_ => h_.1)))); (case side4 => exact (Kd.R_reads' HO107.out).2.1); rintro e w58 ⟨rfl, hb⟩; have n0_ := Aside0.mk (Kd.R_below (by (with_reducible repeat (first | apply Kd.R_alloc | apply Kd.R_drewN | apply Kd.R_drew)); exact (Kd.R_mono (Kd.R_far (p := ⟨gb129, 1, none⟩) (Kd.R_far (p := ⟨gb129, 0, none⟩) (Kd.R_types HO107.out BK129.out (by decide)) (fun _ hk => hk.2) (.int .i64 t124)) (fun _ hk => hk.2) (.slice Ao50 t125.length co50)) (fun _ h_ => h_.1))) hb); have n1_ := Aside0.mk (Kd.R_below (by (with_reducible repeat (first | apply Kd.R_alloc | apply Kd.R_drewN | apply Kd.R_drew)); exact (Kd.R_mono (Kd.R_far (p := ⟨gb129, 1, none⟩) (Kd.R_far (p := ⟨gb129, 0, none⟩) (Kd.R_types HO117.out BK129.out (by decide)) (fun _ hk => hk.2) (.int .i64 t124)) (fun _ hk => hk.2) (.slice Ao50 t125.length co50)) (fun _ h_ => h_.1))) hb); have n2_ := Aside0.mk (Kd.R_below (by (with_reducible repeat (first | apply Kd.R_alloc | apply Kd.R_drewN | apply Kd.R_drew)); exact (Kd.R_mono (Kd.R_far (p := ⟨gb129, 1, none⟩) (Kd.R_far (p := ⟨gb129, 0, none⟩) (Kd.R_types HO127.out BK129.out (by decide)) (fun _ hk => hk.2) (.int .i64 t124)) (fun _ hk => hk.2) (.slice Ao50 t125.length co50)) (fun _ h_ => h_.1))) hb); have n3_ := Aside0.mk (blk_below (g := gb101) (o := .cells #[.int .i64 a0_0, .slice A0_1 l0_1.length c0_1] 24 (0, 0)) (by (with_reducible repeat (first | refine blk_drewN ?_ _ | refine blk_drew ?_ | refine blk_alloc ?_ _)); refine blk_far ?_ NB101_129.out _; refine blk_far ?_ NB101_129.out _; (with_reducible repeat (first | refine blk_drewN ?_ _ | refine blk_drew ?_ | refine blk_alloc ?_ _)); exact BK101.out) hb); have n4_ := Aside0.mk (blk_below (g := gb109) (o := .cells #[.int .i64 t104, .slice Ao33 t105.length co33] 24 (0, 0)) (by (with_reducible repeat (first | refine blk_drewN ?_ _ | refine blk_drew ?_ | refine blk_alloc ?_ _)); refine blk_far ?_ NB109_129.out _; refine blk_far ?_ NB109_129.out _; (with_reducible repeat (first | refine blk_drewN ?_ _ | refine blk_drew ?_ | refine blk_alloc ?_ _)); exact BK109.out) hb); have n5_ := Aside0.mk (blk_below (g := gb119) (o := .cells #[.int .i64 t114, .slice Ao41 t115.length co41] 24 (0, 0)) (by (with_reducible repeat (first | refine blk_drewN ?_ _ | refine blk_drew ?_ | refine blk_alloc ?_ _)); refine blk_far ?_ NB119_129.out _; refine blk_far ?_ NB119_129.out _; (with_reducible repeat (first | refine blk_drewN ?_ _ | refine blk_drew ?_ | refine blk_alloc ?_ _)); exact BK119.out) hb); have n6_ := Aside0.mk (blk_below (g := gb129) (o := .cells #[.int .i64 t124, .slice Ao50 t125.length co50] 24 (0, 0)) (by (with_reducible repeat (first | refine blk_drewN ?_ _ | refine blk_drew ?_ | refine blk_alloc ?_ _)); refine blk_put (cs := #[.int .i64 t124, .slice none 0 0]) ?_ 1 _ rfl; refine blk_put (cs := #[.int .i64 0, .slice none 0 0]) ?_ 0 _ rfl; (with_reducible repeat (first | refine blk_drewN ?_ _ | refine blk_drew ?_ | refine blk_alloc ?_ _)); exact BK129.out) hb); have n7_ := Aside0.mk (below_step (by repeat (first | (with_reducible first | exact HB.out | apply below_alloc | apply pw_below_drewN | apply below_drew1 | refine below_set ?_ GE101.out | refine below_set ?_ GE109.out | refine below_set ?_ GE119.out | refine below_set ?_ GE129.out) | exact HB.out)) hb); clear HO107; clear HO117; clear HO127; clear BK101; clear BK109; clear BK119; clear BK129; clear HB; have HO107 := n0_; have HO117 := n1_; have HO127 := n2_; have BK101 := n3_; have BK109 := n4_; have BK119 := n5_; have BK129 := n6_; have HB := n7_; clear n0_ n1_ n2_ n3_ n4_ n5_ n6_ n7_; (try clear hb); (try clear hb2); (try clear hk); (try clear hi)))
        go_ret
        exact ⟨by first | rfl | (simp [errW_none, errW_some] <;> rfl) | (simp only [← hji14]; first | rfl | (simp [errW_none, errW_some] <;> rfl)) | (simp [*, errW_none, errW_some] <;> rfl), by repeat (first | (with_reducible first | exact HB.out | apply below_alloc | apply pw_below_drewN | apply below_drew1 | refine below_set ?_ GE101.out | refine below_set ?_ GE109.out | refine below_set ?_ GE119.out | refine below_set ?_ GE129.out) | exact HB.out)⟩
       ·rw [if_neg c22] at H
        have c22b0 : (t108 == t128) = false := beq_eq_false_iff_ne.mpr c22
        have c22b1 : (t108 != t128) = true := bne_iff_ne.mpr c22
        obtain rfl := Option.some.inj H
        exact absurd HRT.out (by decide)
      ·rw [if_neg c18] at H
       have c18b0 : (t118 == 0) = false := beq_eq_false_iff_ne.mpr c18
       have c18b1 : (t118 != 0) = true := bne_iff_ne.mpr c18
       obtain rfl := Option.some.inj H
       go_enter Try.func22, Try.ntmps22
       try go_wp2_with (first | ((with_reducible refine gate_dst (N := 3) rfl ?_); refine box_event ?hg (N := 3) ?hd (cs := #[.int .i64 a0_0, .slice A0_1 l0_1.length c0_1]) (t := 24) ?hr ?_; (case hd => rfl); (case hg => rfl); (case hr => first | (go_simp; done) | (go_simp; rfl)); intro gb101 hg w59 hbox hb; have n0_ := Aside0.mk (below_step (by repeat (first | (with_reducible first | exact HB.out | apply below_alloc | apply pw_below_drewN | apply below_drew1) | exact HB.out)) hb); have n1_ := Aside0.mk (hbox); have n2_ := Aside0.mk ((by rw [hg]; exact (below_size (by repeat (first | (with_reducible first | exact HB.out | apply below_alloc | apply pw_below_drewN | apply below_drew1) | exact HB.out))) : w.heap.size ≤ gb101)); have n3_ := Aside0.mk ((by rw [hg]; exact (below_size (by repeat (first | (with_reducible first | exact HB.out | apply below_alloc | apply pw_below_drewN | apply below_drew1) | exact HB.out))) : w.heap.size ≤ gb101)); clear HB; have HB := n0_; have BK101 := n1_; have GW101 := n2_; have GE101 := n3_; clear n0_ n1_ n2_ n3_; clear hb hbox hg) | ((with_reducible refine gate_callee (f := 65) rfl ?_); refine goesL_ (some 14) rfl rfl Try.func65 (by kernel_rfl) rfl #[] rfl (by (try simp only [List.map_toArray, List.map_cons, List.map_nil]); first | done | rfl | (simp only [List.length_drop, List.length_take]; rfl)) ?_; (with_reducible refine (awake5.calls  true _ A4.out).mono ?_); rintro e w60 ⟨rfl, hb⟩; refine ⟨_, rfl, ?_⟩; have n0_ := Aside0.mk (blk_below (g := gb101) (o := .cells #[.int .i64 a0_0, .slice A0_1 l0_1.length c0_1] 24 (0, 0)) (by (with_reducible repeat (first | refine blk_drewN ?_ _ | refine blk_drew ?_ | refine blk_alloc ?_ _)); exact BK101.out) hb); have n1_ := Aside0.mk (below_step (by repeat (first | (with_reducible first | exact HB.out | apply below_alloc | apply pw_below_drewN | apply below_drew1 | refine below_set ?_ GE101.out) | exact HB.out)) hb); clear BK101; clear HB; have BK101 := n0_; have HB := n1_; clear n0_ n1_; (try clear hb); (try clear hb2); (try clear hk); (try clear hi); obtain ⟨hcz61_0, hcz61_1⟩ := cl2 (W := w60) BK101.out; obtain ⟨hfz61_0, hfz61_1⟩ := fr2 BK101.out) | ((with_reducible refine gate_callee (f := 66) rfl ?_); refine goesL_ (some 18) rfl rfl Try.func66 (by kernel_rfl) rfl #[.agg #[.int .i64 a0_0, .slice A0_1 l0_1.length c0_1], .slice A1 l1.length c1] rfl (by (try simp only [List.map_toArray, List.map_cons, List.map_nil]); first | done | rfl | (simp only [List.length_drop, List.length_take]; rfl)) ?_; (with_reducible refine (great5.calls a0_0 _ _ l0_1 _ _ l1 false _ ?side1 ?side2 ?side3 ?side4 A6.out).mono ?_); (case side1 => repeat (first | exact (Kd.C_below HR0_1.out HB.out) | (with_reducible refine Kd.C_alloc ?_ _) | (with_reducible refine Kd.C_drewN ?_ _) | (with_reducible refine Kd.C_drew ?_))); (case side2 => exact HC0_1.out); (case side3 => repeat (first | exact (Kd.C_below HR1.out HB.out) | (with_reducible refine Kd.C_alloc ?_ _) | (with_reducible refine Kd.C_drewN ?_ _) | (with_reducible refine Kd.C_drew ?_))); (case side4 => exact HC1.out); rintro e w62 ⟨rfl, hb⟩; refine ⟨_, rfl, ?_⟩; have n0_ := Aside0.mk (blk_below (g := gb101) (o := .cells #[.int .i64 a0_0, .slice A0_1 l0_1.length c0_1] 24 (0, 0)) (by (with_reducible repeat (first | refine blk_drewN ?_ _ | refine blk_drew ?_ | refine blk_alloc ?_ _)); exact BK101.out) hb); have n1_ := Aside0.mk (below_step (by repeat (first | (with_reducible first | exact HB.out | apply below_alloc | apply pw_below_drewN | apply below_drew1 | refine below_set ?_ GE101.out) | exact HB.out)) hb); clear BK101; clear HB; have BK101 := n0_; have HB := n1_; clear n0_ n1_; (try clear hb); (try clear hb2); (try clear hk); (try clear hi); obtain ⟨hcz63_0, hcz63_1⟩ := cl2 (W := w62) BK101.out; obtain ⟨hfz63_0, hfz63_1⟩ := fr2 BK101.out) | ((with_reducible refine gate_callee (f := 71) rfl ?_); refine goesL_ (some 30) rfl rfl Try.func71 (by kernel_rfl) rfl #[.agg #[.int .i64 a0_0, .slice A0_1 l0_1.length c0_1], .int .i64 0, .slice A1 l1.length c1] rfl (by (try simp only [List.map_toArray, List.map_cons, List.map_nil]); first | done | rfl | (simp only [List.length_drop, List.length_take]; rfl)) ?_; (with_reducible refine (patAll.calls a0_0 _ _ l0_1 0 _ _ l1 t104 t105 t108 _ ?side1 ?side2 ?side3 ?side4 A13.out).mono ?_); (case side1 => repeat (first | exact (Kd.C_below HR0_1.out HB.out) | (with_reducible refine Kd.C_alloc ?_ _) | (with_reducible refine Kd.C_drewN ?_ _) | (with_reducible refine Kd.C_drew ?_))); (case side2 => exact HC0_1.out); (case side3 => repeat (first | exact (Kd.C_below HR1.out HB.out) | (with_reducible refine Kd.C_alloc ?_ _) | (with_reducible refine Kd.C_drewN ?_ _) | (with_reducible refine Kd.C_drew ?_))); (case side4 => exact HC1.out); rintro e w64 ⟨v106, rfl, ho0, hb⟩; refine ⟨_, rfl, ?_⟩; have n0_ := Aside0.mk (Kd.R_lower ho0 (below_size (by repeat (first | (with_reducible first | exact HB.out | apply below_alloc | apply pw_below_drewN | apply below_drew1 | refine below_set ?_ GE101.out) | exact HB.out)))); have n1_ := Aside0.mk (blk_below (g := gb101) (o := .cells #[.int .i64 a0_0, .slice A0_1 l0_1.length c0_1] 24 (0, 0)) (by (with_reducible repeat (first | refine blk_drewN ?_ _ | refine blk_drew ?_ | refine blk_alloc ?_ _)); exact BK101.out) hb); have n2_ := Aside0.mk (below_step (by repeat (first | (with_reducible first | exact HB.out | apply below_alloc | apply pw_below_drewN | apply below_drew1 | refine below_set ?_ GE101.out) | exact HB.out)) hb); clear BK101; clear HB; have HO107 := n0_; have BK101 := n1_; have HB := n2_; clear n0_ n1_ n2_; (try clear hb); (try clear hb2); (try clear hk); (try clear hi); (try clear ho0)) | ((with_reducible refine gate_dst (N := 8) rfl ?_); refine box_event ?hg (N := 8) ?hd (cs := #[.int .i64 0, .slice none 0 0]) (t := 24) ?hr ?_; (case hd => rfl); (case hg => rfl); (case hr => first | (go_simp; done) | (go_simp; rfl)); intro gb109 hg w65 hbox hb; have n0_ := Aside0.mk (Kd.R_below (by (with_reducible repeat (first | apply Kd.R_alloc | apply Kd.R_drewN | apply Kd.R_drew)); exact HO107.out) hb); have n1_ := Aside0.mk (blk_below (g := gb101) (o := .cells #[.int .i64 a0_0, .slice A0_1 l0_1.length c0_1] 24 (0, 0)) (by (with_reducible repeat (first | refine blk_drewN ?_ _ | refine blk_drew ?_ | refine blk_alloc ?_ _)); exact BK101.out) hb); have n2_ := Aside0.mk (below_step (by repeat (first | (with_reducible first | exact HB.out | apply below_alloc | apply pw_below_drewN | apply below_drew1 | refine below_set ?_ GE101.out) | exact HB.out)) hb); have n3_ := Aside0.mk (hbox); have n4_ := Aside0.mk ((by rw [hg]; exact (below_size (by repeat (first | (with_reducible first | exact HB.out | apply below_alloc | apply pw_below_drewN | apply below_drew1 | refine below_set ?_ GE101.out) | exact HB.out))) : w.heap.size ≤ gb109)); have n5_ := Aside0.mk ((by rw [hg]; exact (below_size (by repeat (first | (with_reducible first | exact HB.out | apply below_alloc | apply pw_below_drewN | apply below_drew1 | refine below_set ?_ GE101.out) | exact HB.out))) : w.heap.size ≤ gb109)); have n6_ := Aside0.mk ((by rw [hg]; exact Nat.ne_of_lt (blk_lt (g := gb101) (o := .cells #[.int .i64 a0_0, .slice A0_1 l0_1.length c0_1] 24 (0, 0)) (by (with_reducible repeat (first | refine blk_drewN ?_ _ | refine blk_drew ?_ | refine blk_alloc ?_ _)); exact BK101.out)) : gb101 ≠ gb109)); have n7_ := Aside0.mk ((by rw [hg]; exact Nat.ne_of_gt (blk_lt (g := gb101) (o := .cells #[.int .i64 a0_0, .slice A0_1 l0_1.length c0_1] 24 (0, 0)) (by (with_reducible repeat (first | refine blk_drewN ?_ _ | refine blk_drew ?_ | refine blk_alloc ?_ _)); exact BK101.out)) : gb109 ≠ gb101)); clear HO107; clear BK101; clear HB; have HO107 := n0_; have BK101 := n1_; have HB := n2_; have BK109 := n3_; have GW109 := n4_; have GE109 := n5_; have NB101_109 := n6_; have NB109_101 := n7_; clear n0_ n1_ n2_ n3_ n4_ n5_ n6_ n7_; clear hb hbox hg; have hnb66 := NB109_101.out; have hnc66 := NB101_109.out; obtain ⟨hcz67_0, hcz67_1⟩ := cl2 (W := w65) BK109.out; obtain ⟨hfz67_0, hfz67_1⟩ := fr2 BK109.out; obtain ⟨Ao68, co68, eo68⟩ := Kd.R_slice HO107.out; subst eo68))
       have n0_ : Aside0 (Kd.R k33 33 ((w65.setCell ⟨gb109, 0, none⟩ (.int .i64 t104)).setCell ⟨gb109, 1, none⟩ (.slice Ao68 t105.length co68)) w.heap.size (fun _ => True) (.slice Ao68 t105.length co68) t105) := ⟨by (with_reducible repeat (first | apply Kd.R_alloc | apply Kd.R_drewN | apply Kd.R_drew)); exact Kd.R_mono (Kd.R_far (p := ⟨gb109, 1, none⟩) (Kd.R_far (p := ⟨gb109, 0, none⟩) (Kd.R_types HO107.out BK109.out (by decide)) (fun _ hk => hk.2) (.int .i64 t104)) (fun _ hk => hk.2) (.slice Ao68 t105.length co68)) (fun _ hk => trivial)⟩
       have n1_ : Aside0 (((w65.setCell ⟨gb109, 0, none⟩ (.int .i64 t104)).setCell ⟨gb109, 1, none⟩ (.slice Ao68 t105.length co68)).heap[gb101]? = some (.cells #[.int .i64 a0_0, .slice A0_1 l0_1.length c0_1] 24 (0, 0))) := ⟨by (with_reducible repeat (first | refine blk_drewN ?_ _ | refine blk_drew ?_ | refine blk_alloc ?_ _)); refine blk_far ?_ NB101_109.out _; refine blk_far ?_ NB101_109.out _; (with_reducible repeat (first | refine blk_drewN ?_ _ | refine blk_drew ?_ | refine blk_alloc ?_ _)); exact BK101.out⟩
       have n2_ : Aside0 (((w65.setCell ⟨gb109, 0, none⟩ (.int .i64 t104)).setCell ⟨gb109, 1, none⟩ (.slice Ao68 t105.length co68)).heap[gb109]? = some (.cells #[.int .i64 t104, .slice Ao68 t105.length co68] 24 (0, 0))) := ⟨by (with_reducible repeat (first | refine blk_drewN ?_ _ | refine blk_drew ?_ | refine blk_alloc ?_ _)); refine blk_put (cs := #[.int .i64 t104, .slice none 0 0]) ?_ 1 _ rfl; refine blk_put (cs := #[.int .i64 0, .slice none 0 0]) ?_ 0 _ rfl; (with_reducible repeat (first | refine blk_drewN ?_ _ | refine blk_drew ?_ | refine blk_alloc ?_ _)); exact BK109.out⟩
       have n3_ : Aside0 (Below w.heap.size w ((w65.setCell ⟨gb109, 0, none⟩ (.int .i64 t104)).setCell ⟨gb109, 1, none⟩ (.slice Ao68 t105.length co68))) := ⟨by repeat (first | (with_reducible first | exact HB.out | apply below_alloc | apply pw_below_drewN | apply below_drew1 | refine below_set ?_ GE101.out | refine below_set ?_ GE109.out) | exact HB.out)⟩
       (try clear HO107)
       (try clear BK101)
       (try clear BK109)
       (try clear HB)
       generalize ((w65.setCell ⟨gb109, 0, none⟩ (.int .i64 t104)).setCell ⟨gb109, 1, none⟩ (.slice Ao68 t105.length co68)) = w69 at n0_ n1_ n2_ n3_ ⊢
       have HO107 := n0_
       have BK101 := n1_
       have BK109 := n2_
       have HB := n3_
       clear n0_ n1_ n2_ n3_
       have n0_ := Aside0.mk (Kd.R_drew HO107.out)
       have n1_ := Aside0.mk (blk_drew BK101.out)
       have n2_ := Aside0.mk (blk_drew BK109.out)
       have n3_ := Aside0.mk (below_drew1 HB.out)
       clear HO107
       clear BK101
       clear BK109
       clear HB
       have HO107 := n0_
       have BK101 := n1_
       have BK109 := n2_
       have HB := n3_
       clear n0_ n1_ n2_ n3_
       have q71 : ((ji14) : Int) ≤ ((l1.length : Int) : Int) := of_decide_eq_true (by first | (with_reducible assumption) | assumption)
       obtain ⟨i071, hi071, _, hsz71, _⟩ := info_parts info65
       have hroom71 : l1.length ≤ c1 := HC1.out
       have hC71 : Kd.C k65 _ A1 l1.length l1 := HR1.out
       have hcut71 := cut_to (P := Try.prog) 53 65 .i64 Try.underlying53 hi071 A1 l1.length c1 (ji14) (of_decide_eq_true (by first | (with_reducible assumption) | assumption)) q71 hroom71
       have hr71 := Kd.C_take (m := ((ji14) : Int).toNat) hC71 (by omega)
       have hy71 : y110.length = ((ji14) : Int).toNat := (by rw [Ny110.out, List.length_take]; omega)
       rw [← Ny110.out] at hr71
       rw [← hy71] at hcut71
       have HR113 := Aside0.mk hr71
       have HC113 := Aside0.mk (show y110.length ≤ c1 from by omega)
       clear hr71 hC71 hroom71 hi071 hsz71
       have KY71 := Aside0.mk hy71
       clear hy71
       replace q71 := eq_true q71
       refine start_ (n := 11) (S := fun w' => w'.cell? ⟨gb101, 0, none⟩ = some (.int .i64 a0_0) ∧ w'.cell? ⟨gb101, 1, none⟩ = some (.slice A0_1 l0_1.length c0_1)) (ds := []) #[false, false, false, false, false, false, false, false, false, false, false] (by kernel_rfl) rfl rfl ⟨(blk_cell BK101.out 0).trans rfl, (blk_cell BK101.out 1).trans rfl⟩ (fun hHeld => ?_); refine with_tabW seneschallaw05_PatchParts.tab7 seneschallaw05_PatchParts.bits7 (fun HT_ HW_ => ?_)
       generalize w69.drew = w70 at HO107 BK101 BK109 HB HR113 hHeld ⊢
       refine pure_ (i := 1) (N := some 35) (v := ?_) (a' := ?_) #[false, true, false, false, false, false, false, false, false, false, false] rfl rfl (any_of HT_.out (by kernel_rfl)) (fun _ _ _ h => h) (Or.inl ⟨by rfl, ?_⟩) ?_ ?_
       rotate_left
       ·intro w'
        go_simp
        with_reducible rfl
       rotate_left
       ·simp only [Act.put, List.setIfInBounds_toArray, List.set_cons_zero, List.set_cons_succ, i64_w, i32_w]
        rfl
       refine pure_ (i := 2) (N := some 36) (v := ?_) (a' := ?_) #[false, true, true, false, false, false, false, false, false, false, false] rfl rfl (any_of HT_.out (by kernel_rfl)) (fun _ _ _ h => h) (Or.inl ⟨by rfl, ?_⟩) ?_ ?_
       rotate_left
       ·intro w'
        go_simp
        with_reducible rfl
       rotate_left
       ·simp only [Act.put, List.setIfInBounds_toArray, List.set_cons_zero, List.set_cons_succ, i64_w, i32_w]
        rfl
       refine pure_ (i := 3) (N := some 37) (v := ?_) (a' := ?_) #[false, true, true, true, false, false, false, false, false, false, false] rfl rfl (any_of HT_.out (by kernel_rfl)) (fun _ _ _ h => h) (Or.inl ⟨by rfl, ?_⟩) ?_ ?_
       rotate_left
       ·intro w'
        go_simp
        with_reducible rfl
       rotate_left
       ·simp only [Act.put, List.setIfInBounds_toArray, List.set_cons_zero, List.set_cons_succ, i64_w, i32_w]
        rfl
       refine take_ (i := 0) (N := some 34) (v := ?_) (a' := ?_) #[true, true, true, true, false, false, false, false, false, false, false] rfl rfl (take_ofW HT_.out HW_.out (by kernel_rfl)) (fun _ _ _ h => h) (Or.inl ⟨by rfl, ?_⟩) hHeld ?_ ?_
       rotate_left
       ·rintro w' ⟨s0, s1⟩
        go_simp
        with_reducible rfl
       rotate_left
       ·simp only [Act.put, List.setIfInBounds_toArray, List.set_cons_zero, List.set_cons_succ, i64_w, i32_w]
        rfl
       refine join_ (σ := Value × Nat) 2 #[true, true, true, true, true, true, true, true, true, false, false] (fun s_ => [(38, .tuple #[.agg #[.int .i64 t114, s_.1], .int .i64 t118]), (10, .pointer (some ⟨s_.2, 0, none⟩)), (33, .tuple #[.agg #[.int .i64 t114, s_.1], .int .i64 t118]), (39, .agg #[.int .i64 t114, s_.1]), (40, .int .i64 t118)]) (fun s_ w' => (w'.cell? ⟨gb101, 0, none⟩ = some (.int .i64 a0_0) ∧ w'.cell? ⟨gb101, 1, none⟩ = some (.slice A0_1 l0_1.length c0_1)) ∧ (Kd.R k33 33 w' w.heap.size (fun k_ => some k_ ≠ (s_.1 : Value).ownBlock) (.slice Ao68 t105.length co68) t105) ∧ (Kd.R k33 33 w' w.heap.size (fun k_ => some k_ ≠ (.slice Ao68 t105.length co68 : Value).ownBlock) s_.1 t115) ∧ (w'.heap[gb101]? = some (.cells #[.int .i64 a0_0, .slice A0_1 l0_1.length c0_1] 24 (0, 0))) ∧ (w'.heap[gb109]? = some (.cells #[.int .i64 t104, .slice Ao68 t105.length co68] 24 (0, 0))) ∧ (w'.heap[s_.2]? = some (.cells #[.int .i64 0, .slice none 0 0] 24 (0, 0))) ∧ (w.heap.size ≤ s_.2) ∧ (w.heap.size ≤ s_.2) ∧ (gb101 ≠ s_.2) ∧ (s_.2 ≠ gb101) ∧ (gb109 ≠ s_.2) ∧ (s_.2 ≠ gb109) ∧ (Below w.heap.size w w')) ?_ ?_
       rotate_left
       ·intro hCont
        refine two_ (i := 4) (j := 8) (Ni := some 38) (Nj := some 10) #[true, true, true, true, true, false, false, false, false, false, false] #[true, true, true, true, false, false, false, false, true, false, false] rfl rfl rfl rfl (two_of HT_.out (by kernel_rfl)) (by decide) (by decide) (fun K hK => ?_) (fun K hK => ?_)
        ·skip
         refine goes_ Try.func71 (by kernel_rfl) rfl #[.agg #[.int .i64 a0_0, .slice A0_1 l0_1.length c0_1], .int .i64 0, .slice A1 y110.length c1] (by rfl) rfl rfl (by (try simp only [List.map_toArray, List.map_cons, List.map_nil]); first | done | rfl | (simp only [List.length_drop, List.length_take]; rfl)) ?_
         with_reducible refine (patAll.calls a0_0 _ _ l0_1 0 _ _ y110 t114 t115 t118 _ ?side1 ?side2 ?side3 ?side4 A17.out).mono ?_
         (case side1 => repeat (first | exact (Kd.C_below HR0_1.out HB.out) | (with_reducible refine Kd.C_alloc ?_ _) | (with_reducible refine Kd.C_drewN ?_ _) | (with_reducible refine Kd.C_drew ?_)))
         (case side2 => exact HC0_1.out)
         (case side3 => repeat (first | exact (Kd.C_below HR113.out HB.out) | (with_reducible refine Kd.C_alloc ?_ _) | (with_reducible refine Kd.C_drewN ?_ _) | (with_reducible refine Kd.C_drew ?_)))
         (case side4 => exact HC113.out)
         rintro e w72 ⟨v116, rfl, ho0, hb⟩
         refine ⟨_, rfl, ?_⟩
         have n0_ := Aside0.mk (Kd.R_elder' (by (with_reducible repeat (first | apply Kd.R_alloc | apply Kd.R_drewN | apply Kd.R_drew)); exact HO107.out) (Kd.R_base ho0) hb)
         have n1_ := Aside0.mk (Kd.R_lower (Kd.R_new' ho0 (Kd.R_lt (by (with_reducible repeat (first | apply Kd.R_alloc | apply Kd.R_drewN | apply Kd.R_drew)); exact HO107.out))) (below_size (by repeat (first | (with_reducible first | exact HB.out | apply below_alloc | apply pw_below_drewN | apply below_drew1 | refine below_set ?_ GE101.out | refine below_set ?_ GE109.out) | exact HB.out))))
         have n2_ := Aside0.mk (blk_below (g := gb101) (o := .cells #[.int .i64 a0_0, .slice A0_1 l0_1.length c0_1] 24 (0, 0)) (by (with_reducible repeat (first | refine blk_drewN ?_ _ | refine blk_drew ?_ | refine blk_alloc ?_ _)); exact BK101.out) hb)
         have n3_ := Aside0.mk (blk_below (g := gb109) (o := .cells #[.int .i64 t104, .slice Ao68 t105.length co68] 24 (0, 0)) (by (with_reducible repeat (first | refine blk_drewN ?_ _ | refine blk_drew ?_ | refine blk_alloc ?_ _)); exact BK109.out) hb)
         have n4_ := Aside0.mk (below_step (by repeat (first | (with_reducible first | exact HB.out | apply below_alloc | apply pw_below_drewN | apply below_drew1 | refine below_set ?_ GE101.out | refine below_set ?_ GE109.out) | exact HB.out)) hb)
         clear HO107
         clear BK101
         clear BK109
         clear HB
         have HO107 := n0_
         have HO117 := n1_
         have BK101 := n2_
         have BK109 := n3_
         have HB := n4_
         clear n0_ n1_ n2_ n3_ n4_
         (try clear hb)
         (try clear hb2)
         (try clear hk)
         (try clear hi)
         (try clear ho0)
         refine hK.out _ _ ⟨(blk_cell BK101.out 0).trans rfl, (blk_cell BK101.out 1).trans rfl⟩ (fun hHeld => ?_)
         clear hK K
         refine norm_ (a' := ?_) ?_ ?_
         rotate_left
         ·show Act.put _ (some 38) _ = _
          simp only [Act.put, List.setIfInBounds_toArray, List.set_cons_zero, List.set_cons_succ, i64_w, i32_w]
          rfl
         refine pure_ (i := 5) (N := some 33) (v := ?_) (a' := ?_) #[true, true, true, true, true, true, false, false, false, false, false] rfl rfl (any_of HT_.out (by kernel_rfl)) (fun _ _ _ h => h) (Or.inl ⟨by rfl, ?_⟩) ?_ ?_
         rotate_left
         ·intro w'
          go_simp
          with_reducible rfl
         rotate_left
         ·simp only [Act.put, List.setIfInBounds_toArray, List.set_cons_zero, List.set_cons_succ, i64_w, i32_w]
          rfl
         refine pure_ (i := 6) (N := some 39) (v := ?_) (a' := ?_) #[true, true, true, true, true, true, true, false, false, false, false] rfl rfl (any_of HT_.out (by kernel_rfl)) (fun _ _ _ h => h) (Or.inl ⟨by rfl, ?_⟩) ?_ ?_
         rotate_left
         ·intro w'
          go_simp
          with_reducible rfl
         rotate_left
         ·simp only [Act.put, List.setIfInBounds_toArray, List.set_cons_zero, List.set_cons_succ, i64_w, i32_w]
          rfl
         refine pure_ (i := 7) (N := some 40) (v := ?_) (a' := ?_) #[true, true, true, true, true, true, true, true, false, false, false] rfl rfl (any_of HT_.out (by kernel_rfl)) (fun _ _ _ h => h) (Or.inl ⟨by rfl, ?_⟩) ?_ ?_
         rotate_left
         ·intro w'
          go_simp
          with_reducible rfl
         rotate_left
         ·simp only [Act.put, List.setIfInBounds_toArray, List.set_cons_zero, List.set_cons_succ, i64_w, i32_w]
          rfl
         refine one_ (i := 8) (N := some 10) #[true, true, true, true, true, true, true, true, true, false, false] rfl rfl (one_of HT_.out (by kernel_rfl)) (by decide) (fun K hK => ?_)
         refine box_step ?hg (N := 10) ?hd (cs := #[.int .i64 0, .slice none 0 0]) (t := 24) ?hr ?_; (case hd => rfl); (case hg => rfl); (case hr => first | (go_simp; done) | (go_simp; rfl))
         intro gb119 hg w73 hbox hb
         have n0_ := Aside0.mk (Kd.R_below (by (with_reducible repeat (first | apply Kd.R_alloc | apply Kd.R_drewN | apply Kd.R_drew)); exact HO107.out) hb)
         have n1_ := Aside0.mk (Kd.R_below (by (with_reducible repeat (first | apply Kd.R_alloc | apply Kd.R_drewN | apply Kd.R_drew)); exact HO117.out) hb)
         have n2_ := Aside0.mk (blk_below (g := gb101) (o := .cells #[.int .i64 a0_0, .slice A0_1 l0_1.length c0_1] 24 (0, 0)) (by (with_reducible repeat (first | refine blk_drewN ?_ _ | refine blk_drew ?_ | refine blk_alloc ?_ _)); exact BK101.out) hb)
         have n3_ := Aside0.mk (blk_below (g := gb109) (o := .cells #[.int .i64 t104, .slice Ao68 t105.length co68] 24 (0, 0)) (by (with_reducible repeat (first | refine blk_drewN ?_ _ | refine blk_drew ?_ | refine blk_alloc ?_ _)); exact BK109.out) hb)
         have n4_ := Aside0.mk (below_step (by repeat (first | (with_reducible first | exact HB.out | apply below_alloc | apply pw_below_drewN | apply below_drew1 | refine below_set ?_ GE101.out | refine below_set ?_ GE109.out) | exact HB.out)) hb)
         have n5_ := Aside0.mk (hbox)
         have n6_ := Aside0.mk ((by rw [hg]; exact (below_size (by repeat (first | (with_reducible first | exact HB.out | apply below_alloc | apply pw_below_drewN | apply below_drew1 | refine below_set ?_ GE101.out | refine below_set ?_ GE109.out) | exact HB.out))) : w.heap.size ≤ gb119))
         have n7_ := Aside0.mk ((by rw [hg]; exact (below_size (by repeat (first | (with_reducible first | exact HB.out | apply below_alloc | apply pw_below_drewN | apply below_drew1 | refine below_set ?_ GE101.out | refine below_set ?_ GE109.out) | exact HB.out))) : w.heap.size ≤ gb119))
         have n8_ := Aside0.mk ((by rw [hg]; exact Nat.ne_of_lt (blk_lt (g := gb101) (o := .cells #[.int .i64 a0_0, .slice A0_1 l0_1.length c0_1] 24 (0, 0)) (by (with_reducible repeat (first | refine blk_drewN ?_ _ | refine blk_drew ?_ | refine blk_alloc ?_ _)); exact BK101.out)) : gb101 ≠ gb119))
         have n9_ := Aside0.mk ((by rw [hg]; exact Nat.ne_of_gt (blk_lt (g := gb101) (o := .cells #[.int .i64 a0_0, .slice A0_1 l0_1.length c0_1] 24 (0, 0)) (by (with_reducible repeat (first | refine blk_drewN ?_ _ | refine blk_drew ?_ | refine blk_alloc ?_ _)); exact BK101.out)) : gb119 ≠ gb101))
         have n10_ := Aside0.mk ((by rw [hg]; exact Nat.ne_of_lt (blk_lt (g := gb109) (o := .cells #[.int .i64 t104, .slice Ao68 t105.length co68] 24 (0, 0)) (by (with_reducible repeat (first | refine blk_drewN ?_ _ | refine blk_drew ?_ | refine blk_alloc ?_ _)); exact BK109.out)) : gb109 ≠ gb119))
         have n11_ := Aside0.mk ((by rw [hg]; exact Nat.ne_of_gt (blk_lt (g := gb109) (o := .cells #[.int .i64 t104, .slice Ao68 t105.length co68] 24 (0, 0)) (by (with_reducible repeat (first | refine blk_drewN ?_ _ | refine blk_drew ?_ | refine blk_alloc ?_ _)); exact BK109.out)) : gb119 ≠ gb109))
         clear HO107
         clear HO117
         clear BK101
         clear BK109
         clear HB
         have HO107 := n0_
         have HO117 := n1_
         have BK101 := n2_
         have BK109 := n3_
         have HB := n4_
         have BK119 := n5_
         have GW119 := n6_
         have GE119 := n7_
         have NB101_119 := n8_
         have NB119_101 := n9_
         have NB109_119 := n10_
         have NB119_109 := n11_
         clear n0_ n1_ n2_ n3_ n4_ n5_ n6_ n7_ n8_ n9_ n10_ n11_
         clear hb hbox hg
         refine hK.out _ _ ⟨(blk_cell BK101.out 0).trans rfl, (blk_cell BK101.out 1).trans rfl⟩ (fun hHeld => ?_)
         clear hK K
         refine norm_ (a' := ?_) ?_ ?_
         rotate_left
         ·show Act.put _ (some 10) _ = _
          simp only [Act.put, List.setIfInBounds_toArray, List.set_cons_zero, List.set_cons_succ, i64_w, i32_w]
          rfl
         exact norm_ (by simp only [putAll, Act.put, List.setIfInBounds_toArray, List.set_cons_zero, List.set_cons_succ]) (hCont (v116, gb119) _ ⟨hHeld, (by (with_reducible repeat (first | apply Kd.R_alloc | apply Kd.R_drewN | apply Kd.R_drew)); exact Kd.R_mono HO107.out (fun _ hk => hk.2)), (by (with_reducible repeat (first | apply Kd.R_alloc | apply Kd.R_drewN | apply Kd.R_drew)); exact Kd.R_mono HO117.out (fun _ hk => hk.2)), (by (with_reducible repeat (first | refine blk_drewN ?_ _ | refine blk_drew ?_ | refine blk_alloc ?_ _)); exact BK101.out), (by (with_reducible repeat (first | refine blk_drewN ?_ _ | refine blk_drew ?_ | refine blk_alloc ?_ _)); exact BK109.out), (by (with_reducible repeat (first | refine blk_drewN ?_ _ | refine blk_drew ?_ | refine blk_alloc ?_ _)); exact BK119.out), GW119.out, GE119.out, NB101_119.out, NB119_101.out, NB109_119.out, NB119_109.out, (by repeat (first | (with_reducible first | exact HB.out | apply below_alloc | apply pw_below_drewN | apply below_drew1 | refine below_set ?_ GE101.out | refine below_set ?_ GE109.out | refine below_set ?_ GE119.out) | exact HB.out))⟩)
        ·skip
         refine box_step ?hg (N := 10) ?hd (cs := #[.int .i64 0, .slice none 0 0]) (t := 24) ?hr ?_; (case hd => rfl); (case hg => rfl); (case hr => first | (go_simp; done) | (go_simp; rfl))
         intro gb119 hg w72 hbox hb
         have n0_ := Aside0.mk (Kd.R_below (by (with_reducible repeat (first | apply Kd.R_alloc | apply Kd.R_drewN | apply Kd.R_drew)); exact HO107.out) hb)
         have n1_ := Aside0.mk (blk_below (g := gb101) (o := .cells #[.int .i64 a0_0, .slice A0_1 l0_1.length c0_1] 24 (0, 0)) (by (with_reducible repeat (first | refine blk_drewN ?_ _ | refine blk_drew ?_ | refine blk_alloc ?_ _)); exact BK101.out) hb)
         have n2_ := Aside0.mk (blk_below (g := gb109) (o := .cells #[.int .i64 t104, .slice Ao68 t105.length co68] 24 (0, 0)) (by (with_reducible repeat (first | refine blk_drewN ?_ _ | refine blk_drew ?_ | refine blk_alloc ?_ _)); exact BK109.out) hb)
         have n3_ := Aside0.mk (below_step (by repeat (first | (with_reducible first | exact HB.out | apply below_alloc | apply pw_below_drewN | apply below_drew1 | refine below_set ?_ GE101.out | refine below_set ?_ GE109.out) | exact HB.out)) hb)
         have n4_ := Aside0.mk (hbox)
         have n5_ := Aside0.mk ((by rw [hg]; exact (below_size (by repeat (first | (with_reducible first | exact HB.out | apply below_alloc | apply pw_below_drewN | apply below_drew1 | refine below_set ?_ GE101.out | refine below_set ?_ GE109.out) | exact HB.out))) : w.heap.size ≤ gb119))
         have n6_ := Aside0.mk ((by rw [hg]; exact (below_size (by repeat (first | (with_reducible first | exact HB.out | apply below_alloc | apply pw_below_drewN | apply below_drew1 | refine below_set ?_ GE101.out | refine below_set ?_ GE109.out) | exact HB.out))) : w.heap.size ≤ gb119))
         have n7_ := Aside0.mk ((by rw [hg]; exact Nat.ne_of_lt (blk_lt (g := gb101) (o := .cells #[.int .i64 a0_0, .slice A0_1 l0_1.length c0_1] 24 (0, 0)) (by (with_reducible repeat (first | refine blk_drewN ?_ _ | refine blk_drew ?_ | refine blk_alloc ?_ _)); exact BK101.out)) : gb101 ≠ gb119))
         have n8_ := Aside0.mk ((by rw [hg]; exact Nat.ne_of_gt (blk_lt (g := gb101) (o := .cells #[.int .i64 a0_0, .slice A0_1 l0_1.length c0_1] 24 (0, 0)) (by (with_reducible repeat (first | refine blk_drewN ?_ _ | refine blk_drew ?_ | refine blk_alloc ?_ _)); exact BK101.out)) : gb119 ≠ gb101))
         have n9_ := Aside0.mk ((by rw [hg]; exact Nat.ne_of_lt (blk_lt (g := gb109) (o := .cells #[.int .i64 t104, .slice Ao68 t105.length co68] 24 (0, 0)) (by (with_reducible repeat (first | refine blk_drewN ?_ _ | refine blk_drew ?_ | refine blk_alloc ?_ _)); exact BK109.out)) : gb109 ≠ gb119))
         have n10_ := Aside0.mk ((by rw [hg]; exact Nat.ne_of_gt (blk_lt (g := gb109) (o := .cells #[.int .i64 t104, .slice Ao68 t105.length co68] 24 (0, 0)) (by (with_reducible repeat (first | refine blk_drewN ?_ _ | refine blk_drew ?_ | refine blk_alloc ?_ _)); exact BK109.out)) : gb119 ≠ gb109))
         clear HO107
         clear BK101
         clear BK109
         clear HB
         have HO107 := n0_
         have BK101 := n1_
         have BK109 := n2_
         have HB := n3_
         have BK119 := n4_
         have GW119 := n5_
         have GE119 := n6_
         have NB101_119 := n7_
         have NB119_101 := n8_
         have NB109_119 := n9_
         have NB119_109 := n10_
         clear n0_ n1_ n2_ n3_ n4_ n5_ n6_ n7_ n8_ n9_ n10_
         clear hb hbox hg
         refine hK.out _ _ ⟨(blk_cell BK101.out 0).trans rfl, (blk_cell BK101.out 1).trans rfl⟩ (fun hHeld => ?_)
         clear hK K
         refine norm_ (a' := ?_) ?_ ?_
         rotate_left
         ·show Act.put _ (some 10) _ = _
          simp only [Act.put, List.setIfInBounds_toArray, List.set_cons_zero, List.set_cons_succ, i64_w, i32_w]
          rfl
         refine one_ (i := 4) (N := some 38) #[true, true, true, true, true, false, false, false, true, false, false] rfl rfl (one_of HT_.out (by kernel_rfl)) (by decide) (fun K hK => ?_)
         refine goes_ Try.func71 (by kernel_rfl) rfl #[.agg #[.int .i64 a0_0, .slice A0_1 l0_1.length c0_1], .int .i64 0, .slice A1 y110.length c1] (by rfl) rfl rfl (by (try simp only [List.map_toArray, List.map_cons, List.map_nil]); first | done | rfl | (simp only [List.length_drop, List.length_take]; rfl)) ?_
         with_reducible refine (patAll.calls a0_0 _ _ l0_1 0 _ _ y110 t114 t115 t118 _ ?side1 ?side2 ?side3 ?side4 A17.out).mono ?_
         (case side1 => repeat (first | exact (Kd.C_below HR0_1.out HB.out) | (with_reducible refine Kd.C_alloc ?_ _) | (with_reducible refine Kd.C_drewN ?_ _) | (with_reducible refine Kd.C_drew ?_)))
         (case side2 => exact HC0_1.out)
         (case side3 => repeat (first | exact (Kd.C_below HR113.out HB.out) | (with_reducible refine Kd.C_alloc ?_ _) | (with_reducible refine Kd.C_drewN ?_ _) | (with_reducible refine Kd.C_drew ?_)))
         (case side4 => exact HC113.out)
         rintro e w73 ⟨v116, rfl, ho0, hb⟩
         refine ⟨_, rfl, ?_⟩
         have n0_ := Aside0.mk (Kd.R_elder' (by (with_reducible repeat (first | apply Kd.R_alloc | apply Kd.R_drewN | apply Kd.R_drew)); exact HO107.out) (Kd.R_base ho0) hb)
         have n1_ := Aside0.mk (Kd.R_lower (Kd.R_new' ho0 (Kd.R_lt (by (with_reducible repeat (first | apply Kd.R_alloc | apply Kd.R_drewN | apply Kd.R_drew)); exact HO107.out))) (below_size (by repeat (first | (with_reducible first | exact HB.out | apply below_alloc | apply pw_below_drewN | apply below_drew1 | refine below_set ?_ GE101.out | refine below_set ?_ GE109.out | refine below_set ?_ GE119.out) | exact HB.out))))
         have n2_ := Aside0.mk (blk_below (g := gb101) (o := .cells #[.int .i64 a0_0, .slice A0_1 l0_1.length c0_1] 24 (0, 0)) (by (with_reducible repeat (first | refine blk_drewN ?_ _ | refine blk_drew ?_ | refine blk_alloc ?_ _)); exact BK101.out) hb)
         have n3_ := Aside0.mk (blk_below (g := gb109) (o := .cells #[.int .i64 t104, .slice Ao68 t105.length co68] 24 (0, 0)) (by (with_reducible repeat (first | refine blk_drewN ?_ _ | refine blk_drew ?_ | refine blk_alloc ?_ _)); exact BK109.out) hb)
         have n4_ := Aside0.mk (blk_below (g := gb119) (o := .cells #[.int .i64 0, .slice none 0 0] 24 (0, 0)) (by (with_reducible repeat (first | refine blk_drewN ?_ _ | refine blk_drew ?_ | refine blk_alloc ?_ _)); exact BK119.out) hb)
         have n5_ := Aside0.mk (below_step (by repeat (first | (with_reducible first | exact HB.out | apply below_alloc | apply pw_below_drewN | apply below_drew1 | refine below_set ?_ GE101.out | refine below_set ?_ GE109.out | refine below_set ?_ GE119.out) | exact HB.out)) hb)
         clear HO107
         clear BK101
         clear BK109
         clear BK119
         clear HB
         have HO107 := n0_
         have HO117 := n1_
         have BK101 := n2_
         have BK109 := n3_
         have BK119 := n4_
         have HB := n5_
         clear n0_ n1_ n2_ n3_ n4_ n5_
         (try clear hb)
         (try clear hb2)
         (try clear hk)
         (try clear hi)
         (try clear ho0)
         refine hK.out _ _ ⟨(blk_cell BK101.out 0).trans rfl, (blk_cell BK101.out 1).trans rfl⟩ (fun hHeld => ?_)
         clear hK K
         refine norm_ (a' := ?_) ?_ ?_
         rotate_left
         ·show Act.put _ (some 38) _ = _
          simp only [Act.put, List.setIfInBounds_toArray, List.set_cons_zero, List.set_cons_succ, i64_w, i32_w]
          rfl
         refine pure_ (i := 5) (N := some 33) (v := ?_) (a' := ?_) #[true, true, true, true, true, true, false, false, true, false, false] rfl rfl (any_of HT_.out (by kernel_rfl)) (fun _ _ _ h => h) (Or.inl ⟨by rfl, ?_⟩) ?_ ?_
         rotate_left
         ·intro w'
          go_simp
          with_reducible rfl
         rotate_left
         ·simp only [Act.put, List.setIfInBounds_toArray, List.set_cons_zero, List.set_cons_succ, i64_w, i32_w]
          rfl
         refine pure_ (i := 6) (N := some 39) (v := ?_) (a' := ?_) #[true, true, true, true, true, true, true, false, true, false, false] rfl rfl (any_of HT_.out (by kernel_rfl)) (fun _ _ _ h => h) (Or.inl ⟨by rfl, ?_⟩) ?_ ?_
         rotate_left
         ·intro w'
          go_simp
          with_reducible rfl
         rotate_left
         ·simp only [Act.put, List.setIfInBounds_toArray, List.set_cons_zero, List.set_cons_succ, i64_w, i32_w]
          rfl
         refine pure_ (i := 7) (N := some 40) (v := ?_) (a' := ?_) #[true, true, true, true, true, true, true, true, true, false, false] rfl rfl (any_of HT_.out (by kernel_rfl)) (fun _ _ _ h => h) (Or.inl ⟨by rfl, ?_⟩) ?_ ?_
         rotate_left
         ·intro w'
          go_simp
          with_reducible rfl
         rotate_left
         ·simp only [Act.put, List.setIfInBounds_toArray, List.set_cons_zero, List.set_cons_succ, i64_w, i32_w]
          rfl
         exact norm_ (by simp only [putAll, Act.put, List.setIfInBounds_toArray, List.set_cons_zero, List.set_cons_succ]) (hCont (v116, gb119) _ ⟨hHeld, (by (with_reducible repeat (first | apply Kd.R_alloc | apply Kd.R_drewN | apply Kd.R_drew)); exact Kd.R_mono HO107.out (fun _ hk => hk.2)), (by (with_reducible repeat (first | apply Kd.R_alloc | apply Kd.R_drewN | apply Kd.R_drew)); exact Kd.R_mono HO117.out (fun _ hk => hk.2)), (by (with_reducible repeat (first | refine blk_drewN ?_ _ | refine blk_drew ?_ | refine blk_alloc ?_ _)); exact BK101.out), (by (with_reducible repeat (first | refine blk_drewN ?_ _ | refine blk_drew ?_ | refine blk_alloc ?_ _)); exact BK109.out), (by (with_reducible repeat (first | refine blk_drewN ?_ _ | refine blk_drew ?_ | refine blk_alloc ?_ _)); exact BK119.out), GW119.out, GE119.out, NB101_119.out, NB119_101.out, NB109_119.out, NB119_109.out, (by repeat (first | (with_reducible first | exact HB.out | apply below_alloc | apply pw_below_drewN | apply below_drew1 | refine below_set ?_ GE101.out | refine below_set ?_ GE109.out | refine below_set ?_ GE119.out) | exact HB.out))⟩)
       rintro ⟨v116, gb119⟩ w74 ⟨hS_, h0_, h1_, h2_, h3_, h4_, h5_, h6_, h7_, h8_, h9_, h10_, h11_⟩
       have n0_ : Aside0 (Kd.R k33 33 w74 w.heap.size (fun k_ => some k_ ≠ (v116 : Value).ownBlock) (.slice Ao68 t105.length co68) t105) := ⟨h0_⟩
       have n1_ : Aside0 (Kd.R k33 33 w74 w.heap.size (fun k_ => some k_ ≠ (.slice Ao68 t105.length co68 : Value).ownBlock) v116 t115) := ⟨h1_⟩
       have n2_ : Aside0 (w74.heap[gb101]? = some (.cells #[.int .i64 a0_0, .slice A0_1 l0_1.length c0_1] 24 (0, 0))) := ⟨h2_⟩
       have n3_ : Aside0 (w74.heap[gb109]? = some (.cells #[.int .i64 t104, .slice Ao68 t105.length co68] 24 (0, 0))) := ⟨h3_⟩
       have n4_ : Aside0 (w74.heap[gb119]? = some (.cells #[.int .i64 0, .slice none 0 0] 24 (0, 0))) := ⟨h4_⟩
       have n5_ : Aside0 (w.heap.size ≤ gb119) := ⟨h5_⟩
       have n6_ : Aside0 (w.heap.size ≤ gb119) := ⟨h6_⟩
       have n7_ : Aside0 (gb101 ≠ gb119) := ⟨h7_⟩
       have n8_ : Aside0 (gb119 ≠ gb101) := ⟨h8_⟩
       have n9_ : Aside0 (gb109 ≠ gb119) := ⟨h9_⟩
       have n10_ : Aside0 (gb119 ≠ gb109) := ⟨h10_⟩
       have n11_ : Aside0 (Below w.heap.size w w74) := ⟨h11_⟩
       clear HO107
       clear BK101
       clear BK109
       clear HB
       clear h0_ h1_ h2_ h3_ h4_ h5_ h6_ h7_ h8_ h9_ h10_ h11_
       have HO107 := n0_
       have HO117 := n1_
       have BK101 := n2_
       have BK109 := n3_
       have BK119 := n4_
       have GW119 := n5_
       have GE119 := n6_
       have NB101_119 := n7_
       have NB119_101 := n8_
       have NB109_119 := n9_
       have NB119_109 := n10_
       have HB := n11_
       clear n0_ n1_ n2_ n3_ n4_ n5_ n6_ n7_ n8_ n9_ n10_ n11_
       have hHeld : w74.cell? ⟨gb101, 0, none⟩ = some (.int .i64 a0_0) ∧ w74.cell? ⟨gb101, 1, none⟩ = some (.slice A0_1 l0_1.length c0_1) := hS_
       obtain ⟨Ao76, co76, eo76⟩ := Kd.R_slice HO117.out
       (first | subst eo76 | (injection eo76 with f1_ f2_ f3_; have f4_ := f1_.symm; have f5_ := f3_.symm; clear f1_ f2_ f3_; subst f4_; subst f5_))
       refine norm_ (a' := ?_) ?_ ?_
       rotate_left
       ·simp only [putAll, Act.put, List.setIfInBounds_toArray, List.set_cons_zero, List.set_cons_succ]
        rfl
       refine one_ (i := 9) (N := none) #[true, true, true, true, true, true, true, true, true, true, false] rfl rfl (one_of HT_.out (by kernel_rfl)) (by decide) (fun K hK => ?_)
       have hs75 : w74.cell? ⟨gb119, 0, none⟩ = some (.int .i64 0) := (blk_cell BK119.out 0).trans rfl
       have hfs75 := blk_frozen BK119.out 0
       have hns75_0 := NB101_119.out
       have hns75_1 := NB109_119.out
       have hms75_0 := NB119_101.out
       have hms75_1 := NB119_109.out
       have hs77 : w74.cell? ⟨gb119, 1, none⟩ = some (.slice none 0 0) := (blk_cell BK119.out 1).trans rfl
       have hfs77 := blk_frozen BK119.out 1
       have hns77_0 := NB101_119.out
       have hns77_1 := NB109_119.out
       have hms77_0 := NB119_101.out
       have hms77_1 := NB119_109.out
       refine skip_ (w1 := ?_) (by rfl) rfl ?_ ?_
       rotate_left
       ·go_simp
        rfl
       refine hK.out _ _ ⟨((cell_far (p := ⟨gb119, _, none⟩) NB101_119.out _).trans (((cell_far (p := ⟨gb119, _, none⟩) NB101_119.out _).trans (hHeld.1)))), ((cell_far (p := ⟨gb119, _, none⟩) NB101_119.out _).trans (((cell_far (p := ⟨gb119, _, none⟩) NB101_119.out _).trans (hHeld.2))))⟩ (fun hHeld => ?_)
       clear hK K
       refine pure_ (i := 10) (N := some 11) (v := ?_) (a' := ?_) #[true, true, true, true, true, true, true, true, true, true, true] rfl rfl (any_of HT_.out (by kernel_rfl)) (fun _ _ _ h => h) (Or.inl ⟨by rfl, ?_⟩) ?_ ?_
       rotate_left
       ·intro w'
        go_simp
        with_reducible rfl
       rotate_left
       ·simp only [Act.put, List.setIfInBounds_toArray, List.set_cons_zero, List.set_cons_succ, i64_w, i32_w]
        rfl
       refine done_ (done_of HT_.out (by kernel_rfl)) ?_
       try go_wp2
       go_ret
       exact ⟨by first | rfl | (simp [errW_none, errW_some] <;> rfl) | (simp only [← hji14]; first | rfl | (simp [errW_none, errW_some] <;> rfl)) | (simp [*, errW_none, errW_some] <;> rfl), by repeat (first | (with_reducible first | exact HB.out | apply below_alloc | apply pw_below_drewN | apply below_drew1 | refine below_set ?_ GE101.out | refine below_set ?_ GE109.out | refine below_set ?_ GE119.out) | exact HB.out)⟩
     ·rw [if_neg c16] at H
      exact absurd H (by simp)
    ·rw [if_neg c15] at H
     exact absurd H (by simp)
 ·replace c5 := Bool.eq_false_iff.mpr c5
  subst c5
  have H1 : (some false) = some r := by rw [if_neg (show ¬ (false = true) by decide)] at H; exact H
  clear H
  have H := H1
  clear H1
  obtain rfl := Option.some.inj H
  exact absurd HRT.out (by decide)
end Go.Proofs.Ytfjmnaobfbmllaa.M
namespace Go.Proofs.Ytfjmnaobfbmllaa.M
open Go.RowKit Go.Proofs.YtfjmnaobfbmllaaW.PrintWords Go.Proofs.YtfjmnaobfbmllaaW.PrintLast Go.Proofs.YtfjmnaobfbmllaaW.PrintMore
set_option linter.unusedVariables false
set_option linter.unusedSimpArgs false
theorem same_self (a : Int) (l : List S33) : sameP a l a l = true := by unfold sameP; exact decide_eq_true ⟨rfl, rfl⟩
theorem all_len (a : Int) (l : List S33) (p : Int) (xs : List S65) : (allP a l p xs).2.1.length ≤ 32 := by
  by_cases h : (allP a l p xs).2.2 = 0
  · unfold allP at h ⊢
    by_cases hg : goodP a l = true
    · rw [if_pos hg] at h ⊢
      exact ((good_iff _ _).mp (allF_ok p xs a l hg h).1).2.2.1
    · rw [if_neg hg] at h; cases h
  · rw [(all_fail h).2]; exact Nat.zero_le _
theorem same_def {a b : Int} {l m : List S33} (h : l.length ≤ 32) : refSame.f a l b m = some (sameP a l b m) := if_pos (by omega)
theorem cut_in (a1 : Int) (n : Nat) (h2 : n ≤ 60) : IntKind.u64.wrap (wrap64 ((n : Int) + 1)) = ((n + 1 : Nat) : Int) ∧ ∃ m : Nat, m ≤ n ∧ wrap64 (Int.tmod (IntKind.u64.wrap a1) ((n + 1 : Nat) : Int)) = m := by
  have e0 : wrap64 ((n : Int) + 1) = ((n + 1 : Nat) : Int) := by rw [w64 _ (by omega) (by omega)]; omega
  have e1 : IntKind.u64.wrap ((n + 1 : Nat) : Int) = ((n + 1 : Nat) : Int) := wu64 _ (by omega) (by omega)
  have h0 : 0 ≤ IntKind.u64.wrap a1 := by show 0 ≤ a1 % _; omega
  obtain ⟨u, hu⟩ := Int.eq_ofNat_of_zero_le h0
  refine ⟨by rw [e0, e1], u % (n + 1), by have := Nat.mod_lt u (show n + 1 > 0 by omega); omega, ?_⟩
  rw [hu]
  have e2 : Int.tmod (u : Int) ((n + 1 : Nat) : Int) = ((u % (n + 1) : Nat) : Int) := by rw [Int.tmod_eq_emod_of_nonneg (by omega)]; rfl
  have := Nat.mod_lt u (show n + 1 > 0 by omega)
  rw [e2, w64 _ (by omega) (by omega)]
end Go.Proofs.Ytfjmnaobfbmllaa.M
namespace Go.Proofs.Ytfjmnaobfbmllaa.M
open Go.RowKit Go.Proofs.YtfjmnaobfbmllaaW.PrintWords Go.Proofs.YtfjmnaobfbmllaaW.PrintLast Go.Proofs.YtfjmnaobfbmllaaW.PrintMore
set_option linter.unusedVariables false
set_option linter.unusedSimpArgs false
theorem great60 {l : List S33} {m : List S65} (h : greatF l m = false) : m.length ≤ 60 := by
  unfold greatF at h
  simp only [Bool.or_eq_false_iff, decide_eq_false_iff_not] at h
  omega
theorem purePatchParts (a0 : Int) (l0 : List S33) (l1 : List S65) (a2 : Int) (w0 : (Lit.int .i64 a0).wf = true) (w2 : (Lit.int .i64 a2).wf = true) : seneschallaw05_PatchParts.f a0 l0 l1 a2 = some true := by
  unfold seneschallaw05_PatchParts.f awake5.f great5.f patAll.f
  rw [Option.bind_some, if_pos rfl, Option.bind_some]
  cases hgr : greatF l0 l1 with
  | true => rw [if_pos rfl]
  | false =>
    obtain ⟨e1, m, hm, e2⟩ := cut_in a2 l1.length (great60 hgr)
    have hp := all_parts (p := 0) (a := a0) (l := l0) l1 m
    rw [if_neg Bool.false_ne_true, e1, if_neg (by omega), e2, Option.bind_some, if_pos (by omega), if_pos (by omega), Int.toNat_natCast, Option.bind_some]
    by_cases h0 : (allP a0 l0 0 (l1.take m)).2.2 = 0
    · rw [if_pos h0] at hp
      rw [if_pos h0, Option.bind_some, hp, if_pos rfl, same_def (all_len _ _ _ _), Option.bind_some, same_self]
    · rw [if_neg h0] at hp
      rw [if_neg h0, hp]
      simp
end Go.Proofs.Ytfjmnaobfbmllaa.M
namespace Go.Proofs.Ytfjmnaobfbmllaa.patchParts
open Go.ChangeShapes Go.WideShapes Go.ChangeAt Go.RowKit Go.Proofs.Ytfjmnaobfbmllaa.M
open Go.Proofs.YtfjmnaobfbmllaaW.PrintWords Go.Proofs.YtfjmnaobfbmllaaW.PrintLast Go.Proofs.YtfjmnaobfbmllaaW.PrintMore
open Go.ChangeMaps (open_string shut_string)
set_option linter.unusedVariables false
theorem own : ownKnob Try.prog.godebug = none := by kernel_rfl
theorem laidOut : laidOutB Try.prog = true := by kernel_rfl
set_option maxRecDepth 100000 in
theorem lifted (os : Os) (started : os.Started) (H : Type) (enc : TypeId × Value → H) :
    ReturnsInHanded {} Try.checked os 22 .any (Rows.patchPartsSpec.pre6 enc Try.prog Try.f22 Rows.patchPartsRow.domain false) (Rows.patchPartsSpec.post enc Try.prog Try.f22 false true false false) := by
  refine returnsInHanded_of_change_sized (C := Try.checked) own started (by kernel_rfl) Try.func22
    (ChangeSpec.witness6 (enc := enc) (C := Try.checked) false ⟨#[], #[.agg #[.int .i64 0, .slice none 0 0], .slice none 0 0, .int .i64 0], []⟩ 8 (by kernel_rfl) (by kernel_rfl) (by kernel_rfl) (by kernel_rfl)) ?_
  intro W base args ds gs before hval0 hW hcnd hsz0 _
  have hsz : (DataW.weightsEach Try.prog (Try.f22.params.toList ++ Rows.patchPartsSpec.plain.varTypes Try.prog) (ds ++ gs)).all (· ≤ reachBytes) = true := hsz0
  have hval : ∀ (j : Nat) t v, Try.f22.params[j]? = some t → args[j]? = some v → Value.okWide Try.prog W .any base t v := hval0
  have hW' := hW
  obtain ⟨p, q, hA0, hV, rfl, hfz, hnd⟩ := hW
  have hA : DataW.TrodAll enc Try.prog W 0 (fun _ => true) true Try.f22.params.toList args.toList ds p := hA0
  rw [Try.params22] at hA hval hsz
  obtain ⟨v0, vs0, d0, ds0, p0, q0, hargs, rfl, rfl, h0, r0⟩ := trodAll_cons hA
  obtain ⟨v1, vs1, d1, ds1, p1, q1, rfl, rfl, rfl, h1, r1⟩ := trodAll_cons r0
  obtain ⟨v2, vs2, d2, ds2, p2, q2, rfl, rfl, rfl, h2, r2⟩ := trodAll_cons r1
  obtain ⟨rfl, rfl, rfl⟩ := trodAll_nil r2
  obtain rfl : args = #[v0, v1, v2] := by cases args; simp_all
  obtain ⟨rfl, rfl⟩ := trodVars_none hV
  have k0 := h0
  have lt0 : ∀ x ∈ p0, x.block < W.heap.size := by obtain ⟨m, hm⟩ := k0; exact DataW.trod_lt m _ _ _ hm
  obtain ⟨a0, A0, c0, l0, rfl, w0, hr0, hc0⟩ := V24 (hval 0 24 v0 rfl rfl) h0
  have k1 := h1
  have lt1 : ∀ x ∈ p1, x.block < W.heap.size := by obtain ⟨m, hm⟩ := k1; exact DataW.trod_lt m _ _ _ hm
  obtain ⟨A1, c1, l1, rfl, hr1, hc1⟩ := V53 (hval 1 53 v1 rfl rfl) h1
  obtain ⟨a2, rfl, rfl, rfl, w2⟩ := open_int Try.underlying3 (hval 2 3 v2 rfl rfl) h2
  clear hA0 hval0 hsz0 hsz hval
  have hp := purePatchParts a0 l0 l1 a2 w0 w2
  refine (seneschallaw05_PatchParts.calls a0 A0 c0 l0 A1 c1 l1 a2 true rfl W hr0 hc0 hr1 hc1 hp).mono fun e W' ⟨he, bel⟩ => ?_
  subst he
  exact ⟨_, rfl, _, _, _, [], _, [], hW', trodAll_mk1 (shut_bool Try.underlying4 _), (trodAll_cons_mk (Below.trod laidOut (by kernel_rfl) (of_decide_eq_true (by kernel_rfl)) k0 bel lt0) (trodAll_cons_mk (Below.trod laidOut (by kernel_rfl) (of_decide_eq_true (by kernel_rfl)) k1 bel lt1) (trodAll_cons_mk (shut_int Try.underlying3 w2) trodAll_mk0))), rfl, bel.frame _, fun h => by cases h⟩
theorem joined : joinedFacts Try.prog 22 Try.f22 Rows.patchPartsSpec Rows.patchPartsRow = true := by
  unfold joinedFacts
  rw [may_enter, lifts_final, make_is]
  kernel_rfl
theorem over : Rows.patchPartsRow.holds Try.pinned (OpenSpec.ofChange Rows.patchPartsSpec) :=
  OpenClaim.holds_of_wide 22 Try.f22 rfl rfl rfl rfl rfl rfl rfl ⟨rfl, rfl, rfl, rfl, rfl⟩ rfl rfl rfl rfl rfl (by kernel_rfl) Try.func22 joined
    (of_decide_eq_true (by kernel_rfl)) (by unfold Func.isWrapper; first | (rw [if_pos (by decide +kernel)]; kernel_rfl) | (rw [if_neg (by decide +kernel)]; exact ⟨rfl, rfl⟩))
    (fun os started H enc _ => lifted os started H enc)
theorem proved : Rows.PatchPartsSaid := over
#print axioms proved
end Go.Proofs.Ytfjmnaobfbmllaa.patchParts
namespace Go.Proofs.Ytfjmnaobfbmllaa
theorem patchParts_holds : Rows.PatchPartsSaid := patchParts.proved
end Go.Proofs.Ytfjmnaobfbmllaa
