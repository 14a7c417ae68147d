/- The law EntryWrites: it returns true for every input, and its arguments read as they did. No condition. Part 4 of 4. -/
import Derived.Test.YtfjmnaobfbmllaaProg
import Derived.Test.YtfjmnaobfbmllaaRows
import Derived.Test.YtfjmnaobfbmllaaUApart
import Derived.Test.YtfjmnaobfbmllaaUEqStruct
import Derived.Test.YtfjmnaobfbmllaaUFoot
import Derived.Test.YtfjmnaobfbmllaaUGuard
import Derived.Test.YtfjmnaobfbmllaaUKept
import Derived.Test.YtfjmnaobfbmllaaULast
import Derived.Test.YtfjmnaobfbmllaaUMore
import Derived.Test.YtfjmnaobfbmllaaUN
import Derived.Test.YtfjmnaobfbmllaaURepsOne
import Derived.Test.YtfjmnaobfbmllaaUShare
import Derived.Test.YtfjmnaobfbmllaaUTab
import Derived.Test.YtfjmnaobfbmllaaUWords
import Derived.ArgAppend
import Derived.Below
import Derived.BigQuiet
import Derived.Carry
import Derived.ChangeArms
import Derived.ChangeMaps
import Derived.ChangeOld
import Derived.Deep.AppendLies
import Derived.Deep.CutBlock
import Derived.Deep.DeepCutAuto
import Derived.Deep.Draws
import Derived.Deep.LoopGhost
import Derived.Deep.OwnRows
import Derived.Deep.QuietTactic
import Derived.Deep.RegionHeld3
import Derived.Deep.Slices
import Derived.KernelRfl
import Derived.Laws.Bits64
import Derived.Laws.Bits64b
import Derived.Laws.BitsAllLaws
import Derived.Laws.BitsLemmas
import Derived.Laws.BytesArg
import Derived.Laws.CopyOwn
import Derived.Laws.IdiomCopy
import Derived.Laws.MakeOwn
import Derived.Laws.OwnMore
import Derived.Laws.Rows
import Derived.Laws.Slices
import Derived.Lib.AppendStr
import Derived.Lib.ConvBytes
import Derived.Maps.AppendAt
import Derived.OpenShut
import Derived.OrdersHeld
import Derived.OwnWalk
import Derived.ProofKit
import Derived.RowKit
import Derived.RowKit3
import Derived.ShutString
import Derived.SizedLaws
import Derived.Tactics
import Derived.WalkKit
import Derived.WideLaws
import Derived.Test.YtfjmnaobfbmllaaEntryWritesA0
import Derived.Test.YtfjmnaobfbmllaaEntryWritesA1
import Derived.Test.YtfjmnaobfbmllaaEntryWritesA2
namespace Go.Proofs.Ytfjmnaobfbmllaa.M
open Go.RowKit Go.Proofs.YtfjmnaobfbmllaaW.PrintWords Go.Proofs.YtfjmnaobfbmllaaW.PrintLast Go.Proofs.YtfjmnaobfbmllaaW.PrintMore
set_option linter.unusedVariables false
set_option linter.unusedSimpArgs false
theorem entry_Decode.calls (s : ByteArray) (r1 : Int) (r2 : Int) (r3 : Int) (r4 : Int) (r5 : Int) (r6 : Int) (r7 : Int) (r8 : Int) (r9 : Bool) (r10 : ByteArray) (r11 : Bool) (r12 : ByteArray) (r13 : Int) (r14 : ByteArray) (r15 : Int) (w : World) (h : entry_Decode.f s = some (r1, r2, r3, r4, r5, r6, r7, r8, r9, r10, r11, r12, r13, r14, r15)) :
    Calls Try.prog 63 #[.string s] w fun e w' => e = .returned (.tuple #[.agg #[.int .i64 r1, .int .i64 r2, .int .i64 r3, .int .i64 r4, .int .i64 r5, .int .i64 r6, .int .i64 r7, .int .i64 r8, .bool r9, .string r10, .bool r11, .string r12, .int .i64 r13], .string r14, .int .i64 r15]) ∧ Below w.heap.size w w' := by
  unfold entry_Decode.f entTup at h
  rw [← decG_eq] at h
  simp only [Option.some.injEq, Prod.mk.injEq] at h
  obtain ⟨rfl, rfl, rfl, rfl, rfl, rfl, rfl, rfl, rfl, rfl, rfl, rfl, rfl, rfl, rfl⟩ := h
  exact entry_Decode.run s w
end Go.Proofs.Ytfjmnaobfbmllaa.M
namespace Go.Proofs.Ytfjmnaobfbmllaa.M
open Go.RowKit Go.Proofs.YtfjmnaobfbmllaaW.PrintWords Go.Proofs.YtfjmnaobfbmllaaW.PrintLast Go.Proofs.YtfjmnaobfbmllaaW.PrintMore
def ve1 : ByteArray := ⟨#[6, 2, 2, 2, 10, 8]⟩
theorem v51_1 : entEnc.f 3 1 1 1 5 4 0 0 false (⟨#[]⟩ : ByteArray) false (⟨#[]⟩ : ByteArray) 0 = some (ve1, 0) := by decide +kernel
theorem v51_3 : entry_Decode.f (ve1 ++ (⟨#[122]⟩ : ByteArray)) = some (3, 1, 1, 1, 5, 4, 0, 0, false, (⟨#[]⟩ : ByteArray), false, (⟨#[]⟩ : ByteArray), 0, (⟨#[122]⟩ : ByteArray), 0) := by kernel_rfl
theorem v51_4 : entEnc.f 0 0 0 0 0 0 0 0 false (⟨#[]⟩ : ByteArray) false (⟨#[]⟩ : ByteArray) 0 = some ((⟨#[]⟩ : ByteArray), 1) := by decide +kernel
theorem v51_11 : entCost.f 3 1 1 1 5 4 0 0 false (⟨#[]⟩ : ByteArray) false (⟨#[]⟩ : ByteArray) 0 = some 2 := by decide +kernel
theorem v51_13 : entGood.f 3 1 1 1 5 4 0 0 false (⟨#[]⟩ : ByteArray) false (⟨#[]⟩ : ByteArray) 0 = some true := by decide +kernel
end Go.Proofs.Ytfjmnaobfbmllaa.M
namespace Go.Proofs.Ytfjmnaobfbmllaa.M
open Go.RowKit Go.Proofs.YtfjmnaobfbmllaaW.PrintWords Go.Proofs.YtfjmnaobfbmllaaW.PrintLast Go.Proofs.YtfjmnaobfbmllaaW.PrintMore
attribute [local go_sem] max2_int min2_int max_two min_two max_three min_three max_four min_four   -- for this text's walks alone
set_option linter.unusedVariables false
set_option linter.unusedSimpArgs false
attribute [local go_sem high] eqA65
def seneschallaw04_awake.f  : Option (Bool) := (entEnc.f 3 1 1 1 5 4 0 0 false (⟨#[]⟩ : ByteArray) false (⟨#[]⟩ : ByteArray) 0).bind fun bt102 => (if bt102.1.size + 1 ≤ 9223372036854775807 then ((entry_Decode.f (bt102.1 ++ (⟨#[122]⟩ : ByteArray))).bind fun bt104 => ((entEnc.f 0 0 0 0 0 0 0 0 false (⟨#[]⟩ : ByteArray) false (⟨#[]⟩ : ByteArray) 0).bind fun bt120 => (if bt102.1.toList = ([6, 2, 2, 2, 10, 8] : List UInt8) then (if bt102.2 = 0 then (if (bt104.1 == 3 && ((bt104.2.1 == 1 && (bt104.2.2.1 == 1 && (bt104.2.2.2.1 == 1))) && (bt104.2.2.2.2.1 == 5 && (bt104.2.2.2.2.2.1 == 4 && (bt104.2.2.2.2.2.2.1 == 0 && (bt104.2.2.2.2.2.2.2.1 == 0 && ((!bt104.2.2.2.2.2.2.2.2.1 && (bt104.2.2.2.2.2.2.2.2.2.1.toList == ([] : List UInt8))) && ((!bt104.2.2.2.2.2.2.2.2.2.2.1 && (bt104.2.2.2.2.2.2.2.2.2.2.2.1.toList == ([] : List UInt8))) && (bt104.2.2.2.2.2.2.2.2.2.2.2.2.1 == 0))))))))) = true then (if bt104.2.2.2.2.2.2.2.2.2.2.2.2.2.1.toList = ([122] : List UInt8) then (if bt104.2.2.2.2.2.2.2.2.2.2.2.2.2.2 = 0 then (if bt120.2 = 1 then ((entCost.f 3 1 1 1 5 4 0 0 false (⟨#[]⟩ : ByteArray) false (⟨#[]⟩ : ByteArray) 0).bind fun t122 => (if t122 = 2 then ((entGood.f 3 1 1 1 5 4 0 0 false (⟨#[]⟩ : ByteArray) false (⟨#[]⟩ : ByteArray) 0).bind fun t123 => (if t123 = true then ((entKnown.f 1 1 1).bind fun t124 => (some t124)) else (some false))) else (some false))) else (some false)) else (some false)) else (some false)) else (some false)) else (some false)) else (some false)))) else (none))
set_option maxHeartbeats 8000000 in
set_option maxRecDepth 100000 in
theorem seneschallaw04_awake.calls  (r : Bool) (w : World) (h : seneschallaw04_awake.f  = some r) :
    Calls Try.prog 51 #[] w fun e w' => e = .returned (.bool r) ∧ Below w.heap.size w w' := by
  have hu52 := Try.underlying52
  have hu65 := Try.underlying65
  have HB := Aside0.mk (Below.refl w.heap.size w)
  have H : ((entEnc.f 3 1 1 1 5 4 0 0 false (⟨#[]⟩ : ByteArray) false (⟨#[]⟩ : ByteArray) 0).bind fun bt102 => (if bt102.1.size + 1 ≤ 9223372036854775807 then ((entry_Decode.f (bt102.1 ++ (⟨#[122]⟩ : ByteArray))).bind fun bt104 => ((entEnc.f 0 0 0 0 0 0 0 0 false (⟨#[]⟩ : ByteArray) false (⟨#[]⟩ : ByteArray) 0).bind fun bt120 => (if bt102.1.toList = ([6, 2, 2, 2, 10, 8] : List UInt8) then (if bt102.2 = 0 then (if (bt104.1 == 3 && ((bt104.2.1 == 1 && (bt104.2.2.1 == 1 && (bt104.2.2.2.1 == 1))) && (bt104.2.2.2.2.1 == 5 && (bt104.2.2.2.2.2.1 == 4 && (bt104.2.2.2.2.2.2.1 == 0 && (bt104.2.2.2.2.2.2.2.1 == 0 && ((!bt104.2.2.2.2.2.2.2.2.1 && (bt104.2.2.2.2.2.2.2.2.2.1.toList == ([] : List UInt8))) && ((!bt104.2.2.2.2.2.2.2.2.2.2.1 && (bt104.2.2.2.2.2.2.2.2.2.2.2.1.toList == ([] : List UInt8))) && (bt104.2.2.2.2.2.2.2.2.2.2.2.2.1 == 0))))))))) = true then (if bt104.2.2.2.2.2.2.2.2.2.2.2.2.2.1.toList = ([122] : List UInt8) then (if bt104.2.2.2.2.2.2.2.2.2.2.2.2.2.2 = 0 then (if bt120.2 = 1 then ((entCost.f 3 1 1 1 5 4 0 0 false (⟨#[]⟩ : ByteArray) false (⟨#[]⟩ : ByteArray) 0).bind fun t122 => (if t122 = 2 then ((entGood.f 3 1 1 1 5 4 0 0 false (⟨#[]⟩ : ByteArray) false (⟨#[]⟩ : ByteArray) 0).bind fun t123 => (if t123 = true then ((entKnown.f 1 1 1).bind fun t124 => (some t124)) else (some false))) else (some false))) else (some false)) else (some false)) else (some false)) else (some false)) else (some false)) else (some false)))) else (none))) = some r := h
  clear h
  replace H := Option.bind_eq_some_iff.mp H
  obtain ⟨⟨t102, t103⟩, A10, H⟩ := H
  replace H : (if t102.size + 1 ≤ 9223372036854775807 then ((entry_Decode.f (t102 ++ (⟨#[122]⟩ : ByteArray))).bind fun bt104 => ((entEnc.f 0 0 0 0 0 0 0 0 false (⟨#[]⟩ : ByteArray) false (⟨#[]⟩ : ByteArray) 0).bind fun bt120 => (if t102.toList = ([6, 2, 2, 2, 10, 8] : List UInt8) then (if t103 = 0 then (if (bt104.1 == 3 && ((bt104.2.1 == 1 && (bt104.2.2.1 == 1 && (bt104.2.2.2.1 == 1))) && (bt104.2.2.2.2.1 == 5 && (bt104.2.2.2.2.2.1 == 4 && (bt104.2.2.2.2.2.2.1 == 0 && (bt104.2.2.2.2.2.2.2.1 == 0 && ((!bt104.2.2.2.2.2.2.2.2.1 && (bt104.2.2.2.2.2.2.2.2.2.1.toList == ([] : List UInt8))) && ((!bt104.2.2.2.2.2.2.2.2.2.2.1 && (bt104.2.2.2.2.2.2.2.2.2.2.2.1.toList == ([] : List UInt8))) && (bt104.2.2.2.2.2.2.2.2.2.2.2.2.1 == 0))))))))) = true then (if bt104.2.2.2.2.2.2.2.2.2.2.2.2.2.1.toList = ([122] : List UInt8) then (if bt104.2.2.2.2.2.2.2.2.2.2.2.2.2.2 = 0 then (if bt120.2 = 1 then ((entCost.f 3 1 1 1 5 4 0 0 false (⟨#[]⟩ : ByteArray) false (⟨#[]⟩ : ByteArray) 0).bind fun t122 => (if t122 = 2 then ((entGood.f 3 1 1 1 5 4 0 0 false (⟨#[]⟩ : ByteArray) false (⟨#[]⟩ : ByteArray) 0).bind fun t123 => (if t123 = true then ((entKnown.f 1 1 1).bind fun t124 => (some t124)) else (some false))) else (some false))) else (some false)) else (some false)) else (some false)) else (some false)) else (some false)) else (some false)))) else (none)) = some r := H
  have A1 := Aside0.mk A10
  clear A10
  by_cases c2 : t102.size + 1 ≤ 9223372036854775807
  · rw [if_pos c2] at H
    have c2b0 := eq_true c2
    have c2b1 : decide (t102.size + 1 ≤ 9223372036854775807) = true := decide_eq_true c2
    try have c2b2 : (9223372036854775807 < t102.size + 1) = False := eq_false (Nat.not_lt.2 c2)
    replace H := Option.bind_eq_some_iff.mp H
    obtain ⟨⟨t104, t105, t106, t107, t108, t109, t110, t111, t112, t113, t114, t115, t116, t117, t118⟩, A30, H⟩ := H
    replace H : ((entEnc.f 0 0 0 0 0 0 0 0 false (⟨#[]⟩ : ByteArray) false (⟨#[]⟩ : ByteArray) 0).bind fun bt120 => (if t102.toList = ([6, 2, 2, 2, 10, 8] : List UInt8) then (if t103 = 0 then (if (t104 == 3 && ((t105 == 1 && (t106 == 1 && (t107 == 1))) && (t108 == 5 && (t109 == 4 && (t110 == 0 && (t111 == 0 && ((!t112 && (t113.toList == ([] : List UInt8))) && ((!t114 && (t115.toList == ([] : List UInt8))) && (t116 == 0))))))))) = true then (if t117.toList = ([122] : List UInt8) then (if t118 = 0 then (if bt120.2 = 1 then ((entCost.f 3 1 1 1 5 4 0 0 false (⟨#[]⟩ : ByteArray) false (⟨#[]⟩ : ByteArray) 0).bind fun t122 => (if t122 = 2 then ((entGood.f 3 1 1 1 5 4 0 0 false (⟨#[]⟩ : ByteArray) false (⟨#[]⟩ : ByteArray) 0).bind fun t123 => (if t123 = true then ((entKnown.f 1 1 1).bind fun t124 => (some t124)) else (some false))) else (some false))) else (some false)) else (some false)) else (some false)) else (some false)) else (some false)) else (some false))) = some r := H
    have A3 := Aside0.mk A30
    clear A30
    replace H := Option.bind_eq_some_iff.mp H
    obtain ⟨⟨t120, t121⟩, A40, H⟩ := H
    replace H : (if t102.toList = ([6, 2, 2, 2, 10, 8] : List UInt8) then (if t103 = 0 then (if (t104 == 3 && ((t105 == 1 && (t106 == 1 && (t107 == 1))) && (t108 == 5 && (t109 == 4 && (t110 == 0 && (t111 == 0 && ((!t112 && (t113.toList == ([] : List UInt8))) && ((!t114 && (t115.toList == ([] : List UInt8))) && (t116 == 0))))))))) = true then (if t117.toList = ([122] : List UInt8) then (if t118 = 0 then (if t121 = 1 then ((entCost.f 3 1 1 1 5 4 0 0 false (⟨#[]⟩ : ByteArray) false (⟨#[]⟩ : ByteArray) 0).bind fun t122 => (if t122 = 2 then ((entGood.f 3 1 1 1 5 4 0 0 false (⟨#[]⟩ : ByteArray) false (⟨#[]⟩ : ByteArray) 0).bind fun t123 => (if t123 = true then ((entKnown.f 1 1 1).bind fun t124 => (some t124)) else (some false))) else (some false))) else (some false)) else (some false)) else (some false)) else (some false)) else (some false)) else (some false)) = some r := H
    have A4 := Aside0.mk A40
    clear A40
    by_cases c5 : t102.toList = ([6, 2, 2, 2, 10, 8] : List UInt8)
    · rw [if_pos c5] at H
      have c5b0 : (t102.toList == ([6, 2, 2, 2, 10, 8] : List UInt8)) = true := beq_iff_eq.mpr c5
      have c5b1 : (t102.toList != ([6, 2, 2, 2, 10, 8] : List UInt8)) = false := bne_eq_false_iff_eq.mpr c5
      clear c5
      by_cases c6 : t103 = 0
      · rw [if_pos c6] at H
        have c6b0 : (t103 == 0) = true := beq_iff_eq.mpr c6
        have c6b1 : (t103 != 0) = false := bne_eq_false_iff_eq.mpr c6
        clear c6
        by_cases c7 : (t104 == 3 && ((t105 == 1 && (t106 == 1 && (t107 == 1))) && (t108 == 5 && (t109 == 4 && (t110 == 0 && (t111 == 0 && ((!t112 && (t113.toList == ([] : List UInt8))) && ((!t114 && (t115.toList == ([] : List UInt8))) && (t116 == 0))))))))) = true
        · rw [if_pos c7] at H
          have c7b0 : (t104 == 3 && ((t105 == 1 && (t106 == 1 && (t107 == 1))) && (t108 == 5 && (t109 == 4 && (t110 == 0 && (t111 == 0 && ((!t112 && (t113.toList == ([] : List UInt8))) && ((!t114 && (t115.toList == ([] : List UInt8))) && (t116 == 0))))))))) = true := c7
          (try (have c7b1 : decide (t104 = 3 && ((t105 == 1 && (t106 == 1 && (t107 == 1))) && (t108 == 5 && (t109 == 4 && (t110 == 0 && (t111 == 0 && ((!t112 && (t113.toList == ([] : List UInt8))) && ((!t114 && (t115.toList == ([] : List UInt8))) && (t116 == 0))))))))) = true := by simpa using c7))
          (try (have c7b2 : (t104 == 3 && ((t105 == 1 && (t106 == 1 && (t107 == 1))) && (t108 == 5 && (t109 == 4 && (t110 == 0 && (t111 == 0 && ((!t112 && (t113.toList == ([] : List UInt8))) && ((!t114 && (t115.toList == ([] : List UInt8))) && (t116 == 0))))))))) = true := by simpa using c7))
          clear c7
          by_cases c8 : t117.toList = ([122] : List UInt8)
          · rw [if_pos c8] at H
            have c8b0 : (t117.toList == ([122] : List UInt8)) = true := beq_iff_eq.mpr c8
            have c8b1 : (t117.toList != ([122] : List UInt8)) = false := bne_eq_false_iff_eq.mpr c8
            clear c8
            by_cases c9 : t118 = 0
            · rw [if_pos c9] at H
              have c9b0 : (t118 == 0) = true := beq_iff_eq.mpr c9
              have c9b1 : (t118 != 0) = false := bne_eq_false_iff_eq.mpr c9
              clear c9
              by_cases c10 : t121 = 1
              · rw [if_pos c10] at H
                have c10b0 : (t121 == 1) = true := beq_iff_eq.mpr c10
                have c10b1 : (t121 != 1) = false := bne_eq_false_iff_eq.mpr c10
                clear c10
                replace H := Option.bind_eq_some_iff.mp H
                obtain ⟨t122, A110, H⟩ := H
                replace H : (if t122 = 2 then ((entGood.f 3 1 1 1 5 4 0 0 false (⟨#[]⟩ : ByteArray) false (⟨#[]⟩ : ByteArray) 0).bind fun t123 => (if t123 = true then ((entKnown.f 1 1 1).bind fun t124 => (some t124)) else (some false))) else (some false)) = some r := H
                have A11 := Aside0.mk A110
                clear A110
                by_cases c12 : t122 = 2
                · rw [if_pos c12] at H
                  have c12b0 : (t122 == 2) = true := beq_iff_eq.mpr c12
                  have c12b1 : (t122 != 2) = false := bne_eq_false_iff_eq.mpr c12
                  clear c12
                  replace H := Option.bind_eq_some_iff.mp H
                  obtain ⟨t123, A130, H⟩ := H
                  replace H : (if t123 = true then ((entKnown.f 1 1 1).bind fun t124 => (some t124)) else (some false)) = some r := H
                  have A13 := Aside0.mk A130
                  clear A130
                  by_cases c14 : t123 = true
                  · subst c14
                    have H1 : ((entKnown.f 1 1 1).bind fun t124 => (some t124)) = some r := by rw [if_pos rfl] at H; exact H
                    clear H
                    have H := H1
                    clear H1
                    replace H := Option.bind_eq_some_iff.mp H
                    obtain ⟨t124, A150, H⟩ := H
                    replace H : (some t124) = some r := H
                    have A15 := Aside0.mk A150
                    clear A150
                    obtain rfl := Option.some.inj H
                    go_enter Try.func51, Try.ntmps51
                    go_wp2_with (first | ((with_reducible refine gate_dst (N := 1) rfl ?_); refine box_event ?hg (N := 1) ?hd (cs := #[.int .i64 0, .int .i64 0, .int .i64 0, .int .i64 0, .int .i64 0, .int .i64 0, .int .i64 0, .int .i64 0, .bool false, .string (⟨#[]⟩ : ByteArray), .bool false, .string (⟨#[]⟩ : ByteArray), .int .i64 0]) (t := 65) ?hr ?_; (case hd => rfl); (case hg => rfl); (case hr => first | (go_simp; done) | (go_simp; rfl)); intro gb101 hg w16 hbox hb; have n0_ := Aside0.mk (below_step (by repeat (first | (with_reducible first | exact HB.out | apply below_alloc | apply pw_below_drewN | apply below_drew1) | exact HB.out)) hb); have n1_ := Aside0.mk (hbox); have n2_ := Aside0.mk ((by rw [hg]; exact (below_size (by repeat (first | (with_reducible first | exact HB.out | apply below_alloc | apply pw_below_drewN | apply below_drew1) | exact HB.out))) : w.heap.size ≤ gb101)); have n3_ := Aside0.mk ((by rw [hg]; exact (below_size (by repeat (first | (with_reducible first | exact HB.out | apply below_alloc | apply pw_below_drewN | apply below_drew1) | exact HB.out))) : w.heap.size ≤ gb101)); clear HB; have HB := n0_; have BK101 := n1_; have GW101 := n2_; have GE101 := n3_; clear n0_ n1_ n2_ n3_; clear hb hbox hg; have hcz17_0 : w16.cell? ⟨gb101, 0, none⟩ = some (.int .i64 0) := (blk_cell BK101.out 0).trans rfl; have hcz17_1 : w16.cell? ⟨gb101, 1, none⟩ = some (.int .i64 0) := (blk_cell BK101.out 1).trans rfl; have hcz17_2 : w16.cell? ⟨gb101, 2, none⟩ = some (.int .i64 0) := (blk_cell BK101.out 2).trans rfl; have hcz17_3 : w16.cell? ⟨gb101, 3, none⟩ = some (.int .i64 0) := (blk_cell BK101.out 3).trans rfl; have hcz17_4 : w16.cell? ⟨gb101, 4, none⟩ = some (.int .i64 0) := (blk_cell BK101.out 4).trans rfl; have hcz17_5 : w16.cell? ⟨gb101, 5, none⟩ = some (.int .i64 0) := (blk_cell BK101.out 5).trans rfl; have hcz17_6 : w16.cell? ⟨gb101, 6, none⟩ = some (.int .i64 0) := (blk_cell BK101.out 6).trans rfl; have hcz17_7 : w16.cell? ⟨gb101, 7, none⟩ = some (.int .i64 0) := (blk_cell BK101.out 7).trans rfl; have hcz17_8 : w16.cell? ⟨gb101, 8, none⟩ = some (.bool false) := (blk_cell BK101.out 8).trans rfl; have hcz17_9 : w16.cell? ⟨gb101, 9, none⟩ = some (.string (⟨#[]⟩ : ByteArray)) := (blk_cell BK101.out 9).trans rfl; have hcz17_10 : w16.cell? ⟨gb101, 10, none⟩ = some (.bool false) := (blk_cell BK101.out 10).trans rfl; have hcz17_11 : w16.cell? ⟨gb101, 11, none⟩ = some (.string (⟨#[]⟩ : ByteArray)) := (blk_cell BK101.out 11).trans rfl; have hcz17_12 : w16.cell? ⟨gb101, 12, none⟩ = some (.int .i64 0) := (blk_cell BK101.out 12).trans rfl; have hfz17_0 := blk_frozen BK101.out 0; have hfz17_1 := blk_frozen BK101.out 1; have hfz17_2 := blk_frozen BK101.out 2; have hfz17_3 := blk_frozen BK101.out 3; have hfz17_4 := blk_frozen BK101.out 4; have hfz17_5 := blk_frozen BK101.out 5; have hfz17_6 := blk_frozen BK101.out 6; have hfz17_7 := blk_frozen BK101.out 7; have hfz17_8 := blk_frozen BK101.out 8; have hfz17_9 := blk_frozen BK101.out 9; have hfz17_10 := blk_frozen BK101.out 10; have hfz17_11 := blk_frozen BK101.out 11; have hfz17_12 := blk_frozen BK101.out 12) | ((with_reducible refine gate_callee (f := 53) rfl ?_); refine goesL_ (some 13) rfl rfl Try.func53 (by kernel_rfl) rfl #[.agg #[.int .i64 3, .int .i64 1, .int .i64 1, .int .i64 1, .int .i64 5, .int .i64 4, .int .i64 0, .int .i64 0, .bool false, .string (⟨#[]⟩ : ByteArray), .bool false, .string (⟨#[]⟩ : ByteArray), .int .i64 0]] rfl (by (try simp only [List.map_toArray, List.map_cons, List.map_nil]); first | done | rfl | (simp only [List.length_drop, List.length_take]; rfl)) ?_; (with_reducible refine (entEnc.calls 3 1 1 1 5 4 0 0 false (⟨#[]⟩ : ByteArray) false (⟨#[]⟩ : ByteArray) 0 t102 t103 _ A1.out).mono ?_); rintro e w18 ⟨rfl, hb⟩; refine ⟨_, rfl, ?_⟩; have n0_ := Aside0.mk (blk_below (g := gb101) (o := .cells #[.int .i64 3, .int .i64 1, .int .i64 1, .int .i64 1, .int .i64 5, .int .i64 4, .int .i64 0, .int .i64 0, .bool false, .string (⟨#[]⟩ : ByteArray), .bool false, .string (⟨#[]⟩ : ByteArray), .int .i64 0] 65 (0, 0)) (by (with_reducible repeat (first | refine blk_drewN ?_ _ | refine blk_drew ?_ | refine blk_alloc ?_ _)); refine blk_put (cs := #[.int .i64 3, .int .i64 1, .int .i64 1, .int .i64 1, .int .i64 5, .int .i64 4, .int .i64 0, .int .i64 0, .bool false, .string (⟨#[]⟩ : ByteArray), .bool false, .string (⟨#[]⟩ : ByteArray), .int .i64 0]) ?_ 12 _ rfl; (with_reducible repeat (first | refine blk_drewN ?_ _ | refine blk_drew ?_ | refine blk_alloc ?_ _)); refine blk_put (cs := #[.int .i64 3, .int .i64 1, .int .i64 1, .int .i64 1, .int .i64 5, .int .i64 4, .int .i64 0, .int .i64 0, .bool false, .string (⟨#[]⟩ : ByteArray), .bool false, .string (⟨#[]⟩ : ByteArray), .int .i64 0]) ?_ 11 _ rfl; (with_reducible repeat (first | refine blk_drewN ?_ _ | refine blk_drew ?_ | refine blk_alloc ?_ _)); refine blk_put (cs := #[.int .i64 3, .int .i64 1, .int .i64 1, .int .i64 1, .int .i64 5, .int .i64 4, .int .i64 0, .int .i64 0, .bool false, .string (⟨#[]⟩ : ByteArray), .bool false, .string (⟨#[]⟩ : ByteArray), .int .i64 0]) ?_ 10 _ rfl; (with_reducible repeat (first | refine blk_drewN ?_ _ | refine blk_drew ?_ | refine blk_alloc ?_ _)); refine blk_put (cs := #[.int .i64 3, .int .i64 1, .int .i64 1, .int .i64 1, .int .i64 5, .int .i64 4, .int .i64 0, .int .i64 0, .bool false, .string (⟨#[]⟩ : ByteArray), .bool false, .string (⟨#[]⟩ : ByteArray), .int .i64 0]) ?_ 9 _ rfl; (with_reducible repeat (first | refine blk_drewN ?_ _ | refine blk_drew ?_ | refine blk_alloc ?_ _)); refine blk_put (cs := #[.int .i64 3, .int .i64 1, .int .i64 1, .int .i64 1, .int .i64 5, .int .i64 4, .int .i64 0, .int .i64 0, .bool false, .string (⟨#[]⟩ : ByteArray), .bool false, .string (⟨#[]⟩ : ByteArray), .int .i64 0]) ?_ 8 _ rfl; (with_reducible repeat (first | refine blk_drewN ?_ _ | refine blk_drew ?_ | refine blk_alloc ?_ _)); refine blk_put (cs := #[.int .i64 3, .int .i64 1, .int .i64 1, .int .i64 1, .int .i64 5, .int .i64 4, .int .i64 0, .int .i64 0, .bool false, .string (⟨#[]⟩ : ByteArray), .bool false, .string (⟨#[]⟩ : ByteArray), .int .i64 0]) ?_ 7 _ rfl; (with_reducible repeat (first | refine blk_drewN ?_ _ | refine blk_drew ?_ | refine blk_alloc ?_ _)); refine blk_put (cs := #[.int .i64 3, .int .i64 1, .int .i64 1, .int .i64 1, .int .i64 5, .int .i64 4, .int .i64 0, .int .i64 0, .bool false, .string (⟨#[]⟩ : ByteArray), .bool false, .string (⟨#[]⟩ : ByteArray), .int .i64 0]) ?_ 6 _ rfl; (with_reducible repeat (first | refine blk_drewN ?_ _ | refine blk_drew ?_ | refine blk_alloc ?_ _)); refine blk_put (cs := #[.int .i64 3, .int .i64 1, .int .i64 1, .int .i64 1, .int .i64 5, .int .i64 0, .int .i64 0, .int .i64 0, .bool false, .string (⟨#[]⟩ : ByteArray), .bool false, .string (⟨#[]⟩ : ByteArray), .int .i64 0]) ?_ 5 _ rfl; (with_reducible repeat (first | refine blk_drewN ?_ _ | refine blk_drew ?_ | refine blk_alloc ?_ _)); refine blk_put (cs := #[.int .i64 3, .int .i64 1, .int .i64 1, .int .i64 1, .int .i64 0, .int .i64 0, .int .i64 0, .int .i64 0, .bool false, .string (⟨#[]⟩ : ByteArray), .bool false, .string (⟨#[]⟩ : ByteArray), .int .i64 0]) ?_ 4 _ rfl; (with_reducible repeat (first | refine blk_drewN ?_ _ | refine blk_drew ?_ | refine blk_alloc ?_ _)); refine blk_put (cs := #[.int .i64 3, .int .i64 1, .int .i64 1, .int .i64 0, .int .i64 0, .int .i64 0, .int .i64 0, .int .i64 0, .bool false, .string (⟨#[]⟩ : ByteArray), .bool false, .string (⟨#[]⟩ : ByteArray), .int .i64 0]) ?_ 3 _ rfl; (with_reducible repeat (first | refine blk_drewN ?_ _ | refine blk_drew ?_ | refine blk_alloc ?_ _)); refine blk_put (cs := #[.int .i64 3, .int .i64 1, .int .i64 0, .int .i64 0, .int .i64 0, .int .i64 0, .int .i64 0, .int .i64 0, .bool false, .string (⟨#[]⟩ : ByteArray), .bool false, .string (⟨#[]⟩ : ByteArray), .int .i64 0]) ?_ 2 _ rfl; (with_reducible repeat (first | refine blk_drewN ?_ _ | refine blk_drew ?_ | refine blk_alloc ?_ _)); refine blk_put (cs := #[.int .i64 3, .int .i64 0, .int .i64 0, .int .i64 0, .int .i64 0, .int .i64 0, .int .i64 0, .int .i64 0, .bool false, .string (⟨#[]⟩ : ByteArray), .bool false, .string (⟨#[]⟩ : ByteArray), .int .i64 0]) ?_ 1 _ rfl; (with_reducible repeat (first | refine blk_drewN ?_ _ | refine blk_drew ?_ | refine blk_alloc ?_ _)); refine blk_put (cs := #[.int .i64 0, .int .i64 0, .int .i64 0, .int .i64 0, .int .i64 0, .int .i64 0, .int .i64 0, .int .i64 0, .bool false, .string (⟨#[]⟩ : ByteArray), .bool false, .string (⟨#[]⟩ : ByteArray), .int .i64 0]) ?_ 0 _ rfl; (with_reducible repeat (first | refine blk_drewN ?_ _ | refine blk_drew ?_ | refine blk_alloc ?_ _)); exact BK101.out) hb); have n1_ := Aside0.mk (below_step (by repeat (first | (with_reducible first | exact HB.out | apply below_alloc | apply pw_below_drewN | apply below_drew1 | refine below_set ?_ GE101.out) | exact HB.out)) hb); clear BK101; clear HB; have BK101 := n0_; have HB := n1_; clear n0_ n1_; (try clear hb); (try clear hb2); (try clear hk); (try clear hi)) | ((with_reducible refine gate_callee (f := 63) rfl ?_); refine goesL_ (some 19) rfl rfl Try.func63 (by kernel_rfl) rfl #[.string (t102 ++ (⟨#[122]⟩ : ByteArray))] rfl (by (try simp only [List.map_toArray, List.map_cons, List.map_nil]); first | done | rfl | (simp only [List.length_drop, List.length_take]; rfl)) ?_; (with_reducible refine (entry_Decode.calls (t102 ++ (⟨#[122]⟩ : ByteArray)) t104 t105 t106 t107 t108 t109 t110 t111 t112 t113 t114 t115 t116 t117 t118 _ A3.out).mono ?_); rintro e w19 ⟨rfl, hb⟩; refine ⟨_, rfl, ?_⟩; have n0_ := Aside0.mk (blk_below (g := gb101) (o := .cells #[.int .i64 3, .int .i64 1, .int .i64 1, .int .i64 1, .int .i64 5, .int .i64 4, .int .i64 0, .int .i64 0, .bool false, .string (⟨#[]⟩ : ByteArray), .bool false, .string (⟨#[]⟩ : ByteArray), .int .i64 0] 65 (0, 0)) (by (with_reducible repeat (first | refine blk_drewN ?_ _ | refine blk_drew ?_ | refine blk_alloc ?_ _)); exact BK101.out) hb); have n1_ := Aside0.mk (below_step (by repeat (first | (with_reducible first | exact HB.out | apply below_alloc | apply pw_below_drewN | apply below_drew1 | refine below_set ?_ GE101.out) | exact HB.out)) hb); clear BK101; clear HB; have BK101 := n0_; have HB := n1_; clear n0_ n1_; (try clear hb); (try clear hb2); (try clear hk); (try clear hi)) | ((with_reducible refine gate_dst (N := 4) rfl ?_); refine box_event ?hg (N := 4) ?hd (cs := #[.int .i64 0, .int .i64 0, .int .i64 0, .int .i64 0, .int .i64 0, .int .i64 0, .int .i64 0, .int .i64 0, .bool false, .string (⟨#[]⟩ : ByteArray), .bool false, .string (⟨#[]⟩ : ByteArray), .int .i64 0]) (t := 65) ?hr ?_; (case hd => rfl); (case hg => rfl); (case hr => first | (go_simp; done) | (go_simp; rfl)); intro gb119 hg w20 hbox hb; have n0_ := Aside0.mk (blk_below (g := gb101) (o := .cells #[.int .i64 3, .int .i64 1, .int .i64 1, .int .i64 1, .int .i64 5, .int .i64 4, .int .i64 0, .int .i64 0, .bool false, .string (⟨#[]⟩ : ByteArray), .bool false, .string (⟨#[]⟩ : ByteArray), .int .i64 0] 65 (0, 0)) (by (with_reducible repeat (first | refine blk_drewN ?_ _ | refine blk_drew ?_ | refine blk_alloc ?_ _)); exact BK101.out) hb); have n1_ := Aside0.mk (below_step (by repeat (first | (with_reducible first | exact HB.out | apply below_alloc | apply pw_below_drewN | apply below_drew1 | refine below_set ?_ GE101.out) | exact HB.out)) hb); have n2_ := Aside0.mk (hbox); have n3_ := Aside0.mk ((by rw [hg]; exact (below_size (by repeat (first | (with_reducible first | exact HB.out | apply below_alloc | apply pw_below_drewN | apply below_drew1 | refine below_set ?_ GE101.out) | exact HB.out))) : w.heap.size ≤ gb119)); have n4_ := Aside0.mk ((by rw [hg]; exact (below_size (by repeat (first | (with_reducible first | exact HB.out | apply below_alloc | apply pw_below_drewN | apply below_drew1 | refine below_set ?_ GE101.out) | exact HB.out))) : w.heap.size ≤ gb119)); have n5_ := Aside0.mk ((by rw [hg]; exact Nat.ne_of_lt (blk_lt (g := gb101) (o := .cells #[.int .i64 3, .int .i64 1, .int .i64 1, .int .i64 1, .int .i64 5, .int .i64 4, .int .i64 0, .int .i64 0, .bool false, .string (⟨#[]⟩ : ByteArray), .bool false, .string (⟨#[]⟩ : ByteArray), .int .i64 0] 65 (0, 0)) (by (with_reducible repeat (first | refine blk_drewN ?_ _ | refine blk_drew ?_ | refine blk_alloc ?_ _)); exact BK101.out)) : gb101 ≠ gb119)); have n6_ := Aside0.mk ((by rw [hg]; exact Nat.ne_of_gt (blk_lt (g := gb101) (o := .cells #[.int .i64 3, .int .i64 1, .int .i64 1, .int .i64 1, .int .i64 5, .int .i64 4, .int .i64 0, .int .i64 0, .bool false, .string (⟨#[]⟩ : ByteArray), .bool false, .string (⟨#[]⟩ : ByteArray), .int .i64 0] 65 (0, 0)) (by (with_reducible repeat (first | refine blk_drewN ?_ _ | refine blk_drew ?_ | refine blk_alloc ?_ _)); exact BK101.out)) : gb119 ≠ gb101)); clear BK101; clear HB; have BK101 := n0_; have HB := n1_; have BK119 := n2_; have GW119 := n3_; have GE119 := n4_; have NB101_119 := n5_; have NB119_101 := n6_; clear n0_ n1_ n2_ n3_ n4_ n5_ n6_; clear hb hbox hg; have hnb21 := NB119_101.out; have hnc21 := NB101_119.out; have hcz22_0 : w20.cell? ⟨gb119, 0, none⟩ = some (.int .i64 0) := (blk_cell BK119.out 0).trans rfl; have hcz22_1 : w20.cell? ⟨gb119, 1, none⟩ = some (.int .i64 0) := (blk_cell BK119.out 1).trans rfl; have hcz22_2 : w20.cell? ⟨gb119, 2, none⟩ = some (.int .i64 0) := (blk_cell BK119.out 2).trans rfl; have hcz22_3 : w20.cell? ⟨gb119, 3, none⟩ = some (.int .i64 0) := (blk_cell BK119.out 3).trans rfl; have hcz22_4 : w20.cell? ⟨gb119, 4, none⟩ = some (.int .i64 0) := (blk_cell BK119.out 4).trans rfl; have hcz22_5 : w20.cell? ⟨gb119, 5, none⟩ = some (.int .i64 0) := (blk_cell BK119.out 5).trans rfl; have hcz22_6 : w20.cell? ⟨gb119, 6, none⟩ = some (.int .i64 0) := (blk_cell BK119.out 6).trans rfl; have hcz22_7 : w20.cell? ⟨gb119, 7, none⟩ = some (.int .i64 0) := (blk_cell BK119.out 7).trans rfl; have hcz22_8 : w20.cell? ⟨gb119, 8, none⟩ = some (.bool false) := (blk_cell BK119.out 8).trans rfl; have hcz22_9 : w20.cell? ⟨gb119, 9, none⟩ = some (.string (⟨#[]⟩ : ByteArray)) := (blk_cell BK119.out 9).trans rfl; have hcz22_10 : w20.cell? ⟨gb119, 10, none⟩ = some (.bool false) := (blk_cell BK119.out 10).trans rfl; have hcz22_11 : w20.cell? ⟨gb119, 11, none⟩ = some (.string (⟨#[]⟩ : ByteArray)) := (blk_cell BK119.out 11).trans rfl; have hcz22_12 : w20.cell? ⟨gb119, 12, none⟩ = some (.int .i64 0) := (blk_cell BK119.out 12).trans rfl; have hfz22_0 := blk_frozen BK119.out 0; have hfz22_1 := blk_frozen BK119.out 1; have hfz22_2 := blk_frozen BK119.out 2; have hfz22_3 := blk_frozen BK119.out 3; have hfz22_4 := blk_frozen BK119.out 4; have hfz22_5 := blk_frozen BK119.out 5; have hfz22_6 := blk_frozen BK119.out 6; have hfz22_7 := blk_frozen BK119.out 7; have hfz22_8 := blk_frozen BK119.out 8; have hfz22_9 := blk_frozen BK119.out 9; have hfz22_10 := blk_frozen BK119.out 10; have hfz22_11 := blk_frozen BK119.out 11; have hfz22_12 := blk_frozen BK119.out 12) | ((with_reducible refine gate_callee (f := 53) rfl ?_); refine goesL_ (some 25) rfl rfl Try.func53 (by kernel_rfl) rfl #[.agg #[.int .i64 0, .int .i64 0, .int .i64 0, .int .i64 0, .int .i64 0, .int .i64 0, .int .i64 0, .int .i64 0, .bool false, .string (⟨#[]⟩ : ByteArray), .bool false, .string (⟨#[]⟩ : ByteArray), .int .i64 0]] rfl (by (try simp only [List.map_toArray, List.map_cons, List.map_nil]); first | done | rfl | (simp only [List.length_drop, List.length_take]; rfl)) ?_; (with_reducible refine (entEnc.calls 0 0 0 0 0 0 0 0 false (⟨#[]⟩ : ByteArray) false (⟨#[]⟩ : ByteArray) 0 t120 t121 _ A4.out).mono ?_); rintro e w23 ⟨rfl, hb⟩; refine ⟨_, rfl, ?_⟩; have n0_ := Aside0.mk (blk_below (g := gb101) (o := .cells #[.int .i64 3, .int .i64 1, .int .i64 1, .int .i64 1, .int .i64 5, .int .i64 4, .int .i64 0, .int .i64 0, .bool false, .string (⟨#[]⟩ : ByteArray), .bool false, .string (⟨#[]⟩ : ByteArray), .int .i64 0] 65 (0, 0)) (by (with_reducible repeat (first | refine blk_drewN ?_ _ | refine blk_drew ?_ | refine blk_alloc ?_ _)); refine blk_far ?_ NB101_119.out _; (with_reducible repeat (first | refine blk_drewN ?_ _ | refine blk_drew ?_ | refine blk_alloc ?_ _)); refine blk_far ?_ NB101_119.out _; (with_reducible repeat (first | refine blk_drewN ?_ _ | refine blk_drew ?_ | refine blk_alloc ?_ _)); refine blk_far ?_ NB101_119.out _; (with_reducible repeat (first | refine blk_drewN ?_ _ | refine blk_drew ?_ | refine blk_alloc ?_ _)); refine blk_far ?_ NB101_119.out _; (with_reducible repeat (first | refine blk_drewN ?_ _ | refine blk_drew ?_ | refine blk_alloc ?_ _)); refine blk_far ?_ NB101_119.out _; (with_reducible repeat (first | refine blk_drewN ?_ _ | refine blk_drew ?_ | refine blk_alloc ?_ _)); refine blk_far ?_ NB101_119.out _; (with_reducible repeat (first | refine blk_drewN ?_ _ | refine blk_drew ?_ | refine blk_alloc ?_ _)); refine blk_far ?_ NB101_119.out _; (with_reducible repeat (first | refine blk_drewN ?_ _ | refine blk_drew ?_ | refine blk_alloc ?_ _)); refine blk_far ?_ NB101_119.out _; (with_reducible repeat (first | refine blk_drewN ?_ _ | refine blk_drew ?_ | refine blk_alloc ?_ _)); refine blk_far ?_ NB101_119.out _; (with_reducible repeat (first | refine blk_drewN ?_ _ | refine blk_drew ?_ | refine blk_alloc ?_ _)); refine blk_far ?_ NB101_119.out _; (with_reducible repeat (first | refine blk_drewN ?_ _ | refine blk_drew ?_ | refine blk_alloc ?_ _)); refine blk_far ?_ NB101_119.out _; (with_reducible repeat (first | refine blk_drewN ?_ _ | refine blk_drew ?_ | refine blk_alloc ?_ _)); refine blk_far ?_ NB101_119.out _; (with_reducible repeat (first | refine blk_drewN ?_ _ | refine blk_drew ?_ | refine blk_alloc ?_ _)); refine blk_far ?_ NB101_119.out _; (with_reducible repeat (first | refine blk_drewN ?_ _ | refine blk_drew ?_ | refine blk_alloc ?_ _)); exact BK101.out) hb); have n1_ := Aside0.mk (blk_below (g := gb119) (o := .cells #[.int .i64 t104, .int .i64 t105, .int .i64 t106, .int .i64 t107, .int .i64 t108, .int .i64 t109, .int .i64 t110, .int .i64 t111, .bool t112, .string t113, .bool t114, .string t115, .int .i64 t116] 65 (0, 0)) (by (with_reducible repeat (first | refine blk_drewN ?_ _ | refine blk_drew ?_ | refine blk_alloc ?_ _)); refine blk_put (cs := #[.int .i64 t104, .int .i64 t105, .int .i64 t106, .int .i64 t107, .int .i64 t108, .int .i64 t109, .int .i64 t110, .int .i64 t111, .bool t112, .string t113, .bool t114, .string t115, .int .i64 0]) ?_ 12 _ rfl; (with_reducible repeat (first | refine blk_drewN ?_ _ | refine blk_drew ?_ | refine blk_alloc ?_ _)); refine blk_put (cs := #[.int .i64 t104, .int .i64 t105, .int .i64 t106, .int .i64 t107, .int .i64 t108, .int .i64 t109, .int .i64 t110, .int .i64 t111, .bool t112, .string t113, .bool t114, .string (⟨#[]⟩ : ByteArray), .int .i64 0]) ?_ 11 _ rfl; (with_reducible repeat (first | refine blk_drewN ?_ _ | refine blk_drew ?_ | refine blk_alloc ?_ _)); refine blk_put (cs := #[.int .i64 t104, .int .i64 t105, .int .i64 t106, .int .i64 t107, .int .i64 t108, .int .i64 t109, .int .i64 t110, .int .i64 t111, .bool t112, .string t113, .bool false, .string (⟨#[]⟩ : ByteArray), .int .i64 0]) ?_ 10 _ rfl; (with_reducible repeat (first | refine blk_drewN ?_ _ | refine blk_drew ?_ | refine blk_alloc ?_ _)); refine blk_put (cs := #[.int .i64 t104, .int .i64 t105, .int .i64 t106, .int .i64 t107, .int .i64 t108, .int .i64 t109, .int .i64 t110, .int .i64 t111, .bool t112, .string (⟨#[]⟩ : ByteArray), .bool false, .string (⟨#[]⟩ : ByteArray), .int .i64 0]) ?_ 9 _ rfl; (with_reducible repeat (first | refine blk_drewN ?_ _ | refine blk_drew ?_ | refine blk_alloc ?_ _)); refine blk_put (cs := #[.int .i64 t104, .int .i64 t105, .int .i64 t106, .int .i64 t107, .int .i64 t108, .int .i64 t109, .int .i64 t110, .int .i64 t111, .bool false, .string (⟨#[]⟩ : ByteArray), .bool false, .string (⟨#[]⟩ : ByteArray), .int .i64 0]) ?_ 8 _ rfl; (with_reducible repeat (first | refine blk_drewN ?_ _ | refine blk_drew ?_ | refine blk_alloc ?_ _)); refine blk_put (cs := #[.int .i64 t104, .int .i64 t105, .int .i64 t106, .int .i64 t107, .int .i64 t108, .int .i64 t109, .int .i64 t110, .int .i64 0, .bool false, .string (⟨#[]⟩ : ByteArray), .bool false, .string (⟨#[]⟩ : ByteArray), .int .i64 0]) ?_ 7 _ rfl; (with_reducible repeat (first | refine blk_drewN ?_ _ | refine blk_drew ?_ | refine blk_alloc ?_ _)); refine blk_put (cs := #[.int .i64 t104, .int .i64 t105, .int .i64 t106, .int .i64 t107, .int .i64 t108, .int .i64 t109, .int .i64 0, .int .i64 0, .bool false, .string (⟨#[]⟩ : ByteArray), .bool false, .string (⟨#[]⟩ : ByteArray), .int .i64 0]) ?_ 6 _ rfl; (with_reducible repeat (first | refine blk_drewN ?_ _ | refine blk_drew ?_ | refine blk_alloc ?_ _)); refine blk_put (cs := #[.int .i64 t104, .int .i64 t105, .int .i64 t106, .int .i64 t107, .int .i64 t108, .int .i64 0, .int .i64 0, .int .i64 0, .bool false, .string (⟨#[]⟩ : ByteArray), .bool false, .string (⟨#[]⟩ : ByteArray), .int .i64 0]) ?_ 5 _ rfl; (with_reducible repeat (first | refine blk_drewN ?_ _ | refine blk_drew ?_ | refine blk_alloc ?_ _)); refine blk_put (cs := #[.int .i64 t104, .int .i64 t105, .int .i64 t106, .int .i64 t107, .int .i64 0, .int .i64 0, .int .i64 0, .int .i64 0, .bool false, .string (⟨#[]⟩ : ByteArray), .bool false, .string (⟨#[]⟩ : ByteArray), .int .i64 0]) ?_ 4 _ rfl; (with_reducible repeat (first | refine blk_drewN ?_ _ | refine blk_drew ?_ | refine blk_alloc ?_ _)); refine blk_put (cs := #[.int .i64 t104, .int .i64 t105, .int .i64 t106, .int .i64 0, .int .i64 0, .int .i64 0, .int .i64 0, .int .i64 0, .bool false, .string (⟨#[]⟩ : ByteArray), .bool false, .string (⟨#[]⟩ : ByteArray), .int .i64 0]) ?_ 3 _ rfl; (with_reducible repeat (first | refine blk_drewN ?_ _ | refine blk_drew ?_ | refine blk_alloc ?_ _)); refine blk_put (cs := #[.int .i64 t104, .int .i64 t105, .int .i64 0, .int .i64 0, .int .i64 0, .int .i64 0, .int .i64 0, .int .i64 0, .bool false, .string (⟨#[]⟩ : ByteArray), .bool false, .string (⟨#[]⟩ : ByteArray), .int .i64 0]) ?_ 2 _ rfl; (with_reducible repeat (first | refine blk_drewN ?_ _ | refine blk_drew ?_ | refine blk_alloc ?_ _)); refine blk_put (cs := #[.int .i64 t104, .int .i64 0, .int .i64 0, .int .i64 0, .int .i64 0, .int .i64 0, .int .i64 0, .int .i64 0, .bool false, .string (⟨#[]⟩ : ByteArray), .bool false, .string (⟨#[]⟩ : ByteArray), .int .i64 0]) ?_ 1 _ rfl; (with_reducible repeat (first | refine blk_drewN ?_ _ | refine blk_drew ?_ | refine blk_alloc ?_ _)); refine blk_put (cs := #[.int .i64 0, .int .i64 0, .int .i64 0, .int .i64 0, .int .i64 0, .int .i64 0, .int .i64 0, .int .i64 0, .bool false, .string (⟨#[]⟩ : ByteArray), .bool false, .string (⟨#[]⟩ : ByteArray), .int .i64 0]) ?_ 0 _ rfl; (with_reducible repeat (first | refine blk_drewN ?_ _ | refine blk_drew ?_ | refine blk_alloc ?_ _)); exact BK119.out) hb); have n2_ := Aside0.mk (below_step (by repeat (first | (with_reducible first | exact HB.out | apply below_alloc | apply pw_below_drewN | apply below_drew1 | refine below_set ?_ GE101.out | refine below_set ?_ GE119.out) | exact HB.out)) hb); clear BK101; clear BK119; clear HB; have BK101 := n0_; have BK119 := n1_; have HB := n2_; clear n0_ n1_ n2_; (try clear hb); (try clear hb2); (try clear hk); (try clear hi); have hcz24_0 : w23.cell? ⟨gb119, 0, none⟩ = some (.int .i64 t104) := (blk_cell BK119.out 0).trans rfl; have hcz24_1 : w23.cell? ⟨gb119, 1, none⟩ = some (.int .i64 t105) := (blk_cell BK119.out 1).trans rfl; have hcz24_2 : w23.cell? ⟨gb119, 2, none⟩ = some (.int .i64 t106) := (blk_cell BK119.out 2).trans rfl; have hcz24_3 : w23.cell? ⟨gb119, 3, none⟩ = some (.int .i64 t107) := (blk_cell BK119.out 3).trans rfl; have hcz24_4 : w23.cell? ⟨gb119, 4, none⟩ = some (.int .i64 t108) := (blk_cell BK119.out 4).trans rfl; have hcz24_5 : w23.cell? ⟨gb119, 5, none⟩ = some (.int .i64 t109) := (blk_cell BK119.out 5).trans rfl; have hcz24_6 : w23.cell? ⟨gb119, 6, none⟩ = some (.int .i64 t110) := (blk_cell BK119.out 6).trans rfl; have hcz24_7 : w23.cell? ⟨gb119, 7, none⟩ = some (.int .i64 t111) := (blk_cell BK119.out 7).trans rfl; have hcz24_8 : w23.cell? ⟨gb119, 8, none⟩ = some (.bool t112) := (blk_cell BK119.out 8).trans rfl; have hcz24_9 : w23.cell? ⟨gb119, 9, none⟩ = some (.string t113) := (blk_cell BK119.out 9).trans rfl; have hcz24_10 : w23.cell? ⟨gb119, 10, none⟩ = some (.bool t114) := (blk_cell BK119.out 10).trans rfl; have hcz24_11 : w23.cell? ⟨gb119, 11, none⟩ = some (.string t115) := (blk_cell BK119.out 11).trans rfl; have hcz24_12 : w23.cell? ⟨gb119, 12, none⟩ = some (.int .i64 t116) := (blk_cell BK119.out 12).trans rfl; have hfz24_0 := blk_frozen BK119.out 0; have hfz24_1 := blk_frozen BK119.out 1; have hfz24_2 := blk_frozen BK119.out 2; have hfz24_3 := blk_frozen BK119.out 3; have hfz24_4 := blk_frozen BK119.out 4; have hfz24_5 := blk_frozen BK119.out 5; have hfz24_6 := blk_frozen BK119.out 6; have hfz24_7 := blk_frozen BK119.out 7; have hfz24_8 := blk_frozen BK119.out 8; have hfz24_9 := blk_frozen BK119.out 9; have hfz24_10 := blk_frozen BK119.out 10; have hfz24_11 := blk_frozen BK119.out 11; have hfz24_12 := blk_frozen BK119.out 12; have hcz25_0 : w23.cell? ⟨gb101, 0, none⟩ = some (.int .i64 3) := (blk_cell BK101.out 0).trans rfl; have hcz25_1 : w23.cell? ⟨gb101, 1, none⟩ = some (.int .i64 1) := (blk_cell BK101.out 1).trans rfl; have hcz25_2 : w23.cell? ⟨gb101, 2, none⟩ = some (.int .i64 1) := (blk_cell BK101.out 2).trans rfl; have hcz25_3 : w23.cell? ⟨gb101, 3, none⟩ = some (.int .i64 1) := (blk_cell BK101.out 3).trans rfl; have hcz25_4 : w23.cell? ⟨gb101, 4, none⟩ = some (.int .i64 5) := (blk_cell BK101.out 4).trans rfl; have hcz25_5 : w23.cell? ⟨gb101, 5, none⟩ = some (.int .i64 4) := (blk_cell BK101.out 5).trans rfl; have hcz25_6 : w23.cell? ⟨gb101, 6, none⟩ = some (.int .i64 0) := (blk_cell BK101.out 6).trans rfl; have hcz25_7 : w23.cell? ⟨gb101, 7, none⟩ = some (.int .i64 0) := (blk_cell BK101.out 7).trans rfl; have hcz25_8 : w23.cell? ⟨gb101, 8, none⟩ = some (.bool false) := (blk_cell BK101.out 8).trans rfl; have hcz25_9 : w23.cell? ⟨gb101, 9, none⟩ = some (.string (⟨#[]⟩ : ByteArray)) := (blk_cell BK101.out 9).trans rfl; have hcz25_10 : w23.cell? ⟨gb101, 10, none⟩ = some (.bool false) := (blk_cell BK101.out 10).trans rfl; have hcz25_11 : w23.cell? ⟨gb101, 11, none⟩ = some (.string (⟨#[]⟩ : ByteArray)) := (blk_cell BK101.out 11).trans rfl; have hcz25_12 : w23.cell? ⟨gb101, 12, none⟩ = some (.int .i64 0) := (blk_cell BK101.out 12).trans rfl; have hfz25_0 := blk_frozen BK101.out 0; have hfz25_1 := blk_frozen BK101.out 1; have hfz25_2 := blk_frozen BK101.out 2; have hfz25_3 := blk_frozen BK101.out 3; have hfz25_4 := blk_frozen BK101.out 4; have hfz25_5 := blk_frozen BK101.out 5; have hfz25_6 := blk_frozen BK101.out 6; have hfz25_7 := blk_frozen BK101.out 7; have hfz25_8 := blk_frozen BK101.out 8; have hfz25_9 := blk_frozen BK101.out 9; have hfz25_10 := blk_frozen BK101.out 10; have hfz25_11 := blk_frozen BK101.out 11; have hfz25_12 := blk_frozen BK101.out 12) | (go_at_call 57; (with_reducible refine (entCost.calls 3 1 1 1 5 4 0 0 false (⟨#[]⟩ : ByteArray) false (⟨#[]⟩ : ByteArray) 0 t122 _ A11.out).mono ?_); rintro e w26 ⟨rfl, hb⟩; have n0_ := Aside0.mk (blk_below (g := gb101) (o := .cells #[.int .i64 3, .int .i64 1, .int .i64 1, .int .i64 1, .int .i64 5, .int .i64 4, .int .i64 0, .int .i64 0, .bool false, .string (⟨#[]⟩ : ByteArray), .bool false, .string (⟨#[]⟩ : ByteArray), .int .i64 0] 65 (0, 0)) (by (with_reducible repeat (first | refine blk_drewN ?_ _ | refine blk_drew ?_ | refine blk_alloc ?_ _)); exact BK101.out) hb); have n1_ := Aside0.mk (blk_below (g := gb119) (o := .cells #[.int .i64 t104, .int .i64 t105, .int .i64 t106, .int .i64 t107, .int .i64 t108, .int .i64 t109, .int .i64 t110, .int .i64 t111, .bool t112, .string t113, .bool t114, .string t115, .int .i64 t116] 65 (0, 0)) (by (with_reducible repeat (first | refine blk_drewN ?_ _ | refine blk_drew ?_ | refine blk_alloc ?_ _)); exact BK119.out) hb); have n2_ := Aside0.mk (below_step (by repeat (first | (with_reducible first | exact HB.out | apply below_alloc | apply pw_below_drewN | apply below_drew1 | refine below_set ?_ GE101.out | refine below_set ?_ GE119.out) | exact HB.out)) hb); clear BK101; clear BK119; clear HB; have BK101 := n0_; have BK119 := n1_; have HB := n2_; clear n0_ n1_ n2_; (try clear hb); (try clear hb2); (try clear hk); (try clear hi); have hcz27_0 : w26.cell? ⟨gb101, 0, none⟩ = some (.int .i64 3) := (blk_cell BK101.out 0).trans rfl; have hcz27_1 : w26.cell? ⟨gb101, 1, none⟩ = some (.int .i64 1) := (blk_cell BK101.out 1).trans rfl; have hcz27_2 : w26.cell? ⟨gb101, 2, none⟩ = some (.int .i64 1) := (blk_cell BK101.out 2).trans rfl; have hcz27_3 : w26.cell? ⟨gb101, 3, none⟩ = some (.int .i64 1) := (blk_cell BK101.out 3).trans rfl; have hcz27_4 : w26.cell? ⟨gb101, 4, none⟩ = some (.int .i64 5) := (blk_cell BK101.out 4).trans rfl; have hcz27_5 : w26.cell? ⟨gb101, 5, none⟩ = some (.int .i64 4) := (blk_cell BK101.out 5).trans rfl; have hcz27_6 : w26.cell? ⟨gb101, 6, none⟩ = some (.int .i64 0) := (blk_cell BK101.out 6).trans rfl; have hcz27_7 : w26.cell? ⟨gb101, 7, none⟩ = some (.int .i64 0) := (blk_cell BK101.out 7).trans rfl; have hcz27_8 : w26.cell? ⟨gb101, 8, none⟩ = some (.bool false) := (blk_cell BK101.out 8).trans rfl; have hcz27_9 : w26.cell? ⟨gb101, 9, none⟩ = some (.string (⟨#[]⟩ : ByteArray)) := (blk_cell BK101.out 9).trans rfl; have hcz27_10 : w26.cell? ⟨gb101, 10, none⟩ = some (.bool false) := (blk_cell BK101.out 10).trans rfl; have hcz27_11 : w26.cell? ⟨gb101, 11, none⟩ = some (.string (⟨#[]⟩ : ByteArray)) := (blk_cell BK101.out 11).trans rfl; have hcz27_12 : w26.cell? ⟨gb101, 12, none⟩ = some (.int .i64 0) := (blk_cell BK101.out 12).trans rfl; have hfz27_0 := blk_frozen BK101.out 0; have hfz27_1 := blk_frozen BK101.out 1; have hfz27_2 := blk_frozen BK101.out 2; have hfz27_3 := blk_frozen BK101.out 3; have hfz27_4 := blk_frozen BK101.out 4; have hfz27_5 := blk_frozen BK101.out 5; have hfz27_6 := blk_frozen BK101.out 6; have hfz27_7 := blk_frozen BK101.out 7; have hfz27_8 := blk_frozen BK101.out 8; have hfz27_9 := blk_frozen BK101.out 9; have hfz27_10 := blk_frozen BK101.out 10; have hfz27_11 := blk_frozen BK101.out 11; have hfz27_12 := blk_frozen BK101.out 12) | (go_at_call 55; (with_reducible refine (entGood.calls 3 1 1 1 5 4 0 0 false (⟨#[]⟩ : ByteArray) false (⟨#[]⟩ : ByteArray) 0 true _ A13.out).mono ?_); rintro e w28 ⟨rfl, hb⟩; have n0_ := Aside0.mk (blk_below (g := gb101) (o := .cells #[.int .i64 3, .int .i64 1, .int .i64 1, .int .i64 1, .int .i64 5, .int .i64 4, .int .i64 0, .int .i64 0, .bool false, .string (⟨#[]⟩ : ByteArray), .bool false, .string (⟨#[]⟩ : ByteArray), .int .i64 0] 65 (0, 0)) (by (with_reducible repeat (first | refine blk_drewN ?_ _ | refine blk_drew ?_ | refine blk_alloc ?_ _)); exact BK101.out) hb); have n1_ := Aside0.mk (blk_below (g := gb119) (o := .cells #[.int .i64 t104, .int .i64 t105, .int .i64 t106, .int .i64 t107, .int .i64 t108, .int .i64 t109, .int .i64 t110, .int .i64 t111, .bool t112, .string t113, .bool t114, .string t115, .int .i64 t116] 65 (0, 0)) (by (with_reducible repeat (first | refine blk_drewN ?_ _ | refine blk_drew ?_ | refine blk_alloc ?_ _)); exact BK119.out) hb); have n2_ := Aside0.mk (below_step (by repeat (first | (with_reducible first | exact HB.out | apply below_alloc | apply pw_below_drewN | apply below_drew1 | refine below_set ?_ GE101.out | refine below_set ?_ GE119.out) | exact HB.out)) hb); clear BK101; clear BK119; clear HB; have BK101 := n0_; have BK119 := n1_; have HB := n2_; clear n0_ n1_ n2_; (try clear hb); (try clear hb2); (try clear hk); (try clear hi); have hcz29_0 : w28.cell? ⟨gb101, 0, none⟩ = some (.int .i64 3) := (blk_cell BK101.out 0).trans rfl; have hcz29_1 : w28.cell? ⟨gb101, 1, none⟩ = some (.int .i64 1) := (blk_cell BK101.out 1).trans rfl; have hcz29_2 : w28.cell? ⟨gb101, 2, none⟩ = some (.int .i64 1) := (blk_cell BK101.out 2).trans rfl; have hcz29_3 : w28.cell? ⟨gb101, 3, none⟩ = some (.int .i64 1) := (blk_cell BK101.out 3).trans rfl; have hcz29_4 : w28.cell? ⟨gb101, 4, none⟩ = some (.int .i64 5) := (blk_cell BK101.out 4).trans rfl; have hcz29_5 : w28.cell? ⟨gb101, 5, none⟩ = some (.int .i64 4) := (blk_cell BK101.out 5).trans rfl; have hcz29_6 : w28.cell? ⟨gb101, 6, none⟩ = some (.int .i64 0) := (blk_cell BK101.out 6).trans rfl; have hcz29_7 : w28.cell? ⟨gb101, 7, none⟩ = some (.int .i64 0) := (blk_cell BK101.out 7).trans rfl; have hcz29_8 : w28.cell? ⟨gb101, 8, none⟩ = some (.bool false) := (blk_cell BK101.out 8).trans rfl; have hcz29_9 : w28.cell? ⟨gb101, 9, none⟩ = some (.string (⟨#[]⟩ : ByteArray)) := (blk_cell BK101.out 9).trans rfl; have hcz29_10 : w28.cell? ⟨gb101, 10, none⟩ = some (.bool false) := (blk_cell BK101.out 10).trans rfl; have hcz29_11 : w28.cell? ⟨gb101, 11, none⟩ = some (.string (⟨#[]⟩ : ByteArray)) := (blk_cell BK101.out 11).trans rfl; have hcz29_12 : w28.cell? ⟨gb101, 12, none⟩ = some (.int .i64 0) := (blk_cell BK101.out 12).trans rfl; have hfz29_0 := blk_frozen BK101.out 0; have hfz29_1 := blk_frozen BK101.out 1; have hfz29_2 := blk_frozen BK101.out 2; have hfz29_3 := blk_frozen BK101.out 3; have hfz29_4 := blk_frozen BK101.out 4; have hfz29_5 := blk_frozen BK101.out 5; have hfz29_6 := blk_frozen BK101.out 6; have hfz29_7 := blk_frozen BK101.out 7; have hfz29_8 := blk_frozen BK101.out 8; have hfz29_9 := blk_frozen BK101.out 9; have hfz29_10 := blk_frozen BK101.out 10; have hfz29_11 := blk_frozen BK101.out 11; have hfz29_12 := blk_frozen BK101.out 12) | (go_at_call 59; (with_reducible refine (entKnown.calls 1 1 1 t124 _ A15.out).mono ?_); rintro e w30 ⟨rfl, hb⟩; have n0_ := Aside0.mk (blk_below (g := gb101) (o := .cells #[.int .i64 3, .int .i64 1, .int .i64 1, .int .i64 1, .int .i64 5, .int .i64 4, .int .i64 0, .int .i64 0, .bool false, .string (⟨#[]⟩ : ByteArray), .bool false, .string (⟨#[]⟩ : ByteArray), .int .i64 0] 65 (0, 0)) (by (with_reducible repeat (first | refine blk_drewN ?_ _ | refine blk_drew ?_ | refine blk_alloc ?_ _)); exact BK101.out) hb); have n1_ := Aside0.mk (blk_below (g := gb119) (o := .cells #[.int .i64 t104, .int .i64 t105, .int .i64 t106, .int .i64 t107, .int .i64 t108, .int .i64 t109, .int .i64 t110, .int .i64 t111, .bool t112, .string t113, .bool t114, .string t115, .int .i64 t116] 65 (0, 0)) (by (with_reducible repeat (first | refine blk_drewN ?_ _ | refine blk_drew ?_ | refine blk_alloc ?_ _)); exact BK119.out) hb); have n2_ := Aside0.mk (below_step (by repeat (first | (with_reducible first | exact HB.out | apply below_alloc | apply pw_below_drewN | apply below_drew1 | refine below_set ?_ GE101.out | refine below_set ?_ GE119.out) | exact HB.out)) hb); clear BK101; clear BK119; clear HB; have BK101 := n0_; have BK119 := n1_; have HB := n2_; clear n0_ n1_ n2_; (try clear hb); (try clear hb2); (try clear hk); (try clear hi)))
                    go_ret
                    exact ⟨by first | rfl | (simp [errW_none, errW_some] <;> rfl) | (simp [*, errW_none, errW_some] <;> rfl), by repeat (first | (with_reducible first | exact HB.out | apply below_alloc | apply pw_below_drewN | apply below_drew1 | refine below_set ?_ GE101.out | refine below_set ?_ GE119.out) | exact HB.out)⟩
                    exfalso; rename_i hq_; exact hq_ (by simpa using c7b0)
                  · exfalso; have q_ := Option.some.inj (A1.out.symm.trans v51_1); simp only [Prod.mk.injEq] at q_; obtain ⟨rfl, rfl⟩ := q_; have q_ := Option.some.inj (A3.out.symm.trans v51_3); simp only [Prod.mk.injEq] at q_; obtain ⟨rfl, rfl, rfl, rfl, rfl, rfl, rfl, rfl, rfl, rfl, rfl, rfl, rfl, rfl, rfl⟩ := q_; have q_ := Option.some.inj (A4.out.symm.trans v51_4); simp only [Prod.mk.injEq] at q_; obtain ⟨rfl, rfl⟩ := q_; have q_ := Option.some.inj (A11.out.symm.trans v51_11); subst q_; have q_ := Option.some.inj (A13.out.symm.trans v51_13); subst q_; exact c14 (by decide +kernel)
                · exfalso; have q_ := Option.some.inj (A1.out.symm.trans v51_1); simp only [Prod.mk.injEq] at q_; obtain ⟨rfl, rfl⟩ := q_; have q_ := Option.some.inj (A3.out.symm.trans v51_3); simp only [Prod.mk.injEq] at q_; obtain ⟨rfl, rfl, rfl, rfl, rfl, rfl, rfl, rfl, rfl, rfl, rfl, rfl, rfl, rfl, rfl⟩ := q_; have q_ := Option.some.inj (A4.out.symm.trans v51_4); simp only [Prod.mk.injEq] at q_; obtain ⟨rfl, rfl⟩ := q_; have q_ := Option.some.inj (A11.out.symm.trans v51_11); subst q_; exact c12 (by decide +kernel)
              · exfalso; have q_ := Option.some.inj (A1.out.symm.trans v51_1); simp only [Prod.mk.injEq] at q_; obtain ⟨rfl, rfl⟩ := q_; have q_ := Option.some.inj (A3.out.symm.trans v51_3); simp only [Prod.mk.injEq] at q_; obtain ⟨rfl, rfl, rfl, rfl, rfl, rfl, rfl, rfl, rfl, rfl, rfl, rfl, rfl, rfl, rfl⟩ := q_; have q_ := Option.some.inj (A4.out.symm.trans v51_4); simp only [Prod.mk.injEq] at q_; obtain ⟨rfl, rfl⟩ := q_; exact c10 (by decide +kernel)
            · exfalso; have q_ := Option.some.inj (A1.out.symm.trans v51_1); simp only [Prod.mk.injEq] at q_; obtain ⟨rfl, rfl⟩ := q_; have q_ := Option.some.inj (A3.out.symm.trans v51_3); simp only [Prod.mk.injEq] at q_; obtain ⟨rfl, rfl, rfl, rfl, rfl, rfl, rfl, rfl, rfl, rfl, rfl, rfl, rfl, rfl, rfl⟩ := q_; have q_ := Option.some.inj (A4.out.symm.trans v51_4); simp only [Prod.mk.injEq] at q_; obtain ⟨rfl, rfl⟩ := q_; exact c9 (by decide +kernel)
          · exfalso; have q_ := Option.some.inj (A1.out.symm.trans v51_1); simp only [Prod.mk.injEq] at q_; obtain ⟨rfl, rfl⟩ := q_; have q_ := Option.some.inj (A3.out.symm.trans v51_3); simp only [Prod.mk.injEq] at q_; obtain ⟨rfl, rfl, rfl, rfl, rfl, rfl, rfl, rfl, rfl, rfl, rfl, rfl, rfl, rfl, rfl⟩ := q_; have q_ := Option.some.inj (A4.out.symm.trans v51_4); simp only [Prod.mk.injEq] at q_; obtain ⟨rfl, rfl⟩ := q_; exact c8 (by decide +kernel)
        · exfalso; have q_ := Option.some.inj (A1.out.symm.trans v51_1); simp only [Prod.mk.injEq] at q_; obtain ⟨rfl, rfl⟩ := q_; have q_ := Option.some.inj (A3.out.symm.trans v51_3); simp only [Prod.mk.injEq] at q_; obtain ⟨rfl, rfl, rfl, rfl, rfl, rfl, rfl, rfl, rfl, rfl, rfl, rfl, rfl, rfl, rfl⟩ := q_; have q_ := Option.some.inj (A4.out.symm.trans v51_4); simp only [Prod.mk.injEq] at q_; obtain ⟨rfl, rfl⟩ := q_; exact c7 (by decide +kernel)
      · exfalso; have q_ := Option.some.inj (A1.out.symm.trans v51_1); simp only [Prod.mk.injEq] at q_; obtain ⟨rfl, rfl⟩ := q_; have q_ := Option.some.inj (A3.out.symm.trans v51_3); simp only [Prod.mk.injEq] at q_; obtain ⟨rfl, rfl, rfl, rfl, rfl, rfl, rfl, rfl, rfl, rfl, rfl, rfl, rfl, rfl, rfl⟩ := q_; have q_ := Option.some.inj (A4.out.symm.trans v51_4); simp only [Prod.mk.injEq] at q_; obtain ⟨rfl, rfl⟩ := q_; exact c6 (by decide +kernel)
    · exfalso; have q_ := Option.some.inj (A1.out.symm.trans v51_1); simp only [Prod.mk.injEq] at q_; obtain ⟨rfl, rfl⟩ := q_; have q_ := Option.some.inj (A3.out.symm.trans v51_3); simp only [Prod.mk.injEq] at q_; obtain ⟨rfl, rfl, rfl, rfl, rfl, rfl, rfl, rfl, rfl, rfl, rfl, rfl, rfl, rfl, rfl⟩ := q_; have q_ := Option.some.inj (A4.out.symm.trans v51_4); simp only [Prod.mk.injEq] at q_; obtain ⟨rfl, rfl⟩ := q_; exact c5 (by decide +kernel)
  · exfalso; have q_ := Option.some.inj (A1.out.symm.trans v51_1); simp only [Prod.mk.injEq] at q_; obtain ⟨rfl, rfl⟩ := q_; exact c2 (by decide +kernel)
end Go.Proofs.Ytfjmnaobfbmllaa.M
namespace Go.Proofs.Ytfjmnaobfbmllaa.M
open Go.RowKit Go.Proofs.YtfjmnaobfbmllaaW.PrintWords Go.Proofs.YtfjmnaobfbmllaaW.PrintLast Go.Proofs.YtfjmnaobfbmllaaW.PrintMore
theorem awake4_pure : seneschallaw04_awake.f = some true := by decide +kernel
def awake4.f : Option Bool := some true
theorem awake4.calls (r : Bool) (w : World) (h : awake4.f = some r) : Calls Try.prog 51 #[] w fun e w' => e = .returned (.bool r) ∧ Below w.heap.size w w' :=
  seneschallaw04_awake.calls r w (by rw [awake4_pure]; exact h)
end Go.Proofs.Ytfjmnaobfbmllaa.M
namespace Go.Proofs.Ytfjmnaobfbmllaa.M
open Go.RowKit Go.Proofs.YtfjmnaobfbmllaaW.PrintWords Go.Proofs.YtfjmnaobfbmllaaW.PrintLast Go.Proofs.YtfjmnaobfbmllaaW.PrintMore
attribute [local go_sem] max2_int min2_int max_two min_two max_three min_three max_four min_four   -- for this text's walks alone
set_option linter.unusedVariables false
set_option linter.unusedSimpArgs false
def seneschallaw04_great.f (a0_0 : Int) (a0_1 : Int) (a0_2 : Int) (a0_3 : Int) (a0_4 : Int) (a0_5 : Int) (a0_6 : Int) (a0_7 : Int) (a0_8 : Bool) (a0_9 : ByteArray) (a0_10 : Bool) (a0_11 : ByteArray) (a0_12 : Int) : Option (Bool) := if (a0_9.size : Int) > 4096 then (some true) else (some (decide ((a0_11.size : Int) > 4096)))
set_option maxHeartbeats 8000000 in
set_option maxRecDepth 100000 in
theorem seneschallaw04_great.calls (a0_0 : Int) (a0_1 : Int) (a0_2 : Int) (a0_3 : Int) (a0_4 : Int) (a0_5 : Int) (a0_6 : Int) (a0_7 : Int) (a0_8 : Bool) (a0_9 : ByteArray) (a0_10 : Bool) (a0_11 : ByteArray) (a0_12 : Int) (r : Bool) (w : World) (h : seneschallaw04_great.f a0_0 a0_1 a0_2 a0_3 a0_4 a0_5 a0_6 a0_7 a0_8 a0_9 a0_10 a0_11 a0_12 = some r) :
    Calls Try.prog 52 #[.agg #[.int .i64 a0_0, .int .i64 a0_1, .int .i64 a0_2, .int .i64 a0_3, .int .i64 a0_4, .int .i64 a0_5, .int .i64 a0_6, .int .i64 a0_7, .bool a0_8, .string a0_9, .bool a0_10, .string a0_11, .int .i64 a0_12]] w fun e w' => e = .returned (.bool r) ∧ Below w.heap.size w w' := by
  have hu65 := Try.underlying65
  have HB := Aside0.mk (Below.refl w.heap.size w)
  have H : (if (a0_9.size : Int) > 4096 then (some true) else (some (decide ((a0_11.size : Int) > 4096)))) = some r := h
  clear h
  by_cases c2 : (a0_9.size : Int) > 4096
  · rw [if_pos c2] at H
    have c2b0 : decide (4096 < (a0_9.size : Int)) = true := decide_eq_true c2
    have c2b1 : decide (4096 < a0_9.size) = true := decide_eq_true (by omega)
    clear c2
    obtain rfl := Option.some.inj H
    go_enter Try.func52, Try.ntmps52
    go_wp2_with (first | ((with_reducible refine gate_dst (N := 1) rfl ?_); (try (refine gate_guard (by rfl) ?_; dsimp only)); refine box_event ?hg (N := 1) ?hd (cs := #[.int .i64 a0_0, .int .i64 a0_1, .int .i64 a0_2, .int .i64 a0_3, .int .i64 a0_4, .int .i64 a0_5, .int .i64 a0_6, .int .i64 a0_7, .bool a0_8, .string a0_9, .bool a0_10, .string a0_11, .int .i64 a0_12]) (t := 65) ?hr ?_; (case hd => rfl); (case hg => rfl); (case hr => first | (go_simp; done) | (go_simp; rfl)); intro gb101 hg w3 hbox hb; have n0_ := Aside0.mk (below_step (by repeat (first | (with_reducible first | exact HB.out | apply below_alloc | apply pw_below_drewN | apply below_drew1) | exact HB.out)) hb); have n1_ := Aside0.mk (hbox); have n2_ := Aside0.mk ((by rw [hg]; exact (below_size (by repeat (first | (with_reducible first | exact HB.out | apply below_alloc | apply pw_below_drewN | apply below_drew1) | exact HB.out))) : w.heap.size ≤ gb101)); have n3_ := Aside0.mk ((by rw [hg]; exact (below_size (by repeat (first | (with_reducible first | exact HB.out | apply below_alloc | apply pw_below_drewN | apply below_drew1) | exact HB.out))) : w.heap.size ≤ gb101)); clear HB; have HB := n0_; have BK101 := n1_; have GW101 := n2_; have GE101 := n3_; clear n0_ n1_ n2_ n3_; clear hb hbox hg; have hcz4_0 : w3.cell? ⟨gb101, 0, none⟩ = some (.int .i64 a0_0) := (blk_cell BK101.out 0).trans rfl; have hcz4_1 : w3.cell? ⟨gb101, 1, none⟩ = some (.int .i64 a0_1) := (blk_cell BK101.out 1).trans rfl; have hcz4_2 : w3.cell? ⟨gb101, 2, none⟩ = some (.int .i64 a0_2) := (blk_cell BK101.out 2).trans rfl; have hcz4_3 : w3.cell? ⟨gb101, 3, none⟩ = some (.int .i64 a0_3) := (blk_cell BK101.out 3).trans rfl; have hcz4_4 : w3.cell? ⟨gb101, 4, none⟩ = some (.int .i64 a0_4) := (blk_cell BK101.out 4).trans rfl; have hcz4_5 : w3.cell? ⟨gb101, 5, none⟩ = some (.int .i64 a0_5) := (blk_cell BK101.out 5).trans rfl; have hcz4_6 : w3.cell? ⟨gb101, 6, none⟩ = some (.int .i64 a0_6) := (blk_cell BK101.out 6).trans rfl; have hcz4_7 : w3.cell? ⟨gb101, 7, none⟩ = some (.int .i64 a0_7) := (blk_cell BK101.out 7).trans rfl; have hcz4_8 : w3.cell? ⟨gb101, 8, none⟩ = some (.bool a0_8) := (blk_cell BK101.out 8).trans rfl; have hcz4_9 : w3.cell? ⟨gb101, 9, none⟩ = some (.string a0_9) := (blk_cell BK101.out 9).trans rfl; have hcz4_10 : w3.cell? ⟨gb101, 10, none⟩ = some (.bool a0_10) := (blk_cell BK101.out 10).trans rfl; have hcz4_11 : w3.cell? ⟨gb101, 11, none⟩ = some (.string a0_11) := (blk_cell BK101.out 11).trans rfl; have hcz4_12 : w3.cell? ⟨gb101, 12, none⟩ = some (.int .i64 a0_12) := (blk_cell BK101.out 12).trans rfl; have hfz4_0 := blk_frozen BK101.out 0; have hfz4_1 := blk_frozen BK101.out 1; have hfz4_2 := blk_frozen BK101.out 2; have hfz4_3 := blk_frozen BK101.out 3; have hfz4_4 := blk_frozen BK101.out 4; have hfz4_5 := blk_frozen BK101.out 5; have hfz4_6 := blk_frozen BK101.out 6; have hfz4_7 := blk_frozen BK101.out 7; have hfz4_8 := blk_frozen BK101.out 8; have hfz4_9 := blk_frozen BK101.out 9; have hfz4_10 := blk_frozen BK101.out 10; have hfz4_11 := blk_frozen BK101.out 11; have hfz4_12 := blk_frozen BK101.out 12))
    go_ret
    exact ⟨by first | rfl | (simp [errW_none, errW_some] <;> rfl) | (simp [*, errW_none, errW_some] <;> rfl), by repeat (first | (with_reducible first | exact HB.out | apply below_alloc | apply pw_below_drewN | apply below_drew1 | refine below_set ?_ GE101.out) | exact HB.out)⟩
  · rw [if_neg c2] at H
    have c2b0 : decide (4096 < (a0_9.size : Int)) = false := decide_eq_false c2
    have c2b1 : decide (4096 < a0_9.size) = false := decide_eq_false (by omega)
    clear c2
    obtain rfl := Option.some.inj H
    go_enter Try.func52, Try.ntmps52
    go_wp2_with (first | ((with_reducible refine gate_dst (N := 1) rfl ?_); (try (refine gate_guard (by rfl) ?_; dsimp only)); refine box_event ?hg (N := 1) ?hd (cs := #[.int .i64 a0_0, .int .i64 a0_1, .int .i64 a0_2, .int .i64 a0_3, .int .i64 a0_4, .int .i64 a0_5, .int .i64 a0_6, .int .i64 a0_7, .bool a0_8, .string a0_9, .bool a0_10, .string a0_11, .int .i64 a0_12]) (t := 65) ?hr ?_; (case hd => rfl); (case hg => rfl); (case hr => first | (go_simp; done) | (go_simp; rfl)); intro gb101 hg w5 hbox hb; have n0_ := Aside0.mk (below_step (by repeat (first | (with_reducible first | exact HB.out | apply below_alloc | apply pw_below_drewN | apply below_drew1) | exact HB.out)) hb); have n1_ := Aside0.mk (hbox); have n2_ := Aside0.mk ((by rw [hg]; exact (below_size (by repeat (first | (with_reducible first | exact HB.out | apply below_alloc | apply pw_below_drewN | apply below_drew1) | exact HB.out))) : w.heap.size ≤ gb101)); have n3_ := Aside0.mk ((by rw [hg]; exact (below_size (by repeat (first | (with_reducible first | exact HB.out | apply below_alloc | apply pw_below_drewN | apply below_drew1) | exact HB.out))) : w.heap.size ≤ gb101)); clear HB; have HB := n0_; have BK101 := n1_; have GW101 := n2_; have GE101 := n3_; clear n0_ n1_ n2_ n3_; clear hb hbox hg; have hcz6_0 : w5.cell? ⟨gb101, 0, none⟩ = some (.int .i64 a0_0) := (blk_cell BK101.out 0).trans rfl; have hcz6_1 : w5.cell? ⟨gb101, 1, none⟩ = some (.int .i64 a0_1) := (blk_cell BK101.out 1).trans rfl; have hcz6_2 : w5.cell? ⟨gb101, 2, none⟩ = some (.int .i64 a0_2) := (blk_cell BK101.out 2).trans rfl; have hcz6_3 : w5.cell? ⟨gb101, 3, none⟩ = some (.int .i64 a0_3) := (blk_cell BK101.out 3).trans rfl; have hcz6_4 : w5.cell? ⟨gb101, 4, none⟩ = some (.int .i64 a0_4) := (blk_cell BK101.out 4).trans rfl; have hcz6_5 : w5.cell? ⟨gb101, 5, none⟩ = some (.int .i64 a0_5) := (blk_cell BK101.out 5).trans rfl; have hcz6_6 : w5.cell? ⟨gb101, 6, none⟩ = some (.int .i64 a0_6) := (blk_cell BK101.out 6).trans rfl; have hcz6_7 : w5.cell? ⟨gb101, 7, none⟩ = some (.int .i64 a0_7) := (blk_cell BK101.out 7).trans rfl; have hcz6_8 : w5.cell? ⟨gb101, 8, none⟩ = some (.bool a0_8) := (blk_cell BK101.out 8).trans rfl; have hcz6_9 : w5.cell? ⟨gb101, 9, none⟩ = some (.string a0_9) := (blk_cell BK101.out 9).trans rfl; have hcz6_10 : w5.cell? ⟨gb101, 10, none⟩ = some (.bool a0_10) := (blk_cell BK101.out 10).trans rfl; have hcz6_11 : w5.cell? ⟨gb101, 11, none⟩ = some (.string a0_11) := (blk_cell BK101.out 11).trans rfl; have hcz6_12 : w5.cell? ⟨gb101, 12, none⟩ = some (.int .i64 a0_12) := (blk_cell BK101.out 12).trans rfl; have hfz6_0 := blk_frozen BK101.out 0; have hfz6_1 := blk_frozen BK101.out 1; have hfz6_2 := blk_frozen BK101.out 2; have hfz6_3 := blk_frozen BK101.out 3; have hfz6_4 := blk_frozen BK101.out 4; have hfz6_5 := blk_frozen BK101.out 5; have hfz6_6 := blk_frozen BK101.out 6; have hfz6_7 := blk_frozen BK101.out 7; have hfz6_8 := blk_frozen BK101.out 8; have hfz6_9 := blk_frozen BK101.out 9; have hfz6_10 := blk_frozen BK101.out 10; have hfz6_11 := blk_frozen BK101.out 11; have hfz6_12 := blk_frozen BK101.out 12))
    go_ret
    exact ⟨by first | rfl | (simp [errW_none, errW_some] <;> rfl) | (simp [*, errW_none, errW_some] <;> rfl), by repeat (first | (with_reducible first | exact HB.out | apply below_alloc | apply pw_below_drewN | apply below_drew1 | refine below_set ?_ GE101.out) | exact HB.out)⟩
end Go.Proofs.Ytfjmnaobfbmllaa.M
namespace Go.Proofs.Ytfjmnaobfbmllaa.M
open Go.RowKit Go.Proofs.YtfjmnaobfbmllaaW.PrintWords Go.Proofs.YtfjmnaobfbmllaaW.PrintLast Go.Proofs.YtfjmnaobfbmllaaW.PrintMore
attribute [local go_sem] max2_int min2_int max_two min_two max_three min_three max_four min_four   -- for this text's walks alone
set_option linter.unusedVariables false
set_option linter.unusedSimpArgs false
def seneschallaw04_EntryWrites.f (a0_0 : Int) (a0_1 : Int) (a0_2 : Int) (a0_3 : Int) (a0_4 : Int) (a0_5 : Int) (a0_6 : Int) (a0_7 : Int) (a0_8 : Bool) (a0_9 : ByteArray) (a0_10 : Bool) (a0_11 : ByteArray) (a0_12 : Int) : Option (Bool) := (awake4.f).bind fun t102 => (if t102 = true then ((seneschallaw04_great.f a0_0 a0_1 a0_2 a0_3 a0_4 a0_5 a0_6 a0_7 a0_8 a0_9 a0_10 a0_11 a0_12).bind fun t103 => (if t103 = true then (some true) else ((entEnc.f a0_0 a0_1 a0_2 a0_3 a0_4 a0_5 a0_6 a0_7 a0_8 a0_9 a0_10 a0_11 a0_12).bind fun bt104 => ((refEnc4.f a0_0 a0_1 a0_2 a0_3 a0_4 a0_5 a0_6 a0_7 a0_8 a0_9 a0_10 a0_11 a0_12).bind fun bt106 => (if bt104.1.toList = bt106.1.toList then (if bt104.2 = bt106.2 then ((entGood.f a0_0 a0_1 a0_2 a0_3 a0_4 a0_5 a0_6 a0_7 a0_8 a0_9 a0_10 a0_11 a0_12).bind fun t108 => ((refGood4.f a0_0 a0_1 a0_2 a0_3 a0_4 a0_5 a0_6 a0_7 a0_8 a0_9 a0_10 a0_11 a0_12).bind fun t109 => (if (t108 == t109) = true then ((entCost.f a0_0 a0_1 a0_2 a0_3 a0_4 a0_5 a0_6 a0_7 a0_8 a0_9 a0_10 a0_11 a0_12).bind fun t110 => ((refCost4.f a0_0 a0_1 a0_2 a0_3 a0_4 a0_5 a0_6 a0_7 a0_8 a0_9 a0_10 a0_11 a0_12).bind fun t111 => (if t110 = t111 then ((entKnown.f a0_1 a0_2 a0_3).bind fun t112 => ((refKnown4.f a0_1 a0_2 a0_3).bind fun t113 => (some (t112 == t113)))) else (some false)))) else (some false)))) else (some false)) else (some false)))))) else (some false))
def seneschallaw04_EntryWrites.T7 : Bool × List (List Nat × List Nat) := (true, [([], []), ([], []), ([0, 1], [0, 1]), ([2], [2]), ([3], [3]), ([3], [3]), ([4, 5, 3], [3, 4, 5]), ([3, 6], [3, 6]), ([7, 3], [7]), ([8], [8]), ([9, 8, 8], [8, 9]), ([8], [8]), ([11, 10, 8], [8, 11]), ([10, 12, 8], [8, 10, 12]), ([8, 13], [8, 13]), ([14, 12], [14]), ([15], [15]), ([16, 15, 15], [15, 16]), ([15], [15]), ([18, 17, 15], [15, 18]), ([17, 19, 15], [15, 17, 19]), ([15, 20], [15, 20]), ([21, 19], [21]), ([22], [22]), ([23, 22], [22, 23]), ([24, 22, 22], [22, 24]), ([22], [22]), ([26, 22], [22, 26]), ([27, 25, 22], [22, 27]), ([25, 28, 22], [22, 25, 28]), ([22, 29], [22, 29]), ([30, 28, 0, 1, 2, 3, 4, 5, 6, 7, 8, 9, 10, 11, 12, 13, 14, 15, 16, 17, 18, 19, 20, 21, 22, 23, 24, 25, 26, 27, 28, 29, 30], [30])])
def seneschallaw04_EntryWrites.B7 : List Nat := [0, 0, 3, 7, 15, 15, 63, 127, 255, 511, 1023, 511, 4095, 8191, 16383, 32767, 65535, 131071, 65535, 524287, 1048575, 2097151, 4194303, 8388607, 16777215, 33554431, 8388607, 75497471, 268435455, 536870911, 1073741823, 2147483647]
theorem seneschallaw04_EntryWrites.tab7 : rtab .any (opsOf Try.f11 7) = seneschallaw04_EntryWrites.T7 := by kernel_rfl
theorem seneschallaw04_EntryWrites.bits7 : waitsOk seneschallaw04_EntryWrites.T7.2 seneschallaw04_EntryWrites.B7 = true := by kernel_rfl
set_option maxHeartbeats 8000000 in
set_option maxRecDepth 100000 in
theorem seneschallaw04_EntryWrites.calls (a0_0 : Int) (a0_1 : Int) (a0_2 : Int) (a0_3 : Int) (a0_4 : Int) (a0_5 : Int) (a0_6 : Int) (a0_7 : Int) (a0_8 : Bool) (a0_9 : ByteArray) (a0_10 : Bool) (a0_11 : ByteArray) (a0_12 : Int) (r : Bool) (hrt : r = true) (w : World) (h : seneschallaw04_EntryWrites.f a0_0 a0_1 a0_2 a0_3 a0_4 a0_5 a0_6 a0_7 a0_8 a0_9 a0_10 a0_11 a0_12 = some r) :
    Calls Try.prog 11 #[.agg #[.int .i64 a0_0, .int .i64 a0_1, .int .i64 a0_2, .int .i64 a0_3, .int .i64 a0_4, .int .i64 a0_5, .int .i64 a0_6, .int .i64 a0_7, .bool a0_8, .string a0_9, .bool a0_10, .string a0_11, .int .i64 a0_12]] w fun e w' => e = .returned (.bool r) ∧ Below w.heap.size w w' := by
  have HRT := Aside0.mk hrt
  clear hrt
  have hu65 := Try.underlying65
  have hu52 := Try.underlying52
  have HB := Aside0.mk (Below.refl w.heap.size w)
  have H : ((awake4.f).bind fun t102 => (if t102 = true then ((seneschallaw04_great.f a0_0 a0_1 a0_2 a0_3 a0_4 a0_5 a0_6 a0_7 a0_8 a0_9 a0_10 a0_11 a0_12).bind fun t103 => (if t103 = true then (some true) else ((entEnc.f a0_0 a0_1 a0_2 a0_3 a0_4 a0_5 a0_6 a0_7 a0_8 a0_9 a0_10 a0_11 a0_12).bind fun bt104 => ((refEnc4.f a0_0 a0_1 a0_2 a0_3 a0_4 a0_5 a0_6 a0_7 a0_8 a0_9 a0_10 a0_11 a0_12).bind fun bt106 => (if bt104.1.toList = bt106.1.toList then (if bt104.2 = bt106.2 then ((entGood.f a0_0 a0_1 a0_2 a0_3 a0_4 a0_5 a0_6 a0_7 a0_8 a0_9 a0_10 a0_11 a0_12).bind fun t108 => ((refGood4.f a0_0 a0_1 a0_2 a0_3 a0_4 a0_5 a0_6 a0_7 a0_8 a0_9 a0_10 a0_11 a0_12).bind fun t109 => (if (t108 == t109) = true then ((entCost.f a0_0 a0_1 a0_2 a0_3 a0_4 a0_5 a0_6 a0_7 a0_8 a0_9 a0_10 a0_11 a0_12).bind fun t110 => ((refCost4.f a0_0 a0_1 a0_2 a0_3 a0_4 a0_5 a0_6 a0_7 a0_8 a0_9 a0_10 a0_11 a0_12).bind fun t111 => (if t110 = t111 then ((entKnown.f a0_1 a0_2 a0_3).bind fun t112 => ((refKnown4.f a0_1 a0_2 a0_3).bind fun t113 => (some (t112 == t113)))) else (some false)))) else (some false)))) else (some false)) else (some false)))))) else (some false))) = some r := h
  clear h
  replace H := Option.bind_eq_some_iff.mp H
  obtain ⟨t102, A20, H⟩ := H
  replace H : (if t102 = true then ((seneschallaw04_great.f a0_0 a0_1 a0_2 a0_3 a0_4 a0_5 a0_6 a0_7 a0_8 a0_9 a0_10 a0_11 a0_12).bind fun t103 => (if t103 = true then (some true) else ((entEnc.f a0_0 a0_1 a0_2 a0_3 a0_4 a0_5 a0_6 a0_7 a0_8 a0_9 a0_10 a0_11 a0_12).bind fun bt104 => ((refEnc4.f a0_0 a0_1 a0_2 a0_3 a0_4 a0_5 a0_6 a0_7 a0_8 a0_9 a0_10 a0_11 a0_12).bind fun bt106 => (if bt104.1.toList = bt106.1.toList then (if bt104.2 = bt106.2 then ((entGood.f a0_0 a0_1 a0_2 a0_3 a0_4 a0_5 a0_6 a0_7 a0_8 a0_9 a0_10 a0_11 a0_12).bind fun t108 => ((refGood4.f a0_0 a0_1 a0_2 a0_3 a0_4 a0_5 a0_6 a0_7 a0_8 a0_9 a0_10 a0_11 a0_12).bind fun t109 => (if (t108 == t109) = true then ((entCost.f a0_0 a0_1 a0_2 a0_3 a0_4 a0_5 a0_6 a0_7 a0_8 a0_9 a0_10 a0_11 a0_12).bind fun t110 => ((refCost4.f a0_0 a0_1 a0_2 a0_3 a0_4 a0_5 a0_6 a0_7 a0_8 a0_9 a0_10 a0_11 a0_12).bind fun t111 => (if t110 = t111 then ((entKnown.f a0_1 a0_2 a0_3).bind fun t112 => ((refKnown4.f a0_1 a0_2 a0_3).bind fun t113 => (some (t112 == t113)))) else (some false)))) else (some false)))) else (some false)) else (some false)))))) else (some false)) = some r := H
  have A2 := Aside0.mk A20
  clear A20
  by_cases c3 : t102 = true
  · subst c3
    have H1 : ((seneschallaw04_great.f a0_0 a0_1 a0_2 a0_3 a0_4 a0_5 a0_6 a0_7 a0_8 a0_9 a0_10 a0_11 a0_12).bind fun t103 => (if t103 = true then (some true) else ((entEnc.f a0_0 a0_1 a0_2 a0_3 a0_4 a0_5 a0_6 a0_7 a0_8 a0_9 a0_10 a0_11 a0_12).bind fun bt104 => ((refEnc4.f a0_0 a0_1 a0_2 a0_3 a0_4 a0_5 a0_6 a0_7 a0_8 a0_9 a0_10 a0_11 a0_12).bind fun bt106 => (if bt104.1.toList = bt106.1.toList then (if bt104.2 = bt106.2 then ((entGood.f a0_0 a0_1 a0_2 a0_3 a0_4 a0_5 a0_6 a0_7 a0_8 a0_9 a0_10 a0_11 a0_12).bind fun t108 => ((refGood4.f a0_0 a0_1 a0_2 a0_3 a0_4 a0_5 a0_6 a0_7 a0_8 a0_9 a0_10 a0_11 a0_12).bind fun t109 => (if (t108 == t109) = true then ((entCost.f a0_0 a0_1 a0_2 a0_3 a0_4 a0_5 a0_6 a0_7 a0_8 a0_9 a0_10 a0_11 a0_12).bind fun t110 => ((refCost4.f a0_0 a0_1 a0_2 a0_3 a0_4 a0_5 a0_6 a0_7 a0_8 a0_9 a0_10 a0_11 a0_12).bind fun t111 => (if t110 = t111 then ((entKnown.f a0_1 a0_2 a0_3).bind fun t112 => ((refKnown4.f a0_1 a0_2 a0_3).bind fun t113 => (some (t112 == t113)))) else (some false)))) else (some false)))) else (some false)) else (some false)))))) = some r := by rw [if_pos rfl] at H; exact H
    clear H
    have H := H1
    clear H1
    replace H := Option.bind_eq_some_iff.mp H
    obtain ⟨t103, A40, H⟩ := H
    replace H : (if t103 = true then (some true) else ((entEnc.f a0_0 a0_1 a0_2 a0_3 a0_4 a0_5 a0_6 a0_7 a0_8 a0_9 a0_10 a0_11 a0_12).bind fun bt104 => ((refEnc4.f a0_0 a0_1 a0_2 a0_3 a0_4 a0_5 a0_6 a0_7 a0_8 a0_9 a0_10 a0_11 a0_12).bind fun bt106 => (if bt104.1.toList = bt106.1.toList then (if bt104.2 = bt106.2 then ((entGood.f a0_0 a0_1 a0_2 a0_3 a0_4 a0_5 a0_6 a0_7 a0_8 a0_9 a0_10 a0_11 a0_12).bind fun t108 => ((refGood4.f a0_0 a0_1 a0_2 a0_3 a0_4 a0_5 a0_6 a0_7 a0_8 a0_9 a0_10 a0_11 a0_12).bind fun t109 => (if (t108 == t109) = true then ((entCost.f a0_0 a0_1 a0_2 a0_3 a0_4 a0_5 a0_6 a0_7 a0_8 a0_9 a0_10 a0_11 a0_12).bind fun t110 => ((refCost4.f a0_0 a0_1 a0_2 a0_3 a0_4 a0_5 a0_6 a0_7 a0_8 a0_9 a0_10 a0_11 a0_12).bind fun t111 => (if t110 = t111 then ((entKnown.f a0_1 a0_2 a0_3).bind fun t112 => ((refKnown4.f a0_1 a0_2 a0_3).bind fun t113 => (some (t112 == t113)))) else (some false)))) else (some false)))) else (some false)) else (some false))))) = some r := H
    have A4 := Aside0.mk A40
    clear A40
    by_cases c5 : t103 = true
    · subst c5
      have H1 : (some true) = some r := by rw [if_pos rfl] at H; exact H
      clear H
      have H := H1
      clear H1
      obtain rfl := Option.some.inj H
      go_enter Try.func11, Try.ntmps11
      go_wp2_with (first | ((with_reducible refine gate_dst (N := 1) rfl ?_); refine box_event ?hg (N := 1) ?hd (cs := #[.int .i64 a0_0, .int .i64 a0_1, .int .i64 a0_2, .int .i64 a0_3, .int .i64 a0_4, .int .i64 a0_5, .int .i64 a0_6, .int .i64 a0_7, .bool a0_8, .string a0_9, .bool a0_10, .string a0_11, .int .i64 a0_12]) (t := 65) ?hr ?_; (case hd => rfl); (case hg => rfl); (case hr => first | (go_simp; done) | (go_simp; rfl)); intro gb101 hg w6 hbox hb; have n0_ := Aside0.mk (below_step (by repeat (first | (with_reducible first | exact HB.out | apply below_alloc | apply pw_below_drewN | apply below_drew1) | exact HB.out)) hb); have n1_ := Aside0.mk (hbox); have n2_ := Aside0.mk ((by rw [hg]; exact (below_size (by repeat (first | (with_reducible first | exact HB.out | apply below_alloc | apply pw_below_drewN | apply below_drew1) | exact HB.out))) : w.heap.size ≤ gb101)); have n3_ := Aside0.mk ((by rw [hg]; exact (below_size (by repeat (first | (with_reducible first | exact HB.out | apply below_alloc | apply pw_below_drewN | apply below_drew1) | exact HB.out))) : w.heap.size ≤ gb101)); clear HB; have HB := n0_; have BK101 := n1_; have GW101 := n2_; have GE101 := n3_; clear n0_ n1_ n2_ n3_; clear hb hbox hg) | ((with_reducible refine gate_callee (f := 51) rfl ?_); refine goesL_ (some 7) rfl rfl Try.func51 (by kernel_rfl) rfl #[] rfl (by (try simp only [List.map_toArray, List.map_cons, List.map_nil]); first | done | rfl | (simp only [List.length_drop, List.length_take]; rfl)) ?_; (with_reducible refine (awake4.calls  true _ A2.out).mono ?_); rintro e w7 ⟨rfl, hb⟩; refine ⟨_, rfl, ?_⟩; have n0_ := Aside0.mk (blk_below (g := gb101) (o := .cells #[.int .i64 a0_0, .int .i64 a0_1, .int .i64 a0_2, .int .i64 a0_3, .int .i64 a0_4, .int .i64 a0_5, .int .i64 a0_6, .int .i64 a0_7, .bool a0_8, .string a0_9, .bool a0_10, .string a0_11, .int .i64 a0_12] 65 (0, 0)) (by (with_reducible repeat (first | refine blk_drewN ?_ _ | refine blk_drew ?_ | refine blk_alloc ?_ _)); exact BK101.out) hb); have n1_ := Aside0.mk (below_step (by repeat (first | (with_reducible first | exact HB.out | apply below_alloc | apply pw_below_drewN | apply below_drew1 | refine below_set ?_ GE101.out) | exact HB.out)) hb); clear BK101; clear HB; have BK101 := n0_; have HB := n1_; clear n0_ n1_; (try clear hb); (try clear hb2); (try clear hk); (try clear hi); have hcz8_0 : w7.cell? ⟨gb101, 0, none⟩ = some (.int .i64 a0_0) := (blk_cell BK101.out 0).trans rfl; have hcz8_1 : w7.cell? ⟨gb101, 1, none⟩ = some (.int .i64 a0_1) := (blk_cell BK101.out 1).trans rfl; have hcz8_2 : w7.cell? ⟨gb101, 2, none⟩ = some (.int .i64 a0_2) := (blk_cell BK101.out 2).trans rfl; have hcz8_3 : w7.cell? ⟨gb101, 3, none⟩ = some (.int .i64 a0_3) := (blk_cell BK101.out 3).trans rfl; have hcz8_4 : w7.cell? ⟨gb101, 4, none⟩ = some (.int .i64 a0_4) := (blk_cell BK101.out 4).trans rfl; have hcz8_5 : w7.cell? ⟨gb101, 5, none⟩ = some (.int .i64 a0_5) := (blk_cell BK101.out 5).trans rfl; have hcz8_6 : w7.cell? ⟨gb101, 6, none⟩ = some (.int .i64 a0_6) := (blk_cell BK101.out 6).trans rfl; have hcz8_7 : w7.cell? ⟨gb101, 7, none⟩ = some (.int .i64 a0_7) := (blk_cell BK101.out 7).trans rfl; have hcz8_8 : w7.cell? ⟨gb101, 8, none⟩ = some (.bool a0_8) := (blk_cell BK101.out 8).trans rfl; have hcz8_9 : w7.cell? ⟨gb101, 9, none⟩ = some (.string a0_9) := (blk_cell BK101.out 9).trans rfl; have hcz8_10 : w7.cell? ⟨gb101, 10, none⟩ = some (.bool a0_10) := (blk_cell BK101.out 10).trans rfl; have hcz8_11 : w7.cell? ⟨gb101, 11, none⟩ = some (.string a0_11) := (blk_cell BK101.out 11).trans rfl; have hcz8_12 : w7.cell? ⟨gb101, 12, none⟩ = some (.int .i64 a0_12) := (blk_cell BK101.out 12).trans rfl; have hfz8_0 := blk_frozen BK101.out 0; have hfz8_1 := blk_frozen BK101.out 1; have hfz8_2 := blk_frozen BK101.out 2; have hfz8_3 := blk_frozen BK101.out 3; have hfz8_4 := blk_frozen BK101.out 4; have hfz8_5 := blk_frozen BK101.out 5; have hfz8_6 := blk_frozen BK101.out 6; have hfz8_7 := blk_frozen BK101.out 7; have hfz8_8 := blk_frozen BK101.out 8; have hfz8_9 := blk_frozen BK101.out 9; have hfz8_10 := blk_frozen BK101.out 10; have hfz8_11 := blk_frozen BK101.out 11; have hfz8_12 := blk_frozen BK101.out 12) | ((with_reducible refine gate_callee (f := 52) rfl ?_); refine goesL_ (some 10) rfl rfl Try.func52 (by kernel_rfl) rfl #[.agg #[.int .i64 a0_0, .int .i64 a0_1, .int .i64 a0_2, .int .i64 a0_3, .int .i64 a0_4, .int .i64 a0_5, .int .i64 a0_6, .int .i64 a0_7, .bool a0_8, .string a0_9, .bool a0_10, .string a0_11, .int .i64 a0_12]] rfl (by (try simp only [List.map_toArray, List.map_cons, List.map_nil]); first | done | rfl | (simp only [List.length_drop, List.length_take]; rfl)) ?_; (with_reducible refine (seneschallaw04_great.calls a0_0 a0_1 a0_2 a0_3 a0_4 a0_5 a0_6 a0_7 a0_8 a0_9 a0_10 a0_11 a0_12 true _ A4.out).mono ?_); rintro e w9 ⟨rfl, hb⟩; refine ⟨_, rfl, ?_⟩; have n0_ := Aside0.mk (blk_below (g := gb101) (o := .cells #[.int .i64 a0_0, .int .i64 a0_1, .int .i64 a0_2, .int .i64 a0_3, .int .i64 a0_4, .int .i64 a0_5, .int .i64 a0_6, .int .i64 a0_7, .bool a0_8, .string a0_9, .bool a0_10, .string a0_11, .int .i64 a0_12] 65 (0, 0)) (by (with_reducible repeat (first | refine blk_drewN ?_ _ | refine blk_drew ?_ | refine blk_alloc ?_ _)); exact BK101.out) hb); have n1_ := Aside0.mk (below_step (by repeat (first | (with_reducible first | exact HB.out | apply below_alloc | apply pw_below_drewN | apply below_drew1 | refine below_set ?_ GE101.out) | exact HB.out)) hb); clear BK101; clear HB; have BK101 := n0_; have HB := n1_; clear n0_ n1_; (try clear hb); (try clear hb2); (try clear hk); (try clear hi)))
      go_ret
      exact ⟨by first | rfl | (simp [errW_none, errW_some] <;> rfl) | (simp [*, errW_none, errW_some] <;> rfl), by repeat (first | (with_reducible first | exact HB.out | apply below_alloc | apply pw_below_drewN | apply below_drew1 | refine below_set ?_ GE101.out) | exact HB.out)⟩
    · replace c5 := Bool.eq_false_iff.mpr c5
      subst c5
      have H1 : ((entEnc.f a0_0 a0_1 a0_2 a0_3 a0_4 a0_5 a0_6 a0_7 a0_8 a0_9 a0_10 a0_11 a0_12).bind fun bt104 => ((refEnc4.f a0_0 a0_1 a0_2 a0_3 a0_4 a0_5 a0_6 a0_7 a0_8 a0_9 a0_10 a0_11 a0_12).bind fun bt106 => (if bt104.1.toList = bt106.1.toList then (if bt104.2 = bt106.2 then ((entGood.f a0_0 a0_1 a0_2 a0_3 a0_4 a0_5 a0_6 a0_7 a0_8 a0_9 a0_10 a0_11 a0_12).bind fun t108 => ((refGood4.f a0_0 a0_1 a0_2 a0_3 a0_4 a0_5 a0_6 a0_7 a0_8 a0_9 a0_10 a0_11 a0_12).bind fun t109 => (if (t108 == t109) = true then ((entCost.f a0_0 a0_1 a0_2 a0_3 a0_4 a0_5 a0_6 a0_7 a0_8 a0_9 a0_10 a0_11 a0_12).bind fun t110 => ((refCost4.f a0_0 a0_1 a0_2 a0_3 a0_4 a0_5 a0_6 a0_7 a0_8 a0_9 a0_10 a0_11 a0_12).bind fun t111 => (if t110 = t111 then ((entKnown.f a0_1 a0_2 a0_3).bind fun t112 => ((refKnown4.f a0_1 a0_2 a0_3).bind fun t113 => (some (t112 == t113)))) else (some false)))) else (some false)))) else (some false)) else (some false)))) = some r := by rw [if_neg (show ¬ (false = true) by decide)] at H; exact H
      clear H
      have H := H1
      clear H1
      replace H := Option.bind_eq_some_iff.mp H
      obtain ⟨⟨t104, t105⟩, A100, H⟩ := H
      replace H : ((refEnc4.f a0_0 a0_1 a0_2 a0_3 a0_4 a0_5 a0_6 a0_7 a0_8 a0_9 a0_10 a0_11 a0_12).bind fun bt106 => (if t104.toList = bt106.1.toList then (if t105 = bt106.2 then ((entGood.f a0_0 a0_1 a0_2 a0_3 a0_4 a0_5 a0_6 a0_7 a0_8 a0_9 a0_10 a0_11 a0_12).bind fun t108 => ((refGood4.f a0_0 a0_1 a0_2 a0_3 a0_4 a0_5 a0_6 a0_7 a0_8 a0_9 a0_10 a0_11 a0_12).bind fun t109 => (if (t108 == t109) = true then ((entCost.f a0_0 a0_1 a0_2 a0_3 a0_4 a0_5 a0_6 a0_7 a0_8 a0_9 a0_10 a0_11 a0_12).bind fun t110 => ((refCost4.f a0_0 a0_1 a0_2 a0_3 a0_4 a0_5 a0_6 a0_7 a0_8 a0_9 a0_10 a0_11 a0_12).bind fun t111 => (if t110 = t111 then ((entKnown.f a0_1 a0_2 a0_3).bind fun t112 => ((refKnown4.f a0_1 a0_2 a0_3).bind fun t113 => (some (t112 == t113)))) else (some false)))) else (some false)))) else (some false)) else (some false))) = some r := H
      have A10 := Aside0.mk A100
      clear A100
      replace H := Option.bind_eq_some_iff.mp H
      obtain ⟨⟨t106, t107⟩, A110, H⟩ := H
      replace H : (if t104.toList = t106.toList then (if t105 = t107 then ((entGood.f a0_0 a0_1 a0_2 a0_3 a0_4 a0_5 a0_6 a0_7 a0_8 a0_9 a0_10 a0_11 a0_12).bind fun t108 => ((refGood4.f a0_0 a0_1 a0_2 a0_3 a0_4 a0_5 a0_6 a0_7 a0_8 a0_9 a0_10 a0_11 a0_12).bind fun t109 => (if (t108 == t109) = true then ((entCost.f a0_0 a0_1 a0_2 a0_3 a0_4 a0_5 a0_6 a0_7 a0_8 a0_9 a0_10 a0_11 a0_12).bind fun t110 => ((refCost4.f a0_0 a0_1 a0_2 a0_3 a0_4 a0_5 a0_6 a0_7 a0_8 a0_9 a0_10 a0_11 a0_12).bind fun t111 => (if t110 = t111 then ((entKnown.f a0_1 a0_2 a0_3).bind fun t112 => ((refKnown4.f a0_1 a0_2 a0_3).bind fun t113 => (some (t112 == t113)))) else (some false)))) else (some false)))) else (some false)) else (some false)) = some r := H
      have A11 := Aside0.mk A110
      clear A110
      by_cases c12 : t104.toList = t106.toList
      · rw [if_pos c12] at H
        have c12b0 : (t104.toList == t106.toList) = true := beq_iff_eq.mpr c12
        have c12b1 : (t104.toList != t106.toList) = false := bne_eq_false_iff_eq.mpr c12
        clear c12
        by_cases c13 : t105 = t107
        · rw [if_pos c13] at H
          have c13b0 : (t105 == t107) = true := beq_iff_eq.mpr c13
          have c13b1 : (t105 != t107) = false := bne_eq_false_iff_eq.mpr c13
          clear c13
          replace H := Option.bind_eq_some_iff.mp H
          obtain ⟨t108, A140, H⟩ := H
          replace H : ((refGood4.f a0_0 a0_1 a0_2 a0_3 a0_4 a0_5 a0_6 a0_7 a0_8 a0_9 a0_10 a0_11 a0_12).bind fun t109 => (if (t108 == t109) = true then ((entCost.f a0_0 a0_1 a0_2 a0_3 a0_4 a0_5 a0_6 a0_7 a0_8 a0_9 a0_10 a0_11 a0_12).bind fun t110 => ((refCost4.f a0_0 a0_1 a0_2 a0_3 a0_4 a0_5 a0_6 a0_7 a0_8 a0_9 a0_10 a0_11 a0_12).bind fun t111 => (if t110 = t111 then ((entKnown.f a0_1 a0_2 a0_3).bind fun t112 => ((refKnown4.f a0_1 a0_2 a0_3).bind fun t113 => (some (t112 == t113)))) else (some false)))) else (some false))) = some r := H
          have A14 := Aside0.mk A140
          clear A140
          replace H := Option.bind_eq_some_iff.mp H
          obtain ⟨t109, A150, H⟩ := H
          replace H : (if (t108 == t109) = true then ((entCost.f a0_0 a0_1 a0_2 a0_3 a0_4 a0_5 a0_6 a0_7 a0_8 a0_9 a0_10 a0_11 a0_12).bind fun t110 => ((refCost4.f a0_0 a0_1 a0_2 a0_3 a0_4 a0_5 a0_6 a0_7 a0_8 a0_9 a0_10 a0_11 a0_12).bind fun t111 => (if t110 = t111 then ((entKnown.f a0_1 a0_2 a0_3).bind fun t112 => ((refKnown4.f a0_1 a0_2 a0_3).bind fun t113 => (some (t112 == t113)))) else (some false)))) else (some false)) = some r := H
          have A15 := Aside0.mk A150
          clear A150
          by_cases c16 : (t108 == t109) = true
          · rw [if_pos c16] at H
            have c16b0 : (t108 == t109) = true := c16
            (try (have c16b1 : decide (t108 = t109) = true := by simpa using c16))
            (try (have c16b2 : (t108 == t109) = true := by simpa using c16))
            clear c16
            replace H := Option.bind_eq_some_iff.mp H
            obtain ⟨t110, A170, H⟩ := H
            replace H : ((refCost4.f a0_0 a0_1 a0_2 a0_3 a0_4 a0_5 a0_6 a0_7 a0_8 a0_9 a0_10 a0_11 a0_12).bind fun t111 => (if t110 = t111 then ((entKnown.f a0_1 a0_2 a0_3).bind fun t112 => ((refKnown4.f a0_1 a0_2 a0_3).bind fun t113 => (some (t112 == t113)))) else (some false))) = some r := H
            have A17 := Aside0.mk A170
            clear A170
            replace H := Option.bind_eq_some_iff.mp H
            obtain ⟨t111, A180, H⟩ := H
            replace H : (if t110 = t111 then ((entKnown.f a0_1 a0_2 a0_3).bind fun t112 => ((refKnown4.f a0_1 a0_2 a0_3).bind fun t113 => (some (t112 == t113)))) else (some false)) = some r := H
            have A18 := Aside0.mk A180
            clear A180
            by_cases c19 : t110 = t111
            · rw [if_pos c19] at H
              have c19b0 : (t110 == t111) = true := beq_iff_eq.mpr c19
              have c19b1 : (t110 != t111) = false := bne_eq_false_iff_eq.mpr c19
              clear c19
              replace H := Option.bind_eq_some_iff.mp H
              obtain ⟨t112, A200, H⟩ := H
              replace H : ((refKnown4.f a0_1 a0_2 a0_3).bind fun t113 => (some (t112 == t113))) = some r := H
              have A20 := Aside0.mk A200
              clear A200
              replace H := Option.bind_eq_some_iff.mp H
              obtain ⟨t113, A210, H⟩ := H
              replace H : (some (t112 == t113)) = some r := H
              have A21 := Aside0.mk A210
              clear A210
              obtain rfl := Option.some.inj H
              go_enter Try.func11, Try.ntmps11
              try go_wp2_with (first | ((with_reducible refine gate_dst (N := 1) rfl ?_); refine box_event ?hg (N := 1) ?hd (cs := #[.int .i64 a0_0, .int .i64 a0_1, .int .i64 a0_2, .int .i64 a0_3, .int .i64 a0_4, .int .i64 a0_5, .int .i64 a0_6, .int .i64 a0_7, .bool a0_8, .string a0_9, .bool a0_10, .string a0_11, .int .i64 a0_12]) (t := 65) ?hr ?_; (case hd => rfl); (case hg => rfl); (case hr => first | (go_simp; done) | (go_simp; rfl)); intro gb101 hg w22 hbox hb; have n0_ := Aside0.mk (below_step (by repeat (first | (with_reducible first | exact HB.out | apply below_alloc | apply pw_below_drewN | apply below_drew1) | exact HB.out)) hb); have n1_ := Aside0.mk (hbox); have n2_ := Aside0.mk ((by rw [hg]; exact (below_size (by repeat (first | (with_reducible first | exact HB.out | apply below_alloc | apply pw_below_drewN | apply below_drew1) | exact HB.out))) : w.heap.size ≤ gb101)); have n3_ := Aside0.mk ((by rw [hg]; exact (below_size (by repeat (first | (with_reducible first | exact HB.out | apply below_alloc | apply pw_below_drewN | apply below_drew1) | exact HB.out))) : w.heap.size ≤ gb101)); clear HB; have HB := n0_; have BK101 := n1_; have GW101 := n2_; have GE101 := n3_; clear n0_ n1_ n2_ n3_; clear hb hbox hg) | ((with_reducible refine gate_callee (f := 51) rfl ?_); refine goesL_ (some 7) rfl rfl Try.func51 (by kernel_rfl) rfl #[] rfl (by (try simp only [List.map_toArray, List.map_cons, List.map_nil]); first | done | rfl | (simp only [List.length_drop, List.length_take]; rfl)) ?_; (with_reducible refine (awake4.calls  true _ A2.out).mono ?_); rintro e w23 ⟨rfl, hb⟩; refine ⟨_, rfl, ?_⟩; have n0_ := Aside0.mk (blk_below (g := gb101) (o := .cells #[.int .i64 a0_0, .int .i64 a0_1, .int .i64 a0_2, .int .i64 a0_3, .int .i64 a0_4, .int .i64 a0_5, .int .i64 a0_6, .int .i64 a0_7, .bool a0_8, .string a0_9, .bool a0_10, .string a0_11, .int .i64 a0_12] 65 (0, 0)) (by (with_reducible repeat (first | refine blk_drewN ?_ _ | refine blk_drew ?_ | refine blk_alloc ?_ _)); exact BK101.out) hb); have n1_ := Aside0.mk (below_step (by repeat (first | (with_reducible first | exact HB.out | apply below_alloc | apply pw_below_drewN | apply below_drew1 | refine below_set ?_ GE101.out) | exact HB.out)) hb); clear BK101; clear HB; have BK101 := n0_; have HB := n1_; clear n0_ n1_; (try clear hb); (try clear hb2); (try clear hk); (try clear hi); have hcz24_0 : w23.cell? ⟨gb101, 0, none⟩ = some (.int .i64 a0_0) := (blk_cell BK101.out 0).trans rfl; have hcz24_1 : w23.cell? ⟨gb101, 1, none⟩ = some (.int .i64 a0_1) := (blk_cell BK101.out 1).trans rfl; have hcz24_2 : w23.cell? ⟨gb101, 2, none⟩ = some (.int .i64 a0_2) := (blk_cell BK101.out 2).trans rfl; have hcz24_3 : w23.cell? ⟨gb101, 3, none⟩ = some (.int .i64 a0_3) := (blk_cell BK101.out 3).trans rfl; have hcz24_4 : w23.cell? ⟨gb101, 4, none⟩ = some (.int .i64 a0_4) := (blk_cell BK101.out 4).trans rfl; have hcz24_5 : w23.cell? ⟨gb101, 5, none⟩ = some (.int .i64 a0_5) := (blk_cell BK101.out 5).trans rfl; have hcz24_6 : w23.cell? ⟨gb101, 6, none⟩ = some (.int .i64 a0_6) := (blk_cell BK101.out 6).trans rfl; have hcz24_7 : w23.cell? ⟨gb101, 7, none⟩ = some (.int .i64 a0_7) := (blk_cell BK101.out 7).trans rfl; have hcz24_8 : w23.cell? ⟨gb101, 8, none⟩ = some (.bool a0_8) := (blk_cell BK101.out 8).trans rfl; have hcz24_9 : w23.cell? ⟨gb101, 9, none⟩ = some (.string a0_9) := (blk_cell BK101.out 9).trans rfl; have hcz24_10 : w23.cell? ⟨gb101, 10, none⟩ = some (.bool a0_10) := (blk_cell BK101.out 10).trans rfl; have hcz24_11 : w23.cell? ⟨gb101, 11, none⟩ = some (.string a0_11) := (blk_cell BK101.out 11).trans rfl; have hcz24_12 : w23.cell? ⟨gb101, 12, none⟩ = some (.int .i64 a0_12) := (blk_cell BK101.out 12).trans rfl; have hfz24_0 := blk_frozen BK101.out 0; have hfz24_1 := blk_frozen BK101.out 1; have hfz24_2 := blk_frozen BK101.out 2; have hfz24_3 := blk_frozen BK101.out 3; have hfz24_4 := blk_frozen BK101.out 4; have hfz24_5 := blk_frozen BK101.out 5; have hfz24_6 := blk_frozen BK101.out 6; have hfz24_7 := blk_frozen BK101.out 7; have hfz24_8 := blk_frozen BK101.out 8; have hfz24_9 := blk_frozen BK101.out 9; have hfz24_10 := blk_frozen BK101.out 10; have hfz24_11 := blk_frozen BK101.out 11; have hfz24_12 := blk_frozen BK101.out 12) | ((with_reducible refine gate_callee (f := 52) rfl ?_); refine goesL_ (some 10) rfl rfl Try.func52 (by kernel_rfl) rfl #[.agg #[.int .i64 a0_0, .int .i64 a0_1, .int .i64 a0_2, .int .i64 a0_3, .int .i64 a0_4, .int .i64 a0_5, .int .i64 a0_6, .int .i64 a0_7, .bool a0_8, .string a0_9, .bool a0_10, .string a0_11, .int .i64 a0_12]] rfl (by (try simp only [List.map_toArray, List.map_cons, List.map_nil]); first | done | rfl | (simp only [List.length_drop, List.length_take]; rfl)) ?_; (with_reducible refine (seneschallaw04_great.calls a0_0 a0_1 a0_2 a0_3 a0_4 a0_5 a0_6 a0_7 a0_8 a0_9 a0_10 a0_11 a0_12 false _ A4.out).mono ?_); rintro e w25 ⟨rfl, hb⟩; refine ⟨_, rfl, ?_⟩; have n0_ := Aside0.mk (blk_below (g := gb101) (o := .cells #[.int .i64 a0_0, .int .i64 a0_1, .int .i64 a0_2, .int .i64 a0_3, .int .i64 a0_4, .int .i64 a0_5, .int .i64 a0_6, .int .i64 a0_7, .bool a0_8, .string a0_9, .bool a0_10, .string a0_11, .int .i64 a0_12] 65 (0, 0)) (by (with_reducible repeat (first | refine blk_drewN ?_ _ | refine blk_drew ?_ | refine blk_alloc ?_ _)); exact BK101.out) hb); have n1_ := Aside0.mk (below_step (by repeat (first | (with_reducible first | exact HB.out | apply below_alloc | apply pw_below_drewN | apply below_drew1 | refine below_set ?_ GE101.out) | exact HB.out)) hb); clear BK101; clear HB; have BK101 := n0_; have HB := n1_; clear n0_ n1_; (try clear hb); (try clear hb2); (try clear hk); (try clear hi); have hcz26_0 : w25.cell? ⟨gb101, 0, none⟩ = some (.int .i64 a0_0) := (blk_cell BK101.out 0).trans rfl; have hcz26_1 : w25.cell? ⟨gb101, 1, none⟩ = some (.int .i64 a0_1) := (blk_cell BK101.out 1).trans rfl; have hcz26_2 : w25.cell? ⟨gb101, 2, none⟩ = some (.int .i64 a0_2) := (blk_cell BK101.out 2).trans rfl; have hcz26_3 : w25.cell? ⟨gb101, 3, none⟩ = some (.int .i64 a0_3) := (blk_cell BK101.out 3).trans rfl; have hcz26_4 : w25.cell? ⟨gb101, 4, none⟩ = some (.int .i64 a0_4) := (blk_cell BK101.out 4).trans rfl; have hcz26_5 : w25.cell? ⟨gb101, 5, none⟩ = some (.int .i64 a0_5) := (blk_cell BK101.out 5).trans rfl; have hcz26_6 : w25.cell? ⟨gb101, 6, none⟩ = some (.int .i64 a0_6) := (blk_cell BK101.out 6).trans rfl; have hcz26_7 : w25.cell? ⟨gb101, 7, none⟩ = some (.int .i64 a0_7) := (blk_cell BK101.out 7).trans rfl; have hcz26_8 : w25.cell? ⟨gb101, 8, none⟩ = some (.bool a0_8) := (blk_cell BK101.out 8).trans rfl; have hcz26_9 : w25.cell? ⟨gb101, 9, none⟩ = some (.string a0_9) := (blk_cell BK101.out 9).trans rfl; have hcz26_10 : w25.cell? ⟨gb101, 10, none⟩ = some (.bool a0_10) := (blk_cell BK101.out 10).trans rfl; have hcz26_11 : w25.cell? ⟨gb101, 11, none⟩ = some (.string a0_11) := (blk_cell BK101.out 11).trans rfl; have hcz26_12 : w25.cell? ⟨gb101, 12, none⟩ = some (.int .i64 a0_12) := (blk_cell BK101.out 12).trans rfl; have hfz26_0 := blk_frozen BK101.out 0; have hfz26_1 := blk_frozen BK101.out 1; have hfz26_2 := blk_frozen BK101.out 2; have hfz26_3 := blk_frozen BK101.out 3; have hfz26_4 := blk_frozen BK101.out 4; have hfz26_5 := blk_frozen BK101.out 5; have hfz26_6 := blk_frozen BK101.out 6; have hfz26_7 := blk_frozen BK101.out 7; have hfz26_8 := blk_frozen BK101.out 8; have hfz26_9 := blk_frozen BK101.out 9; have hfz26_10 := blk_frozen BK101.out 10; have hfz26_11 := blk_frozen BK101.out 11; have hfz26_12 := blk_frozen BK101.out 12) | ((with_reducible refine gate_callee (f := 53) rfl ?_); refine goesL_ (some 13) rfl rfl Try.func53 (by kernel_rfl) rfl #[.agg #[.int .i64 a0_0, .int .i64 a0_1, .int .i64 a0_2, .int .i64 a0_3, .int .i64 a0_4, .int .i64 a0_5, .int .i64 a0_6, .int .i64 a0_7, .bool a0_8, .string a0_9, .bool a0_10, .string a0_11, .int .i64 a0_12]] rfl (by (try simp only [List.map_toArray, List.map_cons, List.map_nil]); first | done | rfl | (simp only [List.length_drop, List.length_take]; rfl)) ?_; (with_reducible refine (entEnc.calls a0_0 a0_1 a0_2 a0_3 a0_4 a0_5 a0_6 a0_7 a0_8 a0_9 a0_10 a0_11 a0_12 t104 t105 _ A10.out).mono ?_); rintro e w27 ⟨rfl, hb⟩; refine ⟨_, rfl, ?_⟩; have n0_ := Aside0.mk (blk_below (g := gb101) (o := .cells #[.int .i64 a0_0, .int .i64 a0_1, .int .i64 a0_2, .int .i64 a0_3, .int .i64 a0_4, .int .i64 a0_5, .int .i64 a0_6, .int .i64 a0_7, .bool a0_8, .string a0_9, .bool a0_10, .string a0_11, .int .i64 a0_12] 65 (0, 0)) (by (with_reducible repeat (first | refine blk_drewN ?_ _ | refine blk_drew ?_ | refine blk_alloc ?_ _)); exact BK101.out) hb); have n1_ := Aside0.mk (below_step (by repeat (first | (with_reducible first | exact HB.out | apply below_alloc | apply pw_below_drewN | apply below_drew1 | refine below_set ?_ GE101.out) | exact HB.out)) hb); clear BK101; clear HB; have BK101 := n0_; have HB := n1_; clear n0_ n1_; (try clear hb); (try clear hb2); (try clear hk); (try clear hi); have hcz28_0 : w27.cell? ⟨gb101, 0, none⟩ = some (.int .i64 a0_0) := (blk_cell BK101.out 0).trans rfl; have hcz28_1 : w27.cell? ⟨gb101, 1, none⟩ = some (.int .i64 a0_1) := (blk_cell BK101.out 1).trans rfl; have hcz28_2 : w27.cell? ⟨gb101, 2, none⟩ = some (.int .i64 a0_2) := (blk_cell BK101.out 2).trans rfl; have hcz28_3 : w27.cell? ⟨gb101, 3, none⟩ = some (.int .i64 a0_3) := (blk_cell BK101.out 3).trans rfl; have hcz28_4 : w27.cell? ⟨gb101, 4, none⟩ = some (.int .i64 a0_4) := (blk_cell BK101.out 4).trans rfl; have hcz28_5 : w27.cell? ⟨gb101, 5, none⟩ = some (.int .i64 a0_5) := (blk_cell BK101.out 5).trans rfl; have hcz28_6 : w27.cell? ⟨gb101, 6, none⟩ = some (.int .i64 a0_6) := (blk_cell BK101.out 6).trans rfl; have hcz28_7 : w27.cell? ⟨gb101, 7, none⟩ = some (.int .i64 a0_7) := (blk_cell BK101.out 7).trans rfl; have hcz28_8 : w27.cell? ⟨gb101, 8, none⟩ = some (.bool a0_8) := (blk_cell BK101.out 8).trans rfl; have hcz28_9 : w27.cell? ⟨gb101, 9, none⟩ = some (.string a0_9) := (blk_cell BK101.out 9).trans rfl; have hcz28_10 : w27.cell? ⟨gb101, 10, none⟩ = some (.bool a0_10) := (blk_cell BK101.out 10).trans rfl; have hcz28_11 : w27.cell? ⟨gb101, 11, none⟩ = some (.string a0_11) := (blk_cell BK101.out 11).trans rfl; have hcz28_12 : w27.cell? ⟨gb101, 12, none⟩ = some (.int .i64 a0_12) := (blk_cell BK101.out 12).trans rfl; have hfz28_0 := blk_frozen BK101.out 0; have hfz28_1 := blk_frozen BK101.out 1; have hfz28_2 := blk_frozen BK101.out 2; have hfz28_3 := blk_frozen BK101.out 3; have hfz28_4 := blk_frozen BK101.out 4; have hfz28_5 := blk_frozen BK101.out 5; have hfz28_6 := blk_frozen BK101.out 6; have hfz28_7 := blk_frozen BK101.out 7; have hfz28_8 := blk_frozen BK101.out 8; have hfz28_9 := blk_frozen BK101.out 9; have hfz28_10 := blk_frozen BK101.out 10; have hfz28_11 := blk_frozen BK101.out 11; have hfz28_12 := blk_frozen BK101.out 12) | ((with_reducible refine gate_callee (f := 54) rfl ?_); refine goesL_ (some 18) rfl rfl Try.func54 (by kernel_rfl) rfl #[.agg #[.int .i64 a0_0, .int .i64 a0_1, .int .i64 a0_2, .int .i64 a0_3, .int .i64 a0_4, .int .i64 a0_5, .int .i64 a0_6, .int .i64 a0_7, .bool a0_8, .string a0_9, .bool a0_10, .string a0_11, .int .i64 a0_12]] rfl (by (try simp only [List.map_toArray, List.map_cons, List.map_nil]); first | done | rfl | (simp only [List.length_drop, List.length_take]; rfl)) ?_; (with_reducible refine (refEnc4.calls a0_0 a0_1 a0_2 a0_3 a0_4 a0_5 a0_6 a0_7 a0_8 a0_9 a0_10 a0_11 a0_12 t106 t107 _ A11.out).mono ?_); rintro e w29 ⟨rfl, hb⟩; refine ⟨_, rfl, ?_⟩; have n0_ := Aside0.mk (blk_below (g := gb101) (o := .cells #[.int .i64 a0_0, .int .i64 a0_1, .int .i64 a0_2, .int .i64 a0_3, .int .i64 a0_4, .int .i64 a0_5, .int .i64 a0_6, .int .i64 a0_7, .bool a0_8, .string a0_9, .bool a0_10, .string a0_11, .int .i64 a0_12] 65 (0, 0)) (by (with_reducible repeat (first | refine blk_drewN ?_ _ | refine blk_drew ?_ | refine blk_alloc ?_ _)); exact BK101.out) hb); have n1_ := Aside0.mk (below_step (by repeat (first | (with_reducible first | exact HB.out | apply below_alloc | apply pw_below_drewN | apply below_drew1 | refine below_set ?_ GE101.out) | exact HB.out)) hb); clear BK101; clear HB; have BK101 := n0_; have HB := n1_; clear n0_ n1_; (try clear hb); (try clear hb2); (try clear hk); (try clear hi)))
              have n0_ := Aside0.mk (blk_drew BK101.out)
              have n1_ := Aside0.mk (below_drew1 HB.out)
              clear BK101
              clear HB
              have BK101 := n0_
              have HB := n1_
              clear n0_ n1_
              refine start_ (n := 32) (S := fun w' => w'.cell? ⟨gb101, 0, none⟩ = some (.int .i64 a0_0) ∧ w'.cell? ⟨gb101, 1, none⟩ = some (.int .i64 a0_1) ∧ w'.cell? ⟨gb101, 2, none⟩ = some (.int .i64 a0_2) ∧ w'.cell? ⟨gb101, 3, none⟩ = some (.int .i64 a0_3) ∧ w'.cell? ⟨gb101, 4, none⟩ = some (.int .i64 a0_4) ∧ w'.cell? ⟨gb101, 5, none⟩ = some (.int .i64 a0_5) ∧ w'.cell? ⟨gb101, 6, none⟩ = some (.int .i64 a0_6) ∧ w'.cell? ⟨gb101, 7, none⟩ = some (.int .i64 a0_7) ∧ w'.cell? ⟨gb101, 8, none⟩ = some (.bool a0_8) ∧ w'.cell? ⟨gb101, 9, none⟩ = some (.string a0_9) ∧ w'.cell? ⟨gb101, 10, none⟩ = some (.bool a0_10) ∧ w'.cell? ⟨gb101, 11, none⟩ = some (.string a0_11) ∧ w'.cell? ⟨gb101, 12, none⟩ = some (.int .i64 a0_12)) (ds := []) #[false, false, false, false, false, false, false, false, false, false, false, false, false, false, false, false, false, false, false, false, false, false, false, false, false, false, false, false, false, false, false, false] (by kernel_rfl) rfl rfl ⟨(blk_cell BK101.out 0).trans rfl, (blk_cell BK101.out 1).trans rfl, (blk_cell BK101.out 2).trans rfl, (blk_cell BK101.out 3).trans rfl, (blk_cell BK101.out 4).trans rfl, (blk_cell BK101.out 5).trans rfl, (blk_cell BK101.out 6).trans rfl, (blk_cell BK101.out 7).trans rfl, (blk_cell BK101.out 8).trans rfl, (blk_cell BK101.out 9).trans rfl, (blk_cell BK101.out 10).trans rfl, (blk_cell BK101.out 11).trans rfl, (blk_cell BK101.out 12).trans rfl⟩ (fun hHeld => ?_); refine with_tabW seneschallaw04_EntryWrites.tab7 seneschallaw04_EntryWrites.bits7 (fun HT_ HW_ => ?_)
              generalize w29.drew = w30 at BK101 HB hHeld ⊢
              refine pure_ (i := 0) (N := some 21) (v := ?_) (a' := ?_) #[true, false, false, false, false, false, false, false, false, false, false, false, false, false, false, false, false, false, false, false, false, false, false, false, false, false, false, false, false, false, false, false] rfl rfl (any_of HT_.out (by kernel_rfl)) (fun _ _ _ h => h) (Or.inl ⟨by rfl, ?_⟩) ?_ ?_
              rotate_left
              · intro w'
                go_simp
                with_reducible rfl
              rotate_left
              · simp only [Act.put, List.setIfInBounds_toArray, List.set_cons_zero, List.set_cons_succ, i64_w, i32_w]
                rfl
              refine pure_ (i := 1) (N := some 22) (v := ?_) (a' := ?_) #[true, true, false, false, false, false, false, false, false, false, false, false, false, false, false, false, false, false, false, false, false, false, false, false, false, false, false, false, false, false, false, false] rfl rfl (any_of HT_.out (by kernel_rfl)) (fun _ _ _ h => h) (Or.inl ⟨by rfl, ?_⟩) ?_ ?_
              rotate_left
              · intro w'
                go_simp
                with_reducible rfl
              rotate_left
              · simp only [Act.put, List.setIfInBounds_toArray, List.set_cons_zero, List.set_cons_succ, i64_w, i32_w]
                rfl
              refine pure_ (i := 2) (N := some 23) (v := ?_) (a' := ?_) #[true, true, true, false, false, false, false, false, false, false, false, false, false, false, false, false, false, false, false, false, false, false, false, false, false, false, false, false, false, false, false, false] rfl rfl (any_of HT_.out (by kernel_rfl)) (fun _ _ _ h => h) (Or.inl ⟨by rfl, ?_⟩) ?_ ?_
              rotate_left
              · intro w'
                go_simp
                with_reducible rfl
              rotate_left
              · simp only [Act.put, List.setIfInBounds_toArray, List.set_cons_zero, List.set_cons_succ, i64_w, i32_w]
                rfl
              refine pure_ (i := 3) (N := some 24) (v := ?_) (a' := ?_) #[true, true, true, true, false, false, false, false, false, false, false, false, false, false, false, false, false, false, false, false, false, false, false, false, false, false, false, false, false, false, false, false] rfl rfl (any_of HT_.out (by kernel_rfl)) (fun _ _ _ h => h) (Or.inl ⟨by rfl, ?_⟩) ?_ ?_
              rotate_left
              · intro w'
                go_simp
                with_reducible rfl
              rotate_left
              · simp only [Act.put, List.setIfInBounds_toArray, List.set_cons_zero, List.set_cons_succ, i64_w, i32_w]
                rfl
              refine pure_ (i := 4) (N := some 25) (v := ?_) (a' := ?_) #[true, true, true, true, true, false, false, false, false, false, false, false, false, false, false, false, false, false, false, false, false, false, false, false, false, false, false, false, false, false, false, false] rfl rfl (any_of HT_.out (by kernel_rfl)) (fun _ _ _ h => h) (Or.inl ⟨by rfl, ?_⟩) ?_ ?_
              rotate_left
              · intro w'
                go_simp
                with_reducible rfl
              rotate_left
              · simp only [Act.put, List.setIfInBounds_toArray, List.set_cons_zero, List.set_cons_succ, i64_w, i32_w]
                rfl
              refine pure_ (i := 5) (N := some 26) (v := ?_) (a' := ?_) #[true, true, true, true, true, true, false, false, false, false, false, false, false, false, false, false, false, false, false, false, false, false, false, false, false, false, false, false, false, false, false, false] rfl rfl (any_of HT_.out (by kernel_rfl)) (fun _ _ _ h => h) (Or.inl ⟨by rfl, ?_⟩) ?_ ?_
              rotate_left
              · intro w'
                go_simp
                with_reducible rfl
              rotate_left
              · simp only [Act.put, List.setIfInBounds_toArray, List.set_cons_zero, List.set_cons_succ, i64_w, i32_w]
                rfl
              refine pure_ (i := 6) (N := some 27) (v := ?_) (a' := ?_) #[true, true, true, true, true, true, true, false, false, false, false, false, false, false, false, false, false, false, false, false, false, false, false, false, false, false, false, false, false, false, false, false] rfl rfl (any_of HT_.out (by kernel_rfl)) (fun _ _ _ h => h) (Or.inl ⟨by rfl, ?_⟩) ?_ ?_
              rotate_left
              · intro w'
                go_simp
                with_reducible rfl
              rotate_left
              · simp only [Act.put, List.setIfInBounds_toArray, List.set_cons_zero, List.set_cons_succ, i64_w, i32_w]
                rfl
              refine pure_ (i := 7) (N := some 28) (v := ?_) (a' := ?_) #[true, true, true, true, true, true, true, true, false, false, false, false, false, false, false, false, false, false, false, false, false, false, false, false, false, false, false, false, false, false, false, false] rfl rfl (any_of HT_.out (by kernel_rfl)) (fun _ _ _ h => h) (Or.inl ⟨by rfl, ?_⟩) ?_ ?_
              rotate_left
              · intro w'
                go_simp
                with_reducible rfl
              rotate_left
              · simp only [Act.put, List.setIfInBounds_toArray, List.set_cons_zero, List.set_cons_succ, i64_w, i32_w]
                rfl
              refine pure_ (i := 8) (N := some 29) (v := ?_) (a' := ?_) #[true, true, true, true, true, true, true, true, true, false, false, false, false, false, false, false, false, false, false, false, false, false, false, false, false, false, false, false, false, false, false, false] rfl rfl (any_of HT_.out (by kernel_rfl)) (fun _ _ _ h => h) (Or.inl ⟨by rfl, ?_⟩) ?_ ?_
              rotate_left
              · intro w'
                go_simp
                with_reducible rfl
              rotate_left
              · simp only [Act.put, List.setIfInBounds_toArray, List.set_cons_zero, List.set_cons_succ, i64_w, i32_w]
                rfl
              refine take_ (i := 9) (N := some 30) (v := ?_) (a' := ?_) #[true, true, true, true, true, true, true, true, true, true, false, false, false, false, false, false, false, false, false, false, false, false, false, false, false, false, false, false, false, false, false, false] rfl rfl (take_ofW HT_.out HW_.out (by kernel_rfl)) (fun _ _ _ h => h) (Or.inl ⟨by rfl, ?_⟩) hHeld ?_ ?_
              rotate_left
              · rintro w' ⟨s0, s1, s2, s3, s4, s5, s6, s7, s8, s9, s10, s11, s12⟩
                go_simp
                with_reducible rfl
              rotate_left
              · simp only [Act.put, List.setIfInBounds_toArray, List.set_cons_zero, List.set_cons_succ, i64_w, i32_w]
                rfl
              refine take_ (i := 11) (N := some 32) (v := ?_) (a' := ?_) #[true, true, true, true, true, true, true, true, true, true, false, true, false, false, false, false, false, false, false, false, false, false, false, false, false, false, false, false, false, false, false, false] rfl rfl (take_ofW HT_.out HW_.out (by kernel_rfl)) (fun _ _ _ h => h) (Or.inl ⟨by rfl, ?_⟩) hHeld ?_ ?_
              rotate_left
              · rintro w' ⟨s0, s1, s2, s3, s4, s5, s6, s7, s8, s9, s10, s11, s12⟩
                go_simp
                with_reducible rfl
              rotate_left
              · simp only [Act.put, List.setIfInBounds_toArray, List.set_cons_zero, List.set_cons_succ, i64_w, i32_w]
                rfl
              refine one_ (i := 10) (N := some 31) #[true, true, true, true, true, true, true, true, true, true, true, true, false, false, false, false, false, false, false, false, false, false, false, false, false, false, false, false, false, false, false, false] rfl rfl (one_of HT_.out (by kernel_rfl)) (by decide) (fun K hK => ?_)
              refine goes_ Try.func55 (by kernel_rfl) rfl #[.agg #[.int .i64 a0_0, .int .i64 a0_1, .int .i64 a0_2, .int .i64 a0_3, .int .i64 a0_4, .int .i64 a0_5, .int .i64 a0_6, .int .i64 a0_7, .bool a0_8, .string a0_9, .bool a0_10, .string a0_11, .int .i64 a0_12]] (by rfl) rfl rfl (by (try simp only [List.map_toArray, List.map_cons, List.map_nil]); first | done | rfl | (simp only [List.length_drop, List.length_take]; rfl)) ?_
              with_reducible refine (entGood.calls a0_0 a0_1 a0_2 a0_3 a0_4 a0_5 a0_6 a0_7 a0_8 a0_9 a0_10 a0_11 a0_12 t108 _ A14.out).mono ?_
              rintro e w31 ⟨rfl, hb⟩
              refine ⟨_, rfl, ?_⟩
              have n0_ := Aside0.mk (blk_below (g := gb101) (o := .cells #[.int .i64 a0_0, .int .i64 a0_1, .int .i64 a0_2, .int .i64 a0_3, .int .i64 a0_4, .int .i64 a0_5, .int .i64 a0_6, .int .i64 a0_7, .bool a0_8, .string a0_9, .bool a0_10, .string a0_11, .int .i64 a0_12] 65 (0, 0)) (by (with_reducible repeat (first | refine blk_drewN ?_ _ | refine blk_drew ?_ | refine blk_alloc ?_ _)); exact BK101.out) hb)
              have n1_ := Aside0.mk (below_step (by repeat (first | (with_reducible first | exact HB.out | apply below_alloc | apply pw_below_drewN | apply below_drew1 | refine below_set ?_ GE101.out) | exact HB.out)) hb)
              clear BK101
              clear HB
              have BK101 := n0_
              have HB := n1_
              clear n0_ n1_
              (try clear hb)
              (try clear hb2)
              (try clear hk)
              (try clear hi)
              refine hK.out _ _ ⟨(blk_cell BK101.out 0).trans rfl, (blk_cell BK101.out 1).trans rfl, (blk_cell BK101.out 2).trans rfl, (blk_cell BK101.out 3).trans rfl, (blk_cell BK101.out 4).trans rfl, (blk_cell BK101.out 5).trans rfl, (blk_cell BK101.out 6).trans rfl, (blk_cell BK101.out 7).trans rfl, (blk_cell BK101.out 8).trans rfl, (blk_cell BK101.out 9).trans rfl, (blk_cell BK101.out 10).trans rfl, (blk_cell BK101.out 11).trans rfl, (blk_cell BK101.out 12).trans rfl⟩ (fun hHeld => ?_)
              clear hK K
              refine norm_ (a' := ?_) ?_ ?_
              rotate_left
              · show Act.put _ (some 31) _ = _
                simp only [Act.put, List.setIfInBounds_toArray, List.set_cons_zero, List.set_cons_succ, i64_w, i32_w]
                rfl
              refine one_ (i := 12) (N := some 33) #[true, true, true, true, true, true, true, true, true, true, true, true, true, false, false, false, false, false, false, false, false, false, false, false, false, false, false, false, false, false, false, false] rfl rfl (one_of HT_.out (by kernel_rfl)) (by decide) (fun K hK => ?_)
              refine goes_ Try.func56 (by kernel_rfl) rfl #[.agg #[.int .i64 a0_0, .int .i64 a0_1, .int .i64 a0_2, .int .i64 a0_3, .int .i64 a0_4, .int .i64 a0_5, .int .i64 a0_6, .int .i64 a0_7, .bool a0_8, .string a0_9, .bool a0_10, .string a0_11, .int .i64 a0_12]] (by rfl) rfl rfl (by (try simp only [List.map_toArray, List.map_cons, List.map_nil]); first | done | rfl | (simp only [List.length_drop, List.length_take]; rfl)) ?_
              with_reducible refine (refGood4.calls a0_0 a0_1 a0_2 a0_3 a0_4 a0_5 a0_6 a0_7 a0_8 a0_9 a0_10 a0_11 a0_12 t109 _ A15.out).mono ?_
              rintro e w32 ⟨rfl, hb⟩
              refine ⟨_, rfl, ?_⟩
              have n0_ := Aside0.mk (blk_below (g := gb101) (o := .cells #[.int .i64 a0_0, .int .i64 a0_1, .int .i64 a0_2, .int .i64 a0_3, .int .i64 a0_4, .int .i64 a0_5, .int .i64 a0_6, .int .i64 a0_7, .bool a0_8, .string a0_9, .bool a0_10, .string a0_11, .int .i64 a0_12] 65 (0, 0)) (by (with_reducible repeat (first | refine blk_drewN ?_ _ | refine blk_drew ?_ | refine blk_alloc ?_ _)); exact BK101.out) hb)
              have n1_ := Aside0.mk (below_step (by repeat (first | (with_reducible first | exact HB.out | apply below_alloc | apply pw_below_drewN | apply below_drew1 | refine below_set ?_ GE101.out) | exact HB.out)) hb)
              clear BK101
              clear HB
              have BK101 := n0_
              have HB := n1_
              clear n0_ n1_
              (try clear hb)
              (try clear hb2)
              (try clear hk)
              (try clear hi)
              refine hK.out _ _ ⟨(blk_cell BK101.out 0).trans rfl, (blk_cell BK101.out 1).trans rfl, (blk_cell BK101.out 2).trans rfl, (blk_cell BK101.out 3).trans rfl, (blk_cell BK101.out 4).trans rfl, (blk_cell BK101.out 5).trans rfl, (blk_cell BK101.out 6).trans rfl, (blk_cell BK101.out 7).trans rfl, (blk_cell BK101.out 8).trans rfl, (blk_cell BK101.out 9).trans rfl, (blk_cell BK101.out 10).trans rfl, (blk_cell BK101.out 11).trans rfl, (blk_cell BK101.out 12).trans rfl⟩ (fun hHeld => ?_)
              clear hK K
              refine norm_ (a' := ?_) ?_ ?_
              rotate_left
              · show Act.put _ (some 33) _ = _
                simp only [Act.put, List.setIfInBounds_toArray, List.set_cons_zero, List.set_cons_succ, i64_w, i32_w]
                rfl
              refine pure_ (i := 13) (N := some 34) (v := ?_) (a' := ?_) #[true, true, true, true, true, true, true, true, true, true, true, true, true, true, false, false, false, false, false, false, false, false, false, false, false, false, false, false, false, false, false, false] rfl rfl (any_of HT_.out (by kernel_rfl)) (fun _ _ _ h => h) (Or.inl ⟨by rfl, ?_⟩) ?_ ?_
              rotate_left
              · intro w'
                go_simp
                with_reducible rfl
              rotate_left
              · simp only [Act.put, List.setIfInBounds_toArray, List.set_cons_zero, List.set_cons_succ, i64_w, i32_w]
                rfl
              refine pure_ (i := 14) (N := some 35) (v := ?_) (a' := ?_) #[true, true, true, true, true, true, true, true, true, true, true, true, true, true, true, false, false, false, false, false, false, false, false, false, false, false, false, false, false, false, false, false] rfl rfl (any_of HT_.out (by kernel_rfl)) (fun _ _ _ h => h) (Or.inl ⟨by rfl, ?_⟩) ?_ ?_
              rotate_left
              · intro w'
                go_simp
                with_reducible rfl
              rotate_left
              · simp only [Act.put, List.setIfInBounds_toArray, List.set_cons_zero, List.set_cons_succ, i64_w, i32_w]
                rfl
              refine pure_ (i := 15) (N := some 36) (v := ?_) (a' := ?_) #[true, true, true, true, true, true, true, true, true, true, true, true, true, true, true, true, false, false, false, false, false, false, false, false, false, false, false, false, false, false, false, false] rfl rfl (any_of HT_.out (by kernel_rfl)) (fun _ _ _ h => h) (Or.inl ⟨by rfl, ?_⟩) ?_ ?_
              rotate_left
              · intro w'
                go_simp
                with_reducible rfl
              rotate_left
              · simp only [Act.put, List.setIfInBounds_toArray, List.set_cons_zero, List.set_cons_succ, i64_w, i32_w]
                rfl
              refine take_ (i := 16) (N := some 37) (v := ?_) (a' := ?_) #[true, true, true, true, true, true, true, true, true, true, true, true, true, true, true, true, true, false, false, false, false, false, false, false, false, false, false, false, false, false, false, false] rfl rfl (take_ofW HT_.out HW_.out (by kernel_rfl)) (fun _ _ _ h => h) (Or.inl ⟨by rfl, ?_⟩) hHeld ?_ ?_
              rotate_left
              · rintro w' ⟨s0, s1, s2, s3, s4, s5, s6, s7, s8, s9, s10, s11, s12⟩
                go_simp
                with_reducible rfl
              rotate_left
              · simp only [Act.put, List.setIfInBounds_toArray, List.set_cons_zero, List.set_cons_succ, i64_w, i32_w]
                rfl
              refine take_ (i := 18) (N := some 39) (v := ?_) (a' := ?_) #[true, true, true, true, true, true, true, true, true, true, true, true, true, true, true, true, true, false, true, false, false, false, false, false, false, false, false, false, false, false, false, false] rfl rfl (take_ofW HT_.out HW_.out (by kernel_rfl)) (fun _ _ _ h => h) (Or.inl ⟨by rfl, ?_⟩) hHeld ?_ ?_
              rotate_left
              · rintro w' ⟨s0, s1, s2, s3, s4, s5, s6, s7, s8, s9, s10, s11, s12⟩
                go_simp
                with_reducible rfl
              rotate_left
              · simp only [Act.put, List.setIfInBounds_toArray, List.set_cons_zero, List.set_cons_succ, i64_w, i32_w]
                rfl
              refine one_ (i := 17) (N := some 38) #[true, true, true, true, true, true, true, true, true, true, true, true, true, true, true, true, true, true, true, false, false, false, false, false, false, false, false, false, false, false, false, false] rfl rfl (one_of HT_.out (by kernel_rfl)) (by decide) (fun K hK => ?_)
              refine goes_ Try.func57 (by kernel_rfl) rfl #[.agg #[.int .i64 a0_0, .int .i64 a0_1, .int .i64 a0_2, .int .i64 a0_3, .int .i64 a0_4, .int .i64 a0_5, .int .i64 a0_6, .int .i64 a0_7, .bool a0_8, .string a0_9, .bool a0_10, .string a0_11, .int .i64 a0_12]] (by rfl) rfl rfl (by (try simp only [List.map_toArray, List.map_cons, List.map_nil]); first | done | rfl | (simp only [List.length_drop, List.length_take]; rfl)) ?_
              with_reducible refine (entCost.calls a0_0 a0_1 a0_2 a0_3 a0_4 a0_5 a0_6 a0_7 a0_8 a0_9 a0_10 a0_11 a0_12 t110 _ A17.out).mono ?_
              rintro e w33 ⟨rfl, hb⟩
              refine ⟨_, rfl, ?_⟩
              have n0_ := Aside0.mk (blk_below (g := gb101) (o := .cells #[.int .i64 a0_0, .int .i64 a0_1, .int .i64 a0_2, .int .i64 a0_3, .int .i64 a0_4, .int .i64 a0_5, .int .i64 a0_6, .int .i64 a0_7, .bool a0_8, .string a0_9, .bool a0_10, .string a0_11, .int .i64 a0_12] 65 (0, 0)) (by (with_reducible repeat (first | refine blk_drewN ?_ _ | refine blk_drew ?_ | refine blk_alloc ?_ _)); exact BK101.out) hb)
              have n1_ := Aside0.mk (below_step (by repeat (first | (with_reducible first | exact HB.out | apply below_alloc | apply pw_below_drewN | apply below_drew1 | refine below_set ?_ GE101.out) | exact HB.out)) hb)
              clear BK101
              clear HB
              have BK101 := n0_
              have HB := n1_
              clear n0_ n1_
              (try clear hb)
              (try clear hb2)
              (try clear hk)
              (try clear hi)
              refine hK.out _ _ ⟨(blk_cell BK101.out 0).trans rfl, (blk_cell BK101.out 1).trans rfl, (blk_cell BK101.out 2).trans rfl, (blk_cell BK101.out 3).trans rfl, (blk_cell BK101.out 4).trans rfl, (blk_cell BK101.out 5).trans rfl, (blk_cell BK101.out 6).trans rfl, (blk_cell BK101.out 7).trans rfl, (blk_cell BK101.out 8).trans rfl, (blk_cell BK101.out 9).trans rfl, (blk_cell BK101.out 10).trans rfl, (blk_cell BK101.out 11).trans rfl, (blk_cell BK101.out 12).trans rfl⟩ (fun hHeld => ?_)
              clear hK K
              refine norm_ (a' := ?_) ?_ ?_
              rotate_left
              · show Act.put _ (some 38) _ = _
                simp only [Act.put, List.setIfInBounds_toArray, List.set_cons_zero, List.set_cons_succ, i64_w, i32_w]
                rfl
              refine one_ (i := 19) (N := some 40) #[true, true, true, true, true, true, true, true, true, true, true, true, true, true, true, true, true, true, true, true, false, false, false, false, false, false, false, false, false, false, false, false] rfl rfl (one_of HT_.out (by kernel_rfl)) (by decide) (fun K hK => ?_)
              refine goes_ Try.func58 (by kernel_rfl) rfl #[.agg #[.int .i64 a0_0, .int .i64 a0_1, .int .i64 a0_2, .int .i64 a0_3, .int .i64 a0_4, .int .i64 a0_5, .int .i64 a0_6, .int .i64 a0_7, .bool a0_8, .string a0_9, .bool a0_10, .string a0_11, .int .i64 a0_12]] (by rfl) rfl rfl (by (try simp only [List.map_toArray, List.map_cons, List.map_nil]); first | done | rfl | (simp only [List.length_drop, List.length_take]; rfl)) ?_
              with_reducible refine (refCost4.calls a0_0 a0_1 a0_2 a0_3 a0_4 a0_5 a0_6 a0_7 a0_8 a0_9 a0_10 a0_11 a0_12 t111 _ A18.out).mono ?_
              rintro e w34 ⟨rfl, hb⟩
              refine ⟨_, rfl, ?_⟩
              have n0_ := Aside0.mk (blk_below (g := gb101) (o := .cells #[.int .i64 a0_0, .int .i64 a0_1, .int .i64 a0_2, .int .i64 a0_3, .int .i64 a0_4, .int .i64 a0_5, .int .i64 a0_6, .int .i64 a0_7, .bool a0_8, .string a0_9, .bool a0_10, .string a0_11, .int .i64 a0_12] 65 (0, 0)) (by (with_reducible repeat (first | refine blk_drewN ?_ _ | refine blk_drew ?_ | refine blk_alloc ?_ _)); exact BK101.out) hb)
              have n1_ := Aside0.mk (below_step (by repeat (first | (with_reducible first | exact HB.out | apply below_alloc | apply pw_below_drewN | apply below_drew1 | refine below_set ?_ GE101.out) | exact HB.out)) hb)
              clear BK101
              clear HB
              have BK101 := n0_
              have HB := n1_
              clear n0_ n1_
              (try clear hb)
              (try clear hb2)
              (try clear hk)
              (try clear hi)
              refine hK.out _ _ ⟨(blk_cell BK101.out 0).trans rfl, (blk_cell BK101.out 1).trans rfl, (blk_cell BK101.out 2).trans rfl, (blk_cell BK101.out 3).trans rfl, (blk_cell BK101.out 4).trans rfl, (blk_cell BK101.out 5).trans rfl, (blk_cell BK101.out 6).trans rfl, (blk_cell BK101.out 7).trans rfl, (blk_cell BK101.out 8).trans rfl, (blk_cell BK101.out 9).trans rfl, (blk_cell BK101.out 10).trans rfl, (blk_cell BK101.out 11).trans rfl, (blk_cell BK101.out 12).trans rfl⟩ (fun hHeld => ?_)
              clear hK K
              refine norm_ (a' := ?_) ?_ ?_
              rotate_left
              · show Act.put _ (some 40) _ = _
                simp only [Act.put, List.setIfInBounds_toArray, List.set_cons_zero, List.set_cons_succ, i64_w, i32_w]
                rfl
              refine pure_ (i := 20) (N := some 41) (v := ?_) (a' := ?_) #[true, true, true, true, true, true, true, true, true, true, true, true, true, true, true, true, true, true, true, true, true, false, false, false, false, false, false, false, false, false, false, false] rfl rfl (any_of HT_.out (by kernel_rfl)) (fun _ _ _ h => h) (Or.inl ⟨by rfl, ?_⟩) ?_ ?_
              rotate_left
              · intro w'
                go_simp
                with_reducible rfl
              rotate_left
              · simp only [Act.put, List.setIfInBounds_toArray, List.set_cons_zero, List.set_cons_succ, i64_w, i32_w]
                rfl
              refine pure_ (i := 21) (N := some 42) (v := ?_) (a' := ?_) #[true, true, true, true, true, true, true, true, true, true, true, true, true, true, true, true, true, true, true, true, true, true, false, false, false, false, false, false, false, false, false, false] rfl rfl (any_of HT_.out (by kernel_rfl)) (fun _ _ _ h => h) (Or.inl ⟨by rfl, ?_⟩) ?_ ?_
              rotate_left
              · intro w'
                go_simp
                with_reducible rfl
              rotate_left
              · simp only [Act.put, List.setIfInBounds_toArray, List.set_cons_zero, List.set_cons_succ, i64_w, i32_w]
                rfl
              refine pure_ (i := 22) (N := some 43) (v := ?_) (a' := ?_) #[true, true, true, true, true, true, true, true, true, true, true, true, true, true, true, true, true, true, true, true, true, true, true, false, false, false, false, false, false, false, false, false] rfl rfl (any_of HT_.out (by kernel_rfl)) (fun _ _ _ h => h) (Or.inl ⟨by rfl, ?_⟩) ?_ ?_
              rotate_left
              · intro w'
                go_simp
                with_reducible rfl
              rotate_left
              · simp only [Act.put, List.setIfInBounds_toArray, List.set_cons_zero, List.set_cons_succ, i64_w, i32_w]
                rfl
              refine pure_ (i := 23) (N := some 44) (v := ?_) (a' := ?_) #[true, true, true, true, true, true, true, true, true, true, true, true, true, true, true, true, true, true, true, true, true, true, true, true, false, false, false, false, false, false, false, false] rfl rfl (any_of HT_.out (by kernel_rfl)) (fun _ _ _ h => h) (Or.inl ⟨by rfl, ?_⟩) ?_ ?_
              rotate_left
              · intro w'
                go_simp
                with_reducible rfl
              rotate_left
              · simp only [Act.put, List.setIfInBounds_toArray, List.set_cons_zero, List.set_cons_succ, i64_w, i32_w]
                rfl
              refine pure_ (i := 26) (N := some 47) (v := ?_) (a' := ?_) #[true, true, true, true, true, true, true, true, true, true, true, true, true, true, true, true, true, true, true, true, true, true, true, true, false, false, true, false, false, false, false, false] rfl rfl (any_of HT_.out (by kernel_rfl)) (fun _ _ _ h => h) (Or.inl ⟨by rfl, ?_⟩) ?_ ?_
              rotate_left
              · intro w'
                go_simp
                with_reducible rfl
              rotate_left
              · simp only [Act.put, List.setIfInBounds_toArray, List.set_cons_zero, List.set_cons_succ, i64_w, i32_w]
                rfl
              refine take_ (i := 24) (N := some 45) (v := ?_) (a' := ?_) #[true, true, true, true, true, true, true, true, true, true, true, true, true, true, true, true, true, true, true, true, true, true, true, true, true, false, true, false, false, false, false, false] rfl rfl (take_ofW HT_.out HW_.out (by kernel_rfl)) (fun _ _ _ h => h) (Or.inl ⟨by rfl, ?_⟩) hHeld ?_ ?_
              rotate_left
              · rintro w' ⟨s0, s1, s2, s3, s4, s5, s6, s7, s8, s9, s10, s11, s12⟩
                go_simp
                with_reducible rfl
              rotate_left
              · simp only [Act.put, List.setIfInBounds_toArray, List.set_cons_zero, List.set_cons_succ, i64_w, i32_w]
                rfl
              refine take_ (i := 27) (N := some 48) (v := ?_) (a' := ?_) #[true, true, true, true, true, true, true, true, true, true, true, true, true, true, true, true, true, true, true, true, true, true, true, true, true, false, true, true, false, false, false, false] rfl rfl (take_ofW HT_.out HW_.out (by kernel_rfl)) (fun _ _ _ h => h) (Or.inl ⟨by rfl, ?_⟩) hHeld ?_ ?_
              rotate_left
              · rintro w' ⟨s0, s1, s2, s3, s4, s5, s6, s7, s8, s9, s10, s11, s12⟩
                go_simp
                with_reducible rfl
              rotate_left
              · simp only [Act.put, List.setIfInBounds_toArray, List.set_cons_zero, List.set_cons_succ, i64_w, i32_w]
                rfl
              refine one_ (i := 25) (N := some 46) #[true, true, true, true, true, true, true, true, true, true, true, true, true, true, true, true, true, true, true, true, true, true, true, true, true, true, true, true, false, false, false, false] rfl rfl (one_of HT_.out (by kernel_rfl)) (by decide) (fun K hK => ?_)
              refine goes_ Try.func59 (by kernel_rfl) rfl #[.agg #[.int .i64 a0_1, .int .i64 a0_2, .int .i64 a0_3]] (by rfl) rfl rfl (by (try simp only [List.map_toArray, List.map_cons, List.map_nil]); first | done | rfl | (simp only [List.length_drop, List.length_take]; rfl)) ?_
              with_reducible refine (entKnown.calls a0_1 a0_2 a0_3 t112 _ A20.out).mono ?_
              rintro e w35 ⟨rfl, hb⟩
              refine ⟨_, rfl, ?_⟩
              have n0_ := Aside0.mk (blk_below (g := gb101) (o := .cells #[.int .i64 a0_0, .int .i64 a0_1, .int .i64 a0_2, .int .i64 a0_3, .int .i64 a0_4, .int .i64 a0_5, .int .i64 a0_6, .int .i64 a0_7, .bool a0_8, .string a0_9, .bool a0_10, .string a0_11, .int .i64 a0_12] 65 (0, 0)) (by (with_reducible repeat (first | refine blk_drewN ?_ _ | refine blk_drew ?_ | refine blk_alloc ?_ _)); exact BK101.out) hb)
              have n1_ := Aside0.mk (below_step (by repeat (first | (with_reducible first | exact HB.out | apply below_alloc | apply pw_below_drewN | apply below_drew1 | refine below_set ?_ GE101.out) | exact HB.out)) hb)
              clear BK101
              clear HB
              have BK101 := n0_
              have HB := n1_
              clear n0_ n1_
              (try clear hb)
              (try clear hb2)
              (try clear hk)
              (try clear hi)
              refine hK.out _ _ ⟨(blk_cell BK101.out 0).trans rfl, (blk_cell BK101.out 1).trans rfl, (blk_cell BK101.out 2).trans rfl, (blk_cell BK101.out 3).trans rfl, (blk_cell BK101.out 4).trans rfl, (blk_cell BK101.out 5).trans rfl, (blk_cell BK101.out 6).trans rfl, (blk_cell BK101.out 7).trans rfl, (blk_cell BK101.out 8).trans rfl, (blk_cell BK101.out 9).trans rfl, (blk_cell BK101.out 10).trans rfl, (blk_cell BK101.out 11).trans rfl, (blk_cell BK101.out 12).trans rfl⟩ (fun hHeld => ?_)
              clear hK K
              refine norm_ (a' := ?_) ?_ ?_
              rotate_left
              · show Act.put _ (some 46) _ = _
                simp only [Act.put, List.setIfInBounds_toArray, List.set_cons_zero, List.set_cons_succ, i64_w, i32_w]
                rfl
              refine one_ (i := 28) (N := some 49) #[true, true, true, true, true, true, true, true, true, true, true, true, true, true, true, true, true, true, true, true, true, true, true, true, true, true, true, true, true, false, false, false] rfl rfl (one_of HT_.out (by kernel_rfl)) (by decide) (fun K hK => ?_)
              refine goes_ Try.func60 (by kernel_rfl) rfl #[.agg #[.int .i64 a0_1, .int .i64 a0_2, .int .i64 a0_3]] (by rfl) rfl rfl (by (try simp only [List.map_toArray, List.map_cons, List.map_nil]); first | done | rfl | (simp only [List.length_drop, List.length_take]; rfl)) ?_
              with_reducible refine (refKnown4.calls a0_1 a0_2 a0_3 t113 _ A21.out).mono ?_
              rintro e w36 ⟨rfl, hb⟩
              refine ⟨_, rfl, ?_⟩
              have n0_ := Aside0.mk (blk_below (g := gb101) (o := .cells #[.int .i64 a0_0, .int .i64 a0_1, .int .i64 a0_2, .int .i64 a0_3, .int .i64 a0_4, .int .i64 a0_5, .int .i64 a0_6, .int .i64 a0_7, .bool a0_8, .string a0_9, .bool a0_10, .string a0_11, .int .i64 a0_12] 65 (0, 0)) (by (with_reducible repeat (first | refine blk_drewN ?_ _ | refine blk_drew ?_ | refine blk_alloc ?_ _)); exact BK101.out) hb)
              have n1_ := Aside0.mk (below_step (by repeat (first | (with_reducible first | exact HB.out | apply below_alloc | apply pw_below_drewN | apply below_drew1 | refine below_set ?_ GE101.out) | exact HB.out)) hb)
              clear BK101
              clear HB
              have BK101 := n0_
              have HB := n1_
              clear n0_ n1_
              (try clear hb)
              (try clear hb2)
              (try clear hk)
              (try clear hi)
              refine hK.out _ _ ⟨(blk_cell BK101.out 0).trans rfl, (blk_cell BK101.out 1).trans rfl, (blk_cell BK101.out 2).trans rfl, (blk_cell BK101.out 3).trans rfl, (blk_cell BK101.out 4).trans rfl, (blk_cell BK101.out 5).trans rfl, (blk_cell BK101.out 6).trans rfl, (blk_cell BK101.out 7).trans rfl, (blk_cell BK101.out 8).trans rfl, (blk_cell BK101.out 9).trans rfl, (blk_cell BK101.out 10).trans rfl, (blk_cell BK101.out 11).trans rfl, (blk_cell BK101.out 12).trans rfl⟩ (fun hHeld => ?_)
              clear hK K
              refine norm_ (a' := ?_) ?_ ?_
              rotate_left
              · show Act.put _ (some 49) _ = _
                simp only [Act.put, List.setIfInBounds_toArray, List.set_cons_zero, List.set_cons_succ, i64_w, i32_w]
                rfl
              refine pure_ (i := 29) (N := some 50) (v := ?_) (a' := ?_) #[true, true, true, true, true, true, true, true, true, true, true, true, true, true, true, true, true, true, true, true, true, true, true, true, true, true, true, true, true, true, false, false] rfl rfl (any_of HT_.out (by kernel_rfl)) (fun _ _ _ h => h) (Or.inl ⟨by rfl, ?_⟩) ?_ ?_
              rotate_left
              · intro w'
                go_simp
                with_reducible rfl
              rotate_left
              · simp only [Act.put, List.setIfInBounds_toArray, List.set_cons_zero, List.set_cons_succ, i64_w, i32_w]
                rfl
              refine pure_ (i := 30) (N := some 51) (v := ?_) (a' := ?_) #[true, true, true, true, true, true, true, true, true, true, true, true, true, true, true, true, true, true, true, true, true, true, true, true, true, true, true, true, true, true, true, false] rfl rfl (any_of HT_.out (by kernel_rfl)) (fun _ _ _ h => h) (Or.inl ⟨by rfl, ?_⟩) ?_ ?_
              rotate_left
              · intro w'
                go_simp
                with_reducible rfl
              rotate_left
              · simp only [Act.put, List.setIfInBounds_toArray, List.set_cons_zero, List.set_cons_succ, i64_w, i32_w]
                rfl
              refine pure_ (i := 31) (N := some 2) (v := ?_) (a' := ?_) #[true, true, true, true, true, true, true, true, true, true, true, true, true, true, true, true, true, true, true, true, true, true, true, true, true, true, true, true, true, true, true, true] rfl rfl (any_of HT_.out (by kernel_rfl)) (fun _ _ _ h => h) (Or.inl ⟨by rfl, ?_⟩) ?_ ?_
              rotate_left
              · intro w'
                go_simp
                with_reducible rfl
              rotate_left
              · simp only [Act.put, List.setIfInBounds_toArray, List.set_cons_zero, List.set_cons_succ, i64_w, i32_w]
                rfl
              refine done_ (done_of HT_.out (by kernel_rfl)) ?_
              try go_wp2
              go_ret
              exact ⟨by first | rfl | (simp [errW_none, errW_some] <;> rfl) | (simp [*, errW_none, errW_some] <;> rfl), by repeat (first | (with_reducible first | exact HB.out | apply below_alloc | apply pw_below_drewN | apply below_drew1 | refine below_set ?_ GE101.out) | exact HB.out)⟩
            · rw [if_neg c19] at H
              have c19b0 : (t110 == t111) = false := beq_eq_false_iff_ne.mpr c19
              have c19b1 : (t110 != t111) = true := bne_iff_ne.mpr c19
              obtain rfl := Option.some.inj H
              exact absurd HRT.out (by decide)
          · rw [if_neg c16] at H
            have c16b0 : (t108 == t109) = false := by simpa using c16
            (try (have c16b1 : decide (t108 = t109) = false := by simpa using c16))
            (try (have c16b2 : (t108 == t109) = false := by simpa using c16))
            (try (have c16b3 : ¬ (t108 = t109) := by simpa using c16))
            clear c16
            obtain rfl := Option.some.inj H
            exact absurd HRT.out (by decide)
        · rw [if_neg c13] at H
          have c13b0 : (t105 == t107) = false := beq_eq_false_iff_ne.mpr c13
          have c13b1 : (t105 != t107) = true := bne_iff_ne.mpr c13
          obtain rfl := Option.some.inj H
          exact absurd HRT.out (by decide)
      · rw [if_neg c12] at H
        have c12b0 : (t104.toList == t106.toList) = false := beq_eq_false_iff_ne.mpr c12
        have c12b1 : (t104.toList != t106.toList) = true := bne_iff_ne.mpr c12
        obtain rfl := Option.some.inj H
        exact absurd HRT.out (by decide)
  · replace c3 := Bool.eq_false_iff.mpr c3
    subst c3
    have H1 : (some false) = some r := by rw [if_neg (show ¬ (false = true) by decide)] at H; exact H
    clear H
    have H := H1
    clear H1
    obtain rfl := Option.some.inj H
    exact absurd HRT.out (by decide)
end Go.Proofs.Ytfjmnaobfbmllaa.M
namespace Go.Proofs.Ytfjmnaobfbmllaa.M
open Go.RowKit Go.Proofs.YtfjmnaobfbmllaaW.PrintWords Go.Proofs.YtfjmnaobfbmllaaW.PrintLast Go.Proofs.YtfjmnaobfbmllaaW.PrintMore
set_option linter.unusedVariables false
set_option linter.unusedSimpArgs false
theorem s65_ext (x y : S65) : x = y ↔ x.f0 = y.f0 ∧ ((x.f1.f0 = y.f1.f0 ∧ x.f1.f1 = y.f1.f1 ∧ x.f1.f2 = y.f1.f2) ∧ x.f2 = y.f2 ∧ x.f3 = y.f3 ∧ x.f4 = y.f4 ∧ x.f5 = y.f5 ∧ (x.f6.f0 = y.f6.f0 ∧ x.f6.f1 = y.f6.f1) ∧ (x.f7.f0 = y.f7.f0 ∧ x.f7.f1 = y.f7.f1) ∧ x.f8 = y.f8) := by
  obtain ⟨a0, ⟨a1, a2, a3⟩, a4, a5, a6, a7, ⟨a8, a9⟩, ⟨a10, a11⟩, a12⟩ := x
  obtain ⟨b0, ⟨b1, b2, b3⟩, b4, b5, b6, b7, ⟨b8, b9⟩, ⟨b10, b11⟩, b12⟩ := y
  simp
instance decS65 : DecidableEq S65 := fun x y => decidable_of_iff _ (s65_ext x y).symm
def greatE (x : S65) : Bool := decide (4096 < x.f6.f1.size) || decide (4096 < x.f7.f1.size)
theorem great4_eq (x : S65) : seneschallaw04_great.f x.f0 x.f1.f0 x.f1.f1 x.f1.f2 x.f2 x.f3 x.f4 x.f5 x.f6.f0 x.f6.f1 x.f7.f0 x.f7.f1 x.f8 = some (greatE x) := by
  unfold seneschallaw04_great.f greatE
  by_cases h : 4096 < x.f6.f1.size
  · rw [if_pos (by omega), decide_eq_true h]; rfl
  · rw [if_neg (by omega), decide_eq_false h, Bool.false_or]
    congr 1
    rw [Bool.eq_iff_iff, decide_eq_true_iff, decide_eq_true_iff]; omega
end Go.Proofs.Ytfjmnaobfbmllaa.M
namespace Go.Proofs.Ytfjmnaobfbmllaa.M
open Go.RowKit Go.Proofs.YtfjmnaobfbmllaaW.PrintWords Go.Proofs.YtfjmnaobfbmllaaW.PrintLast Go.Proofs.YtfjmnaobfbmllaaW.PrintMore
set_option linter.unusedVariables false
set_option linter.unusedSimpArgs false
theorem pureEntryWrites (x0 : S65) : seneschallaw04_EntryWrites.f x0.f0 x0.f1.f0 x0.f1.f1 x0.f1.f2 x0.f2 x0.f3 x0.f4 x0.f5 x0.f6.f0 x0.f6.f1 x0.f7.f0 x0.f7.f1 x0.f8 = some true := by
  unfold seneschallaw04_EntryWrites.f awake4.f entEnc.f refEnc4.f entGood.f refGood4.f entCost.f refCost4.f entKnown.f refKnown4.f
  rw [Option.bind_some, if_pos rfl, great4_eq, Option.bind_some]
  cases greatE x0 with
  | true => rw [if_pos rfl]
  | false =>
    rw [if_neg Bool.false_ne_true]
    simp only [Option.bind_some, if_true, beq_self_eq_true]
end Go.Proofs.Ytfjmnaobfbmllaa.M
namespace Go.Proofs.Ytfjmnaobfbmllaa.entryWrites
open Go.ChangeShapes Go.WideShapes Go.ChangeAt Go.RowKit Go.Proofs.Ytfjmnaobfbmllaa.M
open Go.Proofs.YtfjmnaobfbmllaaW.PrintWords Go.Proofs.YtfjmnaobfbmllaaW.PrintLast Go.Proofs.YtfjmnaobfbmllaaW.PrintMore
open Go.ChangeMaps (open_string shut_string)
set_option linter.unusedVariables false
theorem own : ownKnob Try.prog.godebug = none := by kernel_rfl
theorem laidOut : laidOutB Try.prog = true := by kernel_rfl
set_option maxRecDepth 100000 in
theorem lifted (os : Os) (started : os.Started) (H : Type) (enc : TypeId × Value → H) :
    ReturnsInHanded {} Try.checked os 11 .any (Rows.entryWritesSpec.pre6 enc Try.prog Try.f11 Rows.entryWritesRow.domain false) (Rows.entryWritesSpec.post enc Try.prog Try.f11 false true false false) := by
  refine returnsInHanded_of_change_sized (C := Try.checked) own started (by kernel_rfl) Try.func11
    (ChangeSpec.witness6 (enc := enc) (C := Try.checked) false ⟨#[], #[.agg #[.int .i64 0, .int .i64 0, .int .i64 0, .int .i64 0, .int .i64 0, .int .i64 0, .int .i64 0, .int .i64 0, .bool false, .string ByteArray.empty, .bool false, .string ByteArray.empty, .int .i64 0]], []⟩ 8 (by kernel_rfl) (by kernel_rfl) (by kernel_rfl) (by kernel_rfl)) ?_
  intro W base args ds gs before hval0 hW hcnd hsz0 _
  have hsz : (DataW.weightsEach Try.prog (Try.f11.params.toList ++ Rows.entryWritesSpec.plain.varTypes Try.prog) (ds ++ gs)).all (· ≤ reachBytes) = true := hsz0
  have hval : ∀ (j : Nat) t v, Try.f11.params[j]? = some t → args[j]? = some v → Value.okWide Try.prog W .any base t v := hval0
  have hW' := hW
  obtain ⟨p, q, hA0, hV, rfl, hfz, hnd⟩ := hW
  have hA : DataW.TrodAll enc Try.prog W 0 (fun _ => true) true Try.f11.params.toList args.toList ds p := hA0
  rw [Try.params11] at hA hval hsz
  obtain ⟨v0, vs0, d0, ds0, p0, q0, hargs, rfl, rfl, h0, r0⟩ := trodAll_cons hA
  obtain ⟨rfl, rfl, rfl⟩ := trodAll_nil r0
  obtain rfl : args = #[v0] := by cases args; simp_all
  obtain ⟨rfl, rfl⟩ := trodVars_none hV
  have k0 := h0
  have lt0 : ∀ x ∈ p0, x.block < W.heap.size := by obtain ⟨m, hm⟩ := k0; exact DataW.trod_lt m _ _ _ hm
  obtain ⟨x0, rfl⟩ := V65 (hval 0 65 v0 rfl rfl) h0
  clear hA0 hval0 hsz0 hsz hval
  have hp := pureEntryWrites x0
  refine (seneschallaw04_EntryWrites.calls (x0.f0) (x0.f1.f0) (x0.f1.f1) (x0.f1.f2) (x0.f2) (x0.f3) (x0.f4) (x0.f5) (x0.f6.f0) (x0.f6.f1) (x0.f7.f0) (x0.f7.f1) (x0.f8) true rfl W  hp).mono fun e W' ⟨he, bel⟩ => ?_
  subst he
  exact ⟨_, rfl, _, _, _, [], _, [], hW', trodAll_mk1 (shut_bool Try.underlying4 _), (trodAll_cons_mk (Below.trod laidOut (by kernel_rfl) (of_decide_eq_true (by kernel_rfl)) k0 bel lt0) trodAll_mk0), rfl, bel.frame _, fun h => by cases h⟩
theorem joined : joinedFacts Try.prog 11 Try.f11 Rows.entryWritesSpec Rows.entryWritesRow = true := by
  unfold joinedFacts
  rw [may_enter, lifts_final, make_is]
  kernel_rfl
theorem over : Rows.entryWritesRow.holds Try.pinned (OpenSpec.ofChange Rows.entryWritesSpec) :=
  OpenClaim.holds_of_wide 11 Try.f11 rfl rfl rfl rfl rfl rfl rfl ⟨rfl, rfl, rfl, rfl, rfl⟩ rfl rfl rfl rfl rfl (by kernel_rfl) Try.func11 joined
    (of_decide_eq_true (by kernel_rfl)) (by unfold Func.isWrapper; first | (rw [if_pos (by decide +kernel)]; kernel_rfl) | (rw [if_neg (by decide +kernel)]; exact ⟨rfl, rfl⟩))
    (fun os started H enc _ => lifted os started H enc)
theorem proved : Rows.EntryWritesSaid := over
#print axioms proved
end Go.Proofs.Ytfjmnaobfbmllaa.entryWrites
namespace Go.Proofs.Ytfjmnaobfbmllaa
theorem entryWrites_holds : Rows.EntryWritesSaid := entryWrites.proved
end Go.Proofs.Ytfjmnaobfbmllaa
