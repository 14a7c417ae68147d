/- The law EntryBack: it returns true for every input, and its arguments read as they did. No condition. Part 4 of 4. -/
import Derived.Test.YtfjmnaobfbmllaaProg
import Derived.Test.YtfjmnaobfbmllaaRows
import Derived.Test.YtfjmnaobfbmllaaUApart
import Derived.Test.YtfjmnaobfbmllaaUEqStruct
import Derived.Test.YtfjmnaobfbmllaaUFoot
import Derived.Test.YtfjmnaobfbmllaaUGuard
import Derived.Test.YtfjmnaobfbmllaaUKept
import Derived.Test.YtfjmnaobfbmllaaULast
import Derived.Test.YtfjmnaobfbmllaaUMore
import Derived.Test.YtfjmnaobfbmllaaUN
import Derived.Test.YtfjmnaobfbmllaaURepsOne
import Derived.Test.YtfjmnaobfbmllaaUShare
import Derived.Test.YtfjmnaobfbmllaaUTab
import Derived.Test.YtfjmnaobfbmllaaUWords
import Derived.ArgAppend
import Derived.Below
import Derived.BigQuiet
import Derived.Carry
import Derived.ChangeArms
import Derived.ChangeMaps
import Derived.ChangeOld
import Derived.Deep.AppendLies
import Derived.Deep.CutBlock
import Derived.Deep.DeepCutAuto
import Derived.Deep.Draws
import Derived.Deep.LoopGhost
import Derived.Deep.OwnRows
import Derived.Deep.QuietTactic
import Derived.Deep.RegionHeld3
import Derived.Deep.Slices
import Derived.KernelRfl
import Derived.Laws.Bits64
import Derived.Laws.Bits64b
import Derived.Laws.BitsAllLaws
import Derived.Laws.BitsLemmas
import Derived.Laws.BytesArg
import Derived.Laws.CopyOwn
import Derived.Laws.IdiomCopy
import Derived.Laws.MakeOwn
import Derived.Laws.OwnMore
import Derived.Laws.Rows
import Derived.Laws.Slices
import Derived.Lib.AppendStr
import Derived.Lib.ConvBytes
import Derived.Maps.AppendAt
import Derived.OpenShut
import Derived.OrdersHeld
import Derived.OwnWalk
import Derived.ProofKit
import Derived.RowKit
import Derived.RowKit3
import Derived.ShutString
import Derived.SizedLaws
import Derived.Tactics
import Derived.WalkKit
import Derived.WideLaws
import Derived.Test.YtfjmnaobfbmllaaEntryBackA0
import Derived.Test.YtfjmnaobfbmllaaEntryBackA1
import Derived.Test.YtfjmnaobfbmllaaEntryBackA2
namespace Go.Proofs.Ytfjmnaobfbmllaa.M
open Go.RowKit Go.Proofs.YtfjmnaobfbmllaaW.PrintWords Go.Proofs.YtfjmnaobfbmllaaW.PrintLast Go.Proofs.YtfjmnaobfbmllaaW.PrintMore
set_option linter.unusedVariables false
set_option linter.unusedSimpArgs false
theorem s65_ext (x y : S65) : x = y ↔ x.f0 = y.f0 ∧ ((x.f1.f0 = y.f1.f0 ∧ x.f1.f1 = y.f1.f1 ∧ x.f1.f2 = y.f1.f2) ∧ x.f2 = y.f2 ∧ x.f3 = y.f3 ∧ x.f4 = y.f4 ∧ x.f5 = y.f5 ∧ (x.f6.f0 = y.f6.f0 ∧ x.f6.f1 = y.f6.f1) ∧ (x.f7.f0 = y.f7.f0 ∧ x.f7.f1 = y.f7.f1) ∧ x.f8 = y.f8) := by
  obtain ⟨a0, ⟨a1, a2, a3⟩, a4, a5, a6, a7, ⟨a8, a9⟩, ⟨a10, a11⟩, a12⟩ := x
  obtain ⟨b0, ⟨b1, b2, b3⟩, b4, b5, b6, b7, ⟨b8, b9⟩, ⟨b10, b11⟩, b12⟩ := y
  simp
instance decS65 : DecidableEq S65 := fun x y => decidable_of_iff _ (s65_ext x y).symm
theorem s65_beq (x y : S65) : (x.f0 == y.f0 && ((x.f1.f0 == y.f1.f0 && (x.f1.f1 == y.f1.f1 && (x.f1.f2 == y.f1.f2))) && (x.f2 == y.f2 && (x.f3 == y.f3 && (x.f4 == y.f4 && (x.f5 == y.f5 && ((x.f6.f0 == y.f6.f0 && (x.f6.f1.toList == y.f6.f1.toList)) && ((x.f7.f0 == y.f7.f0 && (x.f7.f1.toList == y.f7.f1.toList)) && (x.f8 == y.f8))))))))) = decide (x = y) := by
  rw [Bool.eq_iff_iff, decide_eq_true_iff, s65_ext]
  simp [ba_inj, and_assoc]
def greatE (x : S65) : Bool := decide (4096 < x.f6.f1.size) || decide (4096 < x.f7.f1.size)
theorem great4_eq (x : S65) : seneschallaw04_great.f x.f0 x.f1.f0 x.f1.f1 x.f1.f2 x.f2 x.f3 x.f4 x.f5 x.f6.f0 x.f6.f1 x.f7.f0 x.f7.f1 x.f8 = some (greatE x) := by
  unfold seneschallaw04_great.f greatE
  by_cases h : 4096 < x.f6.f1.size
  · rw [if_pos (by omega), decide_eq_true h]; rfl
  · rw [if_neg (by omega), decide_eq_false h, Bool.false_or]
    congr 1
    rw [Bool.eq_iff_iff, decide_eq_true_iff, decide_eq_true_iff]; omega
theorem mk_eq (x : S65) : mkE x.f0 x.f1.f0 x.f1.f1 x.f1.f2 x.f2 x.f3 x.f4 x.f5 x.f6.f0 x.f6.f1 x.f7.f0 x.f7.f1 x.f8 = x := rfl
theorem encX_good {x : S65} (h : GoodE x) : encX x = (strOfNums (encE x), 0) := if_pos h
theorem encX_bad {x : S65} (h : ¬ GoodE x) : encX x = (⟨#[]⟩, 1) := if_neg h
theorem enc_size4 {x : S65} (h : GoodE x) : (strOfNums (encE x)).size = (encE x).length := strOfNums_size _
theorem enc_prefix {x y : S65} (hx : GoodE x) (hy : GoodE y) {b c : List Int} (h : encE x ++ b = encE y ++ c) : x = y ∧ b = c := by
  have e1 := parse_encE hx b
  have e2 := parse_encE hy c
  rw [h, e2] at e1
  simp only [Option.some.injEq, Prod.mk.injEq] at e1
  exact ⟨e1.1.symm, e1.2.symm⟩
end Go.Proofs.Ytfjmnaobfbmllaa.M
namespace Go.Proofs.Ytfjmnaobfbmllaa.M
open Go.RowKit Go.Proofs.YtfjmnaobfbmllaaW.PrintWords Go.Proofs.YtfjmnaobfbmllaaW.PrintLast Go.Proofs.YtfjmnaobfbmllaaW.PrintMore
set_option linter.unusedVariables false
set_option linter.unusedSimpArgs false
theorem cut_same {x y : S65} (hx : GoodE x) (hy : GoodE y) : ((strOfNums (encE x)).extract 0 (mn ((strOfNums (encE x)).size : Int) ((strOfNums (encE y)).size : Int)).toNat).toList = ((strOfNums (encE y)).extract 0 (mn ((strOfNums (encE x)).size : Int) ((strOfNums (encE y)).size : Int)).toNat).toList ↔ x = y := by
  rw [ba_inj, enc_size4 hx, enc_size4 hy]
  constructor
  · intro h
    rw [str_take _ (encE_range hx), str_take _ (encE_range hy)] at h
    have h2 := congrArg bytesOf h
    rw [bytesOf_strOfNums _ (fun b hb => encE_range hx b (List.mem_of_mem_take hb)), bytesOf_strOfNums _ (fun b hb => encE_range hy b (List.mem_of_mem_take hb))] at h2
    by_cases hl : (encE x).length ≤ (encE y).length
    · have em : (mn ((encE x).length : Int) ((encE y).length : Int)).toNat = (encE x).length := by unfold mn; split <;> omega
      rw [em, List.take_of_length_le (Nat.le_refl _)] at h2
      have h3 : encE x ++ (encE y).drop (encE x).length = encE y ++ [] := (congrArg (· ++ (encE y).drop (encE x).length) h2).trans ((List.take_append_drop _ _).trans (List.append_nil _).symm)
      exact (enc_prefix hx hy h3).1
    · have em : (mn ((encE x).length : Int) ((encE y).length : Int)).toNat = (encE y).length := by unfold mn; split <;> omega
      rw [em, List.take_of_length_le (l := encE y) (Nat.le_refl _)] at h2
      have h3 : encE y ++ (encE x).drop (encE y).length = encE x ++ [] := (congrArg (· ++ (encE x).drop (encE y).length) h2.symm).trans ((List.take_append_drop _ _).trans (List.append_nil _).symm)
      exact (enc_prefix hy hx h3).1.symm
  · rintro rfl; rfl
theorem pureEntryBack (x0 x1 : S65) (a2 : ByteArray) (w2 : a2.size ≤ 140737488351232) : ∃ k, seneschallaw04_EntryBack.f k x0.f0 x0.f1.f0 x0.f1.f1 x0.f1.f2 x0.f2 x0.f3 x0.f4 x0.f5 x0.f6.f0 x0.f6.f1 x0.f7.f0 x0.f7.f1 x0.f8 x1.f0 x1.f1.f0 x1.f1.f1 x1.f1.f2 x1.f2 x1.f3 x1.f4 x1.f5 x1.f6.f0 x1.f6.f1 x1.f7.f0 x1.f7.f1 x1.f8 a2 = some true := by
  refine ⟨1, ?_⟩
  unfold seneschallaw04_EntryBack.f awake4.f
  have hj : ∀ b, seneschallaw04_EntryBack.j0 1 a2 b x0.f0 x0.f1.f0 x0.f1.f1 x0.f1.f2 x0.f2 x0.f3 x0.f4 x0.f5 x0.f6.f0 x0.f6.f1 x0.f7.f0 x0.f7.f1 x0.f8 x1.f0 x1.f1.f0 x1.f1.f1 x1.f1.f2 x1.f2 x1.f3 x1.f4 x1.f5 x1.f6.f0 x1.f6.f1 x1.f7.f0 x1.f7.f1 x1.f8 = some true := by
    intro b
    simp only [seneschallaw04_EntryBack.j0]
    unfold entEnc.f entGood.f entry_Decode.f entCost.f
    cases b with
    | true => rw [if_pos rfl]
    | false =>
      rw [if_neg Bool.false_ne_true, Option.bind_some, Option.bind_some, mk_eq]
      by_cases hg : GoodE x0
      · have hl := encE_len hg
        have hsz := enc_size4 hg
        rw [encX_good hg, decide_eq_true hg]
        simp only
        rw [if_neg (show ¬ (((0 : Int) == 0) != true) = true by decide), if_pos trivial, if_pos (show (strOfNums (encE x0)).size + a2.size ≤ 9223372036854775807 by omega), Option.bind_some, decE_enc hg, Option.bind_some]
        unfold entTup
        simp only
        rw [s65_beq x0 x0, decide_eq_true rfl, if_pos rfl, if_pos trivial, if_pos trivial, mk_eq]
        by_cases hy : GoodE x1
        · have hl2 := encE_len hy
          have hsz2 := enc_size4 hy
          rw [encX_good hy]
          simp only
          have m0 : 0 ≤ mn ((strOfNums (encE x0)).size : Int) ((strOfNums (encE x1)).size : Int) := by unfold mn; split <;> omega
          have m1 : mn ((strOfNums (encE x0)).size : Int) ((strOfNums (encE x1)).size : Int) ≤ ((strOfNums (encE x0)).size : Int) := by unfold mn; split <;> omega
          have m2 : mn ((strOfNums (encE x0)).size : Int) ((strOfNums (encE x1)).size : Int) ≤ ((strOfNums (encE x1)).size : Int) := by unfold mn; split <;> omega
          rw [if_pos trivial, if_pos m0, if_pos m1, if_pos m2, s65_beq x0 x1]
          congr 1
          have hc := cut_same hg hy
          by_cases he : x0 = x1
          · rw [decide_eq_true he, beq_true, beq_iff_eq]; exact hc.mpr he
          · rw [decide_eq_false he, beq_false, Bool.not_eq_true', beq_eq_false_iff_ne]; exact fun h => he (hc.mp h)
        · rw [encX_bad hy]
          simp only
          rw [if_neg (by decide)]
      · rw [encX_bad hg, decide_eq_false hg]
        simp only
        rw [if_neg (show ¬ (((1 : Int) == 0) != false) = true by decide), if_neg (by decide), if_pos ((ba_nil _).mpr rfl), Option.bind_some]
        unfold costE
        rw [if_neg hg]
        rfl
  rw [Option.bind_some, if_pos rfl, great4_eq, Option.bind_some, great4_eq, Option.bind_some]
  split
  · exact hj _
  · split
    · exact hj _
    · exact hj _
end Go.Proofs.Ytfjmnaobfbmllaa.M
namespace Go.Proofs.Ytfjmnaobfbmllaa.entryBack
open Go.ChangeShapes Go.WideShapes Go.ChangeAt Go.RowKit Go.Proofs.Ytfjmnaobfbmllaa.M
open Go.Proofs.YtfjmnaobfbmllaaW.PrintWords Go.Proofs.YtfjmnaobfbmllaaW.PrintLast Go.Proofs.YtfjmnaobfbmllaaW.PrintMore
open Go.ChangeMaps (open_string shut_string)
set_option linter.unusedVariables false
theorem own : ownKnob Try.prog.godebug = none := by kernel_rfl
theorem laidOut : laidOutB Try.prog = true := by kernel_rfl
set_option maxRecDepth 100000 in
theorem lifted (os : Os) (started : os.Started) (H : Type) (enc : TypeId × Value → H) :
    ReturnsInHanded {} Try.checked os 14 .any (Rows.entryBackSpec.pre6 enc Try.prog Try.f14 Rows.entryBackRow.domain false) (Rows.entryBackSpec.post enc Try.prog Try.f14 false true false false) := by
  refine returnsInHanded_of_change_sized (C := Try.checked) own started (by kernel_rfl) Try.func14
    (ChangeSpec.witness6 (enc := enc) (C := Try.checked) false ⟨#[], #[.agg #[.int .i64 0, .int .i64 0, .int .i64 0, .int .i64 0, .int .i64 0, .int .i64 0, .int .i64 0, .int .i64 0, .bool false, .string ByteArray.empty, .bool false, .string ByteArray.empty, .int .i64 0], .agg #[.int .i64 0, .int .i64 0, .int .i64 0, .int .i64 0, .int .i64 0, .int .i64 0, .int .i64 0, .int .i64 0, .bool false, .string ByteArray.empty, .bool false, .string ByteArray.empty, .int .i64 0], .string ByteArray.empty], []⟩ 8 (by kernel_rfl) (by kernel_rfl) (by kernel_rfl) (by kernel_rfl)) ?_
  intro W base args ds gs before hval0 hW hcnd hsz0 _
  have hsz : (DataW.weightsEach Try.prog (Try.f14.params.toList ++ Rows.entryBackSpec.plain.varTypes Try.prog) (ds ++ gs)).all (· ≤ reachBytes) = true := hsz0
  have hval : ∀ (j : Nat) t v, Try.f14.params[j]? = some t → args[j]? = some v → Value.okWide Try.prog W .any base t v := hval0
  have hW' := hW
  obtain ⟨p, q, hA0, hV, rfl, hfz, hnd⟩ := hW
  have hA : DataW.TrodAll enc Try.prog W 0 (fun _ => true) true Try.f14.params.toList args.toList ds p := hA0
  rw [Try.params14] at hA hval hsz
  obtain ⟨v0, vs0, d0, ds0, p0, q0, hargs, rfl, rfl, h0, r0⟩ := trodAll_cons hA
  obtain ⟨v1, vs1, d1, ds1, p1, q1, rfl, rfl, rfl, h1, r1⟩ := trodAll_cons r0
  obtain ⟨v2, vs2, d2, ds2, p2, q2, rfl, rfl, rfl, h2, r2⟩ := trodAll_cons r1
  obtain ⟨rfl, rfl, rfl⟩ := trodAll_nil r2
  obtain rfl : args = #[v0, v1, v2] := by cases args; simp_all
  obtain ⟨rfl, rfl⟩ := trodVars_none hV
  have k0 := h0
  have lt0 : ∀ x ∈ p0, x.block < W.heap.size := by obtain ⟨m, hm⟩ := k0; exact DataW.trod_lt m _ _ _ hm
  obtain ⟨x0, rfl⟩ := V65 (hval 0 65 v0 rfl rfl) h0
  have k1 := h1
  have lt1 : ∀ x ∈ p1, x.block < W.heap.size := by obtain ⟨m, hm⟩ := k1; exact DataW.trod_lt m _ _ _ hm
  obtain ⟨x1, rfl⟩ := V65 (hval 1 65 v1 rfl rfl) h1
  obtain ⟨a2, rfl, rfl, rfl, y2⟩ := open_string Try.underlying9 (hval 2 9 v2 rfl rfl) h2
  have w2 : a2.size ≤ 140737488351232 := by
    have z := sized_string hsz (j := 2) (t := 9) rfl rfl
    rw [Array.length_toList] at z
    exact z
  clear hA0 hval0 hsz0 hsz hval
  obtain ⟨k, hp⟩ := pureEntryBack x0 x1 a2 w2
  refine (seneschallaw04_EntryBack.calls k (x0.f0) (x0.f1.f0) (x0.f1.f1) (x0.f1.f2) (x0.f2) (x0.f3) (x0.f4) (x0.f5) (x0.f6.f0) (x0.f6.f1) (x0.f7.f0) (x0.f7.f1) (x0.f8) (x1.f0) (x1.f1.f0) (x1.f1.f1) (x1.f1.f2) (x1.f2) (x1.f3) (x1.f4) (x1.f5) (x1.f6.f0) (x1.f6.f1) (x1.f7.f0) (x1.f7.f1) (x1.f8) a2 true rfl W  hp).mono fun e W' ⟨he, bel⟩ => ?_
  subst he
  exact ⟨_, rfl, _, _, _, [], _, [], hW', trodAll_mk1 (shut_bool Try.underlying4 _), (trodAll_cons_mk (Below.trod laidOut (by kernel_rfl) (of_decide_eq_true (by kernel_rfl)) k0 bel lt0) (trodAll_cons_mk (Below.trod laidOut (by kernel_rfl) (of_decide_eq_true (by kernel_rfl)) k1 bel lt1) (trodAll_cons_mk (shut_string Try.underlying9 y2) trodAll_mk0))), rfl, bel.frame _, fun h => by cases h⟩
theorem joined : joinedFacts Try.prog 14 Try.f14 Rows.entryBackSpec Rows.entryBackRow = true := by
  unfold joinedFacts
  rw [may_enter, lifts_final, make_is]
  kernel_rfl
theorem over : Rows.entryBackRow.holds Try.pinned (OpenSpec.ofChange Rows.entryBackSpec) :=
  OpenClaim.holds_of_wide 14 Try.f14 rfl rfl rfl rfl rfl rfl rfl ⟨rfl, rfl, rfl, rfl, rfl⟩ rfl rfl rfl rfl rfl (by kernel_rfl) Try.func14 joined
    (of_decide_eq_true (by kernel_rfl)) (by unfold Func.isWrapper; first | (rw [if_pos (by decide +kernel)]; kernel_rfl) | (rw [if_neg (by decide +kernel)]; exact ⟨rfl, rfl⟩))
    (fun os started H enc _ => lifted os started H enc)
theorem proved : Rows.EntryBackSaid := over
#print axioms proved
end Go.Proofs.Ytfjmnaobfbmllaa.entryBack
namespace Go.Proofs.Ytfjmnaobfbmllaa
theorem entryBack_holds : Rows.EntryBackSaid := entryBack.proved
end Go.Proofs.Ytfjmnaobfbmllaa
