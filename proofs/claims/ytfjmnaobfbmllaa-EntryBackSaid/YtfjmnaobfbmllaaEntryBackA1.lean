/- The law EntryBack: it returns true for every input, and its arguments read as they did. No condition. Part 2 of 4. -/
import Derived.Test.YtfjmnaobfbmllaaProg
import Derived.Test.YtfjmnaobfbmllaaRows
import Derived.Test.YtfjmnaobfbmllaaUApart
import Derived.Test.YtfjmnaobfbmllaaUEqStruct
import Derived.Test.YtfjmnaobfbmllaaUFoot
import Derived.Test.YtfjmnaobfbmllaaUGuard
import Derived.Test.YtfjmnaobfbmllaaUKept
import Derived.Test.YtfjmnaobfbmllaaULast
import Derived.Test.YtfjmnaobfbmllaaUMore
import Derived.Test.YtfjmnaobfbmllaaUN
import Derived.Test.YtfjmnaobfbmllaaURepsOne
import Derived.Test.YtfjmnaobfbmllaaUShare
import Derived.Test.YtfjmnaobfbmllaaUTab
import Derived.Test.YtfjmnaobfbmllaaUWords
import Derived.ArgAppend
import Derived.Below
import Derived.BigQuiet
import Derived.Carry
import Derived.ChangeArms
import Derived.ChangeMaps
import Derived.ChangeOld
import Derived.Deep.AppendLies
import Derived.Deep.CutBlock
import Derived.Deep.DeepCutAuto
import Derived.Deep.Draws
import Derived.Deep.LoopGhost
import Derived.Deep.OwnRows
import Derived.Deep.QuietTactic
import Derived.Deep.RegionHeld3
import Derived.Deep.Slices
import Derived.KernelRfl
import Derived.Laws.Bits64
import Derived.Laws.Bits64b
import Derived.Laws.BitsAllLaws
import Derived.Laws.BitsLemmas
import Derived.Laws.BytesArg
import Derived.Laws.CopyOwn
import Derived.Laws.IdiomCopy
import Derived.Laws.MakeOwn
import Derived.Laws.OwnMore
import Derived.Laws.Rows
import Derived.Laws.Slices
import Derived.Lib.AppendStr
import Derived.Lib.ConvBytes
import Derived.Maps.AppendAt
import Derived.OpenShut
import Derived.OrdersHeld
import Derived.OwnWalk
import Derived.ProofKit
import Derived.RowKit
import Derived.RowKit3
import Derived.ShutString
import Derived.SizedLaws
import Derived.Tactics
import Derived.WalkKit
import Derived.WideLaws
import Derived.Test.YtfjmnaobfbmllaaEntryBackA0
namespace Go.Proofs.Ytfjmnaobfbmllaa.M
open Go.RowKit Go.Proofs.YtfjmnaobfbmllaaW.PrintWords Go.Proofs.YtfjmnaobfbmllaaW.PrintLast Go.Proofs.YtfjmnaobfbmllaaW.PrintMore
set_option linter.unusedVariables false
set_option linter.unusedSimpArgs false
theorem field_at (x : S65) (g i : Nat) (hi : i < (numsE x).length) : ∃ o : Nat, (fieldPs g)[i]? = some (.pointer (some ⟨g, o, none⟩)) ∧ (#[.int .i64 x.f0, .int .i64 x.f1.f0, .int .i64 x.f1.f1, .int .i64 x.f1.f2, .int .i64 x.f2, .int .i64 x.f3, .int .i64 x.f4, .int .i64 x.f5, .bool x.f6.f0, .string x.f6.f1, .bool x.f7.f0, .string x.f7.f1, .int .i64 x.f8] : Array Value)[o]? = some (.int .i64 (numsE x)[i]) := by
  unfold numsE at hi ⊢
  split at hi
  · have : i = 0 ∨ i = 1 ∨ i = 2 ∨ i = 3 ∨ i = 4 ∨ i = 5 ∨ i = 6 ∨ i = 7 ∨ i = 8 := by simp at hi; omega
    rename_i hk
    simp only [if_pos hk]
    rcases this with rfl | rfl | rfl | rfl | rfl | rfl | rfl | rfl | rfl <;> exact ⟨_, rfl, rfl⟩
  · have : i = 0 ∨ i = 1 ∨ i = 2 ∨ i = 3 ∨ i = 4 ∨ i = 5 := by simp at hi; omega
    rename_i hk
    simp only [if_neg hk]
    rcases this with rfl | rfl | rfl | rfl | rfl | rfl <;> exact ⟨_, rfl, rfl⟩
theorem nums_len (x : S65) : (numsE x).length = if x.f0 = 1 ∨ x.f0 = 2 then 9 else 6 := by unfold numsE; split <;> simp
set_option maxHeartbeats 8000000 in
set_option maxRecDepth 100000 in
theorem entry_Encode.bad (x : S65) (hg : ¬ GoodE x) (w : World) :
    Calls Try.prog 53 #[.agg #[.int .i64 x.f0, .int .i64 x.f1.f0, .int .i64 x.f1.f1, .int .i64 x.f1.f2, .int .i64 x.f2, .int .i64 x.f3, .int .i64 x.f4, .int .i64 x.f5, .bool x.f6.f0, .string x.f6.f1, .bool x.f7.f0, .string x.f7.f1, .int .i64 x.f8]] w fun e w' => e = .returned (.tuple #[.string ⟨#[]⟩, .int .i64 1]) ∧ Below w.heap.size w w' := by
  have hu65 := Try.underlying65
  have HGD : Aside0 (entGood.f x.f0 x.f1.f0 x.f1.f1 x.f1.f2 x.f2 x.f3 x.f4 x.f5 x.f6.f0 x.f6.f1 x.f7.f0 x.f7.f1 x.f8 = some false) := ⟨congrArg some (decide_eq_false hg)⟩
  go_enter Try.func53, Try.ntmps53
  go_wp2_with (first | ((with_reducible refine gate_dst (N := 1) rfl ?_); refine box_event ?hg (N := 1) ?hd (cs := #[.int .i64 x.f0, .int .i64 x.f1.f0, .int .i64 x.f1.f1, .int .i64 x.f1.f2, .int .i64 x.f2, .int .i64 x.f3, .int .i64 x.f4, .int .i64 x.f5, .bool x.f6.f0, .string x.f6.f1, .bool x.f7.f0, .string x.f7.f1, .int .i64 x.f8]) (t := 65) ?hr ?_; (case hd => rfl); (case hg => rfl); (case hr => first | (go_simp; done) | (go_simp; rfl)); intro g1 hg1 w2 hbox hb; have HBK := Aside0.mk hbox; have HB := Aside0.mk hb; have HG := Aside0.mk (show w.heap.size ≤ g1 by rw [hg1]; exact Nat.le_refl _); clear hbox hb hg1; have hcz0 : w2.cell? ⟨g1, 0, none⟩ = some (.int .i64 x.f0) := (blk_cell HBK.out 0).trans rfl; have hfz0 := blk_frozen HBK.out 0; have hcz1 : w2.cell? ⟨g1, 1, none⟩ = some (.int .i64 x.f1.f0) := (blk_cell HBK.out 1).trans rfl; have hfz1 := blk_frozen HBK.out 1; have hcz2 : w2.cell? ⟨g1, 2, none⟩ = some (.int .i64 x.f1.f1) := (blk_cell HBK.out 2).trans rfl; have hfz2 := blk_frozen HBK.out 2; have hcz3 : w2.cell? ⟨g1, 3, none⟩ = some (.int .i64 x.f1.f2) := (blk_cell HBK.out 3).trans rfl; have hfz3 := blk_frozen HBK.out 3; have hcz4 : w2.cell? ⟨g1, 4, none⟩ = some (.int .i64 x.f2) := (blk_cell HBK.out 4).trans rfl; have hfz4 := blk_frozen HBK.out 4; have hcz5 : w2.cell? ⟨g1, 5, none⟩ = some (.int .i64 x.f3) := (blk_cell HBK.out 5).trans rfl; have hfz5 := blk_frozen HBK.out 5; have hcz6 : w2.cell? ⟨g1, 6, none⟩ = some (.int .i64 x.f4) := (blk_cell HBK.out 6).trans rfl; have hfz6 := blk_frozen HBK.out 6; have hcz7 : w2.cell? ⟨g1, 7, none⟩ = some (.int .i64 x.f5) := (blk_cell HBK.out 7).trans rfl; have hfz7 := blk_frozen HBK.out 7; have hcz8 : w2.cell? ⟨g1, 8, none⟩ = some (.bool x.f6.f0) := (blk_cell HBK.out 8).trans rfl; have hfz8 := blk_frozen HBK.out 8; have hcz9 : w2.cell? ⟨g1, 9, none⟩ = some (.string x.f6.f1) := (blk_cell HBK.out 9).trans rfl; have hfz9 := blk_frozen HBK.out 9; have hcz10 : w2.cell? ⟨g1, 10, none⟩ = some (.bool x.f7.f0) := (blk_cell HBK.out 10).trans rfl; have hfz10 := blk_frozen HBK.out 10; have hcz11 : w2.cell? ⟨g1, 11, none⟩ = some (.string x.f7.f1) := (blk_cell HBK.out 11).trans rfl; have hfz11 := blk_frozen HBK.out 11; have hcz12 : w2.cell? ⟨g1, 12, none⟩ = some (.int .i64 x.f8) := (blk_cell HBK.out 12).trans rfl; have hfz12 := blk_frozen HBK.out 12) | ((with_reducible refine gate_callee (f := 55) rfl ?_); refine goesL_ (some 8) rfl rfl Try.func55 (by kernel_rfl) rfl #[.agg #[.int .i64 x.f0, .int .i64 x.f1.f0, .int .i64 x.f1.f1, .int .i64 x.f1.f2, .int .i64 x.f2, .int .i64 x.f3, .int .i64 x.f4, .int .i64 x.f5, .bool x.f6.f0, .string x.f6.f1, .bool x.f7.f0, .string x.f7.f1, .int .i64 x.f8]] rfl (by (try simp only [List.map_toArray, List.map_cons, List.map_nil]); first | done | rfl) ?_; (with_reducible refine (entGood.calls x.f0 x.f1.f0 x.f1.f1 x.f1.f2 x.f2 x.f3 x.f4 x.f5 x.f6.f0 x.f6.f1 x.f7.f0 x.f7.f1 x.f8 false _ HGD.out).mono ?_); rintro e w3 ⟨rfl, hb⟩; refine ⟨_, rfl, ?_⟩; have n0_ := Aside0.mk (blk_below HBK.out hb); have n1_ := Aside0.mk (below_step HB.out hb); clear HBK HB; have HBK := n0_; have HB := n1_; clear n0_ n1_ hb; clear hcz0 hfz0 hcz1 hfz1 hcz2 hfz2 hcz3 hfz3 hcz4 hfz4 hcz5 hfz5 hcz6 hfz6 hcz7 hfz7 hcz8 hfz8 hcz9 hfz9 hcz10 hfz10 hcz11 hfz11 hcz12 hfz12; have hcz0 : w3.cell? ⟨g1, 0, none⟩ = some (.int .i64 x.f0) := (blk_cell HBK.out 0).trans rfl; have hfz0 := blk_frozen HBK.out 0; have hcz1 : w3.cell? ⟨g1, 1, none⟩ = some (.int .i64 x.f1.f0) := (blk_cell HBK.out 1).trans rfl; have hfz1 := blk_frozen HBK.out 1; have hcz2 : w3.cell? ⟨g1, 2, none⟩ = some (.int .i64 x.f1.f1) := (blk_cell HBK.out 2).trans rfl; have hfz2 := blk_frozen HBK.out 2; have hcz3 : w3.cell? ⟨g1, 3, none⟩ = some (.int .i64 x.f1.f2) := (blk_cell HBK.out 3).trans rfl; have hfz3 := blk_frozen HBK.out 3; have hcz4 : w3.cell? ⟨g1, 4, none⟩ = some (.int .i64 x.f2) := (blk_cell HBK.out 4).trans rfl; have hfz4 := blk_frozen HBK.out 4; have hcz5 : w3.cell? ⟨g1, 5, none⟩ = some (.int .i64 x.f3) := (blk_cell HBK.out 5).trans rfl; have hfz5 := blk_frozen HBK.out 5; have hcz6 : w3.cell? ⟨g1, 6, none⟩ = some (.int .i64 x.f4) := (blk_cell HBK.out 6).trans rfl; have hfz6 := blk_frozen HBK.out 6; have hcz7 : w3.cell? ⟨g1, 7, none⟩ = some (.int .i64 x.f5) := (blk_cell HBK.out 7).trans rfl; have hfz7 := blk_frozen HBK.out 7; have hcz8 : w3.cell? ⟨g1, 8, none⟩ = some (.bool x.f6.f0) := (blk_cell HBK.out 8).trans rfl; have hfz8 := blk_frozen HBK.out 8; have hcz9 : w3.cell? ⟨g1, 9, none⟩ = some (.string x.f6.f1) := (blk_cell HBK.out 9).trans rfl; have hfz9 := blk_frozen HBK.out 9; have hcz10 : w3.cell? ⟨g1, 10, none⟩ = some (.bool x.f7.f0) := (blk_cell HBK.out 10).trans rfl; have hfz10 := blk_frozen HBK.out 10; have hcz11 : w3.cell? ⟨g1, 11, none⟩ = some (.string x.f7.f1) := (blk_cell HBK.out 11).trans rfl; have hfz11 := blk_frozen HBK.out 11; have hcz12 : w3.cell? ⟨g1, 12, none⟩ = some (.int .i64 x.f8) := (blk_cell HBK.out 12).trans rfl; have hfz12 := blk_frozen HBK.out 12))
  go_ret2
  exact ⟨rfl, HB.out⟩
set_option maxHeartbeats 8000000 in
set_option maxRecDepth 100000 in
theorem entry_Encode.good (x : S65) (hg : GoodE x) (w : World) :
    Calls Try.prog 53 #[.agg #[.int .i64 x.f0, .int .i64 x.f1.f0, .int .i64 x.f1.f1, .int .i64 x.f1.f2, .int .i64 x.f2, .int .i64 x.f3, .int .i64 x.f4, .int .i64 x.f5, .bool x.f6.f0, .string x.f6.f1, .bool x.f7.f0, .string x.f7.f1, .int .i64 x.f8]] w fun e w' => e = .returned (.tuple #[.string (strOfNums (encE x)), .int .i64 0]) ∧ Below w.heap.size w w' := by
  have hu65 := Try.underlying65
  have hu116 := Try.underlying116
  have hu33 := Try.underlying33
  have HGD : Aside0 (entGood.f x.f0 x.f1.f0 x.f1.f1 x.f1.f2 x.f2 x.f3 x.f4 x.f5 x.f6.f0 x.f6.f1 x.f7.f0 x.f7.f1 x.f8 = some true) := ⟨congrArg some (decide_eq_true hg)⟩
  have HGG := Aside0.mk hg
  clear hg
  go_enter Try.func53, Try.ntmps53
  go_wp2_with (first | ((with_reducible refine gate_dst (N := 1) rfl ?_); refine box_event ?hg (N := 1) ?hd (cs := #[.int .i64 x.f0, .int .i64 x.f1.f0, .int .i64 x.f1.f1, .int .i64 x.f1.f2, .int .i64 x.f2, .int .i64 x.f3, .int .i64 x.f4, .int .i64 x.f5, .bool x.f6.f0, .string x.f6.f1, .bool x.f7.f0, .string x.f7.f1, .int .i64 x.f8]) (t := 65) ?hr ?_; (case hd => rfl); (case hg => rfl); (case hr => first | (go_simp; done) | (go_simp; rfl)); intro g1 hg1 w2 hbox hb; have HBK := Aside0.mk hbox; have HB := Aside0.mk hb; have HG := Aside0.mk (show w.heap.size ≤ g1 by rw [hg1]; exact Nat.le_refl _); clear hbox hb hg1; have hcz0 : w2.cell? ⟨g1, 0, none⟩ = some (.int .i64 x.f0) := (blk_cell HBK.out 0).trans rfl; have hfz0 := blk_frozen HBK.out 0; have hcz1 : w2.cell? ⟨g1, 1, none⟩ = some (.int .i64 x.f1.f0) := (blk_cell HBK.out 1).trans rfl; have hfz1 := blk_frozen HBK.out 1; have hcz2 : w2.cell? ⟨g1, 2, none⟩ = some (.int .i64 x.f1.f1) := (blk_cell HBK.out 2).trans rfl; have hfz2 := blk_frozen HBK.out 2; have hcz3 : w2.cell? ⟨g1, 3, none⟩ = some (.int .i64 x.f1.f2) := (blk_cell HBK.out 3).trans rfl; have hfz3 := blk_frozen HBK.out 3; have hcz4 : w2.cell? ⟨g1, 4, none⟩ = some (.int .i64 x.f2) := (blk_cell HBK.out 4).trans rfl; have hfz4 := blk_frozen HBK.out 4; have hcz5 : w2.cell? ⟨g1, 5, none⟩ = some (.int .i64 x.f3) := (blk_cell HBK.out 5).trans rfl; have hfz5 := blk_frozen HBK.out 5; have hcz6 : w2.cell? ⟨g1, 6, none⟩ = some (.int .i64 x.f4) := (blk_cell HBK.out 6).trans rfl; have hfz6 := blk_frozen HBK.out 6; have hcz7 : w2.cell? ⟨g1, 7, none⟩ = some (.int .i64 x.f5) := (blk_cell HBK.out 7).trans rfl; have hfz7 := blk_frozen HBK.out 7; have hcz8 : w2.cell? ⟨g1, 8, none⟩ = some (.bool x.f6.f0) := (blk_cell HBK.out 8).trans rfl; have hfz8 := blk_frozen HBK.out 8; have hcz9 : w2.cell? ⟨g1, 9, none⟩ = some (.string x.f6.f1) := (blk_cell HBK.out 9).trans rfl; have hfz9 := blk_frozen HBK.out 9; have hcz10 : w2.cell? ⟨g1, 10, none⟩ = some (.bool x.f7.f0) := (blk_cell HBK.out 10).trans rfl; have hfz10 := blk_frozen HBK.out 10; have hcz11 : w2.cell? ⟨g1, 11, none⟩ = some (.string x.f7.f1) := (blk_cell HBK.out 11).trans rfl; have hfz11 := blk_frozen HBK.out 11; have hcz12 : w2.cell? ⟨g1, 12, none⟩ = some (.int .i64 x.f8) := (blk_cell HBK.out 12).trans rfl; have hfz12 := blk_frozen HBK.out 12) | ((with_reducible refine gate_callee (f := 55) rfl ?_); refine goesL_ (some 8) rfl rfl Try.func55 (by kernel_rfl) rfl #[.agg #[.int .i64 x.f0, .int .i64 x.f1.f0, .int .i64 x.f1.f1, .int .i64 x.f1.f2, .int .i64 x.f2, .int .i64 x.f3, .int .i64 x.f4, .int .i64 x.f5, .bool x.f6.f0, .string x.f6.f1, .bool x.f7.f0, .string x.f7.f1, .int .i64 x.f8]] rfl (by (try simp only [List.map_toArray, List.map_cons, List.map_nil]); first | done | rfl) ?_; (with_reducible refine (entGood.calls x.f0 x.f1.f0 x.f1.f1 x.f1.f2 x.f2 x.f3 x.f4 x.f5 x.f6.f0 x.f6.f1 x.f7.f0 x.f7.f1 x.f8 true _ HGD.out).mono ?_); rintro e w3 ⟨rfl, hb⟩; refine ⟨_, rfl, ?_⟩; have n0_ := Aside0.mk (blk_below HBK.out hb); have n1_ := Aside0.mk (below_step HB.out hb); clear HBK HB; have HBK := n0_; have HB := n1_; clear n0_ n1_ hb; clear hcz0 hfz0 hcz1 hfz1 hcz2 hfz2 hcz3 hfz3 hcz4 hfz4 hcz5 hfz5 hcz6 hfz6 hcz7 hfz7 hcz8 hfz8 hcz9 hfz9 hcz10 hfz10 hcz11 hfz11 hcz12 hfz12; have hcz0 : w3.cell? ⟨g1, 0, none⟩ = some (.int .i64 x.f0) := (blk_cell HBK.out 0).trans rfl; have hfz0 := blk_frozen HBK.out 0; have hcz1 : w3.cell? ⟨g1, 1, none⟩ = some (.int .i64 x.f1.f0) := (blk_cell HBK.out 1).trans rfl; have hfz1 := blk_frozen HBK.out 1; have hcz2 : w3.cell? ⟨g1, 2, none⟩ = some (.int .i64 x.f1.f1) := (blk_cell HBK.out 2).trans rfl; have hfz2 := blk_frozen HBK.out 2; have hcz3 : w3.cell? ⟨g1, 3, none⟩ = some (.int .i64 x.f1.f2) := (blk_cell HBK.out 3).trans rfl; have hfz3 := blk_frozen HBK.out 3; have hcz4 : w3.cell? ⟨g1, 4, none⟩ = some (.int .i64 x.f2) := (blk_cell HBK.out 4).trans rfl; have hfz4 := blk_frozen HBK.out 4; have hcz5 : w3.cell? ⟨g1, 5, none⟩ = some (.int .i64 x.f3) := (blk_cell HBK.out 5).trans rfl; have hfz5 := blk_frozen HBK.out 5; have hcz6 : w3.cell? ⟨g1, 6, none⟩ = some (.int .i64 x.f4) := (blk_cell HBK.out 6).trans rfl; have hfz6 := blk_frozen HBK.out 6; have hcz7 : w3.cell? ⟨g1, 7, none⟩ = some (.int .i64 x.f5) := (blk_cell HBK.out 7).trans rfl; have hfz7 := blk_frozen HBK.out 7; have hcz8 : w3.cell? ⟨g1, 8, none⟩ = some (.bool x.f6.f0) := (blk_cell HBK.out 8).trans rfl; have hfz8 := blk_frozen HBK.out 8; have hcz9 : w3.cell? ⟨g1, 9, none⟩ = some (.string x.f6.f1) := (blk_cell HBK.out 9).trans rfl; have hfz9 := blk_frozen HBK.out 9; have hcz10 : w3.cell? ⟨g1, 10, none⟩ = some (.bool x.f7.f0) := (blk_cell HBK.out 10).trans rfl; have hfz10 := blk_frozen HBK.out 10; have hcz11 : w3.cell? ⟨g1, 11, none⟩ = some (.string x.f7.f1) := (blk_cell HBK.out 11).trans rfl; have hfz11 := blk_frozen HBK.out 11; have hcz12 : w3.cell? ⟨g1, 12, none⟩ = some (.int .i64 x.f8) := (blk_cell HBK.out 12).trans rfl; have hfz12 := blk_frozen HBK.out 12) | ((with_reducible refine gate_callee (f := 97) rfl ?_); refine goesL_ (some 10) rfl rfl Try.func97 (by kernel_rfl) rfl #[.pointer (some ⟨g1, 0, none⟩)] rfl (by (try simp only [List.map_toArray, List.map_cons, List.map_nil]); first | done | rfl) ?_; (refine (entry_fields.calls g1 x.f0 _ _ HBK.out hcz0).mono ?_); rintro e w4 ⟨g2, he, hbh, hlt, hb⟩; rw [← nums_len x] at he; subst he; refine ⟨_, rfl, ?_⟩; have n0_ := Aside0.mk (blk_below HBK.out hb); have n1_ := Aside0.mk (below_step HB.out hb); have HH := Aside0.mk hbh; have HNE := Aside0.mk (show g2 ≠ g1 by have := blk_lt HBK.out; omega); clear HBK HB; have HBK := n0_; have HB := n1_; clear n0_ n1_ hb hbh hlt; clear hcz0 hfz0 hcz1 hfz1 hcz2 hfz2 hcz3 hfz3 hcz4 hfz4 hcz5 hfz5 hcz6 hfz6 hcz7 hfz7 hcz8 hfz8 hcz9 hfz9 hcz10 hfz10 hcz11 hfz11 hcz12 hfz12; have hcz0 : w4.cell? ⟨g1, 0, none⟩ = some (.int .i64 x.f0) := (blk_cell HBK.out 0).trans rfl; have hfz0 := blk_frozen HBK.out 0; have hcz1 : w4.cell? ⟨g1, 1, none⟩ = some (.int .i64 x.f1.f0) := (blk_cell HBK.out 1).trans rfl; have hfz1 := blk_frozen HBK.out 1; have hcz2 : w4.cell? ⟨g1, 2, none⟩ = some (.int .i64 x.f1.f1) := (blk_cell HBK.out 2).trans rfl; have hfz2 := blk_frozen HBK.out 2; have hcz3 : w4.cell? ⟨g1, 3, none⟩ = some (.int .i64 x.f1.f2) := (blk_cell HBK.out 3).trans rfl; have hfz3 := blk_frozen HBK.out 3; have hcz4 : w4.cell? ⟨g1, 4, none⟩ = some (.int .i64 x.f2) := (blk_cell HBK.out 4).trans rfl; have hfz4 := blk_frozen HBK.out 4; have hcz5 : w4.cell? ⟨g1, 5, none⟩ = some (.int .i64 x.f3) := (blk_cell HBK.out 5).trans rfl; have hfz5 := blk_frozen HBK.out 5; have hcz6 : w4.cell? ⟨g1, 6, none⟩ = some (.int .i64 x.f4) := (blk_cell HBK.out 6).trans rfl; have hfz6 := blk_frozen HBK.out 6; have hcz7 : w4.cell? ⟨g1, 7, none⟩ = some (.int .i64 x.f5) := (blk_cell HBK.out 7).trans rfl; have hfz7 := blk_frozen HBK.out 7; have hcz8 : w4.cell? ⟨g1, 8, none⟩ = some (.bool x.f6.f0) := (blk_cell HBK.out 8).trans rfl; have hfz8 := blk_frozen HBK.out 8; have hcz9 : w4.cell? ⟨g1, 9, none⟩ = some (.string x.f6.f1) := (blk_cell HBK.out 9).trans rfl; have hfz9 := blk_frozen HBK.out 9; have hcz10 : w4.cell? ⟨g1, 10, none⟩ = some (.bool x.f7.f0) := (blk_cell HBK.out 10).trans rfl; have hfz10 := blk_frozen HBK.out 10; have hcz11 : w4.cell? ⟨g1, 11, none⟩ = some (.string x.f7.f1) := (blk_cell HBK.out 11).trans rfl; have hfz11 := blk_frozen HBK.out 11; have hcz12 : w4.cell? ⟨g1, 12, none⟩ = some (.int .i64 x.f8) := (blk_cell HBK.out 12).trans rfl; have hfz12 := blk_frozen HBK.out 12))
  clear hcz0 hfz0 hcz1 hfz1 hcz2 hfz2 hcz3 hfz3 hcz4 hfz4 hcz5 hfz5 hcz6 hfz6 hcz7 hfz7 hcz8 hfz8 hcz9 hfz9 hcz10 hfz10 hcz11 hfz11 hcz12 hfz12
  go_loopg [4, 6, 12] (numsE x).length (fun gg v4 v6 v12 wr => ∃ i : Nat, i ≤ (numsE x).length ∧ (numsE x).length - i ≤ gg ∧ v12 = .int .i64 i ∧ v4 = .string (strOfNums (((numsE x).take i).flatMap intB)) ∧ Aside0 (wr.heap[g1]? = some (.cells #[.int .i64 x.f0, .int .i64 x.f1.f0, .int .i64 x.f1.f1, .int .i64 x.f1.f2, .int .i64 x.f2, .int .i64 x.f3, .int .i64 x.f4, .int .i64 x.f5, .bool x.f6.f0, .string x.f6.f1, .bool x.f7.f0, .string x.f7.f1, .int .i64 x.f8] 65 (0, 0))) ∧ Aside0 (wr.heap[g2]? = some (.cells (fieldPs g1) 119 (0, 0))) ∧ Aside0 (Below w.heap.size w wr))
  case atStart => exact ⟨0, Nat.zero_le _, by omega, rfl, rfl, HBK, HH, HB⟩
  case round =>
    clear HBK HH HB
    obtain ⟨i, hi, hgg, rfl, rfl, HBK, HH, HB⟩ := hrel
    have hl9 : (numsE x).length ≤ 9 := by unfold numsE; split <;> simp
    by_cases hlt : i < (numsE x).length
    · have q0 : (i : Int) < ((numsE x).length : Int) := by omega
      have q1 : (0 : Int) ≤ (i : Int) := by omega
      obtain ⟨o, hp, hc⟩ := field_at x g1 i hlt
      have hsm := nums_small HGG.out _ (List.getElem_mem hlt)
      have hcp : wr.cell? ⟨g2, i, none⟩ = some (.pointer (some ⟨g1, o, none⟩)) := (blk_cell HH.out i).trans hp
      have hcn : wr.cell? ⟨g1, o, none⟩ = some (.int .i64 (numsE x)[i]) := (blk_cell HBK.out o).trans hc
      have HS : Aside0 (strOfNums (((numsE x).take i).flatMap intB) ++ strOfNums (intB (numsE x)[i]) = strOfNums (((numsE x).take (i + 1)).flatMap intB)) := ⟨by
        rw [List.take_succ_eq_append_getElem hlt, List.flatMap_append, List.flatMap_singleton, str_app2 _ _ (flat_small _ (fun n hn => nums_small HGG.out n (List.mem_of_mem_take hn))) (intB_small hsm)]⟩
      have HNI : Aside0 (nibInt.f (numsE x)[i] = some (strOfNums (intB (numsE x)[i]))) := ⟨if_pos hsm⟩
      have hsz1 : (strOfNums (((numsE x).take i).flatMap intB)).size ≤ 99 := by
        rw [strOfNums_size]
        have := flat_len ((numsE x).take i)
        rw [List.length_take] at this
        omega
      have hsz2 : (strOfNums (intB (numsE x)[i])).size ≤ 11 := by rw [strOfNums_size]; exact (intB_len _).2
      clear hp hc hsm
      generalize (numsE x)[i] = n at *
      generalize strOfNums (((numsE x).take i).flatMap intB) = s0 at *
      have hj : (strOfNums (intB n)).size + s0.size ≤ 9223372036854775807 := by omega
      have hj2 : s0.size + (strOfNums (intB n)).size ≤ 9223372036854775807 := by omega
      have hj3 : (9223372036854775807 < s0.size + (strOfNums (intB n)).size) = False := eq_false (Nat.not_lt.2 hj2)
      go_wp2_with (first | ((with_reducible refine gate_callee (f := 98) rfl ?_); refine goesL_ (some 20) rfl rfl Try.func98 (by kernel_rfl) rfl #[.int .i64 n] rfl (by (try simp only [List.map_toArray, List.map_cons, List.map_nil]); first | done | rfl) ?_; (with_reducible refine (nibInt.calls n (strOfNums (intB n)) _ HNI.out).mono ?_); rintro e w6 ⟨rfl, hb⟩; refine ⟨_, rfl, ?_⟩; have n0_ := Aside0.mk (blk_below HBK.out hb); have n1_ := Aside0.mk (below_step HB.out hb); have n2_ := Aside0.mk (blk_below HH.out hb); clear HBK HB HH; have HBK := n0_; have HB := n1_; have HH := n2_; clear n0_ n1_ n2_ hb))
      go_roundg ((numsE x).length - (i + 1))
      case measure => omega
      case rel => exact ⟨i + 1, by omega, by omega, by go_num, by rw [HS.out], HBK, HH, HB⟩
    · have hltz : ¬ (i : Int) < ((numsE x).length : Int) := by omega
      have HT : Aside0 (((numsE x).take i).flatMap intB = (numsE x).flatMap intB) := ⟨by rw [List.take_of_length_le (by omega)]⟩
      rw [HT.out]
      clear HT
      have hs := good_slots HGG.out
      have hsz : (strOfNums ((numsE x).flatMap intB)).size ≤ 99 := by rw [strOfNums_size]; have := flat_len (numsE x); omega
      have H29 : Aside0 (entry_slot.f x.f6.f0 x.f6.f1 = some (strOfNums (slotE x.f6))) := ⟨entslot_eq _ _ hs.1⟩
      have H32 : Aside0 (entry_slot.f x.f7.f0 x.f7.f1 = some (strOfNums (slotE x.f7))) := ⟨entslot_eq _ _ hs.2⟩
      have hz6 : (strOfNums (slotE x.f6)).size ≤ 222 := by rw [strOfNums_size]; exact slotE_len _ hs.1
      have hz7 : (strOfNums (slotE x.f7)).size ≤ 222 := by rw [strOfNums_size]; exact slotE_len _ hs.2
      have HE : Aside0 (strOfNums ((numsE x).flatMap intB) ++ (strOfNums (slotE x.f6) ++ strOfNums (slotE x.f7)) = strOfNums ((numsE x).flatMap intB ++ (slotE x.f6 ++ slotE x.f7))) := ⟨by rw [str_app2 _ _ (slotE_range _ hs.1) (slotE_range _ hs.2), str_app2 _ _ (flat_small _ (nums_small HGG.out)) (fun b hb => by rw [List.mem_append] at hb; rcases hb with hb | hb; exact slotE_range _ hs.1 b hb; exact slotE_range _ hs.2 b hb)]⟩
      have HK3 : Aside0 (x.f0 ≤ 2 ↔ (x.f0 = 1 ∨ x.f0 = 2)) := ⟨by rcases HGG.out.2.2.2 with h | h | h <;> omega⟩
      have hcz0 : wr.cell? ⟨g1, 0, none⟩ = some (.int .i64 x.f0) := (blk_cell HBK.out 0).trans rfl
      by_cases hk : x.f0 ≤ 2
      · have HX : Aside0 ((numsE x).flatMap intB ++ (slotE x.f6 ++ slotE x.f7) = encE x) := ⟨by unfold encE tailE; rw [if_pos (HK3.out.mp hk)]⟩
        generalize strOfNums (slotE x.f6) = s6 at *
        generalize strOfNums (slotE x.f7) = s7 at *
        generalize strOfNums ((numsE x).flatMap intB) = s0 at *
        have hj1 : s6.size + s7.size ≤ 9223372036854775807 := by omega
        have hj2 : s0.size + (s6.size + s7.size) ≤ 9223372036854775807 := by omega
        have hj3 : (9223372036854775807 < s6.size + s7.size) = False := eq_false (Nat.not_lt.2 hj1)
        have hj4 : (9223372036854775807 < s0.size + (s6.size + s7.size)) = False := eq_false (Nat.not_lt.2 hj2)
        go_wp2
        have n0_ := Aside0.mk (blk_drew HBK.out)
        have n1_ := Aside0.mk (below_drew1 HB.out)
        clear HBK HB hcz0
        have HBK := n0_
        have HB := n1_
        clear n0_ n1_
        refine start_ (n := 10) (S := fun w' => w'.cell? ⟨g1, 8, none⟩ = some (.bool x.f6.f0) ∧ w'.cell? ⟨g1, 9, none⟩ = some (.string x.f6.f1) ∧ w'.cell? ⟨g1, 10, none⟩ = some (.bool x.f7.f0) ∧ w'.cell? ⟨g1, 11, none⟩ = some (.string x.f7.f1)) (ds := []) #[false, false, false, false, false, false, false, false, false, false] (by kernel_rfl) rfl rfl ⟨(blk_cell HBK.out 8).trans rfl, (blk_cell HBK.out 9).trans rfl, (blk_cell HBK.out 10).trans rfl, (blk_cell HBK.out 11).trans rfl⟩ (fun hHeld => ?_)
        generalize wr.drew = w6 at HBK HB hHeld ⊢
        refine pure_ (i := 0) (N := some 26) (v := ?_) (a' := ?_) #[true, false, false, false, false, false, false, false, false, false] rfl rfl (by kernel_rfl) (fun _ _ _ h => h) (Or.inl ⟨by rfl, ?_⟩) ?_ ?_
        rotate_left
        · intro w'
          go_simp
          with_reducible rfl
        rotate_left
        · simp only [Act.put, List.setIfInBounds_toArray, List.set_cons_zero, List.set_cons_succ, i64_w, i32_w]
          rfl
        refine pure_ (i := 1) (N := some 27) (v := ?_) (a' := ?_) #[true, true, false, false, false, false, false, false, false, false] rfl rfl (by kernel_rfl) (fun _ _ _ h => h) (Or.inl ⟨by rfl, ?_⟩) ?_ ?_
        rotate_left
        · intro w'
          go_simp
          with_reducible rfl
        rotate_left
        · simp only [Act.put, List.setIfInBounds_toArray, List.set_cons_zero, List.set_cons_succ, i64_w, i32_w]
          rfl
        refine pure_ (i := 4) (N := some 30) (v := ?_) (a' := ?_) #[true, true, false, false, true, false, false, false, false, false] rfl rfl (by kernel_rfl) (fun _ _ _ h => h) (Or.inl ⟨by rfl, ?_⟩) ?_ ?_
        rotate_left
        · intro w'
          go_simp
          with_reducible rfl
        rotate_left
        · simp only [Act.put, List.setIfInBounds_toArray, List.set_cons_zero, List.set_cons_succ, i64_w, i32_w]
          rfl
        refine take_ (i := 2) (N := some 28) (v := ?_) (a' := ?_) #[true, true, true, false, true, false, false, false, false, false] rfl rfl (by kernel_rfl) (fun _ _ _ h => h) (Or.inl ⟨by rfl, ?_⟩) hHeld ?_ ?_
        rotate_left
        · rintro w' ⟨s8, s9, s10, s11⟩
          go_simp
          with_reducible rfl
        rotate_left
        · simp only [Act.put, List.setIfInBounds_toArray, List.set_cons_zero, List.set_cons_succ, i64_w, i32_w]
          rfl
        refine take_ (i := 5) (N := some 31) (v := ?_) (a' := ?_) #[true, true, true, false, true, true, false, false, false, false] rfl rfl (by kernel_rfl) (fun _ _ _ h => h) (Or.inl ⟨by rfl, ?_⟩) hHeld ?_ ?_
        rotate_left
        · rintro w' ⟨s8, s9, s10, s11⟩
          go_simp
          with_reducible rfl
        rotate_left
        · simp only [Act.put, List.setIfInBounds_toArray, List.set_cons_zero, List.set_cons_succ, i64_w, i32_w]
          rfl
        refine one_ (i := 3) (N := some 29) #[true, true, true, true, true, true, false, false, false, false] rfl rfl (by kernel_rfl) (by decide) (fun K hK => ?_)
        refine goes_ Try.func99 (by kernel_rfl) rfl #[.agg #[.bool x.f6.f0, .string x.f6.f1]] (by rfl) rfl rfl (by (try simp only [List.map_toArray, List.map_cons, List.map_nil]); first | done | rfl) ?_
        with_reducible refine (entry_slot.calls x.f6.f0 x.f6.f1 _ _ H29.out).mono ?_
        rintro e w7 ⟨rfl, hb⟩
        refine ⟨_, rfl, ?_⟩
        have n0_ := Aside0.mk (blk_below HBK.out hb)
        have n1_ := Aside0.mk (below_step HB.out hb)
        clear HBK HB hb
        have HBK := n0_
        have HB := n1_
        clear n0_ n1_
        refine hK.out _ _ ⟨(blk_cell HBK.out 8).trans rfl, (blk_cell HBK.out 9).trans rfl, (blk_cell HBK.out 10).trans rfl, (blk_cell HBK.out 11).trans rfl⟩ (fun hHeld => ?_)
        clear hK K
        refine norm_ (a' := ?_) ?_ ?_
        rotate_left
        · show Act.put _ (some 29) _ = _
          simp only [Act.put, List.setIfInBounds_toArray, List.set_cons_zero, List.set_cons_succ, i64_w, i32_w]
          rfl
        refine one_ (i := 6) (N := some 32) #[true, true, true, true, true, true, true, false, false, false] rfl rfl (by kernel_rfl) (by decide) (fun K hK => ?_)
        refine goes_ Try.func99 (by kernel_rfl) rfl #[.agg #[.bool x.f7.f0, .string x.f7.f1]] (by rfl) rfl rfl (by (try simp only [List.map_toArray, List.map_cons, List.map_nil]); first | done | rfl) ?_
        with_reducible refine (entry_slot.calls x.f7.f0 x.f7.f1 _ _ H32.out).mono ?_
        rintro e w7 ⟨rfl, hb⟩
        refine ⟨_, rfl, ?_⟩
        have n0_ := Aside0.mk (blk_below HBK.out hb)
        have n1_ := Aside0.mk (below_step HB.out hb)
        clear HBK HB hb
        have HBK := n0_
        have HB := n1_
        clear n0_ n1_
        refine hK.out _ _ ⟨(blk_cell HBK.out 8).trans rfl, (blk_cell HBK.out 9).trans rfl, (blk_cell HBK.out 10).trans rfl, (blk_cell HBK.out 11).trans rfl⟩ (fun hHeld => ?_)
        clear hK K
        refine norm_ (a' := ?_) ?_ ?_
        rotate_left
        · show Act.put _ (some 32) _ = _
          simp only [Act.put, List.setIfInBounds_toArray, List.set_cons_zero, List.set_cons_succ, i64_w, i32_w]
          rfl
        refine pure_ (i := 7) (N := some 33) (v := ?_) (a' := ?_) #[true, true, true, true, true, true, true, true, false, false] rfl rfl (by kernel_rfl) (fun _ _ _ h => h) (Or.inl ⟨by rfl, ?_⟩) ?_ ?_
        rotate_left
        · intro w'
          go_simp
          with_reducible rfl
        rotate_left
        · simp only [Act.put, List.setIfInBounds_toArray, List.set_cons_zero, List.set_cons_succ, i64_w, i32_w]
          rfl
        refine pure_ (i := 8) (N := some 34) (v := ?_) (a' := ?_) #[true, true, true, true, true, true, true, true, true, false] rfl rfl (by kernel_rfl) (fun _ _ _ h => h) (Or.inl ⟨by rfl, ?_⟩) ?_ ?_
        rotate_left
        · intro w'
          go_simp
          with_reducible rfl
        rotate_left
        · simp only [Act.put, List.setIfInBounds_toArray, List.set_cons_zero, List.set_cons_succ, i64_w, i32_w]
          rfl
        refine pure_ (i := 9) (N := some 4) (v := ?_) (a' := ?_) #[true, true, true, true, true, true, true, true, true, true] rfl rfl (by kernel_rfl) (fun _ _ _ h => h) (Or.inl ⟨by rfl, ?_⟩) ?_ ?_
        rotate_left
        · intro w'
          go_simp
          with_reducible rfl
        rotate_left
        · simp only [Act.put, List.setIfInBounds_toArray, List.set_cons_zero, List.set_cons_succ, i64_w, i32_w]
          rfl
        refine done_ (by kernel_rfl) ?_
        try go_wp2
        go_ret2
        exact ⟨by rw [← HX.out, ← HE.out]; rfl, HB.out⟩
      · have HX : Aside0 ((numsE x).flatMap intB = encE x) := ⟨by unfold encE tailE; rw [if_neg (fun h => hk (HK3.out.mpr h)), List.append_nil]⟩
        go_wp2
        go_ret2
        exact ⟨by rw [← HX.out]; rfl, HB.out⟩
def entEnc.f (k c e n lsn prev p s : Int) (u : Bool) (d : ByteArray) (u2 : Bool) (d2 : ByteArray) (next : Int) : Option (ByteArray × Int) := some (encX (mkE k c e n lsn prev p s u d u2 d2 next))
theorem entEnc.calls (k c e n lsn prev p s : Int) (u : Bool) (d : ByteArray) (u2 : Bool) (d2 : ByteArray) (next : Int) (r1 : ByteArray) (r2 : Int) (w : World) (h : entEnc.f k c e n lsn prev p s u d u2 d2 next = some (r1, r2)) :
    Calls Try.prog 53 #[.agg #[.int .i64 k, .int .i64 c, .int .i64 e, .int .i64 n, .int .i64 lsn, .int .i64 prev, .int .i64 p, .int .i64 s, .bool u, .string d, .bool u2, .string d2, .int .i64 next]] w fun e w' => e = .returned (.tuple #[.string r1, .int .i64 r2]) ∧ Below w.heap.size w w' := by
  unfold entEnc.f encX at h
  by_cases hg : GoodE (mkE k c e n lsn prev p s u d u2 d2 next)
  · rw [if_pos hg] at h
    cases h
    exact entry_Encode.good (mkE k c e n lsn prev p s u d u2 d2 next) hg w
  · rw [if_neg hg] at h
    cases h
    exact entry_Encode.bad (mkE k c e n lsn prev p s u d u2 d2 next) hg w
end Go.Proofs.Ytfjmnaobfbmllaa.M
namespace Go.Proofs.Ytfjmnaobfbmllaa.M
open Go.RowKit Go.Proofs.YtfjmnaobfbmllaaW.PrintWords Go.Proofs.YtfjmnaobfbmllaaW.PrintLast Go.Proofs.YtfjmnaobfbmllaaW.PrintMore
attribute [local go_sem] max2_int min2_int max_two min_two max_three min_three max_four min_four   -- for this text's walks alone
set_option linter.unusedVariables false
set_option linter.unusedSimpArgs false
def entry_Cost.f (a0_0 : Int) (a0_1 : Int) (a0_2 : Int) (a0_3 : Int) (a0_4 : Int) (a0_5 : Int) (a0_6 : Int) (a0_7 : Int) (a0_8 : Bool) (a0_9 : ByteArray) (a0_10 : Bool) (a0_11 : ByteArray) (a0_12 : Int) : Option (Int) := (entEnc.f a0_0 a0_1 a0_2 a0_3 a0_4 a0_5 a0_6 a0_7 a0_8 a0_9 a0_10 a0_11 a0_12).bind fun bt102 => (if bt102.2 = 0 then (some (wrap64 (1 + (wrap64 (Int.tdiv (wrap64 ((wrap64 ((bt102.1.size : Int) + 232)) - 1)) 232))))) else (some 0))
set_option maxHeartbeats 8000000 in
set_option maxRecDepth 100000 in
theorem entry_Cost.calls (a0_0 : Int) (a0_1 : Int) (a0_2 : Int) (a0_3 : Int) (a0_4 : Int) (a0_5 : Int) (a0_6 : Int) (a0_7 : Int) (a0_8 : Bool) (a0_9 : ByteArray) (a0_10 : Bool) (a0_11 : ByteArray) (a0_12 : Int) (r : Int) (w : World) (h : entry_Cost.f a0_0 a0_1 a0_2 a0_3 a0_4 a0_5 a0_6 a0_7 a0_8 a0_9 a0_10 a0_11 a0_12 = some r) :
    Calls Try.prog 57 #[.agg #[.int .i64 a0_0, .int .i64 a0_1, .int .i64 a0_2, .int .i64 a0_3, .int .i64 a0_4, .int .i64 a0_5, .int .i64 a0_6, .int .i64 a0_7, .bool a0_8, .string a0_9, .bool a0_10, .string a0_11, .int .i64 a0_12]] w fun e w' => e = .returned (.int .i64 r) ∧ Below w.heap.size w w' := by
  have hu65 := Try.underlying65
  have HB := Aside0.mk (Below.refl w.heap.size w)
  have H : ((entEnc.f a0_0 a0_1 a0_2 a0_3 a0_4 a0_5 a0_6 a0_7 a0_8 a0_9 a0_10 a0_11 a0_12).bind fun bt102 => (if bt102.2 = 0 then (some (wrap64 (1 + (wrap64 (Int.tdiv (wrap64 ((wrap64 ((bt102.1.size : Int) + 232)) - 1)) 232))))) else (some 0))) = some r := h
  clear h
  replace H := Option.bind_eq_some_iff.mp H
  obtain ⟨⟨t102, t103⟩, A20, H⟩ := H
  replace H : (if t103 = 0 then (some (wrap64 (1 + (wrap64 (Int.tdiv (wrap64 ((wrap64 ((t102.size : Int) + 232)) - 1)) 232))))) else (some 0)) = some r := H
  have A2 := Aside0.mk A20
  clear A20
  by_cases c3 : t103 = 0
  · rw [if_pos c3] at H
    have c3b0 : (t103 == 0) = true := beq_iff_eq.mpr c3
    have c3b1 : (t103 != 0) = false := bne_eq_false_iff_eq.mpr c3
    clear c3
    obtain rfl := Option.some.inj H
    go_enter Try.func57, Try.ntmps57
    go_wp2_with (first | ((with_reducible refine gate_dst (N := 1) rfl ?_); refine box_event ?hg (N := 1) ?hd (cs := #[.int .i64 a0_0, .int .i64 a0_1, .int .i64 a0_2, .int .i64 a0_3, .int .i64 a0_4, .int .i64 a0_5, .int .i64 a0_6, .int .i64 a0_7, .bool a0_8, .string a0_9, .bool a0_10, .string a0_11, .int .i64 a0_12]) (t := 65) ?hr ?_; (case hd => rfl); (case hg => rfl); (case hr => first | (go_simp; done) | (go_simp; rfl)); intro gb101 hg w4 hbox hb; have n0_ := Aside0.mk (below_step (by repeat (first | (with_reducible first | exact HB.out | apply below_alloc | apply pw_below_drewN | apply below_drew1) | exact HB.out)) hb); have n1_ := Aside0.mk (hbox); have n2_ := Aside0.mk ((by rw [hg]; exact (below_size (by repeat (first | (with_reducible first | exact HB.out | apply below_alloc | apply pw_below_drewN | apply below_drew1) | exact HB.out))) : w.heap.size ≤ gb101)); have n3_ := Aside0.mk ((by rw [hg]; exact (below_size (by repeat (first | (with_reducible first | exact HB.out | apply below_alloc | apply pw_below_drewN | apply below_drew1) | exact HB.out))) : w.heap.size ≤ gb101)); clear HB; have HB := n0_; have BK101 := n1_; have GW101 := n2_; have GE101 := n3_; clear n0_ n1_ n2_ n3_; clear hb hbox hg; have hcz5_0 : w4.cell? ⟨gb101, 0, none⟩ = some (.int .i64 a0_0) := (blk_cell BK101.out 0).trans rfl; have hcz5_1 : w4.cell? ⟨gb101, 1, none⟩ = some (.int .i64 a0_1) := (blk_cell BK101.out 1).trans rfl; have hcz5_2 : w4.cell? ⟨gb101, 2, none⟩ = some (.int .i64 a0_2) := (blk_cell BK101.out 2).trans rfl; have hcz5_3 : w4.cell? ⟨gb101, 3, none⟩ = some (.int .i64 a0_3) := (blk_cell BK101.out 3).trans rfl; have hcz5_4 : w4.cell? ⟨gb101, 4, none⟩ = some (.int .i64 a0_4) := (blk_cell BK101.out 4).trans rfl; have hcz5_5 : w4.cell? ⟨gb101, 5, none⟩ = some (.int .i64 a0_5) := (blk_cell BK101.out 5).trans rfl; have hcz5_6 : w4.cell? ⟨gb101, 6, none⟩ = some (.int .i64 a0_6) := (blk_cell BK101.out 6).trans rfl; have hcz5_7 : w4.cell? ⟨gb101, 7, none⟩ = some (.int .i64 a0_7) := (blk_cell BK101.out 7).trans rfl; have hcz5_8 : w4.cell? ⟨gb101, 8, none⟩ = some (.bool a0_8) := (blk_cell BK101.out 8).trans rfl; have hcz5_9 : w4.cell? ⟨gb101, 9, none⟩ = some (.string a0_9) := (blk_cell BK101.out 9).trans rfl; have hcz5_10 : w4.cell? ⟨gb101, 10, none⟩ = some (.bool a0_10) := (blk_cell BK101.out 10).trans rfl; have hcz5_11 : w4.cell? ⟨gb101, 11, none⟩ = some (.string a0_11) := (blk_cell BK101.out 11).trans rfl; have hcz5_12 : w4.cell? ⟨gb101, 12, none⟩ = some (.int .i64 a0_12) := (blk_cell BK101.out 12).trans rfl; have hfz5_0 := blk_frozen BK101.out 0; have hfz5_1 := blk_frozen BK101.out 1; have hfz5_2 := blk_frozen BK101.out 2; have hfz5_3 := blk_frozen BK101.out 3; have hfz5_4 := blk_frozen BK101.out 4; have hfz5_5 := blk_frozen BK101.out 5; have hfz5_6 := blk_frozen BK101.out 6; have hfz5_7 := blk_frozen BK101.out 7; have hfz5_8 := blk_frozen BK101.out 8; have hfz5_9 := blk_frozen BK101.out 9; have hfz5_10 := blk_frozen BK101.out 10; have hfz5_11 := blk_frozen BK101.out 11; have hfz5_12 := blk_frozen BK101.out 12) | ((with_reducible refine gate_callee (f := 53) rfl ?_); refine goesL_ (some 7) rfl rfl Try.func53 (by kernel_rfl) rfl #[.agg #[.int .i64 a0_0, .int .i64 a0_1, .int .i64 a0_2, .int .i64 a0_3, .int .i64 a0_4, .int .i64 a0_5, .int .i64 a0_6, .int .i64 a0_7, .bool a0_8, .string a0_9, .bool a0_10, .string a0_11, .int .i64 a0_12]] rfl (by (try simp only [List.map_toArray, List.map_cons, List.map_nil]); first | done | rfl | (simp only [List.length_drop, List.length_take]; rfl)) ?_; (with_reducible refine (entEnc.calls a0_0 a0_1 a0_2 a0_3 a0_4 a0_5 a0_6 a0_7 a0_8 a0_9 a0_10 a0_11 a0_12 t102 t103 _ A2.out).mono ?_); rintro e w6 ⟨rfl, hb⟩; refine ⟨_, rfl, ?_⟩; have n0_ := Aside0.mk (blk_below (g := gb101) (o := .cells #[.int .i64 a0_0, .int .i64 a0_1, .int .i64 a0_2, .int .i64 a0_3, .int .i64 a0_4, .int .i64 a0_5, .int .i64 a0_6, .int .i64 a0_7, .bool a0_8, .string a0_9, .bool a0_10, .string a0_11, .int .i64 a0_12] 65 (0, 0)) (by (with_reducible repeat (first | refine blk_drewN ?_ _ | refine blk_drew ?_ | refine blk_alloc ?_ _)); exact BK101.out) hb); have n1_ := Aside0.mk (below_step (by repeat (first | (with_reducible first | exact HB.out | apply below_alloc | apply pw_below_drewN | apply below_drew1 | refine below_set ?_ GE101.out) | exact HB.out)) hb); clear BK101; clear HB; have BK101 := n0_; have HB := n1_; clear n0_ n1_; (try clear hb); (try clear hb2); (try clear hk); (try clear hi)))
    go_ret
    exact ⟨by first | rfl | (simp [errW_none, errW_some] <;> rfl) | (simp [*, errW_none, errW_some] <;> rfl), by repeat (first | (with_reducible first | exact HB.out | apply below_alloc | apply pw_below_drewN | apply below_drew1 | refine below_set ?_ GE101.out) | exact HB.out)⟩
  · rw [if_neg c3] at H
    have c3b0 : (t103 == 0) = false := beq_eq_false_iff_ne.mpr c3
    have c3b1 : (t103 != 0) = true := bne_iff_ne.mpr c3
    obtain rfl := Option.some.inj H
    go_enter Try.func57, Try.ntmps57
    go_wp2_with (first | ((with_reducible refine gate_dst (N := 1) rfl ?_); refine box_event ?hg (N := 1) ?hd (cs := #[.int .i64 a0_0, .int .i64 a0_1, .int .i64 a0_2, .int .i64 a0_3, .int .i64 a0_4, .int .i64 a0_5, .int .i64 a0_6, .int .i64 a0_7, .bool a0_8, .string a0_9, .bool a0_10, .string a0_11, .int .i64 a0_12]) (t := 65) ?hr ?_; (case hd => rfl); (case hg => rfl); (case hr => first | (go_simp; done) | (go_simp; rfl)); intro gb101 hg w7 hbox hb; have n0_ := Aside0.mk (below_step (by repeat (first | (with_reducible first | exact HB.out | apply below_alloc | apply pw_below_drewN | apply below_drew1) | exact HB.out)) hb); have n1_ := Aside0.mk (hbox); have n2_ := Aside0.mk ((by rw [hg]; exact (below_size (by repeat (first | (with_reducible first | exact HB.out | apply below_alloc | apply pw_below_drewN | apply below_drew1) | exact HB.out))) : w.heap.size ≤ gb101)); have n3_ := Aside0.mk ((by rw [hg]; exact (below_size (by repeat (first | (with_reducible first | exact HB.out | apply below_alloc | apply pw_below_drewN | apply below_drew1) | exact HB.out))) : w.heap.size ≤ gb101)); clear HB; have HB := n0_; have BK101 := n1_; have GW101 := n2_; have GE101 := n3_; clear n0_ n1_ n2_ n3_; clear hb hbox hg; have hcz8_0 : w7.cell? ⟨gb101, 0, none⟩ = some (.int .i64 a0_0) := (blk_cell BK101.out 0).trans rfl; have hcz8_1 : w7.cell? ⟨gb101, 1, none⟩ = some (.int .i64 a0_1) := (blk_cell BK101.out 1).trans rfl; have hcz8_2 : w7.cell? ⟨gb101, 2, none⟩ = some (.int .i64 a0_2) := (blk_cell BK101.out 2).trans rfl; have hcz8_3 : w7.cell? ⟨gb101, 3, none⟩ = some (.int .i64 a0_3) := (blk_cell BK101.out 3).trans rfl; have hcz8_4 : w7.cell? ⟨gb101, 4, none⟩ = some (.int .i64 a0_4) := (blk_cell BK101.out 4).trans rfl; have hcz8_5 : w7.cell? ⟨gb101, 5, none⟩ = some (.int .i64 a0_5) := (blk_cell BK101.out 5).trans rfl; have hcz8_6 : w7.cell? ⟨gb101, 6, none⟩ = some (.int .i64 a0_6) := (blk_cell BK101.out 6).trans rfl; have hcz8_7 : w7.cell? ⟨gb101, 7, none⟩ = some (.int .i64 a0_7) := (blk_cell BK101.out 7).trans rfl; have hcz8_8 : w7.cell? ⟨gb101, 8, none⟩ = some (.bool a0_8) := (blk_cell BK101.out 8).trans rfl; have hcz8_9 : w7.cell? ⟨gb101, 9, none⟩ = some (.string a0_9) := (blk_cell BK101.out 9).trans rfl; have hcz8_10 : w7.cell? ⟨gb101, 10, none⟩ = some (.bool a0_10) := (blk_cell BK101.out 10).trans rfl; have hcz8_11 : w7.cell? ⟨gb101, 11, none⟩ = some (.string a0_11) := (blk_cell BK101.out 11).trans rfl; have hcz8_12 : w7.cell? ⟨gb101, 12, none⟩ = some (.int .i64 a0_12) := (blk_cell BK101.out 12).trans rfl; have hfz8_0 := blk_frozen BK101.out 0; have hfz8_1 := blk_frozen BK101.out 1; have hfz8_2 := blk_frozen BK101.out 2; have hfz8_3 := blk_frozen BK101.out 3; have hfz8_4 := blk_frozen BK101.out 4; have hfz8_5 := blk_frozen BK101.out 5; have hfz8_6 := blk_frozen BK101.out 6; have hfz8_7 := blk_frozen BK101.out 7; have hfz8_8 := blk_frozen BK101.out 8; have hfz8_9 := blk_frozen BK101.out 9; have hfz8_10 := blk_frozen BK101.out 10; have hfz8_11 := blk_frozen BK101.out 11; have hfz8_12 := blk_frozen BK101.out 12) | ((with_reducible refine gate_callee (f := 53) rfl ?_); refine goesL_ (some 7) rfl rfl Try.func53 (by kernel_rfl) rfl #[.agg #[.int .i64 a0_0, .int .i64 a0_1, .int .i64 a0_2, .int .i64 a0_3, .int .i64 a0_4, .int .i64 a0_5, .int .i64 a0_6, .int .i64 a0_7, .bool a0_8, .string a0_9, .bool a0_10, .string a0_11, .int .i64 a0_12]] rfl (by (try simp only [List.map_toArray, List.map_cons, List.map_nil]); first | done | rfl | (simp only [List.length_drop, List.length_take]; rfl)) ?_; (with_reducible refine (entEnc.calls a0_0 a0_1 a0_2 a0_3 a0_4 a0_5 a0_6 a0_7 a0_8 a0_9 a0_10 a0_11 a0_12 t102 t103 _ A2.out).mono ?_); rintro e w9 ⟨rfl, hb⟩; refine ⟨_, rfl, ?_⟩; have n0_ := Aside0.mk (blk_below (g := gb101) (o := .cells #[.int .i64 a0_0, .int .i64 a0_1, .int .i64 a0_2, .int .i64 a0_3, .int .i64 a0_4, .int .i64 a0_5, .int .i64 a0_6, .int .i64 a0_7, .bool a0_8, .string a0_9, .bool a0_10, .string a0_11, .int .i64 a0_12] 65 (0, 0)) (by (with_reducible repeat (first | refine blk_drewN ?_ _ | refine blk_drew ?_ | refine blk_alloc ?_ _)); exact BK101.out) hb); have n1_ := Aside0.mk (below_step (by repeat (first | (with_reducible first | exact HB.out | apply below_alloc | apply pw_below_drewN | apply below_drew1 | refine below_set ?_ GE101.out) | exact HB.out)) hb); clear BK101; clear HB; have BK101 := n0_; have HB := n1_; clear n0_ n1_; (try clear hb); (try clear hb2); (try clear hk); (try clear hi)))
    go_ret
    exact ⟨by first | rfl | (simp [errW_none, errW_some] <;> rfl) | (simp [*, errW_none, errW_some] <;> rfl), by repeat (first | (with_reducible first | exact HB.out | apply below_alloc | apply pw_below_drewN | apply below_drew1 | refine below_set ?_ GE101.out) | exact HB.out)⟩
end Go.Proofs.Ytfjmnaobfbmllaa.M
namespace Go.Proofs.Ytfjmnaobfbmllaa.M
open Go.RowKit Go.Proofs.YtfjmnaobfbmllaaW.PrintWords Go.Proofs.YtfjmnaobfbmllaaW.PrintLast Go.Proofs.YtfjmnaobfbmllaaW.PrintMore
set_option linter.unusedVariables false
set_option linter.unusedSimpArgs false
def costE (x : S65) : Int := if GoodE x then 1 + (((encE x).length + 231) / 232 : Nat) else 0
theorem cost_pure (x : S65) : entry_Cost.f x.f0 x.f1.f0 x.f1.f1 x.f1.f2 x.f2 x.f3 x.f4 x.f5 x.f6.f0 x.f6.f1 x.f7.f0 x.f7.f1 x.f8 = some (costE x) := by
  unfold entry_Cost.f entEnc.f
  have ex : mkE x.f0 x.f1.f0 x.f1.f1 x.f1.f2 x.f2 x.f3 x.f4 x.f5 x.f6.f0 x.f6.f1 x.f7.f0 x.f7.f1 x.f8 = x := rfl
  rw [ex, Option.bind_some]
  unfold encX costE
  by_cases hg : GoodE x
  · have hl := encE_len hg
    rw [if_pos hg, if_pos hg]
    simp only
    rw [if_pos trivial, strOfNums_size, w64 (((encE x).length : Int) + 232) (by omega) (by omega), w64 (((encE x).length : Int) + 232 - 1) (by omega) (by omega), show ((encE x).length : Int) + 232 - 1 = (((encE x).length + 231 : Nat) : Int) by omega]
    have e : Int.tdiv (((encE x).length + 231 : Nat) : Int) 232 = ((((encE x).length + 231) / 232 : Nat) : Int) := by rw [Int.tdiv_eq_ediv_of_nonneg (by omega)]; rfl
    rw [e, w64 ((((encE x).length + 231) / 232 : Nat) : Int) (by omega) (by omega), w64 (1 + ((((encE x).length + 231) / 232 : Nat) : Int)) (by omega) (by omega)]
  · rw [if_neg hg, if_neg hg]
    rfl
def entCost.f (k c e n lsn prev p s : Int) (u : Bool) (d : ByteArray) (u2 : Bool) (d2 : ByteArray) (next : Int) : Option Int := some (costE (mkE k c e n lsn prev p s u d u2 d2 next))
theorem entCost.calls (k c e n lsn prev p s : Int) (u : Bool) (d : ByteArray) (u2 : Bool) (d2 : ByteArray) (next : Int) (r : Int) (w : World) (h : entCost.f k c e n lsn prev p s u d u2 d2 next = some r) :
    Calls Try.prog 57 #[.agg #[.int .i64 k, .int .i64 c, .int .i64 e, .int .i64 n, .int .i64 lsn, .int .i64 prev, .int .i64 p, .int .i64 s, .bool u, .string d, .bool u2, .string d2, .int .i64 next]] w fun e w' => e = .returned (.int .i64 r) ∧ Below w.heap.size w w' :=
  entry_Cost.calls k c e n lsn prev p s u d u2 d2 next r w (by rw [← h]; exact cost_pure (mkE k c e n lsn prev p s u d u2 d2 next))
end Go.Proofs.Ytfjmnaobfbmllaa.M
namespace Go.Proofs.Ytfjmnaobfbmllaa.M
open Go.RowKit Go.Proofs.YtfjmnaobfbmllaaW.PrintWords Go.Proofs.YtfjmnaobfbmllaaW.PrintLast Go.Proofs.YtfjmnaobfbmllaaW.PrintMore
set_option linter.unusedVariables false
set_option linter.unusedSimpArgs false
theorem varF_more (k : Nat) : ∀ v, v < 128 * 128 ^ k → varF (k + 1) v = varF k v := by
  induction k with
  | zero => intro v h; unfold varF; rw [if_pos (by simpa using h)]
  | succ k ih =>
    intro v h
    have h2 : v / 128 < 128 * 128 ^ k := by rw [Nat.pow_succ] at h; omega
    have := ih (v / 128) h2
    rw [show varF (k + 1 + 1) v = (if v < 128 then [(v : Int)] else ((v % 128 + 128 : Nat) : Int) :: varF (k + 1) (v / 128)) from rfl, this]
    rfl
theorem varF9 (v : Nat) (h : v < 2 ^ 64) : varF 10 v = varF 9 v := by
  refine varF_more 9 v ?_
  have e1 : (2 : Nat) ^ 64 = 18446744073709551616 := by decide
  have e2 : (128 : Nat) ^ 9 = 9223372036854775808 := by decide
  rw [e1] at h
  rw [e2]
  omega
def takeI (bs : List Int) : Option (Int × List Int) := (takeV 0 0 bs).map fun r => (unfoldI r.1, r.2)
theorem takeI_int (n : Int) (h : small n) (rest : List Int) : takeI (intB n ++ rest) = some (n, rest) := by
  obtain ⟨m, rfl⟩ := Int.eq_ofNat_of_zero_le h.1
  have h2 := h.2
  have e1 : (2 : Nat) ^ 64 = 18446744073709551616 := by decide
  have hv : 2 * m < 2 ^ 64 := by rw [e1]; omega
  unfold takeI intB
  rw [foldI_nat, varF9 _ hv, take_var 9 0 0 (2 * m) rest rfl (by rw [Nat.mul_zero, Nat.pow_zero, Nat.mul_one]; exact hv) (fun h => absurd h (Nat.lt_irrefl 0))]
  rw [Nat.mul_zero, Nat.pow_zero, Nat.mul_one, Nat.zero_add]
  have := unfold_fold (m : Int)
  rw [foldI_nat] at this
  simp [this]
theorem takeI_sound (bs : List Int) (hr : ∀ b ∈ bs, 0 ≤ b ∧ b ≤ 255) (n : Int) (rest : List Int) (h : takeI bs = some (n, rest)) : bs = intB n ++ rest := by
  unfold takeI at h
  rw [Option.map_eq_some_iff] at h
  obtain ⟨⟨w, r⟩, h1, h2⟩ := h
  simp only [Prod.mk.injEq] at h2
  obtain ⟨rfl, rfl⟩ := h2
  obtain ⟨v, e1, e2, _, _, e3⟩ := take_sound bs hr 0 0 w r h1
  rw [Nat.mul_zero, Nat.pow_zero, Nat.mul_one] at e2 e3
  rw [Nat.zero_add] at e2
  subst e2
  unfold intB
  rw [fold_unfold, varF9 _ e3]
  exact e1
def takeT (bs : List Int) : Option (ByteArray × List Int) := (takeI bs).bind fun r => if 0 ≤ r.1 ∧ r.1 ≤ 200 ∧ r.1 ≤ r.2.length then some (strOfNums (r.2.take r.1.toNat), r.2.drop r.1.toNat) else none
def takeS (bs : List Int) : Option (S33 × List Int) := (takeI bs).bind fun r => if r.1 = 0 then some (z33, r.2) else if r.1 = 1 then (takeT r.2).map (fun q => (⟨true, q.1⟩, q.2)) else none
theorem takeT_str (s : ByteArray) (h : s.size ≤ 200) (rest : List Int) : takeT (strB s ++ rest) = some (s, rest) := by
  unfold takeT strB
  have hl := bytesOf_length s
  rw [List.append_assoc, takeI_int _ ⟨by omega, by omega⟩, Option.bind_some]
  simp only
  rw [if_pos ⟨by omega, by omega, by rw [List.length_append]; omega⟩, Int.toNat_natCast, List.take_left' hl, List.drop_left' hl, str_bytes]
theorem takeS_slot (x : S33) (h : fineS x) (rest : List Int) : takeS (slotE x ++ rest) = some (x, rest) := by
  unfold takeS slotE
  cases hu : x.f0 with
  | true =>
    rw [if_pos rfl, List.append_assoc, takeI_int 1 ⟨by decide, by decide⟩, Option.bind_some]
    simp only
    rw [if_neg (by decide), if_pos trivial, takeT_str _ h.2, Option.map_some]
    simp only
    rw [← hu]
  | false =>
    rw [if_neg Bool.false_ne_true, takeI_int 0 ⟨by decide, by decide⟩, Option.bind_some]
    simp only
    rw [if_pos trivial, h.1 hu]
theorem rest_range {xs rest bs : List Int} (h : bs = xs ++ rest) (hr : ∀ b ∈ bs, 0 ≤ b ∧ b ≤ 255) : ∀ b ∈ rest, 0 ≤ b ∧ b ≤ 255 := fun b hb => hr b (by rw [h]; simp [hb])
theorem takeT_sound (bs : List Int) (hr : ∀ b ∈ bs, 0 ≤ b ∧ b ≤ 255) (s : ByteArray) (rest : List Int) (h : takeT bs = some (s, rest)) : bs = strB s ++ rest ∧ s.size ≤ 200 := by
  unfold takeT at h
  rw [Option.bind_eq_some_iff] at h
  obtain ⟨⟨n, r⟩, h1, h2⟩ := h
  have e := takeI_sound bs hr n r h1
  have hr2 := rest_range e hr
  simp only at h2
  split at h2
  · rename_i hc
    simp only [Option.some.injEq, Prod.mk.injEq] at h2
    obtain ⟨rfl, rfl⟩ := h2
    have hl : (strOfNums (r.take n.toNat)).size = n.toNat := by rw [strOfNums_size, List.length_take]; omega
    refine ⟨?_, by rw [hl]; omega⟩
    unfold strB
    rw [hl, bytesOf_strOfNums _ (fun b hb => hr2 b (List.mem_of_mem_take hb)), List.append_assoc, List.take_append_drop, show ((n.toNat : Nat) : Int) = n by omega]
    exact e
  · cases h2
theorem takeS_sound (bs : List Int) (hr : ∀ b ∈ bs, 0 ≤ b ∧ b ≤ 255) (x : S33) (rest : List Int) (h : takeS bs = some (x, rest)) : bs = slotE x ++ rest := by
  unfold takeS at h
  rw [Option.bind_eq_some_iff] at h
  obtain ⟨⟨n, r⟩, h1, h2⟩ := h
  have e := takeI_sound bs hr n r h1
  simp only at h2
  split at h2
  · rename_i hc
    simp only [Option.some.injEq, Prod.mk.injEq] at h2
    obtain ⟨rfl, rfl⟩ := h2
    rw [e, hc]; rfl
  · split at h2
    · rename_i _ hc
      rw [Option.map_eq_some_iff] at h2
      obtain ⟨⟨s, q⟩, h3, h4⟩ := h2
      simp only [Prod.mk.injEq] at h4
      obtain ⟨rfl, rfl⟩ := h4
      have e2 := (takeT_sound r (rest_range e hr) s q h3).1
      rw [e, hc, e2]
      show _ = (intB 1 ++ strB s) ++ q
      rw [List.append_assoc]
    · cases h2
def takeNs : Nat → List Int → Option (List Int × List Int)
  | 0, bs => some ([], bs)
  | k + 1, bs => (takeI bs).bind fun r => (takeNs k r.2).map fun q => (r.1 :: q.1, q.2)
theorem takeNs_flat (l : List Int) (h : ∀ n ∈ l, small n) (rest : List Int) : takeNs l.length (l.flatMap intB ++ rest) = some (l, rest) := by
  induction l with
  | nil => rfl
  | cons n l ih =>
    rw [List.flatMap_cons, List.append_assoc, List.length_cons]
    unfold takeNs
    rw [takeI_int n (h n (by simp)), Option.bind_some]
    simp only
    rw [ih (fun m hm => h m (by simp [hm])), Option.map_some]
theorem takeNs_sound (k : Nat) : ∀ (bs : List Int), (∀ b ∈ bs, 0 ≤ b ∧ b ≤ 255) → ∀ l rest, takeNs k bs = some (l, rest) → l.length = k ∧ bs = l.flatMap intB ++ rest := by
  induction k with
  | zero =>
    intro bs _ l rest h
    simp only [takeNs, Option.some.injEq, Prod.mk.injEq] at h
    obtain ⟨rfl, rfl⟩ := h
    exact ⟨rfl, rfl⟩
  | succ k ih =>
    intro bs hr l rest h
    unfold takeNs at h
    rw [Option.bind_eq_some_iff] at h
    obtain ⟨⟨n, r⟩, h1, h2⟩ := h
    have e := takeI_sound bs hr n r h1
    rw [Option.map_eq_some_iff] at h2
    obtain ⟨⟨l2, q⟩, h3, h4⟩ := h2
    simp only [Prod.mk.injEq] at h4
    obtain ⟨rfl, rfl⟩ := h4
    obtain ⟨i1, i2⟩ := ih r (rest_range e hr) l2 q h3
    refine ⟨by simp [i1], ?_⟩
    rw [List.flatMap_cons, List.append_assoc, ← i2]
    exact e
def parseE (bs : List Int) : Option (S65 × List Int) := (takeNs 6 bs).bind fun r =>
  if rd r.1 0 = 1 ∨ rd r.1 0 = 2 then (takeNs 3 r.2).bind fun q => (takeS q.2).bind fun a => (takeS a.2).map fun b =>
    (⟨rd r.1 0, ⟨rd r.1 1, rd r.1 2, rd r.1 3⟩, rd r.1 4, rd r.1 5, rd q.1 0, rd q.1 1, a.1, b.1, rd q.1 2⟩, b.2)
  else some (⟨rd r.1 0, ⟨rd r.1 1, rd r.1 2, rd r.1 3⟩, rd r.1 4, rd r.1 5, 0, 0, z33, z33, 0⟩, r.2)
theorem parse_encE {x : S65} (hg : GoodE x) (rest : List Int) : parseE (encE x ++ rest) = some (x, rest) := by
  have hs := nums_small hg
  unfold parseE encE tailE
  unfold numsE at hs ⊢
  by_cases hk : x.f0 = 1 ∨ x.f0 = 2
  · rw [if_pos hk] at hs
    rw [if_pos hk, if_pos hk, List.flatMap_append, List.append_assoc, List.append_assoc, List.append_assoc]
    have h6 := takeNs_flat [x.f0, x.f1.f0, x.f1.f1, x.f1.f2, x.f2, x.f3] (fun n hn => hs n (by rw [List.mem_append]; exact .inl hn)) ([x.f4, x.f5, x.f8].flatMap intB ++ (slotE x.f6 ++ (slotE x.f7 ++ rest)))
    have h3 := takeNs_flat [x.f4, x.f5, x.f8] (fun n hn => hs n (by rw [List.mem_append]; exact .inr hn)) (slotE x.f6 ++ (slotE x.f7 ++ rest))
    have h6' : takeNs 6 ([x.f0, x.f1.f0, x.f1.f1, x.f1.f2, x.f2, x.f3].flatMap intB ++ ([x.f4, x.f5, x.f8].flatMap intB ++ (slotE x.f6 ++ (slotE x.f7 ++ rest)))) = _ := h6
    have h3' : takeNs 3 ([x.f4, x.f5, x.f8].flatMap intB ++ (slotE x.f6 ++ (slotE x.f7 ++ rest))) = _ := h3
    have hf : fineS x.f6 ∧ fineS x.f7 := by
      rcases hg.2.2.2 with h | h | h
      · exact ⟨(odd_fine _).mp h.2.1.2.2.1, (odd_fine _).mp h.2.1.2.2.2⟩
      · exact ⟨(odd_fine _).mp h.2.1.2.2.1, (odd_fine _).mp h.2.1.2.2.2⟩
      · omega
    rw [h6', Option.bind_some]
    have e0 : rd [x.f0, x.f1.f0, x.f1.f1, x.f1.f2, x.f2, x.f3] 0 = x.f0 := rfl
    simp only
    rw [e0, if_pos hk, h3', Option.bind_some]
    simp only
    rw [takeS_slot _ hf.1, Option.bind_some]
    simp only
    rw [takeS_slot _ hf.2]
    rfl
  · rw [if_neg hk, List.append_nil] at hs
    rw [if_neg hk, if_neg hk, List.append_nil, List.append_nil]
    have h6 := takeNs_flat [x.f0, x.f1.f0, x.f1.f1, x.f1.f2, x.f2, x.f3] hs rest
    have h6' : takeNs 6 ([x.f0, x.f1.f0, x.f1.f1, x.f1.f2, x.f2, x.f3].flatMap intB ++ rest) = _ := h6
    have e0 : rd [x.f0, x.f1.f0, x.f1.f1, x.f1.f2, x.f2, x.f3] 0 = x.f0 := rfl
    rw [h6', Option.bind_some]
    simp only
    rw [e0, if_neg hk]
    have hz : x.f4 = 0 ∧ x.f5 = 0 ∧ x.f8 = 0 ∧ x.f6 = z33 ∧ x.f7 = z33 := by
      rcases hg.2.2.2 with h | h | h
      · exact absurd (.inl h.1) hk
      · exact absurd (.inr h.1) hk
      · exact h.2
    have ex : x = ⟨x.f0, x.f1, x.f2, x.f3, x.f4, x.f5, x.f6, x.f7, x.f8⟩ := rfl
    rw [hz.1, hz.2.1, hz.2.2.1, hz.2.2.2.1, hz.2.2.2.2] at ex
    conv => rhs; rw [ex]
    rfl
end Go.Proofs.Ytfjmnaobfbmllaa.M
namespace Go.Proofs.Ytfjmnaobfbmllaa.M
open Go.RowKit Go.Proofs.YtfjmnaobfbmllaaW.PrintWords Go.Proofs.YtfjmnaobfbmllaaW.PrintLast Go.Proofs.YtfjmnaobfbmllaaW.PrintMore
set_option linter.unusedVariables false
set_option linter.unusedSimpArgs false
def zE : S65 := ⟨0, ⟨0, 0, 0⟩, 0, 0, 0, 0, z33, z33, 0⟩
def decE (s : ByteArray) : S65 × ByteArray × Int := match parseE (bytesOf s) with
  | some (x, rest) => if GoodE x then (x, strOfNums rest, 0) else (zE, ⟨#[]⟩, 4)
  | none => (zE, ⟨#[]⟩, 4)
theorem decE_enc {x : S65} (hg : GoodE x) (rest : ByteArray) : decE (strOfNums (encE x) ++ rest) = (x, rest, 0) := by
  unfold decE
  rw [bytes_append, bytesOf_strOfNums _ (encE_range hg), parse_encE hg]
  simp only
  rw [if_pos hg, str_bytes]
end Go.Proofs.Ytfjmnaobfbmllaa.M
namespace Go.Proofs.Ytfjmnaobfbmllaa.M
open Go.RowKit Go.Proofs.YtfjmnaobfbmllaaW.PrintWords Go.Proofs.YtfjmnaobfbmllaaW.PrintLast Go.Proofs.YtfjmnaobfbmllaaW.PrintMore
set_option linter.unusedVariables false
set_option linter.unusedSimpArgs false
def tI (r : ByteArray) (b : Bool) : Int × ByteArray × Bool := ((takeR r).1, (takeR r).2.1, b || !(takeR r).2.2)
def tS (r : ByteArray) (b : Bool) : S33 × ByteArray × Bool :=
  if (tI r b).1 = 0 then (z33, (tI r b).2.1, (tI r b).2.2)
  else if (tI r b).1 = 1 then (⟨true, (textR 200 (takeR (tI r b).2.1)).1⟩, (textR 200 (takeR (tI r b).2.1)).2.1, (tI r b).2.2 || !(textR 200 (takeR (tI r b).2.1)).2.2)
  else (z33, (tI r b).2.1, true)
def setF (x : S65) (i : Nat) (n : Int) : S65 := match i with
  | 0 => ⟨n, x.f1, x.f2, x.f3, x.f4, x.f5, x.f6, x.f7, x.f8⟩
  | 1 => ⟨x.f0, ⟨n, x.f1.f1, x.f1.f2⟩, x.f2, x.f3, x.f4, x.f5, x.f6, x.f7, x.f8⟩
  | 2 => ⟨x.f0, ⟨x.f1.f0, n, x.f1.f2⟩, x.f2, x.f3, x.f4, x.f5, x.f6, x.f7, x.f8⟩
  | 3 => ⟨x.f0, ⟨x.f1.f0, x.f1.f1, n⟩, x.f2, x.f3, x.f4, x.f5, x.f6, x.f7, x.f8⟩
  | 4 => ⟨x.f0, x.f1, n, x.f3, x.f4, x.f5, x.f6, x.f7, x.f8⟩
  | 5 => ⟨x.f0, x.f1, x.f2, n, x.f4, x.f5, x.f6, x.f7, x.f8⟩
  | 6 => ⟨x.f0, x.f1, x.f2, x.f3, n, x.f5, x.f6, x.f7, x.f8⟩
  | 7 => ⟨x.f0, x.f1, x.f2, x.f3, x.f4, n, x.f6, x.f7, x.f8⟩
  | _ => ⟨x.f0, x.f1, x.f2, x.f3, x.f4, x.f5, x.f6, x.f7, n⟩
def decRun : Nat → Nat → S65 → ByteArray → Bool → S65 × ByteArray × Bool
  | 0, _, x, r, b => (x, r, b)
  | d + 1, i, x, r, b => decRun d (i + 1) (setF x i (tI r b).1) (tI r b).2.1 (tI r b).2.2
def finE (x : S65) (r : ByteArray) (b : Bool) : S65 × ByteArray × Int := if b = false ∧ GoodE x then (x, r, 0) else (zE, ⟨#[]⟩, 4)
def withS (x : S65) (a b : S33) : S65 := ⟨x.f0, x.f1, x.f2, x.f3, x.f4, x.f5, a, b, x.f8⟩
def decT (q : S65 × ByteArray × Bool) : S65 × ByteArray × Int :=
  if q.1.f0 = 1 ∨ q.1.f0 = 2 then finE (withS q.1 (tS q.2.1 q.2.2).1 (tS (tS q.2.1 q.2.2).2.1 (tS q.2.1 q.2.2).2.2).1) (tS (tS q.2.1 q.2.2).2.1 (tS q.2.1 q.2.2).2.2).2.1 (tS (tS q.2.1 q.2.2).2.1 (tS q.2.1 q.2.2).2.2).2.2
  else finE q.1 q.2.1 q.2.2
def decG (s : ByteArray) : S65 × ByteArray × Int :=
  decT (decRun (if (tI s false).1 = 1 ∨ (tI s false).1 = 2 then 8 else 5) 1 (setF zE 0 (tI s false).1) (tI s false).2.1 (tI s false).2.2)
theorem tI_some {r : ByteArray} {n : Int} {m : List Int} (h : takeI (bytesOf r) = some (n, m)) (b : Bool) : tI r b = (n, strOfNums m, b) := by
  unfold takeI at h
  rw [Option.map_eq_some_iff] at h
  obtain ⟨⟨u, q⟩, h1, h2⟩ := h
  simp only [Prod.mk.injEq] at h2
  obtain ⟨rfl, rfl⟩ := h2
  unfold tI
  rw [takeR_eq, h1]
  show (unfoldI u, strOfNums q, b || !true) = _
  rw [Bool.not_true, Bool.or_false]
theorem tI_none {r : ByteArray} (h : takeI (bytesOf r) = none) (b : Bool) : tI r b = (0, ⟨#[]⟩, true) := by
  unfold takeI at h
  rw [Option.map_eq_none_iff] at h
  unfold tI
  rw [takeR_eq, h]
  show ((0 : Int), (⟨#[]⟩ : ByteArray), b || !false) = _
  rw [Bool.not_false, Bool.or_true]
theorem tI_bad (r : ByteArray) : (tI r true).2.2 = true := by unfold tI; rfl
theorem takeI_range {r : ByteArray} {n : Int} {m : List Int} (h : takeI (bytesOf r) = some (n, m)) : ∀ b ∈ m, 0 ≤ b ∧ b ≤ 255 :=
  rest_range (takeI_sound _ (bytesOf_range r) n m h) (bytesOf_range r)
theorem takeR_some {r : ByteArray} {n : Int} {m : List Int} (h : takeI (bytesOf r) = some (n, m)) : takeR r = (n, strOfNums m, true) := by
  have e := tI_some h false
  unfold tI at e
  simp only [Prod.mk.injEq, Bool.false_or] at e
  rw [← e.1, ← e.2.1]
  have : (takeR r).2.2 = true := by have := e.2.2; revert this; cases (takeR r).2.2 <;> decide
  rw [← this]
theorem takeR_none {r : ByteArray} (h : takeI (bytesOf r) = none) : takeR r = (0, ⟨#[]⟩, false) := by
  unfold takeI at h
  rw [Option.map_eq_none_iff] at h
  rw [takeR_eq, h]; rfl
theorem str_take (m : List Int) (hm : ∀ b ∈ m, 0 ≤ b ∧ b ≤ 255) (n : Nat) : (strOfNums m).extract 0 n = strOfNums (m.take n) := by
  apply bytes_inj
  rw [bytes_extract, bytesOf_strOfNums m hm, bytesOf_strOfNums _ (fun b hb => hm b (List.mem_of_mem_take hb)), List.drop_zero, Nat.sub_zero]
theorem str_drop (m : List Int) (hm : ∀ b ∈ m, 0 ≤ b ∧ b ≤ 255) (n : Nat) : (strOfNums m).extract n (strOfNums m).size = strOfNums (m.drop n) := by
  apply bytes_inj
  rw [bytes_drop, bytesOf_strOfNums m hm, bytesOf_strOfNums _ (fun b hb => hm b (List.mem_of_mem_drop hb))]
theorem textR_eq {r : ByteArray} : textR 200 (takeR r) = match takeT (bytesOf r) with
    | some (s, m) => (s, strOfNums m, true)
    | none => (⟨#[]⟩, ⟨#[]⟩, false) := by
  unfold takeT
  cases h : takeI (bytesOf r) with
  | none => rw [takeR_none h]; rfl
  | some q =>
    obtain ⟨n, m⟩ := q
    rw [takeR_some h, Option.bind_some]
    unfold textR
    simp only
    by_cases hc : 0 ≤ n ∧ n ≤ 200 ∧ n ≤ m.length
    · have hm := takeI_range h
      rw [if_pos hc, if_pos ⟨trivial, hc.1, hc.2.1, by rw [strOfNums_size]; exact hc.2.2⟩, str_take m hm, str_drop m hm]
    · rw [if_neg hc, if_neg (fun hd => hc ⟨hd.2.1, hd.2.2.1, by rw [← strOfNums_size]; exact hd.2.2.2⟩)]
theorem tS_some {r : ByteArray} {x : S33} {m : List Int} (h : takeS (bytesOf r) = some (x, m)) (b : Bool) : tS r b = (x, strOfNums m, b) := by
  unfold takeS at h
  rw [Option.bind_eq_some_iff] at h
  obtain ⟨⟨n, q⟩, h1, h2⟩ := h
  have e := tI_some h1 b
  have hq := takeI_range h1
  unfold tS
  rw [e]
  simp only at h2 ⊢
  split at h2
  · rename_i hc
    rw [if_pos hc]
    cases h2; rfl
  · rename_i hc
    rw [if_neg hc]
    split at h2
    · rename_i hc2
      rw [if_pos hc2, textR_eq, bytesOf_strOfNums q hq]
      rw [Option.map_eq_some_iff] at h2
      obtain ⟨⟨s, t⟩, h3, h4⟩ := h2
      rw [h3]
      simp only [Prod.mk.injEq] at h4
      obtain ⟨rfl, rfl⟩ := h4
      simp
    · cases h2
theorem tS_none {r : ByteArray} (h : takeS (bytesOf r) = none) (b : Bool) : (tS r b).2.2 = true := by
  unfold takeS at h
  unfold tS
  cases h1 : takeI (bytesOf r) with
  | none => rw [tI_none h1]; rfl
  | some q =>
    obtain ⟨n, q⟩ := q
    have hq := takeI_range h1
    rw [h1, Option.bind_some] at h
    rw [tI_some h1]
    simp only at h ⊢
    split at h
    · cases h
    · rename_i hc
      rw [if_neg hc]
      split at h
      · rename_i hc2
        rw [if_pos hc2, textR_eq, bytesOf_strOfNums q hq]
        rw [Option.map_eq_none_iff] at h
        rw [h]; simp
      · rename_i hc2
        rw [if_neg hc2]
theorem tS_bad (r : ByteArray) : (tS r true).2.2 = true := by
  unfold tS
  have h := tI_bad r
  split
  · exact h
  · split
    · simp only [h, Bool.true_or]
    · rfl
def fillE : S65 → Nat → List Int → S65
  | x, _, [] => x
  | x, i, n :: l => fillE (setF x i n) (i + 1) l
theorem run_bad (d : Nat) : ∀ (i : Nat) (x : S65) (r : ByteArray), (decRun d i x r true).2.2 = true := by
  induction d with
  | zero => intro i x r; rfl
  | succ d ih => intro i x r; simp only [decRun]; rw [tI_bad]; exact ih _ _ _
theorem run_none (d : Nat) : ∀ (i : Nat) (x : S65) (r : ByteArray) (b : Bool), takeNs d (bytesOf r) = none → (decRun d i x r b).2.2 = true := by
  induction d with
  | zero => intro i x r b h; cases h
  | succ d ih =>
    intro i x r b h
    simp only [decRun]
    cases h1 : takeI (bytesOf r) with
    | none => rw [tI_none h1]; exact run_bad _ _ _ _
    | some q =>
      obtain ⟨n, q⟩ := q
      unfold takeNs at h
      rw [h1, Option.bind_some, Option.map_eq_none_iff] at h
      rw [tI_some h1]
      exact ih _ _ _ _ (by rw [bytesOf_strOfNums q (takeI_range h1)]; exact h)
theorem run_some (d : Nat) : ∀ (i : Nat) (x : S65) (r : ByteArray) (b : Bool) (l m : List Int), takeNs d (bytesOf r) = some (l, m) → decRun d i x r b = (fillE x i l, strOfNums m, b) := by
  induction d with
  | zero =>
    intro i x r b l m h
    simp only [takeNs, Option.some.injEq, Prod.mk.injEq] at h
    obtain ⟨rfl, rfl⟩ := h
    simp only [decRun, fillE, str_bytes]
  | succ d ih =>
    intro i x r b l m h
    unfold takeNs at h
    rw [Option.bind_eq_some_iff] at h
    obtain ⟨⟨n, q⟩, h1, h2⟩ := h
    rw [Option.map_eq_some_iff] at h2
    obtain ⟨⟨l2, q2⟩, h3, h4⟩ := h2
    simp only [Prod.mk.injEq] at h4
    obtain ⟨rfl, rfl⟩ := h4
    simp only [decRun, fillE]
    rw [tI_some h1]
    exact ih _ _ _ _ _ _ (by rw [bytesOf_strOfNums q (takeI_range h1)]; exact h3)
theorem fin_bad (x : S65) (r : ByteArray) : finE x r true = (zE, ⟨#[]⟩, 4) := by
  unfold finE; rw [if_neg (fun h => by cases h.1)]
theorem decT_bad {q : S65 × ByteArray × Bool} (h : q.2.2 = true) : decT q = (zE, ⟨#[]⟩, 4) := by
  unfold decT
  rw [h, tS_bad, tS_bad, fin_bad, fin_bad, ite_self]
theorem takeNs_add (a b : Nat) : ∀ bs, takeNs (a + b) bs = (takeNs a bs).bind fun r => (takeNs b r.2).map fun q => (r.1 ++ q.1, q.2) := by
  induction a with
  | zero => intro bs; simp only [takeNs, Nat.zero_add, Option.bind_some, List.nil_append]; cases takeNs b bs <;> rfl
  | succ a ih =>
    intro bs
    rw [Nat.succ_add]
    simp only [takeNs]
    cases takeI bs with
    | none => rfl
    | some r =>
      simp only [Option.bind_some]
      rw [ih]
      cases takeNs a r.2 with
      | none => rfl
      | some q =>
        simp only [Option.bind_some, Option.map_some]
        cases takeNs b q.2 <;> rfl
theorem list5 {l : List Int} (h : l.length = 5) : ∃ a b c d e, l = [a, b, c, d, e] := by
  match l, h with
  | [a, b, c, d, e], _ => exact ⟨a, b, c, d, e, rfl⟩
theorem list3 {l : List Int} (h : l.length = 3) : ∃ a b c, l = [a, b, c] := by
  match l, h with
  | [a, b, c], _ => exact ⟨a, b, c, rfl⟩
theorem decG_eq (s : ByteArray) : decG s = decE s := by
  unfold decG decE parseE
  have e6 : takeNs 6 (bytesOf s) = (takeI (bytesOf s)).bind fun r => (takeNs 5 r.2).map fun q => (r.1 :: q.1, q.2) := rfl
  rw [e6]
  cases h1 : takeI (bytesOf s) with
  | none => rw [tI_none h1, Option.bind_none, decT_bad (run_bad _ _ _ _)]; rfl
  | some r =>
    obtain ⟨k, m⟩ := r
    have hm := takeI_range h1
    have hb := bytesOf_strOfNums m hm
    rw [tI_some h1, Option.bind_some]
    simp only
    have ek : (setF zE 0 k).f0 = k := rfl
    by_cases hk : k = 1 ∨ k = 2
    · rw [if_pos hk]
      have h8 := takeNs_add 5 3 m
      rw [show 5 + 3 = 8 from rfl] at h8
      cases h5 : takeNs 5 m with
      | none =>
        rw [h5, Option.bind_none] at h8
        rw [decT_bad (run_none 8 1 _ _ _ (by rw [hb]; exact h8))]; rfl
      | some q =>
        obtain ⟨l, q⟩ := q
        obtain ⟨hl, e5⟩ := takeNs_sound 5 m hm l q h5
        obtain ⟨a1, a2, a3, a4, a5, rfl⟩ := list5 hl
        have hq := rest_range e5 hm
        rw [h5, Option.bind_some] at h8
        simp only [Option.map_some, Option.bind_some] at h8 ⊢
        rw [if_pos (show rd (k :: [a1, a2, a3, a4, a5]) 0 = 1 ∨ rd (k :: [a1, a2, a3, a4, a5]) 0 = 2 from hk)]
        cases h3 : takeNs 3 q with
        | none =>
          rw [h3, Option.map_none] at h8
          rw [decT_bad (run_none 8 1 _ _ _ (by rw [hb]; exact h8))]; rfl
        | some p =>
          obtain ⟨l2, p⟩ := p
          obtain ⟨hl2, e3⟩ := takeNs_sound 3 q hq l2 p h3
          obtain ⟨b1, b2, b3, rfl⟩ := list3 hl2
          have hp := rest_range e3 hq
          have hbp := bytesOf_strOfNums p hp
          rw [h3, Option.map_some] at h8
          rw [run_some 8 1 _ _ _ _ _ (by rw [hb]; exact h8)]
          simp only [Option.bind_some]
          have ex : fillE (setF zE 0 k) 1 ([a1, a2, a3, a4, a5] ++ [b1, b2, b3]) = ⟨k, ⟨a1, a2, a3⟩, a4, a5, b1, b2, z33, z33, b3⟩ := rfl
          rw [ex]
          unfold decT
          simp only
          rw [if_pos hk]
          cases hs : takeS p with
          | none =>
            have t := tS_none (r := strOfNums p) (by rw [hbp]; exact hs) false
            rw [t, tS_bad, fin_bad]; rfl
          | some u =>
            obtain ⟨x1, u⟩ := u
            have hu := rest_range (takeS_sound p hp x1 u hs) hp
            have hbu := bytesOf_strOfNums u hu
            rw [tS_some (r := strOfNums p) (by rw [hbp]; exact hs) false]
            simp only [Option.bind_some]
            cases hs2 : takeS u with
            | none =>
              have t := tS_none (r := strOfNums u) (by rw [hbu]; exact hs2) false
              rw [t, fin_bad]; rfl
            | some v =>
              obtain ⟨x2, v⟩ := v
              rw [tS_some (r := strOfNums u) (by rw [hbu]; exact hs2) false]
              simp only [Option.map_some]
              unfold finE
              have ex2 : withS ⟨k, ⟨a1, a2, a3⟩, a4, a5, b1, b2, z33, z33, b3⟩ x1 x2 = ⟨k, ⟨a1, a2, a3⟩, a4, a5, b1, b2, x1, x2, b3⟩ := rfl
              rw [ex2]
              by_cases hg : GoodE ⟨k, ⟨a1, a2, a3⟩, a4, a5, b1, b2, x1, x2, b3⟩
              · rw [if_pos ⟨rfl, hg⟩]; exact (if_pos hg).symm
              · rw [if_neg (fun h => hg h.2)]; exact (if_neg hg).symm
    · rw [if_neg hk]
      cases h5 : takeNs 5 m with
      | none =>
        rw [decT_bad (run_none 5 1 _ _ _ (by rw [hb]; exact h5))]; rfl
      | some q =>
        obtain ⟨l, q⟩ := q
        obtain ⟨hl, e5⟩ := takeNs_sound 5 m hm l q h5
        obtain ⟨a1, a2, a3, a4, a5, rfl⟩ := list5 hl
        rw [run_some 5 1 _ _ _ _ _ (by rw [hb]; exact h5)]
        simp only [Option.map_some, Option.bind_some]
        rw [if_neg (show ¬ (rd (k :: [a1, a2, a3, a4, a5]) 0 = 1 ∨ rd (k :: [a1, a2, a3, a4, a5]) 0 = 2) from hk)]
        have ex : fillE (setF zE 0 k) 1 [a1, a2, a3, a4, a5] = ⟨k, ⟨a1, a2, a3⟩, a4, a5, 0, 0, z33, z33, 0⟩ := rfl
        rw [ex]
        unfold decT
        simp only
        rw [if_neg hk]
        unfold finE
        by_cases hg : GoodE ⟨k, ⟨a1, a2, a3⟩, a4, a5, 0, 0, z33, z33, 0⟩
        · rw [if_pos ⟨rfl, hg⟩]; exact (if_pos hg).symm
        · rw [if_neg (fun h => hg h.2)]; exact (if_neg hg).symm
end Go.Proofs.Ytfjmnaobfbmllaa.M
namespace Go.Proofs.Ytfjmnaobfbmllaa.M
open Go.RowKit Go.Proofs.YtfjmnaobfbmllaaW.PrintWords Go.Proofs.YtfjmnaobfbmllaaW.PrintLast Go.Proofs.YtfjmnaobfbmllaaW.PrintMore
attribute [local go_sem] max2_int min2_int max_two min_two max_three min_three max_four min_four   -- for this text's walks alone
set_option linter.unusedVariables false
set_option linter.unusedSimpArgs false
def IsS127 (w0 W : World) (g : Nat) (f0 : ByteArray) (f1 : Bool) : Prop := W.heap[g]? = some (.cells #[.string f0, .bool f1] 127 (0, 0)) ∧ w0.heap.size ≤ g
theorem IsS127.grown {w0 W : World} {g : Nat} {f0 : ByteArray} {f1 : Bool} {W1 : World} {row : Option Nat} (h : IsS127 w0 W g f0 f1) (hw : W.grownBy W1 row) (hne : some g ≠ row) : IsS127 w0 W1 g f0 f1 := by
  obtain ⟨hb, hg⟩ := h
  exact ⟨blk_grown hb hw hne, hg⟩
theorem IsS127.kept {w0 W : World} {g : Nat} {f0 : ByteArray} {f1 : Bool} {W1 : World} {S : Nat → Prop} (h : IsS127 w0 W g f0 f1) (hk : Kept W W1 S) (hne : ¬ S g) : IsS127 w0 W1 g f0 f1 := by
  obtain ⟨hb, hg⟩ := h
  exact ⟨blk_kept hb hk hne, hg⟩
theorem IsS127.below {w0 W : World} {g : Nat} {f0 : ByteArray} {f1 : Bool} {W1 : World} (h : IsS127 w0 W g f0 f1) (hw : Below W.heap.size W W1) : IsS127 w0 W1 g f0 f1 := h.grown (grown_of_below hw none) (by simp)
theorem IsS127.alloc {w0 W : World} {g : Nat} {f0 : ByteArray} {f1 : Bool} (h : IsS127 w0 W g f0 f1) (o : Obj) : IsS127 w0 (W.alloc o) g f0 f1 := h.below (below_alloc (Below.refl _ _) o)
theorem IsS127.drewN {w0 W : World} {g : Nat} {f0 : ByteArray} {f1 : Bool} (h : IsS127 w0 W g f0 f1) (m : Nat) : IsS127 w0 (W.drewN m) g f0 f1 := h
theorem IsS127.drew {w0 W : World} {g : Nat} {f0 : ByteArray} {f1 : Bool} (h : IsS127 w0 W g f0 f1) : IsS127 w0 W.drew g f0 f1 := h
theorem IsS127.at_ {w0 W : World} {g : Nat} {f0 : ByteArray} {f1 : Bool} {w' : World} {m : Nat} (hq : W.drewN m = w') (h : IsS127 w0 W g f0 f1) : IsS127 w0 w' g f0 f1 := by subst hq; exact IsS127.drewN h m
theorem IsS127.apart {w0 W : World} {g : Nat} {f0 : ByteArray} {f1 : Bool} {α : Type} {d : Kd α} {e : Nat} {base : Nat} {ok : Nat → Prop} {v : Value} {xs : List α} (h : IsS127 w0 W g f0 f1) (ho : d.R e W base ok v xs) (ht : ∀ q, q ∈ e :: d.E → q ≠ 127) : d.R e W base (fun k => ok k ∧ k ≠ g) v xs := by
  obtain ⟨hb, hg⟩ := h
  exact Kd.R_types ho hb ht
theorem IsS127.own_ne {w0 W : World} {g : Nat} {f0 : ByteArray} {f1 : Bool} {α : Type} {d : Kd α} {e : Nat} {base : Nat} {ok : Nat → Prop} {v : Value} {xs : List α} (h : IsS127 w0 W g f0 f1) (ho : d.R e W base ok v xs) (ht : e ≠ 127) : some g ≠ v.ownBlock := by
  obtain ⟨hb, hg⟩ := h
  exact Kd.R_ne ho hb ht
theorem IsS127.lt {w0 W : World} {g : Nat} {f0 : ByteArray} {f1 : Bool} (h : IsS127 w0 W g f0 f1) : g < W.heap.size := by
  obtain ⟨hb, hg⟩ := h
  exact blk_lt hb
theorem IsS127.ge {w0 W : World} {g : Nat} {f0 : ByteArray} {f1 : Bool} (h : IsS127 w0 W g f0 f1) : w0.heap.size ≤ g := by
  obtain ⟨hb, hg⟩ := h
  exact hg
theorem IsS127.far {w0 W : World} {g : Nat} {f0 : ByteArray} {f1 : Bool} {p : Addr} (h : IsS127 w0 W g f0 f1) (hne : g ≠ p.block) (u : Value) : IsS127 w0 (W.setCell p u) g f0 f1 := by
  obtain ⟨hb, hg⟩ := h
  exact ⟨blk_far hb hne u, hg⟩
theorem cellS127_0 {W : World} {g : Nat} {f0 : ByteArray} {f1 : Bool} (h : W.heap[g]? = some (.cells #[.string f0, .bool f1] 127 (0, 0))) : W.cell? ⟨g, 0, none⟩ = some (.string f0) := (blk_cell h 0).trans rfl
theorem IsS127.set_0 {w0 W : World} {g : Nat} {f0 : ByteArray} {f1 : Bool} (h : IsS127 w0 W g f0 f1) (x : ByteArray) : IsS127 w0 (W.setCell ⟨g, 0, none⟩ (.string x)) g x f1 := by
  obtain ⟨hb, hg⟩ := h
  exact ⟨by simpa using blk_set hb 0 (.string x), hg⟩
theorem cellS127_1 {W : World} {g : Nat} {f0 : ByteArray} {f1 : Bool} (h : W.heap[g]? = some (.cells #[.string f0, .bool f1] 127 (0, 0))) : W.cell? ⟨g, 1, none⟩ = some (.bool f1) := (blk_cell h 1).trans rfl
theorem IsS127.set_1 {w0 W : World} {g : Nat} {f0 : ByteArray} {f1 : Bool} (h : IsS127 w0 W g f0 f1) (x : Bool) : IsS127 w0 (W.setCell ⟨g, 1, none⟩ (.bool x)) g f0 x := by
  obtain ⟨hb, hg⟩ := h
  exact ⟨by simpa using blk_set hb 1 (.bool x), hg⟩
def entry_taker_int.f (s0_0 : ByteArray) (s0_1 : Bool) : Option (Int × ByteArray × Bool) := (nibTake.f s0_0).bind fun bt101 => (if s0_1 = true then (some (bt101.1, bt101.2.1, true)) else (some (bt101.1, bt101.2.1, !bt101.2.2)))
set_option maxHeartbeats 8000000 in
set_option maxRecDepth 100000 in
theorem entry_taker_int.calls (g : Nat) (s0_0 : ByteArray) (s0_1 : Bool) (r1 : Int) (r2 : ByteArray) (r3 : Bool) (w0 w : World) (hI : IsS127 w0 w g s0_0 s0_1) (hB : Below w0.heap.size w0 w) (h : entry_taker_int.f s0_0 s0_1 = some (r1, r2, r3)) :
    Calls Try.prog 107 #[.pointer (some ⟨g, 0, none⟩)] w fun e w' => e = .returned (.int .i64 r1) ∧ IsS127 w0 w' g r2 r3 ∧ Below w0.heap.size w0 w' ∧ KeepBut w w' g none := by
  have HI0 := Aside0.mk hI
  have HK := Aside0.mk (KeepBut.refl w g none)
  have HL := Aside0.mk hB.size
  clear hI
  have HW0 := Aside0.mk hB.size
  have HB := Aside0.mk hB
  clear hB
  have H : ((nibTake.f s0_0).bind fun bt101 => (if s0_1 = true then (some (bt101.1, bt101.2.1, true)) else (some (bt101.1, bt101.2.1, !bt101.2.2)))) = some (r1, r2, r3) := h
  clear h
  replace H := Option.bind_eq_some_iff.mp H
  obtain ⟨⟨t101, t102, t103⟩, A20, H⟩ := H
  replace H : (if s0_1 = true then (some (t101, t102, true)) else (some (t101, t102, !t103))) = some (r1, r2, r3) := H
  have A2 := Aside0.mk A20
  clear A20
  by_cases c3 : s0_1 = true
  · subst c3
    have H1 : (some (t101, t102, true)) = some (r1, r2, r3) := by rw [if_pos rfl] at H; exact H
    clear H
    have H := H1
    clear H1
    simp only [Option.some.injEq, Prod.mk.injEq] at H
    obtain ⟨rfl, rfl, rfl⟩ := H
    obtain ⟨HGz4, hgz4⟩ := HI0.out
    have hcz4_0 := cellS127_0 HGz4
    have hcz4_1 := cellS127_1 HGz4
    have hfz4_0 := blk_frozen HGz4 0
    have hfz4_1 := blk_frozen HGz4 1
    clear HGz4 hgz4
    go_enter Try.func107, Try.ntmps107
    go_wp2_with (first | ((with_reducible refine gate_callee (f := 120) rfl ?_); refine goesL_ (some 11) rfl rfl Try.func120 (by kernel_rfl) rfl #[.string s0_0] rfl (by (try simp only [List.map_toArray, List.map_cons, List.map_nil]); first | done | rfl | (simp only [List.length_drop, List.length_take]; rfl)) ?_; (with_reducible refine (nibTake.calls s0_0 t101 t102 t103 _ A2.out).mono ?_); rintro e w5 ⟨rfl, hb⟩; refine ⟨_, rfl, ?_⟩; have n0_ := Aside0.mk (IsS127.below (by repeat (first | (with_reducible first | exact HI0.out | apply IsS127.alloc | apply IsS127.drewN | apply IsS127.drew | apply IsS127.set_0 | apply IsS127.set_1) | exact HI0.out)) hb); have n1_ := Aside0.mk (KeepBut.trans (by repeat (first | (with_reducible first | exact HK.out | apply KeepBut.set_ | apply keep_drewN | apply keep_drew | apply keep_alloc) | exact HK.out)) (KeepBut.of_below hb g none) (.inl rfl)); have n2_ := Aside0.mk (below_step (by repeat (first | (with_reducible first | exact HB.out | apply below_alloc | apply pw_below_drewN | apply below_drew1 | refine below_set ?_ (IsS127.ge HI0.out)) | exact HB.out)) hb); clear HI0; clear HK; clear HB; have HI0 := n0_; have HK := n1_; have HB := n2_; clear n0_ n1_ n2_; (try clear hb); (try clear hb2); (try clear hk); (try clear hi); obtain ⟨HGz6, hgz6⟩ := HI0.out; have hcz6_0 := cellS127_0 HGz6; have hcz6_1 := cellS127_1 HGz6; have hfz6_0 := blk_frozen HGz6 0; have hfz6_1 := blk_frozen HGz6 1; clear HGz6 hgz6))
    go_ret
    exact ⟨by first | rfl | (simp [errW_none, errW_some] <;> rfl) | (simp [*, errW_none, errW_some] <;> rfl), by repeat (first | (with_reducible first | exact HI0.out | apply IsS127.alloc | apply IsS127.drewN | apply IsS127.drew | apply IsS127.set_0 | apply IsS127.set_1) | exact HI0.out), by repeat (first | (with_reducible first | exact HB.out | apply below_alloc | apply pw_below_drewN | apply below_drew1 | refine below_set ?_ (IsS127.ge HI0.out)) | exact HB.out), by repeat (first | (with_reducible first | exact HK.out | apply KeepBut.set_ | apply keep_drewN | apply keep_drew | apply keep_alloc) | exact HK.out)⟩
  · replace c3 := Bool.eq_false_iff.mpr c3
    subst c3
    have H1 : (some (t101, t102, !t103)) = some (r1, r2, r3) := by rw [if_neg (show ¬ (false = true) by decide)] at H; exact H
    clear H
    have H := H1
    clear H1
    simp only [Option.some.injEq, Prod.mk.injEq] at H
    obtain ⟨rfl, rfl, rfl⟩ := H
    obtain ⟨HGz7, hgz7⟩ := HI0.out
    have hcz7_0 := cellS127_0 HGz7
    have hcz7_1 := cellS127_1 HGz7
    have hfz7_0 := blk_frozen HGz7 0
    have hfz7_1 := blk_frozen HGz7 1
    clear HGz7 hgz7
    go_enter Try.func107, Try.ntmps107
    go_wp2_with (first | ((with_reducible refine gate_callee (f := 120) rfl ?_); refine goesL_ (some 11) rfl rfl Try.func120 (by kernel_rfl) rfl #[.string s0_0] rfl (by (try simp only [List.map_toArray, List.map_cons, List.map_nil]); first | done | rfl | (simp only [List.length_drop, List.length_take]; rfl)) ?_; (with_reducible refine (nibTake.calls s0_0 t101 t102 t103 _ A2.out).mono ?_); rintro e w8 ⟨rfl, hb⟩; refine ⟨_, rfl, ?_⟩; have n0_ := Aside0.mk (IsS127.below (by repeat (first | (with_reducible first | exact HI0.out | apply IsS127.alloc | apply IsS127.drewN | apply IsS127.drew | apply IsS127.set_0 | apply IsS127.set_1) | exact HI0.out)) hb); have n1_ := Aside0.mk (KeepBut.trans (by repeat (first | (with_reducible first | exact HK.out | apply KeepBut.set_ | apply keep_drewN | apply keep_drew | apply keep_alloc) | exact HK.out)) (KeepBut.of_below hb g none) (.inl rfl)); have n2_ := Aside0.mk (below_step (by repeat (first | (with_reducible first | exact HB.out | apply below_alloc | apply pw_below_drewN | apply below_drew1 | refine below_set ?_ (IsS127.ge HI0.out)) | exact HB.out)) hb); clear HI0; clear HK; clear HB; have HI0 := n0_; have HK := n1_; have HB := n2_; clear n0_ n1_ n2_; (try clear hb); (try clear hb2); (try clear hk); (try clear hi); obtain ⟨HGz9, hgz9⟩ := HI0.out; have hcz9_0 := cellS127_0 HGz9; have hcz9_1 := cellS127_1 HGz9; have hfz9_0 := blk_frozen HGz9 0; have hfz9_1 := blk_frozen HGz9 1; clear HGz9 hgz9))
    go_ret
    exact ⟨by first | rfl | (simp [errW_none, errW_some] <;> rfl) | (simp [*, errW_none, errW_some] <;> rfl), by repeat (first | (with_reducible first | exact HI0.out | apply IsS127.alloc | apply IsS127.drewN | apply IsS127.drew | apply IsS127.set_0 | apply IsS127.set_1) | exact HI0.out), by repeat (first | (with_reducible first | exact HB.out | apply below_alloc | apply pw_below_drewN | apply below_drew1 | refine below_set ?_ (IsS127.ge HI0.out)) | exact HB.out), by repeat (first | (with_reducible first | exact HK.out | apply KeepBut.set_ | apply keep_drewN | apply keep_drew | apply keep_alloc) | exact HK.out)⟩
end Go.Proofs.Ytfjmnaobfbmllaa.M
namespace Go.Proofs.Ytfjmnaobfbmllaa.M
open Go.RowKit Go.Proofs.YtfjmnaobfbmllaaW.PrintWords Go.Proofs.YtfjmnaobfbmllaaW.PrintLast Go.Proofs.YtfjmnaobfbmllaaW.PrintMore
attribute [local go_sem] max2_int min2_int max_two min_two max_three min_three max_four min_four   -- for this text's walks alone
set_option linter.unusedVariables false
set_option linter.unusedSimpArgs false
def entry_taker_slot.f (s0_0 : ByteArray) (s0_1 : Bool) : Option (Bool × ByteArray × ByteArray × Bool) := (entry_taker_int.f s0_0 s0_1).bind fun bt102 => (if bt102.1 = 0 then (some (false, (⟨#[]⟩ : ByteArray), bt102.2.1, bt102.2.2)) else (if bt102.1 = 1 then ((nibTakeStr.f bt102.2.1 200).bind fun bt105 => (if bt102.2.2 = true then (some (true, bt105.1, bt105.2.1, true)) else (some (true, bt105.1, bt105.2.1, !bt105.2.2)))) else (some (false, (⟨#[]⟩ : ByteArray), bt102.2.1, true))))
set_option maxHeartbeats 8000000 in
set_option maxRecDepth 100000 in
theorem entry_taker_slot.calls (g : Nat) (s0_0 : ByteArray) (s0_1 : Bool) (r1 : Bool) (r2 : ByteArray) (r3 : ByteArray) (r4 : Bool) (w0 w : World) (hI : IsS127 w0 w g s0_0 s0_1) (hB : Below w0.heap.size w0 w) (h : entry_taker_slot.f s0_0 s0_1 = some (r1, r2, r3, r4)) :
    Calls Try.prog 108 #[.pointer (some ⟨g, 0, none⟩)] w fun e w' => e = .returned (.agg #[.bool r1, .string r2]) ∧ IsS127 w0 w' g r3 r4 ∧ Below w0.heap.size w0 w' ∧ KeepBut w w' g none := by
  have hu33 := Try.underlying33
  have HI0 := Aside0.mk hI
  have HK := Aside0.mk (KeepBut.refl w g none)
  have HL := Aside0.mk hB.size
  clear hI
  have HW0 := Aside0.mk hB.size
  have HB := Aside0.mk hB
  clear hB
  have H : ((entry_taker_int.f s0_0 s0_1).bind fun bt102 => (if bt102.1 = 0 then (some (false, (⟨#[]⟩ : ByteArray), bt102.2.1, bt102.2.2)) else (if bt102.1 = 1 then ((nibTakeStr.f bt102.2.1 200).bind fun bt105 => (if bt102.2.2 = true then (some (true, bt105.1, bt105.2.1, true)) else (some (true, bt105.1, bt105.2.1, !bt105.2.2)))) else (some (false, (⟨#[]⟩ : ByteArray), bt102.2.1, true))))) = some (r1, r2, r3, r4) := h
  clear h
  replace H := Option.bind_eq_some_iff.mp H
  obtain ⟨⟨t102, t103, t104⟩, A20, H⟩ := H
  replace H : (if t102 = 0 then (some (false, (⟨#[]⟩ : ByteArray), t103, t104)) else (if t102 = 1 then ((nibTakeStr.f t103 200).bind fun bt105 => (if t104 = true then (some (true, bt105.1, bt105.2.1, true)) else (some (true, bt105.1, bt105.2.1, !bt105.2.2)))) else (some (false, (⟨#[]⟩ : ByteArray), t103, true)))) = some (r1, r2, r3, r4) := H
  have A2 := Aside0.mk A20
  clear A20
  by_cases c3 : t102 = 0
  · rw [if_pos c3] at H
    have c3b0 : (t102 == 0) = true := beq_iff_eq.mpr c3
    have c3b1 : (t102 != 0) = false := bne_eq_false_iff_eq.mpr c3
    clear c3
    simp only [Option.some.injEq, Prod.mk.injEq] at H
    obtain ⟨rfl, rfl, rfl, rfl⟩ := H
    go_enter Try.func108, Try.ntmps108
    go_wp2_with (first | ((with_reducible refine gate_dst (N := 2) rfl ?_); refine box_event ?hg (N := 2) ?hd (cs := #[.bool false, .string (⟨#[]⟩ : ByteArray)]) (t := 33) ?hr ?_; (case hd => rfl); (case hg => rfl); (case hr => first | (go_simp; done) | (go_simp; rfl)); intro gb101 hg w4 hbox hb; have n0_ := Aside0.mk (IsS127.below (by repeat (first | (with_reducible first | exact HI0.out | apply IsS127.alloc | apply IsS127.drewN | apply IsS127.drew | apply IsS127.set_0 | apply IsS127.set_1) | exact HI0.out)) hb); have n1_ := Aside0.mk (KeepBut.trans (by repeat (first | (with_reducible first | exact HK.out | apply KeepBut.set_ | apply keep_drewN | apply keep_drew | apply keep_alloc) | exact HK.out)) (KeepBut.of_below hb g none) (.inl rfl)); have n2_ := Aside0.mk (below_step (by repeat (first | (with_reducible first | exact HB.out | apply below_alloc | apply pw_below_drewN | apply below_drew1 | refine below_set ?_ (IsS127.ge HI0.out)) | exact HB.out)) hb); have n3_ := Aside0.mk (hbox); have n4_ := Aside0.mk ((by rw [hg]; exact (keep_size (w := w) (g := g) (row := none) (by repeat (first | (with_reducible first | exact HK.out | apply KeepBut.set_ | apply keep_drewN | apply keep_drew | apply keep_alloc) | exact HK.out))) : w.heap.size ≤ gb101)); have n5_ := Aside0.mk ((Nat.le_trans HW0.out (by rw [hg]; exact (keep_size (w := w) (g := g) (row := none) (by repeat (first | (with_reducible first | exact HK.out | apply KeepBut.set_ | apply keep_drewN | apply keep_drew | apply keep_alloc) | exact HK.out))) : w.heap.size ≤ gb101) : w0.heap.size ≤ gb101)); have n6_ := Aside0.mk ((by rw [hg]; exact Nat.ne_of_lt (IsS127.lt (show IsS127 w0 _ g s0_0 s0_1 from by repeat (first | (with_reducible first | exact HI0.out | apply IsS127.alloc | apply IsS127.drewN | apply IsS127.drew | apply IsS127.set_0 | apply IsS127.set_1) | exact HI0.out))) : g ≠ gb101)); have n7_ := Aside0.mk ((by rw [hg]; exact Nat.ne_of_gt (IsS127.lt (show IsS127 w0 _ g s0_0 s0_1 from by repeat (first | (with_reducible first | exact HI0.out | apply IsS127.alloc | apply IsS127.drewN | apply IsS127.drew | apply IsS127.set_0 | apply IsS127.set_1) | exact HI0.out))) : gb101 ≠ g)); clear HI0; clear HK; clear HB; have HI0 := n0_; have HK := n1_; have HB := n2_; have BK101 := n3_; have GW101 := n4_; have GE101 := n5_; have NB0_101 := n6_; have NB101_0 := n7_; clear n0_ n1_ n2_ n3_ n4_ n5_ n6_ n7_; clear hb hbox hg) | ((with_reducible refine gate_callee (f := 107) rfl ?_); refine goesL_ (some 7) rfl rfl Try.func107 (by kernel_rfl) rfl #[.pointer (some ⟨g, 0, none⟩)] rfl (by (try simp only [List.map_toArray, List.map_cons, List.map_nil]); first | done | rfl | (simp only [List.length_drop, List.length_take]; rfl)) ?_; (with_reducible refine (entry_taker_int.calls g s0_0 s0_1 t102 t103 t104 w0 _ ?side1 ?side2 A2.out).mono ?_); (case side1 => repeat (first | (with_reducible first | exact HI0.out | apply IsS127.alloc | apply IsS127.drewN | apply IsS127.drew | apply IsS127.set_0 | apply IsS127.set_1 | refine IsS127.far ?_ NB0_101.out _) | exact HI0.out)); (case side2 => repeat (first | (with_reducible first | exact HB.out | apply below_alloc | apply pw_below_drewN | apply below_drew1 | refine below_set ?_ (IsS127.ge HI0.out) | refine below_set ?_ GE101.out) | exact HB.out)); rintro e w5 ⟨rfl, hi, hb, hk⟩; refine ⟨_, rfl, ?_⟩; have n0_ := Aside0.mk (KeepBut.blk hk (g' := gb101) (o := .cells #[.bool false, .string (⟨#[]⟩ : ByteArray)] 33 (0, 0)) (by (with_reducible repeat (first | refine blk_drewN ?_ _ | refine blk_drew ?_ | refine blk_alloc ?_ _)); exact BK101.out) NB101_0.out (by simp)); have n1_ := Aside0.mk (KeepBut.trans (by repeat (first | (with_reducible first | exact HK.out | apply KeepBut.set_ | apply keep_drewN | apply keep_drew | apply keep_alloc | refine keep_far ?_ GW101.out _) | exact HK.out)) hk (.inl rfl)); have n2_ := Aside0.mk (hb); have n3_ := Aside0.mk (hi); clear BK101; clear HK; clear HB; clear HI0; have BK101 := n0_; have HK := n1_; have HB := n2_; have HI0 := n3_; clear n0_ n1_ n2_ n3_; (try clear hb); (try clear hb2); (try clear hk); (try clear hi); have hnb6 := NB101_0.out; have hnc6 := NB0_101.out; have hcz7_0 : w5.cell? ⟨gb101, 0, none⟩ = some (.bool false) := (blk_cell BK101.out 0).trans rfl; have hcz7_1 : w5.cell? ⟨gb101, 1, none⟩ = some (.string (⟨#[]⟩ : ByteArray)) := (blk_cell BK101.out 1).trans rfl; have hfz7_0 := blk_frozen BK101.out 0; have hfz7_1 := blk_frozen BK101.out 1))
    refine bodyPost_ret (results_cell_row rfl _ _ gb101 33 #[.bool false, .string (⟨#[]⟩ : ByteArray)] (0, 0) _ rfl (by (with_reducible repeat (first | refine blk_drewN ?_ _ | refine blk_drew ?_ | refine blk_alloc ?_ _)); refine blk_put (cs := #[.bool false, .string (⟨#[]⟩ : ByteArray)]) ?_ 1 _ rfl; (with_reducible repeat (first | refine blk_drewN ?_ _ | refine blk_drew ?_ | refine blk_alloc ?_ _)); refine blk_put (cs := #[.bool false, .string (⟨#[]⟩ : ByteArray)]) ?_ 0 _ rfl; (with_reducible repeat (first | refine blk_drewN ?_ _ | refine blk_drew ?_ | refine blk_alloc ?_ _)); exact BK101.out) Try.underlying33 rfl (by kernel_rfl)) rfl ?_
    exact ⟨by first | rfl | (simp [errW_none, errW_some] <;> rfl) | (simp [*, errW_none, errW_some] <;> rfl), by repeat (first | (with_reducible first | exact HI0.out | apply IsS127.alloc | apply IsS127.drewN | apply IsS127.drew | apply IsS127.set_0 | apply IsS127.set_1 | refine IsS127.far ?_ NB0_101.out _) | exact HI0.out), by repeat (first | (with_reducible first | exact HB.out | apply below_alloc | apply pw_below_drewN | apply below_drew1 | refine below_set ?_ (IsS127.ge HI0.out) | refine below_set ?_ GE101.out) | exact HB.out), by repeat (first | (with_reducible first | exact HK.out | apply KeepBut.set_ | apply keep_drewN | apply keep_drew | apply keep_alloc | refine keep_far ?_ GW101.out _) | exact HK.out)⟩
  · rw [if_neg c3] at H
    have c3b0 : (t102 == 0) = false := beq_eq_false_iff_ne.mpr c3
    have c3b1 : (t102 != 0) = true := bne_iff_ne.mpr c3
    by_cases c8 : t102 = 1
    · rw [if_pos c8] at H
      have c8b0 : (t102 == 1) = true := beq_iff_eq.mpr c8
      have c8b1 : (t102 != 1) = false := bne_eq_false_iff_eq.mpr c8
      clear c8
      replace H := Option.bind_eq_some_iff.mp H
      obtain ⟨⟨t105, t106, t107⟩, A90, H⟩ := H
      replace H : (if t104 = true then (some (true, t105, t106, true)) else (some (true, t105, t106, !t107))) = some (r1, r2, r3, r4) := H
      have A9 := Aside0.mk A90
      clear A90
      by_cases c10 : t104 = true
      · subst c10
        have H1 : (some (true, t105, t106, true)) = some (r1, r2, r3, r4) := by rw [if_pos rfl] at H; exact H
        clear H
        have H := H1
        clear H1
        simp only [Option.some.injEq, Prod.mk.injEq] at H
        obtain ⟨rfl, rfl, rfl, rfl⟩ := H
        go_enter Try.func108, Try.ntmps108
        go_wp2_with (first | ((with_reducible refine gate_dst (N := 2) rfl ?_); refine box_event ?hg (N := 2) ?hd (cs := #[.bool false, .string (⟨#[]⟩ : ByteArray)]) (t := 33) ?hr ?_; (case hd => rfl); (case hg => rfl); (case hr => first | (go_simp; done) | (go_simp; rfl)); intro gb101 hg w11 hbox hb; have n0_ := Aside0.mk (IsS127.below (by repeat (first | (with_reducible first | exact HI0.out | apply IsS127.alloc | apply IsS127.drewN | apply IsS127.drew | apply IsS127.set_0 | apply IsS127.set_1) | exact HI0.out)) hb); have n1_ := Aside0.mk (KeepBut.trans (by repeat (first | (with_reducible first | exact HK.out | apply KeepBut.set_ | apply keep_drewN | apply keep_drew | apply keep_alloc) | exact HK.out)) (KeepBut.of_below hb g none) (.inl rfl)); have n2_ := Aside0.mk (below_step (by repeat (first | (with_reducible first | exact HB.out | apply below_alloc | apply pw_below_drewN | apply below_drew1 | refine below_set ?_ (IsS127.ge HI0.out)) | exact HB.out)) hb); have n3_ := Aside0.mk (hbox); have n4_ := Aside0.mk ((by rw [hg]; exact (keep_size (w := w) (g := g) (row := none) (by repeat (first | (with_reducible first | exact HK.out | apply KeepBut.set_ | apply keep_drewN | apply keep_drew | apply keep_alloc) | exact HK.out))) : w.heap.size ≤ gb101)); have n5_ := Aside0.mk ((Nat.le_trans HW0.out (by rw [hg]; exact (keep_size (w := w) (g := g) (row := none) (by repeat (first | (with_reducible first | exact HK.out | apply KeepBut.set_ | apply keep_drewN | apply keep_drew | apply keep_alloc) | exact HK.out))) : w.heap.size ≤ gb101) : w0.heap.size ≤ gb101)); have n6_ := Aside0.mk ((by rw [hg]; exact Nat.ne_of_lt (IsS127.lt (show IsS127 w0 _ g s0_0 s0_1 from by repeat (first | (with_reducible first | exact HI0.out | apply IsS127.alloc | apply IsS127.drewN | apply IsS127.drew | apply IsS127.set_0 | apply IsS127.set_1) | exact HI0.out))) : g ≠ gb101)); have n7_ := Aside0.mk ((by rw [hg]; exact Nat.ne_of_gt (IsS127.lt (show IsS127 w0 _ g s0_0 s0_1 from by repeat (first | (with_reducible first | exact HI0.out | apply IsS127.alloc | apply IsS127.drewN | apply IsS127.drew | apply IsS127.set_0 | apply IsS127.set_1) | exact HI0.out))) : gb101 ≠ g)); clear HI0; clear HK; clear HB; have HI0 := n0_; have HK := n1_; have HB := n2_; have BK101 := n3_; have GW101 := n4_; have GE101 := n5_; have NB0_101 := n6_; have NB101_0 := n7_; clear n0_ n1_ n2_ n3_ n4_ n5_ n6_ n7_; clear hb hbox hg) | ((with_reducible refine gate_callee (f := 107) rfl ?_); refine goesL_ (some 7) rfl rfl Try.func107 (by kernel_rfl) rfl #[.pointer (some ⟨g, 0, none⟩)] rfl (by (try simp only [List.map_toArray, List.map_cons, List.map_nil]); first | done | rfl | (simp only [List.length_drop, List.length_take]; rfl)) ?_; (with_reducible refine (entry_taker_int.calls g s0_0 s0_1 t102 t103 true w0 _ ?side1 ?side2 A2.out).mono ?_); (case side1 => repeat (first | (with_reducible first | exact HI0.out | apply IsS127.alloc | apply IsS127.drewN | apply IsS127.drew | apply IsS127.set_0 | apply IsS127.set_1 | refine IsS127.far ?_ NB0_101.out _) | exact HI0.out)); (case side2 => repeat (first | (with_reducible first | exact HB.out | apply below_alloc | apply pw_below_drewN | apply below_drew1 | refine below_set ?_ (IsS127.ge HI0.out) | refine below_set ?_ GE101.out) | exact HB.out)); rintro e w12 ⟨rfl, hi, hb, hk⟩; refine ⟨_, rfl, ?_⟩; have n0_ := Aside0.mk (KeepBut.blk hk (g' := gb101) (o := .cells #[.bool false, .string (⟨#[]⟩ : ByteArray)] 33 (0, 0)) (by (with_reducible repeat (first | refine blk_drewN ?_ _ | refine blk_drew ?_ | refine blk_alloc ?_ _)); exact BK101.out) NB101_0.out (by simp)); have n1_ := Aside0.mk (KeepBut.trans (by repeat (first | (with_reducible first | exact HK.out | apply KeepBut.set_ | apply keep_drewN | apply keep_drew | apply keep_alloc | refine keep_far ?_ GW101.out _) | exact HK.out)) hk (.inl rfl)); have n2_ := Aside0.mk (hb); have n3_ := Aside0.mk (hi); clear BK101; clear HK; clear HB; clear HI0; have BK101 := n0_; have HK := n1_; have HB := n2_; have HI0 := n3_; clear n0_ n1_ n2_ n3_; (try clear hb); (try clear hb2); (try clear hk); (try clear hi); obtain ⟨HGz13, hgz13⟩ := HI0.out; have hcz13_0 := cellS127_0 HGz13; have hcz13_1 := cellS127_1 HGz13; have hfz13_0 := blk_frozen HGz13 0; have hfz13_1 := blk_frozen HGz13 1; clear HGz13 hgz13) | ((with_reducible refine gate_callee (f := 126) rfl ?_); refine goesL_ (some 18) rfl rfl Try.func126 (by kernel_rfl) rfl #[.string t103, .int .i64 200] rfl (by (try simp only [List.map_toArray, List.map_cons, List.map_nil]); first | done | rfl | (simp only [List.length_drop, List.length_take]; rfl)) ?_; (with_reducible refine (nibTakeStr.calls t103 200 t105 t106 t107 _ A9.out).mono ?_); rintro e w14 ⟨rfl, hb⟩; refine ⟨_, rfl, ?_⟩; have n0_ := Aside0.mk (IsS127.below (by repeat (first | (with_reducible first | exact HI0.out | apply IsS127.alloc | apply IsS127.drewN | apply IsS127.drew | apply IsS127.set_0 | apply IsS127.set_1 | refine IsS127.far ?_ NB0_101.out _) | exact HI0.out)) hb); have n1_ := Aside0.mk (blk_below (g := gb101) (o := .cells #[.bool false, .string (⟨#[]⟩ : ByteArray)] 33 (0, 0)) (by (with_reducible repeat (first | refine blk_drewN ?_ _ | refine blk_drew ?_ | refine blk_alloc ?_ _)); exact BK101.out) hb); have n2_ := Aside0.mk (KeepBut.trans (by repeat (first | (with_reducible first | exact HK.out | apply KeepBut.set_ | apply keep_drewN | apply keep_drew | apply keep_alloc | refine keep_far ?_ GW101.out _) | exact HK.out)) (KeepBut.of_below hb g none) (.inl rfl)); have n3_ := Aside0.mk (below_step (by repeat (first | (with_reducible first | exact HB.out | apply below_alloc | apply pw_below_drewN | apply below_drew1 | refine below_set ?_ (IsS127.ge HI0.out) | refine below_set ?_ GE101.out) | exact HB.out)) hb); clear HI0; clear BK101; clear HK; clear HB; have HI0 := n0_; have BK101 := n1_; have HK := n2_; have HB := n3_; clear n0_ n1_ n2_ n3_; (try clear hb); (try clear hb2); (try clear hk); (try clear hi); obtain ⟨HGz15, hgz15⟩ := HI0.out; have hcz15_0 := cellS127_0 HGz15; have hcz15_1 := cellS127_1 HGz15; have hfz15_0 := blk_frozen HGz15 0; have hfz15_1 := blk_frozen HGz15 1; clear HGz15 hgz15; have hnb16 := NB101_0.out; have hnc16 := NB0_101.out; have hcz17_0 : w14.cell? ⟨gb101, 0, none⟩ = some (.bool false) := (blk_cell BK101.out 0).trans rfl; have hcz17_1 : w14.cell? ⟨gb101, 1, none⟩ = some (.string (⟨#[]⟩ : ByteArray)) := (blk_cell BK101.out 1).trans rfl; have hfz17_0 := blk_frozen BK101.out 0; have hfz17_1 := blk_frozen BK101.out 1))
        refine bodyPost_ret (results_cell_row rfl _ _ gb101 33 #[.bool true, .string t105] (0, 0) _ rfl (by (with_reducible repeat (first | refine blk_drewN ?_ _ | refine blk_drew ?_ | refine blk_alloc ?_ _)); refine blk_put (cs := #[.bool true, .string (⟨#[]⟩ : ByteArray)]) ?_ 1 _ rfl; (with_reducible repeat (first | refine blk_drewN ?_ _ | refine blk_drew ?_ | refine blk_alloc ?_ _)); refine blk_put (cs := #[.bool false, .string (⟨#[]⟩ : ByteArray)]) ?_ 0 _ rfl; (with_reducible repeat (first | refine blk_drewN ?_ _ | refine blk_drew ?_ | refine blk_alloc ?_ _)); refine blk_far ?_ NB101_0.out _; (with_reducible repeat (first | refine blk_drewN ?_ _ | refine blk_drew ?_ | refine blk_alloc ?_ _)); refine blk_far ?_ NB101_0.out _; (with_reducible repeat (first | refine blk_drewN ?_ _ | refine blk_drew ?_ | refine blk_alloc ?_ _)); exact BK101.out) Try.underlying33 rfl (by kernel_rfl)) rfl ?_
        exact ⟨by first | rfl | (simp [errW_none, errW_some] <;> rfl) | (simp [*, errW_none, errW_some] <;> rfl), by repeat (first | (with_reducible first | exact HI0.out | apply IsS127.alloc | apply IsS127.drewN | apply IsS127.drew | apply IsS127.set_0 | apply IsS127.set_1 | refine IsS127.far ?_ NB0_101.out _) | exact HI0.out), by repeat (first | (with_reducible first | exact HB.out | apply below_alloc | apply pw_below_drewN | apply below_drew1 | refine below_set ?_ (IsS127.ge HI0.out) | refine below_set ?_ GE101.out) | exact HB.out), by repeat (first | (with_reducible first | exact HK.out | apply KeepBut.set_ | apply keep_drewN | apply keep_drew | apply keep_alloc | refine keep_far ?_ GW101.out _) | exact HK.out)⟩
      · replace c10 := Bool.eq_false_iff.mpr c10
        subst c10
        have H1 : (some (true, t105, t106, !t107)) = some (r1, r2, r3, r4) := by rw [if_neg (show ¬ (false = true) by decide)] at H; exact H
        clear H
        have H := H1
        clear H1
        simp only [Option.some.injEq, Prod.mk.injEq] at H
        obtain ⟨rfl, rfl, rfl, rfl⟩ := H
        go_enter Try.func108, Try.ntmps108
        go_wp2_with (first | ((with_reducible refine gate_dst (N := 2) rfl ?_); refine box_event ?hg (N := 2) ?hd (cs := #[.bool false, .string (⟨#[]⟩ : ByteArray)]) (t := 33) ?hr ?_; (case hd => rfl); (case hg => rfl); (case hr => first | (go_simp; done) | (go_simp; rfl)); intro gb101 hg w18 hbox hb; have n0_ := Aside0.mk (IsS127.below (by repeat (first | (with_reducible first | exact HI0.out | apply IsS127.alloc | apply IsS127.drewN | apply IsS127.drew | apply IsS127.set_0 | apply IsS127.set_1) | exact HI0.out)) hb); have n1_ := Aside0.mk (KeepBut.trans (by repeat (first | (with_reducible first | exact HK.out | apply KeepBut.set_ | apply keep_drewN | apply keep_drew | apply keep_alloc) | exact HK.out)) (KeepBut.of_below hb g none) (.inl rfl)); have n2_ := Aside0.mk (below_step (by repeat (first | (with_reducible first | exact HB.out | apply below_alloc | apply pw_below_drewN | apply below_drew1 | refine below_set ?_ (IsS127.ge HI0.out)) | exact HB.out)) hb); have n3_ := Aside0.mk (hbox); have n4_ := Aside0.mk ((by rw [hg]; exact (keep_size (w := w) (g := g) (row := none) (by repeat (first | (with_reducible first | exact HK.out | apply KeepBut.set_ | apply keep_drewN | apply keep_drew | apply keep_alloc) | exact HK.out))) : w.heap.size ≤ gb101)); have n5_ := Aside0.mk ((Nat.le_trans HW0.out (by rw [hg]; exact (keep_size (w := w) (g := g) (row := none) (by repeat (first | (with_reducible first | exact HK.out | apply KeepBut.set_ | apply keep_drewN | apply keep_drew | apply keep_alloc) | exact HK.out))) : w.heap.size ≤ gb101) : w0.heap.size ≤ gb101)); have n6_ := Aside0.mk ((by rw [hg]; exact Nat.ne_of_lt (IsS127.lt (show IsS127 w0 _ g s0_0 s0_1 from by repeat (first | (with_reducible first | exact HI0.out | apply IsS127.alloc | apply IsS127.drewN | apply IsS127.drew | apply IsS127.set_0 | apply IsS127.set_1) | exact HI0.out))) : g ≠ gb101)); have n7_ := Aside0.mk ((by rw [hg]; exact Nat.ne_of_gt (IsS127.lt (show IsS127 w0 _ g s0_0 s0_1 from by repeat (first | (with_reducible first | exact HI0.out | apply IsS127.alloc | apply IsS127.drewN | apply IsS127.drew | apply IsS127.set_0 | apply IsS127.set_1) | exact HI0.out))) : gb101 ≠ g)); clear HI0; clear HK; clear HB; have HI0 := n0_; have HK := n1_; have HB := n2_; have BK101 := n3_; have GW101 := n4_; have GE101 := n5_; have NB0_101 := n6_; have NB101_0 := n7_; clear n0_ n1_ n2_ n3_ n4_ n5_ n6_ n7_; clear hb hbox hg) | ((with_reducible refine gate_callee (f := 107) rfl ?_); refine goesL_ (some 7) rfl rfl Try.func107 (by kernel_rfl) rfl #[.pointer (some ⟨g, 0, none⟩)] rfl (by (try simp only [List.map_toArray, List.map_cons, List.map_nil]); first | done | rfl | (simp only [List.length_drop, List.length_take]; rfl)) ?_; (with_reducible refine (entry_taker_int.calls g s0_0 s0_1 t102 t103 false w0 _ ?side1 ?side2 A2.out).mono ?_); (case side1 => repeat (first | (with_reducible first | exact HI0.out | apply IsS127.alloc | apply IsS127.drewN | apply IsS127.drew | apply IsS127.set_0 | apply IsS127.set_1 | refine IsS127.far ?_ NB0_101.out _) | exact HI0.out)); (case side2 => repeat (first | (with_reducible first | exact HB.out | apply below_alloc | apply pw_below_drewN | apply below_drew1 | refine below_set ?_ (IsS127.ge HI0.out) | refine below_set ?_ GE101.out) | exact HB.out)); rintro e w19 ⟨rfl, hi, hb, hk⟩; refine ⟨_, rfl, ?_⟩; have n0_ := Aside0.mk (KeepBut.blk hk (g' := gb101) (o := .cells #[.bool false, .string (⟨#[]⟩ : ByteArray)] 33 (0, 0)) (by (with_reducible repeat (first | refine blk_drewN ?_ _ | refine blk_drew ?_ | refine blk_alloc ?_ _)); exact BK101.out) NB101_0.out (by simp)); have n1_ := Aside0.mk (KeepBut.trans (by repeat (first | (with_reducible first | exact HK.out | apply KeepBut.set_ | apply keep_drewN | apply keep_drew | apply keep_alloc | refine keep_far ?_ GW101.out _) | exact HK.out)) hk (.inl rfl)); have n2_ := Aside0.mk (hb); have n3_ := Aside0.mk (hi); clear BK101; clear HK; clear HB; clear HI0; have BK101 := n0_; have HK := n1_; have HB := n2_; have HI0 := n3_; clear n0_ n1_ n2_ n3_; (try clear hb); (try clear hb2); (try clear hk); (try clear hi); obtain ⟨HGz20, hgz20⟩ := HI0.out; have hcz20_0 := cellS127_0 HGz20; have hcz20_1 := cellS127_1 HGz20; have hfz20_0 := blk_frozen HGz20 0; have hfz20_1 := blk_frozen HGz20 1; clear HGz20 hgz20) | ((with_reducible refine gate_callee (f := 126) rfl ?_); refine goesL_ (some 18) rfl rfl Try.func126 (by kernel_rfl) rfl #[.string t103, .int .i64 200] rfl (by (try simp only [List.map_toArray, List.map_cons, List.map_nil]); first | done | rfl | (simp only [List.length_drop, List.length_take]; rfl)) ?_; (with_reducible refine (nibTakeStr.calls t103 200 t105 t106 t107 _ A9.out).mono ?_); rintro e w21 ⟨rfl, hb⟩; refine ⟨_, rfl, ?_⟩; have n0_ := Aside0.mk (IsS127.below (by repeat (first | (with_reducible first | exact HI0.out | apply IsS127.alloc | apply IsS127.drewN | apply IsS127.drew | apply IsS127.set_0 | apply IsS127.set_1 | refine IsS127.far ?_ NB0_101.out _) | exact HI0.out)) hb); have n1_ := Aside0.mk (blk_below (g := gb101) (o := .cells #[.bool false, .string (⟨#[]⟩ : ByteArray)] 33 (0, 0)) (by (with_reducible repeat (first | refine blk_drewN ?_ _ | refine blk_drew ?_ | refine blk_alloc ?_ _)); exact BK101.out) hb); have n2_ := Aside0.mk (KeepBut.trans (by repeat (first | (with_reducible first | exact HK.out | apply KeepBut.set_ | apply keep_drewN | apply keep_drew | apply keep_alloc | refine keep_far ?_ GW101.out _) | exact HK.out)) (KeepBut.of_below hb g none) (.inl rfl)); have n3_ := Aside0.mk (below_step (by repeat (first | (with_reducible first | exact HB.out | apply below_alloc | apply pw_below_drewN | apply below_drew1 | refine below_set ?_ (IsS127.ge HI0.out) | refine below_set ?_ GE101.out) | exact HB.out)) hb); clear HI0; clear BK101; clear HK; clear HB; have HI0 := n0_; have BK101 := n1_; have HK := n2_; have HB := n3_; clear n0_ n1_ n2_ n3_; (try clear hb); (try clear hb2); (try clear hk); (try clear hi); obtain ⟨HGz22, hgz22⟩ := HI0.out; have hcz22_0 := cellS127_0 HGz22; have hcz22_1 := cellS127_1 HGz22; have hfz22_0 := blk_frozen HGz22 0; have hfz22_1 := blk_frozen HGz22 1; clear HGz22 hgz22; have hnb23 := NB101_0.out; have hnc23 := NB0_101.out; have hcz24_0 : w21.cell? ⟨gb101, 0, none⟩ = some (.bool false) := (blk_cell BK101.out 0).trans rfl; have hcz24_1 : w21.cell? ⟨gb101, 1, none⟩ = some (.string (⟨#[]⟩ : ByteArray)) := (blk_cell BK101.out 1).trans rfl; have hfz24_0 := blk_frozen BK101.out 0; have hfz24_1 := blk_frozen BK101.out 1))
        refine bodyPost_ret (results_cell_row rfl _ _ gb101 33 #[.bool true, .string t105] (0, 0) _ rfl (by (with_reducible repeat (first | refine blk_drewN ?_ _ | refine blk_drew ?_ | refine blk_alloc ?_ _)); refine blk_put (cs := #[.bool true, .string (⟨#[]⟩ : ByteArray)]) ?_ 1 _ rfl; (with_reducible repeat (first | refine blk_drewN ?_ _ | refine blk_drew ?_ | refine blk_alloc ?_ _)); refine blk_put (cs := #[.bool false, .string (⟨#[]⟩ : ByteArray)]) ?_ 0 _ rfl; (with_reducible repeat (first | refine blk_drewN ?_ _ | refine blk_drew ?_ | refine blk_alloc ?_ _)); refine blk_far ?_ NB101_0.out _; (with_reducible repeat (first | refine blk_drewN ?_ _ | refine blk_drew ?_ | refine blk_alloc ?_ _)); refine blk_far ?_ NB101_0.out _; (with_reducible repeat (first | refine blk_drewN ?_ _ | refine blk_drew ?_ | refine blk_alloc ?_ _)); exact BK101.out) Try.underlying33 rfl (by kernel_rfl)) rfl ?_
        exact ⟨by first | rfl | (simp [errW_none, errW_some] <;> rfl) | (simp [*, errW_none, errW_some] <;> rfl), by repeat (first | (with_reducible first | exact HI0.out | apply IsS127.alloc | apply IsS127.drewN | apply IsS127.drew | apply IsS127.set_0 | apply IsS127.set_1 | refine IsS127.far ?_ NB0_101.out _) | exact HI0.out), by repeat (first | (with_reducible first | exact HB.out | apply below_alloc | apply pw_below_drewN | apply below_drew1 | refine below_set ?_ (IsS127.ge HI0.out) | refine below_set ?_ GE101.out) | exact HB.out), by repeat (first | (with_reducible first | exact HK.out | apply KeepBut.set_ | apply keep_drewN | apply keep_drew | apply keep_alloc | refine keep_far ?_ GW101.out _) | exact HK.out)⟩
    · rw [if_neg c8] at H
      have c8b0 : (t102 == 1) = false := beq_eq_false_iff_ne.mpr c8
      have c8b1 : (t102 != 1) = true := bne_iff_ne.mpr c8
      simp only [Option.some.injEq, Prod.mk.injEq] at H
      obtain ⟨rfl, rfl, rfl, rfl⟩ := H
      go_enter Try.func108, Try.ntmps108
      go_wp2_with (first | ((with_reducible refine gate_dst (N := 2) rfl ?_); refine box_event ?hg (N := 2) ?hd (cs := #[.bool false, .string (⟨#[]⟩ : ByteArray)]) (t := 33) ?hr ?_; (case hd => rfl); (case hg => rfl); (case hr => first | (go_simp; done) | (go_simp; rfl)); intro gb101 hg w25 hbox hb; have n0_ := Aside0.mk (IsS127.below (by repeat (first | (with_reducible first | exact HI0.out | apply IsS127.alloc | apply IsS127.drewN | apply IsS127.drew | apply IsS127.set_0 | apply IsS127.set_1) | exact HI0.out)) hb); have n1_ := Aside0.mk (KeepBut.trans (by repeat (first | (with_reducible first | exact HK.out | apply KeepBut.set_ | apply keep_drewN | apply keep_drew | apply keep_alloc) | exact HK.out)) (KeepBut.of_below hb g none) (.inl rfl)); have n2_ := Aside0.mk (below_step (by repeat (first | (with_reducible first | exact HB.out | apply below_alloc | apply pw_below_drewN | apply below_drew1 | refine below_set ?_ (IsS127.ge HI0.out)) | exact HB.out)) hb); have n3_ := Aside0.mk (hbox); have n4_ := Aside0.mk ((by rw [hg]; exact (keep_size (w := w) (g := g) (row := none) (by repeat (first | (with_reducible first | exact HK.out | apply KeepBut.set_ | apply keep_drewN | apply keep_drew | apply keep_alloc) | exact HK.out))) : w.heap.size ≤ gb101)); have n5_ := Aside0.mk ((Nat.le_trans HW0.out (by rw [hg]; exact (keep_size (w := w) (g := g) (row := none) (by repeat (first | (with_reducible first | exact HK.out | apply KeepBut.set_ | apply keep_drewN | apply keep_drew | apply keep_alloc) | exact HK.out))) : w.heap.size ≤ gb101) : w0.heap.size ≤ gb101)); have n6_ := Aside0.mk ((by rw [hg]; exact Nat.ne_of_lt (IsS127.lt (show IsS127 w0 _ g s0_0 s0_1 from by repeat (first | (with_reducible first | exact HI0.out | apply IsS127.alloc | apply IsS127.drewN | apply IsS127.drew | apply IsS127.set_0 | apply IsS127.set_1) | exact HI0.out))) : g ≠ gb101)); have n7_ := Aside0.mk ((by rw [hg]; exact Nat.ne_of_gt (IsS127.lt (show IsS127 w0 _ g s0_0 s0_1 from by repeat (first | (with_reducible first | exact HI0.out | apply IsS127.alloc | apply IsS127.drewN | apply IsS127.drew | apply IsS127.set_0 | apply IsS127.set_1) | exact HI0.out))) : gb101 ≠ g)); clear HI0; clear HK; clear HB; have HI0 := n0_; have HK := n1_; have HB := n2_; have BK101 := n3_; have GW101 := n4_; have GE101 := n5_; have NB0_101 := n6_; have NB101_0 := n7_; clear n0_ n1_ n2_ n3_ n4_ n5_ n6_ n7_; clear hb hbox hg) | ((with_reducible refine gate_callee (f := 107) rfl ?_); refine goesL_ (some 7) rfl rfl Try.func107 (by kernel_rfl) rfl #[.pointer (some ⟨g, 0, none⟩)] rfl (by (try simp only [List.map_toArray, List.map_cons, List.map_nil]); first | done | rfl | (simp only [List.length_drop, List.length_take]; rfl)) ?_; (with_reducible refine (entry_taker_int.calls g s0_0 s0_1 t102 t103 t104 w0 _ ?side1 ?side2 A2.out).mono ?_); (case side1 => repeat (first | (with_reducible first | exact HI0.out | apply IsS127.alloc | apply IsS127.drewN | apply IsS127.drew | apply IsS127.set_0 | apply IsS127.set_1 | refine IsS127.far ?_ NB0_101.out _) | exact HI0.out)); (case side2 => repeat (first | (with_reducible first | exact HB.out | apply below_alloc | apply pw_below_drewN | apply below_drew1 | refine below_set ?_ (IsS127.ge HI0.out) | refine below_set ?_ GE101.out) | exact HB.out)); rintro e w26 ⟨rfl, hi, hb, hk⟩; refine ⟨_, rfl, ?_⟩; have n0_ := Aside0.mk (KeepBut.blk hk (g' := gb101) (o := .cells #[.bool false, .string (⟨#[]⟩ : ByteArray)] 33 (0, 0)) (by (with_reducible repeat (first | refine blk_drewN ?_ _ | refine blk_drew ?_ | refine blk_alloc ?_ _)); exact BK101.out) NB101_0.out (by simp)); have n1_ := Aside0.mk (KeepBut.trans (by repeat (first | (with_reducible first | exact HK.out | apply KeepBut.set_ | apply keep_drewN | apply keep_drew | apply keep_alloc | refine keep_far ?_ GW101.out _) | exact HK.out)) hk (.inl rfl)); have n2_ := Aside0.mk (hb); have n3_ := Aside0.mk (hi); clear BK101; clear HK; clear HB; clear HI0; have BK101 := n0_; have HK := n1_; have HB := n2_; have HI0 := n3_; clear n0_ n1_ n2_ n3_; (try clear hb); (try clear hb2); (try clear hk); (try clear hi); obtain ⟨HGz27, hgz27⟩ := HI0.out; have hcz27_0 := cellS127_0 HGz27; have hcz27_1 := cellS127_1 HGz27; have hfz27_0 := blk_frozen HGz27 0; have hfz27_1 := blk_frozen HGz27 1; clear HGz27 hgz27; have hnb28 := NB101_0.out; have hnc28 := NB0_101.out; have hcz29_0 : w26.cell? ⟨gb101, 0, none⟩ = some (.bool false) := (blk_cell BK101.out 0).trans rfl; have hcz29_1 : w26.cell? ⟨gb101, 1, none⟩ = some (.string (⟨#[]⟩ : ByteArray)) := (blk_cell BK101.out 1).trans rfl; have hfz29_0 := blk_frozen BK101.out 0; have hfz29_1 := blk_frozen BK101.out 1))
      refine bodyPost_ret (results_cell_row rfl _ _ gb101 33 #[.bool false, .string (⟨#[]⟩ : ByteArray)] (0, 0) _ rfl (by (with_reducible repeat (first | refine blk_drewN ?_ _ | refine blk_drew ?_ | refine blk_alloc ?_ _)); refine blk_put (cs := #[.bool false, .string (⟨#[]⟩ : ByteArray)]) ?_ 1 _ rfl; (with_reducible repeat (first | refine blk_drewN ?_ _ | refine blk_drew ?_ | refine blk_alloc ?_ _)); refine blk_put (cs := #[.bool false, .string (⟨#[]⟩ : ByteArray)]) ?_ 0 _ rfl; (with_reducible repeat (first | refine blk_drewN ?_ _ | refine blk_drew ?_ | refine blk_alloc ?_ _)); refine blk_far ?_ NB101_0.out _; (with_reducible repeat (first | refine blk_drewN ?_ _ | refine blk_drew ?_ | refine blk_alloc ?_ _)); exact BK101.out) Try.underlying33 rfl (by kernel_rfl)) rfl ?_
      exact ⟨by first | rfl | (simp [errW_none, errW_some] <;> rfl) | (simp [*, errW_none, errW_some] <;> rfl), by repeat (first | (with_reducible first | exact HI0.out | apply IsS127.alloc | apply IsS127.drewN | apply IsS127.drew | apply IsS127.set_0 | apply IsS127.set_1 | refine IsS127.far ?_ NB0_101.out _) | exact HI0.out), by repeat (first | (with_reducible first | exact HB.out | apply below_alloc | apply pw_below_drewN | apply below_drew1 | refine below_set ?_ (IsS127.ge HI0.out) | refine below_set ?_ GE101.out) | exact HB.out), by repeat (first | (with_reducible first | exact HK.out | apply KeepBut.set_ | apply keep_drewN | apply keep_drew | apply keep_alloc | refine keep_far ?_ GW101.out _) | exact HK.out)⟩
end Go.Proofs.Ytfjmnaobfbmllaa.M
namespace Go.Proofs.Ytfjmnaobfbmllaa.M
open Go.RowKit Go.Proofs.YtfjmnaobfbmllaaW.PrintWords Go.Proofs.YtfjmnaobfbmllaaW.PrintLast Go.Proofs.YtfjmnaobfbmllaaW.PrintMore
set_option linter.unusedVariables false
set_option linter.unusedSimpArgs false
set_option maxHeartbeats 4000000 in
theorem p13 {cs : Array Value} (w : World) (g : Nat) (k c e n lsn prev p s : Int) (u : Bool) (d : ByteArray) (u2 : Bool) (d2 : ByteArray) (next : Int)
    (h : w.heap[g]? = some (.cells cs 65 (0, 0))) (hs : cs.size = 13 := by rfl) :
    ((((((((((((((w.setCell ⟨g, 0, none⟩ (.int .i64 k)).setCell ⟨g, 1, none⟩ (.int .i64 c)).setCell ⟨g, 2, none⟩ (.int .i64 e)).setCell ⟨g, 3, none⟩ (.int .i64 n)).setCell ⟨g, 4, none⟩ (.int .i64 lsn)).setCell ⟨g, 5, none⟩ (.int .i64 prev)).setCell ⟨g, 6, none⟩ (.int .i64 p)).setCell ⟨g, 7, none⟩ (.int .i64 s)).setCell ⟨g, 8, none⟩ (.bool u)).setCell ⟨g, 9, none⟩ (.string d)).setCell ⟨g, 10, none⟩ (.bool u2)).setCell ⟨g, 11, none⟩ (.string d2)).setCell ⟨g, 12, none⟩ (.int .i64 next))).heap[g]? = some (.cells #[.int .i64 k, .int .i64 c, .int .i64 e, .int .i64 n, .int .i64 lsn, .int .i64 prev, .int .i64 p, .int .i64 s, .bool u, .string d, .bool u2, .string d2, .int .i64 next] 65 (0, 0)) ∧ (∀ q o, w.heap[q]? = some o → q ≠ g → ((((((((((((((w.setCell ⟨g, 0, none⟩ (.int .i64 k)).setCell ⟨g, 1, none⟩ (.int .i64 c)).setCell ⟨g, 2, none⟩ (.int .i64 e)).setCell ⟨g, 3, none⟩ (.int .i64 n)).setCell ⟨g, 4, none⟩ (.int .i64 lsn)).setCell ⟨g, 5, none⟩ (.int .i64 prev)).setCell ⟨g, 6, none⟩ (.int .i64 p)).setCell ⟨g, 7, none⟩ (.int .i64 s)).setCell ⟨g, 8, none⟩ (.bool u)).setCell ⟨g, 9, none⟩ (.string d)).setCell ⟨g, 10, none⟩ (.bool u2)).setCell ⟨g, 11, none⟩ (.string d2)).setCell ⟨g, 12, none⟩ (.int .i64 next))).heap[q]? = some o) ∧
      (∀ w0 : World, Below w0.heap.size w0 w → w0.heap.size ≤ g → Below w0.heap.size w0 ((((((((((((((w.setCell ⟨g, 0, none⟩ (.int .i64 k)).setCell ⟨g, 1, none⟩ (.int .i64 c)).setCell ⟨g, 2, none⟩ (.int .i64 e)).setCell ⟨g, 3, none⟩ (.int .i64 n)).setCell ⟨g, 4, none⟩ (.int .i64 lsn)).setCell ⟨g, 5, none⟩ (.int .i64 prev)).setCell ⟨g, 6, none⟩ (.int .i64 p)).setCell ⟨g, 7, none⟩ (.int .i64 s)).setCell ⟨g, 8, none⟩ (.bool u)).setCell ⟨g, 9, none⟩ (.string d)).setCell ⟨g, 10, none⟩ (.bool u2)).setCell ⟨g, 11, none⟩ (.string d2)).setCell ⟨g, 12, none⟩ (.int .i64 next)))) := by
  refine ⟨?_, ?_, ?_⟩
  · obtain ⟨l⟩ := cs
    match l, hs with
    | [_, _, _, _, _, _, _, _, _, _, _, _, _], _ =>
      have h0 := h
      have h1 := blk_set h0 0 (.int .i64 k)
      have h2 := blk_set h1 1 (.int .i64 c)
      have h3 := blk_set h2 2 (.int .i64 e)
      have h4 := blk_set h3 3 (.int .i64 n)
      have h5 := blk_set h4 4 (.int .i64 lsn)
      have h6 := blk_set h5 5 (.int .i64 prev)
      have h7 := blk_set h6 6 (.int .i64 p)
      have h8 := blk_set h7 7 (.int .i64 s)
      have h9 := blk_set h8 8 (.bool u)
      have h10 := blk_set h9 9 (.string d)
      have h11 := blk_set h10 10 (.bool u2)
      have h12 := blk_set h11 11 (.string d2)
      have h13 := blk_set h12 12 (.int .i64 next)
      simp only [List.setIfInBounds_toArray, List.set_cons_zero, List.set_cons_succ] at h13
      exact h13
  · intro q o hq hne
    repeat refine (Below.heap_setCell _ _ _ q hne).trans ?_
    exact hq
  · intro w0 hb hg
    repeat refine below_set ?_ hg
    exact hb
theorem takerInt_eq (r : ByteArray) (b : Bool) : entry_taker_int.f r b = some (tI r b) := by
  unfold entry_taker_int.f nibTake.f tI
  rw [Option.bind_some]
  cases b with
  | true => rw [if_pos rfl]; simp
  | false => rw [if_neg Bool.false_ne_true]; simp
theorem takerSlot_eq (r : ByteArray) (b : Bool) : entry_taker_slot.f r b = some ((tS r b).1.f0, (tS r b).1.f1, (tS r b).2.1, (tS r b).2.2) := by
  unfold entry_taker_slot.f nibTakeStr.f
  rw [takerInt_eq, Option.bind_some]
  unfold tS
  by_cases h0 : (tI r b).1 = 0
  · rw [if_pos h0, if_pos h0]; rfl
  · rw [if_neg h0, if_neg h0]
    by_cases h1 : (tI r b).1 = 1
    · rw [if_pos h1, if_pos h1, Option.bind_some]
      cases hb : (tI r b).2.2 with
      | true => rw [if_pos rfl]; simp
      | false => rw [if_neg Bool.false_ne_true]; simp
    · rw [if_neg h1, if_neg h1]; rfl
def offF (i : Nat) : Nat := if i = 8 then 12 else i
theorem field_ptr (g i : Nat) (h : i ≤ 8) : (fieldPs g)[i]? = some (.pointer (some ⟨g, offF i, none⟩)) := by
  have : i = 0 ∨ i = 1 ∨ i = 2 ∨ i = 3 ∨ i = 4 ∨ i = 5 ∨ i = 6 ∨ i = 7 ∨ i = 8 := by omega
  rcases this with rfl | rfl | rfl | rfl | rfl | rfl | rfl | rfl | rfl <;> rfl
theorem field_set (x : S65) (i : Nat) (n : Int) (h : i ≤ 8) : (#[.int .i64 x.f0, .int .i64 x.f1.f0, .int .i64 x.f1.f1, .int .i64 x.f1.f2, .int .i64 x.f2, .int .i64 x.f3, .int .i64 x.f4, .int .i64 x.f5, .bool x.f6.f0, .string x.f6.f1, .bool x.f7.f0, .string x.f7.f1, .int .i64 x.f8] : Array Value).setIfInBounds (offF i) (.int .i64 n) = #[.int .i64 (setF x i n).f0, .int .i64 (setF x i n).f1.f0, .int .i64 (setF x i n).f1.f1, .int .i64 (setF x i n).f1.f2, .int .i64 (setF x i n).f2, .int .i64 (setF x i n).f3, .int .i64 (setF x i n).f4, .int .i64 (setF x i n).f5, .bool (setF x i n).f6.f0, .string (setF x i n).f6.f1, .bool (setF x i n).f7.f0, .string (setF x i n).f7.f1, .int .i64 (setF x i n).f8] := by
  have : i = 0 ∨ i = 1 ∨ i = 2 ∨ i = 3 ∨ i = 4 ∨ i = 5 ∨ i = 6 ∨ i = 7 ∨ i = 8 := by omega
  rcases this with rfl | rfl | rfl | rfl | rfl | rfl | rfl | rfl | rfl <;> rfl
theorem field_old (x : S65) (i : Nat) (h : i ≤ 8) : ∃ n : Int, (#[.int .i64 x.f0, .int .i64 x.f1.f0, .int .i64 x.f1.f1, .int .i64 x.f1.f2, .int .i64 x.f2, .int .i64 x.f3, .int .i64 x.f4, .int .i64 x.f5, .bool x.f6.f0, .string x.f6.f1, .bool x.f7.f0, .string x.f7.f1, .int .i64 x.f8] : Array Value)[offF i]? = some (.int .i64 n) := by
  have : i = 0 ∨ i = 1 ∨ i = 2 ∨ i = 3 ∨ i = 4 ∨ i = 5 ∨ i = 6 ∨ i = 7 ∨ i = 8 := by omega
  rcases this with rfl | rfl | rfl | rfl | rfl | rfl | rfl | rfl | rfl <;> exact ⟨_, rfl⟩
set_option maxHeartbeats 8000000 in
set_option maxRecDepth 100000 in
theorem entry_Decode.run (s : ByteArray) (w : World) :
    Calls Try.prog 63 #[.string s] w fun e w' => e = .returned (.tuple #[.agg #[.int .i64 (decG s).1.f0, .int .i64 (decG s).1.f1.f0, .int .i64 (decG s).1.f1.f1, .int .i64 (decG s).1.f1.f2, .int .i64 (decG s).1.f2, .int .i64 (decG s).1.f3, .int .i64 (decG s).1.f4, .int .i64 (decG s).1.f5, .bool (decG s).1.f6.f0, .string (decG s).1.f6.f1, .bool (decG s).1.f7.f0, .string (decG s).1.f7.f1, .int .i64 (decG s).1.f8], .string (decG s).2.1, .int .i64 (decG s).2.2]) ∧ Below w.heap.size w w' := by
  have hu65 := Try.underlying65
  have hu33 := Try.underlying33
  have hu127 := Try.underlying127
  have hu116 := Try.underlying116
  obtain ⟨k, r0, b0, ht⟩ : ∃ k r0 b0, tI s false = (k, r0, b0) := ⟨_, _, _, rfl⟩
  have HT : Aside0 (entry_taker_int.f s false = some (k, r0, b0)) := ⟨by rw [takerInt_eq, ht]⟩
  obtain ⟨m, hm5, hm8, hM⟩ : ∃ m : Nat, 5 ≤ m ∧ m ≤ 8 ∧ (if k = 1 ∨ k = 2 then 9 else 6) = m + 1 := by
    by_cases hk : k = 1 ∨ k = 2
    · exact ⟨8, by omega, by omega, if_pos hk⟩
    · exact ⟨5, by omega, by omega, if_neg hk⟩
  have HM := Aside0.mk hM
  have HG : Aside0 (decG s = decT (decRun m 1 (setF zE 0 k) r0 b0)) := ⟨by
    have : (if k = 1 ∨ k = 2 then 8 else 5) = m := by split at hM <;> (rename_i hc; first | rw [if_pos hc] | rw [if_neg hc]) <;> omega
    unfold decG
    rw [ht]
    simp only
    rw [this]⟩
  clear ht hM
  go_enter Try.func63, Try.ntmps63
  go_wp2_with (first | ((with_reducible refine gate_dst (N := 2) rfl ?_); refine box_event ?hg (N := 2) ?hd (cs := #[.int .i64 0, .int .i64 0, .int .i64 0, .int .i64 0, .int .i64 0, .int .i64 0, .int .i64 0, .int .i64 0, .bool false, .string (⟨#[]⟩ : ByteArray), .bool false, .string (⟨#[]⟩ : ByteArray), .int .i64 0]) (t := 65) ?hr ?_; (case hd => rfl); (case hg => rfl); (case hr => first | (go_simp; done) | (go_simp; rfl)); intro gr hg w1 hbox hb; have BR := Aside0.mk hbox; have HB := Aside0.mk hb; have GR := Aside0.mk (show w.heap.size ≤ gr by rw [hg]; exact Nat.le_refl _); clear hbox hb hg) | ((with_reducible refine gate_dst (N := 11) rfl ?_); refine box_event ?hg (N := 11) ?hd (cs := #[.string s, .bool false]) (t := 127) ?hr ?_; (case hd => rfl); (case hg => rfl); (case hr => first | (go_simp; done) | (go_simp; rfl)); intro gt hg w2 hbox hb; have n0_ := Aside0.mk (blk_below BR.out hb); have n1_ := Aside0.mk (below_step HB.out hb); have IT : Aside0 (IsS127 w w2 gt s false) := ⟨⟨hbox, by rw [hg]; exact HB.out.size⟩⟩; have NRT := Aside0.mk (show gr ≠ gt by have := blk_lt BR.out; omega); clear BR HB; have BR := n0_; have HB := n1_; clear n0_ n1_; clear hbox hb hg) | ((with_reducible refine gate_callee (f := 107) rfl ?_); refine goesL_ (some 13) rfl rfl Try.func107 (by kernel_rfl) rfl #[.pointer (some ⟨gt, 0, none⟩)] rfl (by (try simp only [List.map_toArray, List.map_cons, List.map_nil]); first | done | rfl) ?_; (with_reducible refine (entry_taker_int.calls gt s false k r0 b0 w _ IT.out HB.out HT.out).mono ?_); rintro e w3 ⟨rfl, hi, hb, hk⟩; refine ⟨_, rfl, ?_⟩; have n0_ := Aside0.mk (KeepBut.blk hk BR.out NRT.out (by simp)); have n1_ := Aside0.mk hi; have n2_ := Aside0.mk hb; clear BR IT HB; have BR := n0_; have IT := n1_; have HB := n2_; clear n0_ n1_ n2_; clear hi hb hk) | ((with_reducible refine gate_dst (N := 6) rfl ?_); refine box_event ?hg (N := 6) ?hd (cs := #[.int .i64 0, .int .i64 0, .int .i64 0, .int .i64 0, .int .i64 0, .int .i64 0, .int .i64 0, .int .i64 0, .bool false, .string (⟨#[]⟩ : ByteArray), .bool false, .string (⟨#[]⟩ : ByteArray), .int .i64 0]) (t := 65) ?hr ?_; (case hd => rfl); (case hg => rfl); (case hr => first | (go_simp; done) | (go_simp; rfl)); intro gx hg w4 hbox hb; have n0_ := Aside0.mk (blk_below BR.out hb); have n1_ := Aside0.mk (IsS127.below IT.out hb); have n2_ := Aside0.mk (below_step HB.out hb); have BX := Aside0.mk hbox; have GX := Aside0.mk (show w.heap.size ≤ gx by rw [hg]; exact HB.out.size); have NRX := Aside0.mk (show gr ≠ gx by have := blk_lt BR.out; omega); have NTX := Aside0.mk (show gt ≠ gx by have := IsS127.lt IT.out; omega); clear BR IT HB; have BR := n0_; have IT := n1_; have HB := n2_; clear n0_ n1_ n2_; clear hbox hb hg; have hcx0 : w4.cell? ⟨gx, 0, none⟩ = some (.int .i64 0) := (blk_cell BX.out 0).trans rfl; have hfx0 := blk_frozen BX.out 0; have hcx1 : w4.cell? ⟨gx, 1, none⟩ = some (.int .i64 0) := (blk_cell BX.out 1).trans rfl; have hfx1 := blk_frozen BX.out 1; have hcx2 : w4.cell? ⟨gx, 2, none⟩ = some (.int .i64 0) := (blk_cell BX.out 2).trans rfl; have hfx2 := blk_frozen BX.out 2; have hcx3 : w4.cell? ⟨gx, 3, none⟩ = some (.int .i64 0) := (blk_cell BX.out 3).trans rfl; have hfx3 := blk_frozen BX.out 3; have hcx4 : w4.cell? ⟨gx, 4, none⟩ = some (.int .i64 0) := (blk_cell BX.out 4).trans rfl; have hfx4 := blk_frozen BX.out 4; have hcx5 : w4.cell? ⟨gx, 5, none⟩ = some (.int .i64 0) := (blk_cell BX.out 5).trans rfl; have hfx5 := blk_frozen BX.out 5; have hcx6 : w4.cell? ⟨gx, 6, none⟩ = some (.int .i64 0) := (blk_cell BX.out 6).trans rfl; have hfx6 := blk_frozen BX.out 6; have hcx7 : w4.cell? ⟨gx, 7, none⟩ = some (.int .i64 0) := (blk_cell BX.out 7).trans rfl; have hfx7 := blk_frozen BX.out 7; have hcx8 : w4.cell? ⟨gx, 8, none⟩ = some (.bool false) := (blk_cell BX.out 8).trans rfl; have hfx8 := blk_frozen BX.out 8; have hcx9 : w4.cell? ⟨gx, 9, none⟩ = some (.string (⟨#[]⟩ : ByteArray)) := (blk_cell BX.out 9).trans rfl; have hfx9 := blk_frozen BX.out 9; have hcx10 : w4.cell? ⟨gx, 10, none⟩ = some (.bool false) := (blk_cell BX.out 10).trans rfl; have hfx10 := blk_frozen BX.out 10; have hcx11 : w4.cell? ⟨gx, 11, none⟩ = some (.string (⟨#[]⟩ : ByteArray)) := (blk_cell BX.out 11).trans rfl; have hfx11 := blk_frozen BX.out 11; have hcx12 : w4.cell? ⟨gx, 12, none⟩ = some (.int .i64 0) := (blk_cell BX.out 12).trans rfl; have hfx12 := blk_frozen BX.out 12) | ((with_reducible refine gate_callee (f := 97) rfl ?_); refine goesL_ (some 15) rfl rfl Try.func97 (by kernel_rfl) rfl #[.pointer (some ⟨gx, 0, none⟩)] rfl (by (try simp only [List.map_toArray, List.map_cons, List.map_nil]); first | done | rfl) ?_; (refine (entry_fields.calls gx k _ _ (p13 w4 gx (k) (0) (0) (0) (0) (0) (0) (0) (false) ((⟨#[]⟩ : ByteArray)) (false) ((⟨#[]⟩ : ByteArray)) (0) BX.out).1 ((blk_cell (p13 w4 gx (k) (0) (0) (0) (0) (0) (0) (0) (false) ((⟨#[]⟩ : ByteArray)) (false) ((⟨#[]⟩ : ByteArray)) (0) BX.out).1 0).trans rfl)).mono ?_); rintro e w5 ⟨gf, he, hbh, hlt, hb⟩; rw [show (if k = 1 ∨ k = 2 then 9 else 6) = m + 1 from HM.out] at he; subst he; refine ⟨_, rfl, ?_⟩; have n0_ := Aside0.mk (blk_below ((p13 w4 gx (k) (0) (0) (0) (0) (0) (0) (0) (false) ((⟨#[]⟩ : ByteArray)) (false) ((⟨#[]⟩ : ByteArray)) (0) BX.out).2.1 gr _ BR.out NRX.out) hb); have n1_ : Aside0 (IsS127 w w5 gt r0 b0) := ⟨IsS127.below ⟨(p13 w4 gx (k) (0) (0) (0) (0) (0) (0) (0) (false) ((⟨#[]⟩ : ByteArray)) (false) ((⟨#[]⟩ : ByteArray)) (0) BX.out).2.1 gt _ IT.out.1 NTX.out, IT.out.2⟩ hb⟩; have n2_ := Aside0.mk (below_step ((p13 w4 gx (k) (0) (0) (0) (0) (0) (0) (0) (false) ((⟨#[]⟩ : ByteArray)) (false) ((⟨#[]⟩ : ByteArray)) (0) BX.out).2.2 w HB.out GX.out) hb); have n3_ := Aside0.mk (blk_below (p13 w4 gx (k) (0) (0) (0) (0) (0) (0) (0) (false) ((⟨#[]⟩ : ByteArray)) (false) ((⟨#[]⟩ : ByteArray)) (0) BX.out).1 hb); have BF := Aside0.mk hbh; have hsz := (p13 w4 gx (k) (0) (0) (0) (0) (0) (0) (0) (false) ((⟨#[]⟩ : ByteArray)) (false) ((⟨#[]⟩ : ByteArray)) (0) BX.out).2.1 gr _ BR.out NRX.out; have NXF := Aside0.mk (show gx ≠ gf by have := blk_lt (p13 w4 gx (k) (0) (0) (0) (0) (0) (0) (0) (false) ((⟨#[]⟩ : ByteArray)) (false) ((⟨#[]⟩ : ByteArray)) (0) BX.out).1; omega); have NRF := Aside0.mk (show gr ≠ gf by have := blk_lt hsz; omega); have NTF := Aside0.mk (show gt ≠ gf by have := blk_lt ((p13 w4 gx (k) (0) (0) (0) (0) (0) (0) (0) (false) ((⟨#[]⟩ : ByteArray)) (false) ((⟨#[]⟩ : ByteArray)) (0) BX.out).2.1 gt _ IT.out.1 NTX.out); omega); clear hsz; clear hcx0 hfx0 hcx1 hfx1 hcx2 hfx2 hcx3 hfx3 hcx4 hfx4 hcx5 hfx5 hcx6 hfx6 hcx7 hfx7 hcx8 hfx8 hcx9 hfx9 hcx10 hfx10 hcx11 hfx11 hcx12 hfx12; clear BR IT HB BX; have BR := n0_; have IT := n1_; have HB := n2_; have BX := n3_; clear n0_ n1_ n2_ n3_; clear hbh hlt hb))
  go_loopg [8, 18] m (fun gg v8 v18 wr => ∃ (i : Nat) (x : S65) (r : ByteArray) (b : Bool), i ≤ m ∧ m - i ≤ gg ∧ v18 = .int .i64 i ∧ Aside0 (decRun (m - i) (i + 1) x r b = decRun m 1 (setF zE 0 k) r0 b0) ∧ Aside0 (wr.heap[gx]? = some (.cells #[.int .i64 x.f0, .int .i64 x.f1.f0, .int .i64 x.f1.f1, .int .i64 x.f1.f2, .int .i64 x.f2, .int .i64 x.f3, .int .i64 x.f4, .int .i64 x.f5, .bool x.f6.f0, .string x.f6.f1, .bool x.f7.f0, .string x.f7.f1, .int .i64 x.f8] 65 (0, 0))) ∧ Aside0 (IsS127 w wr gt r b) ∧ Aside0 (wr.heap[gf]? = some (.cells (fieldPs gx) 119 (0, 0))) ∧ Aside0 (wr.heap[gr]? = some (.cells #[.int .i64 0, .int .i64 0, .int .i64 0, .int .i64 0, .int .i64 0, .int .i64 0, .int .i64 0, .int .i64 0, .bool false, .string (⟨#[]⟩ : ByteArray), .bool false, .string (⟨#[]⟩ : ByteArray), .int .i64 0] 65 (0, 0))) ∧ Aside0 (Below w.heap.size w wr))
  case atStart => exact ⟨0, setF zE 0 k, r0, b0, Nat.zero_le _, by omega, rfl, ⟨rfl⟩, ⟨BX.out⟩, IT, BF, BR, HB⟩
  case round =>
    clear BX IT BF BR HB
    obtain ⟨i, x, r, b, hi, hgg, rfl, HR, BX, IT, BF, BR, HB⟩ := hrel
    by_cases hlt : i < m
    · have q0 : (i : Int) < (m : Int) := by omega
      have q1 : (0 : Int) ≤ (i : Int) := by omega
      obtain ⟨n, r1, b1, ht⟩ : ∃ n r1 b1, tI r b = (n, r1, b1) := ⟨_, _, _, rfl⟩
      have HTI : Aside0 (entry_taker_int.f r b = some (n, r1, b1)) := ⟨by rw [takerInt_eq, ht]⟩
      have HR2 : Aside0 (decRun (m - (i + 1)) (i + 1 + 1) (setF x (i + 1) n) r1 b1 = decRun m 1 (setF zE 0 k) r0 b0) := ⟨by
        have := HR.out
        rw [show m - i = (m - (i + 1)) + 1 by omega] at this
        simp only [decRun] at this
        rw [ht] at this
        exact this⟩
      have hp := field_ptr gx (1 + i) (by omega)
      obtain ⟨n0, hold⟩ := field_old x (1 + i) (by omega)
      have hset := field_set x (1 + i) n (by omega)
      rw [show 1 + i = i + 1 by omega] at hp hold hset
      have HS := Aside0.mk hset
      have HO := Aside0.mk hold
      have hcp : wr.cell? ⟨gf, 1 + i, none⟩ = some (.pointer (some ⟨gx, offF (i + 1), none⟩)) := by rw [show 1 + i = i + 1 by omega]; exact (blk_cell BF.out (i + 1)).trans hp
      clear hp hold hset ht HR
      generalize offF (i + 1) = o at *
      go_wp2_with (first | ((with_reducible refine gate_callee (f := 107) rfl ?_); refine goesL_ (some 24) rfl rfl Try.func107 (by kernel_rfl) rfl #[.pointer (some ⟨gt, 0, none⟩)] rfl (by (try simp only [List.map_toArray, List.map_cons, List.map_nil]); first | done | rfl) ?_; (with_reducible refine (entry_taker_int.calls gt r b n r1 b1 w _ IT.out HB.out HTI.out).mono ?_); rintro e w6 ⟨rfl, hi2, hb, hk⟩; refine ⟨_, rfl, ?_⟩; have n0_ := Aside0.mk (KeepBut.blk hk BR.out NRT.out (by simp)); have n1_ := Aside0.mk hi2; have n2_ := Aside0.mk hb; have n3_ := Aside0.mk (KeepBut.blk hk BX.out NTX.out.symm (by simp)); have n4_ := Aside0.mk (KeepBut.blk hk BF.out NTF.out.symm (by simp)); clear BR IT HB BX BF; have BR := n0_; have IT := n1_; have HB := n2_; have BX := n3_; have BF := n4_; clear n0_ n1_ n2_ n3_ n4_; have hcx : w6.cell? ⟨gx, o, none⟩ = some (.int .i64 n0) := (blk_cell BX.out o).trans HO.out; have hfx := blk_frozen BX.out o; clear hi2 hb hk))
      go_roundg (m - (i + 1))
      case measure => omega
      case rel => exact ⟨i + 1, setF x (i + 1) n, r1, b1, by omega, by omega, by go_num, HR2, ⟨by rw [← HS.out]; exact blk_set BX.out o _⟩, ⟨IsS127.far IT.out NTX.out _⟩, ⟨blk_far BF.out NXF.out.symm _⟩, ⟨blk_far BR.out NRX.out _⟩, ⟨below_set HB.out GX.out⟩⟩
    · have hltz : ¬ (i : Int) < (m : Int) := by omega
      have HE : Aside0 (decG s = decT (x, r, b)) := ⟨by
        have := HR.out
        rw [show m - i = 0 by omega] at this
        rw [HG.out, ← this]
        rfl⟩
      clear HR HG HM HT
      have hcx0 : wr.cell? ⟨gx, 0, none⟩ = some (.int .i64 x.f0) := (blk_cell BX.out 0).trans rfl
      go_upto_region 8 with fail
      go_cut [34] (fun v34 wc => v34 = .bool (decide (x.f0 = 1 ∨ x.f0 = 2)) ∧ wc = wr)
      case first =>
        by_cases h1 : x.f0 = 1
        · have e1 : (x.f0 == 1) = true := beq_iff_eq.mpr h1
          have e2 : decide (x.f0 = 1 ∨ x.f0 = 2) = true := decide_eq_true (.inl h1)
          have E2 := Aside0.mk e2
          clear h1 e2
          go_wp2
          go_meet
          exact ⟨by rw [E2.out], rfl⟩
        · by_cases h2 : x.f0 = 2
          · have e1 : (x.f0 == 1) = false := beq_eq_false_iff_ne.mpr h1
            have e3 : (x.f0 == 2) = true := beq_iff_eq.mpr h2
            have E2 : Aside0 (decide (x.f0 = 1 ∨ x.f0 = 2) = true) := ⟨decide_eq_true (.inr h2)⟩
            clear h1 h2
            go_wp2
            go_meet
            exact ⟨by rw [E2.out], rfl⟩
          · have e1 : (x.f0 == 1) = false := beq_eq_false_iff_ne.mpr h1
            have e3 : (x.f0 == 2) = false := beq_eq_false_iff_ne.mpr h2
            have E2 : Aside0 (decide (x.f0 = 1 ∨ x.f0 = 2) = false) := ⟨decide_eq_false (fun h => h.elim h1 h2)⟩
            clear h1 h2
            go_wp2
            go_meet
            exact ⟨by rw [E2.out], rfl⟩
      case rest =>
        obtain ⟨rfl, rfl⟩ := hcut
        clear hcx0
        obtain ⟨ck, hck⟩ : ∃ ck, decide (x.f0 = 1 ∨ x.f0 = 2) = ck := ⟨_, rfl⟩
        rw [hck]
        have HCK := Aside0.mk hck
        clear hck
        go_upto_if 34 with fail
        go_cut [35] (fun v35 wc => ∃ (y : S65) (r2 : ByteArray) (b2 : Bool), Aside0 (decT (x, r, b) = finE y r2 b2) ∧ Aside0 (wc.heap[gx]? = some (.cells #[.int .i64 y.f0, .int .i64 y.f1.f0, .int .i64 y.f1.f1, .int .i64 y.f1.f2, .int .i64 y.f2, .int .i64 y.f3, .int .i64 y.f4, .int .i64 y.f5, .bool y.f6.f0, .string y.f6.f1, .bool y.f7.f0, .string y.f7.f1, .int .i64 y.f8] 65 (0, 0))) ∧ Aside0 (IsS127 w wc gt r2 b2) ∧ Aside0 (wc.heap[gr]? = some (.cells #[.int .i64 0, .int .i64 0, .int .i64 0, .int .i64 0, .int .i64 0, .int .i64 0, .int .i64 0, .int .i64 0, .bool false, .string (⟨#[]⟩ : ByteArray), .bool false, .string (⟨#[]⟩ : ByteArray), .int .i64 0] 65 (0, 0))) ∧ Aside0 (Below w.heap.size w wc))
        case first =>
          cases ck with
          | true =>
            obtain ⟨x1, r1, b1, ht1⟩ : ∃ x1 r1 b1, tS r b = (x1, r1, b1) := ⟨_, _, _, rfl⟩
            obtain ⟨x2, r2, b2, ht2⟩ : ∃ x2 r2 b2, tS r1 b1 = (x2, r2, b2) := ⟨_, _, _, rfl⟩
            have HT1 : Aside0 (entry_taker_slot.f r b = some (x1.f0, x1.f1, r1, b1)) := ⟨by rw [takerSlot_eq, ht1]⟩
            have HT2 : Aside0 (entry_taker_slot.f r1 b1 = some (x2.f0, x2.f1, r2, b2)) := ⟨by rw [takerSlot_eq, ht2]⟩
            have HF : Aside0 (decT (x, r, b) = finE (withS x x1 x2) r2 b2) := ⟨by
              unfold decT
              rw [if_pos (of_decide_eq_true HCK.out)]
              simp only
              rw [ht1]
              simp only
              rw [ht2]⟩
            clear ht1 ht2
            go_wp2_with (first | ((with_reducible refine gate_callee (f := 108) rfl ?_); refine goesL_ (some 36) rfl rfl Try.func108 (by kernel_rfl) rfl #[.pointer (some ⟨gt, 0, none⟩)] rfl (by (try simp only [List.map_toArray, List.map_cons, List.map_nil]); first | done | rfl) ?_; (with_reducible refine (entry_taker_slot.calls gt r b x1.f0 x1.f1 r1 b1 w _ IT.out HB.out HT1.out).mono ?_); rintro e w7 ⟨rfl, hi2, hb, hk⟩; refine ⟨_, rfl, ?_⟩; have n0_ := Aside0.mk (KeepBut.blk hk BR.out NRT.out (by simp)); have n1_ := Aside0.mk hi2; have n2_ := Aside0.mk hb; have n3_ := Aside0.mk (KeepBut.blk hk BX.out NTX.out.symm (by simp)); clear BR IT HB BX; have BR := n0_; have IT := n1_; have HB := n2_; have BX := n3_; clear n0_ n1_ n2_ n3_; have hcy8 : w7.cell? ⟨gx, 8, none⟩ = some (.bool x.f6.f0) := (blk_cell BX.out 8).trans rfl; have hfy8 := blk_frozen BX.out 8; have hcy9 : w7.cell? ⟨gx, 9, none⟩ = some (.string x.f6.f1) := (blk_cell BX.out 9).trans rfl; have hfy9 := blk_frozen BX.out 9; clear hi2 hb hk) | ((with_reducible refine gate_callee (f := 108) rfl ?_); refine goesL_ (some 39) rfl rfl Try.func108 (by kernel_rfl) rfl #[.pointer (some ⟨gt, 0, none⟩)] rfl (by (try simp only [List.map_toArray, List.map_cons, List.map_nil]); first | done | rfl) ?_; (with_reducible refine (entry_taker_slot.calls gt r1 b1 x2.f0 x2.f1 r2 b2 w _ (IsS127.far (IsS127.far IT.out NTX.out _) NTX.out _) (below_set (below_set HB.out GX.out) GX.out) HT2.out).mono ?_); rintro e w8 ⟨rfl, hi2, hb, hk⟩; refine ⟨_, rfl, ?_⟩; have n0_ := Aside0.mk (KeepBut.blk hk (blk_far (blk_far BR.out NRX.out _) NRX.out _) NRT.out (by simp)); have n1_ := Aside0.mk hi2; have n2_ := Aside0.mk hb; have n3_ := Aside0.mk (KeepBut.blk hk (blk_set (blk_set BX.out 8 _) 9 _) NTX.out.symm (by simp)); clear hcy8 hfy8 hcy9 hfy9; clear BR IT HB BX; have BR := n0_; have IT := n1_; have HB := n2_; have BX := n3_; clear n0_ n1_ n2_ n3_; have hcy10 : w8.cell? ⟨gx, 10, none⟩ = some (.bool x.f7.f0) := (blk_cell BX.out 10).trans rfl; have hfy10 := blk_frozen BX.out 10; have hcy11 : w8.cell? ⟨gx, 11, none⟩ = some (.string x.f7.f1) := (blk_cell BX.out 11).trans rfl; have hfy11 := blk_frozen BX.out 11; clear hi2 hb hk))
            go_meet
            exact ⟨withS x x1 x2, r2, b2, HF, ⟨blk_set (blk_set BX.out 10 _) 11 _⟩, ⟨IsS127.far (IsS127.far IT.out NTX.out _) NTX.out _⟩, ⟨blk_far (blk_far BR.out NRX.out _) NRX.out _⟩, ⟨below_set (below_set HB.out GX.out) GX.out⟩⟩
          | false =>
            have HF : Aside0 (decT (x, r, b) = finE x r b) := ⟨by
              unfold decT
              exact if_neg (of_decide_eq_false HCK.out)⟩
            go_wp2
            go_meet
            exact ⟨x, r, b, HF, BX, IT, BR, HB⟩
        case rest =>
          clear BX IT BR HB
          obtain ⟨y, r2, b2, HF, BX, IT, BR, HB⟩ := hcut
          cases b2 with
          | true =>
            have hct := cellS127_1 IT.out.1
            have hcr0 : wc.cell? ⟨gr, 0, none⟩ = some (.int .i64 0) := (blk_cell BR.out 0).trans rfl; have hfr0 := blk_frozen BR.out 0; have hcr1 : wc.cell? ⟨gr, 1, none⟩ = some (.int .i64 0) := (blk_cell BR.out 1).trans rfl; have hfr1 := blk_frozen BR.out 1; have hcr2 : wc.cell? ⟨gr, 2, none⟩ = some (.int .i64 0) := (blk_cell BR.out 2).trans rfl; have hfr2 := blk_frozen BR.out 2; have hcr3 : wc.cell? ⟨gr, 3, none⟩ = some (.int .i64 0) := (blk_cell BR.out 3).trans rfl; have hfr3 := blk_frozen BR.out 3; have hcr4 : wc.cell? ⟨gr, 4, none⟩ = some (.int .i64 0) := (blk_cell BR.out 4).trans rfl; have hfr4 := blk_frozen BR.out 4; have hcr5 : wc.cell? ⟨gr, 5, none⟩ = some (.int .i64 0) := (blk_cell BR.out 5).trans rfl; have hfr5 := blk_frozen BR.out 5; have hcr6 : wc.cell? ⟨gr, 6, none⟩ = some (.int .i64 0) := (blk_cell BR.out 6).trans rfl; have hfr6 := blk_frozen BR.out 6; have hcr7 : wc.cell? ⟨gr, 7, none⟩ = some (.int .i64 0) := (blk_cell BR.out 7).trans rfl; have hfr7 := blk_frozen BR.out 7; have hcr8 : wc.cell? ⟨gr, 8, none⟩ = some (.bool false) := (blk_cell BR.out 8).trans rfl; have hfr8 := blk_frozen BR.out 8; have hcr9 : wc.cell? ⟨gr, 9, none⟩ = some (.string (⟨#[]⟩ : ByteArray)) := (blk_cell BR.out 9).trans rfl; have hfr9 := blk_frozen BR.out 9; have hcr10 : wc.cell? ⟨gr, 10, none⟩ = some (.bool false) := (blk_cell BR.out 10).trans rfl; have hfr10 := blk_frozen BR.out 10; have hcr11 : wc.cell? ⟨gr, 11, none⟩ = some (.string (⟨#[]⟩ : ByteArray)) := (blk_cell BR.out 11).trans rfl; have hfr11 := blk_frozen BR.out 11; have hcr12 : wc.cell? ⟨gr, 12, none⟩ = some (.int .i64 0) := (blk_cell BR.out 12).trans rfl; have hfr12 := blk_frozen BR.out 12
            go_wp2
            refine bodyPost_ret (results_ctt rfl _ _ gr 65 #[.int .i64 0, .int .i64 0, .int .i64 0, .int .i64 0, .int .i64 0, .int .i64 0, .int .i64 0, .int .i64 0, .bool false, .string (⟨#[]⟩ : ByteArray), .bool false, .string (⟨#[]⟩ : ByteArray), .int .i64 0] (0, 0) _ rfl ((p13 wc gr (0) (0) (0) (0) (0) (0) (0) (0) (false) ((⟨#[]⟩ : ByteArray)) (false) ((⟨#[]⟩ : ByteArray)) (0) BR.out).1) Try.underlying65 rfl (by kernel_rfl)) rfl ?_
            exact ⟨by rw [HE.out, HF.out, fin_bad]; rfl, (p13 wc gr (0) (0) (0) (0) (0) (0) (0) (0) (false) ((⟨#[]⟩ : ByteArray)) (false) ((⟨#[]⟩ : ByteArray)) (0) BR.out).2.2 w HB.out GR.out⟩
          | false =>
            by_cases hg : GoodE y
            · have HGD : Aside0 (entGood.f y.f0 y.f1.f0 y.f1.f1 y.f1.f2 y.f2 y.f3 y.f4 y.f5 y.f6.f0 y.f6.f1 y.f7.f0 y.f7.f1 y.f8 = some true) := ⟨congrArg some (decide_eq_true hg)⟩
              have HX : Aside0 (finE y r2 false = (y, r2, 0)) := ⟨by unfold finE; rw [if_pos ⟨rfl, hg⟩]⟩
              clear hg
              have hct := cellS127_1 IT.out.1
              have hcx0 : wc.cell? ⟨gx, 0, none⟩ = some (.int .i64 y.f0) := (blk_cell BX.out 0).trans rfl; have hfx0 := blk_frozen BX.out 0; have hcx1 : wc.cell? ⟨gx, 1, none⟩ = some (.int .i64 y.f1.f0) := (blk_cell BX.out 1).trans rfl; have hfx1 := blk_frozen BX.out 1; have hcx2 : wc.cell? ⟨gx, 2, none⟩ = some (.int .i64 y.f1.f1) := (blk_cell BX.out 2).trans rfl; have hfx2 := blk_frozen BX.out 2; have hcx3 : wc.cell? ⟨gx, 3, none⟩ = some (.int .i64 y.f1.f2) := (blk_cell BX.out 3).trans rfl; have hfx3 := blk_frozen BX.out 3; have hcx4 : wc.cell? ⟨gx, 4, none⟩ = some (.int .i64 y.f2) := (blk_cell BX.out 4).trans rfl; have hfx4 := blk_frozen BX.out 4; have hcx5 : wc.cell? ⟨gx, 5, none⟩ = some (.int .i64 y.f3) := (blk_cell BX.out 5).trans rfl; have hfx5 := blk_frozen BX.out 5; have hcx6 : wc.cell? ⟨gx, 6, none⟩ = some (.int .i64 y.f4) := (blk_cell BX.out 6).trans rfl; have hfx6 := blk_frozen BX.out 6; have hcx7 : wc.cell? ⟨gx, 7, none⟩ = some (.int .i64 y.f5) := (blk_cell BX.out 7).trans rfl; have hfx7 := blk_frozen BX.out 7; have hcx8 : wc.cell? ⟨gx, 8, none⟩ = some (.bool y.f6.f0) := (blk_cell BX.out 8).trans rfl; have hfx8 := blk_frozen BX.out 8; have hcx9 : wc.cell? ⟨gx, 9, none⟩ = some (.string y.f6.f1) := (blk_cell BX.out 9).trans rfl; have hfx9 := blk_frozen BX.out 9; have hcx10 : wc.cell? ⟨gx, 10, none⟩ = some (.bool y.f7.f0) := (blk_cell BX.out 10).trans rfl; have hfx10 := blk_frozen BX.out 10; have hcx11 : wc.cell? ⟨gx, 11, none⟩ = some (.string y.f7.f1) := (blk_cell BX.out 11).trans rfl; have hfx11 := blk_frozen BX.out 11; have hcx12 : wc.cell? ⟨gx, 12, none⟩ = some (.int .i64 y.f8) := (blk_cell BX.out 12).trans rfl; have hfx12 := blk_frozen BX.out 12
              go_wp2_with (first | ((with_reducible refine gate_callee (f := 55) rfl ?_); (refine gate_guard (by rfl) ?_); refine goesL_ (some 47) rfl rfl Try.func55 (by kernel_rfl) rfl #[.agg #[.int .i64 y.f0, .int .i64 y.f1.f0, .int .i64 y.f1.f1, .int .i64 y.f1.f2, .int .i64 y.f2, .int .i64 y.f3, .int .i64 y.f4, .int .i64 y.f5, .bool y.f6.f0, .string y.f6.f1, .bool y.f7.f0, .string y.f7.f1, .int .i64 y.f8]] rfl (by (try simp only [List.map_toArray, List.map_cons, List.map_nil]); first | done | rfl) ?_; (with_reducible refine (entGood.calls y.f0 y.f1.f0 y.f1.f1 y.f1.f2 y.f2 y.f3 y.f4 y.f5 y.f6.f0 y.f6.f1 y.f7.f0 y.f7.f1 y.f8 true _ HGD.out).mono ?_); rintro e w9 ⟨rfl, hb⟩; refine ⟨_, rfl, ?_⟩; have n0_ := Aside0.mk (blk_below BR.out hb); have n1_ := Aside0.mk (IsS127.below IT.out hb); have n2_ := Aside0.mk (below_step HB.out hb); have n3_ := Aside0.mk (blk_below BX.out hb); clear hct; clear hcx0 hfx0 hcx1 hfx1 hcx2 hfx2 hcx3 hfx3 hcx4 hfx4 hcx5 hfx5 hcx6 hfx6 hcx7 hfx7 hcx8 hfx8 hcx9 hfx9 hcx10 hfx10 hcx11 hfx11 hcx12 hfx12; clear BR IT HB BX; have BR := n0_; have IT := n1_; have HB := n2_; have BX := n3_; clear n0_ n1_ n2_ n3_; skip; clear hb))
              have n0_ := Aside0.mk (blk_drew BX.out)
              have n1_ := Aside0.mk (IsS127.drew IT.out)
              have n2_ := Aside0.mk (blk_drew BR.out)
              have n3_ := Aside0.mk (below_drew1 HB.out)
              clear BX IT BR HB
              have BX := n0_
              have IT := n1_
              have BR := n2_
              have HB := n3_
              clear n0_ n1_ n2_ n3_
              refine start_ (n := 8) (S := fun w' => w'.heap[gx]? = some (.cells #[.int .i64 y.f0, .int .i64 y.f1.f0, .int .i64 y.f1.f1, .int .i64 y.f1.f2, .int .i64 y.f2, .int .i64 y.f3, .int .i64 y.f4, .int .i64 y.f5, .bool y.f6.f0, .string y.f6.f1, .bool y.f7.f0, .string y.f7.f1, .int .i64 y.f8] 65 (0, 0)) ∧ w'.heap[gt]? = some (.cells #[.string r2, .bool false] 127 (0, 0))) (ds := []) #[false, false, false, false, false, false, false, false] (by kernel_rfl) rfl rfl ⟨BX.out, IT.out.1⟩ (fun hHeld => ?_)
              generalize w9.drew = w10 at BX IT BR HB hHeld ⊢
              refine pure_ (i := 1) (N := some 52) (v := ?_) (a' := ?_) #[false, true, false, false, false, false, false, false] rfl rfl (by kernel_rfl) (fun _ _ _ h => h) (Or.inl ⟨by rfl, ?_⟩) ?_ ?_
              rotate_left
              · intro w'
                go_simp
                with_reducible rfl
              rotate_left
              · simp only [Act.put, List.setIfInBounds_toArray, List.set_cons_zero, List.set_cons_succ, i64_w, i32_w]
                rfl
              refine pure_ (i := 2) (N := some 53) (v := ?_) (a' := ?_) #[false, true, true, false, false, false, false, false] rfl rfl (by kernel_rfl) (fun _ _ _ h => h) (Or.inl ⟨by rfl, ?_⟩) ?_ ?_
              rotate_left
              · intro w'
                go_simp
                with_reducible rfl
              rotate_left
              · simp only [Act.put, List.setIfInBounds_toArray, List.set_cons_zero, List.set_cons_succ, i64_w, i32_w]
                rfl
              refine pure_ (i := 3) (N := some 54) (v := ?_) (a' := ?_) #[false, true, true, true, false, false, false, false] rfl rfl (by kernel_rfl) (fun _ _ _ h => h) (Or.inl ⟨by rfl, ?_⟩) ?_ ?_
              rotate_left
              · intro w'
                go_simp
                with_reducible rfl
              rotate_left
              · simp only [Act.put, List.setIfInBounds_toArray, List.set_cons_zero, List.set_cons_succ, i64_w, i32_w]
                rfl
              refine take_ (i := 0) (N := some 51) (v := ?_) (a' := ?_) #[true, true, true, true, false, false, false, false] rfl rfl (by kernel_rfl) (fun _ _ _ h => h) (Or.inl ⟨by rfl, ?_⟩) hHeld ?_ ?_
              rotate_left
              · rintro w' ⟨s0, s1⟩
                have hcs0 : w'.cell? ⟨gx, 0, none⟩ = some (.int .i64 y.f0) := (blk_cell s0 0).trans rfl; have hfs0 := blk_frozen s0 0; have hcs1 : w'.cell? ⟨gx, 1, none⟩ = some (.int .i64 y.f1.f0) := (blk_cell s0 1).trans rfl; have hfs1 := blk_frozen s0 1; have hcs2 : w'.cell? ⟨gx, 2, none⟩ = some (.int .i64 y.f1.f1) := (blk_cell s0 2).trans rfl; have hfs2 := blk_frozen s0 2; have hcs3 : w'.cell? ⟨gx, 3, none⟩ = some (.int .i64 y.f1.f2) := (blk_cell s0 3).trans rfl; have hfs3 := blk_frozen s0 3; have hcs4 : w'.cell? ⟨gx, 4, none⟩ = some (.int .i64 y.f2) := (blk_cell s0 4).trans rfl; have hfs4 := blk_frozen s0 4; have hcs5 : w'.cell? ⟨gx, 5, none⟩ = some (.int .i64 y.f3) := (blk_cell s0 5).trans rfl; have hfs5 := blk_frozen s0 5; have hcs6 : w'.cell? ⟨gx, 6, none⟩ = some (.int .i64 y.f4) := (blk_cell s0 6).trans rfl; have hfs6 := blk_frozen s0 6; have hcs7 : w'.cell? ⟨gx, 7, none⟩ = some (.int .i64 y.f5) := (blk_cell s0 7).trans rfl; have hfs7 := blk_frozen s0 7; have hcs8 : w'.cell? ⟨gx, 8, none⟩ = some (.bool y.f6.f0) := (blk_cell s0 8).trans rfl; have hfs8 := blk_frozen s0 8; have hcs9 : w'.cell? ⟨gx, 9, none⟩ = some (.string y.f6.f1) := (blk_cell s0 9).trans rfl; have hfs9 := blk_frozen s0 9; have hcs10 : w'.cell? ⟨gx, 10, none⟩ = some (.bool y.f7.f0) := (blk_cell s0 10).trans rfl; have hfs10 := blk_frozen s0 10; have hcs11 : w'.cell? ⟨gx, 11, none⟩ = some (.string y.f7.f1) := (blk_cell s0 11).trans rfl; have hfs11 := blk_frozen s0 11; have hcs12 : w'.cell? ⟨gx, 12, none⟩ = some (.int .i64 y.f8) := (blk_cell s0 12).trans rfl; have hfs12 := blk_frozen s0 12
                go_simp
                with_reducible rfl
              rotate_left
              · simp only [Act.put, List.setIfInBounds_toArray, List.set_cons_zero, List.set_cons_succ, i64_w, i32_w]
                rfl
              refine take_ (i := 4) (N := some 55) (v := ?_) (a' := ?_) #[true, true, true, true, true, false, false, false] rfl rfl (by kernel_rfl) (fun _ _ _ h => h) (Or.inl ⟨by rfl, ?_⟩) hHeld ?_ ?_
              rotate_left
              · rintro w' ⟨s0, s1⟩
                have t0 := cellS127_0 s1
                go_simp
                with_reducible rfl
              rotate_left
              · simp only [Act.put, List.setIfInBounds_toArray, List.set_cons_zero, List.set_cons_succ, i64_w, i32_w]
                rfl
              refine one_ (i := 5) (N := none) #[true, true, true, true, true, true, false, false] rfl rfl (by kernel_rfl) (by decide) (fun K hK => ?_)
              have hcq0 : w10.cell? ⟨gr, 0, none⟩ = some (.int .i64 0) := (blk_cell BR.out 0).trans rfl; have hfq0 := blk_frozen BR.out 0; have hcq1 : w10.cell? ⟨gr, 1, none⟩ = some (.int .i64 0) := (blk_cell BR.out 1).trans rfl; have hfq1 := blk_frozen BR.out 1; have hcq2 : w10.cell? ⟨gr, 2, none⟩ = some (.int .i64 0) := (blk_cell BR.out 2).trans rfl; have hfq2 := blk_frozen BR.out 2; have hcq3 : w10.cell? ⟨gr, 3, none⟩ = some (.int .i64 0) := (blk_cell BR.out 3).trans rfl; have hfq3 := blk_frozen BR.out 3; have hcq4 : w10.cell? ⟨gr, 4, none⟩ = some (.int .i64 0) := (blk_cell BR.out 4).trans rfl; have hfq4 := blk_frozen BR.out 4; have hcq5 : w10.cell? ⟨gr, 5, none⟩ = some (.int .i64 0) := (blk_cell BR.out 5).trans rfl; have hfq5 := blk_frozen BR.out 5; have hcq6 : w10.cell? ⟨gr, 6, none⟩ = some (.int .i64 0) := (blk_cell BR.out 6).trans rfl; have hfq6 := blk_frozen BR.out 6; have hcq7 : w10.cell? ⟨gr, 7, none⟩ = some (.int .i64 0) := (blk_cell BR.out 7).trans rfl; have hfq7 := blk_frozen BR.out 7; have hcq8 : w10.cell? ⟨gr, 8, none⟩ = some (.bool false) := (blk_cell BR.out 8).trans rfl; have hfq8 := blk_frozen BR.out 8; have hcq9 : w10.cell? ⟨gr, 9, none⟩ = some (.string (⟨#[]⟩ : ByteArray)) := (blk_cell BR.out 9).trans rfl; have hfq9 := blk_frozen BR.out 9; have hcq10 : w10.cell? ⟨gr, 10, none⟩ = some (.bool false) := (blk_cell BR.out 10).trans rfl; have hfq10 := blk_frozen BR.out 10; have hcq11 : w10.cell? ⟨gr, 11, none⟩ = some (.string (⟨#[]⟩ : ByteArray)) := (blk_cell BR.out 11).trans rfl; have hfq11 := blk_frozen BR.out 11; have hcq12 : w10.cell? ⟨gr, 12, none⟩ = some (.int .i64 0) := (blk_cell BR.out 12).trans rfl; have hfq12 := blk_frozen BR.out 12
              refine skip_ (w1 := ?_) (by rfl) rfl ?_ ?_
              rotate_left
              · go_simp
                rfl
              refine hK.out _ _ ⟨(p13 w10 gr (y.f0) (y.f1.f0) (y.f1.f1) (y.f1.f2) (y.f2) (y.f3) (y.f4) (y.f5) (y.f6.f0) (y.f6.f1) (y.f7.f0) (y.f7.f1) (y.f8) BR.out).2.1 gx _ BX.out NRX.out.symm, (p13 w10 gr (y.f0) (y.f1.f0) (y.f1.f1) (y.f1.f2) (y.f2) (y.f3) (y.f4) (y.f5) (y.f6.f0) (y.f6.f1) (y.f7.f0) (y.f7.f1) (y.f8) BR.out).2.1 gt _ IT.out.1 NRT.out.symm⟩ (fun hHeld => ?_)
              clear hK K
              refine pure_ (i := 6) (N := some 3) (v := ?_) (a' := ?_) #[true, true, true, true, true, true, true, false] rfl rfl (by kernel_rfl) (fun _ _ _ h => h) (Or.inl ⟨by rfl, ?_⟩) ?_ ?_
              rotate_left
              · intro w'
                go_simp
                with_reducible rfl
              rotate_left
              · simp only [Act.put, List.setIfInBounds_toArray, List.set_cons_zero, List.set_cons_succ, i64_w, i32_w]
                rfl
              refine pure_ (i := 7) (N := some 4) (v := ?_) (a' := ?_) #[true, true, true, true, true, true, true, true] rfl rfl (by kernel_rfl) (fun _ _ _ h => h) (Or.inl ⟨by rfl, ?_⟩) ?_ ?_
              rotate_left
              · intro w'
                go_simp
                with_reducible rfl
              rotate_left
              · simp only [Act.put, List.setIfInBounds_toArray, List.set_cons_zero, List.set_cons_succ, i64_w, i32_w]
                rfl
              refine done_ (by kernel_rfl) ?_
              try go_wp2
              refine bodyPost_ret (results_ctt rfl _ _ gr 65 #[.int .i64 y.f0, .int .i64 y.f1.f0, .int .i64 y.f1.f1, .int .i64 y.f1.f2, .int .i64 y.f2, .int .i64 y.f3, .int .i64 y.f4, .int .i64 y.f5, .bool y.f6.f0, .string y.f6.f1, .bool y.f7.f0, .string y.f7.f1, .int .i64 y.f8] (0, 0) _ rfl ((p13 w10 gr (y.f0) (y.f1.f0) (y.f1.f1) (y.f1.f2) (y.f2) (y.f3) (y.f4) (y.f5) (y.f6.f0) (y.f6.f1) (y.f7.f0) (y.f7.f1) (y.f8) BR.out).1) Try.underlying65 rfl (by kernel_rfl)) rfl ?_
              exact ⟨by rw [HE.out, HF.out, HX.out]; rfl, (p13 w10 gr (y.f0) (y.f1.f0) (y.f1.f1) (y.f1.f2) (y.f2) (y.f3) (y.f4) (y.f5) (y.f6.f0) (y.f6.f1) (y.f7.f0) (y.f7.f1) (y.f8) BR.out).2.2 w HB.out GR.out⟩
            · have HGD : Aside0 (entGood.f y.f0 y.f1.f0 y.f1.f1 y.f1.f2 y.f2 y.f3 y.f4 y.f5 y.f6.f0 y.f6.f1 y.f7.f0 y.f7.f1 y.f8 = some false) := ⟨congrArg some (decide_eq_false hg)⟩
              have HX : Aside0 (finE y r2 false = (zE, ⟨#[]⟩, 4)) := ⟨by unfold finE; rw [if_neg (fun h => hg h.2)]⟩
              clear hg
              have hct := cellS127_1 IT.out.1
              have hcx0 : wc.cell? ⟨gx, 0, none⟩ = some (.int .i64 y.f0) := (blk_cell BX.out 0).trans rfl; have hfx0 := blk_frozen BX.out 0; have hcx1 : wc.cell? ⟨gx, 1, none⟩ = some (.int .i64 y.f1.f0) := (blk_cell BX.out 1).trans rfl; have hfx1 := blk_frozen BX.out 1; have hcx2 : wc.cell? ⟨gx, 2, none⟩ = some (.int .i64 y.f1.f1) := (blk_cell BX.out 2).trans rfl; have hfx2 := blk_frozen BX.out 2; have hcx3 : wc.cell? ⟨gx, 3, none⟩ = some (.int .i64 y.f1.f2) := (blk_cell BX.out 3).trans rfl; have hfx3 := blk_frozen BX.out 3; have hcx4 : wc.cell? ⟨gx, 4, none⟩ = some (.int .i64 y.f2) := (blk_cell BX.out 4).trans rfl; have hfx4 := blk_frozen BX.out 4; have hcx5 : wc.cell? ⟨gx, 5, none⟩ = some (.int .i64 y.f3) := (blk_cell BX.out 5).trans rfl; have hfx5 := blk_frozen BX.out 5; have hcx6 : wc.cell? ⟨gx, 6, none⟩ = some (.int .i64 y.f4) := (blk_cell BX.out 6).trans rfl; have hfx6 := blk_frozen BX.out 6; have hcx7 : wc.cell? ⟨gx, 7, none⟩ = some (.int .i64 y.f5) := (blk_cell BX.out 7).trans rfl; have hfx7 := blk_frozen BX.out 7; have hcx8 : wc.cell? ⟨gx, 8, none⟩ = some (.bool y.f6.f0) := (blk_cell BX.out 8).trans rfl; have hfx8 := blk_frozen BX.out 8; have hcx9 : wc.cell? ⟨gx, 9, none⟩ = some (.string y.f6.f1) := (blk_cell BX.out 9).trans rfl; have hfx9 := blk_frozen BX.out 9; have hcx10 : wc.cell? ⟨gx, 10, none⟩ = some (.bool y.f7.f0) := (blk_cell BX.out 10).trans rfl; have hfx10 := blk_frozen BX.out 10; have hcx11 : wc.cell? ⟨gx, 11, none⟩ = some (.string y.f7.f1) := (blk_cell BX.out 11).trans rfl; have hfx11 := blk_frozen BX.out 11; have hcx12 : wc.cell? ⟨gx, 12, none⟩ = some (.int .i64 y.f8) := (blk_cell BX.out 12).trans rfl; have hfx12 := blk_frozen BX.out 12
              go_wp2_with (first | ((with_reducible refine gate_callee (f := 55) rfl ?_); (refine gate_guard (by rfl) ?_); refine goesL_ (some 47) rfl rfl Try.func55 (by kernel_rfl) rfl #[.agg #[.int .i64 y.f0, .int .i64 y.f1.f0, .int .i64 y.f1.f1, .int .i64 y.f1.f2, .int .i64 y.f2, .int .i64 y.f3, .int .i64 y.f4, .int .i64 y.f5, .bool y.f6.f0, .string y.f6.f1, .bool y.f7.f0, .string y.f7.f1, .int .i64 y.f8]] rfl (by (try simp only [List.map_toArray, List.map_cons, List.map_nil]); first | done | rfl) ?_; (with_reducible refine (entGood.calls y.f0 y.f1.f0 y.f1.f1 y.f1.f2 y.f2 y.f3 y.f4 y.f5 y.f6.f0 y.f6.f1 y.f7.f0 y.f7.f1 y.f8 false _ HGD.out).mono ?_); rintro e w9 ⟨rfl, hb⟩; refine ⟨_, rfl, ?_⟩; have n0_ := Aside0.mk (blk_below BR.out hb); have n1_ := Aside0.mk (IsS127.below IT.out hb); have n2_ := Aside0.mk (below_step HB.out hb); have n3_ := Aside0.mk (blk_below BX.out hb); clear hct; clear hcx0 hfx0 hcx1 hfx1 hcx2 hfx2 hcx3 hfx3 hcx4 hfx4 hcx5 hfx5 hcx6 hfx6 hcx7 hfx7 hcx8 hfx8 hcx9 hfx9 hcx10 hfx10 hcx11 hfx11 hcx12 hfx12; clear BR IT HB BX; have BR := n0_; have IT := n1_; have HB := n2_; have BX := n3_; clear n0_ n1_ n2_ n3_; have hcr0 : w9.cell? ⟨gr, 0, none⟩ = some (.int .i64 0) := (blk_cell BR.out 0).trans rfl; have hfr0 := blk_frozen BR.out 0; have hcr1 : w9.cell? ⟨gr, 1, none⟩ = some (.int .i64 0) := (blk_cell BR.out 1).trans rfl; have hfr1 := blk_frozen BR.out 1; have hcr2 : w9.cell? ⟨gr, 2, none⟩ = some (.int .i64 0) := (blk_cell BR.out 2).trans rfl; have hfr2 := blk_frozen BR.out 2; have hcr3 : w9.cell? ⟨gr, 3, none⟩ = some (.int .i64 0) := (blk_cell BR.out 3).trans rfl; have hfr3 := blk_frozen BR.out 3; have hcr4 : w9.cell? ⟨gr, 4, none⟩ = some (.int .i64 0) := (blk_cell BR.out 4).trans rfl; have hfr4 := blk_frozen BR.out 4; have hcr5 : w9.cell? ⟨gr, 5, none⟩ = some (.int .i64 0) := (blk_cell BR.out 5).trans rfl; have hfr5 := blk_frozen BR.out 5; have hcr6 : w9.cell? ⟨gr, 6, none⟩ = some (.int .i64 0) := (blk_cell BR.out 6).trans rfl; have hfr6 := blk_frozen BR.out 6; have hcr7 : w9.cell? ⟨gr, 7, none⟩ = some (.int .i64 0) := (blk_cell BR.out 7).trans rfl; have hfr7 := blk_frozen BR.out 7; have hcr8 : w9.cell? ⟨gr, 8, none⟩ = some (.bool false) := (blk_cell BR.out 8).trans rfl; have hfr8 := blk_frozen BR.out 8; have hcr9 : w9.cell? ⟨gr, 9, none⟩ = some (.string (⟨#[]⟩ : ByteArray)) := (blk_cell BR.out 9).trans rfl; have hfr9 := blk_frozen BR.out 9; have hcr10 : w9.cell? ⟨gr, 10, none⟩ = some (.bool false) := (blk_cell BR.out 10).trans rfl; have hfr10 := blk_frozen BR.out 10; have hcr11 : w9.cell? ⟨gr, 11, none⟩ = some (.string (⟨#[]⟩ : ByteArray)) := (blk_cell BR.out 11).trans rfl; have hfr11 := blk_frozen BR.out 11; have hcr12 : w9.cell? ⟨gr, 12, none⟩ = some (.int .i64 0) := (blk_cell BR.out 12).trans rfl; have hfr12 := blk_frozen BR.out 12; clear hb))
              refine bodyPost_ret (results_ctt rfl _ _ gr 65 #[.int .i64 0, .int .i64 0, .int .i64 0, .int .i64 0, .int .i64 0, .int .i64 0, .int .i64 0, .int .i64 0, .bool false, .string (⟨#[]⟩ : ByteArray), .bool false, .string (⟨#[]⟩ : ByteArray), .int .i64 0] (0, 0) _ rfl ((p13 w9 gr (0) (0) (0) (0) (0) (0) (0) (0) (false) ((⟨#[]⟩ : ByteArray)) (false) ((⟨#[]⟩ : ByteArray)) (0) BR.out).1) Try.underlying65 rfl (by kernel_rfl)) rfl ?_
              exact ⟨by rw [HE.out, HF.out, HX.out]; rfl, (p13 w9 gr (0) (0) (0) (0) (0) (0) (0) (0) (false) ((⟨#[]⟩ : ByteArray)) (false) ((⟨#[]⟩ : ByteArray)) (0) BR.out).2.2 w HB.out GR.out⟩
def entTup (q : S65 × ByteArray × Int) : Int × Int × Int × Int × Int × Int × Int × Int × Bool × ByteArray × Bool × ByteArray × Int × ByteArray × Int := (q.1.f0, q.1.f1.f0, q.1.f1.f1, q.1.f1.f2, q.1.f2, q.1.f3, q.1.f4, q.1.f5, q.1.f6.f0, q.1.f6.f1, q.1.f7.f0, q.1.f7.f1, q.1.f8, q.2.1, q.2.2)
def entry_Decode.f (s : ByteArray) : Option (Int × Int × Int × Int × Int × Int × Int × Int × Bool × ByteArray × Bool × ByteArray × Int × ByteArray × Int) := some (entTup (decE s))
theorem entry_Decode.calls (s : ByteArray) (r1 : Int) (r2 : Int) (r3 : Int) (r4 : Int) (r5 : Int) (r6 : Int) (r7 : Int) (r8 : Int) (r9 : Bool) (r10 : ByteArray) (r11 : Bool) (r12 : ByteArray) (r13 : Int) (r14 : ByteArray) (r15 : Int) (w : World) (h : entry_Decode.f s = some (r1, r2, r3, r4, r5, r6, r7, r8, r9, r10, r11, r12, r13, r14, r15)) :
    Calls Try.prog 63 #[.string s] w fun e w' => e = .returned (.tuple #[.agg #[.int .i64 r1, .int .i64 r2, .int .i64 r3, .int .i64 r4, .int .i64 r5, .int .i64 r6, .int .i64 r7, .int .i64 r8, .bool r9, .string r10, .bool r11, .string r12, .int .i64 r13], .string r14, .int .i64 r15]) ∧ Below w.heap.size w w' := by
  unfold entry_Decode.f entTup at h
  rw [← decG_eq] at h
  simp only [Option.some.injEq, Prod.mk.injEq] at h
  obtain ⟨rfl, rfl, rfl, rfl, rfl, rfl, rfl, rfl, rfl, rfl, rfl, rfl, rfl, rfl, rfl⟩ := h
  exact entry_Decode.run s w
end Go.Proofs.Ytfjmnaobfbmllaa.M
namespace Go.Proofs.Ytfjmnaobfbmllaa.M
open Go.RowKit Go.Proofs.YtfjmnaobfbmllaaW.PrintWords Go.Proofs.YtfjmnaobfbmllaaW.PrintLast Go.Proofs.YtfjmnaobfbmllaaW.PrintMore
def ve1 : ByteArray := ⟨#[6, 2, 2, 2, 10, 8]⟩
theorem v51_1 : entEnc.f 3 1 1 1 5 4 0 0 false (⟨#[]⟩ : ByteArray) false (⟨#[]⟩ : ByteArray) 0 = some (ve1, 0) := by decide +kernel
theorem v51_3 : entry_Decode.f (ve1 ++ (⟨#[122]⟩ : ByteArray)) = some (3, 1, 1, 1, 5, 4, 0, 0, false, (⟨#[]⟩ : ByteArray), false, (⟨#[]⟩ : ByteArray), 0, (⟨#[122]⟩ : ByteArray), 0) := by kernel_rfl
theorem v51_4 : entEnc.f 0 0 0 0 0 0 0 0 false (⟨#[]⟩ : ByteArray) false (⟨#[]⟩ : ByteArray) 0 = some ((⟨#[]⟩ : ByteArray), 1) := by decide +kernel
theorem v51_11 : entCost.f 3 1 1 1 5 4 0 0 false (⟨#[]⟩ : ByteArray) false (⟨#[]⟩ : ByteArray) 0 = some 2 := by decide +kernel
theorem v51_13 : entGood.f 3 1 1 1 5 4 0 0 false (⟨#[]⟩ : ByteArray) false (⟨#[]⟩ : ByteArray) 0 = some true := by decide +kernel
end Go.Proofs.Ytfjmnaobfbmllaa.M
namespace Go.Proofs.Ytfjmnaobfbmllaa.M
open Go.RowKit Go.Proofs.YtfjmnaobfbmllaaW.PrintWords Go.Proofs.YtfjmnaobfbmllaaW.PrintLast Go.Proofs.YtfjmnaobfbmllaaW.PrintMore
attribute [local go_sem] max2_int min2_int max_two min_two max_three min_three max_four min_four   -- for this text's walks alone
set_option linter.unusedVariables false
set_option linter.unusedSimpArgs false
attribute [local go_sem high] eqA65
def seneschallaw04_awake.f  : Option (Bool) := (entEnc.f 3 1 1 1 5 4 0 0 false (⟨#[]⟩ : ByteArray) false (⟨#[]⟩ : ByteArray) 0).bind fun bt102 => (if bt102.1.size + 1 ≤ 9223372036854775807 then ((entry_Decode.f (bt102.1 ++ (⟨#[122]⟩ : ByteArray))).bind fun bt104 => ((entEnc.f 0 0 0 0 0 0 0 0 false (⟨#[]⟩ : ByteArray) false (⟨#[]⟩ : ByteArray) 0).bind fun bt120 => (if bt102.1.toList = ([6, 2, 2, 2, 10, 8] : List UInt8) then (if bt102.2 = 0 then (if (bt104.1 == 3 && ((bt104.2.1 == 1 && (bt104.2.2.1 == 1 && (bt104.2.2.2.1 == 1))) && (bt104.2.2.2.2.1 == 5 && (bt104.2.2.2.2.2.1 == 4 && (bt104.2.2.2.2.2.2.1 == 0 && (bt104.2.2.2.2.2.2.2.1 == 0 && ((!bt104.2.2.2.2.2.2.2.2.1 && (bt104.2.2.2.2.2.2.2.2.2.1.toList == ([] : List UInt8))) && ((!bt104.2.2.2.2.2.2.2.2.2.2.1 && (bt104.2.2.2.2.2.2.2.2.2.2.2.1.toList == ([] : List UInt8))) && (bt104.2.2.2.2.2.2.2.2.2.2.2.2.1 == 0))))))))) = true then (if bt104.2.2.2.2.2.2.2.2.2.2.2.2.2.1.toList = ([122] : List UInt8) then (if bt104.2.2.2.2.2.2.2.2.2.2.2.2.2.2 = 0 then (if bt120.2 = 1 then ((entCost.f 3 1 1 1 5 4 0 0 false (⟨#[]⟩ : ByteArray) false (⟨#[]⟩ : ByteArray) 0).bind fun t122 => (if t122 = 2 then ((entGood.f 3 1 1 1 5 4 0 0 false (⟨#[]⟩ : ByteArray) false (⟨#[]⟩ : ByteArray) 0).bind fun t123 => (if t123 = true then ((entKnown.f 1 1 1).bind fun t124 => (some t124)) else (some false))) else (some false))) else (some false)) else (some false)) else (some false)) else (some false)) else (some false)) else (some false)))) else (none))
set_option maxHeartbeats 8000000 in
set_option maxRecDepth 100000 in
theorem seneschallaw04_awake.calls  (r : Bool) (w : World) (h : seneschallaw04_awake.f  = some r) :
    Calls Try.prog 51 #[] w fun e w' => e = .returned (.bool r) ∧ Below w.heap.size w w' := by
  have hu52 := Try.underlying52
  have hu65 := Try.underlying65
  have HB := Aside0.mk (Below.refl w.heap.size w)
  have H : ((entEnc.f 3 1 1 1 5 4 0 0 false (⟨#[]⟩ : ByteArray) false (⟨#[]⟩ : ByteArray) 0).bind fun bt102 => (if bt102.1.size + 1 ≤ 9223372036854775807 then ((entry_Decode.f (bt102.1 ++ (⟨#[122]⟩ : ByteArray))).bind fun bt104 => ((entEnc.f 0 0 0 0 0 0 0 0 false (⟨#[]⟩ : ByteArray) false (⟨#[]⟩ : ByteArray) 0).bind fun bt120 => (if bt102.1.toList = ([6, 2, 2, 2, 10, 8] : List UInt8) then (if bt102.2 = 0 then (if (bt104.1 == 3 && ((bt104.2.1 == 1 && (bt104.2.2.1 == 1 && (bt104.2.2.2.1 == 1))) && (bt104.2.2.2.2.1 == 5 && (bt104.2.2.2.2.2.1 == 4 && (bt104.2.2.2.2.2.2.1 == 0 && (bt104.2.2.2.2.2.2.2.1 == 0 && ((!bt104.2.2.2.2.2.2.2.2.1 && (bt104.2.2.2.2.2.2.2.2.2.1.toList == ([] : List UInt8))) && ((!bt104.2.2.2.2.2.2.2.2.2.2.1 && (bt104.2.2.2.2.2.2.2.2.2.2.2.1.toList == ([] : List UInt8))) && (bt104.2.2.2.2.2.2.2.2.2.2.2.2.1 == 0))))))))) = true then (if bt104.2.2.2.2.2.2.2.2.2.2.2.2.2.1.toList = ([122] : List UInt8) then (if bt104.2.2.2.2.2.2.2.2.2.2.2.2.2.2 = 0 then (if bt120.2 = 1 then ((entCost.f 3 1 1 1 5 4 0 0 false (⟨#[]⟩ : ByteArray) false (⟨#[]⟩ : ByteArray) 0).bind fun t122 => (if t122 = 2 then ((entGood.f 3 1 1 1 5 4 0 0 false (⟨#[]⟩ : ByteArray) false (⟨#[]⟩ : ByteArray) 0).bind fun t123 => (if t123 = true then ((entKnown.f 1 1 1).bind fun t124 => (some t124)) else (some false))) else (some false))) else (some false)) else (some false)) else (some false)) else (some false)) else (some false)) else (some false)))) else (none))) = some r := h
  clear h
  replace H := Option.bind_eq_some_iff.mp H
  obtain ⟨⟨t102, t103⟩, A10, H⟩ := H
  replace H : (if t102.size + 1 ≤ 9223372036854775807 then ((entry_Decode.f (t102 ++ (⟨#[122]⟩ : ByteArray))).bind fun bt104 => ((entEnc.f 0 0 0 0 0 0 0 0 false (⟨#[]⟩ : ByteArray) false (⟨#[]⟩ : ByteArray) 0).bind fun bt120 => (if t102.toList = ([6, 2, 2, 2, 10, 8] : List UInt8) then (if t103 = 0 then (if (bt104.1 == 3 && ((bt104.2.1 == 1 && (bt104.2.2.1 == 1 && (bt104.2.2.2.1 == 1))) && (bt104.2.2.2.2.1 == 5 && (bt104.2.2.2.2.2.1 == 4 && (bt104.2.2.2.2.2.2.1 == 0 && (bt104.2.2.2.2.2.2.2.1 == 0 && ((!bt104.2.2.2.2.2.2.2.2.1 && (bt104.2.2.2.2.2.2.2.2.2.1.toList == ([] : List UInt8))) && ((!bt104.2.2.2.2.2.2.2.2.2.2.1 && (bt104.2.2.2.2.2.2.2.2.2.2.2.1.toList == ([] : List UInt8))) && (bt104.2.2.2.2.2.2.2.2.2.2.2.2.1 == 0))))))))) = true then (if bt104.2.2.2.2.2.2.2.2.2.2.2.2.2.1.toList = ([122] : List UInt8) then (if bt104.2.2.2.2.2.2.2.2.2.2.2.2.2.2 = 0 then (if bt120.2 = 1 then ((entCost.f 3 1 1 1 5 4 0 0 false (⟨#[]⟩ : ByteArray) false (⟨#[]⟩ : ByteArray) 0).bind fun t122 => (if t122 = 2 then ((entGood.f 3 1 1 1 5 4 0 0 false (⟨#[]⟩ : ByteArray) false (⟨#[]⟩ : ByteArray) 0).bind fun t123 => (if t123 = true then ((entKnown.f 1 1 1).bind fun t124 => (some t124)) else (some false))) else (some false))) else (some false)) else (some false)) else (some false)) else (some false)) else (some false)) else (some false)))) else (none)) = some r := H
  have A1 := Aside0.mk A10
  clear A10
  by_cases c2 : t102.size + 1 ≤ 9223372036854775807
  · rw [if_pos c2] at H
    have c2b0 := eq_true c2
    have c2b1 : decide (t102.size + 1 ≤ 9223372036854775807) = true := decide_eq_true c2
    try have c2b2 : (9223372036854775807 < t102.size + 1) = False := eq_false (Nat.not_lt.2 c2)
    replace H := Option.bind_eq_some_iff.mp H
    obtain ⟨⟨t104, t105, t106, t107, t108, t109, t110, t111, t112, t113, t114, t115, t116, t117, t118⟩, A30, H⟩ := H
    replace H : ((entEnc.f 0 0 0 0 0 0 0 0 false (⟨#[]⟩ : ByteArray) false (⟨#[]⟩ : ByteArray) 0).bind fun bt120 => (if t102.toList = ([6, 2, 2, 2, 10, 8] : List UInt8) then (if t103 = 0 then (if (t104 == 3 && ((t105 == 1 && (t106 == 1 && (t107 == 1))) && (t108 == 5 && (t109 == 4 && (t110 == 0 && (t111 == 0 && ((!t112 && (t113.toList == ([] : List UInt8))) && ((!t114 && (t115.toList == ([] : List UInt8))) && (t116 == 0))))))))) = true then (if t117.toList = ([122] : List UInt8) then (if t118 = 0 then (if bt120.2 = 1 then ((entCost.f 3 1 1 1 5 4 0 0 false (⟨#[]⟩ : ByteArray) false (⟨#[]⟩ : ByteArray) 0).bind fun t122 => (if t122 = 2 then ((entGood.f 3 1 1 1 5 4 0 0 false (⟨#[]⟩ : ByteArray) false (⟨#[]⟩ : ByteArray) 0).bind fun t123 => (if t123 = true then ((entKnown.f 1 1 1).bind fun t124 => (some t124)) else (some false))) else (some false))) else (some false)) else (some false)) else (some false)) else (some false)) else (some false)) else (some false))) = some r := H
    have A3 := Aside0.mk A30
    clear A30
    replace H := Option.bind_eq_some_iff.mp H
    obtain ⟨⟨t120, t121⟩, A40, H⟩ := H
    replace H : (if t102.toList = ([6, 2, 2, 2, 10, 8] : List UInt8) then (if t103 = 0 then (if (t104 == 3 && ((t105 == 1 && (t106 == 1 && (t107 == 1))) && (t108 == 5 && (t109 == 4 && (t110 == 0 && (t111 == 0 && ((!t112 && (t113.toList == ([] : List UInt8))) && ((!t114 && (t115.toList == ([] : List UInt8))) && (t116 == 0))))))))) = true then (if t117.toList = ([122] : List UInt8) then (if t118 = 0 then (if t121 = 1 then ((entCost.f 3 1 1 1 5 4 0 0 false (⟨#[]⟩ : ByteArray) false (⟨#[]⟩ : ByteArray) 0).bind fun t122 => (if t122 = 2 then ((entGood.f 3 1 1 1 5 4 0 0 false (⟨#[]⟩ : ByteArray) false (⟨#[]⟩ : ByteArray) 0).bind fun t123 => (if t123 = true then ((entKnown.f 1 1 1).bind fun t124 => (some t124)) else (some false))) else (some false))) else (some false)) else (some false)) else (some false)) else (some false)) else (some false)) else (some false)) = some r := H
    have A4 := Aside0.mk A40
    clear A40
    by_cases c5 : t102.toList = ([6, 2, 2, 2, 10, 8] : List UInt8)
    · rw [if_pos c5] at H
      have c5b0 : (t102.toList == ([6, 2, 2, 2, 10, 8] : List UInt8)) = true := beq_iff_eq.mpr c5
      have c5b1 : (t102.toList != ([6, 2, 2, 2, 10, 8] : List UInt8)) = false := bne_eq_false_iff_eq.mpr c5
      clear c5
      by_cases c6 : t103 = 0
      · rw [if_pos c6] at H
        have c6b0 : (t103 == 0) = true := beq_iff_eq.mpr c6
        have c6b1 : (t103 != 0) = false := bne_eq_false_iff_eq.mpr c6
        clear c6
        by_cases c7 : (t104 == 3 && ((t105 == 1 && (t106 == 1 && (t107 == 1))) && (t108 == 5 && (t109 == 4 && (t110 == 0 && (t111 == 0 && ((!t112 && (t113.toList == ([] : List UInt8))) && ((!t114 && (t115.toList == ([] : List UInt8))) && (t116 == 0))))))))) = true
        · rw [if_pos c7] at H
          have c7b0 : (t104 == 3 && ((t105 == 1 && (t106 == 1 && (t107 == 1))) && (t108 == 5 && (t109 == 4 && (t110 == 0 && (t111 == 0 && ((!t112 && (t113.toList == ([] : List UInt8))) && ((!t114 && (t115.toList == ([] : List UInt8))) && (t116 == 0))))))))) = true := c7
          (try (have c7b1 : decide (t104 = 3 && ((t105 == 1 && (t106 == 1 && (t107 == 1))) && (t108 == 5 && (t109 == 4 && (t110 == 0 && (t111 == 0 && ((!t112 && (t113.toList == ([] : List UInt8))) && ((!t114 && (t115.toList == ([] : List UInt8))) && (t116 == 0))))))))) = true := by simpa using c7))
          (try (have c7b2 : (t104 == 3 && ((t105 == 1 && (t106 == 1 && (t107 == 1))) && (t108 == 5 && (t109 == 4 && (t110 == 0 && (t111 == 0 && ((!t112 && (t113.toList == ([] : List UInt8))) && ((!t114 && (t115.toList == ([] : List UInt8))) && (t116 == 0))))))))) = true := by simpa using c7))
          clear c7
          by_cases c8 : t117.toList = ([122] : List UInt8)
          · rw [if_pos c8] at H
            have c8b0 : (t117.toList == ([122] : List UInt8)) = true := beq_iff_eq.mpr c8
            have c8b1 : (t117.toList != ([122] : List UInt8)) = false := bne_eq_false_iff_eq.mpr c8
            clear c8
            by_cases c9 : t118 = 0
            · rw [if_pos c9] at H
              have c9b0 : (t118 == 0) = true := beq_iff_eq.mpr c9
              have c9b1 : (t118 != 0) = false := bne_eq_false_iff_eq.mpr c9
              clear c9
              by_cases c10 : t121 = 1
              · rw [if_pos c10] at H
                have c10b0 : (t121 == 1) = true := beq_iff_eq.mpr c10
                have c10b1 : (t121 != 1) = false := bne_eq_false_iff_eq.mpr c10
                clear c10
                replace H := Option.bind_eq_some_iff.mp H
                obtain ⟨t122, A110, H⟩ := H
                replace H : (if t122 = 2 then ((entGood.f 3 1 1 1 5 4 0 0 false (⟨#[]⟩ : ByteArray) false (⟨#[]⟩ : ByteArray) 0).bind fun t123 => (if t123 = true then ((entKnown.f 1 1 1).bind fun t124 => (some t124)) else (some false))) else (some false)) = some r := H
                have A11 := Aside0.mk A110
                clear A110
                by_cases c12 : t122 = 2
                · rw [if_pos c12] at H
                  have c12b0 : (t122 == 2) = true := beq_iff_eq.mpr c12
                  have c12b1 : (t122 != 2) = false := bne_eq_false_iff_eq.mpr c12
                  clear c12
                  replace H := Option.bind_eq_some_iff.mp H
                  obtain ⟨t123, A130, H⟩ := H
                  replace H : (if t123 = true then ((entKnown.f 1 1 1).bind fun t124 => (some t124)) else (some false)) = some r := H
                  have A13 := Aside0.mk A130
                  clear A130
                  by_cases c14 : t123 = true
                  · subst c14
                    have H1 : ((entKnown.f 1 1 1).bind fun t124 => (some t124)) = some r := by rw [if_pos rfl] at H; exact H
                    clear H
                    have H := H1
                    clear H1
                    replace H := Option.bind_eq_some_iff.mp H
                    obtain ⟨t124, A150, H⟩ := H
                    replace H : (some t124) = some r := H
                    have A15 := Aside0.mk A150
                    clear A150
                    obtain rfl := Option.some.inj H
                    go_enter Try.func51, Try.ntmps51
                    go_wp2_with (first | ((with_reducible refine gate_dst (N := 1) rfl ?_); refine box_event ?hg (N := 1) ?hd (cs := #[.int .i64 0, .int .i64 0, .int .i64 0, .int .i64 0, .int .i64 0, .int .i64 0, .int .i64 0, .int .i64 0, .bool false, .string (⟨#[]⟩ : ByteArray), .bool false, .string (⟨#[]⟩ : ByteArray), .int .i64 0]) (t := 65) ?hr ?_; (case hd => rfl); (case hg => rfl); (case hr => first | (go_simp; done) | (go_simp; rfl)); intro gb101 hg w16 hbox hb; have n0_ := Aside0.mk (below_step (by repeat (first | (with_reducible first | exact HB.out | apply below_alloc | apply pw_below_drewN | apply below_drew1) | exact HB.out)) hb); have n1_ := Aside0.mk (hbox); have n2_ := Aside0.mk ((by rw [hg]; exact (below_size (by repeat (first | (with_reducible first | exact HB.out | apply below_alloc | apply pw_below_drewN | apply below_drew1) | exact HB.out))) : w.heap.size ≤ gb101)); have n3_ := Aside0.mk ((by rw [hg]; exact (below_size (by repeat (first | (with_reducible first | exact HB.out | apply below_alloc | apply pw_below_drewN | apply below_drew1) | exact HB.out))) : w.heap.size ≤ gb101)); clear HB; have HB := n0_; have BK101 := n1_; have GW101 := n2_; have GE101 := n3_; clear n0_ n1_ n2_ n3_; clear hb hbox hg; have hcz17_0 : w16.cell? ⟨gb101, 0, none⟩ = some (.int .i64 0) := (blk_cell BK101.out 0).trans rfl; have hcz17_1 : w16.cell? ⟨gb101, 1, none⟩ = some (.int .i64 0) := (blk_cell BK101.out 1).trans rfl; have hcz17_2 : w16.cell? ⟨gb101, 2, none⟩ = some (.int .i64 0) := (blk_cell BK101.out 2).trans rfl; have hcz17_3 : w16.cell? ⟨gb101, 3, none⟩ = some (.int .i64 0) := (blk_cell BK101.out 3).trans rfl; have hcz17_4 : w16.cell? ⟨gb101, 4, none⟩ = some (.int .i64 0) := (blk_cell BK101.out 4).trans rfl; have hcz17_5 : w16.cell? ⟨gb101, 5, none⟩ = some (.int .i64 0) := (blk_cell BK101.out 5).trans rfl; have hcz17_6 : w16.cell? ⟨gb101, 6, none⟩ = some (.int .i64 0) := (blk_cell BK101.out 6).trans rfl; have hcz17_7 : w16.cell? ⟨gb101, 7, none⟩ = some (.int .i64 0) := (blk_cell BK101.out 7).trans rfl; have hcz17_8 : w16.cell? ⟨gb101, 8, none⟩ = some (.bool false) := (blk_cell BK101.out 8).trans rfl; have hcz17_9 : w16.cell? ⟨gb101, 9, none⟩ = some (.string (⟨#[]⟩ : ByteArray)) := (blk_cell BK101.out 9).trans rfl; have hcz17_10 : w16.cell? ⟨gb101, 10, none⟩ = some (.bool false) := (blk_cell BK101.out 10).trans rfl; have hcz17_11 : w16.cell? ⟨gb101, 11, none⟩ = some (.string (⟨#[]⟩ : ByteArray)) := (blk_cell BK101.out 11).trans rfl; have hcz17_12 : w16.cell? ⟨gb101, 12, none⟩ = some (.int .i64 0) := (blk_cell BK101.out 12).trans rfl; have hfz17_0 := blk_frozen BK101.out 0; have hfz17_1 := blk_frozen BK101.out 1; have hfz17_2 := blk_frozen BK101.out 2; have hfz17_3 := blk_frozen BK101.out 3; have hfz17_4 := blk_frozen BK101.out 4; have hfz17_5 := blk_frozen BK101.out 5; have hfz17_6 := blk_frozen BK101.out 6; have hfz17_7 := blk_frozen BK101.out 7; have hfz17_8 := blk_frozen BK101.out 8; have hfz17_9 := blk_frozen BK101.out 9; have hfz17_10 := blk_frozen BK101.out 10; have hfz17_11 := blk_frozen BK101.out 11; have hfz17_12 := blk_frozen BK101.out 12) | ((with_reducible refine gate_callee (f := 53) rfl ?_); refine goesL_ (some 13) rfl rfl Try.func53 (by kernel_rfl) rfl #[.agg #[.int .i64 3, .int .i64 1, .int .i64 1, .int .i64 1, .int .i64 5, .int .i64 4, .int .i64 0, .int .i64 0, .bool false, .string (⟨#[]⟩ : ByteArray), .bool false, .string (⟨#[]⟩ : ByteArray), .int .i64 0]] rfl (by (try simp only [List.map_toArray, List.map_cons, List.map_nil]); first | done | rfl | (simp only [List.length_drop, List.length_take]; rfl)) ?_; (with_reducible refine (entEnc.calls 3 1 1 1 5 4 0 0 false (⟨#[]⟩ : ByteArray) false (⟨#[]⟩ : ByteArray) 0 t102 t103 _ A1.out).mono ?_); rintro e w18 ⟨rfl, hb⟩; refine ⟨_, rfl, ?_⟩; have n0_ := Aside0.mk (blk_below (g := gb101) (o := .cells #[.int .i64 3, .int .i64 1, .int .i64 1, .int .i64 1, .int .i64 5, .int .i64 4, .int .i64 0, .int .i64 0, .bool false, .string (⟨#[]⟩ : ByteArray), .bool false, .string (⟨#[]⟩ : ByteArray), .int .i64 0] 65 (0, 0)) (by (with_reducible repeat (first | refine blk_drewN ?_ _ | refine blk_drew ?_ | refine blk_alloc ?_ _)); refine blk_put (cs := #[.int .i64 3, .int .i64 1, .int .i64 1, .int .i64 1, .int .i64 5, .int .i64 4, .int .i64 0, .int .i64 0, .bool false, .string (⟨#[]⟩ : ByteArray), .bool false, .string (⟨#[]⟩ : ByteArray), .int .i64 0]) ?_ 12 _ rfl; (with_reducible repeat (first | refine blk_drewN ?_ _ | refine blk_drew ?_ | refine blk_alloc ?_ _)); refine blk_put (cs := #[.int .i64 3, .int .i64 1, .int .i64 1, .int .i64 1, .int .i64 5, .int .i64 4, .int .i64 0, .int .i64 0, .bool false, .string (⟨#[]⟩ : ByteArray), .bool false, .string (⟨#[]⟩ : ByteArray), .int .i64 0]) ?_ 11 _ rfl; (with_reducible repeat (first | refine blk_drewN ?_ _ | refine blk_drew ?_ | refine blk_alloc ?_ _)); refine blk_put (cs := #[.int .i64 3, .int .i64 1, .int .i64 1, .int .i64 1, .int .i64 5, .int .i64 4, .int .i64 0, .int .i64 0, .bool false, .string (⟨#[]⟩ : ByteArray), .bool false, .string (⟨#[]⟩ : ByteArray), .int .i64 0]) ?_ 10 _ rfl; (with_reducible repeat (first | refine blk_drewN ?_ _ | refine blk_drew ?_ | refine blk_alloc ?_ _)); refine blk_put (cs := #[.int .i64 3, .int .i64 1, .int .i64 1, .int .i64 1, .int .i64 5, .int .i64 4, .int .i64 0, .int .i64 0, .bool false, .string (⟨#[]⟩ : ByteArray), .bool false, .string (⟨#[]⟩ : ByteArray), .int .i64 0]) ?_ 9 _ rfl; (with_reducible repeat (first | refine blk_drewN ?_ _ | refine blk_drew ?_ | refine blk_alloc ?_ _)); refine blk_put (cs := #[.int .i64 3, .int .i64 1, .int .i64 1, .int .i64 1, .int .i64 5, .int .i64 4, .int .i64 0, .int .i64 0, .bool false, .string (⟨#[]⟩ : ByteArray), .bool false, .string (⟨#[]⟩ : ByteArray), .int .i64 0]) ?_ 8 _ rfl; (with_reducible repeat (first | refine blk_drewN ?_ _ | refine blk_drew ?_ | refine blk_alloc ?_ _)); refine blk_put (cs := #[.int .i64 3, .int .i64 1, .int .i64 1, .int .i64 1, .int .i64 5, .int .i64 4, .int .i64 0, .int .i64 0, .bool false, .string (⟨#[]⟩ : ByteArray), .bool false, .string (⟨#[]⟩ : ByteArray), .int .i64 0]) ?_ 7 _ rfl; (with_reducible repeat (first | refine blk_drewN ?_ _ | refine blk_drew ?_ | refine blk_alloc ?_ _)); refine blk_put (cs := #[.int .i64 3, .int .i64 1, .int .i64 1, .int .i64 1, .int .i64 5, .int .i64 4, .int .i64 0, .int .i64 0, .bool false, .string (⟨#[]⟩ : ByteArray), .bool false, .string (⟨#[]⟩ : ByteArray), .int .i64 0]) ?_ 6 _ rfl; (with_reducible repeat (first | refine blk_drewN ?_ _ | refine blk_drew ?_ | refine blk_alloc ?_ _)); refine blk_put (cs := #[.int .i64 3, .int .i64 1, .int .i64 1, .int .i64 1, .int .i64 5, .int .i64 0, .int .i64 0, .int .i64 0, .bool false, .string (⟨#[]⟩ : ByteArray), .bool false, .string (⟨#[]⟩ : ByteArray), .int .i64 0]) ?_ 5 _ rfl; (with_reducible repeat (first | refine blk_drewN ?_ _ | refine blk_drew ?_ | refine blk_alloc ?_ _)); refine blk_put (cs := #[.int .i64 3, .int .i64 1, .int .i64 1, .int .i64 1, .int .i64 0, .int .i64 0, .int .i64 0, .int .i64 0, .bool false, .string (⟨#[]⟩ : ByteArray), .bool false, .string (⟨#[]⟩ : ByteArray), .int .i64 0]) ?_ 4 _ rfl; (with_reducible repeat (first | refine blk_drewN ?_ _ | refine blk_drew ?_ | refine blk_alloc ?_ _)); refine blk_put (cs := #[.int .i64 3, .int .i64 1, .int .i64 1, .int .i64 0, .int .i64 0, .int .i64 0, .int .i64 0, .int .i64 0, .bool false, .string (⟨#[]⟩ : ByteArray), .bool false, .string (⟨#[]⟩ : ByteArray), .int .i64 0]) ?_ 3 _ rfl; (with_reducible repeat (first | refine blk_drewN ?_ _ | refine blk_drew ?_ | refine blk_alloc ?_ _)); refine blk_put (cs := #[.int .i64 3, .int .i64 1, .int .i64 0, .int .i64 0, .int .i64 0, .int .i64 0, .int .i64 0, .int .i64 0, .bool false, .string (⟨#[]⟩ : ByteArray), .bool false, .string (⟨#[]⟩ : ByteArray), .int .i64 0]) ?_ 2 _ rfl; (with_reducible repeat (first | refine blk_drewN ?_ _ | refine blk_drew ?_ | refine blk_alloc ?_ _)); refine blk_put (cs := #[.int .i64 3, .int .i64 0, .int .i64 0, .int .i64 0, .int .i64 0, .int .i64 0, .int .i64 0, .int .i64 0, .bool false, .string (⟨#[]⟩ : ByteArray), .bool false, .string (⟨#[]⟩ : ByteArray), .int .i64 0]) ?_ 1 _ rfl; (with_reducible repeat (first | refine blk_drewN ?_ _ | refine blk_drew ?_ | refine blk_alloc ?_ _)); refine blk_put (cs := #[.int .i64 0, .int .i64 0, .int .i64 0, .int .i64 0, .int .i64 0, .int .i64 0, .int .i64 0, .int .i64 0, .bool false, .string (⟨#[]⟩ : ByteArray), .bool false, .string (⟨#[]⟩ : ByteArray), .int .i64 0]) ?_ 0 _ rfl; (with_reducible repeat (first | refine blk_drewN ?_ _ | refine blk_drew ?_ | refine blk_alloc ?_ _)); exact BK101.out) hb); have n1_ := Aside0.mk (below_step (by repeat (first | (with_reducible first | exact HB.out | apply below_alloc | apply pw_below_drewN | apply below_drew1 | refine below_set ?_ GE101.out) | exact HB.out)) hb); clear BK101; clear HB; have BK101 := n0_; have HB := n1_; clear n0_ n1_; (try clear hb); (try clear hb2); (try clear hk); (try clear hi)) | ((with_reducible refine gate_callee (f := 63) rfl ?_); refine goesL_ (some 19) rfl rfl Try.func63 (by kernel_rfl) rfl #[.string (t102 ++ (⟨#[122]⟩ : ByteArray))] rfl (by (try simp only [List.map_toArray, List.map_cons, List.map_nil]); first | done | rfl | (simp only [List.length_drop, List.length_take]; rfl)) ?_; (with_reducible refine (entry_Decode.calls (t102 ++ (⟨#[122]⟩ : ByteArray)) t104 t105 t106 t107 t108 t109 t110 t111 t112 t113 t114 t115 t116 t117 t118 _ A3.out).mono ?_); rintro e w19 ⟨rfl, hb⟩; refine ⟨_, rfl, ?_⟩; have n0_ := Aside0.mk (blk_below (g := gb101) (o := .cells #[.int .i64 3, .int .i64 1, .int .i64 1, .int .i64 1, .int .i64 5, .int .i64 4, .int .i64 0, .int .i64 0, .bool false, .string (⟨#[]⟩ : ByteArray), .bool false, .string (⟨#[]⟩ : ByteArray), .int .i64 0] 65 (0, 0)) (by (with_reducible repeat (first | refine blk_drewN ?_ _ | refine blk_drew ?_ | refine blk_alloc ?_ _)); exact BK101.out) hb); have n1_ := Aside0.mk (below_step (by repeat (first | (with_reducible first | exact HB.out | apply below_alloc | apply pw_below_drewN | apply below_drew1 | refine below_set ?_ GE101.out) | exact HB.out)) hb); clear BK101; clear HB; have BK101 := n0_; have HB := n1_; clear n0_ n1_; (try clear hb); (try clear hb2); (try clear hk); (try clear hi)) | ((with_reducible refine gate_dst (N := 4) rfl ?_); refine box_event ?hg (N := 4) ?hd (cs := #[.int .i64 0, .int .i64 0, .int .i64 0, .int .i64 0, .int .i64 0, .int .i64 0, .int .i64 0, .int .i64 0, .bool false, .string (⟨#[]⟩ : ByteArray), .bool false, .string (⟨#[]⟩ : ByteArray), .int .i64 0]) (t := 65) ?hr ?_; (case hd => rfl); (case hg => rfl); (case hr => first | (go_simp; done) | (go_simp; rfl)); intro gb119 hg w20 hbox hb; have n0_ := Aside0.mk (blk_below (g := gb101) (o := .cells #[.int .i64 3, .int .i64 1, .int .i64 1, .int .i64 1, .int .i64 5, .int .i64 4, .int .i64 0, .int .i64 0, .bool false, .string (⟨#[]⟩ : ByteArray), .bool false, .string (⟨#[]⟩ : ByteArray), .int .i64 0] 65 (0, 0)) (by (with_reducible repeat (first | refine blk_drewN ?_ _ | refine blk_drew ?_ | refine blk_alloc ?_ _)); exact BK101.out) hb); have n1_ := Aside0.mk (below_step (by repeat (first | (with_reducible first | exact HB.out | apply below_alloc | apply pw_below_drewN | apply below_drew1 | refine below_set ?_ GE101.out) | exact HB.out)) hb); have n2_ := Aside0.mk (hbox); have n3_ := Aside0.mk ((by rw [hg]; exact (below_size (by repeat (first | (with_reducible first | exact HB.out | apply below_alloc | apply pw_below_drewN | apply below_drew1 | refine below_set ?_ GE101.out) | exact HB.out))) : w.heap.size ≤ gb119)); have n4_ := Aside0.mk ((by rw [hg]; exact (below_size (by repeat (first | (with_reducible first | exact HB.out | apply below_alloc | apply pw_below_drewN | apply below_drew1 | refine below_set ?_ GE101.out) | exact HB.out))) : w.heap.size ≤ gb119)); have n5_ := Aside0.mk ((by rw [hg]; exact Nat.ne_of_lt (blk_lt (g := gb101) (o := .cells #[.int .i64 3, .int .i64 1, .int .i64 1, .int .i64 1, .int .i64 5, .int .i64 4, .int .i64 0, .int .i64 0, .bool false, .string (⟨#[]⟩ : ByteArray), .bool false, .string (⟨#[]⟩ : ByteArray), .int .i64 0] 65 (0, 0)) (by (with_reducible repeat (first | refine blk_drewN ?_ _ | refine blk_drew ?_ | refine blk_alloc ?_ _)); exact BK101.out)) : gb101 ≠ gb119)); have n6_ := Aside0.mk ((by rw [hg]; exact Nat.ne_of_gt (blk_lt (g := gb101) (o := .cells #[.int .i64 3, .int .i64 1, .int .i64 1, .int .i64 1, .int .i64 5, .int .i64 4, .int .i64 0, .int .i64 0, .bool false, .string (⟨#[]⟩ : ByteArray), .bool false, .string (⟨#[]⟩ : ByteArray), .int .i64 0] 65 (0, 0)) (by (with_reducible repeat (first | refine blk_drewN ?_ _ | refine blk_drew ?_ | refine blk_alloc ?_ _)); exact BK101.out)) : gb119 ≠ gb101)); clear BK101; clear HB; have BK101 := n0_; have HB := n1_; have BK119 := n2_; have GW119 := n3_; have GE119 := n4_; have NB101_119 := n5_; have NB119_101 := n6_; clear n0_ n1_ n2_ n3_ n4_ n5_ n6_; clear hb hbox hg; have hnb21 := NB119_101.out; have hnc21 := NB101_119.out; have hcz22_0 : w20.cell? ⟨gb119, 0, none⟩ = some (.int .i64 0) := (blk_cell BK119.out 0).trans rfl; have hcz22_1 : w20.cell? ⟨gb119, 1, none⟩ = some (.int .i64 0) := (blk_cell BK119.out 1).trans rfl; have hcz22_2 : w20.cell? ⟨gb119, 2, none⟩ = some (.int .i64 0) := (blk_cell BK119.out 2).trans rfl; have hcz22_3 : w20.cell? ⟨gb119, 3, none⟩ = some (.int .i64 0) := (blk_cell BK119.out 3).trans rfl; have hcz22_4 : w20.cell? ⟨gb119, 4, none⟩ = some (.int .i64 0) := (blk_cell BK119.out 4).trans rfl; have hcz22_5 : w20.cell? ⟨gb119, 5, none⟩ = some (.int .i64 0) := (blk_cell BK119.out 5).trans rfl; have hcz22_6 : w20.cell? ⟨gb119, 6, none⟩ = some (.int .i64 0) := (blk_cell BK119.out 6).trans rfl; have hcz22_7 : w20.cell? ⟨gb119, 7, none⟩ = some (.int .i64 0) := (blk_cell BK119.out 7).trans rfl; have hcz22_8 : w20.cell? ⟨gb119, 8, none⟩ = some (.bool false) := (blk_cell BK119.out 8).trans rfl; have hcz22_9 : w20.cell? ⟨gb119, 9, none⟩ = some (.string (⟨#[]⟩ : ByteArray)) := (blk_cell BK119.out 9).trans rfl; have hcz22_10 : w20.cell? ⟨gb119, 10, none⟩ = some (.bool false) := (blk_cell BK119.out 10).trans rfl; have hcz22_11 : w20.cell? ⟨gb119, 11, none⟩ = some (.string (⟨#[]⟩ : ByteArray)) := (blk_cell BK119.out 11).trans rfl; have hcz22_12 : w20.cell? ⟨gb119, 12, none⟩ = some (.int .i64 0) := (blk_cell BK119.out 12).trans rfl; have hfz22_0 := blk_frozen BK119.out 0; have hfz22_1 := blk_frozen BK119.out 1; have hfz22_2 := blk_frozen BK119.out 2; have hfz22_3 := blk_frozen BK119.out 3; have hfz22_4 := blk_frozen BK119.out 4; have hfz22_5 := blk_frozen BK119.out 5; have hfz22_6 := blk_frozen BK119.out 6; have hfz22_7 := blk_frozen BK119.out 7; have hfz22_8 := blk_frozen BK119.out 8; have hfz22_9 := blk_frozen BK119.out 9; have hfz22_10 := blk_frozen BK119.out 10; have hfz22_11 := blk_frozen BK119.out 11; have hfz22_12 := blk_frozen BK119.out 12) | ((with_reducible refine gate_callee (f := 53) rfl ?_); refine goesL_ (some 25) rfl rfl Try.func53 (by kernel_rfl) rfl #[.agg #[.int .i64 0, .int .i64 0, .int .i64 0, .int .i64 0, .int .i64 0, .int .i64 0, .int .i64 0, .int .i64 0, .bool false, .string (⟨#[]⟩ : ByteArray), .bool false, .string (⟨#[]⟩ : ByteArray), .int .i64 0]] rfl (by (try simp only [List.map_toArray, List.map_cons, List.map_nil]); first | done | rfl | (simp only [List.length_drop, List.length_take]; rfl)) ?_; (with_reducible refine (entEnc.calls 0 0 0 0 0 0 0 0 false (⟨#[]⟩ : ByteArray) false (⟨#[]⟩ : ByteArray) 0 t120 t121 _ A4.out).mono ?_); rintro e w23 ⟨rfl, hb⟩; refine ⟨_, rfl, ?_⟩; have n0_ := Aside0.mk (blk_below (g := gb101) (o := .cells #[.int .i64 3, .int .i64 1, .int .i64 1, .int .i64 1, .int .i64 5, .int .i64 4, .int .i64 0, .int .i64 0, .bool false, .string (⟨#[]⟩ : ByteArray), .bool false, .string (⟨#[]⟩ : ByteArray), .int .i64 0] 65 (0, 0)) (by (with_reducible repeat (first | refine blk_drewN ?_ _ | refine blk_drew ?_ | refine blk_alloc ?_ _)); refine blk_far ?_ NB101_119.out _; (with_reducible repeat (first | refine blk_drewN ?_ _ | refine blk_drew ?_ | refine blk_alloc ?_ _)); refine blk_far ?_ NB101_119.out _; (with_reducible repeat (first | refine blk_drewN ?_ _ | refine blk_drew ?_ | refine blk_alloc ?_ _)); refine blk_far ?_ NB101_119.out _; (with_reducible repeat (first | refine blk_drewN ?_ _ | refine blk_drew ?_ | refine blk_alloc ?_ _)); refine blk_far ?_ NB101_119.out _; (with_reducible repeat (first | refine blk_drewN ?_ _ | refine blk_drew ?_ | refine blk_alloc ?_ _)); refine blk_far ?_ NB101_119.out _; (with_reducible repeat (first | refine blk_drewN ?_ _ | refine blk_drew ?_ | refine blk_alloc ?_ _)); refine blk_far ?_ NB101_119.out _; (with_reducible repeat (first | refine blk_drewN ?_ _ | refine blk_drew ?_ | refine blk_alloc ?_ _)); refine blk_far ?_ NB101_119.out _; (with_reducible repeat (first | refine blk_drewN ?_ _ | refine blk_drew ?_ | refine blk_alloc ?_ _)); refine blk_far ?_ NB101_119.out _; (with_reducible repeat (first | refine blk_drewN ?_ _ | refine blk_drew ?_ | refine blk_alloc ?_ _)); refine blk_far ?_ NB101_119.out _; (with_reducible repeat (first | refine blk_drewN ?_ _ | refine blk_drew ?_ | refine blk_alloc ?_ _)); refine blk_far ?_ NB101_119.out _; (with_reducible repeat (first | refine blk_drewN ?_ _ | refine blk_drew ?_ | refine blk_alloc ?_ _)); refine blk_far ?_ NB101_119.out _; (with_reducible repeat (first | refine blk_drewN ?_ _ | refine blk_drew ?_ | refine blk_alloc ?_ _)); refine blk_far ?_ NB101_119.out _; (with_reducible repeat (first | refine blk_drewN ?_ _ | refine blk_drew ?_ | refine blk_alloc ?_ _)); refine blk_far ?_ NB101_119.out _; (with_reducible repeat (first | refine blk_drewN ?_ _ | refine blk_drew ?_ | refine blk_alloc ?_ _)); exact BK101.out) hb); have n1_ := Aside0.mk (blk_below (g := gb119) (o := .cells #[.int .i64 t104, .int .i64 t105, .int .i64 t106, .int .i64 t107, .int .i64 t108, .int .i64 t109, .int .i64 t110, .int .i64 t111, .bool t112, .string t113, .bool t114, .string t115, .int .i64 t116] 65 (0, 0)) (by (with_reducible repeat (first | refine blk_drewN ?_ _ | refine blk_drew ?_ | refine blk_alloc ?_ _)); refine blk_put (cs := #[.int .i64 t104, .int .i64 t105, .int .i64 t106, .int .i64 t107, .int .i64 t108, .int .i64 t109, .int .i64 t110, .int .i64 t111, .bool t112, .string t113, .bool t114, .string t115, .int .i64 0]) ?_ 12 _ rfl; (with_reducible repeat (first | refine blk_drewN ?_ _ | refine blk_drew ?_ | refine blk_alloc ?_ _)); refine blk_put (cs := #[.int .i64 t104, .int .i64 t105, .int .i64 t106, .int .i64 t107, .int .i64 t108, .int .i64 t109, .int .i64 t110, .int .i64 t111, .bool t112, .string t113, .bool t114, .string (⟨#[]⟩ : ByteArray), .int .i64 0]) ?_ 11 _ rfl; (with_reducible repeat (first | refine blk_drewN ?_ _ | refine blk_drew ?_ | refine blk_alloc ?_ _)); refine blk_put (cs := #[.int .i64 t104, .int .i64 t105, .int .i64 t106, .int .i64 t107, .int .i64 t108, .int .i64 t109, .int .i64 t110, .int .i64 t111, .bool t112, .string t113, .bool false, .string (⟨#[]⟩ : ByteArray), .int .i64 0]) ?_ 10 _ rfl; (with_reducible repeat (first | refine blk_drewN ?_ _ | refine blk_drew ?_ | refine blk_alloc ?_ _)); refine blk_put (cs := #[.int .i64 t104, .int .i64 t105, .int .i64 t106, .int .i64 t107, .int .i64 t108, .int .i64 t109, .int .i64 t110, .int .i64 t111, .bool t112, .string (⟨#[]⟩ : ByteArray), .bool false, .string (⟨#[]⟩ : ByteArray), .int .i64 0]) ?_ 9 _ rfl; (with_reducible repeat (first | refine blk_drewN ?_ _ | refine blk_drew ?_ | refine blk_alloc ?_ _)); refine blk_put (cs := #[.int .i64 t104, .int .i64 t105, .int .i64 t106, .int .i64 t107, .int .i64 t108, .int .i64 t109, .int .i64 t110, .int .i64 t111, .bool false, .string (⟨#[]⟩ : ByteArray), .bool false, .string (⟨#[]⟩ : ByteArray), .int .i64 0]) ?_ 8 _ rfl; (with_reducible repeat (first | refine blk_drewN ?_ _ | refine blk_drew ?_ | refine blk_alloc ?_ _)); refine blk_put (cs := #[.int .i64 t104, .int .i64 t105, .int .i64 t106, .int .i64 t107, .int .i64 t108, .int .i64 t109, .int .i64 t110, .int .i64 0, .bool false, .string (⟨#[]⟩ : ByteArray), .bool false, .string (⟨#[]⟩ : ByteArray), .int .i64 0]) ?_ 7 _ rfl; (with_reducible repeat (first | refine blk_drewN ?_ _ | refine blk_drew ?_ | refine blk_alloc ?_ _)); refine blk_put (cs := #[.int .i64 t104, .int .i64 t105, .int .i64 t106, .int .i64 t107, .int .i64 t108, .int .i64 t109, .int .i64 0, .int .i64 0, .bool false, .string (⟨#[]⟩ : ByteArray), .bool false, .string (⟨#[]⟩ : ByteArray), .int .i64 0]) ?_ 6 _ rfl; (with_reducible repeat (first | refine blk_drewN ?_ _ | refine blk_drew ?_ | refine blk_alloc ?_ _)); refine blk_put (cs := #[.int .i64 t104, .int .i64 t105, .int .i64 t106, .int .i64 t107, .int .i64 t108, .int .i64 0, .int .i64 0, .int .i64 0, .bool false, .string (⟨#[]⟩ : ByteArray), .bool false, .string (⟨#[]⟩ : ByteArray), .int .i64 0]) ?_ 5 _ rfl; (with_reducible repeat (first | refine blk_drewN ?_ _ | refine blk_drew ?_ | refine blk_alloc ?_ _)); refine blk_put (cs := #[.int .i64 t104, .int .i64 t105, .int .i64 t106, .int .i64 t107, .int .i64 0, .int .i64 0, .int .i64 0, .int .i64 0, .bool false, .string (⟨#[]⟩ : ByteArray), .bool false, .string (⟨#[]⟩ : ByteArray), .int .i64 0]) ?_ 4 _ rfl; (with_reducible repeat (first | refine blk_drewN ?_ _ | refine blk_drew ?_ | refine blk_alloc ?_ _)); refine blk_put (cs := #[.int .i64 t104, .int .i64 t105, .int .i64 t106, .int .i64 0, .int .i64 0, .int .i64 0, .int .i64 0, .int .i64 0, .bool false, .string (⟨#[]⟩ : ByteArray), .bool false, .string (⟨#[]⟩ : ByteArray), .int .i64 0]) ?_ 3 _ rfl; (with_reducible repeat (first | refine blk_drewN ?_ _ | refine blk_drew ?_ | refine blk_alloc ?_ _)); refine blk_put (cs := #[.int .i64 t104, .int .i64 t105, .int .i64 0, .int .i64 0, .int .i64 0, .int .i64 0, .int .i64 0, .int .i64 0, .bool false, .string (⟨#[]⟩ : ByteArray), .bool false, .string (⟨#[]⟩ : ByteArray), .int .i64 0]) ?_ 2 _ rfl; (with_reducible repeat (first | refine blk_drewN ?_ _ | refine blk_drew ?_ | refine blk_alloc ?_ _)); refine blk_put (cs := #[.int .i64 t104, .int .i64 0, .int .i64 0, .int .i64 0, .int .i64 0, .int .i64 0, .int .i64 0, .int .i64 0, .bool false, .string (⟨#[]⟩ : ByteArray), .bool false, .string (⟨#[]⟩ : ByteArray), .int .i64 0]) ?_ 1 _ rfl; (with_reducible repeat (first | refine blk_drewN ?_ _ | refine blk_drew ?_ | refine blk_alloc ?_ _)); refine blk_put (cs := #[.int .i64 0, .int .i64 0, .int .i64 0, .int .i64 0, .int .i64 0, .int .i64 0, .int .i64 0, .int .i64 0, .bool false, .string (⟨#[]⟩ : ByteArray), .bool false, .string (⟨#[]⟩ : ByteArray), .int .i64 0]) ?_ 0 _ rfl; (with_reducible repeat (first | refine blk_drewN ?_ _ | refine blk_drew ?_ | refine blk_alloc ?_ _)); exact BK119.out) hb); have n2_ := Aside0.mk (below_step (by repeat (first | (with_reducible first | exact HB.out | apply below_alloc | apply pw_below_drewN | apply below_drew1 | refine below_set ?_ GE101.out | refine below_set ?_ GE119.out) | exact HB.out)) hb); clear BK101; clear BK119; clear HB; have BK101 := n0_; have BK119 := n1_; have HB := n2_; clear n0_ n1_ n2_; (try clear hb); (try clear hb2); (try clear hk); (try clear hi); have hcz24_0 : w23.cell? ⟨gb119, 0, none⟩ = some (.int .i64 t104) := (blk_cell BK119.out 0).trans rfl; have hcz24_1 : w23.cell? ⟨gb119, 1, none⟩ = some (.int .i64 t105) := (blk_cell BK119.out 1).trans rfl; have hcz24_2 : w23.cell? ⟨gb119, 2, none⟩ = some (.int .i64 t106) := (blk_cell BK119.out 2).trans rfl; have hcz24_3 : w23.cell? ⟨gb119, 3, none⟩ = some (.int .i64 t107) := (blk_cell BK119.out 3).trans rfl; have hcz24_4 : w23.cell? ⟨gb119, 4, none⟩ = some (.int .i64 t108) := (blk_cell BK119.out 4).trans rfl; have hcz24_5 : w23.cell? ⟨gb119, 5, none⟩ = some (.int .i64 t109) := (blk_cell BK119.out 5).trans rfl; have hcz24_6 : w23.cell? ⟨gb119, 6, none⟩ = some (.int .i64 t110) := (blk_cell BK119.out 6).trans rfl; have hcz24_7 : w23.cell? ⟨gb119, 7, none⟩ = some (.int .i64 t111) := (blk_cell BK119.out 7).trans rfl; have hcz24_8 : w23.cell? ⟨gb119, 8, none⟩ = some (.bool t112) := (blk_cell BK119.out 8).trans rfl; have hcz24_9 : w23.cell? ⟨gb119, 9, none⟩ = some (.string t113) := (blk_cell BK119.out 9).trans rfl; have hcz24_10 : w23.cell? ⟨gb119, 10, none⟩ = some (.bool t114) := (blk_cell BK119.out 10).trans rfl; have hcz24_11 : w23.cell? ⟨gb119, 11, none⟩ = some (.string t115) := (blk_cell BK119.out 11).trans rfl; have hcz24_12 : w23.cell? ⟨gb119, 12, none⟩ = some (.int .i64 t116) := (blk_cell BK119.out 12).trans rfl; have hfz24_0 := blk_frozen BK119.out 0; have hfz24_1 := blk_frozen BK119.out 1; have hfz24_2 := blk_frozen BK119.out 2; have hfz24_3 := blk_frozen BK119.out 3; have hfz24_4 := blk_frozen BK119.out 4; have hfz24_5 := blk_frozen BK119.out 5; have hfz24_6 := blk_frozen BK119.out 6; have hfz24_7 := blk_frozen BK119.out 7; have hfz24_8 := blk_frozen BK119.out 8; have hfz24_9 := blk_frozen BK119.out 9; have hfz24_10 := blk_frozen BK119.out 10; have hfz24_11 := blk_frozen BK119.out 11; have hfz24_12 := blk_frozen BK119.out 12; have hcz25_0 : w23.cell? ⟨gb101, 0, none⟩ = some (.int .i64 3) := (blk_cell BK101.out 0).trans rfl; have hcz25_1 : w23.cell? ⟨gb101, 1, none⟩ = some (.int .i64 1) := (blk_cell BK101.out 1).trans rfl; have hcz25_2 : w23.cell? ⟨gb101, 2, none⟩ = some (.int .i64 1) := (blk_cell BK101.out 2).trans rfl; have hcz25_3 : w23.cell? ⟨gb101, 3, none⟩ = some (.int .i64 1) := (blk_cell BK101.out 3).trans rfl; have hcz25_4 : w23.cell? ⟨gb101, 4, none⟩ = some (.int .i64 5) := (blk_cell BK101.out 4).trans rfl; have hcz25_5 : w23.cell? ⟨gb101, 5, none⟩ = some (.int .i64 4) := (blk_cell BK101.out 5).trans rfl; have hcz25_6 : w23.cell? ⟨gb101, 6, none⟩ = some (.int .i64 0) := (blk_cell BK101.out 6).trans rfl; have hcz25_7 : w23.cell? ⟨gb101, 7, none⟩ = some (.int .i64 0) := (blk_cell BK101.out 7).trans rfl; have hcz25_8 : w23.cell? ⟨gb101, 8, none⟩ = some (.bool false) := (blk_cell BK101.out 8).trans rfl; have hcz25_9 : w23.cell? ⟨gb101, 9, none⟩ = some (.string (⟨#[]⟩ : ByteArray)) := (blk_cell BK101.out 9).trans rfl; have hcz25_10 : w23.cell? ⟨gb101, 10, none⟩ = some (.bool false) := (blk_cell BK101.out 10).trans rfl; have hcz25_11 : w23.cell? ⟨gb101, 11, none⟩ = some (.string (⟨#[]⟩ : ByteArray)) := (blk_cell BK101.out 11).trans rfl; have hcz25_12 : w23.cell? ⟨gb101, 12, none⟩ = some (.int .i64 0) := (blk_cell BK101.out 12).trans rfl; have hfz25_0 := blk_frozen BK101.out 0; have hfz25_1 := blk_frozen BK101.out 1; have hfz25_2 := blk_frozen BK101.out 2; have hfz25_3 := blk_frozen BK101.out 3; have hfz25_4 := blk_frozen BK101.out 4; have hfz25_5 := blk_frozen BK101.out 5; have hfz25_6 := blk_frozen BK101.out 6; have hfz25_7 := blk_frozen BK101.out 7; have hfz25_8 := blk_frozen BK101.out 8; have hfz25_9 := blk_frozen BK101.out 9; have hfz25_10 := blk_frozen BK101.out 10; have hfz25_11 := blk_frozen BK101.out 11; have hfz25_12 := blk_frozen BK101.out 12) | (go_at_call 57; (with_reducible refine (entCost.calls 3 1 1 1 5 4 0 0 false (⟨#[]⟩ : ByteArray) false (⟨#[]⟩ : ByteArray) 0 t122 _ A11.out).mono ?_); rintro e w26 ⟨rfl, hb⟩; have n0_ := Aside0.mk (blk_below (g := gb101) (o := .cells #[.int .i64 3, .int .i64 1, .int .i64 1, .int .i64 1, .int .i64 5, .int .i64 4, .int .i64 0, .int .i64 0, .bool false, .string (⟨#[]⟩ : ByteArray), .bool false, .string (⟨#[]⟩ : ByteArray), .int .i64 0] 65 (0, 0)) (by (with_reducible repeat (first | refine blk_drewN ?_ _ | refine blk_drew ?_ | refine blk_alloc ?_ _)); exact BK101.out) hb); have n1_ := Aside0.mk (blk_below (g := gb119) (o := .cells #[.int .i64 t104, .int .i64 t105, .int .i64 t106, .int .i64 t107, .int .i64 t108, .int .i64 t109, .int .i64 t110, .int .i64 t111, .bool t112, .string t113, .bool t114, .string t115, .int .i64 t116] 65 (0, 0)) (by (with_reducible repeat (first | refine blk_drewN ?_ _ | refine blk_drew ?_ | refine blk_alloc ?_ _)); exact BK119.out) hb); have n2_ := Aside0.mk (below_step (by repeat (first | (with_reducible first | exact HB.out | apply below_alloc | apply pw_below_drewN | apply below_drew1 | refine below_set ?_ GE101.out | refine below_set ?_ GE119.out) | exact HB.out)) hb); clear BK101; clear BK119; clear HB; have BK101 := n0_; have BK119 := n1_; have HB := n2_; clear n0_ n1_ n2_; (try clear hb); (try clear hb2); (try clear hk); (try clear hi); have hcz27_0 : w26.cell? ⟨gb101, 0, none⟩ = some (.int .i64 3) := (blk_cell BK101.out 0).trans rfl; have hcz27_1 : w26.cell? ⟨gb101, 1, none⟩ = some (.int .i64 1) := (blk_cell BK101.out 1).trans rfl; have hcz27_2 : w26.cell? ⟨gb101, 2, none⟩ = some (.int .i64 1) := (blk_cell BK101.out 2).trans rfl; have hcz27_3 : w26.cell? ⟨gb101, 3, none⟩ = some (.int .i64 1) := (blk_cell BK101.out 3).trans rfl; have hcz27_4 : w26.cell? ⟨gb101, 4, none⟩ = some (.int .i64 5) := (blk_cell BK101.out 4).trans rfl; have hcz27_5 : w26.cell? ⟨gb101, 5, none⟩ = some (.int .i64 4) := (blk_cell BK101.out 5).trans rfl; have hcz27_6 : w26.cell? ⟨gb101, 6, none⟩ = some (.int .i64 0) := (blk_cell BK101.out 6).trans rfl; have hcz27_7 : w26.cell? ⟨gb101, 7, none⟩ = some (.int .i64 0) := (blk_cell BK101.out 7).trans rfl; have hcz27_8 : w26.cell? ⟨gb101, 8, none⟩ = some (.bool false) := (blk_cell BK101.out 8).trans rfl; have hcz27_9 : w26.cell? ⟨gb101, 9, none⟩ = some (.string (⟨#[]⟩ : ByteArray)) := (blk_cell BK101.out 9).trans rfl; have hcz27_10 : w26.cell? ⟨gb101, 10, none⟩ = some (.bool false) := (blk_cell BK101.out 10).trans rfl; have hcz27_11 : w26.cell? ⟨gb101, 11, none⟩ = some (.string (⟨#[]⟩ : ByteArray)) := (blk_cell BK101.out 11).trans rfl; have hcz27_12 : w26.cell? ⟨gb101, 12, none⟩ = some (.int .i64 0) := (blk_cell BK101.out 12).trans rfl; have hfz27_0 := blk_frozen BK101.out 0; have hfz27_1 := blk_frozen BK101.out 1; have hfz27_2 := blk_frozen BK101.out 2; have hfz27_3 := blk_frozen BK101.out 3; have hfz27_4 := blk_frozen BK101.out 4; have hfz27_5 := blk_frozen BK101.out 5; have hfz27_6 := blk_frozen BK101.out 6; have hfz27_7 := blk_frozen BK101.out 7; have hfz27_8 := blk_frozen BK101.out 8; have hfz27_9 := blk_frozen BK101.out 9; have hfz27_10 := blk_frozen BK101.out 10; have hfz27_11 := blk_frozen BK101.out 11; have hfz27_12 := blk_frozen BK101.out 12) | (go_at_call 55; (with_reducible refine (entGood.calls 3 1 1 1 5 4 0 0 false (⟨#[]⟩ : ByteArray) false (⟨#[]⟩ : ByteArray) 0 true _ A13.out).mono ?_); rintro e w28 ⟨rfl, hb⟩; have n0_ := Aside0.mk (blk_below (g := gb101) (o := .cells #[.int .i64 3, .int .i64 1, .int .i64 1, .int .i64 1, .int .i64 5, .int .i64 4, .int .i64 0, .int .i64 0, .bool false, .string (⟨#[]⟩ : ByteArray), .bool false, .string (⟨#[]⟩ : ByteArray), .int .i64 0] 65 (0, 0)) (by (with_reducible repeat (first | refine blk_drewN ?_ _ | refine blk_drew ?_ | refine blk_alloc ?_ _)); exact BK101.out) hb); have n1_ := Aside0.mk (blk_below (g := gb119) (o := .cells #[.int .i64 t104, .int .i64 t105, .int .i64 t106, .int .i64 t107, .int .i64 t108, .int .i64 t109, .int .i64 t110, .int .i64 t111, .bool t112, .string t113, .bool t114, .string t115, .int .i64 t116] 65 (0, 0)) (by (with_reducible repeat (first | refine blk_drewN ?_ _ | refine blk_drew ?_ | refine blk_alloc ?_ _)); exact BK119.out) hb); have n2_ := Aside0.mk (below_step (by repeat (first | (with_reducible first | exact HB.out | apply below_alloc | apply pw_below_drewN | apply below_drew1 | refine below_set ?_ GE101.out | refine below_set ?_ GE119.out) | exact HB.out)) hb); clear BK101; clear BK119; clear HB; have BK101 := n0_; have BK119 := n1_; have HB := n2_; clear n0_ n1_ n2_; (try clear hb); (try clear hb2); (try clear hk); (try clear hi); have hcz29_0 : w28.cell? ⟨gb101, 0, none⟩ = some (.int .i64 3) := (blk_cell BK101.out 0).trans rfl; have hcz29_1 : w28.cell? ⟨gb101, 1, none⟩ = some (.int .i64 1) := (blk_cell BK101.out 1).trans rfl; have hcz29_2 : w28.cell? ⟨gb101, 2, none⟩ = some (.int .i64 1) := (blk_cell BK101.out 2).trans rfl; have hcz29_3 : w28.cell? ⟨gb101, 3, none⟩ = some (.int .i64 1) := (blk_cell BK101.out 3).trans rfl; have hcz29_4 : w28.cell? ⟨gb101, 4, none⟩ = some (.int .i64 5) := (blk_cell BK101.out 4).trans rfl; have hcz29_5 : w28.cell? ⟨gb101, 5, none⟩ = some (.int .i64 4) := (blk_cell BK101.out 5).trans rfl; have hcz29_6 : w28.cell? ⟨gb101, 6, none⟩ = some (.int .i64 0) := (blk_cell BK101.out 6).trans rfl; have hcz29_7 : w28.cell? ⟨gb101, 7, none⟩ = some (.int .i64 0) := (blk_cell BK101.out 7).trans rfl; have hcz29_8 : w28.cell? ⟨gb101, 8, none⟩ = some (.bool false) := (blk_cell BK101.out 8).trans rfl; have hcz29_9 : w28.cell? ⟨gb101, 9, none⟩ = some (.string (⟨#[]⟩ : ByteArray)) := (blk_cell BK101.out 9).trans rfl; have hcz29_10 : w28.cell? ⟨gb101, 10, none⟩ = some (.bool false) := (blk_cell BK101.out 10).trans rfl; have hcz29_11 : w28.cell? ⟨gb101, 11, none⟩ = some (.string (⟨#[]⟩ : ByteArray)) := (blk_cell BK101.out 11).trans rfl; have hcz29_12 : w28.cell? ⟨gb101, 12, none⟩ = some (.int .i64 0) := (blk_cell BK101.out 12).trans rfl; have hfz29_0 := blk_frozen BK101.out 0; have hfz29_1 := blk_frozen BK101.out 1; have hfz29_2 := blk_frozen BK101.out 2; have hfz29_3 := blk_frozen BK101.out 3; have hfz29_4 := blk_frozen BK101.out 4; have hfz29_5 := blk_frozen BK101.out 5; have hfz29_6 := blk_frozen BK101.out 6; have hfz29_7 := blk_frozen BK101.out 7; have hfz29_8 := blk_frozen BK101.out 8; have hfz29_9 := blk_frozen BK101.out 9; have hfz29_10 := blk_frozen BK101.out 10; have hfz29_11 := blk_frozen BK101.out 11; have hfz29_12 := blk_frozen BK101.out 12) | (go_at_call 59; (with_reducible refine (entKnown.calls 1 1 1 t124 _ A15.out).mono ?_); rintro e w30 ⟨rfl, hb⟩; have n0_ := Aside0.mk (blk_below (g := gb101) (o := .cells #[.int .i64 3, .int .i64 1, .int .i64 1, .int .i64 1, .int .i64 5, .int .i64 4, .int .i64 0, .int .i64 0, .bool false, .string (⟨#[]⟩ : ByteArray), .bool false, .string (⟨#[]⟩ : ByteArray), .int .i64 0] 65 (0, 0)) (by (with_reducible repeat (first | refine blk_drewN ?_ _ | refine blk_drew ?_ | refine blk_alloc ?_ _)); exact BK101.out) hb); have n1_ := Aside0.mk (blk_below (g := gb119) (o := .cells #[.int .i64 t104, .int .i64 t105, .int .i64 t106, .int .i64 t107, .int .i64 t108, .int .i64 t109, .int .i64 t110, .int .i64 t111, .bool t112, .string t113, .bool t114, .string t115, .int .i64 t116] 65 (0, 0)) (by (with_reducible repeat (first | refine blk_drewN ?_ _ | refine blk_drew ?_ | refine blk_alloc ?_ _)); exact BK119.out) hb); have n2_ := Aside0.mk (below_step (by repeat (first | (with_reducible first | exact HB.out | apply below_alloc | apply pw_below_drewN | apply below_drew1 | refine below_set ?_ GE101.out | refine below_set ?_ GE119.out) | exact HB.out)) hb); clear BK101; clear BK119; clear HB; have BK101 := n0_; have BK119 := n1_; have HB := n2_; clear n0_ n1_ n2_; (try clear hb); (try clear hb2); (try clear hk); (try clear hi)))
                    go_ret
                    exact ⟨by first | rfl | (simp [errW_none, errW_some] <;> rfl) | (simp [*, errW_none, errW_some] <;> rfl), by repeat (first | (with_reducible first | exact HB.out | apply below_alloc | apply pw_below_drewN | apply below_drew1 | refine below_set ?_ GE101.out | refine below_set ?_ GE119.out) | exact HB.out)⟩
                    exfalso; rename_i hq_; exact hq_ (by simpa using c7b0)
                  · exfalso; have q_ := Option.some.inj (A1.out.symm.trans v51_1); simp only [Prod.mk.injEq] at q_; obtain ⟨rfl, rfl⟩ := q_; have q_ := Option.some.inj (A3.out.symm.trans v51_3); simp only [Prod.mk.injEq] at q_; obtain ⟨rfl, rfl, rfl, rfl, rfl, rfl, rfl, rfl, rfl, rfl, rfl, rfl, rfl, rfl, rfl⟩ := q_; have q_ := Option.some.inj (A4.out.symm.trans v51_4); simp only [Prod.mk.injEq] at q_; obtain ⟨rfl, rfl⟩ := q_; have q_ := Option.some.inj (A11.out.symm.trans v51_11); subst q_; have q_ := Option.some.inj (A13.out.symm.trans v51_13); subst q_; exact c14 (by decide +kernel)
                · exfalso; have q_ := Option.some.inj (A1.out.symm.trans v51_1); simp only [Prod.mk.injEq] at q_; obtain ⟨rfl, rfl⟩ := q_; have q_ := Option.some.inj (A3.out.symm.trans v51_3); simp only [Prod.mk.injEq] at q_; obtain ⟨rfl, rfl, rfl, rfl, rfl, rfl, rfl, rfl, rfl, rfl, rfl, rfl, rfl, rfl, rfl⟩ := q_; have q_ := Option.some.inj (A4.out.symm.trans v51_4); simp only [Prod.mk.injEq] at q_; obtain ⟨rfl, rfl⟩ := q_; have q_ := Option.some.inj (A11.out.symm.trans v51_11); subst q_; exact c12 (by decide +kernel)
              · exfalso; have q_ := Option.some.inj (A1.out.symm.trans v51_1); simp only [Prod.mk.injEq] at q_; obtain ⟨rfl, rfl⟩ := q_; have q_ := Option.some.inj (A3.out.symm.trans v51_3); simp only [Prod.mk.injEq] at q_; obtain ⟨rfl, rfl, rfl, rfl, rfl, rfl, rfl, rfl, rfl, rfl, rfl, rfl, rfl, rfl, rfl⟩ := q_; have q_ := Option.some.inj (A4.out.symm.trans v51_4); simp only [Prod.mk.injEq] at q_; obtain ⟨rfl, rfl⟩ := q_; exact c10 (by decide +kernel)
            · exfalso; have q_ := Option.some.inj (A1.out.symm.trans v51_1); simp only [Prod.mk.injEq] at q_; obtain ⟨rfl, rfl⟩ := q_; have q_ := Option.some.inj (A3.out.symm.trans v51_3); simp only [Prod.mk.injEq] at q_; obtain ⟨rfl, rfl, rfl, rfl, rfl, rfl, rfl, rfl, rfl, rfl, rfl, rfl, rfl, rfl, rfl⟩ := q_; have q_ := Option.some.inj (A4.out.symm.trans v51_4); simp only [Prod.mk.injEq] at q_; obtain ⟨rfl, rfl⟩ := q_; exact c9 (by decide +kernel)
          · exfalso; have q_ := Option.some.inj (A1.out.symm.trans v51_1); simp only [Prod.mk.injEq] at q_; obtain ⟨rfl, rfl⟩ := q_; have q_ := Option.some.inj (A3.out.symm.trans v51_3); simp only [Prod.mk.injEq] at q_; obtain ⟨rfl, rfl, rfl, rfl, rfl, rfl, rfl, rfl, rfl, rfl, rfl, rfl, rfl, rfl, rfl⟩ := q_; have q_ := Option.some.inj (A4.out.symm.trans v51_4); simp only [Prod.mk.injEq] at q_; obtain ⟨rfl, rfl⟩ := q_; exact c8 (by decide +kernel)
        · exfalso; have q_ := Option.some.inj (A1.out.symm.trans v51_1); simp only [Prod.mk.injEq] at q_; obtain ⟨rfl, rfl⟩ := q_; have q_ := Option.some.inj (A3.out.symm.trans v51_3); simp only [Prod.mk.injEq] at q_; obtain ⟨rfl, rfl, rfl, rfl, rfl, rfl, rfl, rfl, rfl, rfl, rfl, rfl, rfl, rfl, rfl⟩ := q_; have q_ := Option.some.inj (A4.out.symm.trans v51_4); simp only [Prod.mk.injEq] at q_; obtain ⟨rfl, rfl⟩ := q_; exact c7 (by decide +kernel)
      · exfalso; have q_ := Option.some.inj (A1.out.symm.trans v51_1); simp only [Prod.mk.injEq] at q_; obtain ⟨rfl, rfl⟩ := q_; have q_ := Option.some.inj (A3.out.symm.trans v51_3); simp only [Prod.mk.injEq] at q_; obtain ⟨rfl, rfl, rfl, rfl, rfl, rfl, rfl, rfl, rfl, rfl, rfl, rfl, rfl, rfl, rfl⟩ := q_; have q_ := Option.some.inj (A4.out.symm.trans v51_4); simp only [Prod.mk.injEq] at q_; obtain ⟨rfl, rfl⟩ := q_; exact c6 (by decide +kernel)
    · exfalso; have q_ := Option.some.inj (A1.out.symm.trans v51_1); simp only [Prod.mk.injEq] at q_; obtain ⟨rfl, rfl⟩ := q_; have q_ := Option.some.inj (A3.out.symm.trans v51_3); simp only [Prod.mk.injEq] at q_; obtain ⟨rfl, rfl, rfl, rfl, rfl, rfl, rfl, rfl, rfl, rfl, rfl, rfl, rfl, rfl, rfl⟩ := q_; have q_ := Option.some.inj (A4.out.symm.trans v51_4); simp only [Prod.mk.injEq] at q_; obtain ⟨rfl, rfl⟩ := q_; exact c5 (by decide +kernel)
  · exfalso; have q_ := Option.some.inj (A1.out.symm.trans v51_1); simp only [Prod.mk.injEq] at q_; obtain ⟨rfl, rfl⟩ := q_; exact c2 (by decide +kernel)
end Go.Proofs.Ytfjmnaobfbmllaa.M
namespace Go.Proofs.Ytfjmnaobfbmllaa.M
open Go.RowKit Go.Proofs.YtfjmnaobfbmllaaW.PrintWords Go.Proofs.YtfjmnaobfbmllaaW.PrintLast Go.Proofs.YtfjmnaobfbmllaaW.PrintMore
theorem awake4_pure : seneschallaw04_awake.f = some true := by decide +kernel
def awake4.f : Option Bool := some true
theorem awake4.calls (r : Bool) (w : World) (h : awake4.f = some r) : Calls Try.prog 51 #[] w fun e w' => e = .returned (.bool r) ∧ Below w.heap.size w w' :=
  seneschallaw04_awake.calls r w (by rw [awake4_pure]; exact h)
end Go.Proofs.Ytfjmnaobfbmllaa.M
namespace Go.Proofs.Ytfjmnaobfbmllaa.M
open Go.RowKit Go.Proofs.YtfjmnaobfbmllaaW.PrintWords Go.Proofs.YtfjmnaobfbmllaaW.PrintLast Go.Proofs.YtfjmnaobfbmllaaW.PrintMore
attribute [local go_sem] max2_int min2_int max_two min_two max_three min_three max_four min_four   -- for this text's walks alone
set_option linter.unusedVariables false
set_option linter.unusedSimpArgs false
def seneschallaw04_great.f (a0_0 : Int) (a0_1 : Int) (a0_2 : Int) (a0_3 : Int) (a0_4 : Int) (a0_5 : Int) (a0_6 : Int) (a0_7 : Int) (a0_8 : Bool) (a0_9 : ByteArray) (a0_10 : Bool) (a0_11 : ByteArray) (a0_12 : Int) : Option (Bool) := if (a0_9.size : Int) > 4096 then (some true) else (some (decide ((a0_11.size : Int) > 4096)))
set_option maxHeartbeats 8000000 in
set_option maxRecDepth 100000 in
theorem seneschallaw04_great.calls (a0_0 : Int) (a0_1 : Int) (a0_2 : Int) (a0_3 : Int) (a0_4 : Int) (a0_5 : Int) (a0_6 : Int) (a0_7 : Int) (a0_8 : Bool) (a0_9 : ByteArray) (a0_10 : Bool) (a0_11 : ByteArray) (a0_12 : Int) (r : Bool) (w : World) (h : seneschallaw04_great.f a0_0 a0_1 a0_2 a0_3 a0_4 a0_5 a0_6 a0_7 a0_8 a0_9 a0_10 a0_11 a0_12 = some r) :
    Calls Try.prog 52 #[.agg #[.int .i64 a0_0, .int .i64 a0_1, .int .i64 a0_2, .int .i64 a0_3, .int .i64 a0_4, .int .i64 a0_5, .int .i64 a0_6, .int .i64 a0_7, .bool a0_8, .string a0_9, .bool a0_10, .string a0_11, .int .i64 a0_12]] w fun e w' => e = .returned (.bool r) ∧ Below w.heap.size w w' := by
  have hu65 := Try.underlying65
  have HB := Aside0.mk (Below.refl w.heap.size w)
  have H : (if (a0_9.size : Int) > 4096 then (some true) else (some (decide ((a0_11.size : Int) > 4096)))) = some r := h
  clear h
  by_cases c2 : (a0_9.size : Int) > 4096
  · rw [if_pos c2] at H
    have c2b0 : decide (4096 < (a0_9.size : Int)) = true := decide_eq_true c2
    have c2b1 : decide (4096 < a0_9.size) = true := decide_eq_true (by omega)
    clear c2
    obtain rfl := Option.some.inj H
    go_enter Try.func52, Try.ntmps52
    go_wp2_with (first | ((with_reducible refine gate_dst (N := 1) rfl ?_); (try (refine gate_guard (by rfl) ?_; dsimp only)); refine box_event ?hg (N := 1) ?hd (cs := #[.int .i64 a0_0, .int .i64 a0_1, .int .i64 a0_2, .int .i64 a0_3, .int .i64 a0_4, .int .i64 a0_5, .int .i64 a0_6, .int .i64 a0_7, .bool a0_8, .string a0_9, .bool a0_10, .string a0_11, .int .i64 a0_12]) (t := 65) ?hr ?_; (case hd => rfl); (case hg => rfl); (case hr => first | (go_simp; done) | (go_simp; rfl)); intro gb101 hg w3 hbox hb; have n0_ := Aside0.mk (below_step (by repeat (first | (with_reducible first | exact HB.out | apply below_alloc | apply pw_below_drewN | apply below_drew1) | exact HB.out)) hb); have n1_ := Aside0.mk (hbox); have n2_ := Aside0.mk ((by rw [hg]; exact (below_size (by repeat (first | (with_reducible first | exact HB.out | apply below_alloc | apply pw_below_drewN | apply below_drew1) | exact HB.out))) : w.heap.size ≤ gb101)); have n3_ := Aside0.mk ((by rw [hg]; exact (below_size (by repeat (first | (with_reducible first | exact HB.out | apply below_alloc | apply pw_below_drewN | apply below_drew1) | exact HB.out))) : w.heap.size ≤ gb101)); clear HB; have HB := n0_; have BK101 := n1_; have GW101 := n2_; have GE101 := n3_; clear n0_ n1_ n2_ n3_; clear hb hbox hg; have hcz4_0 : w3.cell? ⟨gb101, 0, none⟩ = some (.int .i64 a0_0) := (blk_cell BK101.out 0).trans rfl; have hcz4_1 : w3.cell? ⟨gb101, 1, none⟩ = some (.int .i64 a0_1) := (blk_cell BK101.out 1).trans rfl; have hcz4_2 : w3.cell? ⟨gb101, 2, none⟩ = some (.int .i64 a0_2) := (blk_cell BK101.out 2).trans rfl; have hcz4_3 : w3.cell? ⟨gb101, 3, none⟩ = some (.int .i64 a0_3) := (blk_cell BK101.out 3).trans rfl; have hcz4_4 : w3.cell? ⟨gb101, 4, none⟩ = some (.int .i64 a0_4) := (blk_cell BK101.out 4).trans rfl; have hcz4_5 : w3.cell? ⟨gb101, 5, none⟩ = some (.int .i64 a0_5) := (blk_cell BK101.out 5).trans rfl; have hcz4_6 : w3.cell? ⟨gb101, 6, none⟩ = some (.int .i64 a0_6) := (blk_cell BK101.out 6).trans rfl; have hcz4_7 : w3.cell? ⟨gb101, 7, none⟩ = some (.int .i64 a0_7) := (blk_cell BK101.out 7).trans rfl; have hcz4_8 : w3.cell? ⟨gb101, 8, none⟩ = some (.bool a0_8) := (blk_cell BK101.out 8).trans rfl; have hcz4_9 : w3.cell? ⟨gb101, 9, none⟩ = some (.string a0_9) := (blk_cell BK101.out 9).trans rfl; have hcz4_10 : w3.cell? ⟨gb101, 10, none⟩ = some (.bool a0_10) := (blk_cell BK101.out 10).trans rfl; have hcz4_11 : w3.cell? ⟨gb101, 11, none⟩ = some (.string a0_11) := (blk_cell BK101.out 11).trans rfl; have hcz4_12 : w3.cell? ⟨gb101, 12, none⟩ = some (.int .i64 a0_12) := (blk_cell BK101.out 12).trans rfl; have hfz4_0 := blk_frozen BK101.out 0; have hfz4_1 := blk_frozen BK101.out 1; have hfz4_2 := blk_frozen BK101.out 2; have hfz4_3 := blk_frozen BK101.out 3; have hfz4_4 := blk_frozen BK101.out 4; have hfz4_5 := blk_frozen BK101.out 5; have hfz4_6 := blk_frozen BK101.out 6; have hfz4_7 := blk_frozen BK101.out 7; have hfz4_8 := blk_frozen BK101.out 8; have hfz4_9 := blk_frozen BK101.out 9; have hfz4_10 := blk_frozen BK101.out 10; have hfz4_11 := blk_frozen BK101.out 11; have hfz4_12 := blk_frozen BK101.out 12))
    go_ret
    exact ⟨by first | rfl | (simp [errW_none, errW_some] <;> rfl) | (simp [*, errW_none, errW_some] <;> rfl), by repeat (first | (with_reducible first | exact HB.out | apply below_alloc | apply pw_below_drewN | apply below_drew1 | refine below_set ?_ GE101.out) | exact HB.out)⟩
  · rw [if_neg c2] at H
    have c2b0 : decide (4096 < (a0_9.size : Int)) = false := decide_eq_false c2
    have c2b1 : decide (4096 < a0_9.size) = false := decide_eq_false (by omega)
    clear c2
    obtain rfl := Option.some.inj H
    go_enter Try.func52, Try.ntmps52
    go_wp2_with (first | ((with_reducible refine gate_dst (N := 1) rfl ?_); (try (refine gate_guard (by rfl) ?_; dsimp only)); refine box_event ?hg (N := 1) ?hd (cs := #[.int .i64 a0_0, .int .i64 a0_1, .int .i64 a0_2, .int .i64 a0_3, .int .i64 a0_4, .int .i64 a0_5, .int .i64 a0_6, .int .i64 a0_7, .bool a0_8, .string a0_9, .bool a0_10, .string a0_11, .int .i64 a0_12]) (t := 65) ?hr ?_; (case hd => rfl); (case hg => rfl); (case hr => first | (go_simp; done) | (go_simp; rfl)); intro gb101 hg w5 hbox hb; have n0_ := Aside0.mk (below_step (by repeat (first | (with_reducible first | exact HB.out | apply below_alloc | apply pw_below_drewN | apply below_drew1) | exact HB.out)) hb); have n1_ := Aside0.mk (hbox); have n2_ := Aside0.mk ((by rw [hg]; exact (below_size (by repeat (first | (with_reducible first | exact HB.out | apply below_alloc | apply pw_below_drewN | apply below_drew1) | exact HB.out))) : w.heap.size ≤ gb101)); have n3_ := Aside0.mk ((by rw [hg]; exact (below_size (by repeat (first | (with_reducible first | exact HB.out | apply below_alloc | apply pw_below_drewN | apply below_drew1) | exact HB.out))) : w.heap.size ≤ gb101)); clear HB; have HB := n0_; have BK101 := n1_; have GW101 := n2_; have GE101 := n3_; clear n0_ n1_ n2_ n3_; clear hb hbox hg; have hcz6_0 : w5.cell? ⟨gb101, 0, none⟩ = some (.int .i64 a0_0) := (blk_cell BK101.out 0).trans rfl; have hcz6_1 : w5.cell? ⟨gb101, 1, none⟩ = some (.int .i64 a0_1) := (blk_cell BK101.out 1).trans rfl; have hcz6_2 : w5.cell? ⟨gb101, 2, none⟩ = some (.int .i64 a0_2) := (blk_cell BK101.out 2).trans rfl; have hcz6_3 : w5.cell? ⟨gb101, 3, none⟩ = some (.int .i64 a0_3) := (blk_cell BK101.out 3).trans rfl; have hcz6_4 : w5.cell? ⟨gb101, 4, none⟩ = some (.int .i64 a0_4) := (blk_cell BK101.out 4).trans rfl; have hcz6_5 : w5.cell? ⟨gb101, 5, none⟩ = some (.int .i64 a0_5) := (blk_cell BK101.out 5).trans rfl; have hcz6_6 : w5.cell? ⟨gb101, 6, none⟩ = some (.int .i64 a0_6) := (blk_cell BK101.out 6).trans rfl; have hcz6_7 : w5.cell? ⟨gb101, 7, none⟩ = some (.int .i64 a0_7) := (blk_cell BK101.out 7).trans rfl; have hcz6_8 : w5.cell? ⟨gb101, 8, none⟩ = some (.bool a0_8) := (blk_cell BK101.out 8).trans rfl; have hcz6_9 : w5.cell? ⟨gb101, 9, none⟩ = some (.string a0_9) := (blk_cell BK101.out 9).trans rfl; have hcz6_10 : w5.cell? ⟨gb101, 10, none⟩ = some (.bool a0_10) := (blk_cell BK101.out 10).trans rfl; have hcz6_11 : w5.cell? ⟨gb101, 11, none⟩ = some (.string a0_11) := (blk_cell BK101.out 11).trans rfl; have hcz6_12 : w5.cell? ⟨gb101, 12, none⟩ = some (.int .i64 a0_12) := (blk_cell BK101.out 12).trans rfl; have hfz6_0 := blk_frozen BK101.out 0; have hfz6_1 := blk_frozen BK101.out 1; have hfz6_2 := blk_frozen BK101.out 2; have hfz6_3 := blk_frozen BK101.out 3; have hfz6_4 := blk_frozen BK101.out 4; have hfz6_5 := blk_frozen BK101.out 5; have hfz6_6 := blk_frozen BK101.out 6; have hfz6_7 := blk_frozen BK101.out 7; have hfz6_8 := blk_frozen BK101.out 8; have hfz6_9 := blk_frozen BK101.out 9; have hfz6_10 := blk_frozen BK101.out 10; have hfz6_11 := blk_frozen BK101.out 11; have hfz6_12 := blk_frozen BK101.out 12))
    go_ret
    exact ⟨by first | rfl | (simp [errW_none, errW_some] <;> rfl) | (simp [*, errW_none, errW_some] <;> rfl), by repeat (first | (with_reducible first | exact HB.out | apply below_alloc | apply pw_below_drewN | apply below_drew1 | refine below_set ?_ GE101.out) | exact HB.out)⟩
end Go.Proofs.Ytfjmnaobfbmllaa.M
namespace Go.Proofs.Ytfjmnaobfbmllaa.M
open Go.RowKit Go.Proofs.YtfjmnaobfbmllaaW.PrintWords Go.Proofs.YtfjmnaobfbmllaaW.PrintLast Go.Proofs.YtfjmnaobfbmllaaW.PrintMore
attribute [local go_sem] max2_int min2_int max_two min_two max_three min_three max_four min_four   -- for this text's walks alone
set_option linter.unusedVariables false
set_option linter.unusedSimpArgs false
attribute [local go_sem high] eqA65
def seneschallaw04_EntryBack.j0 : Nat → ByteArray → Bool → Int → Int → Int → Int → Int → Int → Int → Int → Bool → ByteArray → Bool → ByteArray → Int → Int → Int → Int → Int → Int → Int → Int → Int → Bool → ByteArray → Bool → ByteArray → Int → Option (Bool)
  | 0, _, _, _, _, _, _, _, _, _, _, _, _, _, _, _, _, _, _, _, _, _, _, _, _, _, _, _, _ => none
  | k + 1, x2, x27, x102000, x102001, x102002, x102003, x102004, x102005, x102006, x102007, x102008, x102009, x102010, x102011, x102012, x103000, x103001, x103002, x103003, x103004, x103005, x103006, x103007, x103008, x103009, x103010, x103011, x103012 => if x27 = true then (some true) else ((entEnc.f x102000 x102001 x102002 x102003 x102004 x102005 x102006 x102007 x102008 x102009 x102010 x102011 x102012).bind fun bt106 => ((entGood.f x102000 x102001 x102002 x102003 x102004 x102005 x102006 x102007 x102008 x102009 x102010 x102011 x102012).bind fun t108 => (if ((bt106.2 == 0) != t108) = true then (some false) else (if bt106.2 = 0 then (if bt106.1.size + x2.size ≤ 9223372036854775807 then ((entry_Decode.f (bt106.1 ++ x2)).bind fun bt109 => ((entEnc.f x103000 x103001 x103002 x103003 x103004 x103005 x103006 x103007 x103008 x103009 x103010 x103011 x103012).bind fun bt125 => (if (bt109.1 == x102000 && ((bt109.2.1 == x102001 && (bt109.2.2.1 == x102002 && (bt109.2.2.2.1 == x102003))) && (bt109.2.2.2.2.1 == x102004 && (bt109.2.2.2.2.2.1 == x102005 && (bt109.2.2.2.2.2.2.1 == x102006 && (bt109.2.2.2.2.2.2.2.1 == x102007 && ((bt109.2.2.2.2.2.2.2.2.1 == x102008 && (bt109.2.2.2.2.2.2.2.2.2.1.toList == x102009.toList)) && ((bt109.2.2.2.2.2.2.2.2.2.2.1 == x102010 && (bt109.2.2.2.2.2.2.2.2.2.2.2.1.toList == x102011.toList)) && (bt109.2.2.2.2.2.2.2.2.2.2.2.2.1 == x102012))))))))) = true then (if bt109.2.2.2.2.2.2.2.2.2.2.2.2.2.1.toList = x2.toList then (if bt109.2.2.2.2.2.2.2.2.2.2.2.2.2.2 = 0 then (if bt125.2 = 0 then (if 0 ≤ (mn (bt106.1.size : Int) (bt125.1.size : Int)) then (if (mn (bt106.1.size : Int) (bt125.1.size : Int)) ≤ (bt106.1.size : Int) then (if (mn (bt106.1.size : Int) (bt125.1.size : Int)) ≤ (bt125.1.size : Int) then (some (((bt106.1.extract 0 ((mn (bt106.1.size : Int) (bt125.1.size : Int)) : Int).toNat).toList == (bt125.1.extract 0 ((mn (bt106.1.size : Int) (bt125.1.size : Int)) : Int).toNat).toList) == (x102000 == x103000 && ((x102001 == x103001 && (x102002 == x103002 && (x102003 == x103003))) && (x102004 == x103004 && (x102005 == x103005 && (x102006 == x103006 && (x102007 == x103007 && ((x102008 == x103008 && (x102009.toList == x103009.toList)) && ((x102010 == x103010 && (x102011.toList == x103011.toList)) && (x102012 == x103012))))))))))) else (none)) else (none)) else (none)) else (some true)) else (some false)) else (some false)) else (some false)))) else (none)) else (if bt106.1.toList = ([] : List UInt8) then ((entCost.f x102000 x102001 x102002 x102003 x102004 x102005 x102006 x102007 x102008 x102009 x102010 x102011 x102012).bind fun t127 => (some (t127 == 0))) else (some false))))))
def seneschallaw04_EntryBack.f (k : Nat) (a0_0 : Int) (a0_1 : Int) (a0_2 : Int) (a0_3 : Int) (a0_4 : Int) (a0_5 : Int) (a0_6 : Int) (a0_7 : Int) (a0_8 : Bool) (a0_9 : ByteArray) (a0_10 : Bool) (a0_11 : ByteArray) (a0_12 : Int) (a1_0 : Int) (a1_1 : Int) (a1_2 : Int) (a1_3 : Int) (a1_4 : Int) (a1_5 : Int) (a1_6 : Int) (a1_7 : Int) (a1_8 : Bool) (a1_9 : ByteArray) (a1_10 : Bool) (a1_11 : ByteArray) (a1_12 : Int) (a2 : ByteArray) : Option (Bool) := (awake4.f).bind fun t103 => (if t103 = true then ((seneschallaw04_great.f a0_0 a0_1 a0_2 a0_3 a0_4 a0_5 a0_6 a0_7 a0_8 a0_9 a0_10 a0_11 a0_12).bind fun t104 => (if t104 = true then (seneschallaw04_EntryBack.j0 k a2 true a0_0 a0_1 a0_2 a0_3 a0_4 a0_5 a0_6 a0_7 a0_8 a0_9 a0_10 a0_11 a0_12 a1_0 a1_1 a1_2 a1_3 a1_4 a1_5 a1_6 a1_7 a1_8 a1_9 a1_10 a1_11 a1_12) else ((seneschallaw04_great.f a1_0 a1_1 a1_2 a1_3 a1_4 a1_5 a1_6 a1_7 a1_8 a1_9 a1_10 a1_11 a1_12).bind fun t105 => (if t105 = true then (seneschallaw04_EntryBack.j0 k a2 true a0_0 a0_1 a0_2 a0_3 a0_4 a0_5 a0_6 a0_7 a0_8 a0_9 a0_10 a0_11 a0_12 a1_0 a1_1 a1_2 a1_3 a1_4 a1_5 a1_6 a1_7 a1_8 a1_9 a1_10 a1_11 a1_12) else (seneschallaw04_EntryBack.j0 k a2 (decide ((a2.size : Int) > 4096)) a0_0 a0_1 a0_2 a0_3 a0_4 a0_5 a0_6 a0_7 a0_8 a0_9 a0_10 a0_11 a0_12 a1_0 a1_1 a1_2 a1_3 a1_4 a1_5 a1_6 a1_7 a1_8 a1_9 a1_10 a1_11 a1_12))))) else (some false))
end Go.Proofs.Ytfjmnaobfbmllaa.M
