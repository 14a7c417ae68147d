/- The law EntryReads: it returns true for every input, and its arguments read as they did. No condition. Part 2 of 4. -/
import Derived.Test.YtfjmnaobfbmllaaProg
import Derived.Test.YtfjmnaobfbmllaaRows
import Derived.Test.YtfjmnaobfbmllaaUApart
import Derived.Test.YtfjmnaobfbmllaaUEqStruct
import Derived.Test.YtfjmnaobfbmllaaUFoot
import Derived.Test.YtfjmnaobfbmllaaUGuard
import Derived.Test.YtfjmnaobfbmllaaUKept
import Derived.Test.YtfjmnaobfbmllaaULast
import Derived.Test.YtfjmnaobfbmllaaUMore
import Derived.Test.YtfjmnaobfbmllaaUN
import Derived.Test.YtfjmnaobfbmllaaURepsOne
import Derived.Test.YtfjmnaobfbmllaaUShare
import Derived.Test.YtfjmnaobfbmllaaUTab
import Derived.Test.YtfjmnaobfbmllaaUWords
import Derived.ArgAppend
import Derived.Below
import Derived.BigQuiet
import Derived.Carry
import Derived.ChangeArms
import Derived.ChangeMaps
import Derived.ChangeOld
import Derived.Deep.AppendLies
import Derived.Deep.CutBlock
import Derived.Deep.DeepCutAuto
import Derived.Deep.Draws
import Derived.Deep.LoopGhost
import Derived.Deep.OwnRows
import Derived.Deep.QuietTactic
import Derived.Deep.RegionHeld3
import Derived.Deep.Slices
import Derived.KernelRfl
import Derived.Laws.Bits64
import Derived.Laws.Bits64b
import Derived.Laws.BitsAllLaws
import Derived.Laws.BitsLemmas
import Derived.Laws.BytesArg
import Derived.Laws.CopyOwn
import Derived.Laws.IdiomCopy
import Derived.Laws.MakeOwn
import Derived.Laws.OwnMore
import Derived.Laws.Rows
import Derived.Laws.Slices
import Derived.Lib.AppendStr
import Derived.Lib.ConvBytes
import Derived.Maps.AppendAt
import Derived.OpenShut
import Derived.OrdersHeld
import Derived.OwnWalk
import Derived.ProofKit
import Derived.RowKit
import Derived.RowKit3
import Derived.ShutString
import Derived.SizedLaws
import Derived.Tactics
import Derived.WalkKit
import Derived.WideLaws
import Derived.Test.YtfjmnaobfbmllaaEntryReadsA0
namespace Go.Proofs.Ytfjmnaobfbmllaa.M
open Go.RowKit Go.Proofs.YtfjmnaobfbmllaaW.PrintWords Go.Proofs.YtfjmnaobfbmllaaW.PrintLast Go.Proofs.YtfjmnaobfbmllaaW.PrintMore
set_option linter.unusedVariables false
set_option linter.unusedSimpArgs false
set_option maxHeartbeats 8000000 in
set_option maxRecDepth 100000 in
theorem entry_Decode.run (s : ByteArray) (w : World) :
    Calls Try.prog 63 #[.string s] w fun e w' => e = .returned (.tuple #[.agg #[.int .i64 (decG s).1.f0, .int .i64 (decG s).1.f1.f0, .int .i64 (decG s).1.f1.f1, .int .i64 (decG s).1.f1.f2, .int .i64 (decG s).1.f2, .int .i64 (decG s).1.f3, .int .i64 (decG s).1.f4, .int .i64 (decG s).1.f5, .bool (decG s).1.f6.f0, .string (decG s).1.f6.f1, .bool (decG s).1.f7.f0, .string (decG s).1.f7.f1, .int .i64 (decG s).1.f8], .string (decG s).2.1, .int .i64 (decG s).2.2]) ∧ Below w.heap.size w w' := by
  have hu65 := Try.underlying65
  have hu33 := Try.underlying33
  have hu127 := Try.underlying127
  have hu116 := Try.underlying116
  obtain ⟨k, r0, b0, ht⟩ : ∃ k r0 b0, tI s false = (k, r0, b0) := ⟨_, _, _, rfl⟩
  have HT : Aside0 (entry_taker_int.f s false = some (k, r0, b0)) := ⟨by rw [takerInt_eq, ht]⟩
  obtain ⟨m, hm5, hm8, hM⟩ : ∃ m : Nat, 5 ≤ m ∧ m ≤ 8 ∧ (if k = 1 ∨ k = 2 then 9 else 6) = m + 1 := by
    by_cases hk : k = 1 ∨ k = 2
    · exact ⟨8, by omega, by omega, if_pos hk⟩
    · exact ⟨5, by omega, by omega, if_neg hk⟩
  have HM := Aside0.mk hM
  have HG : Aside0 (decG s = decT (decRun m 1 (setF zE 0 k) r0 b0)) := ⟨by
    have : (if k = 1 ∨ k = 2 then 8 else 5) = m := by split at hM <;> (rename_i hc; first | rw [if_pos hc] | rw [if_neg hc]) <;> omega
    unfold decG
    rw [ht]
    simp only
    rw [this]⟩
  clear ht hM
  go_enter Try.func63, Try.ntmps63
  go_wp2_with (first | ((with_reducible refine gate_dst (N := 2) rfl ?_); refine box_event ?hg (N := 2) ?hd (cs := #[.int .i64 0, .int .i64 0, .int .i64 0, .int .i64 0, .int .i64 0, .int .i64 0, .int .i64 0, .int .i64 0, .bool false, .string (⟨#[]⟩ : ByteArray), .bool false, .string (⟨#[]⟩ : ByteArray), .int .i64 0]) (t := 65) ?hr ?_; (case hd => rfl); (case hg => rfl); (case hr => first | (go_simp; done) | (go_simp; rfl)); intro gr hg w1 hbox hb; have BR := Aside0.mk hbox; have HB := Aside0.mk hb; have GR := Aside0.mk (show w.heap.size ≤ gr by rw [hg]; exact Nat.le_refl _); clear hbox hb hg) | ((with_reducible refine gate_dst (N := 11) rfl ?_); refine box_event ?hg (N := 11) ?hd (cs := #[.string s, .bool false]) (t := 127) ?hr ?_; (case hd => rfl); (case hg => rfl); (case hr => first | (go_simp; done) | (go_simp; rfl)); intro gt hg w2 hbox hb; have n0_ := Aside0.mk (blk_below BR.out hb); have n1_ := Aside0.mk (below_step HB.out hb); have IT : Aside0 (IsS127 w w2 gt s false) := ⟨⟨hbox, by rw [hg]; exact HB.out.size⟩⟩; have NRT := Aside0.mk (show gr ≠ gt by have := blk_lt BR.out; omega); clear BR HB; have BR := n0_; have HB := n1_; clear n0_ n1_; clear hbox hb hg) | ((with_reducible refine gate_callee (f := 107) rfl ?_); refine goesL_ (some 13) rfl rfl Try.func107 (by kernel_rfl) rfl #[.pointer (some ⟨gt, 0, none⟩)] rfl (by (try simp only [List.map_toArray, List.map_cons, List.map_nil]); first | done | rfl) ?_; (with_reducible refine (entry_taker_int.calls gt s false k r0 b0 w _ IT.out HB.out HT.out).mono ?_); rintro e w3 ⟨rfl, hi, hb, hk⟩; refine ⟨_, rfl, ?_⟩; have n0_ := Aside0.mk (KeepBut.blk hk BR.out NRT.out (by simp)); have n1_ := Aside0.mk hi; have n2_ := Aside0.mk hb; clear BR IT HB; have BR := n0_; have IT := n1_; have HB := n2_; clear n0_ n1_ n2_; clear hi hb hk) | ((with_reducible refine gate_dst (N := 6) rfl ?_); refine box_event ?hg (N := 6) ?hd (cs := #[.int .i64 0, .int .i64 0, .int .i64 0, .int .i64 0, .int .i64 0, .int .i64 0, .int .i64 0, .int .i64 0, .bool false, .string (⟨#[]⟩ : ByteArray), .bool false, .string (⟨#[]⟩ : ByteArray), .int .i64 0]) (t := 65) ?hr ?_; (case hd => rfl); (case hg => rfl); (case hr => first | (go_simp; done) | (go_simp; rfl)); intro gx hg w4 hbox hb; have n0_ := Aside0.mk (blk_below BR.out hb); have n1_ := Aside0.mk (IsS127.below IT.out hb); have n2_ := Aside0.mk (below_step HB.out hb); have BX := Aside0.mk hbox; have GX := Aside0.mk (show w.heap.size ≤ gx by rw [hg]; exact HB.out.size); have NRX := Aside0.mk (show gr ≠ gx by have := blk_lt BR.out; omega); have NTX := Aside0.mk (show gt ≠ gx by have := IsS127.lt IT.out; omega); clear BR IT HB; have BR := n0_; have IT := n1_; have HB := n2_; clear n0_ n1_ n2_; clear hbox hb hg; have hcx0 : w4.cell? ⟨gx, 0, none⟩ = some (.int .i64 0) := (blk_cell BX.out 0).trans rfl; have hfx0 := blk_frozen BX.out 0; have hcx1 : w4.cell? ⟨gx, 1, none⟩ = some (.int .i64 0) := (blk_cell BX.out 1).trans rfl; have hfx1 := blk_frozen BX.out 1; have hcx2 : w4.cell? ⟨gx, 2, none⟩ = some (.int .i64 0) := (blk_cell BX.out 2).trans rfl; have hfx2 := blk_frozen BX.out 2; have hcx3 : w4.cell? ⟨gx, 3, none⟩ = some (.int .i64 0) := (blk_cell BX.out 3).trans rfl; have hfx3 := blk_frozen BX.out 3; have hcx4 : w4.cell? ⟨gx, 4, none⟩ = some (.int .i64 0) := (blk_cell BX.out 4).trans rfl; have hfx4 := blk_frozen BX.out 4; have hcx5 : w4.cell? ⟨gx, 5, none⟩ = some (.int .i64 0) := (blk_cell BX.out 5).trans rfl; have hfx5 := blk_frozen BX.out 5; have hcx6 : w4.cell? ⟨gx, 6, none⟩ = some (.int .i64 0) := (blk_cell BX.out 6).trans rfl; have hfx6 := blk_frozen BX.out 6; have hcx7 : w4.cell? ⟨gx, 7, none⟩ = some (.int .i64 0) := (blk_cell BX.out 7).trans rfl; have hfx7 := blk_frozen BX.out 7; have hcx8 : w4.cell? ⟨gx, 8, none⟩ = some (.bool false) := (blk_cell BX.out 8).trans rfl; have hfx8 := blk_frozen BX.out 8; have hcx9 : w4.cell? ⟨gx, 9, none⟩ = some (.string (⟨#[]⟩ : ByteArray)) := (blk_cell BX.out 9).trans rfl; have hfx9 := blk_frozen BX.out 9; have hcx10 : w4.cell? ⟨gx, 10, none⟩ = some (.bool false) := (blk_cell BX.out 10).trans rfl; have hfx10 := blk_frozen BX.out 10; have hcx11 : w4.cell? ⟨gx, 11, none⟩ = some (.string (⟨#[]⟩ : ByteArray)) := (blk_cell BX.out 11).trans rfl; have hfx11 := blk_frozen BX.out 11; have hcx12 : w4.cell? ⟨gx, 12, none⟩ = some (.int .i64 0) := (blk_cell BX.out 12).trans rfl; have hfx12 := blk_frozen BX.out 12) | ((with_reducible refine gate_callee (f := 97) rfl ?_); refine goesL_ (some 15) rfl rfl Try.func97 (by kernel_rfl) rfl #[.pointer (some ⟨gx, 0, none⟩)] rfl (by (try simp only [List.map_toArray, List.map_cons, List.map_nil]); first | done | rfl) ?_; (refine (entry_fields.calls gx k _ _ (p13 w4 gx (k) (0) (0) (0) (0) (0) (0) (0) (false) ((⟨#[]⟩ : ByteArray)) (false) ((⟨#[]⟩ : ByteArray)) (0) BX.out).1 ((blk_cell (p13 w4 gx (k) (0) (0) (0) (0) (0) (0) (0) (false) ((⟨#[]⟩ : ByteArray)) (false) ((⟨#[]⟩ : ByteArray)) (0) BX.out).1 0).trans rfl)).mono ?_); rintro e w5 ⟨gf, he, hbh, hlt, hb⟩; rw [show (if k = 1 ∨ k = 2 then 9 else 6) = m + 1 from HM.out] at he; subst he; refine ⟨_, rfl, ?_⟩; have n0_ := Aside0.mk (blk_below ((p13 w4 gx (k) (0) (0) (0) (0) (0) (0) (0) (false) ((⟨#[]⟩ : ByteArray)) (false) ((⟨#[]⟩ : ByteArray)) (0) BX.out).2.1 gr _ BR.out NRX.out) hb); have n1_ : Aside0 (IsS127 w w5 gt r0 b0) := ⟨IsS127.below ⟨(p13 w4 gx (k) (0) (0) (0) (0) (0) (0) (0) (false) ((⟨#[]⟩ : ByteArray)) (false) ((⟨#[]⟩ : ByteArray)) (0) BX.out).2.1 gt _ IT.out.1 NTX.out, IT.out.2⟩ hb⟩; have n2_ := Aside0.mk (below_step ((p13 w4 gx (k) (0) (0) (0) (0) (0) (0) (0) (false) ((⟨#[]⟩ : ByteArray)) (false) ((⟨#[]⟩ : ByteArray)) (0) BX.out).2.2 w HB.out GX.out) hb); have n3_ := Aside0.mk (blk_below (p13 w4 gx (k) (0) (0) (0) (0) (0) (0) (0) (false) ((⟨#[]⟩ : ByteArray)) (false) ((⟨#[]⟩ : ByteArray)) (0) BX.out).1 hb); have BF := Aside0.mk hbh; have hsz := (p13 w4 gx (k) (0) (0) (0) (0) (0) (0) (0) (false) ((⟨#[]⟩ : ByteArray)) (false) ((⟨#[]⟩ : ByteArray)) (0) BX.out).2.1 gr _ BR.out NRX.out; have NXF := Aside0.mk (show gx ≠ gf by have := blk_lt (p13 w4 gx (k) (0) (0) (0) (0) (0) (0) (0) (false) ((⟨#[]⟩ : ByteArray)) (false) ((⟨#[]⟩ : ByteArray)) (0) BX.out).1; omega); have NRF := Aside0.mk (show gr ≠ gf by have := blk_lt hsz; omega); have NTF := Aside0.mk (show gt ≠ gf by have := blk_lt ((p13 w4 gx (k) (0) (0) (0) (0) (0) (0) (0) (false) ((⟨#[]⟩ : ByteArray)) (false) ((⟨#[]⟩ : ByteArray)) (0) BX.out).2.1 gt _ IT.out.1 NTX.out); omega); clear hsz; clear hcx0 hfx0 hcx1 hfx1 hcx2 hfx2 hcx3 hfx3 hcx4 hfx4 hcx5 hfx5 hcx6 hfx6 hcx7 hfx7 hcx8 hfx8 hcx9 hfx9 hcx10 hfx10 hcx11 hfx11 hcx12 hfx12; clear BR IT HB BX; have BR := n0_; have IT := n1_; have HB := n2_; have BX := n3_; clear n0_ n1_ n2_ n3_; clear hbh hlt hb))
  go_loopg [8, 18] m (fun gg v8 v18 wr => ∃ (i : Nat) (x : S65) (r : ByteArray) (b : Bool), i ≤ m ∧ m - i ≤ gg ∧ v18 = .int .i64 i ∧ Aside0 (decRun (m - i) (i + 1) x r b = decRun m 1 (setF zE 0 k) r0 b0) ∧ Aside0 (wr.heap[gx]? = some (.cells #[.int .i64 x.f0, .int .i64 x.f1.f0, .int .i64 x.f1.f1, .int .i64 x.f1.f2, .int .i64 x.f2, .int .i64 x.f3, .int .i64 x.f4, .int .i64 x.f5, .bool x.f6.f0, .string x.f6.f1, .bool x.f7.f0, .string x.f7.f1, .int .i64 x.f8] 65 (0, 0))) ∧ Aside0 (IsS127 w wr gt r b) ∧ Aside0 (wr.heap[gf]? = some (.cells (fieldPs gx) 119 (0, 0))) ∧ Aside0 (wr.heap[gr]? = some (.cells #[.int .i64 0, .int .i64 0, .int .i64 0, .int .i64 0, .int .i64 0, .int .i64 0, .int .i64 0, .int .i64 0, .bool false, .string (⟨#[]⟩ : ByteArray), .bool false, .string (⟨#[]⟩ : ByteArray), .int .i64 0] 65 (0, 0))) ∧ Aside0 (Below w.heap.size w wr))
  case atStart => exact ⟨0, setF zE 0 k, r0, b0, Nat.zero_le _, by omega, rfl, ⟨rfl⟩, ⟨BX.out⟩, IT, BF, BR, HB⟩
  case round =>
    clear BX IT BF BR HB
    obtain ⟨i, x, r, b, hi, hgg, rfl, HR, BX, IT, BF, BR, HB⟩ := hrel
    by_cases hlt : i < m
    · have q0 : (i : Int) < (m : Int) := by omega
      have q1 : (0 : Int) ≤ (i : Int) := by omega
      obtain ⟨n, r1, b1, ht⟩ : ∃ n r1 b1, tI r b = (n, r1, b1) := ⟨_, _, _, rfl⟩
      have HTI : Aside0 (entry_taker_int.f r b = some (n, r1, b1)) := ⟨by rw [takerInt_eq, ht]⟩
      have HR2 : Aside0 (decRun (m - (i + 1)) (i + 1 + 1) (setF x (i + 1) n) r1 b1 = decRun m 1 (setF zE 0 k) r0 b0) := ⟨by
        have := HR.out
        rw [show m - i = (m - (i + 1)) + 1 by omega] at this
        simp only [decRun] at this
        rw [ht] at this
        exact this⟩
      have hp := field_ptr gx (1 + i) (by omega)
      obtain ⟨n0, hold⟩ := field_old x (1 + i) (by omega)
      have hset := field_set x (1 + i) n (by omega)
      rw [show 1 + i = i + 1 by omega] at hp hold hset
      have HS := Aside0.mk hset
      have HO := Aside0.mk hold
      have hcp : wr.cell? ⟨gf, 1 + i, none⟩ = some (.pointer (some ⟨gx, offF (i + 1), none⟩)) := by rw [show 1 + i = i + 1 by omega]; exact (blk_cell BF.out (i + 1)).trans hp
      clear hp hold hset ht HR
      generalize offF (i + 1) = o at *
      go_wp2_with (first | ((with_reducible refine gate_callee (f := 107) rfl ?_); refine goesL_ (some 24) rfl rfl Try.func107 (by kernel_rfl) rfl #[.pointer (some ⟨gt, 0, none⟩)] rfl (by (try simp only [List.map_toArray, List.map_cons, List.map_nil]); first | done | rfl) ?_; (with_reducible refine (entry_taker_int.calls gt r b n r1 b1 w _ IT.out HB.out HTI.out).mono ?_); rintro e w6 ⟨rfl, hi2, hb, hk⟩; refine ⟨_, rfl, ?_⟩; have n0_ := Aside0.mk (KeepBut.blk hk BR.out NRT.out (by simp)); have n1_ := Aside0.mk hi2; have n2_ := Aside0.mk hb; have n3_ := Aside0.mk (KeepBut.blk hk BX.out NTX.out.symm (by simp)); have n4_ := Aside0.mk (KeepBut.blk hk BF.out NTF.out.symm (by simp)); clear BR IT HB BX BF; have BR := n0_; have IT := n1_; have HB := n2_; have BX := n3_; have BF := n4_; clear n0_ n1_ n2_ n3_ n4_; have hcx : w6.cell? ⟨gx, o, none⟩ = some (.int .i64 n0) := (blk_cell BX.out o).trans HO.out; have hfx := blk_frozen BX.out o; clear hi2 hb hk))
      go_roundg (m - (i + 1))
      case measure => omega
      case rel => exact ⟨i + 1, setF x (i + 1) n, r1, b1, by omega, by omega, by go_num, HR2, ⟨by rw [← HS.out]; exact blk_set BX.out o _⟩, ⟨IsS127.far IT.out NTX.out _⟩, ⟨blk_far BF.out NXF.out.symm _⟩, ⟨blk_far BR.out NRX.out _⟩, ⟨below_set HB.out GX.out⟩⟩
    · have hltz : ¬ (i : Int) < (m : Int) := by omega
      have HE : Aside0 (decG s = decT (x, r, b)) := ⟨by
        have := HR.out
        rw [show m - i = 0 by omega] at this
        rw [HG.out, ← this]
        rfl⟩
      clear HR HG HM HT
      have hcx0 : wr.cell? ⟨gx, 0, none⟩ = some (.int .i64 x.f0) := (blk_cell BX.out 0).trans rfl
      go_upto_region 8 with fail
      go_cut [34] (fun v34 wc => v34 = .bool (decide (x.f0 = 1 ∨ x.f0 = 2)) ∧ wc = wr)
      case first =>
        by_cases h1 : x.f0 = 1
        · have e1 : (x.f0 == 1) = true := beq_iff_eq.mpr h1
          have e2 : decide (x.f0 = 1 ∨ x.f0 = 2) = true := decide_eq_true (.inl h1)
          have E2 := Aside0.mk e2
          clear h1 e2
          go_wp2
          go_meet
          exact ⟨by rw [E2.out], rfl⟩
        · by_cases h2 : x.f0 = 2
          · have e1 : (x.f0 == 1) = false := beq_eq_false_iff_ne.mpr h1
            have e3 : (x.f0 == 2) = true := beq_iff_eq.mpr h2
            have E2 : Aside0 (decide (x.f0 = 1 ∨ x.f0 = 2) = true) := ⟨decide_eq_true (.inr h2)⟩
            clear h1 h2
            go_wp2
            go_meet
            exact ⟨by rw [E2.out], rfl⟩
          · have e1 : (x.f0 == 1) = false := beq_eq_false_iff_ne.mpr h1
            have e3 : (x.f0 == 2) = false := beq_eq_false_iff_ne.mpr h2
            have E2 : Aside0 (decide (x.f0 = 1 ∨ x.f0 = 2) = false) := ⟨decide_eq_false (fun h => h.elim h1 h2)⟩
            clear h1 h2
            go_wp2
            go_meet
            exact ⟨by rw [E2.out], rfl⟩
      case rest =>
        obtain ⟨rfl, rfl⟩ := hcut
        clear hcx0
        obtain ⟨ck, hck⟩ : ∃ ck, decide (x.f0 = 1 ∨ x.f0 = 2) = ck := ⟨_, rfl⟩
        rw [hck]
        have HCK := Aside0.mk hck
        clear hck
        go_upto_if 34 with fail
        go_cut [35] (fun v35 wc => ∃ (y : S65) (r2 : ByteArray) (b2 : Bool), Aside0 (decT (x, r, b) = finE y r2 b2) ∧ Aside0 (wc.heap[gx]? = some (.cells #[.int .i64 y.f0, .int .i64 y.f1.f0, .int .i64 y.f1.f1, .int .i64 y.f1.f2, .int .i64 y.f2, .int .i64 y.f3, .int .i64 y.f4, .int .i64 y.f5, .bool y.f6.f0, .string y.f6.f1, .bool y.f7.f0, .string y.f7.f1, .int .i64 y.f8] 65 (0, 0))) ∧ Aside0 (IsS127 w wc gt r2 b2) ∧ Aside0 (wc.heap[gr]? = some (.cells #[.int .i64 0, .int .i64 0, .int .i64 0, .int .i64 0, .int .i64 0, .int .i64 0, .int .i64 0, .int .i64 0, .bool false, .string (⟨#[]⟩ : ByteArray), .bool false, .string (⟨#[]⟩ : ByteArray), .int .i64 0] 65 (0, 0))) ∧ Aside0 (Below w.heap.size w wc))
        case first =>
          cases ck with
          | true =>
            obtain ⟨x1, r1, b1, ht1⟩ : ∃ x1 r1 b1, tS r b = (x1, r1, b1) := ⟨_, _, _, rfl⟩
            obtain ⟨x2, r2, b2, ht2⟩ : ∃ x2 r2 b2, tS r1 b1 = (x2, r2, b2) := ⟨_, _, _, rfl⟩
            have HT1 : Aside0 (entry_taker_slot.f r b = some (x1.f0, x1.f1, r1, b1)) := ⟨by rw [takerSlot_eq, ht1]⟩
            have HT2 : Aside0 (entry_taker_slot.f r1 b1 = some (x2.f0, x2.f1, r2, b2)) := ⟨by rw [takerSlot_eq, ht2]⟩
            have HF : Aside0 (decT (x, r, b) = finE (withS x x1 x2) r2 b2) := ⟨by
              unfold decT
              rw [if_pos (of_decide_eq_true HCK.out)]
              simp only
              rw [ht1]
              simp only
              rw [ht2]⟩
            clear ht1 ht2
            go_wp2_with (first | ((with_reducible refine gate_callee (f := 108) rfl ?_); refine goesL_ (some 36) rfl rfl Try.func108 (by kernel_rfl) rfl #[.pointer (some ⟨gt, 0, none⟩)] rfl (by (try simp only [List.map_toArray, List.map_cons, List.map_nil]); first | done | rfl) ?_; (with_reducible refine (entry_taker_slot.calls gt r b x1.f0 x1.f1 r1 b1 w _ IT.out HB.out HT1.out).mono ?_); rintro e w7 ⟨rfl, hi2, hb, hk⟩; refine ⟨_, rfl, ?_⟩; have n0_ := Aside0.mk (KeepBut.blk hk BR.out NRT.out (by simp)); have n1_ := Aside0.mk hi2; have n2_ := Aside0.mk hb; have n3_ := Aside0.mk (KeepBut.blk hk BX.out NTX.out.symm (by simp)); clear BR IT HB BX; have BR := n0_; have IT := n1_; have HB := n2_; have BX := n3_; clear n0_ n1_ n2_ n3_; have hcy8 : w7.cell? ⟨gx, 8, none⟩ = some (.bool x.f6.f0) := (blk_cell BX.out 8).trans rfl; have hfy8 := blk_frozen BX.out 8; have hcy9 : w7.cell? ⟨gx, 9, none⟩ = some (.string x.f6.f1) := (blk_cell BX.out 9).trans rfl; have hfy9 := blk_frozen BX.out 9; clear hi2 hb hk) | ((with_reducible refine gate_callee (f := 108) rfl ?_); refine goesL_ (some 39) rfl rfl Try.func108 (by kernel_rfl) rfl #[.pointer (some ⟨gt, 0, none⟩)] rfl (by (try simp only [List.map_toArray, List.map_cons, List.map_nil]); first | done | rfl) ?_; (with_reducible refine (entry_taker_slot.calls gt r1 b1 x2.f0 x2.f1 r2 b2 w _ (IsS127.far (IsS127.far IT.out NTX.out _) NTX.out _) (below_set (below_set HB.out GX.out) GX.out) HT2.out).mono ?_); rintro e w8 ⟨rfl, hi2, hb, hk⟩; refine ⟨_, rfl, ?_⟩; have n0_ := Aside0.mk (KeepBut.blk hk (blk_far (blk_far BR.out NRX.out _) NRX.out _) NRT.out (by simp)); have n1_ := Aside0.mk hi2; have n2_ := Aside0.mk hb; have n3_ := Aside0.mk (KeepBut.blk hk (blk_set (blk_set BX.out 8 _) 9 _) NTX.out.symm (by simp)); clear hcy8 hfy8 hcy9 hfy9; clear BR IT HB BX; have BR := n0_; have IT := n1_; have HB := n2_; have BX := n3_; clear n0_ n1_ n2_ n3_; have hcy10 : w8.cell? ⟨gx, 10, none⟩ = some (.bool x.f7.f0) := (blk_cell BX.out 10).trans rfl; have hfy10 := blk_frozen BX.out 10; have hcy11 : w8.cell? ⟨gx, 11, none⟩ = some (.string x.f7.f1) := (blk_cell BX.out 11).trans rfl; have hfy11 := blk_frozen BX.out 11; clear hi2 hb hk))
            go_meet
            exact ⟨withS x x1 x2, r2, b2, HF, ⟨blk_set (blk_set BX.out 10 _) 11 _⟩, ⟨IsS127.far (IsS127.far IT.out NTX.out _) NTX.out _⟩, ⟨blk_far (blk_far BR.out NRX.out _) NRX.out _⟩, ⟨below_set (below_set HB.out GX.out) GX.out⟩⟩
          | false =>
            have HF : Aside0 (decT (x, r, b) = finE x r b) := ⟨by
              unfold decT
              exact if_neg (of_decide_eq_false HCK.out)⟩
            go_wp2
            go_meet
            exact ⟨x, r, b, HF, BX, IT, BR, HB⟩
        case rest =>
          clear BX IT BR HB
          obtain ⟨y, r2, b2, HF, BX, IT, BR, HB⟩ := hcut
          cases b2 with
          | true =>
            have hct := cellS127_1 IT.out.1
            have hcr0 : wc.cell? ⟨gr, 0, none⟩ = some (.int .i64 0) := (blk_cell BR.out 0).trans rfl; have hfr0 := blk_frozen BR.out 0; have hcr1 : wc.cell? ⟨gr, 1, none⟩ = some (.int .i64 0) := (blk_cell BR.out 1).trans rfl; have hfr1 := blk_frozen BR.out 1; have hcr2 : wc.cell? ⟨gr, 2, none⟩ = some (.int .i64 0) := (blk_cell BR.out 2).trans rfl; have hfr2 := blk_frozen BR.out 2; have hcr3 : wc.cell? ⟨gr, 3, none⟩ = some (.int .i64 0) := (blk_cell BR.out 3).trans rfl; have hfr3 := blk_frozen BR.out 3; have hcr4 : wc.cell? ⟨gr, 4, none⟩ = some (.int .i64 0) := (blk_cell BR.out 4).trans rfl; have hfr4 := blk_frozen BR.out 4; have hcr5 : wc.cell? ⟨gr, 5, none⟩ = some (.int .i64 0) := (blk_cell BR.out 5).trans rfl; have hfr5 := blk_frozen BR.out 5; have hcr6 : wc.cell? ⟨gr, 6, none⟩ = some (.int .i64 0) := (blk_cell BR.out 6).trans rfl; have hfr6 := blk_frozen BR.out 6; have hcr7 : wc.cell? ⟨gr, 7, none⟩ = some (.int .i64 0) := (blk_cell BR.out 7).trans rfl; have hfr7 := blk_frozen BR.out 7; have hcr8 : wc.cell? ⟨gr, 8, none⟩ = some (.bool false) := (blk_cell BR.out 8).trans rfl; have hfr8 := blk_frozen BR.out 8; have hcr9 : wc.cell? ⟨gr, 9, none⟩ = some (.string (⟨#[]⟩ : ByteArray)) := (blk_cell BR.out 9).trans rfl; have hfr9 := blk_frozen BR.out 9; have hcr10 : wc.cell? ⟨gr, 10, none⟩ = some (.bool false) := (blk_cell BR.out 10).trans rfl; have hfr10 := blk_frozen BR.out 10; have hcr11 : wc.cell? ⟨gr, 11, none⟩ = some (.string (⟨#[]⟩ : ByteArray)) := (blk_cell BR.out 11).trans rfl; have hfr11 := blk_frozen BR.out 11; have hcr12 : wc.cell? ⟨gr, 12, none⟩ = some (.int .i64 0) := (blk_cell BR.out 12).trans rfl; have hfr12 := blk_frozen BR.out 12
            go_wp2
            refine bodyPost_ret (results_ctt rfl _ _ gr 65 #[.int .i64 0, .int .i64 0, .int .i64 0, .int .i64 0, .int .i64 0, .int .i64 0, .int .i64 0, .int .i64 0, .bool false, .string (⟨#[]⟩ : ByteArray), .bool false, .string (⟨#[]⟩ : ByteArray), .int .i64 0] (0, 0) _ rfl ((p13 wc gr (0) (0) (0) (0) (0) (0) (0) (0) (false) ((⟨#[]⟩ : ByteArray)) (false) ((⟨#[]⟩ : ByteArray)) (0) BR.out).1) Try.underlying65 rfl (by kernel_rfl)) rfl ?_
            exact ⟨by rw [HE.out, HF.out, fin_bad]; rfl, (p13 wc gr (0) (0) (0) (0) (0) (0) (0) (0) (false) ((⟨#[]⟩ : ByteArray)) (false) ((⟨#[]⟩ : ByteArray)) (0) BR.out).2.2 w HB.out GR.out⟩
          | false =>
            by_cases hg : GoodE y
            · have HGD : Aside0 (entGood.f y.f0 y.f1.f0 y.f1.f1 y.f1.f2 y.f2 y.f3 y.f4 y.f5 y.f6.f0 y.f6.f1 y.f7.f0 y.f7.f1 y.f8 = some true) := ⟨congrArg some (decide_eq_true hg)⟩
              have HX : Aside0 (finE y r2 false = (y, r2, 0)) := ⟨by unfold finE; rw [if_pos ⟨rfl, hg⟩]⟩
              clear hg
              have hct := cellS127_1 IT.out.1
              have hcx0 : wc.cell? ⟨gx, 0, none⟩ = some (.int .i64 y.f0) := (blk_cell BX.out 0).trans rfl; have hfx0 := blk_frozen BX.out 0; have hcx1 : wc.cell? ⟨gx, 1, none⟩ = some (.int .i64 y.f1.f0) := (blk_cell BX.out 1).trans rfl; have hfx1 := blk_frozen BX.out 1; have hcx2 : wc.cell? ⟨gx, 2, none⟩ = some (.int .i64 y.f1.f1) := (blk_cell BX.out 2).trans rfl; have hfx2 := blk_frozen BX.out 2; have hcx3 : wc.cell? ⟨gx, 3, none⟩ = some (.int .i64 y.f1.f2) := (blk_cell BX.out 3).trans rfl; have hfx3 := blk_frozen BX.out 3; have hcx4 : wc.cell? ⟨gx, 4, none⟩ = some (.int .i64 y.f2) := (blk_cell BX.out 4).trans rfl; have hfx4 := blk_frozen BX.out 4; have hcx5 : wc.cell? ⟨gx, 5, none⟩ = some (.int .i64 y.f3) := (blk_cell BX.out 5).trans rfl; have hfx5 := blk_frozen BX.out 5; have hcx6 : wc.cell? ⟨gx, 6, none⟩ = some (.int .i64 y.f4) := (blk_cell BX.out 6).trans rfl; have hfx6 := blk_frozen BX.out 6; have hcx7 : wc.cell? ⟨gx, 7, none⟩ = some (.int .i64 y.f5) := (blk_cell BX.out 7).trans rfl; have hfx7 := blk_frozen BX.out 7; have hcx8 : wc.cell? ⟨gx, 8, none⟩ = some (.bool y.f6.f0) := (blk_cell BX.out 8).trans rfl; have hfx8 := blk_frozen BX.out 8; have hcx9 : wc.cell? ⟨gx, 9, none⟩ = some (.string y.f6.f1) := (blk_cell BX.out 9).trans rfl; have hfx9 := blk_frozen BX.out 9; have hcx10 : wc.cell? ⟨gx, 10, none⟩ = some (.bool y.f7.f0) := (blk_cell BX.out 10).trans rfl; have hfx10 := blk_frozen BX.out 10; have hcx11 : wc.cell? ⟨gx, 11, none⟩ = some (.string y.f7.f1) := (blk_cell BX.out 11).trans rfl; have hfx11 := blk_frozen BX.out 11; have hcx12 : wc.cell? ⟨gx, 12, none⟩ = some (.int .i64 y.f8) := (blk_cell BX.out 12).trans rfl; have hfx12 := blk_frozen BX.out 12
              go_wp2_with (first | ((with_reducible refine gate_callee (f := 55) rfl ?_); (refine gate_guard (by rfl) ?_); refine goesL_ (some 47) rfl rfl Try.func55 (by kernel_rfl) rfl #[.agg #[.int .i64 y.f0, .int .i64 y.f1.f0, .int .i64 y.f1.f1, .int .i64 y.f1.f2, .int .i64 y.f2, .int .i64 y.f3, .int .i64 y.f4, .int .i64 y.f5, .bool y.f6.f0, .string y.f6.f1, .bool y.f7.f0, .string y.f7.f1, .int .i64 y.f8]] rfl (by (try simp only [List.map_toArray, List.map_cons, List.map_nil]); first | done | rfl) ?_; (with_reducible refine (entGood.calls y.f0 y.f1.f0 y.f1.f1 y.f1.f2 y.f2 y.f3 y.f4 y.f5 y.f6.f0 y.f6.f1 y.f7.f0 y.f7.f1 y.f8 true _ HGD.out).mono ?_); rintro e w9 ⟨rfl, hb⟩; refine ⟨_, rfl, ?_⟩; have n0_ := Aside0.mk (blk_below BR.out hb); have n1_ := Aside0.mk (IsS127.below IT.out hb); have n2_ := Aside0.mk (below_step HB.out hb); have n3_ := Aside0.mk (blk_below BX.out hb); clear hct; clear hcx0 hfx0 hcx1 hfx1 hcx2 hfx2 hcx3 hfx3 hcx4 hfx4 hcx5 hfx5 hcx6 hfx6 hcx7 hfx7 hcx8 hfx8 hcx9 hfx9 hcx10 hfx10 hcx11 hfx11 hcx12 hfx12; clear BR IT HB BX; have BR := n0_; have IT := n1_; have HB := n2_; have BX := n3_; clear n0_ n1_ n2_ n3_; skip; clear hb))
              have n0_ := Aside0.mk (blk_drew BX.out)
              have n1_ := Aside0.mk (IsS127.drew IT.out)
              have n2_ := Aside0.mk (blk_drew BR.out)
              have n3_ := Aside0.mk (below_drew1 HB.out)
              clear BX IT BR HB
              have BX := n0_
              have IT := n1_
              have BR := n2_
              have HB := n3_
              clear n0_ n1_ n2_ n3_
              refine start_ (n := 8) (S := fun w' => w'.heap[gx]? = some (.cells #[.int .i64 y.f0, .int .i64 y.f1.f0, .int .i64 y.f1.f1, .int .i64 y.f1.f2, .int .i64 y.f2, .int .i64 y.f3, .int .i64 y.f4, .int .i64 y.f5, .bool y.f6.f0, .string y.f6.f1, .bool y.f7.f0, .string y.f7.f1, .int .i64 y.f8] 65 (0, 0)) ∧ w'.heap[gt]? = some (.cells #[.string r2, .bool false] 127 (0, 0))) (ds := []) #[false, false, false, false, false, false, false, false] (by kernel_rfl) rfl rfl ⟨BX.out, IT.out.1⟩ (fun hHeld => ?_)
              generalize w9.drew = w10 at BX IT BR HB hHeld ⊢
              refine pure_ (i := 1) (N := some 52) (v := ?_) (a' := ?_) #[false, true, false, false, false, false, false, false] rfl rfl (by kernel_rfl) (fun _ _ _ h => h) (Or.inl ⟨by rfl, ?_⟩) ?_ ?_
              rotate_left
              · intro w'
                go_simp
                with_reducible rfl
              rotate_left
              · simp only [Act.put, List.setIfInBounds_toArray, List.set_cons_zero, List.set_cons_succ, i64_w, i32_w]
                rfl
              refine pure_ (i := 2) (N := some 53) (v := ?_) (a' := ?_) #[false, true, true, false, false, false, false, false] rfl rfl (by kernel_rfl) (fun _ _ _ h => h) (Or.inl ⟨by rfl, ?_⟩) ?_ ?_
              rotate_left
              · intro w'
                go_simp
                with_reducible rfl
              rotate_left
              · simp only [Act.put, List.setIfInBounds_toArray, List.set_cons_zero, List.set_cons_succ, i64_w, i32_w]
                rfl
              refine pure_ (i := 3) (N := some 54) (v := ?_) (a' := ?_) #[false, true, true, true, false, false, false, false] rfl rfl (by kernel_rfl) (fun _ _ _ h => h) (Or.inl ⟨by rfl, ?_⟩) ?_ ?_
              rotate_left
              · intro w'
                go_simp
                with_reducible rfl
              rotate_left
              · simp only [Act.put, List.setIfInBounds_toArray, List.set_cons_zero, List.set_cons_succ, i64_w, i32_w]
                rfl
              refine take_ (i := 0) (N := some 51) (v := ?_) (a' := ?_) #[true, true, true, true, false, false, false, false] rfl rfl (by kernel_rfl) (fun _ _ _ h => h) (Or.inl ⟨by rfl, ?_⟩) hHeld ?_ ?_
              rotate_left
              · rintro w' ⟨s0, s1⟩
                have hcs0 : w'.cell? ⟨gx, 0, none⟩ = some (.int .i64 y.f0) := (blk_cell s0 0).trans rfl; have hfs0 := blk_frozen s0 0; have hcs1 : w'.cell? ⟨gx, 1, none⟩ = some (.int .i64 y.f1.f0) := (blk_cell s0 1).trans rfl; have hfs1 := blk_frozen s0 1; have hcs2 : w'.cell? ⟨gx, 2, none⟩ = some (.int .i64 y.f1.f1) := (blk_cell s0 2).trans rfl; have hfs2 := blk_frozen s0 2; have hcs3 : w'.cell? ⟨gx, 3, none⟩ = some (.int .i64 y.f1.f2) := (blk_cell s0 3).trans rfl; have hfs3 := blk_frozen s0 3; have hcs4 : w'.cell? ⟨gx, 4, none⟩ = some (.int .i64 y.f2) := (blk_cell s0 4).trans rfl; have hfs4 := blk_frozen s0 4; have hcs5 : w'.cell? ⟨gx, 5, none⟩ = some (.int .i64 y.f3) := (blk_cell s0 5).trans rfl; have hfs5 := blk_frozen s0 5; have hcs6 : w'.cell? ⟨gx, 6, none⟩ = some (.int .i64 y.f4) := (blk_cell s0 6).trans rfl; have hfs6 := blk_frozen s0 6; have hcs7 : w'.cell? ⟨gx, 7, none⟩ = some (.int .i64 y.f5) := (blk_cell s0 7).trans rfl; have hfs7 := blk_frozen s0 7; have hcs8 : w'.cell? ⟨gx, 8, none⟩ = some (.bool y.f6.f0) := (blk_cell s0 8).trans rfl; have hfs8 := blk_frozen s0 8; have hcs9 : w'.cell? ⟨gx, 9, none⟩ = some (.string y.f6.f1) := (blk_cell s0 9).trans rfl; have hfs9 := blk_frozen s0 9; have hcs10 : w'.cell? ⟨gx, 10, none⟩ = some (.bool y.f7.f0) := (blk_cell s0 10).trans rfl; have hfs10 := blk_frozen s0 10; have hcs11 : w'.cell? ⟨gx, 11, none⟩ = some (.string y.f7.f1) := (blk_cell s0 11).trans rfl; have hfs11 := blk_frozen s0 11; have hcs12 : w'.cell? ⟨gx, 12, none⟩ = some (.int .i64 y.f8) := (blk_cell s0 12).trans rfl; have hfs12 := blk_frozen s0 12
                go_simp
                with_reducible rfl
              rotate_left
              · simp only [Act.put, List.setIfInBounds_toArray, List.set_cons_zero, List.set_cons_succ, i64_w, i32_w]
                rfl
              refine take_ (i := 4) (N := some 55) (v := ?_) (a' := ?_) #[true, true, true, true, true, false, false, false] rfl rfl (by kernel_rfl) (fun _ _ _ h => h) (Or.inl ⟨by rfl, ?_⟩) hHeld ?_ ?_
              rotate_left
              · rintro w' ⟨s0, s1⟩
                have t0 := cellS127_0 s1
                go_simp
                with_reducible rfl
              rotate_left
              · simp only [Act.put, List.setIfInBounds_toArray, List.set_cons_zero, List.set_cons_succ, i64_w, i32_w]
                rfl
              refine one_ (i := 5) (N := none) #[true, true, true, true, true, true, false, false] rfl rfl (by kernel_rfl) (by decide) (fun K hK => ?_)
              have hcq0 : w10.cell? ⟨gr, 0, none⟩ = some (.int .i64 0) := (blk_cell BR.out 0).trans rfl; have hfq0 := blk_frozen BR.out 0; have hcq1 : w10.cell? ⟨gr, 1, none⟩ = some (.int .i64 0) := (blk_cell BR.out 1).trans rfl; have hfq1 := blk_frozen BR.out 1; have hcq2 : w10.cell? ⟨gr, 2, none⟩ = some (.int .i64 0) := (blk_cell BR.out 2).trans rfl; have hfq2 := blk_frozen BR.out 2; have hcq3 : w10.cell? ⟨gr, 3, none⟩ = some (.int .i64 0) := (blk_cell BR.out 3).trans rfl; have hfq3 := blk_frozen BR.out 3; have hcq4 : w10.cell? ⟨gr, 4, none⟩ = some (.int .i64 0) := (blk_cell BR.out 4).trans rfl; have hfq4 := blk_frozen BR.out 4; have hcq5 : w10.cell? ⟨gr, 5, none⟩ = some (.int .i64 0) := (blk_cell BR.out 5).trans rfl; have hfq5 := blk_frozen BR.out 5; have hcq6 : w10.cell? ⟨gr, 6, none⟩ = some (.int .i64 0) := (blk_cell BR.out 6).trans rfl; have hfq6 := blk_frozen BR.out 6; have hcq7 : w10.cell? ⟨gr, 7, none⟩ = some (.int .i64 0) := (blk_cell BR.out 7).trans rfl; have hfq7 := blk_frozen BR.out 7; have hcq8 : w10.cell? ⟨gr, 8, none⟩ = some (.bool false) := (blk_cell BR.out 8).trans rfl; have hfq8 := blk_frozen BR.out 8; have hcq9 : w10.cell? ⟨gr, 9, none⟩ = some (.string (⟨#[]⟩ : ByteArray)) := (blk_cell BR.out 9).trans rfl; have hfq9 := blk_frozen BR.out 9; have hcq10 : w10.cell? ⟨gr, 10, none⟩ = some (.bool false) := (blk_cell BR.out 10).trans rfl; have hfq10 := blk_frozen BR.out 10; have hcq11 : w10.cell? ⟨gr, 11, none⟩ = some (.string (⟨#[]⟩ : ByteArray)) := (blk_cell BR.out 11).trans rfl; have hfq11 := blk_frozen BR.out 11; have hcq12 : w10.cell? ⟨gr, 12, none⟩ = some (.int .i64 0) := (blk_cell BR.out 12).trans rfl; have hfq12 := blk_frozen BR.out 12
              refine skip_ (w1 := ?_) (by rfl) rfl ?_ ?_
              rotate_left
              · go_simp
                rfl
              refine hK.out _ _ ⟨(p13 w10 gr (y.f0) (y.f1.f0) (y.f1.f1) (y.f1.f2) (y.f2) (y.f3) (y.f4) (y.f5) (y.f6.f0) (y.f6.f1) (y.f7.f0) (y.f7.f1) (y.f8) BR.out).2.1 gx _ BX.out NRX.out.symm, (p13 w10 gr (y.f0) (y.f1.f0) (y.f1.f1) (y.f1.f2) (y.f2) (y.f3) (y.f4) (y.f5) (y.f6.f0) (y.f6.f1) (y.f7.f0) (y.f7.f1) (y.f8) BR.out).2.1 gt _ IT.out.1 NRT.out.symm⟩ (fun hHeld => ?_)
              clear hK K
              refine pure_ (i := 6) (N := some 3) (v := ?_) (a' := ?_) #[true, true, true, true, true, true, true, false] rfl rfl (by kernel_rfl) (fun _ _ _ h => h) (Or.inl ⟨by rfl, ?_⟩) ?_ ?_
              rotate_left
              · intro w'
                go_simp
                with_reducible rfl
              rotate_left
              · simp only [Act.put, List.setIfInBounds_toArray, List.set_cons_zero, List.set_cons_succ, i64_w, i32_w]
                rfl
              refine pure_ (i := 7) (N := some 4) (v := ?_) (a' := ?_) #[true, true, true, true, true, true, true, true] rfl rfl (by kernel_rfl) (fun _ _ _ h => h) (Or.inl ⟨by rfl, ?_⟩) ?_ ?_
              rotate_left
              · intro w'
                go_simp
                with_reducible rfl
              rotate_left
              · simp only [Act.put, List.setIfInBounds_toArray, List.set_cons_zero, List.set_cons_succ, i64_w, i32_w]
                rfl
              refine done_ (by kernel_rfl) ?_
              try go_wp2
              refine bodyPost_ret (results_ctt rfl _ _ gr 65 #[.int .i64 y.f0, .int .i64 y.f1.f0, .int .i64 y.f1.f1, .int .i64 y.f1.f2, .int .i64 y.f2, .int .i64 y.f3, .int .i64 y.f4, .int .i64 y.f5, .bool y.f6.f0, .string y.f6.f1, .bool y.f7.f0, .string y.f7.f1, .int .i64 y.f8] (0, 0) _ rfl ((p13 w10 gr (y.f0) (y.f1.f0) (y.f1.f1) (y.f1.f2) (y.f2) (y.f3) (y.f4) (y.f5) (y.f6.f0) (y.f6.f1) (y.f7.f0) (y.f7.f1) (y.f8) BR.out).1) Try.underlying65 rfl (by kernel_rfl)) rfl ?_
              exact ⟨by rw [HE.out, HF.out, HX.out]; rfl, (p13 w10 gr (y.f0) (y.f1.f0) (y.f1.f1) (y.f1.f2) (y.f2) (y.f3) (y.f4) (y.f5) (y.f6.f0) (y.f6.f1) (y.f7.f0) (y.f7.f1) (y.f8) BR.out).2.2 w HB.out GR.out⟩
            · have HGD : Aside0 (entGood.f y.f0 y.f1.f0 y.f1.f1 y.f1.f2 y.f2 y.f3 y.f4 y.f5 y.f6.f0 y.f6.f1 y.f7.f0 y.f7.f1 y.f8 = some false) := ⟨congrArg some (decide_eq_false hg)⟩
              have HX : Aside0 (finE y r2 false = (zE, ⟨#[]⟩, 4)) := ⟨by unfold finE; rw [if_neg (fun h => hg h.2)]⟩
              clear hg
              have hct := cellS127_1 IT.out.1
              have hcx0 : wc.cell? ⟨gx, 0, none⟩ = some (.int .i64 y.f0) := (blk_cell BX.out 0).trans rfl; have hfx0 := blk_frozen BX.out 0; have hcx1 : wc.cell? ⟨gx, 1, none⟩ = some (.int .i64 y.f1.f0) := (blk_cell BX.out 1).trans rfl; have hfx1 := blk_frozen BX.out 1; have hcx2 : wc.cell? ⟨gx, 2, none⟩ = some (.int .i64 y.f1.f1) := (blk_cell BX.out 2).trans rfl; have hfx2 := blk_frozen BX.out 2; have hcx3 : wc.cell? ⟨gx, 3, none⟩ = some (.int .i64 y.f1.f2) := (blk_cell BX.out 3).trans rfl; have hfx3 := blk_frozen BX.out 3; have hcx4 : wc.cell? ⟨gx, 4, none⟩ = some (.int .i64 y.f2) := (blk_cell BX.out 4).trans rfl; have hfx4 := blk_frozen BX.out 4; have hcx5 : wc.cell? ⟨gx, 5, none⟩ = some (.int .i64 y.f3) := (blk_cell BX.out 5).trans rfl; have hfx5 := blk_frozen BX.out 5; have hcx6 : wc.cell? ⟨gx, 6, none⟩ = some (.int .i64 y.f4) := (blk_cell BX.out 6).trans rfl; have hfx6 := blk_frozen BX.out 6; have hcx7 : wc.cell? ⟨gx, 7, none⟩ = some (.int .i64 y.f5) := (blk_cell BX.out 7).trans rfl; have hfx7 := blk_frozen BX.out 7; have hcx8 : wc.cell? ⟨gx, 8, none⟩ = some (.bool y.f6.f0) := (blk_cell BX.out 8).trans rfl; have hfx8 := blk_frozen BX.out 8; have hcx9 : wc.cell? ⟨gx, 9, none⟩ = some (.string y.f6.f1) := (blk_cell BX.out 9).trans rfl; have hfx9 := blk_frozen BX.out 9; have hcx10 : wc.cell? ⟨gx, 10, none⟩ = some (.bool y.f7.f0) := (blk_cell BX.out 10).trans rfl; have hfx10 := blk_frozen BX.out 10; have hcx11 : wc.cell? ⟨gx, 11, none⟩ = some (.string y.f7.f1) := (blk_cell BX.out 11).trans rfl; have hfx11 := blk_frozen BX.out 11; have hcx12 : wc.cell? ⟨gx, 12, none⟩ = some (.int .i64 y.f8) := (blk_cell BX.out 12).trans rfl; have hfx12 := blk_frozen BX.out 12
              go_wp2_with (first | ((with_reducible refine gate_callee (f := 55) rfl ?_); (refine gate_guard (by rfl) ?_); refine goesL_ (some 47) rfl rfl Try.func55 (by kernel_rfl) rfl #[.agg #[.int .i64 y.f0, .int .i64 y.f1.f0, .int .i64 y.f1.f1, .int .i64 y.f1.f2, .int .i64 y.f2, .int .i64 y.f3, .int .i64 y.f4, .int .i64 y.f5, .bool y.f6.f0, .string y.f6.f1, .bool y.f7.f0, .string y.f7.f1, .int .i64 y.f8]] rfl (by (try simp only [List.map_toArray, List.map_cons, List.map_nil]); first | done | rfl) ?_; (with_reducible refine (entGood.calls y.f0 y.f1.f0 y.f1.f1 y.f1.f2 y.f2 y.f3 y.f4 y.f5 y.f6.f0 y.f6.f1 y.f7.f0 y.f7.f1 y.f8 false _ HGD.out).mono ?_); rintro e w9 ⟨rfl, hb⟩; refine ⟨_, rfl, ?_⟩; have n0_ := Aside0.mk (blk_below BR.out hb); have n1_ := Aside0.mk (IsS127.below IT.out hb); have n2_ := Aside0.mk (below_step HB.out hb); have n3_ := Aside0.mk (blk_below BX.out hb); clear hct; clear hcx0 hfx0 hcx1 hfx1 hcx2 hfx2 hcx3 hfx3 hcx4 hfx4 hcx5 hfx5 hcx6 hfx6 hcx7 hfx7 hcx8 hfx8 hcx9 hfx9 hcx10 hfx10 hcx11 hfx11 hcx12 hfx12; clear BR IT HB BX; have BR := n0_; have IT := n1_; have HB := n2_; have BX := n3_; clear n0_ n1_ n2_ n3_; have hcr0 : w9.cell? ⟨gr, 0, none⟩ = some (.int .i64 0) := (blk_cell BR.out 0).trans rfl; have hfr0 := blk_frozen BR.out 0; have hcr1 : w9.cell? ⟨gr, 1, none⟩ = some (.int .i64 0) := (blk_cell BR.out 1).trans rfl; have hfr1 := blk_frozen BR.out 1; have hcr2 : w9.cell? ⟨gr, 2, none⟩ = some (.int .i64 0) := (blk_cell BR.out 2).trans rfl; have hfr2 := blk_frozen BR.out 2; have hcr3 : w9.cell? ⟨gr, 3, none⟩ = some (.int .i64 0) := (blk_cell BR.out 3).trans rfl; have hfr3 := blk_frozen BR.out 3; have hcr4 : w9.cell? ⟨gr, 4, none⟩ = some (.int .i64 0) := (blk_cell BR.out 4).trans rfl; have hfr4 := blk_frozen BR.out 4; have hcr5 : w9.cell? ⟨gr, 5, none⟩ = some (.int .i64 0) := (blk_cell BR.out 5).trans rfl; have hfr5 := blk_frozen BR.out 5; have hcr6 : w9.cell? ⟨gr, 6, none⟩ = some (.int .i64 0) := (blk_cell BR.out 6).trans rfl; have hfr6 := blk_frozen BR.out 6; have hcr7 : w9.cell? ⟨gr, 7, none⟩ = some (.int .i64 0) := (blk_cell BR.out 7).trans rfl; have hfr7 := blk_frozen BR.out 7; have hcr8 : w9.cell? ⟨gr, 8, none⟩ = some (.bool false) := (blk_cell BR.out 8).trans rfl; have hfr8 := blk_frozen BR.out 8; have hcr9 : w9.cell? ⟨gr, 9, none⟩ = some (.string (⟨#[]⟩ : ByteArray)) := (blk_cell BR.out 9).trans rfl; have hfr9 := blk_frozen BR.out 9; have hcr10 : w9.cell? ⟨gr, 10, none⟩ = some (.bool false) := (blk_cell BR.out 10).trans rfl; have hfr10 := blk_frozen BR.out 10; have hcr11 : w9.cell? ⟨gr, 11, none⟩ = some (.string (⟨#[]⟩ : ByteArray)) := (blk_cell BR.out 11).trans rfl; have hfr11 := blk_frozen BR.out 11; have hcr12 : w9.cell? ⟨gr, 12, none⟩ = some (.int .i64 0) := (blk_cell BR.out 12).trans rfl; have hfr12 := blk_frozen BR.out 12; clear hb))
              refine bodyPost_ret (results_ctt rfl _ _ gr 65 #[.int .i64 0, .int .i64 0, .int .i64 0, .int .i64 0, .int .i64 0, .int .i64 0, .int .i64 0, .int .i64 0, .bool false, .string (⟨#[]⟩ : ByteArray), .bool false, .string (⟨#[]⟩ : ByteArray), .int .i64 0] (0, 0) _ rfl ((p13 w9 gr (0) (0) (0) (0) (0) (0) (0) (0) (false) ((⟨#[]⟩ : ByteArray)) (false) ((⟨#[]⟩ : ByteArray)) (0) BR.out).1) Try.underlying65 rfl (by kernel_rfl)) rfl ?_
              exact ⟨by rw [HE.out, HF.out, HX.out]; rfl, (p13 w9 gr (0) (0) (0) (0) (0) (0) (0) (0) (false) ((⟨#[]⟩ : ByteArray)) (false) ((⟨#[]⟩ : ByteArray)) (0) BR.out).2.2 w HB.out GR.out⟩
def entTup (q : S65 × ByteArray × Int) : Int × Int × Int × Int × Int × Int × Int × Int × Bool × ByteArray × Bool × ByteArray × Int × ByteArray × Int := (q.1.f0, q.1.f1.f0, q.1.f1.f1, q.1.f1.f2, q.1.f2, q.1.f3, q.1.f4, q.1.f5, q.1.f6.f0, q.1.f6.f1, q.1.f7.f0, q.1.f7.f1, q.1.f8, q.2.1, q.2.2)
def entry_Decode.f (s : ByteArray) : Option (Int × Int × Int × Int × Int × Int × Int × Int × Bool × ByteArray × Bool × ByteArray × Int × ByteArray × Int) := some (entTup (decE s))
theorem entry_Decode.calls (s : ByteArray) (r1 : Int) (r2 : Int) (r3 : Int) (r4 : Int) (r5 : Int) (r6 : Int) (r7 : Int) (r8 : Int) (r9 : Bool) (r10 : ByteArray) (r11 : Bool) (r12 : ByteArray) (r13 : Int) (r14 : ByteArray) (r15 : Int) (w : World) (h : entry_Decode.f s = some (r1, r2, r3, r4, r5, r6, r7, r8, r9, r10, r11, r12, r13, r14, r15)) :
    Calls Try.prog 63 #[.string s] w fun e w' => e = .returned (.tuple #[.agg #[.int .i64 r1, .int .i64 r2, .int .i64 r3, .int .i64 r4, .int .i64 r5, .int .i64 r6, .int .i64 r7, .int .i64 r8, .bool r9, .string r10, .bool r11, .string r12, .int .i64 r13], .string r14, .int .i64 r15]) ∧ Below w.heap.size w w' := by
  unfold entry_Decode.f entTup at h
  rw [← decG_eq] at h
  simp only [Option.some.injEq, Prod.mk.injEq] at h
  obtain ⟨rfl, rfl, rfl, rfl, rfl, rfl, rfl, rfl, rfl, rfl, rfl, rfl, rfl, rfl, rfl⟩ := h
  exact entry_Decode.run s w
end Go.Proofs.Ytfjmnaobfbmllaa.M
namespace Go.Proofs.Ytfjmnaobfbmllaa.M
open Go.RowKit Go.Proofs.YtfjmnaobfbmllaaW.PrintWords Go.Proofs.YtfjmnaobfbmllaaW.PrintLast Go.Proofs.YtfjmnaobfbmllaaW.PrintMore
attribute [local go_sem] max2_int min2_int max_two min_two max_three min_three max_four min_four   -- for this text's walks alone
set_option linter.unusedVariables false
set_option linter.unusedSimpArgs false
def seneschalref04_Known.f (a0_0 : Int) (a0_1 : Int) (a0_2 : Int) : Option (Bool) := if a0_0 ≥ 1 then (if a0_0 ≤ 8 then (if a0_1 ≥ 1 then (if a0_1 ≤ 1073741824 then (if a0_2 ≥ 1 then (some (decide (a0_2 ≤ 1073741824))) else (some false)) else (some false)) else (some false)) else (some false)) else (some false)
set_option maxHeartbeats 8000000 in
set_option maxRecDepth 100000 in
theorem seneschalref04_Known.calls (a0_0 : Int) (a0_1 : Int) (a0_2 : Int) (r : Bool) (w : World) (h : seneschalref04_Known.f a0_0 a0_1 a0_2 = some r) :
  Calls Try.prog 60 #[.agg #[.int .i64 a0_0, .int .i64 a0_1, .int .i64 a0_2]] w fun e w' => e = .returned (.bool r) ∧ Below w.heap.size w w' := by
 have hu52 := Try.underlying52
 have HB := Aside0.mk (Below.refl w.heap.size w)
 have H : (if a0_0 ≥ 1 then (if a0_0 ≤ 8 then (if a0_1 ≥ 1 then (if a0_1 ≤ 1073741824 then (if a0_2 ≥ 1 then (some (decide (a0_2 ≤ 1073741824))) else (some false)) else (some false)) else (some false)) else (some false)) else (some false)) = some r := h
 clear h
 by_cases c2 : a0_0 ≥ 1
 ·rw [if_pos c2] at H
  have c2b0 : decide (1 ≤ a0_0) = true := decide_eq_true c2
  clear c2
  by_cases c3 : a0_0 ≤ 8
  ·rw [if_pos c3] at H
   have c3b0 : decide (a0_0 ≤ 8) = true := decide_eq_true c3
   clear c3
   by_cases c4 : a0_1 ≥ 1
   ·rw [if_pos c4] at H
    have c4b0 : decide (1 ≤ a0_1) = true := decide_eq_true c4
    clear c4
    by_cases c5 : a0_1 ≤ 1073741824
    ·rw [if_pos c5] at H
     have c5b0 : decide (a0_1 ≤ 1073741824) = true := decide_eq_true c5
     clear c5
     by_cases c6 : a0_2 ≥ 1
     ·rw [if_pos c6] at H
      have c6b0 : decide (1 ≤ a0_2) = true := decide_eq_true c6
      clear c6
      obtain rfl := Option.some.inj H
      go_enter Try.func60, Try.ntmps60
      go_wp2_with (first | ((with_reducible refine gate_dst (N := 1) rfl ?_); refine box_event ?hg (N := 1) ?hd (cs := #[.int .i64 a0_0, .int .i64 a0_1, .int .i64 a0_2]) (t := 52) ?hr ?_; (case hd => rfl); (case hg => rfl); (case hr => first | (go_simp; done) | (go_simp; rfl)); intro gb101 hg w7 hbox hb; have n0_ := Aside0.mk (below_step HB.out hb); have n1_ := Aside0.mk (hbox); have n2_ := Aside0.mk ((by rw [hg]; exact below_size HB.out : w.heap.size ≤ gb101)); have n3_ := Aside0.mk ((by rw [hg]; exact below_size HB.out : w.heap.size ≤ gb101)); clear HB; have HB := n0_; have BK101 := n1_; have GW101 := n2_; have GE101 := n3_; clear n0_ n1_ n2_ n3_; clear hb hbox hg; obtain ⟨hcz8_0, hcz8_1, hcz8_2⟩ := cl3 (W := w7) BK101.out; obtain ⟨hfz8_0, hfz8_1, hfz8_2⟩ := fr3 BK101.out))
      go_ret
      exact ⟨by first | rfl | (simp [errW_none, errW_some] <;> rfl) | (simp [*, errW_none, errW_some] <;> rfl), by repeat (first | (with_reducible first | exact HB.out | apply below_alloc | apply pw_below_drewN | apply below_drew1 | refine below_set ?_ GE101.out) | exact HB.out)⟩
     ·rw [if_neg c6] at H
      have c6b0 : decide (1 ≤ a0_2) = false := decide_eq_false c6
      clear c6
      obtain rfl := Option.some.inj H
      go_enter Try.func60, Try.ntmps60
      go_wp2_with (first | ((with_reducible refine gate_dst (N := 1) rfl ?_); refine box_event ?hg (N := 1) ?hd (cs := #[.int .i64 a0_0, .int .i64 a0_1, .int .i64 a0_2]) (t := 52) ?hr ?_; (case hd => rfl); (case hg => rfl); (case hr => first | (go_simp; done) | (go_simp; rfl)); intro gb101 hg w9 hbox hb; have n0_ := Aside0.mk (below_step HB.out hb); have n1_ := Aside0.mk (hbox); have n2_ := Aside0.mk ((by rw [hg]; exact below_size HB.out : w.heap.size ≤ gb101)); have n3_ := Aside0.mk ((by rw [hg]; exact below_size HB.out : w.heap.size ≤ gb101)); clear HB; have HB := n0_; have BK101 := n1_; have GW101 := n2_; have GE101 := n3_; clear n0_ n1_ n2_ n3_; clear hb hbox hg; obtain ⟨hcz10_0, hcz10_1, hcz10_2⟩ := cl3 (W := w9) BK101.out; obtain ⟨hfz10_0, hfz10_1, hfz10_2⟩ := fr3 BK101.out))
      go_ret
      exact ⟨by first | rfl | (simp [errW_none, errW_some] <;> rfl) | (simp [*, errW_none, errW_some] <;> rfl), by repeat (first | (with_reducible first | exact HB.out | apply below_alloc | apply pw_below_drewN | apply below_drew1 | refine below_set ?_ GE101.out) | exact HB.out)⟩
    ·rw [if_neg c5] at H
     have c5b0 : decide (a0_1 ≤ 1073741824) = false := decide_eq_false c5
     clear c5
     obtain rfl := Option.some.inj H
     go_enter Try.func60, Try.ntmps60
     go_wp2_with (first | ((with_reducible refine gate_dst (N := 1) rfl ?_); refine box_event ?hg (N := 1) ?hd (cs := #[.int .i64 a0_0, .int .i64 a0_1, .int .i64 a0_2]) (t := 52) ?hr ?_; (case hd => rfl); (case hg => rfl); (case hr => first | (go_simp; done) | (go_simp; rfl)); intro gb101 hg w11 hbox hb; have n0_ := Aside0.mk (below_step HB.out hb); have n1_ := Aside0.mk (hbox); have n2_ := Aside0.mk ((by rw [hg]; exact below_size HB.out : w.heap.size ≤ gb101)); have n3_ := Aside0.mk ((by rw [hg]; exact below_size HB.out : w.heap.size ≤ gb101)); clear HB; have HB := n0_; have BK101 := n1_; have GW101 := n2_; have GE101 := n3_; clear n0_ n1_ n2_ n3_; clear hb hbox hg; obtain ⟨hcz12_0, hcz12_1, hcz12_2⟩ := cl3 (W := w11) BK101.out; obtain ⟨hfz12_0, hfz12_1, hfz12_2⟩ := fr3 BK101.out))
     go_ret
     exact ⟨by first | rfl | (simp [errW_none, errW_some] <;> rfl) | (simp [*, errW_none, errW_some] <;> rfl), by repeat (first | (with_reducible first | exact HB.out | apply below_alloc | apply pw_below_drewN | apply below_drew1 | refine below_set ?_ GE101.out) | exact HB.out)⟩
   ·rw [if_neg c4] at H
    have c4b0 : decide (1 ≤ a0_1) = false := decide_eq_false c4
    clear c4
    obtain rfl := Option.some.inj H
    go_enter Try.func60, Try.ntmps60
    go_wp2_with (first | ((with_reducible refine gate_dst (N := 1) rfl ?_); refine box_event ?hg (N := 1) ?hd (cs := #[.int .i64 a0_0, .int .i64 a0_1, .int .i64 a0_2]) (t := 52) ?hr ?_; (case hd => rfl); (case hg => rfl); (case hr => first | (go_simp; done) | (go_simp; rfl)); intro gb101 hg w13 hbox hb; have n0_ := Aside0.mk (below_step HB.out hb); have n1_ := Aside0.mk (hbox); have n2_ := Aside0.mk ((by rw [hg]; exact below_size HB.out : w.heap.size ≤ gb101)); have n3_ := Aside0.mk ((by rw [hg]; exact below_size HB.out : w.heap.size ≤ gb101)); clear HB; have HB := n0_; have BK101 := n1_; have GW101 := n2_; have GE101 := n3_; clear n0_ n1_ n2_ n3_; clear hb hbox hg; obtain ⟨hcz14_0, hcz14_1, hcz14_2⟩ := cl3 (W := w13) BK101.out; obtain ⟨hfz14_0, hfz14_1, hfz14_2⟩ := fr3 BK101.out))
    go_ret
    exact ⟨by first | rfl | (simp [errW_none, errW_some] <;> rfl) | (simp [*, errW_none, errW_some] <;> rfl), by repeat (first | (with_reducible first | exact HB.out | apply below_alloc | apply pw_below_drewN | apply below_drew1 | refine below_set ?_ GE101.out) | exact HB.out)⟩
  ·rw [if_neg c3] at H
   have c3b0 : decide (a0_0 ≤ 8) = false := decide_eq_false c3
   clear c3
   obtain rfl := Option.some.inj H
   go_enter Try.func60, Try.ntmps60
   go_wp2_with (first | ((with_reducible refine gate_dst (N := 1) rfl ?_); refine box_event ?hg (N := 1) ?hd (cs := #[.int .i64 a0_0, .int .i64 a0_1, .int .i64 a0_2]) (t := 52) ?hr ?_; (case hd => rfl); (case hg => rfl); (case hr => first | (go_simp; done) | (go_simp; rfl)); intro gb101 hg w15 hbox hb; have n0_ := Aside0.mk (below_step HB.out hb); have n1_ := Aside0.mk (hbox); have n2_ := Aside0.mk ((by rw [hg]; exact below_size HB.out : w.heap.size ≤ gb101)); have n3_ := Aside0.mk ((by rw [hg]; exact below_size HB.out : w.heap.size ≤ gb101)); clear HB; have HB := n0_; have BK101 := n1_; have GW101 := n2_; have GE101 := n3_; clear n0_ n1_ n2_ n3_; clear hb hbox hg; obtain ⟨hcz16_0, hcz16_1, hcz16_2⟩ := cl3 (W := w15) BK101.out; obtain ⟨hfz16_0, hfz16_1, hfz16_2⟩ := fr3 BK101.out))
   go_ret
   exact ⟨by first | rfl | (simp [errW_none, errW_some] <;> rfl) | (simp [*, errW_none, errW_some] <;> rfl), by repeat (first | (with_reducible first | exact HB.out | apply below_alloc | apply pw_below_drewN | apply below_drew1 | refine below_set ?_ GE101.out) | exact HB.out)⟩
 ·rw [if_neg c2] at H
  have c2b0 : decide (1 ≤ a0_0) = false := decide_eq_false c2
  clear c2
  obtain rfl := Option.some.inj H
  go_enter Try.func60, Try.ntmps60
  go_wp2_with (first | ((with_reducible refine gate_dst (N := 1) rfl ?_); refine box_event ?hg (N := 1) ?hd (cs := #[.int .i64 a0_0, .int .i64 a0_1, .int .i64 a0_2]) (t := 52) ?hr ?_; (case hd => rfl); (case hg => rfl); (case hr => first | (go_simp; done) | (go_simp; rfl)); intro gb101 hg w17 hbox hb; have n0_ := Aside0.mk (below_step HB.out hb); have n1_ := Aside0.mk (hbox); have n2_ := Aside0.mk ((by rw [hg]; exact below_size HB.out : w.heap.size ≤ gb101)); have n3_ := Aside0.mk ((by rw [hg]; exact below_size HB.out : w.heap.size ≤ gb101)); clear HB; have HB := n0_; have BK101 := n1_; have GW101 := n2_; have GE101 := n3_; clear n0_ n1_ n2_ n3_; clear hb hbox hg; obtain ⟨hcz18_0, hcz18_1, hcz18_2⟩ := cl3 (W := w17) BK101.out; obtain ⟨hfz18_0, hfz18_1, hfz18_2⟩ := fr3 BK101.out))
  go_ret
  exact ⟨by first | rfl | (simp [errW_none, errW_some] <;> rfl) | (simp [*, errW_none, errW_some] <;> rfl), by repeat (first | (with_reducible first | exact HB.out | apply below_alloc | apply pw_below_drewN | apply below_drew1 | refine below_set ?_ GE101.out) | exact HB.out)⟩
end Go.Proofs.Ytfjmnaobfbmllaa.M
namespace Go.Proofs.Ytfjmnaobfbmllaa.M
open Go.RowKit Go.Proofs.YtfjmnaobfbmllaaW.PrintWords Go.Proofs.YtfjmnaobfbmllaaW.PrintLast Go.Proofs.YtfjmnaobfbmllaaW.PrintMore
set_option linter.unusedVariables false
set_option linter.unusedSimpArgs false
theorem rknown_eq (c e n : Int) : seneschalref04_Known.f c e n = some (decide (KnownP c e n)) := by
  unfold seneschalref04_Known.f
  by_cases h1 : c ≥ 1
  · rw [if_pos h1]
    by_cases h2 : c ≤ 8
    · rw [if_pos h2]
      by_cases h3 : e ≥ 1
      · rw [if_pos h3]
        by_cases h4 : e ≤ 1073741824
        · rw [if_pos h4]
          by_cases h5 : n ≥ 1
          · rw [if_pos h5]; congr 1; exact decide_eq_decide.mpr (by unfold KnownP; omega)
          · rw [if_neg h5]; congr 1; exact (decide_eq_false (by unfold KnownP; omega)).symm
        · rw [if_neg h4]; congr 1; exact (decide_eq_false (by unfold KnownP; omega)).symm
      · rw [if_neg h3]; congr 1; exact (decide_eq_false (by unfold KnownP; omega)).symm
    · rw [if_neg h2]; congr 1; exact (decide_eq_false (by unfold KnownP; omega)).symm
  · rw [if_neg h1]; congr 1; exact (decide_eq_false (by unfold KnownP; omega)).symm
def refKnown4.f (c e n : Int) : Option Bool := some (decide (KnownP c e n))
theorem refKnown4.calls (c e n : Int) (r : Bool) (w : World) (h : refKnown4.f c e n = some r) : Calls Try.prog 60 #[.agg #[.int .i64 c, .int .i64 e, .int .i64 n]] w fun e w' => e = .returned (.bool r) ∧ Below w.heap.size w w' :=
  seneschalref04_Known.calls c e n r w (by rw [rknown_eq]; exact h)
end Go.Proofs.Ytfjmnaobfbmllaa.M
namespace Go.Proofs.Ytfjmnaobfbmllaa.M
open Go.RowKit Go.Proofs.YtfjmnaobfbmllaaW.PrintWords Go.Proofs.YtfjmnaobfbmllaaW.PrintLast Go.Proofs.YtfjmnaobfbmllaaW.PrintMore
theorem beq_nil (l : List UInt8) : (l == ([] : List UInt8)) = l.isEmpty := by cases l <;> rfl
end Go.Proofs.Ytfjmnaobfbmllaa.M
namespace Go.Proofs.Ytfjmnaobfbmllaa.M
open Go.RowKit Go.Proofs.YtfjmnaobfbmllaaW.PrintWords Go.Proofs.YtfjmnaobfbmllaaW.PrintLast Go.Proofs.YtfjmnaobfbmllaaW.PrintMore
attribute [local go_sem] max2_int min2_int max_two min_two max_three min_three max_four min_four   -- for this text's walks alone
set_option linter.unusedVariables false
set_option linter.unusedSimpArgs false
def seneschalref04_slot.f (a0_0 : Bool) (a0_1 : ByteArray) : Option (Bool) := if (a0_1.size : Int) ≤ 200 then (if a0_0 = true then (some true) else (some (a0_1.toList == ([] : List UInt8)))) else (some false)
set_option maxHeartbeats 8000000 in
set_option maxRecDepth 100000 in
theorem seneschalref04_slot.calls (a0_0 : Bool) (a0_1 : ByteArray) (r : Bool) (w : World) (h : seneschalref04_slot.f a0_0 a0_1 = some r) :
  Calls Try.prog 105 #[.agg #[.bool a0_0, .string a0_1]] w fun e w' => e = .returned (.bool r) ∧ Below w.heap.size w w' := by
 have hu33 := Try.underlying33
 have HB := Aside0.mk (Below.refl w.heap.size w)
 have H : (if (a0_1.size : Int) ≤ 200 then (if a0_0 = true then (some true) else (some (a0_1.toList == ([] : List UInt8)))) else (some false)) = some r := h
 clear h
 by_cases c2 : (a0_1.size : Int) ≤ 200
 ·rw [if_pos c2] at H
  have c2b0 : decide ((a0_1.size : Int) ≤ 200) = true := decide_eq_true c2
  have c2b1 : decide (a0_1.size ≤ 200) = true := decide_eq_true (by omega)
  clear c2
  by_cases c3 : a0_0 = true
  ·subst c3
   have H1 : (some true) = some r := by rw [if_pos rfl] at H; exact H
   clear H
   have H := H1
   clear H1
   obtain rfl := Option.some.inj H
   go_enter Try.func105, Try.ntmps105
   go_wp2_with (first | ((with_reducible refine gate_dst (N := 1) rfl ?_); refine box_event ?hg (N := 1) ?hd (cs := #[.bool true, .string a0_1]) (t := 33) ?hr ?_; (case hd => rfl); (case hg => rfl); (case hr => first | (go_simp; done) | (go_simp; rfl)); intro gb101 hg w4 hbox hb; have n0_ := Aside0.mk (below_step HB.out hb); have n1_ := Aside0.mk (hbox); have n2_ := Aside0.mk ((by rw [hg]; exact below_size HB.out : w.heap.size ≤ gb101)); have n3_ := Aside0.mk ((by rw [hg]; exact below_size HB.out : w.heap.size ≤ gb101)); clear HB; have HB := n0_; have BK101 := n1_; have GW101 := n2_; have GE101 := n3_; clear n0_ n1_ n2_ n3_; clear hb hbox hg; obtain ⟨hcz5_0, hcz5_1⟩ := cl2 (W := w4) BK101.out; obtain ⟨hfz5_0, hfz5_1⟩ := fr2 BK101.out))
   go_ret
   exact ⟨by first | rfl | (simp [errW_none, errW_some] <;> rfl) | (simp [*, errW_none, errW_some] <;> rfl), by repeat (first | (with_reducible first | exact HB.out | apply below_alloc | apply pw_below_drewN | apply below_drew1 | refine below_set ?_ GE101.out) | exact HB.out)⟩
  ·replace c3 := Bool.eq_false_iff.mpr c3
   subst c3
   have H1 : (some (a0_1.toList == ([] : List UInt8))) = some r := by rw [if_neg (show ¬ (false = true) by decide)] at H; exact H
   clear H
   have H := H1
   clear H1
   obtain rfl := Option.some.inj H
   go_enter Try.func105, Try.ntmps105
   go_wp2_with (first | ((with_reducible refine gate_dst (N := 1) rfl ?_); refine box_event ?hg (N := 1) ?hd (cs := #[.bool false, .string a0_1]) (t := 33) ?hr ?_; (case hd => rfl); (case hg => rfl); (case hr => first | (go_simp; done) | (go_simp; rfl)); intro gb101 hg w6 hbox hb; have n0_ := Aside0.mk (below_step HB.out hb); have n1_ := Aside0.mk (hbox); have n2_ := Aside0.mk ((by rw [hg]; exact below_size HB.out : w.heap.size ≤ gb101)); have n3_ := Aside0.mk ((by rw [hg]; exact below_size HB.out : w.heap.size ≤ gb101)); clear HB; have HB := n0_; have BK101 := n1_; have GW101 := n2_; have GE101 := n3_; clear n0_ n1_ n2_ n3_; clear hb hbox hg; obtain ⟨hcz7_0, hcz7_1⟩ := cl2 (W := w6) BK101.out; obtain ⟨hfz7_0, hfz7_1⟩ := fr2 BK101.out))
   go_ret
   exact ⟨by first | rfl | (simp [errW_none, errW_some] <;> rfl) | (simp [*, errW_none, errW_some] <;> rfl), by repeat (first | (with_reducible first | exact HB.out | apply below_alloc | apply pw_below_drewN | apply below_drew1 | refine below_set ?_ GE101.out) | exact HB.out)⟩
 ·rw [if_neg c2] at H
  have c2b0 : decide ((a0_1.size : Int) ≤ 200) = false := decide_eq_false c2
  have c2b1 : decide (a0_1.size ≤ 200) = false := decide_eq_false (by omega)
  clear c2
  obtain rfl := Option.some.inj H
  go_enter Try.func105, Try.ntmps105
  go_wp2_with (first | ((with_reducible refine gate_dst (N := 1) rfl ?_); refine box_event ?hg (N := 1) ?hd (cs := #[.bool a0_0, .string a0_1]) (t := 33) ?hr ?_; (case hd => rfl); (case hg => rfl); (case hr => first | (go_simp; done) | (go_simp; rfl)); intro gb101 hg w8 hbox hb; have n0_ := Aside0.mk (below_step HB.out hb); have n1_ := Aside0.mk (hbox); have n2_ := Aside0.mk ((by rw [hg]; exact below_size HB.out : w.heap.size ≤ gb101)); have n3_ := Aside0.mk ((by rw [hg]; exact below_size HB.out : w.heap.size ≤ gb101)); clear HB; have HB := n0_; have BK101 := n1_; have GW101 := n2_; have GE101 := n3_; clear n0_ n1_ n2_ n3_; clear hb hbox hg; obtain ⟨hcz9_0, hcz9_1⟩ := cl2 (W := w8) BK101.out; obtain ⟨hfz9_0, hfz9_1⟩ := fr2 BK101.out))
  go_ret
  exact ⟨by first | rfl | (simp [errW_none, errW_some] <;> rfl) | (simp [*, errW_none, errW_some] <;> rfl), by repeat (first | (with_reducible first | exact HB.out | apply below_alloc | apply pw_below_drewN | apply below_drew1 | refine below_set ?_ GE101.out) | exact HB.out)⟩
end Go.Proofs.Ytfjmnaobfbmllaa.M
namespace Go.Proofs.Ytfjmnaobfbmllaa.M
open Go.RowKit Go.Proofs.YtfjmnaobfbmllaaW.PrintWords Go.Proofs.YtfjmnaobfbmllaaW.PrintLast Go.Proofs.YtfjmnaobfbmllaaW.PrintMore
attribute [local go_sem] max2_int min2_int max_two min_two max_three min_three max_four min_four   -- for this text's walks alone
set_option linter.unusedVariables false
set_option linter.unusedSimpArgs false
attribute [local go_sem high] eqA33
mutual
def seneschalref04_Good.j0 : Nat → Bool → Int → Int → Int → Int → Int → Int → Int → Int → Bool → ByteArray → Bool → ByteArray → Int → Option (Bool)
 | 0, _, _, _, _, _, _, _, _, _, _, _, _, _, _ => none
 | k + 1, x29, x102000, x102001, x102002, x102003, x102004, x102005, x102006, x102007, x102008, x102009, x102010, x102011, x102012 => if x29 = true then (some false) else (if x102000 = 1 then (seneschalref04_Good.j1 k x102000 (x102000 == 1) x102000 x102001 x102002 x102003 x102004 x102005 x102006 x102007 x102008 x102009 x102010 x102011 x102012) else (seneschalref04_Good.j1 k x102000 (x102000 == 2) x102000 x102001 x102002 x102003 x102004 x102005 x102006 x102007 x102008 x102009 x102010 x102011 x102012))
def seneschalref04_Good.j1 : Nat → Int → Bool → Int → Int → Int → Int → Int → Int → Int → Int → Bool → ByteArray → Bool → ByteArray → Int → Option (Bool)
 | 0, _, _, _, _, _, _, _, _, _, _, _, _, _, _, _ => none
 | k + 1, x31, x32, x102000, x102001, x102002, x102003, x102004, x102005, x102006, x102007, x102008, x102009, x102010, x102011, x102012 => if x32 = true then (if x102006 < 0 then (some false) else (if x102006 > 1023 then (some false) else (if x102007 < 0 then (some false) else (if x102007 > 31 then (some false) else ((seneschalref04_slot.f x102008 x102009).bind fun t103 => (if t103 = true then ((seneschalref04_slot.f x102010 x102011).bind fun t104 => (if t104 = true then (if x102012 = 0 then (some true) else (if x102000 = 2 then (if x102012 > 0 then (some (decide (x102012 ≤ x102005))) else (some false)) else (some false))) else (some false))) else (some false))))))) else (if x31 = 3 then (if x102006 = 0 then (if x102007 = 0 then (if x102012 = 0 then (if (!x102008 && (x102009.toList == ([] : List UInt8))) = true then (some (!x102010 && (x102011.toList == ([] : List UInt8)))) else (some false)) else (some false)) else (some false)) else (some false)) else (if x31 = 4 then (if x102006 = 0 then (if x102007 = 0 then (if x102012 = 0 then (if (!x102008 && (x102009.toList == ([] : List UInt8))) = true then (some (!x102010 && (x102011.toList == ([] : List UInt8)))) else (some false)) else (some false)) else (some false)) else (some false)) else (some false)))
end
def seneschalref04_Good.f (k : Nat) (a0_0 : Int) (a0_1 : Int) (a0_2 : Int) (a0_3 : Int) (a0_4 : Int) (a0_5 : Int) (a0_6 : Int) (a0_7 : Int) (a0_8 : Bool) (a0_9 : ByteArray) (a0_10 : Bool) (a0_11 : ByteArray) (a0_12 : Int) : Option (Bool) := (refKnown4.f a0_1 a0_2 a0_3).bind fun t102 => (if t102 = true then (if a0_4 < 1 then (seneschalref04_Good.j0 k true a0_0 a0_1 a0_2 a0_3 a0_4 a0_5 a0_6 a0_7 a0_8 a0_9 a0_10 a0_11 a0_12) else (if a0_4 > 1099511627776 then (seneschalref04_Good.j0 k true a0_0 a0_1 a0_2 a0_3 a0_4 a0_5 a0_6 a0_7 a0_8 a0_9 a0_10 a0_11 a0_12) else (if a0_5 < 0 then (seneschalref04_Good.j0 k true a0_0 a0_1 a0_2 a0_3 a0_4 a0_5 a0_6 a0_7 a0_8 a0_9 a0_10 a0_11 a0_12) else (seneschalref04_Good.j0 k (decide (a0_5 ≥ a0_4)) a0_0 a0_1 a0_2 a0_3 a0_4 a0_5 a0_6 a0_7 a0_8 a0_9 a0_10 a0_11 a0_12)))) else (seneschalref04_Good.j0 k true a0_0 a0_1 a0_2 a0_3 a0_4 a0_5 a0_6 a0_7 a0_8 a0_9 a0_10 a0_11 a0_12))
set_option maxHeartbeats 8000000 in
set_option maxRecDepth 100000 in
theorem seneschalref04_Good.calls (k : Nat) (a0_0 : Int) (a0_1 : Int) (a0_2 : Int) (a0_3 : Int) (a0_4 : Int) (a0_5 : Int) (a0_6 : Int) (a0_7 : Int) (a0_8 : Bool) (a0_9 : ByteArray) (a0_10 : Bool) (a0_11 : ByteArray) (a0_12 : Int) (r : Bool) (w : World) (h : seneschalref04_Good.f k a0_0 a0_1 a0_2 a0_3 a0_4 a0_5 a0_6 a0_7 a0_8 a0_9 a0_10 a0_11 a0_12 = some r) :
  Calls Try.prog 56 #[.agg #[.int .i64 a0_0, .int .i64 a0_1, .int .i64 a0_2, .int .i64 a0_3, .int .i64 a0_4, .int .i64 a0_5, .int .i64 a0_6, .int .i64 a0_7, .bool a0_8, .string a0_9, .bool a0_10, .string a0_11, .int .i64 a0_12]] w fun e w' => e = .returned (.bool r) ∧ Below w.heap.size w w' := by
 have hu65 := Try.underlying65
 have hu52 := Try.underlying52
 have hu33 := Try.underlying33
 have HB := Aside0.mk (Below.refl w.heap.size w)
 have H : ((refKnown4.f a0_1 a0_2 a0_3).bind fun t102 => (if t102 = true then (if a0_4 < 1 then (seneschalref04_Good.j0 k true a0_0 a0_1 a0_2 a0_3 a0_4 a0_5 a0_6 a0_7 a0_8 a0_9 a0_10 a0_11 a0_12) else (if a0_4 > 1099511627776 then (seneschalref04_Good.j0 k true a0_0 a0_1 a0_2 a0_3 a0_4 a0_5 a0_6 a0_7 a0_8 a0_9 a0_10 a0_11 a0_12) else (if a0_5 < 0 then (seneschalref04_Good.j0 k true a0_0 a0_1 a0_2 a0_3 a0_4 a0_5 a0_6 a0_7 a0_8 a0_9 a0_10 a0_11 a0_12) else (seneschalref04_Good.j0 k (decide (a0_5 ≥ a0_4)) a0_0 a0_1 a0_2 a0_3 a0_4 a0_5 a0_6 a0_7 a0_8 a0_9 a0_10 a0_11 a0_12)))) else (seneschalref04_Good.j0 k true a0_0 a0_1 a0_2 a0_3 a0_4 a0_5 a0_6 a0_7 a0_8 a0_9 a0_10 a0_11 a0_12))) = some r := h
 clear h
 have HC2 := Aside0.mk H
 clear H
 go_enter Try.func56, Try.ntmps56
 go_upto_region 1 with (first | ((with_reducible refine gate_dst (N := 1) rfl ?_); refine box_event ?hg (N := 1) ?hd (cs := #[.int .i64 a0_0, .int .i64 a0_1, .int .i64 a0_2, .int .i64 a0_3, .int .i64 a0_4, .int .i64 a0_5, .int .i64 a0_6, .int .i64 a0_7, .bool a0_8, .string a0_9, .bool a0_10, .string a0_11, .int .i64 a0_12]) (t := 65) ?hr ?_; (case hd => rfl); (case hg => rfl); (case hr => first | (go_simp; done) | (go_simp; rfl)); intro gb101 hg w3 hbox hb; have n0_ := Aside0.mk (below_step HB.out hb); have n1_ := Aside0.mk (hbox); have n2_ := Aside0.mk ((by rw [hg]; exact below_size HB.out : w.heap.size ≤ gb101)); have n3_ := Aside0.mk ((by rw [hg]; exact below_size HB.out : w.heap.size ≤ gb101)); clear HB; have HB := n0_; have BK101 := n1_; have GW101 := n2_; have GE101 := n3_; clear n0_ n1_ n2_ n3_; clear hb hbox hg))
 (try simp only [Act.put, List.setIfInBounds_toArray, List.set_cons_zero, List.set_cons_succ])
 go_cut [29] (fun v29 wc => ∃ (kq : Nat) (x29_1 : Bool), v29 = .bool x29_1 ∧ Aside0 (seneschalref04_Good.j0 kq x29_1 a0_0 a0_1 a0_2 a0_3 a0_4 a0_5 a0_6 a0_7 a0_8 a0_9 a0_10 a0_11 a0_12 = some r) ∧ Aside0 (kq ≤ k) ∧ Aside0 (wc.heap[gb101]? = some (.cells #[.int .i64 a0_0, .int .i64 a0_1, .int .i64 a0_2, .int .i64 a0_3, .int .i64 a0_4, .int .i64 a0_5, .int .i64 a0_6, .int .i64 a0_7, .bool a0_8, .string a0_9, .bool a0_10, .string a0_11, .int .i64 a0_12] 65 (0, 0))) ∧ Aside0 (Below w.heap.size w wc))
 case first =>
  have H := HC2.out
  clear HC2
  replace H := Option.bind_eq_some_iff.mp H
  obtain ⟨t102, A40, H⟩ := H
  replace H : (if t102 = true then (if a0_4 < 1 then (seneschalref04_Good.j0 k true a0_0 a0_1 a0_2 a0_3 a0_4 a0_5 a0_6 a0_7 a0_8 a0_9 a0_10 a0_11 a0_12) else (if a0_4 > 1099511627776 then (seneschalref04_Good.j0 k true a0_0 a0_1 a0_2 a0_3 a0_4 a0_5 a0_6 a0_7 a0_8 a0_9 a0_10 a0_11 a0_12) else (if a0_5 < 0 then (seneschalref04_Good.j0 k true a0_0 a0_1 a0_2 a0_3 a0_4 a0_5 a0_6 a0_7 a0_8 a0_9 a0_10 a0_11 a0_12) else (seneschalref04_Good.j0 k (decide (a0_5 ≥ a0_4)) a0_0 a0_1 a0_2 a0_3 a0_4 a0_5 a0_6 a0_7 a0_8 a0_9 a0_10 a0_11 a0_12)))) else (seneschalref04_Good.j0 k true a0_0 a0_1 a0_2 a0_3 a0_4 a0_5 a0_6 a0_7 a0_8 a0_9 a0_10 a0_11 a0_12)) = some r := H
  have A4 := Aside0.mk A40
  clear A40
  by_cases c5 : t102 = true
  ·subst c5
   have H1 : (if a0_4 < 1 then (seneschalref04_Good.j0 k true a0_0 a0_1 a0_2 a0_3 a0_4 a0_5 a0_6 a0_7 a0_8 a0_9 a0_10 a0_11 a0_12) else (if a0_4 > 1099511627776 then (seneschalref04_Good.j0 k true a0_0 a0_1 a0_2 a0_3 a0_4 a0_5 a0_6 a0_7 a0_8 a0_9 a0_10 a0_11 a0_12) else (if a0_5 < 0 then (seneschalref04_Good.j0 k true a0_0 a0_1 a0_2 a0_3 a0_4 a0_5 a0_6 a0_7 a0_8 a0_9 a0_10 a0_11 a0_12) else (seneschalref04_Good.j0 k (decide (a0_5 ≥ a0_4)) a0_0 a0_1 a0_2 a0_3 a0_4 a0_5 a0_6 a0_7 a0_8 a0_9 a0_10 a0_11 a0_12)))) = some r := by rw [if_pos rfl] at H; exact H
   clear H
   have H := H1
   clear H1
   by_cases c6 : a0_4 < 1
   ·rw [if_pos c6] at H
    have c6b0 : decide (a0_4 < 1) = true := decide_eq_true c6
    clear c6
    (first | rw [c6b0] | (simp only [i64_w, i32_w]; rw [c6b0]) | skip)
    have H' := Aside0.mk H
    clear H
    obtain ⟨hcz7_0, hcz7_1, hcz7_2, hcz7_3, hcz7_4, hcz7_5, hcz7_6, hcz7_7, hcz7_8, hcz7_9, hcz7_10, hcz7_11, hcz7_12⟩ := cl13 (W := w3) BK101.out
    obtain ⟨hfz7_0, hfz7_1, hfz7_2, hfz7_3, hfz7_4, hfz7_5, hfz7_6, hfz7_7, hfz7_8, hfz7_9, hfz7_10, hfz7_11, hfz7_12⟩ := fr13 BK101.out
    go_wp2_with (first | ((with_reducible refine gate_callee (f := 60) rfl ?_); refine goesL_ (some 6) rfl rfl Try.func60 (by kernel_rfl) rfl #[.agg #[.int .i64 a0_1, .int .i64 a0_2, .int .i64 a0_3]] rfl (by (try simp only [List.map_toArray, List.map_cons, List.map_nil]); first | done | rfl | (simp only [List.length_drop, List.length_take]; rfl)) ?_; (with_reducible refine (refKnown4.calls a0_1 a0_2 a0_3 true _ A4.out).mono ?_); rintro e w8 ⟨rfl, hb⟩; refine ⟨_, rfl, ?_⟩; have n0_ := Aside0.mk (blk_below BK101.out hb); have n1_ := Aside0.mk (below_step HB.out hb); clear BK101; clear HB; have BK101 := n0_; have HB := n1_; clear n0_ n1_; (try clear hb); (try clear hb2); (try clear hk); (try clear hi); obtain ⟨hcz9_0, hcz9_1, hcz9_2, hcz9_3, hcz9_4, hcz9_5, hcz9_6, hcz9_7, hcz9_8, hcz9_9, hcz9_10, hcz9_11, hcz9_12⟩ := cl13 (W := w8) BK101.out; obtain ⟨hfz9_0, hfz9_1, hfz9_2, hfz9_3, hfz9_4, hfz9_5, hfz9_6, hfz9_7, hfz9_8, hfz9_9, hfz9_10, hfz9_11, hfz9_12⟩ := fr13 BK101.out))
    go_meet
    case rel => exact ⟨_, (true), (by first | rfl | (simp; done) | (simp [*]; done)), H', ⟨by first | omega | exact Nat.le_refl _⟩, ⟨by (with_reducible repeat (first | refine blk_drewN ?_ _ | refine blk_drew ?_ | refine blk_alloc ?_ _)); exact BK101.out⟩, ⟨by repeat (first | (with_reducible first | exact HB.out | apply below_alloc | apply pw_below_drewN | apply below_drew1 | refine below_set ?_ GE101.out) | exact HB.out)⟩⟩
   ·rw [if_neg c6] at H
    have c6b0 : decide (a0_4 < 1) = false := decide_eq_false c6
    clear c6
    (first | rw [c6b0] | (simp only [i64_w, i32_w]; rw [c6b0]) | skip)
    by_cases c10 : a0_4 > 1099511627776
    ·rw [if_pos c10] at H
     have c10b0 : decide (1099511627776 < a0_4) = true := decide_eq_true c10
     clear c10
     have H' := Aside0.mk H
     clear H
     obtain ⟨hcz11_0, hcz11_1, hcz11_2, hcz11_3, hcz11_4, hcz11_5, hcz11_6, hcz11_7, hcz11_8, hcz11_9, hcz11_10, hcz11_11, hcz11_12⟩ := cl13 (W := w3) BK101.out
     obtain ⟨hfz11_0, hfz11_1, hfz11_2, hfz11_3, hfz11_4, hfz11_5, hfz11_6, hfz11_7, hfz11_8, hfz11_9, hfz11_10, hfz11_11, hfz11_12⟩ := fr13 BK101.out
     go_wp2_with (first | ((with_reducible refine gate_callee (f := 60) rfl ?_); refine goesL_ (some 6) rfl rfl Try.func60 (by kernel_rfl) rfl #[.agg #[.int .i64 a0_1, .int .i64 a0_2, .int .i64 a0_3]] rfl (by (try simp only [List.map_toArray, List.map_cons, List.map_nil]); first | done | rfl | (simp only [List.length_drop, List.length_take]; rfl)) ?_; (with_reducible refine (refKnown4.calls a0_1 a0_2 a0_3 true _ A4.out).mono ?_); rintro e w12 ⟨rfl, hb⟩; refine ⟨_, rfl, ?_⟩; have n0_ := Aside0.mk (blk_below BK101.out hb); have n1_ := Aside0.mk (below_step HB.out hb); clear BK101; clear HB; have BK101 := n0_; have HB := n1_; clear n0_ n1_; (try clear hb); (try clear hb2); (try clear hk); (try clear hi); obtain ⟨hcz13_0, hcz13_1, hcz13_2, hcz13_3, hcz13_4, hcz13_5, hcz13_6, hcz13_7, hcz13_8, hcz13_9, hcz13_10, hcz13_11, hcz13_12⟩ := cl13 (W := w12) BK101.out; obtain ⟨hfz13_0, hfz13_1, hfz13_2, hfz13_3, hfz13_4, hfz13_5, hfz13_6, hfz13_7, hfz13_8, hfz13_9, hfz13_10, hfz13_11, hfz13_12⟩ := fr13 BK101.out))
     go_meet
     case rel => exact ⟨_, (true), (by first | rfl | (simp; done) | (simp [*]; done)), H', ⟨by first | omega | exact Nat.le_refl _⟩, ⟨by (with_reducible repeat (first | refine blk_drewN ?_ _ | refine blk_drew ?_ | refine blk_alloc ?_ _)); exact BK101.out⟩, ⟨by repeat (first | (with_reducible first | exact HB.out | apply below_alloc | apply pw_below_drewN | apply below_drew1 | refine below_set ?_ GE101.out) | exact HB.out)⟩⟩
    ·rw [if_neg c10] at H
     have c10b0 : decide (1099511627776 < a0_4) = false := decide_eq_false c10
     clear c10
     by_cases c14 : a0_5 < 0
     ·rw [if_pos c14] at H
      have c14b0 : decide (a0_5 < 0) = true := decide_eq_true c14
      clear c14
      have H' := Aside0.mk H
      clear H
      obtain ⟨hcz15_0, hcz15_1, hcz15_2, hcz15_3, hcz15_4, hcz15_5, hcz15_6, hcz15_7, hcz15_8, hcz15_9, hcz15_10, hcz15_11, hcz15_12⟩ := cl13 (W := w3) BK101.out
      obtain ⟨hfz15_0, hfz15_1, hfz15_2, hfz15_3, hfz15_4, hfz15_5, hfz15_6, hfz15_7, hfz15_8, hfz15_9, hfz15_10, hfz15_11, hfz15_12⟩ := fr13 BK101.out
      go_wp2_with (first | ((with_reducible refine gate_callee (f := 60) rfl ?_); refine goesL_ (some 6) rfl rfl Try.func60 (by kernel_rfl) rfl #[.agg #[.int .i64 a0_1, .int .i64 a0_2, .int .i64 a0_3]] rfl (by (try simp only [List.map_toArray, List.map_cons, List.map_nil]); first | done | rfl | (simp only [List.length_drop, List.length_take]; rfl)) ?_; (with_reducible refine (refKnown4.calls a0_1 a0_2 a0_3 true _ A4.out).mono ?_); rintro e w16 ⟨rfl, hb⟩; refine ⟨_, rfl, ?_⟩; have n0_ := Aside0.mk (blk_below BK101.out hb); have n1_ := Aside0.mk (below_step HB.out hb); clear BK101; clear HB; have BK101 := n0_; have HB := n1_; clear n0_ n1_; (try clear hb); (try clear hb2); (try clear hk); (try clear hi); obtain ⟨hcz17_0, hcz17_1, hcz17_2, hcz17_3, hcz17_4, hcz17_5, hcz17_6, hcz17_7, hcz17_8, hcz17_9, hcz17_10, hcz17_11, hcz17_12⟩ := cl13 (W := w16) BK101.out; obtain ⟨hfz17_0, hfz17_1, hfz17_2, hfz17_3, hfz17_4, hfz17_5, hfz17_6, hfz17_7, hfz17_8, hfz17_9, hfz17_10, hfz17_11, hfz17_12⟩ := fr13 BK101.out))
      go_meet
      case rel => exact ⟨_, (true), (by first | rfl | (simp; done) | (simp [*]; done)), H', ⟨by first | omega | exact Nat.le_refl _⟩, ⟨by (with_reducible repeat (first | refine blk_drewN ?_ _ | refine blk_drew ?_ | refine blk_alloc ?_ _)); exact BK101.out⟩, ⟨by repeat (first | (with_reducible first | exact HB.out | apply below_alloc | apply pw_below_drewN | apply below_drew1 | refine below_set ?_ GE101.out) | exact HB.out)⟩⟩
     ·rw [if_neg c14] at H
      have c14b0 : decide (a0_5 < 0) = false := decide_eq_false c14
      clear c14
      have H' := Aside0.mk H
      clear H
      obtain ⟨hcz18_0, hcz18_1, hcz18_2, hcz18_3, hcz18_4, hcz18_5, hcz18_6, hcz18_7, hcz18_8, hcz18_9, hcz18_10, hcz18_11, hcz18_12⟩ := cl13 (W := w3) BK101.out
      obtain ⟨hfz18_0, hfz18_1, hfz18_2, hfz18_3, hfz18_4, hfz18_5, hfz18_6, hfz18_7, hfz18_8, hfz18_9, hfz18_10, hfz18_11, hfz18_12⟩ := fr13 BK101.out
      go_wp2_with (first | ((with_reducible refine gate_callee (f := 60) rfl ?_); refine goesL_ (some 6) rfl rfl Try.func60 (by kernel_rfl) rfl #[.agg #[.int .i64 a0_1, .int .i64 a0_2, .int .i64 a0_3]] rfl (by (try simp only [List.map_toArray, List.map_cons, List.map_nil]); first | done | rfl | (simp only [List.length_drop, List.length_take]; rfl)) ?_; (with_reducible refine (refKnown4.calls a0_1 a0_2 a0_3 true _ A4.out).mono ?_); rintro e w19 ⟨rfl, hb⟩; refine ⟨_, rfl, ?_⟩; have n0_ := Aside0.mk (blk_below BK101.out hb); have n1_ := Aside0.mk (below_step HB.out hb); clear BK101; clear HB; have BK101 := n0_; have HB := n1_; clear n0_ n1_; (try clear hb); (try clear hb2); (try clear hk); (try clear hi); obtain ⟨hcz20_0, hcz20_1, hcz20_2, hcz20_3, hcz20_4, hcz20_5, hcz20_6, hcz20_7, hcz20_8, hcz20_9, hcz20_10, hcz20_11, hcz20_12⟩ := cl13 (W := w19) BK101.out; obtain ⟨hfz20_0, hfz20_1, hfz20_2, hfz20_3, hfz20_4, hfz20_5, hfz20_6, hfz20_7, hfz20_8, hfz20_9, hfz20_10, hfz20_11, hfz20_12⟩ := fr13 BK101.out))
      go_meet
      case rel => exact ⟨_, (decide (a0_5 ≥ a0_4)), (by first | rfl | (simp; done) | (simp [*]; done)), H', ⟨by first | omega | exact Nat.le_refl _⟩, ⟨by (with_reducible repeat (first | refine blk_drewN ?_ _ | refine blk_drew ?_ | refine blk_alloc ?_ _)); exact BK101.out⟩, ⟨by repeat (first | (with_reducible first | exact HB.out | apply below_alloc | apply pw_below_drewN | apply below_drew1 | refine below_set ?_ GE101.out) | exact HB.out)⟩⟩
  ·replace c5 := Bool.eq_false_iff.mpr c5
   subst c5
   have H1 : (seneschalref04_Good.j0 k true a0_0 a0_1 a0_2 a0_3 a0_4 a0_5 a0_6 a0_7 a0_8 a0_9 a0_10 a0_11 a0_12) = some r := by rw [if_neg (show ¬ (false = true) by decide)] at H; exact H
   clear H
   have H := H1
   clear H1
   have H' := Aside0.mk H
   clear H
   obtain ⟨hcz21_0, hcz21_1, hcz21_2, hcz21_3, hcz21_4, hcz21_5, hcz21_6, hcz21_7, hcz21_8, hcz21_9, hcz21_10, hcz21_11, hcz21_12⟩ := cl13 (W := w3) BK101.out
   obtain ⟨hfz21_0, hfz21_1, hfz21_2, hfz21_3, hfz21_4, hfz21_5, hfz21_6, hfz21_7, hfz21_8, hfz21_9, hfz21_10, hfz21_11, hfz21_12⟩ := fr13 BK101.out
   go_wp2_with (first | ((with_reducible refine gate_callee (f := 60) rfl ?_); refine goesL_ (some 6) rfl rfl Try.func60 (by kernel_rfl) rfl #[.agg #[.int .i64 a0_1, .int .i64 a0_2, .int .i64 a0_3]] rfl (by (try simp only [List.map_toArray, List.map_cons, List.map_nil]); first | done | rfl | (simp only [List.length_drop, List.length_take]; rfl)) ?_; (with_reducible refine (refKnown4.calls a0_1 a0_2 a0_3 false _ A4.out).mono ?_); rintro e w22 ⟨rfl, hb⟩; refine ⟨_, rfl, ?_⟩; have n0_ := Aside0.mk (blk_below BK101.out hb); have n1_ := Aside0.mk (below_step HB.out hb); clear BK101; clear HB; have BK101 := n0_; have HB := n1_; clear n0_ n1_; (try clear hb); (try clear hb2); (try clear hk); (try clear hi)))
   go_meet
   case rel => exact ⟨_, (true), (by first | rfl | (simp; done) | (simp [*]; done)), H', ⟨by first | omega | exact Nat.le_refl _⟩, ⟨by (with_reducible repeat (first | refine blk_drewN ?_ _ | refine blk_drew ?_ | refine blk_alloc ?_ _)); exact BK101.out⟩, ⟨by repeat (first | (with_reducible first | exact HB.out | apply below_alloc | apply pw_below_drewN | apply below_drew1 | refine below_set ?_ GE101.out) | exact HB.out)⟩⟩
 case rest =>
  clear HC2
  try clear c1
  try clear p2
  try clear c5
  try clear c6
  try clear c6b0
  try clear c10
  try clear c10b0
  try clear c14
  try clear c14b0
  try clear hcz11_0
  try clear hcz11_1
  try clear hcz11_10
  try clear hcz11_11
  try clear hcz11_12
  try clear hcz11_2
  try clear hcz11_3
  try clear hcz11_4
  try clear hcz11_5
  try clear hcz11_6
  try clear hcz11_7
  try clear hcz11_8
  try clear hcz11_9
  try clear hcz13_0
  try clear hcz13_1
  try clear hcz13_10
  try clear hcz13_11
  try clear hcz13_12
  try clear hcz13_2
  try clear hcz13_3
  try clear hcz13_4
  try clear hcz13_5
  try clear hcz13_6
  try clear hcz13_7
  try clear hcz13_8
  try clear hcz13_9
  try clear hcz15_0
  try clear hcz15_1
  try clear hcz15_10
  try clear hcz15_11
  try clear hcz15_12
  try clear hcz15_2
  try clear hcz15_3
  try clear hcz15_4
  try clear hcz15_5
  try clear hcz15_6
  try clear hcz15_7
  try clear hcz15_8
  try clear hcz15_9
  try clear hcz17_0
  try clear hcz17_1
  try clear hcz17_10
  try clear hcz17_11
  try clear hcz17_12
  try clear hcz17_2
  try clear hcz17_3
  try clear hcz17_4
  try clear hcz17_5
  try clear hcz17_6
  try clear hcz17_7
  try clear hcz17_8
  try clear hcz17_9
  try clear hcz18_0
  try clear hcz18_1
  try clear hcz18_10
  try clear hcz18_11
  try clear hcz18_12
  try clear hcz18_2
  try clear hcz18_3
  try clear hcz18_4
  try clear hcz18_5
  try clear hcz18_6
  try clear hcz18_7
  try clear hcz18_8
  try clear hcz18_9
  try clear hcz20_0
  try clear hcz20_1
  try clear hcz20_10
  try clear hcz20_11
  try clear hcz20_12
  try clear hcz20_2
  try clear hcz20_3
  try clear hcz20_4
  try clear hcz20_5
  try clear hcz20_6
  try clear hcz20_7
  try clear hcz20_8
  try clear hcz20_9
  try clear hcz21_0
  try clear hcz21_1
  try clear hcz21_10
  try clear hcz21_11
  try clear hcz21_12
  try clear hcz21_2
  try clear hcz21_3
  try clear hcz21_4
  try clear hcz21_5
  try clear hcz21_6
  try clear hcz21_7
  try clear hcz21_8
  try clear hcz21_9
  try clear hcz7_0
  try clear hcz7_1
  try clear hcz7_10
  try clear hcz7_11
  try clear hcz7_12
  try clear hcz7_2
  try clear hcz7_3
  try clear hcz7_4
  try clear hcz7_5
  try clear hcz7_6
  try clear hcz7_7
  try clear hcz7_8
  try clear hcz7_9
  try clear hcz9_0
  try clear hcz9_1
  try clear hcz9_10
  try clear hcz9_11
  try clear hcz9_12
  try clear hcz9_2
  try clear hcz9_3
  try clear hcz9_4
  try clear hcz9_5
  try clear hcz9_6
  try clear hcz9_7
  try clear hcz9_8
  try clear hcz9_9
  try clear hfz11_0
  try clear hfz11_1
  try clear hfz11_10
  try clear hfz11_11
  try clear hfz11_12
  try clear hfz11_2
  try clear hfz11_3
  try clear hfz11_4
  try clear hfz11_5
  try clear hfz11_6
  try clear hfz11_7
  try clear hfz11_8
  try clear hfz11_9
  try clear hfz13_0
  try clear hfz13_1
  try clear hfz13_10
  try clear hfz13_11
  try clear hfz13_12
  try clear hfz13_2
  try clear hfz13_3
  try clear hfz13_4
  try clear hfz13_5
  try clear hfz13_6
  try clear hfz13_7
  try clear hfz13_8
  try clear hfz13_9
  try clear hfz15_0
  try clear hfz15_1
  try clear hfz15_10
  try clear hfz15_11
  try clear hfz15_12
  try clear hfz15_2
  try clear hfz15_3
  try clear hfz15_4
  try clear hfz15_5
  try clear hfz15_6
  try clear hfz15_7
  try clear hfz15_8
  try clear hfz15_9
  try clear hfz17_0
  try clear hfz17_1
  try clear hfz17_10
  try clear hfz17_11
  try clear hfz17_12
  try clear hfz17_2
  try clear hfz17_3
  try clear hfz17_4
  try clear hfz17_5
  try clear hfz17_6
  try clear hfz17_7
  try clear hfz17_8
  try clear hfz17_9
  try clear hfz18_0
  try clear hfz18_1
  try clear hfz18_10
  try clear hfz18_11
  try clear hfz18_12
  try clear hfz18_2
  try clear hfz18_3
  try clear hfz18_4
  try clear hfz18_5
  try clear hfz18_6
  try clear hfz18_7
  try clear hfz18_8
  try clear hfz18_9
  try clear hfz20_0
  try clear hfz20_1
  try clear hfz20_10
  try clear hfz20_11
  try clear hfz20_12
  try clear hfz20_2
  try clear hfz20_3
  try clear hfz20_4
  try clear hfz20_5
  try clear hfz20_6
  try clear hfz20_7
  try clear hfz20_8
  try clear hfz20_9
  try clear hfz21_0
  try clear hfz21_1
  try clear hfz21_10
  try clear hfz21_11
  try clear hfz21_12
  try clear hfz21_2
  try clear hfz21_3
  try clear hfz21_4
  try clear hfz21_5
  try clear hfz21_6
  try clear hfz21_7
  try clear hfz21_8
  try clear hfz21_9
  try clear hfz7_0
  try clear hfz7_1
  try clear hfz7_10
  try clear hfz7_11
  try clear hfz7_12
  try clear hfz7_2
  try clear hfz7_3
  try clear hfz7_4
  try clear hfz7_5
  try clear hfz7_6
  try clear hfz7_7
  try clear hfz7_8
  try clear hfz7_9
  try clear hfz9_0
  try clear hfz9_1
  try clear hfz9_10
  try clear hfz9_11
  try clear hfz9_12
  try clear hfz9_2
  try clear hfz9_3
  try clear hfz9_4
  try clear hfz9_5
  try clear hfz9_6
  try clear hfz9_7
  try clear hfz9_8
  try clear hfz9_9
  obtain ⟨kq, x29_1, rfl, HA, HJ1, BK101, HB⟩ := hcut
  cases kq with
  | zero => exact absurd HA.out (by simp [seneschalref04_Good.j0])
  | succ kj1 =>
   have H := HA.out
   clear HA
   simp only [seneschalref04_Good.j0] at H
   by_cases c23 : x29_1 = true
   ·subst c23
    have H1 : (some false) = some r := by rw [if_pos rfl] at H; exact H
    clear H
    have H := H1
    clear H1
    obtain rfl := Option.some.inj H
    go_wp2
    go_ret
    exact ⟨by first | rfl | (simp [errW_none, errW_some] <;> rfl) | (simp [*, errW_none, errW_some] <;> rfl), by repeat (first | (with_reducible first | exact HB.out | apply below_alloc | apply pw_below_drewN | apply below_drew1 | refine below_set ?_ GE101.out) | exact HB.out)⟩
   ·replace c23 := Bool.eq_false_iff.mpr c23
    subst c23
    have H1 : (if a0_0 = 1 then (seneschalref04_Good.j1 kj1 a0_0 (a0_0 == 1) a0_0 a0_1 a0_2 a0_3 a0_4 a0_5 a0_6 a0_7 a0_8 a0_9 a0_10 a0_11 a0_12) else (seneschalref04_Good.j1 kj1 a0_0 (a0_0 == 2) a0_0 a0_1 a0_2 a0_3 a0_4 a0_5 a0_6 a0_7 a0_8 a0_9 a0_10 a0_11 a0_12)) = some r := by rw [if_neg (show ¬ (false = true) by decide)] at H; exact H
    clear H
    have H := H1
    clear H1
    have HC24 := Aside0.mk H
    clear H
    obtain ⟨hcz25_0, hcz25_1, hcz25_2, hcz25_3, hcz25_4, hcz25_5, hcz25_6, hcz25_7, hcz25_8, hcz25_9, hcz25_10, hcz25_11, hcz25_12⟩ := cl13 (W := wc) BK101.out
    obtain ⟨hfz25_0, hfz25_1, hfz25_2, hfz25_3, hfz25_4, hfz25_5, hfz25_6, hfz25_7, hfz25_8, hfz25_9, hfz25_10, hfz25_11, hfz25_12⟩ := fr13 BK101.out
    go_upto_if 32 with (fail)
    go_cut [32] (fun v32 wc => ∃ (kq : Nat) (x32_23 : Bool), v32 = .bool x32_23 ∧ Aside0 (seneschalref04_Good.j1 kq a0_0 x32_23 a0_0 a0_1 a0_2 a0_3 a0_4 a0_5 a0_6 a0_7 a0_8 a0_9 a0_10 a0_11 a0_12 = some r) ∧ Aside0 (kq ≤ kj1) ∧ Aside0 (wc.heap[gb101]? = some (.cells #[.int .i64 a0_0, .int .i64 a0_1, .int .i64 a0_2, .int .i64 a0_3, .int .i64 a0_4, .int .i64 a0_5, .int .i64 a0_6, .int .i64 a0_7, .bool a0_8, .string a0_9, .bool a0_10, .string a0_11, .int .i64 a0_12] 65 (0, 0))) ∧ Aside0 (Below w.heap.size w wc))
    case first =>
     have H := HC24.out
     clear HC24
     by_cases c26 : a0_0 = 1
     ·rw [if_pos c26] at H
      have c26b0 : (a0_0 == 1) = true := beq_iff_eq.mpr c26
      have c26b1 : (a0_0 != 1) = false := bne_eq_false_iff_eq.mpr c26
      clear c26
      (first | rw [c26b0] | (simp only [i64_w, i32_w]; rw [c26b0]) | skip)
      have H' := Aside0.mk H
      clear H
      go_wp2
      go_meet
      case rel => exact ⟨_, ((a0_0 == 1)), (by first | rfl | (simp; done) | (simp [*]; done)), H', ⟨by have := HJ1.out; first | omega | exact Nat.le_refl _⟩, ⟨by (with_reducible repeat (first | refine blk_drewN ?_ _ | refine blk_drew ?_ | refine blk_alloc ?_ _)); exact BK101.out⟩, ⟨by repeat (first | (with_reducible first | exact HB.out | apply below_alloc | apply pw_below_drewN | apply below_drew1 | refine below_set ?_ GE101.out) | exact HB.out)⟩⟩
     ·rw [if_neg c26] at H
      have c26b0 : (a0_0 == 1) = false := beq_eq_false_iff_ne.mpr c26
      have c26b1 : (a0_0 != 1) = true := bne_iff_ne.mpr c26
      (first | rw [c26b0] | (simp only [i64_w, i32_w]; rw [c26b0]) | skip)
      have H' := Aside0.mk H
      clear H
      go_wp2
      go_meet
      case rel => exact ⟨_, ((a0_0 == 2)), (by first | rfl | (simp; done) | (simp [*]; done)), H', ⟨by have := HJ1.out; first | omega | exact Nat.le_refl _⟩, ⟨by (with_reducible repeat (first | refine blk_drewN ?_ _ | refine blk_drew ?_ | refine blk_alloc ?_ _)); exact BK101.out⟩, ⟨by repeat (first | (with_reducible first | exact HB.out | apply below_alloc | apply pw_below_drewN | apply below_drew1 | refine below_set ?_ GE101.out) | exact HB.out)⟩⟩
    case rest =>
     clear HC24
     try clear c1
     try clear c2
     try clear p2
     try clear c5
     try clear c6
     try clear c6b0
     try clear c10
     try clear c10b0
     try clear c14
     try clear c14b0
     try clear c23
     try clear c26
     try clear c26b0
     try clear c26b1
     try clear hcz11_0
     try clear hcz11_1
     try clear hcz11_10
     try clear hcz11_11
     try clear hcz11_12
     try clear hcz11_2
     try clear hcz11_3
     try clear hcz11_4
     try clear hcz11_5
     try clear hcz11_6
     try clear hcz11_7
     try clear hcz11_8
     try clear hcz11_9
     try clear hcz13_0
     try clear hcz13_1
     try clear hcz13_10
     try clear hcz13_11
     try clear hcz13_12
     try clear hcz13_2
     try clear hcz13_3
     try clear hcz13_4
     try clear hcz13_5
     try clear hcz13_6
     try clear hcz13_7
     try clear hcz13_8
     try clear hcz13_9
     try clear hcz15_0
     try clear hcz15_1
     try clear hcz15_10
     try clear hcz15_11
     try clear hcz15_12
     try clear hcz15_2
     try clear hcz15_3
     try clear hcz15_4
     try clear hcz15_5
     try clear hcz15_6
     try clear hcz15_7
     try clear hcz15_8
     try clear hcz15_9
     try clear hcz17_0
     try clear hcz17_1
     try clear hcz17_10
     try clear hcz17_11
     try clear hcz17_12
     try clear hcz17_2
     try clear hcz17_3
     try clear hcz17_4
     try clear hcz17_5
     try clear hcz17_6
     try clear hcz17_7
     try clear hcz17_8
     try clear hcz17_9
     try clear hcz18_0
     try clear hcz18_1
     try clear hcz18_10
     try clear hcz18_11
     try clear hcz18_12
     try clear hcz18_2
     try clear hcz18_3
     try clear hcz18_4
     try clear hcz18_5
     try clear hcz18_6
     try clear hcz18_7
     try clear hcz18_8
     try clear hcz18_9
     try clear hcz20_0
     try clear hcz20_1
     try clear hcz20_10
     try clear hcz20_11
     try clear hcz20_12
     try clear hcz20_2
     try clear hcz20_3
     try clear hcz20_4
     try clear hcz20_5
     try clear hcz20_6
     try clear hcz20_7
     try clear hcz20_8
     try clear hcz20_9
     try clear hcz21_0
     try clear hcz21_1
     try clear hcz21_10
     try clear hcz21_11
     try clear hcz21_12
     try clear hcz21_2
     try clear hcz21_3
     try clear hcz21_4
     try clear hcz21_5
     try clear hcz21_6
     try clear hcz21_7
     try clear hcz21_8
     try clear hcz21_9
     try clear hcz25_0
     try clear hcz25_1
     try clear hcz25_10
     try clear hcz25_11
     try clear hcz25_12
     try clear hcz25_2
     try clear hcz25_3
     try clear hcz25_4
     try clear hcz25_5
     try clear hcz25_6
     try clear hcz25_7
     try clear hcz25_8
     try clear hcz25_9
     try clear hcz7_0
     try clear hcz7_1
     try clear hcz7_10
     try clear hcz7_11
     try clear hcz7_12
     try clear hcz7_2
     try clear hcz7_3
     try clear hcz7_4
     try clear hcz7_5
     try clear hcz7_6
     try clear hcz7_7
     try clear hcz7_8
     try clear hcz7_9
     try clear hcz9_0
     try clear hcz9_1
     try clear hcz9_10
     try clear hcz9_11
     try clear hcz9_12
     try clear hcz9_2
     try clear hcz9_3
     try clear hcz9_4
     try clear hcz9_5
     try clear hcz9_6
     try clear hcz9_7
     try clear hcz9_8
     try clear hcz9_9
     try clear hfz11_0
     try clear hfz11_1
     try clear hfz11_10
     try clear hfz11_11
     try clear hfz11_12
     try clear hfz11_2
     try clear hfz11_3
     try clear hfz11_4
     try clear hfz11_5
     try clear hfz11_6
     try clear hfz11_7
     try clear hfz11_8
     try clear hfz11_9
     try clear hfz13_0
     try clear hfz13_1
     try clear hfz13_10
     try clear hfz13_11
     try clear hfz13_12
     try clear hfz13_2
     try clear hfz13_3
     try clear hfz13_4
     try clear hfz13_5
     try clear hfz13_6
     try clear hfz13_7
     try clear hfz13_8
     try clear hfz13_9
     try clear hfz15_0
     try clear hfz15_1
     try clear hfz15_10
     try clear hfz15_11
     try clear hfz15_12
     try clear hfz15_2
     try clear hfz15_3
     try clear hfz15_4
     try clear hfz15_5
     try clear hfz15_6
     try clear hfz15_7
     try clear hfz15_8
     try clear hfz15_9
     try clear hfz17_0
     try clear hfz17_1
     try clear hfz17_10
     try clear hfz17_11
     try clear hfz17_12
     try clear hfz17_2
     try clear hfz17_3
     try clear hfz17_4
     try clear hfz17_5
     try clear hfz17_6
     try clear hfz17_7
     try clear hfz17_8
     try clear hfz17_9
     try clear hfz18_0
     try clear hfz18_1
     try clear hfz18_10
     try clear hfz18_11
     try clear hfz18_12
     try clear hfz18_2
     try clear hfz18_3
     try clear hfz18_4
     try clear hfz18_5
     try clear hfz18_6
     try clear hfz18_7
     try clear hfz18_8
     try clear hfz18_9
     try clear hfz20_0
     try clear hfz20_1
     try clear hfz20_10
     try clear hfz20_11
     try clear hfz20_12
     try clear hfz20_2
     try clear hfz20_3
     try clear hfz20_4
     try clear hfz20_5
     try clear hfz20_6
     try clear hfz20_7
     try clear hfz20_8
     try clear hfz20_9
     try clear hfz21_0
     try clear hfz21_1
     try clear hfz21_10
     try clear hfz21_11
     try clear hfz21_12
     try clear hfz21_2
     try clear hfz21_3
     try clear hfz21_4
     try clear hfz21_5
     try clear hfz21_6
     try clear hfz21_7
     try clear hfz21_8
     try clear hfz21_9
     try clear hfz25_0
     try clear hfz25_1
     try clear hfz25_10
     try clear hfz25_11
     try clear hfz25_12
     try clear hfz25_2
     try clear hfz25_3
     try clear hfz25_4
     try clear hfz25_5
     try clear hfz25_6
     try clear hfz25_7
     try clear hfz25_8
     try clear hfz25_9
     try clear hfz7_0
     try clear hfz7_1
     try clear hfz7_10
     try clear hfz7_11
     try clear hfz7_12
     try clear hfz7_2
     try clear hfz7_3
     try clear hfz7_4
     try clear hfz7_5
     try clear hfz7_6
     try clear hfz7_7
     try clear hfz7_8
     try clear hfz7_9
     try clear hfz9_0
     try clear hfz9_1
     try clear hfz9_10
     try clear hfz9_11
     try clear hfz9_12
     try clear hfz9_2
     try clear hfz9_3
     try clear hfz9_4
     try clear hfz9_5
     try clear hfz9_6
     try clear hfz9_7
     try clear hfz9_8
     try clear hfz9_9
     try clear p2
     obtain ⟨kq, x32_23, rfl, HA, HJ23, BK101, HB⟩ := hcut
     cases kq with
     | zero => exact absurd HA.out (by simp [seneschalref04_Good.j1])
     | succ kj23 =>
      have H := HA.out
      clear HA
      simp only [seneschalref04_Good.j1] at H
      by_cases c27 : x32_23 = true
      ·subst c27
       have H1 : (if a0_6 < 0 then (some false) else (if a0_6 > 1023 then (some false) else (if a0_7 < 0 then (some false) else (if a0_7 > 31 then (some false) else ((seneschalref04_slot.f a0_8 a0_9).bind fun t103 => (if t103 = true then ((seneschalref04_slot.f a0_10 a0_11).bind fun t104 => (if t104 = true then (if a0_12 = 0 then (some true) else (if a0_0 = 2 then (if a0_12 > 0 then (some (decide (a0_12 ≤ a0_5))) else (some false)) else (some false))) else (some false))) else (some false))))))) = some r := by rw [if_pos rfl] at H; exact H
       clear H
       have H := H1
       clear H1
       by_cases c28 : a0_6 < 0
       ·rw [if_pos c28] at H
        have c28b0 : decide (a0_6 < 0) = true := decide_eq_true c28
        clear c28
        obtain rfl := Option.some.inj H
        obtain ⟨hcz29_0, hcz29_1, hcz29_2, hcz29_3, hcz29_4, hcz29_5, hcz29_6, hcz29_7, hcz29_8, hcz29_9, hcz29_10, hcz29_11, hcz29_12⟩ := cl13 (W := wc) BK101.out
        obtain ⟨hfz29_0, hfz29_1, hfz29_2, hfz29_3, hfz29_4, hfz29_5, hfz29_6, hfz29_7, hfz29_8, hfz29_9, hfz29_10, hfz29_11, hfz29_12⟩ := fr13 BK101.out
        go_wp2
        go_ret
        exact ⟨by first | rfl | (simp [errW_none, errW_some] <;> rfl) | (simp [*, errW_none, errW_some] <;> rfl), by repeat (first | (with_reducible first | exact HB.out | apply below_alloc | apply pw_below_drewN | apply below_drew1 | refine below_set ?_ GE101.out) | exact HB.out)⟩
       ·rw [if_neg c28] at H
        have c28b0 : decide (a0_6 < 0) = false := decide_eq_false c28
        clear c28
        by_cases c30 : a0_6 > 1023
        ·rw [if_pos c30] at H
         have c30b0 : decide (1023 < a0_6) = true := decide_eq_true c30
         clear c30
         obtain rfl := Option.some.inj H
         obtain ⟨hcz31_0, hcz31_1, hcz31_2, hcz31_3, hcz31_4, hcz31_5, hcz31_6, hcz31_7, hcz31_8, hcz31_9, hcz31_10, hcz31_11, hcz31_12⟩ := cl13 (W := wc) BK101.out
         obtain ⟨hfz31_0, hfz31_1, hfz31_2, hfz31_3, hfz31_4, hfz31_5, hfz31_6, hfz31_7, hfz31_8, hfz31_9, hfz31_10, hfz31_11, hfz31_12⟩ := fr13 BK101.out
         go_wp2
         go_ret
         exact ⟨by first | rfl | (simp [errW_none, errW_some] <;> rfl) | (simp [*, errW_none, errW_some] <;> rfl), by repeat (first | (with_reducible first | exact HB.out | apply below_alloc | apply pw_below_drewN | apply below_drew1 | refine below_set ?_ GE101.out) | exact HB.out)⟩
        ·rw [if_neg c30] at H
         have c30b0 : decide (1023 < a0_6) = false := decide_eq_false c30
         clear c30
         by_cases c32 : a0_7 < 0
         ·rw [if_pos c32] at H
          have c32b0 : decide (a0_7 < 0) = true := decide_eq_true c32
          clear c32
          obtain rfl := Option.some.inj H
          obtain ⟨hcz33_0, hcz33_1, hcz33_2, hcz33_3, hcz33_4, hcz33_5, hcz33_6, hcz33_7, hcz33_8, hcz33_9, hcz33_10, hcz33_11, hcz33_12⟩ := cl13 (W := wc) BK101.out
          obtain ⟨hfz33_0, hfz33_1, hfz33_2, hfz33_3, hfz33_4, hfz33_5, hfz33_6, hfz33_7, hfz33_8, hfz33_9, hfz33_10, hfz33_11, hfz33_12⟩ := fr13 BK101.out
          go_wp2
          go_ret
          exact ⟨by first | rfl | (simp [errW_none, errW_some] <;> rfl) | (simp [*, errW_none, errW_some] <;> rfl), by repeat (first | (with_reducible first | exact HB.out | apply below_alloc | apply pw_below_drewN | apply below_drew1 | refine below_set ?_ GE101.out) | exact HB.out)⟩
         ·rw [if_neg c32] at H
          have c32b0 : decide (a0_7 < 0) = false := decide_eq_false c32
          clear c32
          by_cases c34 : a0_7 > 31
          ·rw [if_pos c34] at H
           have c34b0 : decide (31 < a0_7) = true := decide_eq_true c34
           clear c34
           obtain rfl := Option.some.inj H
           obtain ⟨hcz35_0, hcz35_1, hcz35_2, hcz35_3, hcz35_4, hcz35_5, hcz35_6, hcz35_7, hcz35_8, hcz35_9, hcz35_10, hcz35_11, hcz35_12⟩ := cl13 (W := wc) BK101.out
           obtain ⟨hfz35_0, hfz35_1, hfz35_2, hfz35_3, hfz35_4, hfz35_5, hfz35_6, hfz35_7, hfz35_8, hfz35_9, hfz35_10, hfz35_11, hfz35_12⟩ := fr13 BK101.out
           go_wp2
           go_ret
           exact ⟨by first | rfl | (simp [errW_none, errW_some] <;> rfl) | (simp [*, errW_none, errW_some] <;> rfl), by repeat (first | (with_reducible first | exact HB.out | apply below_alloc | apply pw_below_drewN | apply below_drew1 | refine below_set ?_ GE101.out) | exact HB.out)⟩
          ·rw [if_neg c34] at H
           have c34b0 : decide (31 < a0_7) = false := decide_eq_false c34
           clear c34
           replace H := Option.bind_eq_some_iff.mp H
           obtain ⟨t103, A360, H⟩ := H
           replace H : (if t103 = true then ((seneschalref04_slot.f a0_10 a0_11).bind fun t104 => (if t104 = true then (if a0_12 = 0 then (some true) else (if a0_0 = 2 then (if a0_12 > 0 then (some (decide (a0_12 ≤ a0_5))) else (some false)) else (some false))) else (some false))) else (some false)) = some r := H
           have A36 := Aside0.mk A360
           clear A360
           by_cases c37 : t103 = true
           ·subst c37
            have H1 : ((seneschalref04_slot.f a0_10 a0_11).bind fun t104 => (if t104 = true then (if a0_12 = 0 then (some true) else (if a0_0 = 2 then (if a0_12 > 0 then (some (decide (a0_12 ≤ a0_5))) else (some false)) else (some false))) else (some false))) = some r := by rw [if_pos rfl] at H; exact H
            clear H
            have H := H1
            clear H1
            replace H := Option.bind_eq_some_iff.mp H
            obtain ⟨t104, A380, H⟩ := H
            replace H : (if t104 = true then (if a0_12 = 0 then (some true) else (if a0_0 = 2 then (if a0_12 > 0 then (some (decide (a0_12 ≤ a0_5))) else (some false)) else (some false))) else (some false)) = some r := H
            have A38 := Aside0.mk A380
            clear A380
            by_cases c39 : t104 = true
            ·subst c39
             have H1 : (if a0_12 = 0 then (some true) else (if a0_0 = 2 then (if a0_12 > 0 then (some (decide (a0_12 ≤ a0_5))) else (some false)) else (some false))) = some r := by rw [if_pos rfl] at H; exact H
             clear H
             have H := H1
             clear H1
             by_cases c40 : a0_12 = 0
             ·rw [if_pos c40] at H
              have c40b0 : (a0_12 == 0) = true := beq_iff_eq.mpr c40
              have c40b1 : (a0_12 != 0) = false := bne_eq_false_iff_eq.mpr c40
              clear c40
              obtain rfl := Option.some.inj H
              obtain ⟨hcz41_0, hcz41_1, hcz41_2, hcz41_3, hcz41_4, hcz41_5, hcz41_6, hcz41_7, hcz41_8, hcz41_9, hcz41_10, hcz41_11, hcz41_12⟩ := cl13 (W := wc) BK101.out
              obtain ⟨hfz41_0, hfz41_1, hfz41_2, hfz41_3, hfz41_4, hfz41_5, hfz41_6, hfz41_7, hfz41_8, hfz41_9, hfz41_10, hfz41_11, hfz41_12⟩ := fr13 BK101.out
              go_wp2_with (first | (go_at_call 105; (with_reducible refine (seneschalref04_slot.calls a0_8 a0_9 true _ A36.out).mono ?_); rintro e w42 ⟨rfl, hb⟩; have n0_ := Aside0.mk (blk_below BK101.out hb); have n1_ := Aside0.mk (below_step HB.out hb); clear BK101; clear HB; have BK101 := n0_; have HB := n1_; clear n0_ n1_; (try clear hb); (try clear hb2); (try clear hk); (try clear hi); obtain ⟨hcz43_0, hcz43_1, hcz43_2, hcz43_3, hcz43_4, hcz43_5, hcz43_6, hcz43_7, hcz43_8, hcz43_9, hcz43_10, hcz43_11, hcz43_12⟩ := cl13 (W := w42) BK101.out; obtain ⟨hfz43_0, hfz43_1, hfz43_2, hfz43_3, hfz43_4, hfz43_5, hfz43_6, hfz43_7, hfz43_8, hfz43_9, hfz43_10, hfz43_11, hfz43_12⟩ := fr13 BK101.out) | (go_at_call 105; (with_reducible refine (seneschalref04_slot.calls a0_10 a0_11 true _ A38.out).mono ?_); rintro e w44 ⟨rfl, hb⟩; have n0_ := Aside0.mk (blk_below BK101.out hb); have n1_ := Aside0.mk (below_step HB.out hb); clear BK101; clear HB; have BK101 := n0_; have HB := n1_; clear n0_ n1_; (try clear hb); (try clear hb2); (try clear hk); (try clear hi); obtain ⟨hcz45_0, hcz45_1, hcz45_2, hcz45_3, hcz45_4, hcz45_5, hcz45_6, hcz45_7, hcz45_8, hcz45_9, hcz45_10, hcz45_11, hcz45_12⟩ := cl13 (W := w44) BK101.out; obtain ⟨hfz45_0, hfz45_1, hfz45_2, hfz45_3, hfz45_4, hfz45_5, hfz45_6, hfz45_7, hfz45_8, hfz45_9, hfz45_10, hfz45_11, hfz45_12⟩ := fr13 BK101.out))
              go_ret
              exact ⟨by first | rfl | (simp [errW_none, errW_some] <;> rfl) | (simp [*, errW_none, errW_some] <;> rfl), by repeat (first | (with_reducible first | exact HB.out | apply below_alloc | apply pw_below_drewN | apply below_drew1 | refine below_set ?_ GE101.out) | exact HB.out)⟩
             ·rw [if_neg c40] at H
              have c40b0 : (a0_12 == 0) = false := beq_eq_false_iff_ne.mpr c40
              have c40b1 : (a0_12 != 0) = true := bne_iff_ne.mpr c40
              by_cases c46 : a0_0 = 2
              ·rw [if_pos c46] at H
               have c46b0 : (a0_0 == 2) = true := beq_iff_eq.mpr c46
               have c46b1 : (a0_0 != 2) = false := bne_eq_false_iff_eq.mpr c46
               clear c46
               by_cases c47 : a0_12 > 0
               ·rw [if_pos c47] at H
                have c47b0 : decide (0 < a0_12) = true := decide_eq_true c47
                clear c47
                obtain rfl := Option.some.inj H
                obtain ⟨hcz48_0, hcz48_1, hcz48_2, hcz48_3, hcz48_4, hcz48_5, hcz48_6, hcz48_7, hcz48_8, hcz48_9, hcz48_10, hcz48_11, hcz48_12⟩ := cl13 (W := wc) BK101.out
                obtain ⟨hfz48_0, hfz48_1, hfz48_2, hfz48_3, hfz48_4, hfz48_5, hfz48_6, hfz48_7, hfz48_8, hfz48_9, hfz48_10, hfz48_11, hfz48_12⟩ := fr13 BK101.out
                go_wp2_with (first | (go_at_call 105; (with_reducible refine (seneschalref04_slot.calls a0_8 a0_9 true _ A36.out).mono ?_); rintro e w49 ⟨rfl, hb⟩; have n0_ := Aside0.mk (blk_below BK101.out hb); have n1_ := Aside0.mk (below_step HB.out hb); clear BK101; clear HB; have BK101 := n0_; have HB := n1_; clear n0_ n1_; (try clear hb); (try clear hb2); (try clear hk); (try clear hi); obtain ⟨hcz50_0, hcz50_1, hcz50_2, hcz50_3, hcz50_4, hcz50_5, hcz50_6, hcz50_7, hcz50_8, hcz50_9, hcz50_10, hcz50_11, hcz50_12⟩ := cl13 (W := w49) BK101.out; obtain ⟨hfz50_0, hfz50_1, hfz50_2, hfz50_3, hfz50_4, hfz50_5, hfz50_6, hfz50_7, hfz50_8, hfz50_9, hfz50_10, hfz50_11, hfz50_12⟩ := fr13 BK101.out) | (go_at_call 105; (with_reducible refine (seneschalref04_slot.calls a0_10 a0_11 true _ A38.out).mono ?_); rintro e w51 ⟨rfl, hb⟩; have n0_ := Aside0.mk (blk_below BK101.out hb); have n1_ := Aside0.mk (below_step HB.out hb); clear BK101; clear HB; have BK101 := n0_; have HB := n1_; clear n0_ n1_; (try clear hb); (try clear hb2); (try clear hk); (try clear hi); obtain ⟨hcz52_0, hcz52_1, hcz52_2, hcz52_3, hcz52_4, hcz52_5, hcz52_6, hcz52_7, hcz52_8, hcz52_9, hcz52_10, hcz52_11, hcz52_12⟩ := cl13 (W := w51) BK101.out; obtain ⟨hfz52_0, hfz52_1, hfz52_2, hfz52_3, hfz52_4, hfz52_5, hfz52_6, hfz52_7, hfz52_8, hfz52_9, hfz52_10, hfz52_11, hfz52_12⟩ := fr13 BK101.out))
                go_ret
                exact ⟨by first | rfl | (simp [errW_none, errW_some] <;> rfl) | (simp [*, errW_none, errW_some] <;> rfl), by repeat (first | (with_reducible first | exact HB.out | apply below_alloc | apply pw_below_drewN | apply below_drew1 | refine below_set ?_ GE101.out) | exact HB.out)⟩
               ·rw [if_neg c47] at H
                have c47b0 : decide (0 < a0_12) = false := decide_eq_false c47
                clear c47
                obtain rfl := Option.some.inj H
                obtain ⟨hcz53_0, hcz53_1, hcz53_2, hcz53_3, hcz53_4, hcz53_5, hcz53_6, hcz53_7, hcz53_8, hcz53_9, hcz53_10, hcz53_11, hcz53_12⟩ := cl13 (W := wc) BK101.out
                obtain ⟨hfz53_0, hfz53_1, hfz53_2, hfz53_3, hfz53_4, hfz53_5, hfz53_6, hfz53_7, hfz53_8, hfz53_9, hfz53_10, hfz53_11, hfz53_12⟩ := fr13 BK101.out
                go_wp2_with (first | (go_at_call 105; (with_reducible refine (seneschalref04_slot.calls a0_8 a0_9 true _ A36.out).mono ?_); rintro e w54 ⟨rfl, hb⟩; have n0_ := Aside0.mk (blk_below BK101.out hb); have n1_ := Aside0.mk (below_step HB.out hb); clear BK101; clear HB; have BK101 := n0_; have HB := n1_; clear n0_ n1_; (try clear hb); (try clear hb2); (try clear hk); (try clear hi); obtain ⟨hcz55_0, hcz55_1, hcz55_2, hcz55_3, hcz55_4, hcz55_5, hcz55_6, hcz55_7, hcz55_8, hcz55_9, hcz55_10, hcz55_11, hcz55_12⟩ := cl13 (W := w54) BK101.out; obtain ⟨hfz55_0, hfz55_1, hfz55_2, hfz55_3, hfz55_4, hfz55_5, hfz55_6, hfz55_7, hfz55_8, hfz55_9, hfz55_10, hfz55_11, hfz55_12⟩ := fr13 BK101.out) | (go_at_call 105; (with_reducible refine (seneschalref04_slot.calls a0_10 a0_11 true _ A38.out).mono ?_); rintro e w56 ⟨rfl, hb⟩; have n0_ := Aside0.mk (blk_below BK101.out hb); have n1_ := Aside0.mk (below_step HB.out hb); clear BK101; clear HB; have BK101 := n0_; have HB := n1_; clear n0_ n1_; (try clear hb); (try clear hb2); (try clear hk); (try clear hi); obtain ⟨hcz57_0, hcz57_1, hcz57_2, hcz57_3, hcz57_4, hcz57_5, hcz57_6, hcz57_7, hcz57_8, hcz57_9, hcz57_10, hcz57_11, hcz57_12⟩ := cl13 (W := w56) BK101.out; obtain ⟨hfz57_0, hfz57_1, hfz57_2, hfz57_3, hfz57_4, hfz57_5, hfz57_6, hfz57_7, hfz57_8, hfz57_9, hfz57_10, hfz57_11, hfz57_12⟩ := fr13 BK101.out))
                go_ret
                exact ⟨by first | rfl | (simp [errW_none, errW_some] <;> rfl) | (simp [*, errW_none, errW_some] <;> rfl), by repeat (first | (with_reducible first | exact HB.out | apply below_alloc | apply pw_below_drewN | apply below_drew1 | refine below_set ?_ GE101.out) | exact HB.out)⟩
              ·rw [if_neg c46] at H
               have c46b0 : (a0_0 == 2) = false := beq_eq_false_iff_ne.mpr c46
               have c46b1 : (a0_0 != 2) = true := bne_iff_ne.mpr c46
               obtain rfl := Option.some.inj H
               obtain ⟨hcz58_0, hcz58_1, hcz58_2, hcz58_3, hcz58_4, hcz58_5, hcz58_6, hcz58_7, hcz58_8, hcz58_9, hcz58_10, hcz58_11, hcz58_12⟩ := cl13 (W := wc) BK101.out
               obtain ⟨hfz58_0, hfz58_1, hfz58_2, hfz58_3, hfz58_4, hfz58_5, hfz58_6, hfz58_7, hfz58_8, hfz58_9, hfz58_10, hfz58_11, hfz58_12⟩ := fr13 BK101.out
               go_wp2_with (first | (go_at_call 105; (with_reducible refine (seneschalref04_slot.calls a0_8 a0_9 true _ A36.out).mono ?_); rintro e w59 ⟨rfl, hb⟩; have n0_ := Aside0.mk (blk_below BK101.out hb); have n1_ := Aside0.mk (below_step HB.out hb); clear BK101; clear HB; have BK101 := n0_; have HB := n1_; clear n0_ n1_; (try clear hb); (try clear hb2); (try clear hk); (try clear hi); obtain ⟨hcz60_0, hcz60_1, hcz60_2, hcz60_3, hcz60_4, hcz60_5, hcz60_6, hcz60_7, hcz60_8, hcz60_9, hcz60_10, hcz60_11, hcz60_12⟩ := cl13 (W := w59) BK101.out; obtain ⟨hfz60_0, hfz60_1, hfz60_2, hfz60_3, hfz60_4, hfz60_5, hfz60_6, hfz60_7, hfz60_8, hfz60_9, hfz60_10, hfz60_11, hfz60_12⟩ := fr13 BK101.out) | (go_at_call 105; (with_reducible refine (seneschalref04_slot.calls a0_10 a0_11 true _ A38.out).mono ?_); rintro e w61 ⟨rfl, hb⟩; have n0_ := Aside0.mk (blk_below BK101.out hb); have n1_ := Aside0.mk (below_step HB.out hb); clear BK101; clear HB; have BK101 := n0_; have HB := n1_; clear n0_ n1_; (try clear hb); (try clear hb2); (try clear hk); (try clear hi); obtain ⟨hcz62_0, hcz62_1, hcz62_2, hcz62_3, hcz62_4, hcz62_5, hcz62_6, hcz62_7, hcz62_8, hcz62_9, hcz62_10, hcz62_11, hcz62_12⟩ := cl13 (W := w61) BK101.out; obtain ⟨hfz62_0, hfz62_1, hfz62_2, hfz62_3, hfz62_4, hfz62_5, hfz62_6, hfz62_7, hfz62_8, hfz62_9, hfz62_10, hfz62_11, hfz62_12⟩ := fr13 BK101.out))
               go_ret
               exact ⟨by first | rfl | (simp [errW_none, errW_some] <;> rfl) | (simp [*, errW_none, errW_some] <;> rfl), by repeat (first | (with_reducible first | exact HB.out | apply below_alloc | apply pw_below_drewN | apply below_drew1 | refine below_set ?_ GE101.out) | exact HB.out)⟩
            ·replace c39 := Bool.eq_false_iff.mpr c39
             subst c39
             have H1 : (some false) = some r := by rw [if_neg (show ¬ (false = true) by decide)] at H; exact H
             clear H
             have H := H1
             clear H1
             obtain rfl := Option.some.inj H
             obtain ⟨hcz63_0, hcz63_1, hcz63_2, hcz63_3, hcz63_4, hcz63_5, hcz63_6, hcz63_7, hcz63_8, hcz63_9, hcz63_10, hcz63_11, hcz63_12⟩ := cl13 (W := wc) BK101.out
             obtain ⟨hfz63_0, hfz63_1, hfz63_2, hfz63_3, hfz63_4, hfz63_5, hfz63_6, hfz63_7, hfz63_8, hfz63_9, hfz63_10, hfz63_11, hfz63_12⟩ := fr13 BK101.out
             go_wp2_with (first | (go_at_call 105; (with_reducible refine (seneschalref04_slot.calls a0_8 a0_9 true _ A36.out).mono ?_); rintro e w64 ⟨rfl, hb⟩; have n0_ := Aside0.mk (blk_below BK101.out hb); have n1_ := Aside0.mk (below_step HB.out hb); clear BK101; clear HB; have BK101 := n0_; have HB := n1_; clear n0_ n1_; (try clear hb); (try clear hb2); (try clear hk); (try clear hi); obtain ⟨hcz65_0, hcz65_1, hcz65_2, hcz65_3, hcz65_4, hcz65_5, hcz65_6, hcz65_7, hcz65_8, hcz65_9, hcz65_10, hcz65_11, hcz65_12⟩ := cl13 (W := w64) BK101.out; obtain ⟨hfz65_0, hfz65_1, hfz65_2, hfz65_3, hfz65_4, hfz65_5, hfz65_6, hfz65_7, hfz65_8, hfz65_9, hfz65_10, hfz65_11, hfz65_12⟩ := fr13 BK101.out) | (go_at_call 105; (with_reducible refine (seneschalref04_slot.calls a0_10 a0_11 false _ A38.out).mono ?_); rintro e w66 ⟨rfl, hb⟩; have n0_ := Aside0.mk (blk_below BK101.out hb); have n1_ := Aside0.mk (below_step HB.out hb); clear BK101; clear HB; have BK101 := n0_; have HB := n1_; clear n0_ n1_; (try clear hb); (try clear hb2); (try clear hk); (try clear hi)))
             go_ret
             exact ⟨by first | rfl | (simp [errW_none, errW_some] <;> rfl) | (simp [*, errW_none, errW_some] <;> rfl), by repeat (first | (with_reducible first | exact HB.out | apply below_alloc | apply pw_below_drewN | apply below_drew1 | refine below_set ?_ GE101.out) | exact HB.out)⟩
           ·replace c37 := Bool.eq_false_iff.mpr c37
            subst c37
            have H1 : (some false) = some r := by rw [if_neg (show ¬ (false = true) by decide)] at H; exact H
            clear H
            have H := H1
            clear H1
            obtain rfl := Option.some.inj H
            obtain ⟨hcz67_0, hcz67_1, hcz67_2, hcz67_3, hcz67_4, hcz67_5, hcz67_6, hcz67_7, hcz67_8, hcz67_9, hcz67_10, hcz67_11, hcz67_12⟩ := cl13 (W := wc) BK101.out
            obtain ⟨hfz67_0, hfz67_1, hfz67_2, hfz67_3, hfz67_4, hfz67_5, hfz67_6, hfz67_7, hfz67_8, hfz67_9, hfz67_10, hfz67_11, hfz67_12⟩ := fr13 BK101.out
            go_wp2_with (first | (go_at_call 105; (with_reducible refine (seneschalref04_slot.calls a0_8 a0_9 false _ A36.out).mono ?_); rintro e w68 ⟨rfl, hb⟩; have n0_ := Aside0.mk (blk_below BK101.out hb); have n1_ := Aside0.mk (below_step HB.out hb); clear BK101; clear HB; have BK101 := n0_; have HB := n1_; clear n0_ n1_; (try clear hb); (try clear hb2); (try clear hk); (try clear hi)))
            go_ret
            exact ⟨by first | rfl | (simp [errW_none, errW_some] <;> rfl) | (simp [*, errW_none, errW_some] <;> rfl), by repeat (first | (with_reducible first | exact HB.out | apply below_alloc | apply pw_below_drewN | apply below_drew1 | refine below_set ?_ GE101.out) | exact HB.out)⟩
      ·replace c27 := Bool.eq_false_iff.mpr c27
       subst c27
       have H1 : (if a0_0 = 3 then (if a0_6 = 0 then (if a0_7 = 0 then (if a0_12 = 0 then (if (!a0_8 && (a0_9.toList == ([] : List UInt8))) = true then (some (!a0_10 && (a0_11.toList == ([] : List UInt8)))) else (some false)) else (some false)) else (some false)) else (some false)) else (if a0_0 = 4 then (if a0_6 = 0 then (if a0_7 = 0 then (if a0_12 = 0 then (if (!a0_8 && (a0_9.toList == ([] : List UInt8))) = true then (some (!a0_10 && (a0_11.toList == ([] : List UInt8)))) else (some false)) else (some false)) else (some false)) else (some false)) else (some false))) = some r := by rw [if_neg (show ¬ (false = true) by decide)] at H; exact H
       clear H
       have H := H1
       clear H1
       by_cases c69 : a0_0 = 3
       ·rw [if_pos c69] at H
        have c69b0 : (a0_0 == 3) = true := beq_iff_eq.mpr c69
        have c69b1 : (a0_0 != 3) = false := bne_eq_false_iff_eq.mpr c69
        clear c69
        by_cases c70 : a0_6 = 0
        ·rw [if_pos c70] at H
         have c70b0 : (a0_6 == 0) = true := beq_iff_eq.mpr c70
         have c70b1 : (a0_6 != 0) = false := bne_eq_false_iff_eq.mpr c70
         clear c70
         by_cases c71 : a0_7 = 0
         ·rw [if_pos c71] at H
          have c71b0 : (a0_7 == 0) = true := beq_iff_eq.mpr c71
          have c71b1 : (a0_7 != 0) = false := bne_eq_false_iff_eq.mpr c71
          clear c71
          by_cases c72 : a0_12 = 0
          ·rw [if_pos c72] at H
           have c72b0 : (a0_12 == 0) = true := beq_iff_eq.mpr c72
           have c72b1 : (a0_12 != 0) = false := bne_eq_false_iff_eq.mpr c72
           clear c72
           by_cases c73 : (!a0_8 && (a0_9.toList == ([] : List UInt8))) = true
           ·rw [if_pos c73] at H
            have c73b0 : (!a0_8 && (a0_9.toList == ([] : List UInt8))) = true := (c73); have c73b9 : (!a0_8 && a0_9.toList.isEmpty) = true := (by rw [← beq_nil]; exact c73b0)
            clear c73
            obtain rfl := Option.some.inj H
            go_wp2_with (first | ((with_reducible refine gate_dst (N := 3) rfl ?_); refine box_event ?hg (N := 3) ?hd (cs := #[.bool false, .string (⟨#[]⟩ : ByteArray)]) (t := 33) ?hr ?_; (case hd => rfl); (case hg => rfl); (case hr => first | (go_simp; done) | (go_simp; rfl)); intro gb105 hg w74 hbox hb; have n0_ := Aside0.mk (blk_below BK101.out hb); have n1_ := Aside0.mk (below_step HB.out hb); have n2_ := Aside0.mk (hbox); have n3_ := Aside0.mk ((by rw [hg]; exact below_size HB.out : w.heap.size ≤ gb105)); have n4_ := Aside0.mk ((by rw [hg]; exact below_size HB.out : w.heap.size ≤ gb105)); have n5_ := Aside0.mk ((by rw [hg]; exact Nat.ne_of_lt (blk_lt BK101.out) : gb101 ≠ gb105)); have n6_ := Aside0.mk ((by rw [hg]; exact Nat.ne_of_gt (blk_lt BK101.out) : gb105 ≠ gb101)); clear BK101; clear HB; have BK101 := n0_; have HB := n1_; have BK105 := n2_; have GW105 := n3_; have GE105 := n4_; have NB101_105 := n5_; have NB105_101 := n6_; clear n0_ n1_ n2_ n3_ n4_ n5_ n6_; clear hb hbox hg; have hnb75 := NB105_101.out; have hnc75 := NB101_105.out; obtain ⟨hcz76_0, hcz76_1⟩ := cl2 (W := w74) BK105.out; obtain ⟨hfz76_0, hfz76_1⟩ := fr2 BK105.out; obtain ⟨hcz77_0, hcz77_1, hcz77_2, hcz77_3, hcz77_4, hcz77_5, hcz77_6, hcz77_7, hcz77_8, hcz77_9, hcz77_10, hcz77_11, hcz77_12⟩ := cl13 (W := w74) BK101.out; obtain ⟨hfz77_0, hfz77_1, hfz77_2, hfz77_3, hfz77_4, hfz77_5, hfz77_6, hfz77_7, hfz77_8, hfz77_9, hfz77_10, hfz77_11, hfz77_12⟩ := fr13 BK101.out))
            go_ret
            exact ⟨by first | rfl | (simp [errW_none, errW_some] <;> rfl) | (simp [*, errW_none, errW_some] <;> rfl), by repeat (first | (with_reducible first | exact HB.out | apply below_alloc | apply pw_below_drewN | apply below_drew1 | refine below_set ?_ GE101.out | refine below_set ?_ GE105.out) | exact HB.out)⟩
           ·rw [if_neg c73] at H
            have c73b0 : (!a0_8 && (a0_9.toList == ([] : List UInt8))) = false := (by simpa using c73); have c73b9 : (!a0_8 && a0_9.toList.isEmpty) = false := (by rw [← beq_nil]; exact c73b0)
            clear c73
            obtain rfl := Option.some.inj H
            go_wp2_with (first | ((with_reducible refine gate_dst (N := 3) rfl ?_); refine box_event ?hg (N := 3) ?hd (cs := #[.bool false, .string (⟨#[]⟩ : ByteArray)]) (t := 33) ?hr ?_; (case hd => rfl); (case hg => rfl); (case hr => first | (go_simp; done) | (go_simp; rfl)); intro gb105 hg w78 hbox hb; have n0_ := Aside0.mk (blk_below BK101.out hb); have n1_ := Aside0.mk (below_step HB.out hb); have n2_ := Aside0.mk (hbox); have n3_ := Aside0.mk ((by rw [hg]; exact below_size HB.out : w.heap.size ≤ gb105)); have n4_ := Aside0.mk ((by rw [hg]; exact below_size HB.out : w.heap.size ≤ gb105)); have n5_ := Aside0.mk ((by rw [hg]; exact Nat.ne_of_lt (blk_lt BK101.out) : gb101 ≠ gb105)); have n6_ := Aside0.mk ((by rw [hg]; exact Nat.ne_of_gt (blk_lt BK101.out) : gb105 ≠ gb101)); clear BK101; clear HB; have BK101 := n0_; have HB := n1_; have BK105 := n2_; have GW105 := n3_; have GE105 := n4_; have NB101_105 := n5_; have NB105_101 := n6_; clear n0_ n1_ n2_ n3_ n4_ n5_ n6_; clear hb hbox hg; have hnb79 := NB105_101.out; have hnc79 := NB101_105.out; obtain ⟨hcz80_0, hcz80_1⟩ := cl2 (W := w78) BK105.out; obtain ⟨hfz80_0, hfz80_1⟩ := fr2 BK105.out; obtain ⟨hcz81_0, hcz81_1, hcz81_2, hcz81_3, hcz81_4, hcz81_5, hcz81_6, hcz81_7, hcz81_8, hcz81_9, hcz81_10, hcz81_11, hcz81_12⟩ := cl13 (W := w78) BK101.out; obtain ⟨hfz81_0, hfz81_1, hfz81_2, hfz81_3, hfz81_4, hfz81_5, hfz81_6, hfz81_7, hfz81_8, hfz81_9, hfz81_10, hfz81_11, hfz81_12⟩ := fr13 BK101.out))
            go_ret
            exact ⟨by first | rfl | (simp [errW_none, errW_some] <;> rfl) | (simp [*, errW_none, errW_some] <;> rfl), by repeat (first | (with_reducible first | exact HB.out | apply below_alloc | apply pw_below_drewN | apply below_drew1 | refine below_set ?_ GE101.out | refine below_set ?_ GE105.out) | exact HB.out)⟩
          ·rw [if_neg c72] at H
           have c72b0 : (a0_12 == 0) = false := beq_eq_false_iff_ne.mpr c72
           have c72b1 : (a0_12 != 0) = true := bne_iff_ne.mpr c72
           obtain rfl := Option.some.inj H
           go_wp2_with (first | ((with_reducible refine gate_dst (N := 3) rfl ?_); refine box_event ?hg (N := 3) ?hd (cs := #[.bool false, .string (⟨#[]⟩ : ByteArray)]) (t := 33) ?hr ?_; (case hd => rfl); (case hg => rfl); (case hr => first | (go_simp; done) | (go_simp; rfl)); intro gb105 hg w82 hbox hb; have n0_ := Aside0.mk (blk_below BK101.out hb); have n1_ := Aside0.mk (below_step HB.out hb); have n2_ := Aside0.mk (hbox); have n3_ := Aside0.mk ((by rw [hg]; exact below_size HB.out : w.heap.size ≤ gb105)); have n4_ := Aside0.mk ((by rw [hg]; exact below_size HB.out : w.heap.size ≤ gb105)); have n5_ := Aside0.mk ((by rw [hg]; exact Nat.ne_of_lt (blk_lt BK101.out) : gb101 ≠ gb105)); have n6_ := Aside0.mk ((by rw [hg]; exact Nat.ne_of_gt (blk_lt BK101.out) : gb105 ≠ gb101)); clear BK101; clear HB; have BK101 := n0_; have HB := n1_; have BK105 := n2_; have GW105 := n3_; have GE105 := n4_; have NB101_105 := n5_; have NB105_101 := n6_; clear n0_ n1_ n2_ n3_ n4_ n5_ n6_; clear hb hbox hg; have hnb83 := NB105_101.out; have hnc83 := NB101_105.out; obtain ⟨hcz84_0, hcz84_1⟩ := cl2 (W := w82) BK105.out; obtain ⟨hfz84_0, hfz84_1⟩ := fr2 BK105.out; obtain ⟨hcz85_0, hcz85_1, hcz85_2, hcz85_3, hcz85_4, hcz85_5, hcz85_6, hcz85_7, hcz85_8, hcz85_9, hcz85_10, hcz85_11, hcz85_12⟩ := cl13 (W := w82) BK101.out; obtain ⟨hfz85_0, hfz85_1, hfz85_2, hfz85_3, hfz85_4, hfz85_5, hfz85_6, hfz85_7, hfz85_8, hfz85_9, hfz85_10, hfz85_11, hfz85_12⟩ := fr13 BK101.out))
           go_ret
           exact ⟨by first | rfl | (simp [errW_none, errW_some] <;> rfl) | (simp [*, errW_none, errW_some] <;> rfl), by repeat (first | (with_reducible first | exact HB.out | apply below_alloc | apply pw_below_drewN | apply below_drew1 | refine below_set ?_ GE101.out | refine below_set ?_ GE105.out) | exact HB.out)⟩
         ·rw [if_neg c71] at H
          have c71b0 : (a0_7 == 0) = false := beq_eq_false_iff_ne.mpr c71
          have c71b1 : (a0_7 != 0) = true := bne_iff_ne.mpr c71
          obtain rfl := Option.some.inj H
          go_wp2_with (first | ((with_reducible refine gate_dst (N := 3) rfl ?_); refine box_event ?hg (N := 3) ?hd (cs := #[.bool false, .string (⟨#[]⟩ : ByteArray)]) (t := 33) ?hr ?_; (case hd => rfl); (case hg => rfl); (case hr => first | (go_simp; done) | (go_simp; rfl)); intro gb105 hg w86 hbox hb; have n0_ := Aside0.mk (blk_below BK101.out hb); have n1_ := Aside0.mk (below_step HB.out hb); have n2_ := Aside0.mk (hbox); have n3_ := Aside0.mk ((by rw [hg]; exact below_size HB.out : w.heap.size ≤ gb105)); have n4_ := Aside0.mk ((by rw [hg]; exact below_size HB.out : w.heap.size ≤ gb105)); have n5_ := Aside0.mk ((by rw [hg]; exact Nat.ne_of_lt (blk_lt BK101.out) : gb101 ≠ gb105)); have n6_ := Aside0.mk ((by rw [hg]; exact Nat.ne_of_gt (blk_lt BK101.out) : gb105 ≠ gb101)); clear BK101; clear HB; have BK101 := n0_; have HB := n1_; have BK105 := n2_; have GW105 := n3_; have GE105 := n4_; have NB101_105 := n5_; have NB105_101 := n6_; clear n0_ n1_ n2_ n3_ n4_ n5_ n6_; clear hb hbox hg; have hnb87 := NB105_101.out; have hnc87 := NB101_105.out; obtain ⟨hcz88_0, hcz88_1⟩ := cl2 (W := w86) BK105.out; obtain ⟨hfz88_0, hfz88_1⟩ := fr2 BK105.out; obtain ⟨hcz89_0, hcz89_1, hcz89_2, hcz89_3, hcz89_4, hcz89_5, hcz89_6, hcz89_7, hcz89_8, hcz89_9, hcz89_10, hcz89_11, hcz89_12⟩ := cl13 (W := w86) BK101.out; obtain ⟨hfz89_0, hfz89_1, hfz89_2, hfz89_3, hfz89_4, hfz89_5, hfz89_6, hfz89_7, hfz89_8, hfz89_9, hfz89_10, hfz89_11, hfz89_12⟩ := fr13 BK101.out))
          go_ret
          exact ⟨by first | rfl | (simp [errW_none, errW_some] <;> rfl) | (simp [*, errW_none, errW_some] <;> rfl), by repeat (first | (with_reducible first | exact HB.out | apply below_alloc | apply pw_below_drewN | apply below_drew1 | refine below_set ?_ GE101.out | refine below_set ?_ GE105.out) | exact HB.out)⟩
        ·rw [if_neg c70] at H
         have c70b0 : (a0_6 == 0) = false := beq_eq_false_iff_ne.mpr c70
         have c70b1 : (a0_6 != 0) = true := bne_iff_ne.mpr c70
         obtain rfl := Option.some.inj H
         go_wp2_with (first | ((with_reducible refine gate_dst (N := 3) rfl ?_); refine box_event ?hg (N := 3) ?hd (cs := #[.bool false, .string (⟨#[]⟩ : ByteArray)]) (t := 33) ?hr ?_; (case hd => rfl); (case hg => rfl); (case hr => first | (go_simp; done) | (go_simp; rfl)); intro gb105 hg w90 hbox hb; have n0_ := Aside0.mk (blk_below BK101.out hb); have n1_ := Aside0.mk (below_step HB.out hb); have n2_ := Aside0.mk (hbox); have n3_ := Aside0.mk ((by rw [hg]; exact below_size HB.out : w.heap.size ≤ gb105)); have n4_ := Aside0.mk ((by rw [hg]; exact below_size HB.out : w.heap.size ≤ gb105)); have n5_ := Aside0.mk ((by rw [hg]; exact Nat.ne_of_lt (blk_lt BK101.out) : gb101 ≠ gb105)); have n6_ := Aside0.mk ((by rw [hg]; exact Nat.ne_of_gt (blk_lt BK101.out) : gb105 ≠ gb101)); clear BK101; clear HB; have BK101 := n0_; have HB := n1_; have BK105 := n2_; have GW105 := n3_; have GE105 := n4_; have NB101_105 := n5_; have NB105_101 := n6_; clear n0_ n1_ n2_ n3_ n4_ n5_ n6_; clear hb hbox hg; have hnb91 := NB105_101.out; have hnc91 := NB101_105.out; obtain ⟨hcz92_0, hcz92_1⟩ := cl2 (W := w90) BK105.out; obtain ⟨hfz92_0, hfz92_1⟩ := fr2 BK105.out; obtain ⟨hcz93_0, hcz93_1, hcz93_2, hcz93_3, hcz93_4, hcz93_5, hcz93_6, hcz93_7, hcz93_8, hcz93_9, hcz93_10, hcz93_11, hcz93_12⟩ := cl13 (W := w90) BK101.out; obtain ⟨hfz93_0, hfz93_1, hfz93_2, hfz93_3, hfz93_4, hfz93_5, hfz93_6, hfz93_7, hfz93_8, hfz93_9, hfz93_10, hfz93_11, hfz93_12⟩ := fr13 BK101.out))
         go_ret
         exact ⟨by first | rfl | (simp [errW_none, errW_some] <;> rfl) | (simp [*, errW_none, errW_some] <;> rfl), by repeat (first | (with_reducible first | exact HB.out | apply below_alloc | apply pw_below_drewN | apply below_drew1 | refine below_set ?_ GE101.out | refine below_set ?_ GE105.out) | exact HB.out)⟩
       ·rw [if_neg c69] at H
        have c69b0 : (a0_0 == 3) = false := beq_eq_false_iff_ne.mpr c69
        have c69b1 : (a0_0 != 3) = true := bne_iff_ne.mpr c69
        by_cases c94 : a0_0 = 4
        ·rw [if_pos c94] at H
         have c94b0 : (a0_0 == 4) = true := beq_iff_eq.mpr c94
         have c94b1 : (a0_0 != 4) = false := bne_eq_false_iff_eq.mpr c94
         clear c94
         by_cases c95 : a0_6 = 0
         ·rw [if_pos c95] at H
          have c95b0 : (a0_6 == 0) = true := beq_iff_eq.mpr c95
          have c95b1 : (a0_6 != 0) = false := bne_eq_false_iff_eq.mpr c95
          clear c95
          by_cases c96 : a0_7 = 0
          ·rw [if_pos c96] at H
           have c96b0 : (a0_7 == 0) = true := beq_iff_eq.mpr c96
           have c96b1 : (a0_7 != 0) = false := bne_eq_false_iff_eq.mpr c96
           clear c96
           by_cases c97 : a0_12 = 0
           ·rw [if_pos c97] at H
            have c97b0 : (a0_12 == 0) = true := beq_iff_eq.mpr c97
            have c97b1 : (a0_12 != 0) = false := bne_eq_false_iff_eq.mpr c97
            clear c97
            by_cases c98 : (!a0_8 && (a0_9.toList == ([] : List UInt8))) = true
            ·rw [if_pos c98] at H
             have c98b0 : (!a0_8 && (a0_9.toList == ([] : List UInt8))) = true := (c98); have c98b9 : (!a0_8 && a0_9.toList.isEmpty) = true := (by rw [← beq_nil]; exact c98b0)
             clear c98
             obtain rfl := Option.some.inj H
             go_wp2_with (first | ((with_reducible refine gate_dst (N := 3) rfl ?_); refine box_event ?hg (N := 3) ?hd (cs := #[.bool false, .string (⟨#[]⟩ : ByteArray)]) (t := 33) ?hr ?_; (case hd => rfl); (case hg => rfl); (case hr => first | (go_simp; done) | (go_simp; rfl)); intro gb106 hg w99 hbox hb; have n0_ := Aside0.mk (blk_below BK101.out hb); have n1_ := Aside0.mk (below_step HB.out hb); have n2_ := Aside0.mk (hbox); have n3_ := Aside0.mk ((by rw [hg]; exact below_size HB.out : w.heap.size ≤ gb106)); have n4_ := Aside0.mk ((by rw [hg]; exact below_size HB.out : w.heap.size ≤ gb106)); have n5_ := Aside0.mk ((by rw [hg]; exact Nat.ne_of_lt (blk_lt BK101.out) : gb101 ≠ gb106)); have n6_ := Aside0.mk ((by rw [hg]; exact Nat.ne_of_gt (blk_lt BK101.out) : gb106 ≠ gb101)); clear BK101; clear HB; have BK101 := n0_; have HB := n1_; have BK106 := n2_; have GW106 := n3_; have GE106 := n4_; have NB101_106 := n5_; have NB106_101 := n6_; clear n0_ n1_ n2_ n3_ n4_ n5_ n6_; clear hb hbox hg; have hnb100 := NB106_101.out; have hnc100 := NB101_106.out; obtain ⟨hcz101_0, hcz101_1⟩ := cl2 (W := w99) BK106.out; obtain ⟨hfz101_0, hfz101_1⟩ := fr2 BK106.out; obtain ⟨hcz102_0, hcz102_1, hcz102_2, hcz102_3, hcz102_4, hcz102_5, hcz102_6, hcz102_7, hcz102_8, hcz102_9, hcz102_10, hcz102_11, hcz102_12⟩ := cl13 (W := w99) BK101.out; obtain ⟨hfz102_0, hfz102_1, hfz102_2, hfz102_3, hfz102_4, hfz102_5, hfz102_6, hfz102_7, hfz102_8, hfz102_9, hfz102_10, hfz102_11, hfz102_12⟩ := fr13 BK101.out))
             go_ret
             exact ⟨by first | rfl | (simp [errW_none, errW_some] <;> rfl) | (simp [*, errW_none, errW_some] <;> rfl), by repeat (first | (with_reducible first | exact HB.out | apply below_alloc | apply pw_below_drewN | apply below_drew1 | refine below_set ?_ GE101.out | refine below_set ?_ GE106.out) | exact HB.out)⟩
            ·rw [if_neg c98] at H
             have c98b0 : (!a0_8 && (a0_9.toList == ([] : List UInt8))) = false := (by simpa using c98); have c98b9 : (!a0_8 && a0_9.toList.isEmpty) = false := (by rw [← beq_nil]; exact c98b0)
             clear c98
             obtain rfl := Option.some.inj H
             go_wp2_with (first | ((with_reducible refine gate_dst (N := 3) rfl ?_); refine box_event ?hg (N := 3) ?hd (cs := #[.bool false, .string (⟨#[]⟩ : ByteArray)]) (t := 33) ?hr ?_; (case hd => rfl); (case hg => rfl); (case hr => first | (go_simp; done) | (go_simp; rfl)); intro gb106 hg w103 hbox hb; have n0_ := Aside0.mk (blk_below BK101.out hb); have n1_ := Aside0.mk (below_step HB.out hb); have n2_ := Aside0.mk (hbox); have n3_ := Aside0.mk ((by rw [hg]; exact below_size HB.out : w.heap.size ≤ gb106)); have n4_ := Aside0.mk ((by rw [hg]; exact below_size HB.out : w.heap.size ≤ gb106)); have n5_ := Aside0.mk ((by rw [hg]; exact Nat.ne_of_lt (blk_lt BK101.out) : gb101 ≠ gb106)); have n6_ := Aside0.mk ((by rw [hg]; exact Nat.ne_of_gt (blk_lt BK101.out) : gb106 ≠ gb101)); clear BK101; clear HB; have BK101 := n0_; have HB := n1_; have BK106 := n2_; have GW106 := n3_; have GE106 := n4_; have NB101_106 := n5_; have NB106_101 := n6_; clear n0_ n1_ n2_ n3_ n4_ n5_ n6_; clear hb hbox hg; have hnb104 := NB106_101.out; have hnc104 := NB101_106.out; obtain ⟨hcz105_0, hcz105_1⟩ := cl2 (W := w103) BK106.out; obtain ⟨hfz105_0, hfz105_1⟩ := fr2 BK106.out; obtain ⟨hcz106_0, hcz106_1, hcz106_2, hcz106_3, hcz106_4, hcz106_5, hcz106_6, hcz106_7, hcz106_8, hcz106_9, hcz106_10, hcz106_11, hcz106_12⟩ := cl13 (W := w103) BK101.out; obtain ⟨hfz106_0, hfz106_1, hfz106_2, hfz106_3, hfz106_4, hfz106_5, hfz106_6, hfz106_7, hfz106_8, hfz106_9, hfz106_10, hfz106_11, hfz106_12⟩ := fr13 BK101.out))
             go_ret
             exact ⟨by first | rfl | (simp [errW_none, errW_some] <;> rfl) | (simp [*, errW_none, errW_some] <;> rfl), by repeat (first | (with_reducible first | exact HB.out | apply below_alloc | apply pw_below_drewN | apply below_drew1 | refine below_set ?_ GE101.out | refine below_set ?_ GE106.out) | exact HB.out)⟩
           ·rw [if_neg c97] at H
            have c97b0 : (a0_12 == 0) = false := beq_eq_false_iff_ne.mpr c97
            have c97b1 : (a0_12 != 0) = true := bne_iff_ne.mpr c97
            obtain rfl := Option.some.inj H
            go_wp2_with (first | ((with_reducible refine gate_dst (N := 3) rfl ?_); refine box_event ?hg (N := 3) ?hd (cs := #[.bool false, .string (⟨#[]⟩ : ByteArray)]) (t := 33) ?hr ?_; (case hd => rfl); (case hg => rfl); (case hr => first | (go_simp; done) | (go_simp; rfl)); intro gb106 hg w107 hbox hb; have n0_ := Aside0.mk (blk_below BK101.out hb); have n1_ := Aside0.mk (below_step HB.out hb); have n2_ := Aside0.mk (hbox); have n3_ := Aside0.mk ((by rw [hg]; exact below_size HB.out : w.heap.size ≤ gb106)); have n4_ := Aside0.mk ((by rw [hg]; exact below_size HB.out : w.heap.size ≤ gb106)); have n5_ := Aside0.mk ((by rw [hg]; exact Nat.ne_of_lt (blk_lt BK101.out) : gb101 ≠ gb106)); have n6_ := Aside0.mk ((by rw [hg]; exact Nat.ne_of_gt (blk_lt BK101.out) : gb106 ≠ gb101)); clear BK101; clear HB; have BK101 := n0_; have HB := n1_; have BK106 := n2_; have GW106 := n3_; have GE106 := n4_; have NB101_106 := n5_; have NB106_101 := n6_; clear n0_ n1_ n2_ n3_ n4_ n5_ n6_; clear hb hbox hg; have hnb108 := NB106_101.out; have hnc108 := NB101_106.out; obtain ⟨hcz109_0, hcz109_1⟩ := cl2 (W := w107) BK106.out; obtain ⟨hfz109_0, hfz109_1⟩ := fr2 BK106.out; obtain ⟨hcz110_0, hcz110_1, hcz110_2, hcz110_3, hcz110_4, hcz110_5, hcz110_6, hcz110_7, hcz110_8, hcz110_9, hcz110_10, hcz110_11, hcz110_12⟩ := cl13 (W := w107) BK101.out; obtain ⟨hfz110_0, hfz110_1, hfz110_2, hfz110_3, hfz110_4, hfz110_5, hfz110_6, hfz110_7, hfz110_8, hfz110_9, hfz110_10, hfz110_11, hfz110_12⟩ := fr13 BK101.out))
            go_ret
            exact ⟨by first | rfl | (simp [errW_none, errW_some] <;> rfl) | (simp [*, errW_none, errW_some] <;> rfl), by repeat (first | (with_reducible first | exact HB.out | apply below_alloc | apply pw_below_drewN | apply below_drew1 | refine below_set ?_ GE101.out | refine below_set ?_ GE106.out) | exact HB.out)⟩
          ·rw [if_neg c96] at H
           have c96b0 : (a0_7 == 0) = false := beq_eq_false_iff_ne.mpr c96
           have c96b1 : (a0_7 != 0) = true := bne_iff_ne.mpr c96
           obtain rfl := Option.some.inj H
           go_wp2_with (first | ((with_reducible refine gate_dst (N := 3) rfl ?_); refine box_event ?hg (N := 3) ?hd (cs := #[.bool false, .string (⟨#[]⟩ : ByteArray)]) (t := 33) ?hr ?_; (case hd => rfl); (case hg => rfl); (case hr => first | (go_simp; done) | (go_simp; rfl)); intro gb106 hg w111 hbox hb; have n0_ := Aside0.mk (blk_below BK101.out hb); have n1_ := Aside0.mk (below_step HB.out hb); have n2_ := Aside0.mk (hbox); have n3_ := Aside0.mk ((by rw [hg]; exact below_size HB.out : w.heap.size ≤ gb106)); have n4_ := Aside0.mk ((by rw [hg]; exact below_size HB.out : w.heap.size ≤ gb106)); have n5_ := Aside0.mk ((by rw [hg]; exact Nat.ne_of_lt (blk_lt BK101.out) : gb101 ≠ gb106)); have n6_ := Aside0.mk ((by rw [hg]; exact Nat.ne_of_gt (blk_lt BK101.out) : gb106 ≠ gb101)); clear BK101; clear HB; have BK101 := n0_; have HB := n1_; have BK106 := n2_; have GW106 := n3_; have GE106 := n4_; have NB101_106 := n5_; have NB106_101 := n6_; clear n0_ n1_ n2_ n3_ n4_ n5_ n6_; clear hb hbox hg; have hnb112 := NB106_101.out; have hnc112 := NB101_106.out; obtain ⟨hcz113_0, hcz113_1⟩ := cl2 (W := w111) BK106.out; obtain ⟨hfz113_0, hfz113_1⟩ := fr2 BK106.out; obtain ⟨hcz114_0, hcz114_1, hcz114_2, hcz114_3, hcz114_4, hcz114_5, hcz114_6, hcz114_7, hcz114_8, hcz114_9, hcz114_10, hcz114_11, hcz114_12⟩ := cl13 (W := w111) BK101.out; obtain ⟨hfz114_0, hfz114_1, hfz114_2, hfz114_3, hfz114_4, hfz114_5, hfz114_6, hfz114_7, hfz114_8, hfz114_9, hfz114_10, hfz114_11, hfz114_12⟩ := fr13 BK101.out))
           go_ret
           exact ⟨by first | rfl | (simp [errW_none, errW_some] <;> rfl) | (simp [*, errW_none, errW_some] <;> rfl), by repeat (first | (with_reducible first | exact HB.out | apply below_alloc | apply pw_below_drewN | apply below_drew1 | refine below_set ?_ GE101.out | refine below_set ?_ GE106.out) | exact HB.out)⟩
         ·rw [if_neg c95] at H
          have c95b0 : (a0_6 == 0) = false := beq_eq_false_iff_ne.mpr c95
          have c95b1 : (a0_6 != 0) = true := bne_iff_ne.mpr c95
          obtain rfl := Option.some.inj H
          go_wp2_with (first | ((with_reducible refine gate_dst (N := 3) rfl ?_); refine box_event ?hg (N := 3) ?hd (cs := #[.bool false, .string (⟨#[]⟩ : ByteArray)]) (t := 33) ?hr ?_; (case hd => rfl); (case hg => rfl); (case hr => first | (go_simp; done) | (go_simp; rfl)); intro gb106 hg w115 hbox hb; have n0_ := Aside0.mk (blk_below BK101.out hb); have n1_ := Aside0.mk (below_step HB.out hb); have n2_ := Aside0.mk (hbox); have n3_ := Aside0.mk ((by rw [hg]; exact below_size HB.out : w.heap.size ≤ gb106)); have n4_ := Aside0.mk ((by rw [hg]; exact below_size HB.out : w.heap.size ≤ gb106)); have n5_ := Aside0.mk ((by rw [hg]; exact Nat.ne_of_lt (blk_lt BK101.out) : gb101 ≠ gb106)); have n6_ := Aside0.mk ((by rw [hg]; exact Nat.ne_of_gt (blk_lt BK101.out) : gb106 ≠ gb101)); clear BK101; clear HB; have BK101 := n0_; have HB := n1_; have BK106 := n2_; have GW106 := n3_; have GE106 := n4_; have NB101_106 := n5_; have NB106_101 := n6_; clear n0_ n1_ n2_ n3_ n4_ n5_ n6_; clear hb hbox hg; have hnb116 := NB106_101.out; have hnc116 := NB101_106.out; obtain ⟨hcz117_0, hcz117_1⟩ := cl2 (W := w115) BK106.out; obtain ⟨hfz117_0, hfz117_1⟩ := fr2 BK106.out; obtain ⟨hcz118_0, hcz118_1, hcz118_2, hcz118_3, hcz118_4, hcz118_5, hcz118_6, hcz118_7, hcz118_8, hcz118_9, hcz118_10, hcz118_11, hcz118_12⟩ := cl13 (W := w115) BK101.out; obtain ⟨hfz118_0, hfz118_1, hfz118_2, hfz118_3, hfz118_4, hfz118_5, hfz118_6, hfz118_7, hfz118_8, hfz118_9, hfz118_10, hfz118_11, hfz118_12⟩ := fr13 BK101.out))
          go_ret
          exact ⟨by first | rfl | (simp [errW_none, errW_some] <;> rfl) | (simp [*, errW_none, errW_some] <;> rfl), by repeat (first | (with_reducible first | exact HB.out | apply below_alloc | apply pw_below_drewN | apply below_drew1 | refine below_set ?_ GE101.out | refine below_set ?_ GE106.out) | exact HB.out)⟩
        ·rw [if_neg c94] at H
         have c94b0 : (a0_0 == 4) = false := beq_eq_false_iff_ne.mpr c94
         have c94b1 : (a0_0 != 4) = true := bne_iff_ne.mpr c94
         obtain rfl := Option.some.inj H
         go_wp2
         go_ret
         exact ⟨by first | rfl | (simp [errW_none, errW_some] <;> rfl) | (simp [*, errW_none, errW_some] <;> rfl), by repeat (first | (with_reducible first | exact HB.out | apply below_alloc | apply pw_below_drewN | apply below_drew1 | refine below_set ?_ GE101.out) | exact HB.out)⟩
end Go.Proofs.Ytfjmnaobfbmllaa.M
namespace Go.Proofs.Ytfjmnaobfbmllaa.M
open Go.RowKit Go.Proofs.YtfjmnaobfbmllaaW.PrintWords Go.Proofs.YtfjmnaobfbmllaaW.PrintLast Go.Proofs.YtfjmnaobfbmllaaW.PrintMore
set_option linter.unusedVariables false
set_option linter.unusedSimpArgs false
theorem rslot_eq (u : Bool) (d : ByteArray) : seneschalref04_slot.f u d = some (decide (oddS ⟨u, d⟩ = false)) := by
  rw [← isSlot_eq]; rfl
theorem rkind3 (k prev p s : Int) (u : Bool) (d : ByteArray) (u2 : Bool) (d2 : ByteArray) (next : Int) (h1 : ¬ k = 1) (h2 : ¬ k = 2) (h3 : k = 3 ∨ k = 4) :
    (if p = 0 then (if s = 0 then (if next = 0 then (if (!u && (d.toList == ([] : List UInt8))) = true then (some (!u2 && (d2.toList == ([] : List UInt8)))) else (some false)) else (some false)) else (some false)) else (some false))
      = some (decide (KindE k prev p s ⟨u, d⟩ ⟨u2, d2⟩ next)) := by
  by_cases a1 : p = 0
  · rw [if_pos a1]
    by_cases a2 : s = 0
    · rw [if_pos a2]
      by_cases a3 : next = 0
      · rw [if_pos a3]
        by_cases a4 : (!u && (d.toList == ([] : List UInt8))) = true
        · rw [if_pos a4]; congr 1; rw [Bool.eq_iff_iff]
          have a5 : u = false ∧ d = ⟨#[]⟩ := by simpa [ba_nil] using a4
          simp [KindE, h1, h2, h3, a1, a2, a3, s33_ext, z33, ba_nil, a5.1, a5.2]
        · rw [if_neg a4]; congr 1
          refine (decide_eq_false (fun h => a4 ?_)).symm
          rcases h with h | h | h
          · exact absurd h.1 h1
          · exact absurd h.1 h2
          · have := h.2.2.2.2.1
            rw [s33_ext] at this
            simp [z33] at this
            simp [this.1, this.2, ba_nil]
      · rw [if_neg a3]; congr 1; exact (decide_eq_false (by rintro (h | h | h); exact h1 h.1; exact h2 h.1; exact a3 h.2.2.2.1)).symm
    · rw [if_neg a2]; congr 1; exact (decide_eq_false (by rintro (h | h | h); exact h1 h.1; exact h2 h.1; exact a2 h.2.2.1)).symm
  · rw [if_neg a1]; congr 1; exact (decide_eq_false (by rintro (h | h | h); exact h1 h.1; exact h2 h.1; exact a1 h.2.1)).symm
theorem rgood_chg (q : Nat) (k c e n lsn prev p s : Int) (u : Bool) (d : ByteArray) (u2 : Bool) (d2 : ByteArray) (next : Int) (hk : k = 1 ∨ k = 2) (hp : 0 ≤ prev) :
    seneschalref04_Good.j1 (q + 1) k true k c e n lsn prev p s u d u2 d2 next = some (decide (KindE k prev p s ⟨u, d⟩ ⟨u2, d2⟩ next)) := by
  have hbad : ¬ Chg p s ⟨u, d⟩ ⟨u2, d2⟩ → some false = some (decide (KindE k prev p s ⟨u, d⟩ ⟨u2, d2⟩ next)) := fun hn => by
    congr 1; exact (decide_eq_false (by rintro (h | h | h); exact hn h.2.1; exact hn h.2.1; omega)).symm
  simp only [seneschalref04_Good.j1]
  rw [if_pos trivial]
  by_cases a1 : p < 0
  · rw [if_pos a1]; exact hbad (fun h => by have := h.1; omega)
  rw [if_neg a1]
  by_cases a2 : p > 1023
  · rw [if_pos a2]; exact hbad (fun h => by have := h.1; omega)
  rw [if_neg a2]
  by_cases a3 : s < 0
  · rw [if_pos a3]; exact hbad (fun h => by have := h.2.1; omega)
  rw [if_neg a3]
  by_cases a4 : s > 31
  · rw [if_pos a4]; exact hbad (fun h => by have := h.2.1; omega)
  rw [if_neg a4, rslot_eq, Option.bind_some]
  by_cases a5 : oddS ⟨u, d⟩ = false
  · rw [decide_eq_true a5, if_pos rfl, rslot_eq, Option.bind_some]
    by_cases a6 : oddS ⟨u2, d2⟩ = false
    · have hc : Chg p s ⟨u, d⟩ ⟨u2, d2⟩ := ⟨by omega, by omega, a5, a6⟩
      rw [decide_eq_true a6, if_pos rfl]
      by_cases a7 : next = 0
      · rw [if_pos a7]; congr 1
        refine (decide_eq_true ?_).symm
        rcases hk with hk | hk
        · exact .inl ⟨hk, hc, a7⟩
        · exact .inr (.inl ⟨hk, hc, by omega, by omega⟩)
      · rw [if_neg a7]
        by_cases a8 : k = 2
        · rw [if_pos a8]
          by_cases a9 : next > 0
          · rw [if_pos a9]; congr 1
            exact decide_eq_decide.mpr ⟨fun h => .inr (.inl ⟨a8, hc, by omega, h⟩), fun h => by
              rcases h with h | h | h
              · omega
              · exact h.2.2.2
              · omega⟩
          · rw [if_neg a9]; congr 1
            exact (decide_eq_false (by rintro (h | h | h) <;> omega)).symm
        · rw [if_neg a8]; congr 1
          exact (decide_eq_false (by rintro (h | h | h) <;> omega)).symm
    · rw [decide_eq_false a6, if_neg Bool.false_ne_true]; exact hbad (fun h => a6 h.2.2.2)
  · rw [decide_eq_false a5, if_neg Bool.false_ne_true]; exact hbad (fun h => a5 h.2.2.1)
theorem rgood_j0 (q : Nat) (k c e n lsn prev p s : Int) (u : Bool) (d : ByteArray) (u2 : Bool) (d2 : ByteArray) (next : Int) (hp : 0 ≤ prev) :
    seneschalref04_Good.j0 (q + 2) false k c e n lsn prev p s u d u2 d2 next = some (decide (KindE k prev p s ⟨u, d⟩ ⟨u2, d2⟩ next)) := by
  have hoth : ¬ k = 1 → ¬ k = 2 → seneschalref04_Good.j1 (q + 1) k false k c e n lsn prev p s u d u2 d2 next = some (decide (KindE k prev p s ⟨u, d⟩ ⟨u2, d2⟩ next)) := by
    intro h1 h2
    simp only [seneschalref04_Good.j1]
    rw [if_neg Bool.false_ne_true]
    by_cases h3 : k = 3
    · rw [if_pos h3]; exact rkind3 k prev p s u d u2 d2 next h1 h2 (.inl h3)
    · rw [if_neg h3]
      by_cases h4 : k = 4
      · rw [if_pos h4]; exact rkind3 k prev p s u d u2 d2 next h1 h2 (.inr h4)
      · rw [if_neg h4]; congr 1; exact (decide_eq_false (by unfold KindE; omega)).symm
  simp only [seneschalref04_Good.j0]
  rw [if_neg Bool.false_ne_true]
  by_cases h1 : k = 1
  · rw [if_pos h1, show (k == 1) = true by simp [h1]]
    exact rgood_chg q k c e n lsn prev p s u d u2 d2 next (.inl h1) hp
  · rw [if_neg h1]
    by_cases h2 : k = 2
    · rw [show (k == 2) = true by simp [h2]]
      exact rgood_chg q k c e n lsn prev p s u d u2 d2 next (.inr h2) hp
    · rw [show (k == 2) = false by simp [h2]]
      exact hoth h1 h2
theorem rgoodE_pure (k c e n lsn prev p s : Int) (u : Bool) (d : ByteArray) (u2 : Bool) (d2 : ByteArray) (next : Int) :
    seneschalref04_Good.f 2 k c e n lsn prev p s u d u2 d2 next = some (decide (GoodE (mkE k c e n lsn prev p s u d u2 d2 next))) := by
  have hbad : seneschalref04_Good.j0 2 true k c e n lsn prev p s u d u2 d2 next = some false := by simp only [seneschalref04_Good.j0]; exact if_pos trivial
  have hno : ¬ GoodE (mkE k c e n lsn prev p s u d u2 d2 next) → some false = some (decide (GoodE (mkE k c e n lsn prev p s u d u2 d2 next))) := fun h => by rw [decide_eq_false h]
  unfold seneschalref04_Good.f
  rw [show refKnown4.f c e n = some (decide (KnownP c e n)) from rfl, Option.bind_some]
  by_cases h1 : KnownP c e n
  · rw [decide_eq_true h1, if_pos rfl]
    by_cases a1 : lsn < 1
    · rw [if_pos a1, hbad]; exact hno (fun h => by have h5 : 1 ≤ lsn ∧ lsn ≤ 1099511627776 := h.2.1; omega)
    rw [if_neg a1]
    by_cases a2 : lsn > 1099511627776
    · rw [if_pos a2, hbad]; exact hno (fun h => by have h5 : 1 ≤ lsn ∧ lsn ≤ 1099511627776 := h.2.1; omega)
    rw [if_neg a2]
    by_cases a3 : prev < 0
    · rw [if_pos a3, hbad]; exact hno (fun h => by have h5 : 0 ≤ prev ∧ prev < lsn := h.2.2.1; omega)
    rw [if_neg a3]
    by_cases a4 : prev ≥ lsn
    · rw [decide_eq_true a4, hbad]; exact hno (fun h => by have h5 : 0 ≤ prev ∧ prev < lsn := h.2.2.1; omega)
    · rw [decide_eq_false a4, rgood_j0 0 k c e n lsn prev p s u d u2 d2 next (by omega)]
      congr 1
      exact decide_eq_decide.mpr ⟨fun h => ⟨h1, ⟨by show 1 ≤ lsn; omega, by show lsn ≤ 1099511627776; omega⟩, ⟨by show 0 ≤ prev; omega, by show prev < lsn; omega⟩, h⟩, fun h => h.2.2.2⟩
  · rw [decide_eq_false h1, if_neg Bool.false_ne_true, hbad]; exact hno (fun h => h1 h.1)
def refGood4.f (k c e n lsn prev p s : Int) (u : Bool) (d : ByteArray) (u2 : Bool) (d2 : ByteArray) (next : Int) : Option Bool := some (decide (GoodE (mkE k c e n lsn prev p s u d u2 d2 next)))
theorem refGood4.calls (k c e n lsn prev p s : Int) (u : Bool) (d : ByteArray) (u2 : Bool) (d2 : ByteArray) (next : Int) (r : Bool) (w : World) (h : refGood4.f k c e n lsn prev p s u d u2 d2 next = some r) :
    Calls Try.prog 56 #[.agg #[.int .i64 k, .int .i64 c, .int .i64 e, .int .i64 n, .int .i64 lsn, .int .i64 prev, .int .i64 p, .int .i64 s, .bool u, .string d, .bool u2, .string d2, .int .i64 next]] w fun e w' => e = .returned (.bool r) ∧ Below w.heap.size w w' :=
  seneschalref04_Good.calls 2 k c e n lsn prev p s u d u2 d2 next r w (by rw [rgoodE_pure]; exact h)
end Go.Proofs.Ytfjmnaobfbmllaa.M
namespace Go.Proofs.Ytfjmnaobfbmllaa.M
open Go.RowKit Go.Proofs.YtfjmnaobfbmllaaW.PrintWords Go.Proofs.YtfjmnaobfbmllaaW.PrintLast Go.Proofs.YtfjmnaobfbmllaaW.PrintMore
attribute [local go_sem] max2_int min2_int max_two min_two max_three min_three max_four min_four   -- for this text's walks alone
set_option linter.unusedVariables false
set_option linter.unusedSimpArgs false
mutual
def seneschalref01_TakeInt.l0 : Nat → ByteArray → Int → Int → Option (Int × ByteArray × Bool)
 | 0, _, _, _ => none
 | k + 1, x0, x5, x6 => if x6 < (x0.size : Int) then (seneschalref01_TakeInt.j1 k x0 x5 x6 (decide (x6 < 10))) else (seneschalref01_TakeInt.j1 k x0 x5 x6 false)
def seneschalref01_TakeInt.j1 : Nat → ByteArray → Int → Int → Bool → Option (Int × ByteArray × Bool)
 | 0, _, _, _, _ => none
 | k + 1, x0, x5, x6, x15 => if x15 = true then (if 0 ≤ x6 then (if x6 < (x0.size : Int) then (if x6 = 9 then (seneschalref01_TakeInt.j2 k x0 x5 x6 (IntKind.u64.wrap (Int.tmod (bt x0 x6) 128)) (decide ((IntKind.u64.wrap (Int.tmod (bt x0 x6) 128)) > 1))) else (seneschalref01_TakeInt.j2 k x0 x5 x6 (IntKind.u64.wrap (Int.tmod (bt x0 x6) 128)) false)) else (none)) else (none)) else (some (0, (⟨#[]⟩ : ByteArray), false))
def seneschalref01_TakeInt.j2 : Nat → ByteArray → Int → Int → Int → Bool → Option (Int × ByteArray × Bool)
 | 0, _, _, _, _, _ => none
 | k + 1, x0, x5, x6, x7, x28 => if x28 = true then (some (0, (⟨#[]⟩ : ByteArray), false)) else (if 0 ≤ (wrap64 (7 * x6)) then (if 0 ≤ x6 then (if x6 < (x0.size : Int) then (if (bt x0 x6) ≥ 128 then (seneschalref01_TakeInt.l0 k x0 (IntKind.u64.wrap (x5 + (shl .u64 x7 (wrap64 (7 * x6))))) (wrap64 (x6 + 1))) else (if x7 = 0 then (seneschalref01_TakeInt.j3 k x0 (IntKind.u64.wrap (x5 + (shl .u64 x7 (wrap64 (7 * x6))))) x6 (decide (x6 > 0))) else (seneschalref01_TakeInt.j3 k x0 (IntKind.u64.wrap (x5 + (shl .u64 x7 (wrap64 (7 * x6))))) x6 false))) else (none)) else (none)) else (none))
def seneschalref01_TakeInt.j3 : Nat → ByteArray → Int → Int → Bool → Option (Int × ByteArray × Bool)
 | 0, _, _, _, _ => none
 | k + 1, x0, x5, x6, x44 => if x44 = true then (some (0, (⟨#[]⟩ : ByteArray), false)) else (if (Int.tmod x5 2) = 1 then (if 0 ≤ (wrap64 (x6 + 1)) then (if (wrap64 (x6 + 1)) ≤ (x0.size : Int) then (some (wrap64 ((wrap64 (-(wrap64 (IntKind.u64.wrap (Int.tdiv x5 2))))) - 1), x0.extract ((wrap64 (x6 + 1)) : Int).toNat x0.size, true)) else (none)) else (none)) else (if 0 ≤ (wrap64 (x6 + 1)) then (if (wrap64 (x6 + 1)) ≤ (x0.size : Int) then (some (wrap64 (IntKind.u64.wrap (Int.tdiv x5 2)), x0.extract ((wrap64 (x6 + 1)) : Int).toNat x0.size, true)) else (none)) else (none)))
end
def seneschalref01_TakeInt.f (k : Nat) (a0 : ByteArray) : Option (Int × ByteArray × Bool) := seneschalref01_TakeInt.l0 k a0 0 0
set_option maxHeartbeats 8000000 in
set_option maxRecDepth 100000 in
theorem seneschalref01_TakeInt.calls (k : Nat) (a0 : ByteArray) (r1 : Int) (r2 : ByteArray) (r3 : Bool) (w : World) (h : seneschalref01_TakeInt.f k a0 = some (r1, r2, r3)) :
  Calls Try.prog 109 #[.string a0] w fun e w' => e = .returned (.tuple #[.int .i64 r1, .string r2, .bool r3]) ∧ Drawn0 w w' := by
 have H : (seneschalref01_TakeInt.l0 k a0 0 0) = some (r1, r2, r3) := h
 clear h
 have H' := Aside0.mk H
 clear H
 go_enter Try.func109, Try.ntmps109
 go_wp2
 repeat (go_quiet (fail); try go_wp2)
 go_loopg [5, 6] k (fun kq v5 v6 w' => ∃ (x5_1 : Int) (x6_1 : Int), v5 = .int .u64 x5_1 ∧ v6 = .int .i64 x6_1 ∧ Aside0 (seneschalref01_TakeInt.l0 kq a0 x5_1 x6_1 = some (r1, r2, r3)) ∧ Aside0 (kq ≤ k) ∧ Drawn0 w w')
 case atStart => exact ⟨(0), (0), (by first | rfl | (simp; done) | (simp [*]; done)), (by first | rfl | (simp; done) | (simp [*]; done)), H', ⟨Nat.le_refl _⟩, by repeat (first | exact Drawn0.refl _ | apply Drawn0.step)⟩
 case round =>
  clear H'
  try clear c1
  obtain ⟨x5_1, x6_1, rfl, rfl, HA, HK1, ⟨m1, rfl⟩⟩ := hrel
  cases gk with
  | zero => exact absurd HA.out (by simp [seneschalref01_TakeInt.l0])
  | succ k1 =>
   have H := HA.out
   clear HA
   simp only [seneschalref01_TakeInt.l0] at H
   have HC2 := Aside0.mk H
   clear H
   go_upto_region 3 with (fail)
   repeat (go_quiet (fail); go_upto_region 3 with (fail))
   go_cut [15] (fun v15 wc => ∃ (kq : Nat) (x15_1 : Bool), v15 = .bool x15_1 ∧ Aside0 (seneschalref01_TakeInt.j1 kq a0 x5_1 x6_1 x15_1 = some (r1, r2, r3)) ∧ Aside0 (kq ≤ k1) ∧ Drawn0 w wc)
   case first =>
    have H := HC2.out
    clear HC2
    by_cases c3 : x6_1 < (a0.size : Int)
    ·rw [if_pos c3] at H
     have c3b0 : decide (x6_1 < (a0.size : Int)) = true := decide_eq_true c3
     clear c3
     (first | rw [c3b0] | (simp only [i64_w, i32_w]; rw [c3b0]) | skip)
     have H' := Aside0.mk H
     clear H
     go_wp2
     repeat (go_quiet (fail); try go_wp2)
     go_meet
     case rel => exact ⟨_, (decide (x6_1 < 10)), (by first | rfl | (simp; done) | (simp [*]; done)), H', ⟨by have := HK1.out; first | omega | exact Nat.le_refl _⟩, by repeat (first | exact Drawn0.refl _ | apply Drawn0.step)⟩
    ·rw [if_neg c3] at H
     have c3b0 : decide (x6_1 < (a0.size : Int)) = false := decide_eq_false c3
     clear c3
     (first | rw [c3b0] | (simp only [i64_w, i32_w]; rw [c3b0]) | skip)
     have H' := Aside0.mk H
     clear H
     go_wp2
     repeat (go_quiet (fail); try go_wp2)
     go_meet
     case rel => exact ⟨_, (false), (by first | rfl | (simp; done) | (simp [*]; done)), H', ⟨by have := HK1.out; first | omega | exact Nat.le_refl _⟩, by repeat (first | exact Drawn0.refl _ | apply Drawn0.step)⟩
   case rest =>
    clear HC2
    try clear c1
    try clear p2
    try clear c3
    try clear c3b0
    obtain ⟨kq, x15_1, rfl, HA, HJ1, ⟨mc1, rfl⟩⟩ := hcut
    cases kq with
    | zero => exact absurd HA.out (by simp [seneschalref01_TakeInt.j1])
    | succ kj1 =>
     have H := HA.out
     clear HA
     simp only [seneschalref01_TakeInt.j1] at H
     by_cases c4 : x15_1 = true
     ·subst c4
      have H1 : (if 0 ≤ x6_1 then (if x6_1 < (a0.size : Int) then (if x6_1 = 9 then (seneschalref01_TakeInt.j2 kj1 a0 x5_1 x6_1 (IntKind.u64.wrap (Int.tmod (bt a0 x6_1) 128)) (decide ((IntKind.u64.wrap (Int.tmod (bt a0 x6_1) 128)) > 1))) else (seneschalref01_TakeInt.j2 kj1 a0 x5_1 x6_1 (IntKind.u64.wrap (Int.tmod (bt a0 x6_1) 128)) false)) else (none)) else (none)) = some (r1, r2, r3) := by rw [if_pos rfl] at H; exact H
      clear H
      have H := H1
      clear H1
      by_cases c5 : 0 ≤ x6_1
      ·rw [if_pos c5] at H
       have c5b0 : decide (0 ≤ x6_1) = true := decide_eq_true c5
       clear c5
       by_cases c6 : x6_1 < (a0.size : Int)
       ·rw [if_pos c6] at H
        have c6b0 : decide (x6_1 < (a0.size : Int)) = true := decide_eq_true c6
        clear c6
        have HC8 := Aside0.mk H
        clear H
        have p7 : 0 ≤ (x6_1 : Int) := of_decide_eq_true (by first | (with_reducible assumption) | assumption)
        have q7 : x6_1 < (a0.size : Int) := of_decide_eq_true (by first | (with_reducible assumption) | assumption)
        have hx7 := bt_at a0 x6_1
        replace p7 := eq_true p7
        replace q7 := eq_true q7
        go_upto_region 6 with (fail)
        repeat (go_quiet (fail); go_upto_region 6 with (fail))
        go_cut [28] (fun v28 wc => ∃ (kq : Nat) (x28_7 : Bool), v28 = .bool x28_7 ∧ Aside0 (seneschalref01_TakeInt.j2 kq a0 x5_1 x6_1 (IntKind.u64.wrap (Int.tmod (bt a0 x6_1) 128)) x28_7 = some (r1, r2, r3)) ∧ Aside0 (kq ≤ kj1) ∧ Drawn0 w wc)
        case first =>
         have H := HC8.out
         clear HC8
         by_cases c9 : x6_1 = 9
         ·rw [if_pos c9] at H
          have c9b0 : (x6_1 == 9) = true := beq_iff_eq.mpr c9
          have c9b1 : (x6_1 != 9) = false := bne_eq_false_iff_eq.mpr c9
          clear c9
          (first | rw [c9b0] | (simp only [i64_w, i32_w]; rw [c9b0]) | skip)
          have H' := Aside0.mk H
          clear H
          go_wp2
          repeat (go_quiet (fail); try go_wp2)
          go_meet
          case rel => exact ⟨_, (decide ((IntKind.u64.wrap (Int.tmod (bt a0 x6_1) 128)) > 1)), (by first | rfl | (simp; done) | (simp [*]; done)), H', ⟨by have := HK1.out; have := HJ1.out; first | omega | exact Nat.le_refl _⟩, by repeat (first | exact Drawn0.refl _ | apply Drawn0.step)⟩
         ·rw [if_neg c9] at H
          have c9b0 : (x6_1 == 9) = false := beq_eq_false_iff_ne.mpr c9
          have c9b1 : (x6_1 != 9) = true := bne_iff_ne.mpr c9
          (first | rw [c9b0] | (simp only [i64_w, i32_w]; rw [c9b0]) | skip)
          have H' := Aside0.mk H
          clear H
          go_wp2
          repeat (go_quiet (fail); try go_wp2)
          go_meet
          case rel => exact ⟨_, (false), (by first | rfl | (simp; done) | (simp [*]; done)), H', ⟨by have := HK1.out; have := HJ1.out; first | omega | exact Nat.le_refl _⟩, by repeat (first | exact Drawn0.refl _ | apply Drawn0.step)⟩
        case rest =>
         clear HC8
         try clear c1
         try clear p2
         try clear c3
         try clear c3b0
         try clear c4
         try clear c5
         try clear c5b0
         try clear c6
         try clear c6b0
         try clear p7
         try clear q7
         try clear hx7
         try clear c9
         try clear c9b0
         try clear c9b1
         try clear p2
         try clear p7
         try clear q7
         obtain ⟨kq, x28_7, rfl, HA, HJ7, ⟨mc7, rfl⟩⟩ := hcut
         cases kq with
         | zero => exact absurd HA.out (by simp [seneschalref01_TakeInt.j2])
         | succ kj7 =>
          have H := HA.out
          clear HA
          simp only [seneschalref01_TakeInt.j2] at H
          by_cases c10 : x28_7 = true
          ·subst c10
           have H1 : (some (0, (⟨#[]⟩ : ByteArray), false)) = some (r1, r2, r3) := by rw [if_pos rfl] at H; exact H
           clear H
           have H := H1
           clear H1
           simp only [Option.some.injEq, Prod.mk.injEq] at H
           obtain ⟨rfl, rfl, rfl⟩ := H
           go_wp2
           repeat (go_quiet (fail); try go_wp2)
           go_ret3
           exact ⟨by first | rfl | (simp; done) | (simp [*]; done), by repeat (first | exact Drawn0.refl _ | apply Drawn0.step)⟩
          ·replace c10 := Bool.eq_false_iff.mpr c10
           subst c10
           have H1 : (if 0 ≤ (wrap64 (7 * x6_1)) then (if 0 ≤ x6_1 then (if x6_1 < (a0.size : Int) then (if (bt a0 x6_1) ≥ 128 then (seneschalref01_TakeInt.l0 kj7 a0 (IntKind.u64.wrap (x5_1 + (shl .u64 (IntKind.u64.wrap (Int.tmod (bt a0 x6_1) 128)) (wrap64 (7 * x6_1))))) (wrap64 (x6_1 + 1))) else (if (IntKind.u64.wrap (Int.tmod (bt a0 x6_1) 128)) = 0 then (seneschalref01_TakeInt.j3 kj7 a0 (IntKind.u64.wrap (x5_1 + (shl .u64 (IntKind.u64.wrap (Int.tmod (bt a0 x6_1) 128)) (wrap64 (7 * x6_1))))) x6_1 (decide (x6_1 > 0))) else (seneschalref01_TakeInt.j3 kj7 a0 (IntKind.u64.wrap (x5_1 + (shl .u64 (IntKind.u64.wrap (Int.tmod (bt a0 x6_1) 128)) (wrap64 (7 * x6_1))))) x6_1 false))) else (none)) else (none)) else (none)) = some (r1, r2, r3) := by rw [if_neg (show ¬ (false = true) by decide)] at H; exact H
           clear H
           have H := H1
           clear H1
           obtain ⟨ji11, hji11⟩ : ∃ j_ : Int, (wrap64 (7 * x6_1)) = j_ := ⟨_, rfl⟩
           replace H : (if 0 ≤ (ji11) then (if 0 ≤ x6_1 then (if x6_1 < (a0.size : Int) then (if (bt a0 x6_1) ≥ 128 then (seneschalref01_TakeInt.l0 kj7 a0 (IntKind.u64.wrap (x5_1 + (shl .u64 (IntKind.u64.wrap (Int.tmod (bt a0 x6_1) 128)) (ji11)))) (wrap64 (x6_1 + 1))) else (if (IntKind.u64.wrap (Int.tmod (bt a0 x6_1) 128)) = 0 then (seneschalref01_TakeInt.j3 kj7 a0 (IntKind.u64.wrap (x5_1 + (shl .u64 (IntKind.u64.wrap (Int.tmod (bt a0 x6_1) 128)) (ji11)))) x6_1 (decide (x6_1 > 0))) else (seneschalref01_TakeInt.j3 kj7 a0 (IntKind.u64.wrap (x5_1 + (shl .u64 (IntKind.u64.wrap (Int.tmod (bt a0 x6_1) 128)) (ji11)))) x6_1 false))) else (none)) else (none)) else (none)) = some (r1, r2, r3) := by first | (rw [hji11] at H; exact H) | (simp only [hji11] at H ⊢; exact H)
           have hji11w : (IntKind.i64.wrap (7 * x6_1)) = ji11 := (i64_w _).trans hji11
           by_cases c12 : 0 ≤ (ji11)
           ·rw [if_pos c12] at H
            have c12b0 := eq_true c12
            have c12b1 : decide (0 ≤ (ji11)) = true := decide_eq_true c12
            clear c12
            obtain ⟨ji13, hji13⟩ : ∃ j_ : Int, (shl .u64 (IntKind.u64.wrap (Int.tmod (bt a0 x6_1) 128)) (ji11)) = j_ := ⟨_, rfl⟩
            replace H : (if 0 ≤ x6_1 then (if x6_1 < (a0.size : Int) then (if (bt a0 x6_1) ≥ 128 then (seneschalref01_TakeInt.l0 kj7 a0 (IntKind.u64.wrap (x5_1 + (ji13))) (wrap64 (x6_1 + 1))) else (if (IntKind.u64.wrap (Int.tmod (bt a0 x6_1) 128)) = 0 then (seneschalref01_TakeInt.j3 kj7 a0 (IntKind.u64.wrap (x5_1 + (ji13))) x6_1 (decide (x6_1 > 0))) else (seneschalref01_TakeInt.j3 kj7 a0 (IntKind.u64.wrap (x5_1 + (ji13))) x6_1 false))) else (none)) else (none)) = some (r1, r2, r3) := by first | (rw [hji13] at H; exact H) | (simp only [hji13] at H ⊢; exact H)
            have hji13_ : (IntKind.u64.wrap ((IntKind.u64.wrap (Int.tmod (bt a0 x6_1) 128)) * 2 ^ min (ji11).toNat 64)) = ji13 := hji13
            have hji13z : (ji11) ≤ 64 → (IntKind.u64.wrap ((IntKind.u64.wrap (Int.tmod (bt a0 x6_1) 128)) * 2 ^ (ji11).toNat)) = ji13 := shl_small hji13
            by_cases c14 : 0 ≤ x6_1
            ·rw [if_pos c14] at H
             have c14b0 : decide (0 ≤ x6_1) = true := decide_eq_true c14
             clear c14
             by_cases c15 : x6_1 < (a0.size : Int)
             ·rw [if_pos c15] at H
              have c15b0 : decide (x6_1 < (a0.size : Int)) = true := decide_eq_true c15
              clear c15
              by_cases c17 : (bt a0 x6_1) ≥ 128
              ·rw [if_pos c17] at H
               have c17b0 : decide (128 ≤ (bt a0 x6_1)) = true := decide_eq_true c17
               clear c17
               have H' := Aside0.mk H
               clear H
               have p16 : 0 ≤ (x6_1 : Int) := of_decide_eq_true (by first | (with_reducible assumption) | assumption)
               have q16 : x6_1 < (a0.size : Int) := of_decide_eq_true (by first | (with_reducible assumption) | assumption)
               have hx16 := bt_at a0 x6_1
               replace p16 := eq_true p16
               replace q16 := eq_true q16
               go_wp2
               repeat (go_quiet (fail); try go_wp2)
               go_roundg kj7
               case measure => have := HK1.out; have := HJ1.out; have := HJ7.out; omega
               case rel => exact ⟨(IntKind.u64.wrap (x5_1 + (ji13))), (wrap64 (x6_1 + 1)), (by first | rfl | (simp; done) | (simp only [← hji13] <;> (first | rfl | simp)) | (simp [*]; done)), (by first | rfl | (simp; done) | (simp [*]; done)), H', ⟨by have := HK1.out; have := HJ1.out; have := HJ7.out; omega⟩, by repeat (first | exact Drawn0.refl _ | apply Drawn0.step)⟩
              ·rw [if_neg c17] at H
               have c17b0 : decide (128 ≤ (bt a0 x6_1)) = false := decide_eq_false c17
               clear c17
               have HC18 := Aside0.mk H
               clear H
               have p16 : 0 ≤ (x6_1 : Int) := of_decide_eq_true (by first | (with_reducible assumption) | assumption)
               have q16 : x6_1 < (a0.size : Int) := of_decide_eq_true (by first | (with_reducible assumption) | assumption)
               have hx16 := bt_at a0 x6_1
               replace p16 := eq_true p16
               replace q16 := eq_true q16
               go_upto_region 10 with (fail)
               repeat (go_quiet (fail); go_upto_region 10 with (fail))
               go_cut [44] (fun v44 wc => ∃ (kq : Nat) (x44_17 : Bool), v44 = .bool x44_17 ∧ Aside0 (seneschalref01_TakeInt.j3 kq a0 (IntKind.u64.wrap (x5_1 + (ji13))) x6_1 x44_17 = some (r1, r2, r3)) ∧ Aside0 (kq ≤ kj7) ∧ Drawn0 w wc)
               case first =>
                have H := HC18.out
                clear HC18
                by_cases c19 : (IntKind.u64.wrap (Int.tmod (bt a0 x6_1) 128)) = 0
                ·rw [if_pos c19] at H
                 have c19b0 : ((IntKind.u64.wrap (Int.tmod (bt a0 x6_1) 128)) == 0) = true := beq_iff_eq.mpr c19
                 have c19b1 : ((IntKind.u64.wrap (Int.tmod (bt a0 x6_1) 128)) != 0) = false := bne_eq_false_iff_eq.mpr c19
                 clear c19
                 (first | rw [c19b0] | (simp only [i64_w, i32_w]; rw [c19b0]) | skip)
                 have H' := Aside0.mk H
                 clear H
                 go_wp2
                 repeat (go_quiet (fail); try go_wp2)
                 go_meet
                 case rel => exact ⟨_, (decide (x6_1 > 0)), (by first | rfl | (simp; done) | (simp [*]; done)), H', ⟨by have := HK1.out; have := HJ1.out; have := HJ7.out; first | omega | exact Nat.le_refl _⟩, by repeat (first | exact Drawn0.refl _ | apply Drawn0.step)⟩
                ·rw [if_neg c19] at H
                 have c19b0 : ((IntKind.u64.wrap (Int.tmod (bt a0 x6_1) 128)) == 0) = false := beq_eq_false_iff_ne.mpr c19
                 have c19b1 : ((IntKind.u64.wrap (Int.tmod (bt a0 x6_1) 128)) != 0) = true := bne_iff_ne.mpr c19
                 (first | rw [c19b0] | (simp only [i64_w, i32_w]; rw [c19b0]) | skip)
                 have H' := Aside0.mk H
                 clear H
                 go_wp2
                 repeat (go_quiet (fail); try go_wp2)
                 go_meet
                 case rel => exact ⟨_, (false), (by first | rfl | (simp; done) | (simp [*]; done)), H', ⟨by have := HK1.out; have := HJ1.out; have := HJ7.out; first | omega | exact Nat.le_refl _⟩, by repeat (first | exact Drawn0.refl _ | apply Drawn0.step)⟩
               case rest =>
                clear HC18
                try clear c1
                try clear p1
                try clear q1
                try clear hx1
                try clear p2
                try clear c3
                try clear c3b0
                try clear c4
                try clear c5
                try clear c5b0
                try clear c6
                try clear c6b0
                try clear p6
                try clear c7
                try clear p7
                try clear q7
                try clear hx7
                try clear c9
                try clear c9b0
                try clear c9b1
                try clear c10
                try clear c12
                try clear c12b0
                try clear c12b1
                try clear c14
                try clear c14b0
                try clear c15
                try clear c15b0
                try clear p16
                try clear q16
                try clear hx16
                try clear c17
                try clear c17b0
                try clear c19
                try clear c19b0
                try clear c19b1
                try clear p16
                try clear p2
                try clear p7
                try clear q16
                try clear q7
                obtain ⟨kq, x44_17, rfl, HA, HJ17, ⟨mc17, rfl⟩⟩ := hcut
                cases kq with
                | zero => exact absurd HA.out (by simp [seneschalref01_TakeInt.j3])
                | succ kj17 =>
                 have H := HA.out
                 clear HA
                 simp only [seneschalref01_TakeInt.j3] at H
                 by_cases c20 : x44_17 = true
                 ·subst c20
                  have H1 : (some (0, (⟨#[]⟩ : ByteArray), false)) = some (r1, r2, r3) := by rw [if_pos rfl] at H; exact H
                  clear H
                  have H := H1
                  clear H1
                  simp only [Option.some.injEq, Prod.mk.injEq] at H
                  obtain ⟨rfl, rfl, rfl⟩ := H
                  go_wp2
                  repeat (go_quiet (fail); try go_wp2)
                  go_ret3
                  exact ⟨by first | rfl | (simp; done) | (simp only [← hji11, ← hji13] <;> (first | rfl | simp)) | (simp [*]; done), by repeat (first | exact Drawn0.refl _ | apply Drawn0.step)⟩
                 ·replace c20 := Bool.eq_false_iff.mpr c20
                  subst c20
                  have H1 : (if (Int.tmod (IntKind.u64.wrap (x5_1 + (ji13))) 2) = 1 then (if 0 ≤ (wrap64 (x6_1 + 1)) then (if (wrap64 (x6_1 + 1)) ≤ (a0.size : Int) then (some (wrap64 ((wrap64 (-(wrap64 (IntKind.u64.wrap (Int.tdiv (IntKind.u64.wrap (x5_1 + (ji13))) 2))))) - 1), a0.extract ((wrap64 (x6_1 + 1)) : Int).toNat a0.size, true)) else (none)) else (none)) else (if 0 ≤ (wrap64 (x6_1 + 1)) then (if (wrap64 (x6_1 + 1)) ≤ (a0.size : Int) then (some (wrap64 (IntKind.u64.wrap (Int.tdiv (IntKind.u64.wrap (x5_1 + (ji13))) 2)), a0.extract ((wrap64 (x6_1 + 1)) : Int).toNat a0.size, true)) else (none)) else (none))) = some (r1, r2, r3) := by rw [if_neg (show ¬ (false = true) by decide)] at H; exact H
                  clear H
                  have H := H1
                  clear H1
                  by_cases c21 : (Int.tmod (IntKind.u64.wrap (x5_1 + (ji13))) 2) = 1
                  ·rw [if_pos c21] at H
                   have c21b0 : ((Int.tmod (IntKind.u64.wrap (x5_1 + (ji13))) 2) == 1) = true := beq_iff_eq.mpr c21
                   have c21b1 : ((Int.tmod (IntKind.u64.wrap (x5_1 + (ji13))) 2) != 1) = false := bne_eq_false_iff_eq.mpr c21
                   clear c21
                   obtain ⟨ji22, hji22⟩ : ∃ j_ : Int, (wrap64 (x6_1 + 1)) = j_ := ⟨_, rfl⟩
                   replace H : (if 0 ≤ (ji22) then (if (ji22) ≤ (a0.size : Int) then (some (wrap64 ((wrap64 (-(wrap64 (IntKind.u64.wrap (Int.tdiv (IntKind.u64.wrap (x5_1 + (ji13))) 2))))) - 1), a0.extract ((ji22) : Int).toNat a0.size, true)) else (none)) else (none)) = some (r1, r2, r3) := by first | (rw [hji22] at H; exact H) | (simp only [hji22] at H ⊢; exact H)
                   have hji22w : (IntKind.i64.wrap (x6_1 + 1)) = ji22 := (i64_w _).trans hji22
                   by_cases c23 : 0 ≤ (ji22)
                   ·rw [if_pos c23] at H
                    have c23b0 := eq_true c23
                    have c23b1 : decide (0 ≤ (ji22)) = true := decide_eq_true c23
                    clear c23
                    by_cases c24 : (ji22) ≤ (a0.size : Int)
                    ·rw [if_pos c24] at H
                     have c24b0 := eq_true c24
                     have c24b1 : decide ((ji22) ≤ (a0.size : Int)) = true := decide_eq_true c24
                     clear c24
                     simp only [Option.some.injEq, Prod.mk.injEq] at H
                     obtain ⟨rfl, rfl, rfl⟩ := H
                     go_wp2
                     repeat (go_quiet (fail); try go_wp2)
                     go_ret3
                     exact ⟨by first | rfl | (simp; done) | (simp only [← hji11, ← hji13, ← hji22] <;> (first | rfl | simp)) | (simp [*]; done), by repeat (first | exact Drawn0.refl _ | apply Drawn0.step)⟩
                    ·rw [if_neg c24] at H
                     exact absurd H (by simp)
                   ·rw [if_neg c23] at H
                    exact absurd H (by simp)
                  ·rw [if_neg c21] at H
                   have c21b0 : ((Int.tmod (IntKind.u64.wrap (x5_1 + (ji13))) 2) == 1) = false := beq_eq_false_iff_ne.mpr c21
                   have c21b1 : ((Int.tmod (IntKind.u64.wrap (x5_1 + (ji13))) 2) != 1) = true := bne_iff_ne.mpr c21
                   obtain ⟨ji25, hji25⟩ : ∃ j_ : Int, (wrap64 (x6_1 + 1)) = j_ := ⟨_, rfl⟩
                   replace H : (if 0 ≤ (ji25) then (if (ji25) ≤ (a0.size : Int) then (some (wrap64 (IntKind.u64.wrap (Int.tdiv (IntKind.u64.wrap (x5_1 + (ji13))) 2)), a0.extract ((ji25) : Int).toNat a0.size, true)) else (none)) else (none)) = some (r1, r2, r3) := by first | (rw [hji25] at H; exact H) | (simp only [hji25] at H ⊢; exact H)
                   have hji25w : (IntKind.i64.wrap (x6_1 + 1)) = ji25 := (i64_w _).trans hji25
                   by_cases c26 : 0 ≤ (ji25)
                   ·rw [if_pos c26] at H
                    have c26b0 := eq_true c26
                    have c26b1 : decide (0 ≤ (ji25)) = true := decide_eq_true c26
                    clear c26
                    by_cases c27 : (ji25) ≤ (a0.size : Int)
                    ·rw [if_pos c27] at H
                     have c27b0 := eq_true c27
                     have c27b1 : decide ((ji25) ≤ (a0.size : Int)) = true := decide_eq_true c27
                     clear c27
                     simp only [Option.some.injEq, Prod.mk.injEq] at H
                     obtain ⟨rfl, rfl, rfl⟩ := H
                     go_wp2
                     repeat (go_quiet (fail); try go_wp2)
                     go_ret3
                     exact ⟨by first | rfl | (simp; done) | (simp only [← hji11, ← hji13, ← hji25] <;> (first | rfl | simp)) | (simp [*]; done), by repeat (first | exact Drawn0.refl _ | apply Drawn0.step)⟩
                    ·rw [if_neg c27] at H
                     exact absurd H (by simp)
                   ·rw [if_neg c26] at H
                    exact absurd H (by simp)
             ·rw [if_neg c15] at H
              exact absurd H (by simp)
            ·rw [if_neg c14] at H
             exact absurd H (by simp)
           ·rw [if_neg c12] at H
            exact absurd H (by simp)
       ·rw [if_neg c6] at H
        exact absurd H (by simp)
      ·rw [if_neg c5] at H
       exact absurd H (by simp)
     ·replace c4 := Bool.eq_false_iff.mpr c4
      subst c4
      have H1 : (some (0, (⟨#[]⟩ : ByteArray), false)) = some (r1, r2, r3) := by rw [if_neg (show ¬ (false = true) by decide)] at H; exact H
      clear H
      have H := H1
      clear H1
      simp only [Option.some.injEq, Prod.mk.injEq] at H
      obtain ⟨rfl, rfl, rfl⟩ := H
      go_wp2
      repeat (go_quiet (fail); try go_wp2)
      go_ret3
      exact ⟨by first | rfl | (simp; done) | (simp [*]; done), by repeat (first | exact Drawn0.refl _ | apply Drawn0.step)⟩
end Go.Proofs.Ytfjmnaobfbmllaa.M
namespace Go.Proofs.Ytfjmnaobfbmllaa.M
open Go.RowKit Go.Proofs.YtfjmnaobfbmllaaW.PrintWords Go.Proofs.YtfjmnaobfbmllaaW.PrintLast Go.Proofs.YtfjmnaobfbmllaaW.PrintMore
set_option linter.unusedVariables false
set_option linter.unusedSimpArgs false
theorem tdivn (a b : Nat) : Int.tdiv (a : Int) (b : Int) = ((a / b : Nat) : Int) := by rw [Int.tdiv_eq_ediv_of_nonneg (by omega)]; rfl
theorem tmodn (a b : Nat) : Int.tmod (a : Int) (b : Int) = ((a % b : Nat) : Int) := by rw [Int.tmod_eq_emod_of_nonneg (by omega)]; rfl
theorem ref_unfold1 (u : Nat) (hu : u < 18446744073709551616) (h : u % 2 = 1) : wrap64 ((wrap64 (-(wrap64 (IntKind.u64.wrap (Int.tdiv (u : Int) 2))))) - 1) = unfoldI u := by
  have e1 : Int.tdiv (u : Int) 2 = ((u / 2 : Nat) : Int) := tdivn u 2
  rw [e1, wu64 _ (by omega) (by omega), w64 ((u / 2 : Nat) : Int) (by omega) (by omega), w64 (-((u / 2 : Nat) : Int)) (by omega) (by omega), w64 _ (by omega) (by omega)]
  unfold unfoldI
  rw [if_pos h]
theorem ref_unfold0 (u : Nat) (hu : u < 18446744073709551616) (h : ¬ u % 2 = 1) : wrap64 (IntKind.u64.wrap (Int.tdiv (u : Int) 2)) = unfoldI u := by
  have e1 : Int.tdiv (u : Int) 2 = ((u / 2 : Nat) : Int) := tdivn u 2
  rw [e1, wu64 _ (by omega) (by omega), w64 ((u / 2 : Nat) : Int) (by omega) (by omega)]
  unfold unfoldI
  rw [if_neg h]
theorem ref_j3 (k : Nat) (s : ByteArray) (u i : Nat) (hi : i < s.size) (h9 : i ≤ 9) (hu : u < 18446744073709551616) :
    seneschalref01_TakeInt.j3 (k + 1) s u i false = some (unfoldI u, strOfNums ((bytesOf s).drop (i + 1)), true) := by
  have hw : wrap64 ((i : Int) + 1) = ((i + 1 : Nat) : Int) := by rw [w64 _ (by omega) (by omega)]; omega
  have c1 : (0 : Int) ≤ ((i + 1 : Nat) : Int) := by omega
  have c2 : ((i + 1 : Nat) : Int) ≤ (s.size : Int) := by omega
  have e2 : Int.tmod (u : Int) 2 = ((u % 2 : Nat) : Int) := tmodn u 2
  simp only [seneschalref01_TakeInt.j3]
  rw [if_neg Bool.false_ne_true, e2, hw, if_pos c1, if_pos c2, if_pos c1, if_pos c2, Int.toNat_natCast, extract_drop]
  by_cases h : u % 2 = 1
  · rw [if_pos (show ((u % 2 : Nat) : Int) = 1 by omega), ref_unfold1 u hu h]
  · rw [if_neg (show ¬ ((u % 2 : Nat) : Int) = 1 by omega), ref_unfold0 u hu h]
theorem ref_bad3 (k : Nat) (s : ByteArray) (u i : Int) : seneschalref01_TakeInt.j3 (k + 1) s u i true = some (0, ⟨#[]⟩, false) := by
  simp only [seneschalref01_TakeInt.j3]; exact if_pos trivial
theorem ref_bad2 (k : Nat) (s : ByteArray) (u i g : Int) : seneschalref01_TakeInt.j2 (k + 1) s u i g true = some (0, ⟨#[]⟩, false) := by
  simp only [seneschalref01_TakeInt.j2]; exact if_pos trivial
theorem ref_bad1 (k : Nat) (s : ByteArray) (u i : Int) : seneschalref01_TakeInt.j1 (k + 1) s u i false = some (0, ⟨#[]⟩, false) := by
  simp only [seneschalref01_TakeInt.j1]; exact if_neg Bool.false_ne_true
theorem ref_add (u m i : Nat) (hi : i ≤ 9) (hm : u + m * 2 ^ (7 * i) < 18446744073709551616) :
    IntKind.u64.wrap ((u : Int) + (shl .u64 (m : Int) ((7 * i : Nat) : Int))) = ((u + m * 2 ^ (7 * i) : Nat) : Int) := by
  have e := wu64 ((m * 2 ^ (7 * i) : Nat) : Int) (by omega) (by omega)
  have e2 := wu64 ((u : Int) + ((m * 2 ^ (7 * i) : Nat) : Int)) (by omega) (by omega)
  rw [shl_nat m i hi, e, e2]
  omega
theorem reftake_loop (s : ByteArray) (d : Nat) : ∀ (k i u : Nat), i + d = 10 → 4 * d + 2 < k → u < 2 ^ (7 * i) →
    seneschalref01_TakeInt.l0 k s u i = some (takeX (takeV i u ((bytesOf s).drop i))) := by
  have hX : takeX none = (0, ⟨#[]⟩, false) := rfl
  induction d with
  | zero =>
    intro k i u hi hk hu
    obtain ⟨k, rfl⟩ : ∃ m, k = m + 2 := ⟨k - 2, by omega⟩
    obtain rfl : i = 10 := by omega
    have hR : takeV 10 u ((bytesOf s).drop 10) = none := by
      cases (bytesOf s).drop 10 with
      | nil => rfl
      | cons b bs => simp only [takeV]; rw [if_pos (by decide)]
    simp only [seneschalref01_TakeInt.l0]
    rw [hR, hX, decide_eq_false (show ¬ ((10 : Nat) : Int) < 10 by omega), ref_bad1]
    split <;> rfl
  | succ d ih =>
    intro k i u hi hk hu
    obtain ⟨k, rfl⟩ : ∃ m, k = m + 4 := ⟨k - 4, by omega⟩
    have h9 : i ≤ 9 := by omega
    have g1 : i + 1 + d = 10 := by omega
    have g2 : 4 * d + 2 < k + 1 := by omega
    simp only [seneschalref01_TakeInt.l0]
    by_cases hlt : i < s.size
    · have c2 : (0 : Int) ≤ (i : Int) := by omega
      have c3 : (i : Int) < (s.size : Int) := by omega
      have e7 : wrap64 (7 * (i : Int)) = ((7 * i : Nat) : Int) := by rw [w64 _ (by omega) (by omega)]; omega
      have c4 : (0 : Int) ≤ ((7 * i : Nat) : Int) := by omega
      obtain ⟨b, hb⟩ := Int.eq_ofNat_of_zero_le (bt_range s i).1
      have hb2 := (bt_range s i).2
      have hpos := Nat.two_pow_pos (7 * i)
      have eg : Int.tmod (b : Int) 128 = ((b % 128 : Nat) : Int) := tmodn b 128
      rw [if_pos c3, decide_eq_true (show (i : Int) < 10 by omega)]
      simp only [seneschalref01_TakeInt.j1]
      rw [if_pos trivial, if_pos c2, if_pos c3, drop_step s i hlt, hb, eg, wu64 ((b % 128 : Nat) : Int) (by omega) (by omega)]
      rw [hb] at hb2
      by_cases h91 : i = 9 ∧ 1 < b % 128
      · have hR : takeV i u ((b : Int) :: (bytesOf s).drop (i + 1)) = none := by
          simp only [takeV]
          rw [if_neg (by omega)]
          by_cases hb1 : (b : Int) < 128
          · rw [if_pos hb1, if_pos (Or.inl ⟨h91.1, by omega⟩)]
          · rw [if_neg hb1, if_pos h91.1]
        rw [if_pos (show (i : Int) = 9 by omega), decide_eq_true (show ((b % 128 : Nat) : Int) > 1 by omega), ref_bad2, hR, hX]
      · have hL : (if (i : Int) = 9 then seneschalref01_TakeInt.j2 (k + 2) s u i ((b % 128 : Nat) : Int) (decide (((b % 128 : Nat) : Int) > 1)) else seneschalref01_TakeInt.j2 (k + 2) s u i ((b % 128 : Nat) : Int) false) = seneschalref01_TakeInt.j2 (k + 2) s u i ((b % 128 : Nat) : Int) false := by
          by_cases h9' : (i : Int) = 9
          · rw [if_pos h9', decide_eq_false (show ¬ ((b % 128 : Nat) : Int) > 1 by omega)]
          · rw [if_neg h9']
        have hu3 : u + b % 128 * 2 ^ (7 * i) < 18446744073709551616 := by
          by_cases h9' : i = 9
          · have hb1 : b % 128 ≤ 1 := by omega
            have := Nat.mul_le_mul_right (2 ^ (7 * i)) hb1
            have e : 2 ^ (7 * i) = 9223372036854775808 := by subst h9'; decide
            omega
          · have h1 := pow_le_56 i (by omega)
            have := Nat.mul_le_mul (show b % 128 ≤ 127 by omega) h1
            omega
        have hu2 : u + b % 128 * 2 ^ (7 * i) < 2 ^ (7 * (i + 1)) := by
          rw [pow7]
          have := Nat.mul_le_mul_right (2 ^ (7 * i)) (show b % 128 ≤ 127 by omega)
          omega
        have hw : wrap64 ((i : Int) + 1) = ((i + 1 : Nat) : Int) := by rw [w64 _ (by omega) (by omega)]; omega
        rw [hL]
        simp only [seneschalref01_TakeInt.j2]
        rw [if_neg Bool.false_ne_true, e7, if_pos c4, if_pos c2, if_pos c3, hb, ref_add u (b % 128) i h9 hu3, hw]
        clear hL hb e7 hw
        by_cases hb1 : (b : Int) ≥ 128
        · rw [if_pos hb1]
          by_cases h9' : i = 9
          · have hR : takeV i u ((b : Int) :: (bytesOf s).drop (i + 1)) = none := by
              simp only [takeV]
              rw [if_neg (by omega), if_neg (by omega), if_pos h9']
            have hR2 : takeV (i + 1) (u + b % 128 * 2 ^ (7 * i)) ((bytesOf s).drop (i + 1)) = none := by
              cases (bytesOf s).drop (i + 1) with
              | nil => exact take_nil _ _
              | cons b bs => simp only [takeV]; rw [if_pos (by omega)]
            have hih2 := ih (k + 1) (i + 1) (u + b % 128 * 2 ^ (7 * i)) g1 g2 hu2
            rw [hR2] at hih2
            rw [hR]; exact hih2
          · have hR : takeV i u ((b : Int) :: (bytesOf s).drop (i + 1)) = takeV (i + 1) (u + b % 128 * 2 ^ (7 * i)) ((bytesOf s).drop (i + 1)) := by
              simp only [takeV]
              rw [if_neg (by omega), if_neg (by omega), if_neg h9', show ((b : Int) - 128).toNat = b % 128 by omega]
            rw [hR]
            exact ih (k + 1) (i + 1) _ g1 g2 hu2
        · rw [if_neg hb1]
          by_cases hz : b % 128 = 0
          · rw [if_pos (show ((b % 128 : Nat) : Int) = 0 by omega)]
            by_cases h0 : 0 < i
            · have hR : takeV i u ((b : Int) :: (bytesOf s).drop (i + 1)) = none := by
                simp only [takeV]
                rw [if_neg (by omega), if_pos (by omega), if_pos (Or.inr ⟨h0, by omega⟩)]
              rw [decide_eq_true (show (i : Int) > 0 by omega), ref_bad3, hR, hX]
            · have hR : takeV i u ((b : Int) :: (bytesOf s).drop (i + 1)) = some (u + b % 128 * 2 ^ (7 * i), (bytesOf s).drop (i + 1)) := by
                simp only [takeV]
                rw [if_neg (by omega), if_pos (by omega), if_neg (by omega), Int.toNat_natCast, show b % 128 = b by omega]
              rw [decide_eq_false (show ¬ (i : Int) > 0 by omega), ref_j3 k s _ i hlt h9 hu3, hR]; rfl
          · have hR : takeV i u ((b : Int) :: (bytesOf s).drop (i + 1)) = some (u + b % 128 * 2 ^ (7 * i), (bytesOf s).drop (i + 1)) := by
              simp only [takeV]
              rw [if_neg (by omega), if_pos (by omega), if_neg (by omega), Int.toNat_natCast, show b % 128 = b by omega]
            rw [if_neg (show ¬ ((b % 128 : Nat) : Int) = 0 by omega), ref_j3 k s _ i hlt h9 hu3, hR]; rfl
    · have hR : takeV i u ((bytesOf s).drop i) = none := by rw [List.drop_of_length_le (by rw [bytesOf_length]; omega), take_nil]
      rw [if_neg (show ¬ (i : Int) < (s.size : Int) by omega), ref_bad1, hR, hX]
theorem reftake_pure (s : ByteArray) (k : Nat) (hk : 50 < k) : seneschalref01_TakeInt.f k s = some (takeR s) := by
  unfold seneschalref01_TakeInt.f
  have h0 : 0 < 2 ^ (7 * 0) := Nat.two_pow_pos _
  have := reftake_loop s 10 k 0 0 rfl (by omega) h0
  rw [Int.natCast_zero, List.drop_zero] at this
  rw [takeR_eq]
  exact this
end Go.Proofs.Ytfjmnaobfbmllaa.M
namespace Go.Proofs.Ytfjmnaobfbmllaa.M
open Go.RowKit Go.Proofs.YtfjmnaobfbmllaaW.PrintWords Go.Proofs.YtfjmnaobfbmllaaW.PrintLast Go.Proofs.YtfjmnaobfbmllaaW.PrintMore
set_option linter.unusedVariables false
set_option linter.unusedSimpArgs false
def refTake.f (s : ByteArray) : Option (Int × ByteArray × Bool) := some (takeR s)
theorem refTake.calls (s : ByteArray) (r1 : Int) (r2 : ByteArray) (r3 : Bool) (w : World) (h : refTake.f s = some (r1, r2, r3)) :
    Calls Try.prog 109 #[.string s] w fun e w' => e = .returned (.tuple #[.int .i64 r1, .string r2, .bool r3]) ∧ Drawn0 w w' :=
  seneschalref01_TakeInt.calls 51 s r1 r2 r3 w (by rw [reftake_pure s 51 (by omega)]; exact h)
end Go.Proofs.Ytfjmnaobfbmllaa.M
namespace Go.Proofs.Ytfjmnaobfbmllaa.M
open Go.RowKit Go.Proofs.YtfjmnaobfbmllaaW.PrintWords Go.Proofs.YtfjmnaobfbmllaaW.PrintLast Go.Proofs.YtfjmnaobfbmllaaW.PrintMore
attribute [local go_sem] max2_int min2_int max_two min_two max_three min_three max_four min_four   -- for this text's walks alone
set_option linter.unusedVariables false
set_option linter.unusedSimpArgs false
def seneschalref01_TakeStr.f (a0 : ByteArray) (a1 : Int) : Option (ByteArray × ByteArray × Bool) := (refTake.f a0).bind fun bt101 => (if bt101.2.2 = true then (if bt101.1 < 0 then (some ((⟨#[]⟩ : ByteArray), (⟨#[]⟩ : ByteArray), false)) else (if bt101.1 > a1 then (some ((⟨#[]⟩ : ByteArray), (⟨#[]⟩ : ByteArray), false)) else (if bt101.1 > (bt101.2.1.size : Int) then (some ((⟨#[]⟩ : ByteArray), (⟨#[]⟩ : ByteArray), false)) else (if 0 ≤ bt101.1 then (if bt101.1 ≤ (bt101.2.1.size : Int) then (some (bt101.2.1.extract 0 (bt101.1 : Int).toNat, bt101.2.1.extract (bt101.1 : Int).toNat bt101.2.1.size, true)) else (none)) else (none))))) else (some ((⟨#[]⟩ : ByteArray), (⟨#[]⟩ : ByteArray), false)))
set_option maxHeartbeats 8000000 in
set_option maxRecDepth 100000 in
theorem seneschalref01_TakeStr.calls (a0 : ByteArray) (a1 : Int) (r1 : ByteArray) (r2 : ByteArray) (r3 : Bool) (w : World) (h : seneschalref01_TakeStr.f a0 a1 = some (r1, r2, r3)) :
  Calls Try.prog 127 #[.string a0, .int .i64 a1] w fun e w' => e = .returned (.tuple #[.string r1, .string r2, .bool r3]) ∧ Drawn0 w w' := by
 have H : ((refTake.f a0).bind fun bt101 => (if bt101.2.2 = true then (if bt101.1 < 0 then (some ((⟨#[]⟩ : ByteArray), (⟨#[]⟩ : ByteArray), false)) else (if bt101.1 > a1 then (some ((⟨#[]⟩ : ByteArray), (⟨#[]⟩ : ByteArray), false)) else (if bt101.1 > (bt101.2.1.size : Int) then (some ((⟨#[]⟩ : ByteArray), (⟨#[]⟩ : ByteArray), false)) else (if 0 ≤ bt101.1 then (if bt101.1 ≤ (bt101.2.1.size : Int) then (some (bt101.2.1.extract 0 (bt101.1 : Int).toNat, bt101.2.1.extract (bt101.1 : Int).toNat bt101.2.1.size, true)) else (none)) else (none))))) else (some ((⟨#[]⟩ : ByteArray), (⟨#[]⟩ : ByteArray), false)))) = some (r1, r2, r3) := h
 clear h
 replace H := Option.bind_eq_some_iff.mp H
 obtain ⟨⟨t101, t102, t103⟩, A30, H⟩ := H
 replace H : (if t103 = true then (if t101 < 0 then (some ((⟨#[]⟩ : ByteArray), (⟨#[]⟩ : ByteArray), false)) else (if t101 > a1 then (some ((⟨#[]⟩ : ByteArray), (⟨#[]⟩ : ByteArray), false)) else (if t101 > (t102.size : Int) then (some ((⟨#[]⟩ : ByteArray), (⟨#[]⟩ : ByteArray), false)) else (if 0 ≤ t101 then (if t101 ≤ (t102.size : Int) then (some (t102.extract 0 (t101 : Int).toNat, t102.extract (t101 : Int).toNat t102.size, true)) else (none)) else (none))))) else (some ((⟨#[]⟩ : ByteArray), (⟨#[]⟩ : ByteArray), false))) = some (r1, r2, r3) := H
 have A3 := Aside0.mk A30
 clear A30
 by_cases c4 : t103 = true
 ·subst c4
  have H1 : (if t101 < 0 then (some ((⟨#[]⟩ : ByteArray), (⟨#[]⟩ : ByteArray), false)) else (if t101 > a1 then (some ((⟨#[]⟩ : ByteArray), (⟨#[]⟩ : ByteArray), false)) else (if t101 > (t102.size : Int) then (some ((⟨#[]⟩ : ByteArray), (⟨#[]⟩ : ByteArray), false)) else (if 0 ≤ t101 then (if t101 ≤ (t102.size : Int) then (some (t102.extract 0 (t101 : Int).toNat, t102.extract (t101 : Int).toNat t102.size, true)) else (none)) else (none))))) = some (r1, r2, r3) := by rw [if_pos rfl] at H; exact H
  clear H
  have H := H1
  clear H1
  by_cases c5 : t101 < 0
  ·rw [if_pos c5] at H
   have c5b0 : decide (t101 < 0) = true := decide_eq_true c5
   clear c5
   simp only [Option.some.injEq, Prod.mk.injEq] at H
   obtain ⟨rfl, rfl, rfl⟩ := H
   go_enter Try.func127, Try.ntmps127
   go_wp2_with (first | (go_at_call 109; (with_reducible refine (refTake.calls a0 t101 t102 true _ A3.out).mono ?_); rintro e w' ⟨rfl, ⟨nd, rfl⟩⟩; (try first | exact ⟨rfl, _, World.drewN_drewN _ _ _⟩ | exact ⟨rfl, _, Eq.trans (World.drewN_drewN _ _ _) (congrArg (World.drewN _) (Nat.add_assoc _ _ _))⟩)))
   repeat (go_quiet (first | (go_at_call 109; (with_reducible refine (refTake.calls a0 t101 t102 true _ A3.out).mono ?_); rintro e w' ⟨rfl, ⟨nd, rfl⟩⟩; (try first | exact ⟨rfl, _, World.drewN_drewN _ _ _⟩ | exact ⟨rfl, _, Eq.trans (World.drewN_drewN _ _ _) (congrArg (World.drewN _) (Nat.add_assoc _ _ _))⟩))); try go_wp2_with (first | (go_at_call 109; (with_reducible refine (refTake.calls a0 t101 t102 true _ A3.out).mono ?_); rintro e w' ⟨rfl, ⟨nd, rfl⟩⟩; (try first | exact ⟨rfl, _, World.drewN_drewN _ _ _⟩ | exact ⟨rfl, _, Eq.trans (World.drewN_drewN _ _ _) (congrArg (World.drewN _) (Nat.add_assoc _ _ _))⟩))))
   go_ret3
   exact ⟨by first | rfl | (simp; done) | (simp [*]; done), by repeat (first | exact Drawn0.refl _ | apply Drawn0.step)⟩
  ·rw [if_neg c5] at H
   have c5b0 : decide (t101 < 0) = false := decide_eq_false c5
   clear c5
   by_cases c6 : t101 > a1
   ·rw [if_pos c6] at H
    have c6b0 : decide (a1 < t101) = true := decide_eq_true c6
    clear c6
    simp only [Option.some.injEq, Prod.mk.injEq] at H
    obtain ⟨rfl, rfl, rfl⟩ := H
    go_enter Try.func127, Try.ntmps127
    go_wp2_with (first | (go_at_call 109; (with_reducible refine (refTake.calls a0 t101 t102 true _ A3.out).mono ?_); rintro e w' ⟨rfl, ⟨nd, rfl⟩⟩; (try first | exact ⟨rfl, _, World.drewN_drewN _ _ _⟩ | exact ⟨rfl, _, Eq.trans (World.drewN_drewN _ _ _) (congrArg (World.drewN _) (Nat.add_assoc _ _ _))⟩)))
    repeat (go_quiet (first | (go_at_call 109; (with_reducible refine (refTake.calls a0 t101 t102 true _ A3.out).mono ?_); rintro e w' ⟨rfl, ⟨nd, rfl⟩⟩; (try first | exact ⟨rfl, _, World.drewN_drewN _ _ _⟩ | exact ⟨rfl, _, Eq.trans (World.drewN_drewN _ _ _) (congrArg (World.drewN _) (Nat.add_assoc _ _ _))⟩))); try go_wp2_with (first | (go_at_call 109; (with_reducible refine (refTake.calls a0 t101 t102 true _ A3.out).mono ?_); rintro e w' ⟨rfl, ⟨nd, rfl⟩⟩; (try first | exact ⟨rfl, _, World.drewN_drewN _ _ _⟩ | exact ⟨rfl, _, Eq.trans (World.drewN_drewN _ _ _) (congrArg (World.drewN _) (Nat.add_assoc _ _ _))⟩))))
    go_ret3
    exact ⟨by first | rfl | (simp; done) | (simp [*]; done), by repeat (first | exact Drawn0.refl _ | apply Drawn0.step)⟩
   ·rw [if_neg c6] at H
    have c6b0 : decide (a1 < t101) = false := decide_eq_false c6
    clear c6
    by_cases c7 : t101 > (t102.size : Int)
    ·rw [if_pos c7] at H
     have c7b0 : decide ((t102.size : Int) < t101) = true := decide_eq_true c7
     clear c7
     simp only [Option.some.injEq, Prod.mk.injEq] at H
     obtain ⟨rfl, rfl, rfl⟩ := H
     go_enter Try.func127, Try.ntmps127
     go_wp2_with (first | (go_at_call 109; (with_reducible refine (refTake.calls a0 t101 t102 true _ A3.out).mono ?_); rintro e w' ⟨rfl, ⟨nd, rfl⟩⟩; (try first | exact ⟨rfl, _, World.drewN_drewN _ _ _⟩ | exact ⟨rfl, _, Eq.trans (World.drewN_drewN _ _ _) (congrArg (World.drewN _) (Nat.add_assoc _ _ _))⟩)))
     repeat (go_quiet (first | (go_at_call 109; (with_reducible refine (refTake.calls a0 t101 t102 true _ A3.out).mono ?_); rintro e w' ⟨rfl, ⟨nd, rfl⟩⟩; (try first | exact ⟨rfl, _, World.drewN_drewN _ _ _⟩ | exact ⟨rfl, _, Eq.trans (World.drewN_drewN _ _ _) (congrArg (World.drewN _) (Nat.add_assoc _ _ _))⟩))); try go_wp2_with (first | (go_at_call 109; (with_reducible refine (refTake.calls a0 t101 t102 true _ A3.out).mono ?_); rintro e w' ⟨rfl, ⟨nd, rfl⟩⟩; (try first | exact ⟨rfl, _, World.drewN_drewN _ _ _⟩ | exact ⟨rfl, _, Eq.trans (World.drewN_drewN _ _ _) (congrArg (World.drewN _) (Nat.add_assoc _ _ _))⟩))))
     go_ret3
     exact ⟨by first | rfl | (simp; done) | (simp [*]; done), by repeat (first | exact Drawn0.refl _ | apply Drawn0.step)⟩
    ·rw [if_neg c7] at H
     have c7b0 : decide ((t102.size : Int) < t101) = false := decide_eq_false c7
     clear c7
     by_cases c8 : 0 ≤ t101
     ·rw [if_pos c8] at H
      have c8b0 := eq_true c8
      have c8b1 : decide (0 ≤ t101) = true := decide_eq_true c8
      clear c8
      by_cases c9 : t101 ≤ (t102.size : Int)
      ·rw [if_pos c9] at H
       have c9b0 := eq_true c9
       have c9b1 : decide (t101 ≤ (t102.size : Int)) = true := decide_eq_true c9
       clear c9
       have c10b0 := eq_true (of_decide_eq_true (by first | (with_reducible assumption) | assumption) : 0 ≤ t101)
       have c11b0 := eq_true (of_decide_eq_true (by first | (with_reducible assumption) | assumption) : t101 ≤ (t102.size : Int))
       simp only [Option.some.injEq, Prod.mk.injEq] at H
       obtain ⟨rfl, rfl, rfl⟩ := H
       go_enter Try.func127, Try.ntmps127
       go_wp2_with (first | (go_at_call 109; (with_reducible refine (refTake.calls a0 t101 t102 true _ A3.out).mono ?_); rintro e w' ⟨rfl, ⟨nd, rfl⟩⟩; (try first | exact ⟨rfl, _, World.drewN_drewN _ _ _⟩ | exact ⟨rfl, _, Eq.trans (World.drewN_drewN _ _ _) (congrArg (World.drewN _) (Nat.add_assoc _ _ _))⟩)))
       repeat (go_quiet (first | (go_at_call 109; (with_reducible refine (refTake.calls a0 t101 t102 true _ A3.out).mono ?_); rintro e w' ⟨rfl, ⟨nd, rfl⟩⟩; (try first | exact ⟨rfl, _, World.drewN_drewN _ _ _⟩ | exact ⟨rfl, _, Eq.trans (World.drewN_drewN _ _ _) (congrArg (World.drewN _) (Nat.add_assoc _ _ _))⟩))); try go_wp2_with (first | (go_at_call 109; (with_reducible refine (refTake.calls a0 t101 t102 true _ A3.out).mono ?_); rintro e w' ⟨rfl, ⟨nd, rfl⟩⟩; (try first | exact ⟨rfl, _, World.drewN_drewN _ _ _⟩ | exact ⟨rfl, _, Eq.trans (World.drewN_drewN _ _ _) (congrArg (World.drewN _) (Nat.add_assoc _ _ _))⟩))))
       go_ret3
       exact ⟨by first | rfl | (simp; done) | (simp [*]; done), by repeat (first | exact Drawn0.refl _ | apply Drawn0.step)⟩
      ·rw [if_neg c9] at H
       exact absurd H (by simp)
     ·rw [if_neg c8] at H
      exact absurd H (by simp)
 ·replace c4 := Bool.eq_false_iff.mpr c4
  subst c4
  have H1 : (some ((⟨#[]⟩ : ByteArray), (⟨#[]⟩ : ByteArray), false)) = some (r1, r2, r3) := by rw [if_neg (show ¬ (false = true) by decide)] at H; exact H
  clear H
  have H := H1
  clear H1
  simp only [Option.some.injEq, Prod.mk.injEq] at H
  obtain ⟨rfl, rfl, rfl⟩ := H
  go_enter Try.func127, Try.ntmps127
  go_wp2_with (first | (go_at_call 109; (with_reducible refine (refTake.calls a0 t101 t102 false _ A3.out).mono ?_); rintro e w' ⟨rfl, ⟨nd, rfl⟩⟩; (try first | exact ⟨rfl, _, World.drewN_drewN _ _ _⟩ | exact ⟨rfl, _, Eq.trans (World.drewN_drewN _ _ _) (congrArg (World.drewN _) (Nat.add_assoc _ _ _))⟩)))
  repeat (go_quiet (first | (go_at_call 109; (with_reducible refine (refTake.calls a0 t101 t102 false _ A3.out).mono ?_); rintro e w' ⟨rfl, ⟨nd, rfl⟩⟩; (try first | exact ⟨rfl, _, World.drewN_drewN _ _ _⟩ | exact ⟨rfl, _, Eq.trans (World.drewN_drewN _ _ _) (congrArg (World.drewN _) (Nat.add_assoc _ _ _))⟩))); try go_wp2_with (first | (go_at_call 109; (with_reducible refine (refTake.calls a0 t101 t102 false _ A3.out).mono ?_); rintro e w' ⟨rfl, ⟨nd, rfl⟩⟩; (try first | exact ⟨rfl, _, World.drewN_drewN _ _ _⟩ | exact ⟨rfl, _, Eq.trans (World.drewN_drewN _ _ _) (congrArg (World.drewN _) (Nat.add_assoc _ _ _))⟩))))
  go_ret3
  exact ⟨by first | rfl | (simp; done) | (simp [*]; done), by repeat (first | exact Drawn0.refl _ | apply Drawn0.step)⟩
end Go.Proofs.Ytfjmnaobfbmllaa.M
namespace Go.Proofs.Ytfjmnaobfbmllaa.M
open Go.RowKit Go.Proofs.YtfjmnaobfbmllaaW.PrintWords Go.Proofs.YtfjmnaobfbmllaaW.PrintLast Go.Proofs.YtfjmnaobfbmllaaW.PrintMore
set_option linter.unusedVariables false
set_option linter.unusedSimpArgs false
def refTakeStr.f (s : ByteArray) (m : Int) : Option (ByteArray × ByteArray × Bool) := some (textR m (takeR s))
theorem reftext_pure (s : ByteArray) (m : Int) : seneschalref01_TakeStr.f s m = some (textR m (takeR s)) := by
  unfold seneschalref01_TakeStr.f refTake.f
  rw [Option.bind_some]
  generalize takeR s = t
  obtain ⟨n, rest, ok⟩ := t
  unfold textR
  simp only
  cases ok with
  | false => rw [if_neg Bool.false_ne_true, if_neg (by simp)]
  | true =>
    rw [if_pos rfl]
    by_cases h0 : n < 0
    · rw [if_pos h0, if_neg (by omega)]
    · rw [if_neg h0]
      by_cases h1 : n > m
      · rw [if_pos h1, if_neg (by omega)]
      · rw [if_neg h1]
        by_cases h2 : n > (rest.size : Int)
        · rw [if_pos h2, if_neg (by omega)]
        · rw [if_neg h2, if_pos (show 0 ≤ n by omega), if_pos (show n ≤ (rest.size : Int) by omega), if_pos ⟨rfl, by omega, by omega, by omega⟩]
theorem refTakeStr.calls (s : ByteArray) (m : Int) (r1 r2 : ByteArray) (r3 : Bool) (w : World) (h : refTakeStr.f s m = some (r1, r2, r3)) :
    Calls Try.prog 127 #[.string s, .int .i64 m] w fun e w' => e = .returned (.tuple #[.string r1, .string r2, .bool r3]) ∧ Drawn0 w w' :=
  seneschalref01_TakeStr.calls s m r1 r2 r3 w (by rw [reftext_pure s m]; exact h)
end Go.Proofs.Ytfjmnaobfbmllaa.M
namespace Go.Proofs.Ytfjmnaobfbmllaa.M
open Go.RowKit Go.Proofs.YtfjmnaobfbmllaaW.PrintWords Go.Proofs.YtfjmnaobfbmllaaW.PrintLast Go.Proofs.YtfjmnaobfbmllaaW.PrintMore
attribute [local go_sem] max2_int min2_int max_two min_two max_three min_three max_four min_four   -- for this text's walks alone
set_option linter.unusedVariables false
set_option linter.unusedSimpArgs false
def seneschalref04_take.f (a0 : ByteArray) : Option (Bool × ByteArray × ByteArray × Bool) := (refTake.f a0).bind fun bt102 => (if bt102.2.2 = true then (if bt102.1 = 0 then (some (false, (⟨#[]⟩ : ByteArray), bt102.2.1, bt102.2.2)) else ((refTakeStr.f bt102.2.1 200).bind fun bt105 => (if bt105.2.2 = true then (some (true, bt105.1, bt105.2.1, (bt102.1 == 1))) else (some (true, bt105.1, bt105.2.1, false))))) else (some (false, (⟨#[]⟩ : ByteArray), bt102.2.1, bt102.2.2)))
set_option maxHeartbeats 8000000 in
set_option maxRecDepth 100000 in
theorem seneschalref04_take.calls (a0 : ByteArray) (r1 : Bool) (r2 : ByteArray) (r3 : ByteArray) (r4 : Bool) (w : World) (h : seneschalref04_take.f a0 = some (r1, r2, r3, r4)) :
  Calls Try.prog 110 #[.string a0] w fun e w' => e = .returned (.tuple #[.agg #[.bool r1, .string r2], .string r3, .bool r4]) ∧ Below w.heap.size w w' := by
 have hu33 := Try.underlying33
 have HB := Aside0.mk (Below.refl w.heap.size w)
 have H : ((refTake.f a0).bind fun bt102 => (if bt102.2.2 = true then (if bt102.1 = 0 then (some (false, (⟨#[]⟩ : ByteArray), bt102.2.1, bt102.2.2)) else ((refTakeStr.f bt102.2.1 200).bind fun bt105 => (if bt105.2.2 = true then (some (true, bt105.1, bt105.2.1, (bt102.1 == 1))) else (some (true, bt105.1, bt105.2.1, false))))) else (some (false, (⟨#[]⟩ : ByteArray), bt102.2.1, bt102.2.2)))) = some (r1, r2, r3, r4) := h
 clear h
 replace H := Option.bind_eq_some_iff.mp H
 obtain ⟨⟨t102, t103, t104⟩, A20, H⟩ := H
 replace H : (if t104 = true then (if t102 = 0 then (some (false, (⟨#[]⟩ : ByteArray), t103, t104)) else ((refTakeStr.f t103 200).bind fun bt105 => (if bt105.2.2 = true then (some (true, bt105.1, bt105.2.1, (t102 == 1))) else (some (true, bt105.1, bt105.2.1, false))))) else (some (false, (⟨#[]⟩ : ByteArray), t103, t104))) = some (r1, r2, r3, r4) := H
 have A2 := Aside0.mk A20
 clear A20
 by_cases c3 : t104 = true
 ·subst c3
  have H1 : (if t102 = 0 then (some (false, (⟨#[]⟩ : ByteArray), t103, true)) else ((refTakeStr.f t103 200).bind fun bt105 => (if bt105.2.2 = true then (some (true, bt105.1, bt105.2.1, (t102 == 1))) else (some (true, bt105.1, bt105.2.1, false))))) = some (r1, r2, r3, r4) := by rw [if_pos rfl] at H; exact H
  clear H
  have H := H1
  clear H1
  by_cases c4 : t102 = 0
  ·rw [if_pos c4] at H
   have c4b0 : (t102 == 0) = true := beq_iff_eq.mpr c4
   have c4b1 : (t102 != 0) = false := bne_eq_false_iff_eq.mpr c4
   clear c4
   simp only [Option.some.injEq, Prod.mk.injEq] at H
   obtain ⟨rfl, rfl, rfl, rfl⟩ := H
   go_enter Try.func110, Try.ntmps110
   go_wp2_with (first | ((with_reducible refine gate_dst (N := 2) rfl ?_); refine box_event ?hg (N := 2) ?hd (cs := #[.bool false, .string (⟨#[]⟩ : ByteArray)]) (t := 33) ?hr ?_; (case hd => rfl); (case hg => rfl); (case hr => first | (go_simp; done) | (go_simp; rfl)); intro gb101 hg w5 hbox hb; have n0_ := Aside0.mk (below_step HB.out hb); have n1_ := Aside0.mk (hbox); have n2_ := Aside0.mk ((by rw [hg]; exact below_size HB.out : w.heap.size ≤ gb101)); have n3_ := Aside0.mk ((by rw [hg]; exact below_size HB.out : w.heap.size ≤ gb101)); clear HB; have HB := n0_; have BK101 := n1_; have GW101 := n2_; have GE101 := n3_; clear n0_ n1_ n2_ n3_; clear hb hbox hg) | ((with_reducible refine gate_callee (f := 109) rfl ?_); refine goesL_ (some 10) rfl rfl Try.func109 (by kernel_rfl) rfl #[.string a0] rfl (by (try simp only [List.map_toArray, List.map_cons, List.map_nil]); first | done | rfl | (simp only [List.length_drop, List.length_take]; rfl)) ?_; (with_reducible refine (refTake.calls a0 t102 t103 true _ A2.out).mono ?_); rintro e w' ⟨rfl, ⟨nd, rfl⟩⟩; refine ⟨_, rfl, ?_⟩; (try (rw [drewN_self w5]; generalize hq_ : World.drewN w5 _ = w5; have n0_ : Aside0 (w5.heap[gb101]? = some (.cells #[.bool false, .string (⟨#[]⟩ : ByteArray)] 33 (0, 0))) := ⟨by rw [← hq_]; exact (by (with_reducible repeat (first | refine blk_drewN ?_ _ | refine blk_drew ?_ | refine blk_alloc ?_ _)); exact BK101.out)⟩; have n1_ : Aside0 (Below w.heap.size w w5) := ⟨by rw [← hq_]; exact (by repeat (first | (with_reducible first | exact HB.out | apply below_alloc | apply pw_below_drewN | apply below_drew1 | refine below_set ?_ GE101.out) | exact HB.out))⟩; clear BK101 HB hq_; have BK101 := n0_; have HB := n1_; clear n0_ n1_)); obtain ⟨hcz6_0, hcz6_1⟩ := cl2 (W := w5) BK101.out; obtain ⟨hfz6_0, hfz6_1⟩ := fr2 BK101.out))
   refine bodyPost_ret (results_ctt rfl _ _ gb101 33 #[.bool false, .string (⟨#[]⟩ : ByteArray)] (0, 0) _ rfl (by (with_reducible repeat (first | refine blk_drewN ?_ _ | refine blk_drew ?_ | refine blk_alloc ?_ _)); refine blk_put (cs := #[.bool false, .string (⟨#[]⟩ : ByteArray)]) ?_ 1 _ rfl; refine blk_put (cs := #[.bool false, .string (⟨#[]⟩ : ByteArray)]) ?_ 0 _ rfl; (with_reducible repeat (first | refine blk_drewN ?_ _ | refine blk_drew ?_ | refine blk_alloc ?_ _)); exact BK101.out) Try.underlying33 rfl (by kernel_rfl)) rfl ?_
   exact ⟨by first | rfl | (simp [errW_none, errW_some] <;> rfl) | (simp [*, errW_none, errW_some] <;> rfl), by repeat (first | (with_reducible first | exact HB.out | apply below_alloc | apply pw_below_drewN | apply below_drew1 | refine below_set ?_ GE101.out) | exact HB.out)⟩
  ·rw [if_neg c4] at H
   have c4b0 : (t102 == 0) = false := beq_eq_false_iff_ne.mpr c4
   have c4b1 : (t102 != 0) = true := bne_iff_ne.mpr c4
   replace H := Option.bind_eq_some_iff.mp H
   obtain ⟨⟨t105, t106, t107⟩, A70, H⟩ := H
   replace H : (if t107 = true then (some (true, t105, t106, (t102 == 1))) else (some (true, t105, t106, false))) = some (r1, r2, r3, r4) := H
   have A7 := Aside0.mk A70
   clear A70
   by_cases c8 : t107 = true
   ·subst c8
    have H1 : (some (true, t105, t106, (t102 == 1))) = some (r1, r2, r3, r4) := by rw [if_pos rfl] at H; exact H
    clear H
    have H := H1
    clear H1
    simp only [Option.some.injEq, Prod.mk.injEq] at H
    obtain ⟨rfl, rfl, rfl, rfl⟩ := H
    go_enter Try.func110, Try.ntmps110
    go_wp2_with (first | ((with_reducible refine gate_dst (N := 2) rfl ?_); refine box_event ?hg (N := 2) ?hd (cs := #[.bool false, .string (⟨#[]⟩ : ByteArray)]) (t := 33) ?hr ?_; (case hd => rfl); (case hg => rfl); (case hr => first | (go_simp; done) | (go_simp; rfl)); intro gb101 hg w9 hbox hb; have n0_ := Aside0.mk (below_step HB.out hb); have n1_ := Aside0.mk (hbox); have n2_ := Aside0.mk ((by rw [hg]; exact below_size HB.out : w.heap.size ≤ gb101)); have n3_ := Aside0.mk ((by rw [hg]; exact below_size HB.out : w.heap.size ≤ gb101)); clear HB; have HB := n0_; have BK101 := n1_; have GW101 := n2_; have GE101 := n3_; clear n0_ n1_ n2_ n3_; clear hb hbox hg) | ((with_reducible refine gate_callee (f := 109) rfl ?_); refine goesL_ (some 10) rfl rfl Try.func109 (by kernel_rfl) rfl #[.string a0] rfl (by (try simp only [List.map_toArray, List.map_cons, List.map_nil]); first | done | rfl | (simp only [List.length_drop, List.length_take]; rfl)) ?_; (with_reducible refine (refTake.calls a0 t102 t103 true _ A2.out).mono ?_); rintro e w' ⟨rfl, ⟨nd, rfl⟩⟩; refine ⟨_, rfl, ?_⟩; (try (rw [drewN_self w9]; generalize hq_ : World.drewN w9 _ = w9; have n0_ : Aside0 (w9.heap[gb101]? = some (.cells #[.bool false, .string (⟨#[]⟩ : ByteArray)] 33 (0, 0))) := ⟨by rw [← hq_]; exact (by (with_reducible repeat (first | refine blk_drewN ?_ _ | refine blk_drew ?_ | refine blk_alloc ?_ _)); exact BK101.out)⟩; have n1_ : Aside0 (Below w.heap.size w w9) := ⟨by rw [← hq_]; exact (by repeat (first | (with_reducible first | exact HB.out | apply below_alloc | apply pw_below_drewN | apply below_drew1 | refine below_set ?_ GE101.out) | exact HB.out))⟩; clear BK101 HB hq_; have BK101 := n0_; have HB := n1_; clear n0_ n1_))) | ((with_reducible refine gate_callee (f := 127) rfl ?_); refine goesL_ (some 25) rfl rfl Try.func127 (by kernel_rfl) rfl #[.string t103, .int .i64 200] rfl (by (try simp only [List.map_toArray, List.map_cons, List.map_nil]); first | done | rfl | (simp only [List.length_drop, List.length_take]; rfl)) ?_; (with_reducible refine (refTakeStr.calls t103 200 t105 t106 true _ A7.out).mono ?_); rintro e w' ⟨rfl, ⟨nd, rfl⟩⟩; refine ⟨_, rfl, ?_⟩; (try (rw [drewN_self w9]; generalize hq_ : World.drewN w9 _ = w9; have n0_ : Aside0 (w9.heap[gb101]? = some (.cells #[.bool false, .string (⟨#[]⟩ : ByteArray)] 33 (0, 0))) := ⟨by rw [← hq_]; exact (by (with_reducible repeat (first | refine blk_drewN ?_ _ | refine blk_drew ?_ | refine blk_alloc ?_ _)); exact BK101.out)⟩; have n1_ : Aside0 (Below w.heap.size w w9) := ⟨by rw [← hq_]; exact (by repeat (first | (with_reducible first | exact HB.out | apply below_alloc | apply pw_below_drewN | apply below_drew1 | refine below_set ?_ GE101.out) | exact HB.out))⟩; clear BK101 HB hq_; have BK101 := n0_; have HB := n1_; clear n0_ n1_)); obtain ⟨hcz10_0, hcz10_1⟩ := cl2 (W := w9) BK101.out; obtain ⟨hfz10_0, hfz10_1⟩ := fr2 BK101.out))
    refine bodyPost_ret (results_ctt rfl _ _ gb101 33 #[.bool true, .string t105] (0, 0) _ rfl (by (with_reducible repeat (first | refine blk_drewN ?_ _ | refine blk_drew ?_ | refine blk_alloc ?_ _)); refine blk_put (cs := #[.bool true, .string (⟨#[]⟩ : ByteArray)]) ?_ 1 _ rfl; refine blk_put (cs := #[.bool false, .string (⟨#[]⟩ : ByteArray)]) ?_ 0 _ rfl; (with_reducible repeat (first | refine blk_drewN ?_ _ | refine blk_drew ?_ | refine blk_alloc ?_ _)); exact BK101.out) Try.underlying33 rfl (by kernel_rfl)) rfl ?_
    exact ⟨by first | rfl | (simp [errW_none, errW_some] <;> rfl) | (simp [*, errW_none, errW_some] <;> rfl), by repeat (first | (with_reducible first | exact HB.out | apply below_alloc | apply pw_below_drewN | apply below_drew1 | refine below_set ?_ GE101.out) | exact HB.out)⟩
   ·replace c8 := Bool.eq_false_iff.mpr c8
    subst c8
    have H1 : (some (true, t105, t106, false)) = some (r1, r2, r3, r4) := by rw [if_neg (show ¬ (false = true) by decide)] at H; exact H
    clear H
    have H := H1
    clear H1
    simp only [Option.some.injEq, Prod.mk.injEq] at H
    obtain ⟨rfl, rfl, rfl, rfl⟩ := H
    go_enter Try.func110, Try.ntmps110
    go_wp2_with (first | ((with_reducible refine gate_dst (N := 2) rfl ?_); refine box_event ?hg (N := 2) ?hd (cs := #[.bool false, .string (⟨#[]⟩ : ByteArray)]) (t := 33) ?hr ?_; (case hd => rfl); (case hg => rfl); (case hr => first | (go_simp; done) | (go_simp; rfl)); intro gb101 hg w11 hbox hb; have n0_ := Aside0.mk (below_step HB.out hb); have n1_ := Aside0.mk (hbox); have n2_ := Aside0.mk ((by rw [hg]; exact below_size HB.out : w.heap.size ≤ gb101)); have n3_ := Aside0.mk ((by rw [hg]; exact below_size HB.out : w.heap.size ≤ gb101)); clear HB; have HB := n0_; have BK101 := n1_; have GW101 := n2_; have GE101 := n3_; clear n0_ n1_ n2_ n3_; clear hb hbox hg) | ((with_reducible refine gate_callee (f := 109) rfl ?_); refine goesL_ (some 10) rfl rfl Try.func109 (by kernel_rfl) rfl #[.string a0] rfl (by (try simp only [List.map_toArray, List.map_cons, List.map_nil]); first | done | rfl | (simp only [List.length_drop, List.length_take]; rfl)) ?_; (with_reducible refine (refTake.calls a0 t102 t103 true _ A2.out).mono ?_); rintro e w' ⟨rfl, ⟨nd, rfl⟩⟩; refine ⟨_, rfl, ?_⟩; (try (rw [drewN_self w11]; generalize hq_ : World.drewN w11 _ = w11; have n0_ : Aside0 (w11.heap[gb101]? = some (.cells #[.bool false, .string (⟨#[]⟩ : ByteArray)] 33 (0, 0))) := ⟨by rw [← hq_]; exact (by (with_reducible repeat (first | refine blk_drewN ?_ _ | refine blk_drew ?_ | refine blk_alloc ?_ _)); exact BK101.out)⟩; have n1_ : Aside0 (Below w.heap.size w w11) := ⟨by rw [← hq_]; exact (by repeat (first | (with_reducible first | exact HB.out | apply below_alloc | apply pw_below_drewN | apply below_drew1 | refine below_set ?_ GE101.out) | exact HB.out))⟩; clear BK101 HB hq_; have BK101 := n0_; have HB := n1_; clear n0_ n1_))) | ((with_reducible refine gate_callee (f := 127) rfl ?_); refine goesL_ (some 25) rfl rfl Try.func127 (by kernel_rfl) rfl #[.string t103, .int .i64 200] rfl (by (try simp only [List.map_toArray, List.map_cons, List.map_nil]); first | done | rfl | (simp only [List.length_drop, List.length_take]; rfl)) ?_; (with_reducible refine (refTakeStr.calls t103 200 t105 t106 false _ A7.out).mono ?_); rintro e w' ⟨rfl, ⟨nd, rfl⟩⟩; refine ⟨_, rfl, ?_⟩; (try (rw [drewN_self w11]; generalize hq_ : World.drewN w11 _ = w11; have n0_ : Aside0 (w11.heap[gb101]? = some (.cells #[.bool false, .string (⟨#[]⟩ : ByteArray)] 33 (0, 0))) := ⟨by rw [← hq_]; exact (by (with_reducible repeat (first | refine blk_drewN ?_ _ | refine blk_drew ?_ | refine blk_alloc ?_ _)); exact BK101.out)⟩; have n1_ : Aside0 (Below w.heap.size w w11) := ⟨by rw [← hq_]; exact (by repeat (first | (with_reducible first | exact HB.out | apply below_alloc | apply pw_below_drewN | apply below_drew1 | refine below_set ?_ GE101.out) | exact HB.out))⟩; clear BK101 HB hq_; have BK101 := n0_; have HB := n1_; clear n0_ n1_)); obtain ⟨hcz12_0, hcz12_1⟩ := cl2 (W := w11) BK101.out; obtain ⟨hfz12_0, hfz12_1⟩ := fr2 BK101.out))
    refine bodyPost_ret (results_ctt rfl _ _ gb101 33 #[.bool true, .string t105] (0, 0) _ rfl (by (with_reducible repeat (first | refine blk_drewN ?_ _ | refine blk_drew ?_ | refine blk_alloc ?_ _)); refine blk_put (cs := #[.bool true, .string (⟨#[]⟩ : ByteArray)]) ?_ 1 _ rfl; refine blk_put (cs := #[.bool false, .string (⟨#[]⟩ : ByteArray)]) ?_ 0 _ rfl; (with_reducible repeat (first | refine blk_drewN ?_ _ | refine blk_drew ?_ | refine blk_alloc ?_ _)); exact BK101.out) Try.underlying33 rfl (by kernel_rfl)) rfl ?_
    exact ⟨by first | rfl | (simp [errW_none, errW_some] <;> rfl) | (simp [*, errW_none, errW_some] <;> rfl), by repeat (first | (with_reducible first | exact HB.out | apply below_alloc | apply pw_below_drewN | apply below_drew1 | refine below_set ?_ GE101.out) | exact HB.out)⟩
 ·replace c3 := Bool.eq_false_iff.mpr c3
  subst c3
  have H1 : (some (false, (⟨#[]⟩ : ByteArray), t103, false)) = some (r1, r2, r3, r4) := by rw [if_neg (show ¬ (false = true) by decide)] at H; exact H
  clear H
  have H := H1
  clear H1
  simp only [Option.some.injEq, Prod.mk.injEq] at H
  obtain ⟨rfl, rfl, rfl, rfl⟩ := H
  go_enter Try.func110, Try.ntmps110
  go_wp2_with (first | ((with_reducible refine gate_dst (N := 2) rfl ?_); refine box_event ?hg (N := 2) ?hd (cs := #[.bool false, .string (⟨#[]⟩ : ByteArray)]) (t := 33) ?hr ?_; (case hd => rfl); (case hg => rfl); (case hr => first | (go_simp; done) | (go_simp; rfl)); intro gb101 hg w13 hbox hb; have n0_ := Aside0.mk (below_step HB.out hb); have n1_ := Aside0.mk (hbox); have n2_ := Aside0.mk ((by rw [hg]; exact below_size HB.out : w.heap.size ≤ gb101)); have n3_ := Aside0.mk ((by rw [hg]; exact below_size HB.out : w.heap.size ≤ gb101)); clear HB; have HB := n0_; have BK101 := n1_; have GW101 := n2_; have GE101 := n3_; clear n0_ n1_ n2_ n3_; clear hb hbox hg) | ((with_reducible refine gate_callee (f := 109) rfl ?_); refine goesL_ (some 10) rfl rfl Try.func109 (by kernel_rfl) rfl #[.string a0] rfl (by (try simp only [List.map_toArray, List.map_cons, List.map_nil]); first | done | rfl | (simp only [List.length_drop, List.length_take]; rfl)) ?_; (with_reducible refine (refTake.calls a0 t102 t103 false _ A2.out).mono ?_); rintro e w' ⟨rfl, ⟨nd, rfl⟩⟩; refine ⟨_, rfl, ?_⟩; (try (rw [drewN_self w13]; generalize hq_ : World.drewN w13 _ = w13; have n0_ : Aside0 (w13.heap[gb101]? = some (.cells #[.bool false, .string (⟨#[]⟩ : ByteArray)] 33 (0, 0))) := ⟨by rw [← hq_]; exact (by (with_reducible repeat (first | refine blk_drewN ?_ _ | refine blk_drew ?_ | refine blk_alloc ?_ _)); exact BK101.out)⟩; have n1_ : Aside0 (Below w.heap.size w w13) := ⟨by rw [← hq_]; exact (by repeat (first | (with_reducible first | exact HB.out | apply below_alloc | apply pw_below_drewN | apply below_drew1 | refine below_set ?_ GE101.out) | exact HB.out))⟩; clear BK101 HB hq_; have BK101 := n0_; have HB := n1_; clear n0_ n1_)); obtain ⟨hcz14_0, hcz14_1⟩ := cl2 (W := w13) BK101.out; obtain ⟨hfz14_0, hfz14_1⟩ := fr2 BK101.out))
  refine bodyPost_ret (results_ctt rfl _ _ gb101 33 #[.bool false, .string (⟨#[]⟩ : ByteArray)] (0, 0) _ rfl (by (with_reducible repeat (first | refine blk_drewN ?_ _ | refine blk_drew ?_ | refine blk_alloc ?_ _)); refine blk_put (cs := #[.bool false, .string (⟨#[]⟩ : ByteArray)]) ?_ 1 _ rfl; refine blk_put (cs := #[.bool false, .string (⟨#[]⟩ : ByteArray)]) ?_ 0 _ rfl; (with_reducible repeat (first | refine blk_drewN ?_ _ | refine blk_drew ?_ | refine blk_alloc ?_ _)); exact BK101.out) Try.underlying33 rfl (by kernel_rfl)) rfl ?_
  exact ⟨by first | rfl | (simp [errW_none, errW_some] <;> rfl) | (simp [*, errW_none, errW_some] <;> rfl), by repeat (first | (with_reducible first | exact HB.out | apply below_alloc | apply pw_below_drewN | apply below_drew1 | refine below_set ?_ GE101.out) | exact HB.out)⟩
end Go.Proofs.Ytfjmnaobfbmllaa.M
namespace Go.Proofs.Ytfjmnaobfbmllaa.M
open Go.RowKit Go.Proofs.YtfjmnaobfbmllaaW.PrintWords Go.Proofs.YtfjmnaobfbmllaaW.PrintLast Go.Proofs.YtfjmnaobfbmllaaW.PrintMore
attribute [local go_sem] max2_int min2_int max_two min_two max_three min_three max_four min_four   -- for this text's walks alone
set_option linter.unusedVariables false
set_option linter.unusedSimpArgs false
mutual
def seneschalref04_Decode.l0 : Nat → ByteArray → List Int → Int → Option (Int × Int × Int × Int × Int × Int × Int × Int × Bool × ByteArray × Bool × ByteArray × Int × ByteArray × Int)
 | 0, _, _, _ => none
 | k + 1, x0, x5, x6 => if (x5.length : Int) < x6 then ((refTake.f x0).bind fun bt105 => (if bt105.2.2 = true then (if x5.length < 17592186044416 then ((some (x5 ++ [bt105.1] : List Int)).bind fun y108 => (if 0 < (y108.length : Int) then (if (rd y108 0) = 1 then (seneschalref04_Decode.l0 k bt105.2.1 y108 9) else (if (rd y108 0) = 2 then (seneschalref04_Decode.l0 k bt105.2.1 y108 9) else (seneschalref04_Decode.l0 k bt105.2.1 y108 x6))) else (none))) else (none)) else (some (0, 0, 0, 0, 0, 0, 0, 0, false, (⟨#[]⟩ : ByteArray), false, (⟨#[]⟩ : ByteArray), 0, (⟨#[]⟩ : ByteArray), 4)))) else (if 0 < (x5.length : Int) then (if 1 < (x5.length : Int) then (if 2 < (x5.length : Int) then (if 3 < (x5.length : Int) then (if 4 < (x5.length : Int) then (if 5 < (x5.length : Int) then (if x6 = 9 then (if 6 < (x5.length : Int) then (if 7 < (x5.length : Int) then (if 8 < (x5.length : Int) then ((seneschalref04_take.f x0).bind fun bt123 => ((seneschalref04_take.f bt123.2.2.1).bind fun bt128 => (if bt123.2.2.2 = true then (seneschalref04_Decode.j1 k bt128.2.2.1 (!bt128.2.2.2) (rd x5 0) (rd x5 1) (rd x5 2) (rd x5 3) (rd x5 4) (rd x5 5) (rd x5 6) (rd x5 7) false (⟨#[]⟩ : ByteArray) false (⟨#[]⟩ : ByteArray) (rd x5 8) bt123.1 bt123.2.1 bt128.1 bt128.2.1) else (seneschalref04_Decode.j1 k bt128.2.2.1 true (rd x5 0) (rd x5 1) (rd x5 2) (rd x5 3) (rd x5 4) (rd x5 5) (rd x5 6) (rd x5 7) false (⟨#[]⟩ : ByteArray) false (⟨#[]⟩ : ByteArray) (rd x5 8) bt123.1 bt123.2.1 bt128.1 bt128.2.1)))) else (none)) else (none)) else (none)) else ((refGood4.f (rd x5 0) (rd x5 1) (rd x5 2) (rd x5 3) (rd x5 4) (rd x5 5) 0 0 false (⟨#[]⟩ : ByteArray) false (⟨#[]⟩ : ByteArray) 0).bind fun t134 => (if t134 = true then (some (rd x5 0, rd x5 1, rd x5 2, rd x5 3, rd x5 4, rd x5 5, 0, 0, false, (⟨#[]⟩ : ByteArray), false, (⟨#[]⟩ : ByteArray), 0, x0, 0)) else (some (0, 0, 0, 0, 0, 0, 0, 0, false, (⟨#[]⟩ : ByteArray), false, (⟨#[]⟩ : ByteArray), 0, (⟨#[]⟩ : ByteArray), 4))))) else (none)) else (none)) else (none)) else (none)) else (none)) else (none))
def seneschalref04_Decode.j1 : Nat → ByteArray → Bool → Int → Int → Int → Int → Int → Int → Int → Int → Bool → ByteArray → Bool → ByteArray → Int → Bool → ByteArray → Bool → ByteArray → Option (Int × Int × Int × Int × Int × Int × Int × Int × Bool × ByteArray × Bool × ByteArray × Int × ByteArray × Int)
 | 0, _, _, _, _, _, _, _, _, _, _, _, _, _, _, _, _, _, _, _ => none
 | k + 1, x15, x97, x120000, x120001, x120002, x120003, x120004, x120005, x120006, x120007, x120008, x120009, x120010, x120011, x120012, x128000, x128001, x133000, x133001 => if x97 = true then (some (0, 0, 0, 0, 0, 0, 0, 0, false, (⟨#[]⟩ : ByteArray), false, (⟨#[]⟩ : ByteArray), 0, (⟨#[]⟩ : ByteArray), 4)) else ((refGood4.f x120000 x120001 x120002 x120003 x120004 x120005 x120006 x120007 x128000 x128001 x133000 x133001 x120012).bind fun t133 => (if t133 = true then (some (x120000, x120001, x120002, x120003, x120004, x120005, x120006, x120007, x128000, x128001, x133000, x133001, x120012, x15, 0)) else (some (0, 0, 0, 0, 0, 0, 0, 0, false, (⟨#[]⟩ : ByteArray), false, (⟨#[]⟩ : ByteArray), 0, (⟨#[]⟩ : ByteArray), 4))))
end
def seneschalref04_Decode.f (k : Nat) (a0 : ByteArray) : Option (Int × Int × Int × Int × Int × Int × Int × Int × Bool × ByteArray × Bool × ByteArray × Int × ByteArray × Int) := seneschalref04_Decode.l0 k a0 (([] : List Int)) 6
def seneschalref04_Decode.T11 : Bool × List (List Nat × List Nat) := (true, [([], []), ([0], [0]), ([1], [1]), ([], []), ([3], [3]), ([4], [4]), ([], []), ([6], [6]), ([7], [7]), ([], []), ([9], [9]), ([10], [10]), ([5, 8, 11], [5, 8, 11]), ([], []), ([13], [13]), ([14], [14]), ([], []), ([16], [16]), ([17], [17]), ([2, 12, 15, 18], [2, 12, 15, 18]), ([], []), ([20, 19, 0, 1, 2, 3, 4, 5, 6, 7, 8, 9, 10, 11, 12, 13, 14, 15, 16, 17, 18, 19, 20], [19, 20])])
def seneschalref04_Decode.B11 : List Nat := [0, 1, 3, 0, 8, 24, 0, 64, 192, 0, 512, 1536, 4088, 0, 8192, 24576, 0, 65536, 196608, 524287, 0, 2097151]
theorem seneschalref04_Decode.tab11 : rtab .any (opsOf Try.f64 11) = seneschalref04_Decode.T11 := by kernel_rfl
theorem seneschalref04_Decode.bits11 : waitsOk seneschalref04_Decode.T11.2 seneschalref04_Decode.B11 = true := by kernel_rfl
end Go.Proofs.Ytfjmnaobfbmllaa.M
