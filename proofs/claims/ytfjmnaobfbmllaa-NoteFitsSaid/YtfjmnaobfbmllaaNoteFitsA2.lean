/- The law NoteFits: it returns true for every input, and its arguments read as they did. No condition. Part 3 of 4. -/
import Derived.Test.YtfjmnaobfbmllaaProg
import Derived.Test.YtfjmnaobfbmllaaRows
import Derived.Test.YtfjmnaobfbmllaaUApart
import Derived.Test.YtfjmnaobfbmllaaUEqStruct
import Derived.Test.YtfjmnaobfbmllaaUFoot
import Derived.Test.YtfjmnaobfbmllaaUGuard
import Derived.Test.YtfjmnaobfbmllaaUInv
import Derived.Test.YtfjmnaobfbmllaaUKept
import Derived.Test.YtfjmnaobfbmllaaULast
import Derived.Test.YtfjmnaobfbmllaaUMore
import Derived.Test.YtfjmnaobfbmllaaUN
import Derived.Test.YtfjmnaobfbmllaaURepsOne
import Derived.Test.YtfjmnaobfbmllaaUShare
import Derived.Test.YtfjmnaobfbmllaaUTab
import Derived.Test.YtfjmnaobfbmllaaUWords
import Derived.ArgAppend
import Derived.Below
import Derived.BigQuiet
import Derived.Carry
import Derived.ChangeArms
import Derived.ChangeMaps
import Derived.ChangeOld
import Derived.Deep.AppendLies
import Derived.Deep.CutBlock
import Derived.Deep.DeepCutAuto
import Derived.Deep.Draws
import Derived.Deep.LoopGhost
import Derived.Deep.OwnRows
import Derived.Deep.QuietTactic
import Derived.Deep.RegionHeld3
import Derived.Deep.Slices
import Derived.KernelRfl
import Derived.Laws.Bits64
import Derived.Laws.Bits64b
import Derived.Laws.BitsAllLaws
import Derived.Laws.BitsLemmas
import Derived.Laws.BytesArg
import Derived.Laws.CopyOwn
import Derived.Laws.IdiomCopy
import Derived.Laws.MakeOwn
import Derived.Laws.OwnMore
import Derived.Laws.Rows
import Derived.Laws.Slices
import Derived.Lib.AppendStr
import Derived.Lib.ConvBytes
import Derived.Maps.AppendAt
import Derived.OpenShut
import Derived.OrdersHeld
import Derived.OwnWalk
import Derived.ProofKit
import Derived.RowKit
import Derived.RowKit3
import Derived.ShutString
import Derived.SizedLaws
import Derived.Tactics
import Derived.WalkKit
import Derived.WideLaws
import Derived.Test.YtfjmnaobfbmllaaNoteFitsA0
import Derived.Test.YtfjmnaobfbmllaaNoteFitsA1
namespace Go.Proofs.Ytfjmnaobfbmllaa.M
open Go.RowKit Go.Proofs.YtfjmnaobfbmllaaW.PrintWords Go.Proofs.YtfjmnaobfbmllaaW.PrintLast Go.Proofs.YtfjmnaobfbmllaaW.PrintMore
set_option linter.unusedVariables false
set_option linter.unusedSimpArgs false
theorem step_cn (m : Nat) : ∀ n : Nat, n < 4294967296 → m ≤ 8 → sum_step.l0 (m + 1) (n : Int) ((8 : Int) - m) = some ((cn m n : Nat) : Int) := by
 induction m with
 | zero => intro n h _; rw [sum_step.l0, if_neg (by omega)]; rfl
 | succ m ih =>
  intro n h hm
  have hc : (8 : Int) - ((m + 1 : Nat) : Int) < 8 := by omega
  have hw : wrap64 ((8 : Int) - ((m + 1 : Nat) : Int) + 1) = (8 : Int) - m := by unfold wrap64; omega
  rw [sum_step.l0, if_pos hc, stp_cb n h, hw]
  exact ih (cb n) (cb_lt (by omega)) (by omega)
theorem step_f (n : Nat) (h : n < 4294967296) : sum_step.f 9 (n : Int) = some ((cn 8 n : Nat) : Int) := step_cn 8 n h (Nat.le_refl _)
def bN (s : ByteArray) : List Nat := (bytesOf s).map Int.toNat
theorem bN_lt (s : ByteArray) : ∀ b ∈ bN s, b < 256 := by
 intro b hb
 obtain ⟨x, hx, rfl⟩ := List.mem_map.1 hb
 have := bytesOf_range s x hx
 omega
def chR (ps : List ByteArray) : Nat := ps.foldl (fun r s => cs (bN s) r) 4294967295
theorem chR_snoc (ps : List ByteArray) (s : ByteArray) : chR (ps ++ [s]) = cs (bN s) (chR ps) := by simp [chR]
theorem cs_snoc (bs : List Nat) (b r : Nat) : cs (bs ++ [b]) r = cn 8 (cs bs r ^^^ b) := by simp [cs]
theorem chR_lt (ps : List ByteArray) : chR ps < 4294967296 := by
 unfold chR
 have : ∀ (l : List ByteArray) (r : Nat), r < 4294967296 → l.foldl (fun r s => cs (bN s) r) r < 4294967296 := by
  intro l
  induction l with
  | nil => intro r h; exact h
  | cons s l ih => intro r h; exact ih _ (cs_lt (bN s) (bN_lt s) h)
 exact this ps _ (by decide)
theorem byte_arg (n b : Nat) (h : n < 4294967296) (hb : b < 256) : Go.bits .xor .u32 (Go.bits .and .u32 (n : Int) 255) (b : Int) = (((n % 256) ^^^ b : Nat) : Int) := by
 have e1 : Go.bits .and .u32 (n : Int) 255 = ((n % 256 : Nat) : Int) := by
  have := u32_and_nat n 255 h (by omega)
  rw [show (255 : Nat) = 2 ^ 8 - 1 by rfl, Nat.and_two_pow_sub_one_eq_mod] at this
  exact this
 rw [e1, u32_xor_nat _ _ (by omega) (by omega)]
theorem byte_out (n b : Nat) (h : n < 4294967296) (hb : b < 256) : Go.bits .xor .u32 ((n : Int) / 256) ((cn 8 ((n % 256) ^^^ b) : Nat) : Int) = ((cn 8 (n ^^^ b) : Nat) : Int) := by
 have h1 : (n % 256) ^^^ b < 2 ^ 32 := xor_lt (by omega) (by omega)
 have h2 := cn_lt 8 h1
 rw [show (n : Int) / 256 = ((n / 256 : Nat) : Int) by omega, u32_xor_nat _ _ (by omega) (by omega), cn_byte n b hb]
set_option maxHeartbeats 4000000 in
theorem sum_Of.all (A : Option Addr) (c : Nat) (ps : List ByteArray) (w : World) (hr : Kd.C Kd.string w A ps.length ps) (hc : ps.length ≤ c) (hs : ∀ s ∈ ps, s.size ≤ 4611686018427387904) :
  Calls Try.prog 46 #[.slice A ps.length c] w fun e w' => e = .returned (.int .u32 ((chR ps ^^^ 4294967295 : Nat) : Int)) ∧ Below w.heap.size w w' := by
 have hmax := Kd.C_max hr
 have HR := Aside0.mk hr
 have HC := Aside0.mk hc
 have HS := Aside0.mk hs
 clear hr hc hs
 go_enter Try.func46, Try.ntmps46
 go_wp2
 go_loopg [3, 10] ps.length (fun gg v3 v10 wr => ∃ k : Nat, k ≤ ps.length ∧ ps.length - k ≤ gg ∧ v10 = .int .i64 k ∧ v3 = .int .u32 ((chR (ps.take k) : Nat) : Int) ∧ Aside0 (Below w.heap.size w wr))
 case atStart => exact ⟨0, Nat.zero_le _, by omega, rfl, rfl, ⟨Below.refl _ _⟩⟩
 case round =>
  obtain ⟨k, hk, hg, rfl, rfl, HB⟩ := hrel
  by_cases hlt : k < ps.length
  ·have q0 : (k : Int) < (ps.length : Int) := by omega
   obtain ⟨ad, e0, hx0⟩ := Kd.at_string HR.out (k : Int) (by omega) q0
   cases e0
   replace hx0 := (HB.out.cell (World.block_lt_of_cell? w _ hx0)).trans hx0
   rw [Int.toNat_natCast] at hx0
   have hrdk : rdOf ByteArray.empty ps (k : Int) = ps[k] := by simp [rdOf, List.getD_eq_getElem?_getD, List.getElem?_eq_getElem hlt]
   rw [hrdk] at hx0
   have HSN : Aside0 (chR (ps.take (k + 1)) = cs (bN ps[k]) (chR (ps.take k))) := ⟨by rw [List.take_succ_eq_append_getElem hlt, chR_snoc]⟩
   have hsz := HS.out ps[k] (List.getElem_mem hlt)
   have hn := chR_lt (ps.take k)
   clear hrdk
   generalize ps[k] = s at hx0 HSN hsz
   generalize chR (ps.take k) = n at hn HSN ⊢
   have kb := fun (W : World) => print_bytes (P := Try.prog) 9 36 5 Try.underlying9 Try.underlying36 Try.underlying5 s W
   have HRD := Aside0.mk (bytes_reads wr 5 s (by omega))
   have HBL := Aside0.mk (bytes_below (Below.refl wr.heap.size wr) (Nat.le_refl _) 5 s)
   have HLN := Aside0.mk (bytesOf_length s)
   go_wp2
   generalize Lib.bytesWorld wr 5 s = w1 at HRD HBL ⊢
   clear kb
   go_loopg [3, 17] s.size (fun gg v3 v17 w2 => ∃ j : Nat, j ≤ s.size ∧ s.size - j ≤ gg ∧ v17 = .int .i64 j ∧ v3 = .int .u32 ((cs ((bN s).take j) n : Nat) : Int) ∧ Drawn0 w1 w2)
   case atStart => exact ⟨0, Nat.zero_le _, by omega, rfl, rfl, Drawn0.refl _⟩
   case round =>
    obtain ⟨j, hj, hg2, rfl, rfl, ⟨m1, rfl⟩⟩ := hrel
    by_cases hlt2 : j < s.size
    ·have q1 : (j : Int) < (s.size : Int) := by omega
     obtain ⟨ad2, e1, hx1⟩ := HRD.out.at_ (j : Int) (by omega) q1
     cases e1
     rw [Int.toNat_natCast, add_plain] at hx1
     have hjl : j < (bytesOf s).length := by rw [HLN.out]; exact hlt2
     have hrdk : rd (bytesOf s) (j : Int) = (bytesOf s)[j] := by simp [rd, List.getD_eq_getElem?_getD, List.getElem?_eq_getElem hjl]
     rw [hrdk] at hx1
     have hr1 := bytesOf_range s _ (List.getElem_mem hjl)
     have hb1 : (bytesOf s)[j] = ((((bytesOf s)[j]).toNat : Nat) : Int) := by omega
     have hb2 : ((bytesOf s)[j]).toNat < 256 := by omega
     have hjn : j < (bN s).length := by simp only [bN, List.length_map]; exact hjl
     have HSN2 : Aside0 (cs ((bN s).take (j + 1)) n = cn 8 (cs ((bN s).take j) n ^^^ ((bytesOf s)[j]).toNat)) := ⟨by
      rw [List.take_succ_eq_append_getElem hjn, cs_snoc]
      simp [bN]⟩
     rw [hb1] at hx1
     have hn2 : cs ((bN s).take j) n < 2 ^ 32 := cs_lt _ (fun b hb => bN_lt s b (List.mem_of_mem_take hb)) (by omega)
     clear hrdk hr1 hb1
     generalize ((bytesOf s)[j]).toNat = b at hx1 hb2 HSN2
     generalize cs ((bN s).take j) n = x at hn2 HSN2 ⊢
     have HA := Aside0.mk (byte_arg x b (by omega) hb2)
     have HO := Aside0.mk (byte_out x b (by omega) hb2)
     have HF := Aside0.mk (step_f ((x % 256) ^^^ b) (by have := xor_lt (n := 32) (a := x % 256) (b := b) (by omega) (by omega); omega))
     go_wp2_with (go_at_call 85; (rw [HA.out]); refine (sum_step.calls 9 _ _ _ HF.out).mono ?_; rintro e w' ⟨rfl, ⟨nd, rfl⟩⟩)
     go_roundg (s.size - (j + 1))
     case measure => omega
     case rel => exact ⟨j + 1, by omega, by omega, by go_num, by rw [HSN2.out, ← HO.out], by repeat (first | exact Drawn0.refl _ | apply Drawn0.step)⟩
    ·have hltz : ¬ (j : Int) < (s.size : Int) := by omega
     have HT : Aside0 (cs ((bN s).take j) n = cs (bN s) n) := ⟨by rw [List.take_of_length_le (by simp only [bN, List.length_map]; rw [HLN.out]; omega)]⟩
     go_wp2
     go_roundg (ps.length - (k + 1))
     case measure => omega
     case rel => exact ⟨k + 1, by omega, by omega, by go_num, by rw [HSN.out, ← HT.out], ⟨by repeat (first | exact below_then HB.out HB.out.size HBL.out | apply pw_below_drewN | apply below_drew1)⟩⟩
  ·have hltz : ¬ (k : Int) < (ps.length : Int) := by omega
   have HT : Aside0 (chR (ps.take k) = chR ps) := ⟨by rw [List.take_of_length_le (by omega)]⟩
   have hn := chR_lt ps
   rw [HT.out]
   have HX : Aside0 (Go.bits .xor .u32 IntKind.u32.max ((chR ps : Nat) : Int) = ((chR ps ^^^ 4294967295 : Nat) : Int)) := ⟨by rw [Nat.xor_comm]; exact u32_xor_nat 4294967295 (chR ps) (by omega) hn⟩
   go_wp2
   go_ret
   exact ⟨by rw [← HX.out]; rfl, HB.out⟩
def sum_Of.f (ps : List ByteArray) : Option Int := if ps.all (fun s => decide (s.size ≤ 4611686018427387904)) = true then some ((chR ps ^^^ 4294967295 : Nat) : Int) else none
theorem sum_Of.calls (A0 : Option Addr) (c0 : Nat) (l0 : List ByteArray) (r : Int) (w : World) (hr0 : Kd.C Kd.string w A0 l0.length l0) (hc0 : l0.length ≤ c0) (h : sum_Of.f l0 = some r) :
  Calls Try.prog 46 #[.slice A0 l0.length c0] w fun e w' => e = .returned (.int .u32 r) ∧ Below w.heap.size w w' := by
 unfold sum_Of.f at h
 split at h
 ·rename_i hs
  obtain rfl := Option.some.inj h
  exact sum_Of.all A0 c0 l0 w hr0 hc0 (fun s hx => of_decide_eq_true (List.all_eq_true.1 hs s hx))
 ·cases h
end Go.Proofs.Ytfjmnaobfbmllaa.M
namespace Go.Proofs.Ytfjmnaobfbmllaa.M
open Go.RowKit Go.Proofs.YtfjmnaobfbmllaaW.PrintWords Go.Proofs.YtfjmnaobfbmllaaW.PrintLast Go.Proofs.YtfjmnaobfbmllaaW.PrintMore
set_option linter.unusedVariables false
set_option linter.unusedSimpArgs false
def chk (s : ByteArray) : Nat := chR [s] ^^^ 4294967295
theorem chk_lt (s : ByteArray) : chk s < 4294967296 := by
  have h := chR_lt [s]
  exact xor_lt (n := 32) (by simpa using h) (by decide)
def chB (s : ByteArray) : ByteArray := strOfNums (hiL 4 (chk s : Int))
theorem chB_size (s : ByteArray) : (chB s).size = 4 := by unfold chB; rw [strOfNums_size, hiL_length]
theorem chB_bytes (s : ByteArray) : bytesOf (chB s) = hiL 4 (chk s : Int) := bytesOf_strOfNums _ (hiL_range _ _)
theorem chB_get (s : ByteArray) : getN (bytesOf (chB s)) = (chk s : Int) := by
  rw [chB_bytes, getN_hiL]
  have h := chk_lt s
  have e : (256 : Int) ^ 4 = 4294967296 := by decide
  rw [e]; omega
def bdy (x : S55) : ByteArray := strOfNums (bodyM x)
theorem bdy_size {x : S55} (h : GoodM x) : 1 ≤ (bdy x).size ∧ (bdy x).size ≤ 10000 := by unfold bdy; rw [strOfNums_size]; exact bodyM_len h
def encM (x : S55) : ByteArray × Int := if GoodM x then (chB (bdy x) ++ bdy x, 0) else (⟨#[]⟩, 1)
def decM (s : ByteArray) : S55 × Int :=
  if s.size < 4 then (zM, 3) else if getN (bytesOf (s.extract 0 4)) = (chk (s.extract 4 s.size) : Int) then finM (decQ (s.extract 4 s.size)) else (zM, 20)
theorem cut4 (a b : ByteArray) (h : a.size = 4) : (a ++ b).extract 0 4 = a ∧ (a ++ b).extract 4 (a ++ b).size = b := by
  have hl := bytesOf_length a
  constructor
  · apply bytes_inj; rw [bytes_extract, bytes_append, List.drop_zero, Nat.sub_zero, List.take_left' (by omega)]
  · apply bytes_inj; rw [bytes_drop, bytes_append, List.drop_left' (by omega)]
theorem decM_body (b : ByteArray) : decM (chB b ++ b) = finM (decQ b) := by
  obtain ⟨h1, h2⟩ := cut4 (chB b) b (chB_size b)
  unfold decM
  rw [if_neg (by rw [ByteArray.size_append, chB_size]; omega), h1, h2, if_pos (chB_get b)]
theorem fin_body {x : S55} (h : GoodM x) : finM (decQ (bdy x)) = (x, 0) := by
  unfold bdy finM
  rw [decQ_takes h, if_pos ⟨rfl, rfl, h⟩]
theorem decM_enc {x : S55} (h : GoodM x) : decM (encM x).1 = (x, 0) := by
  unfold encM
  rw [if_pos h, decM_body, fin_body h]
theorem encM_good {x : S55} (h : GoodM x) : encM x = (chB (bdy x) ++ bdy x, 0) := if_pos h
theorem encM_bad {x : S55} (h : ¬ GoodM x) : encM x = (⟨#[]⟩, 1) := if_neg h
theorem encM_size {x : S55} (h : GoodM x) : (encM x).1.size = 4 + (bdy x).size := by rw [encM_good h]; show (chB _ ++ bdy x).size = _; rw [ByteArray.size_append, chB_size]
end Go.Proofs.Ytfjmnaobfbmllaa.M
namespace Go.Proofs.Ytfjmnaobfbmllaa.M
open Go.RowKit Go.Proofs.YtfjmnaobfbmllaaW.PrintWords Go.Proofs.YtfjmnaobfbmllaaW.PrintLast Go.Proofs.YtfjmnaobfbmllaaW.PrintMore
attribute [local go_sem] max2_int min2_int max_two min_two max_three min_three max_four min_four   -- for this text's walks alone
set_option linter.unusedVariables false
set_option linter.unusedSimpArgs false
mutual
def note_shapeOf.j0 : Nat → Int → Bool → Int → Int → Bool → Bool → Int → Int → Int → Int → Int → List (S33) → List (S65) → Option (Bool × Bool × Bool × Bool × Bool × Bool × Bool × Bool)
 | 0, _, _, _, _, _, _, _, _, _, _, _, _, _ => none
 | k + 1, x5, x9, x102000, x102001, x102002, x102003, x102004, x102005, x102006, x102007, x102008, x102009, x102010 => if x9 = true then (some (true, true, false, false, false, false, false, true)) else (if x5 = 3 then (some (true, false, false, false, false, false, false, true)) else (if x5 = 4 then (some (false, false, false, false, false, false, true, true)) else (if x5 = 5 then (some (true, false, false, false, false, true, false, true)) else (if x5 = 6 then (note_shapeOf.j1 k x5 (x5 == 6) x102000 x102001 x102002 x102003 x102004 x102005 x102006 x102007 x102008 x102009 x102010) else (note_shapeOf.j1 k x5 (x5 == 11) x102000 x102001 x102002 x102003 x102004 x102005 x102006 x102007 x102008 x102009 x102010)))))
def note_shapeOf.j1 : Nat → Int → Bool → Int → Int → Bool → Bool → Int → Int → Int → Int → Int → List (S33) → List (S65) → Option (Bool × Bool × Bool × Bool × Bool × Bool × Bool × Bool)
 | 0, _, _, _, _, _, _, _, _, _, _, _, _, _ => none
 | k + 1, x5, x22, x102000, x102001, x102002, x102003, x102004, x102005, x102006, x102007, x102008, x102009, x102010 => if x22 = true then (some (false, false, false, true, false, false, false, true)) else (if x5 = 7 then (note_shapeOf.j2 k x5 (x5 == 7) x102000 x102001 x102002 x102003 x102004 x102005 x102006 x102007 x102008 x102009 x102010) else (if x5 = 8 then (note_shapeOf.j2 k x5 (x5 == 8) x102000 x102001 x102002 x102003 x102004 x102005 x102006 x102007 x102008 x102009 x102010) else (note_shapeOf.j2 k x5 (x5 == 13) x102000 x102001 x102002 x102003 x102004 x102005 x102006 x102007 x102008 x102009 x102010)))
def note_shapeOf.j2 : Nat → Int → Bool → Int → Int → Bool → Bool → Int → Int → Int → Int → Int → List (S33) → List (S65) → Option (Bool × Bool × Bool × Bool × Bool × Bool × Bool × Bool)
 | 0, _, _, _, _, _, _, _, _, _, _, _, _, _ => none
 | k + 1, x5, x26, x102000, x102001, x102002, x102003, x102004, x102005, x102006, x102007, x102008, x102009, x102010 => if x26 = true then (some (false, false, false, false, true, false, false, true)) else (if x5 = 9 then (some (true, true, true, false, false, x102003, false, true)) else (some (false, false, false, false, false, false, false, (x102000 == 12))))
end
def note_shapeOf.f (k : Nat) (a0_0 : Int) (a0_1 : Int) (a0_2 : Bool) (a0_3 : Bool) (a0_4 : Int) (a0_5 : Int) (a0_6 : Int) (a0_7 : Int) (a0_8 : Int) (l0_9 : List (S33)) (l0_10 : List (S65)) : Option (Bool × Bool × Bool × Bool × Bool × Bool × Bool × Bool) := if a0_0 = 1 then (some (true, true, true, false, false, false, false, true)) else (if a0_0 = 2 then (note_shapeOf.j0 k a0_0 (a0_0 == 2) a0_0 a0_1 a0_2 a0_3 a0_4 a0_5 a0_6 a0_7 a0_8 l0_9 l0_10) else (note_shapeOf.j0 k a0_0 (a0_0 == 10) a0_0 a0_1 a0_2 a0_3 a0_4 a0_5 a0_6 a0_7 a0_8 l0_9 l0_10))
set_option maxHeartbeats 8000000 in
set_option maxRecDepth 100000 in
theorem note_shapeOf.calls (k : Nat) (a0_0 : Int) (a0_1 : Int) (a0_2 : Bool) (a0_3 : Bool) (a0_4 : Int) (a0_5 : Int) (a0_6 : Int) (a0_7 : Int) (a0_8 : Int) (A0_9 : Option Addr) (c0_9 : Nat) (l0_9 : List (S33)) (A0_10 : Option Addr) (c0_10 : Nat) (l0_10 : List (S65)) (r1 : Bool) (r2 : Bool) (r3 : Bool) (r4 : Bool) (r5 : Bool) (r6 : Bool) (r7 : Bool) (r8 : Bool) (w : World) (hr0_9 : Kd.C k33 w A0_9 l0_9.length l0_9) (hc0_9 : l0_9.length ≤ c0_9) (hr0_10 : Kd.C k65 w A0_10 l0_10.length l0_10) (hc0_10 : l0_10.length ≤ c0_10) (h : note_shapeOf.f k a0_0 a0_1 a0_2 a0_3 a0_4 a0_5 a0_6 a0_7 a0_8 l0_9 l0_10 = some (r1, r2, r3, r4, r5, r6, r7, r8)) :
  Calls Try.prog 88 #[.agg #[.int .i64 a0_0, .int .i64 a0_1, .bool a0_2, .bool a0_3, .int .i64 a0_4, .int .i64 a0_5, .int .i64 a0_6, .int .i64 a0_7, .int .i64 a0_8, .slice A0_9 l0_9.length c0_9, .slice A0_10 l0_10.length c0_10]] w fun e w' => e = .returned (.tuple #[.agg #[.bool r1, .bool r2, .bool r3, .bool r4, .bool r5, .bool r6, .bool r7], .bool r8]) ∧ Below w.heap.size w w' := by
 have hu55 := Try.underlying55
 have hu107 := Try.underlying107
 have HR0_9 := aq hr0_9
 have HC0_9 := aq hc0_9
 clear hr0_9 hc0_9
 have HR0_10 := aq hr0_10
 have HC0_10 := aq hc0_10
 clear hr0_10 hc0_10
 have HB := aq (Below.refl w.heap.size w)
 have H : (if a0_0 = 1 then (some (true, true, true, false, false, false, false, true)) else (if a0_0 = 2 then (note_shapeOf.j0 k a0_0 (a0_0 == 2) a0_0 a0_1 a0_2 a0_3 a0_4 a0_5 a0_6 a0_7 a0_8 l0_9 l0_10) else (note_shapeOf.j0 k a0_0 (a0_0 == 10) a0_0 a0_1 a0_2 a0_3 a0_4 a0_5 a0_6 a0_7 a0_8 l0_9 l0_10))) = some (r1, r2, r3, r4, r5, r6, r7, r8) := h
 clear h
 by_cases c2 : a0_0 = 1
 ·rw [if_pos c2] at H
  have c2b0 : (a0_0 == 1) = true := beq_iff_eq.mpr c2
  have c2b1 : (a0_0 != 1) = false := bne_eq_false_iff_eq.mpr c2
  clear c2
  simp only [Option.some.injEq, Prod.mk.injEq] at H
  obtain ⟨rfl, rfl, rfl, rfl, rfl, rfl, rfl, rfl⟩ := H
  go_enter Try.func88, Try.ntmps88
  go_wp2_with (first | ((with_reducible refine gate_dst (N := 1) rfl ?_); refine box_event ?hg (N := 1) ?hd (cs := #[.int .i64 a0_0, .int .i64 a0_1, .bool a0_2, .bool a0_3, .int .i64 a0_4, .int .i64 a0_5, .int .i64 a0_6, .int .i64 a0_7, .int .i64 a0_8, .slice A0_9 l0_9.length c0_9, .slice A0_10 l0_10.length c0_10]) (t := 55) ?hr ?_; (case hd => rfl); (case hg => rfl); (case hr => first | (go_simp; done) | (go_simp; rfl)); intro gb101 hg w3 hbox hb; have n0_ := aq (below_step (stH HB) hb); have n1_ := aq (hbox); have n2_ := aq ((by rw [hg]; exact (below_size (stH HB)) : w.heap.size ≤ gb101)); have n3_ := aq ((by rw [hg]; exact (below_size (stH HB)) : w.heap.size ≤ gb101)); replace HB := n0_; have BK101 := n1_; have GW101 := n2_; have GE101 := n3_; clear n0_ n1_ n2_ n3_; clear hb hbox hg) | ((with_reducible refine gate_dst (N := 2) rfl ?_); refine box_event ?hg (N := 2) ?hd (cs := #[.bool false, .bool false, .bool false, .bool false, .bool false, .bool false, .bool false]) (t := 107) ?hr ?_; (case hd => rfl); (case hg => rfl); (case hr => first | (go_simp; done) | (go_simp; rfl)); intro gb102 hg w4 hbox hb; have n0_ := aq (blk_below (stB BK101) hb); have n1_ := aq (below_step (stH HB) hb); have n2_ := aq (hbox); have n3_ := aq ((by rw [hg]; exact (below_size (stH HB)) : w.heap.size ≤ gb102)); have n4_ := aq ((by rw [hg]; exact (below_size (stH HB)) : w.heap.size ≤ gb102)); have n5_ := aq ((by rw [hg]; exact Nat.ne_of_lt (blk_lt (stB BK101)) : gb101 ≠ gb102)); have n6_ := aq ((by rw [hg]; exact Nat.ne_of_gt (blk_lt (stB BK101)) : gb102 ≠ gb101)); replace BK101 := n0_; replace HB := n1_; have BK102 := n2_; have GW102 := n3_; have GE102 := n4_; have NB101_102 := n5_; have NB102_101 := n6_; clear n0_ n1_ n2_ n3_ n4_ n5_ n6_; clear hb hbox hg; have hnb5 := NB101_102.out; have hnc5 := NB102_101.out; obtain ⟨k6a, k6b, k6c, k6d, k6e, k6f, k6g, k6h, k6i, k6j, k6k⟩ := cl11 (W := w4) BK101.out; obtain ⟨u6a, u6b, u6c, u6d, u6e, u6f, u6g, u6h, u6i, u6j, u6k⟩ := fr11 BK101.out; obtain ⟨k7a, k7b, k7c, k7d, k7e, k7f, k7g⟩ := cl7 (W := w4) BK102.out; obtain ⟨u7a, u7b, u7c, u7d, u7e, u7f, u7g⟩ := fr7 BK102.out))
  refine bodyPost_ret (results_ct rfl _ _ gb102 107 #[.bool true, .bool true, .bool true, .bool false, .bool false, .bool false, .bool false] (0, 0) _ rfl (by (with_reducible repeat (first | refine blk_drewN ?_ _ | refine blk_drew ?_ | refine blk_alloc ?_ _)); refine puts7 (cs := #[.bool false, .bool false, .bool false, .bool false, .bool false, .bool false, .bool false]) rfl ?_; (with_reducible repeat (first | refine blk_drewN ?_ _ | refine blk_drew ?_ | refine blk_alloc ?_ _)); exact BK102.out) Try.underlying107 rfl (by kernel_rfl)) rfl ?_
  exact ⟨eqW, by repeat (first | (with_reducible first | exact HB.out | apply below_alloc | apply pw_below_drewN | apply below_drew1 | refine below_set ?_ GE101.out | refine below_set ?_ GE102.out) | exact HB.out)⟩
 ·rw [if_neg c2] at H
  have c2b0 : (a0_0 == 1) = false := beq_eq_false_iff_ne.mpr c2
  have c2b1 : (a0_0 != 1) = true := bne_iff_ne.mpr c2
  have HC8 := aq H
  clear H
  go_enter Try.func88, Try.ntmps88
  go_upto_if 9 with (first | ((with_reducible refine gate_dst (N := 1) rfl ?_); refine box_event ?hg (N := 1) ?hd (cs := #[.int .i64 a0_0, .int .i64 a0_1, .bool a0_2, .bool a0_3, .int .i64 a0_4, .int .i64 a0_5, .int .i64 a0_6, .int .i64 a0_7, .int .i64 a0_8, .slice A0_9 l0_9.length c0_9, .slice A0_10 l0_10.length c0_10]) (t := 55) ?hr ?_; (case hd => rfl); (case hg => rfl); (case hr => first | (go_simp; done) | (go_simp; rfl)); intro gb101 hg w9 hbox hb; have n0_ := aq (below_step (stH HB) hb); have n1_ := aq (hbox); have n2_ := aq ((by rw [hg]; exact (below_size (stH HB)) : w.heap.size ≤ gb101)); have n3_ := aq ((by rw [hg]; exact (below_size (stH HB)) : w.heap.size ≤ gb101)); replace HB := n0_; have BK101 := n1_; have GW101 := n2_; have GE101 := n3_; clear n0_ n1_ n2_ n3_; clear hb hbox hg) | ((with_reducible refine gate_dst (N := 2) rfl ?_); refine box_event ?hg (N := 2) ?hd (cs := #[.bool false, .bool false, .bool false, .bool false, .bool false, .bool false, .bool false]) (t := 107) ?hr ?_; (case hd => rfl); (case hg => rfl); (case hr => first | (go_simp; done) | (go_simp; rfl)); intro gb102 hg w10 hbox hb; have n0_ := aq (blk_below (stB BK101) hb); have n1_ := aq (below_step (stH HB) hb); have n2_ := aq (hbox); have n3_ := aq ((by rw [hg]; exact (below_size (stH HB)) : w.heap.size ≤ gb102)); have n4_ := aq ((by rw [hg]; exact (below_size (stH HB)) : w.heap.size ≤ gb102)); have n5_ := aq ((by rw [hg]; exact Nat.ne_of_lt (blk_lt (stB BK101)) : gb101 ≠ gb102)); have n6_ := aq ((by rw [hg]; exact Nat.ne_of_gt (blk_lt (stB BK101)) : gb102 ≠ gb101)); replace BK101 := n0_; replace HB := n1_; have BK102 := n2_; have GW102 := n3_; have GE102 := n4_; have NB101_102 := n5_; have NB102_101 := n6_; clear n0_ n1_ n2_ n3_ n4_ n5_ n6_; clear hb hbox hg; have hnb11 := NB101_102.out; have hnc11 := NB102_101.out; obtain ⟨k12a, k12b, k12c, k12d, k12e, k12f, k12g, k12h, k12i, k12j, k12k⟩ := cl11 (W := w10) BK101.out; obtain ⟨u12a, u12b, u12c, u12d, u12e, u12f, u12g, u12h, u12i, u12j, u12k⟩ := fr11 BK101.out))
  (try simp only [Act.put, List.setIfInBounds_toArray, List.set_cons_zero, List.set_cons_succ])
  go_cut [9] (fun v9 wc => ∃ (kq : Nat) (x9_7 : Bool), v9 = .bool x9_7 ∧ Aside0 (note_shapeOf.j0 kq a0_0 x9_7 a0_0 a0_1 a0_2 a0_3 a0_4 a0_5 a0_6 a0_7 a0_8 l0_9 l0_10 = some (r1, r2, r3, r4, r5, r6, r7, r8)) ∧ Aside0 (kq ≤ k) ∧ Aside0 (wc.heap[gb101]? = some (.cells #[.int .i64 a0_0, .int .i64 a0_1, .bool a0_2, .bool a0_3, .int .i64 a0_4, .int .i64 a0_5, .int .i64 a0_6, .int .i64 a0_7, .int .i64 a0_8, (.slice A0_9 l0_9.length c0_9), (.slice A0_10 l0_10.length c0_10)] 55 (0, 0))) ∧ Aside0 (wc.heap[gb102]? = some (.cells #[.bool false, .bool false, .bool false, .bool false, .bool false, .bool false, .bool false] 107 (0, 0))) ∧ Aside0 (Below w.heap.size w wc))
  case first =>
   have H := HC8.out
   clear HC8
   by_cases c13 : a0_0 = 2
   ·rw [if_pos c13] at H
    have c13b0 : (a0_0 == 2) = true := beq_iff_eq.mpr c13
    have c13b1 : (a0_0 != 2) = false := bne_eq_false_iff_eq.mpr c13
    clear c13
    (first | rw [c13b0] | (simp only [i64_w, i32_w]; rw [c13b0]) | skip)
    have H' := aq H
    clear H
    go_wp2
    go_meet
    case rel => exact ⟨_, ((a0_0 == 2)), eqS, H', ⟨by first | omega | exact Nat.le_refl _⟩, ⟨stB BK101⟩, ⟨stB BK102⟩, ⟨stH HB⟩⟩
   ·rw [if_neg c13] at H
    have c13b0 : (a0_0 == 2) = false := beq_eq_false_iff_ne.mpr c13
    have c13b1 : (a0_0 != 2) = true := bne_iff_ne.mpr c13
    (first | rw [c13b0] | (simp only [i64_w, i32_w]; rw [c13b0]) | skip)
    have H' := aq H
    clear H
    go_wp2
    go_meet
    case rel => exact ⟨_, ((a0_0 == 10)), eqS, H', ⟨by first | omega | exact Nat.le_refl _⟩, ⟨stB BK101⟩, ⟨stB BK102⟩, ⟨stH HB⟩⟩
  case rest =>
   clear HC8
   try clear k12a k12b k12c k12d k12e k12f k12g k12h k12i k12j k12k
   try clear u12a u12b u12c u12d u12e u12f u12g u12h u12i u12j u12k
   try clear c1
   try clear c2
   try clear c2b0
   try clear c2b1
   try clear p2
   try clear c5
   try clear c8
   try clear c11
   try clear c13
   try clear c13b0
   try clear c13b1
   obtain ⟨kq, x9_7, rfl, HA, HJ7, BK101, BK102, HB⟩ := hcut
   cases kq with
   | zero => exact absurd HA.out (by simp [note_shapeOf.j0])
   | succ kj7 =>
    have H := HA.out
    clear HA
    simp only [note_shapeOf.j0] at H
    by_cases c14 : x9_7 = true
    ·subst c14
     rw [if_pos rfl] at H
     simp only [Option.some.injEq, Prod.mk.injEq] at H
     obtain ⟨rfl, rfl, rfl, rfl, rfl, rfl, rfl, rfl⟩ := H
     have hnb15 := NB102_101.out
     have hnc15 := NB101_102.out
     obtain ⟨k16a, k16b, k16c, k16d, k16e, k16f, k16g⟩ := cl7 (W := wc) BK102.out
     obtain ⟨u16a, u16b, u16c, u16d, u16e, u16f, u16g⟩ := fr7 BK102.out
     go_wp2
     refine bodyPost_ret (results_ct rfl _ _ gb102 107 #[.bool true, .bool true, .bool false, .bool false, .bool false, .bool false, .bool false] (0, 0) _ rfl (by (with_reducible repeat (first | refine blk_drewN ?_ _ | refine blk_drew ?_ | refine blk_alloc ?_ _)); refine puts7 (cs := #[.bool false, .bool false, .bool false, .bool false, .bool false, .bool false, .bool false]) rfl ?_; (with_reducible repeat (first | refine blk_drewN ?_ _ | refine blk_drew ?_ | refine blk_alloc ?_ _)); exact BK102.out) Try.underlying107 rfl (by kernel_rfl)) rfl ?_
     exact ⟨eqW, by repeat (first | (with_reducible first | exact HB.out | apply below_alloc | apply pw_below_drewN | apply below_drew1 | refine below_set ?_ GE101.out | refine below_set ?_ GE102.out) | exact HB.out)⟩
    ·replace c14 := Bool.eq_false_iff.mpr c14
     subst c14
     rw [if_neg (show ¬ (false = true) by decide)] at H
     by_cases c17 : a0_0 = 3
     ·rw [if_pos c17] at H
      have c17b0 : (a0_0 == 3) = true := beq_iff_eq.mpr c17
      have c17b1 : (a0_0 != 3) = false := bne_eq_false_iff_eq.mpr c17
      clear c17
      simp only [Option.some.injEq, Prod.mk.injEq] at H
      obtain ⟨rfl, rfl, rfl, rfl, rfl, rfl, rfl, rfl⟩ := H
      have hnb18 := NB102_101.out
      have hnc18 := NB101_102.out
      obtain ⟨k19a, k19b, k19c, k19d, k19e, k19f, k19g⟩ := cl7 (W := wc) BK102.out
      obtain ⟨u19a, u19b, u19c, u19d, u19e, u19f, u19g⟩ := fr7 BK102.out
      go_wp2
      refine bodyPost_ret (results_ct rfl _ _ gb102 107 #[.bool true, .bool false, .bool false, .bool false, .bool false, .bool false, .bool false] (0, 0) _ rfl (by (with_reducible repeat (first | refine blk_drewN ?_ _ | refine blk_drew ?_ | refine blk_alloc ?_ _)); refine puts7 (cs := #[.bool false, .bool false, .bool false, .bool false, .bool false, .bool false, .bool false]) rfl ?_; (with_reducible repeat (first | refine blk_drewN ?_ _ | refine blk_drew ?_ | refine blk_alloc ?_ _)); exact BK102.out) Try.underlying107 rfl (by kernel_rfl)) rfl ?_
      exact ⟨eqW, by repeat (first | (with_reducible first | exact HB.out | apply below_alloc | apply pw_below_drewN | apply below_drew1 | refine below_set ?_ GE101.out | refine below_set ?_ GE102.out) | exact HB.out)⟩
     ·rw [if_neg c17] at H
      have c17b0 : (a0_0 == 3) = false := beq_eq_false_iff_ne.mpr c17
      have c17b1 : (a0_0 != 3) = true := bne_iff_ne.mpr c17
      by_cases c20 : a0_0 = 4
      ·rw [if_pos c20] at H
       have c20b0 : (a0_0 == 4) = true := beq_iff_eq.mpr c20
       have c20b1 : (a0_0 != 4) = false := bne_eq_false_iff_eq.mpr c20
       clear c20
       simp only [Option.some.injEq, Prod.mk.injEq] at H
       obtain ⟨rfl, rfl, rfl, rfl, rfl, rfl, rfl, rfl⟩ := H
       have hnb21 := NB102_101.out
       have hnc21 := NB101_102.out
       obtain ⟨k22a, k22b, k22c, k22d, k22e, k22f, k22g⟩ := cl7 (W := wc) BK102.out
       obtain ⟨u22a, u22b, u22c, u22d, u22e, u22f, u22g⟩ := fr7 BK102.out
       go_wp2
       refine bodyPost_ret (results_ct rfl _ _ gb102 107 #[.bool false, .bool false, .bool false, .bool false, .bool false, .bool false, .bool true] (0, 0) _ rfl (by (with_reducible repeat (first | refine blk_drewN ?_ _ | refine blk_drew ?_ | refine blk_alloc ?_ _)); refine puts7 (cs := #[.bool false, .bool false, .bool false, .bool false, .bool false, .bool false, .bool false]) rfl ?_; (with_reducible repeat (first | refine blk_drewN ?_ _ | refine blk_drew ?_ | refine blk_alloc ?_ _)); exact BK102.out) Try.underlying107 rfl (by kernel_rfl)) rfl ?_
       exact ⟨eqW, by repeat (first | (with_reducible first | exact HB.out | apply below_alloc | apply pw_below_drewN | apply below_drew1 | refine below_set ?_ GE101.out | refine below_set ?_ GE102.out) | exact HB.out)⟩
      ·rw [if_neg c20] at H
       have c20b0 : (a0_0 == 4) = false := beq_eq_false_iff_ne.mpr c20
       have c20b1 : (a0_0 != 4) = true := bne_iff_ne.mpr c20
       by_cases c23 : a0_0 = 5
       ·rw [if_pos c23] at H
        have c23b0 : (a0_0 == 5) = true := beq_iff_eq.mpr c23
        have c23b1 : (a0_0 != 5) = false := bne_eq_false_iff_eq.mpr c23
        clear c23
        simp only [Option.some.injEq, Prod.mk.injEq] at H
        obtain ⟨rfl, rfl, rfl, rfl, rfl, rfl, rfl, rfl⟩ := H
        have hnb24 := NB102_101.out
        have hnc24 := NB101_102.out
        obtain ⟨k25a, k25b, k25c, k25d, k25e, k25f, k25g⟩ := cl7 (W := wc) BK102.out
        obtain ⟨u25a, u25b, u25c, u25d, u25e, u25f, u25g⟩ := fr7 BK102.out
        go_wp2
        refine bodyPost_ret (results_ct rfl _ _ gb102 107 #[.bool true, .bool false, .bool false, .bool false, .bool false, .bool true, .bool false] (0, 0) _ rfl (by (with_reducible repeat (first | refine blk_drewN ?_ _ | refine blk_drew ?_ | refine blk_alloc ?_ _)); refine puts7 (cs := #[.bool false, .bool false, .bool false, .bool false, .bool false, .bool false, .bool false]) rfl ?_; (with_reducible repeat (first | refine blk_drewN ?_ _ | refine blk_drew ?_ | refine blk_alloc ?_ _)); exact BK102.out) Try.underlying107 rfl (by kernel_rfl)) rfl ?_
        exact ⟨eqW, by repeat (first | (with_reducible first | exact HB.out | apply below_alloc | apply pw_below_drewN | apply below_drew1 | refine below_set ?_ GE101.out | refine below_set ?_ GE102.out) | exact HB.out)⟩
       ·rw [if_neg c23] at H
        have c23b0 : (a0_0 == 5) = false := beq_eq_false_iff_ne.mpr c23
        have c23b1 : (a0_0 != 5) = true := bne_iff_ne.mpr c23
        have HC26 := aq H
        clear H
        go_upto_if 22 with (fail)
        go_cut [22] (fun v22 wc => ∃ (kq : Nat) (x22_25 : Bool), v22 = .bool x22_25 ∧ Aside0 (note_shapeOf.j1 kq a0_0 x22_25 a0_0 a0_1 a0_2 a0_3 a0_4 a0_5 a0_6 a0_7 a0_8 l0_9 l0_10 = some (r1, r2, r3, r4, r5, r6, r7, r8)) ∧ Aside0 (kq ≤ kj7) ∧ Aside0 (wc.heap[gb101]? = some (.cells #[.int .i64 a0_0, .int .i64 a0_1, .bool a0_2, .bool a0_3, .int .i64 a0_4, .int .i64 a0_5, .int .i64 a0_6, .int .i64 a0_7, .int .i64 a0_8, (.slice A0_9 l0_9.length c0_9), (.slice A0_10 l0_10.length c0_10)] 55 (0, 0))) ∧ Aside0 (wc.heap[gb102]? = some (.cells #[.bool false, .bool false, .bool false, .bool false, .bool false, .bool false, .bool false] 107 (0, 0))) ∧ Aside0 (Below w.heap.size w wc))
        case first =>
         have H := HC26.out
         clear HC26
         by_cases c27 : a0_0 = 6
         ·rw [if_pos c27] at H
          have c27b0 : (a0_0 == 6) = true := beq_iff_eq.mpr c27
          have c27b1 : (a0_0 != 6) = false := bne_eq_false_iff_eq.mpr c27
          clear c27
          (first | rw [c27b0] | (simp only [i64_w, i32_w]; rw [c27b0]) | skip)
          have H' := aq H
          clear H
          go_wp2
          go_meet
          case rel => exact ⟨_, ((a0_0 == 6)), eqS, H', ⟨by have := HJ7.out; first | omega | exact Nat.le_refl _⟩, ⟨stB BK101⟩, ⟨stB BK102⟩, ⟨stH HB⟩⟩
         ·rw [if_neg c27] at H
          have c27b0 : (a0_0 == 6) = false := beq_eq_false_iff_ne.mpr c27
          have c27b1 : (a0_0 != 6) = true := bne_iff_ne.mpr c27
          (first | rw [c27b0] | (simp only [i64_w, i32_w]; rw [c27b0]) | skip)
          have H' := aq H
          clear H
          go_wp2
          go_meet
          case rel => exact ⟨_, ((a0_0 == 11)), eqS, H', ⟨by have := HJ7.out; first | omega | exact Nat.le_refl _⟩, ⟨stB BK101⟩, ⟨stB BK102⟩, ⟨stH HB⟩⟩
        case rest =>
         clear HC26
         try clear c1
         try clear c2
         try clear c2b0
         try clear c2b1
         try clear p2
         try clear c5
         try clear c8
         try clear c11
         try clear c13
         try clear c13b0
         try clear c13b1
         try clear c14
         try clear c15
         try clear c17
         try clear c17b0
         try clear c17b1
         try clear c18
         try clear c20
         try clear c20b0
         try clear c20b1
         try clear c21
         try clear c23
         try clear c23b0
         try clear c23b1
         try clear c24
         try clear c27
         try clear c27b0
         try clear c27b1
         obtain ⟨kq, x22_25, rfl, HA, HJ25, BK101, BK102, HB⟩ := hcut
         cases kq with
         | zero => exact absurd HA.out (by simp [note_shapeOf.j1])
         | succ kj25 =>
          have H := HA.out
          clear HA
          simp only [note_shapeOf.j1] at H
          by_cases c28 : x22_25 = true
          ·subst c28
           rw [if_pos rfl] at H
           simp only [Option.some.injEq, Prod.mk.injEq] at H
           obtain ⟨rfl, rfl, rfl, rfl, rfl, rfl, rfl, rfl⟩ := H
           have hnb29 := NB102_101.out
           have hnc29 := NB101_102.out
           obtain ⟨k30a, k30b, k30c, k30d, k30e, k30f, k30g⟩ := cl7 (W := wc) BK102.out
           obtain ⟨u30a, u30b, u30c, u30d, u30e, u30f, u30g⟩ := fr7 BK102.out
           go_wp2
           refine bodyPost_ret (results_ct rfl _ _ gb102 107 #[.bool false, .bool false, .bool false, .bool true, .bool false, .bool false, .bool false] (0, 0) _ rfl (by (with_reducible repeat (first | refine blk_drewN ?_ _ | refine blk_drew ?_ | refine blk_alloc ?_ _)); refine puts7 (cs := #[.bool false, .bool false, .bool false, .bool false, .bool false, .bool false, .bool false]) rfl ?_; (with_reducible repeat (first | refine blk_drewN ?_ _ | refine blk_drew ?_ | refine blk_alloc ?_ _)); exact BK102.out) Try.underlying107 rfl (by kernel_rfl)) rfl ?_
           exact ⟨eqW, by repeat (first | (with_reducible first | exact HB.out | apply below_alloc | apply pw_below_drewN | apply below_drew1 | refine below_set ?_ GE101.out | refine below_set ?_ GE102.out) | exact HB.out)⟩
          ·replace c28 := Bool.eq_false_iff.mpr c28
           subst c28
           rw [if_neg (show ¬ (false = true) by decide)] at H
           have HC31 := aq H
           clear H
           go_upto_if 26 with (fail)
           go_cut [26] (fun v26 wc => ∃ (kq : Nat) (x26_30 : Bool), v26 = .bool x26_30 ∧ Aside0 (note_shapeOf.j2 kq a0_0 x26_30 a0_0 a0_1 a0_2 a0_3 a0_4 a0_5 a0_6 a0_7 a0_8 l0_9 l0_10 = some (r1, r2, r3, r4, r5, r6, r7, r8)) ∧ Aside0 (kq ≤ kj25) ∧ Aside0 (wc.heap[gb101]? = some (.cells #[.int .i64 a0_0, .int .i64 a0_1, .bool a0_2, .bool a0_3, .int .i64 a0_4, .int .i64 a0_5, .int .i64 a0_6, .int .i64 a0_7, .int .i64 a0_8, (.slice A0_9 l0_9.length c0_9), (.slice A0_10 l0_10.length c0_10)] 55 (0, 0))) ∧ Aside0 (wc.heap[gb102]? = some (.cells #[.bool false, .bool false, .bool false, .bool false, .bool false, .bool false, .bool false] 107 (0, 0))) ∧ Aside0 (Below w.heap.size w wc))
           case first =>
            have H := HC31.out
            clear HC31
            by_cases c32 : a0_0 = 7
            ·rw [if_pos c32] at H
             have c32b0 : (a0_0 == 7) = true := beq_iff_eq.mpr c32
             have c32b1 : (a0_0 != 7) = false := bne_eq_false_iff_eq.mpr c32
             clear c32
             (first | rw [c32b0] | (simp only [i64_w, i32_w]; rw [c32b0]) | skip)
             have H' := aq H
             clear H
             go_wp2
             go_meet
             case rel => exact ⟨_, ((a0_0 == 7)), eqS, H', ⟨by have := HJ7.out; have := HJ25.out; first | omega | exact Nat.le_refl _⟩, ⟨stB BK101⟩, ⟨stB BK102⟩, ⟨stH HB⟩⟩
            ·rw [if_neg c32] at H
             have c32b0 : (a0_0 == 7) = false := beq_eq_false_iff_ne.mpr c32
             have c32b1 : (a0_0 != 7) = true := bne_iff_ne.mpr c32
             (first | rw [c32b0] | (simp only [i64_w, i32_w]; rw [c32b0]) | skip)
             by_cases c33 : a0_0 = 8
             ·rw [if_pos c33] at H
              have c33b0 : (a0_0 == 8) = true := beq_iff_eq.mpr c33
              have c33b1 : (a0_0 != 8) = false := bne_eq_false_iff_eq.mpr c33
              clear c33
              have H' := aq H
              clear H
              go_wp2
              go_meet
              case rel => exact ⟨_, ((a0_0 == 8)), eqS, H', ⟨by have := HJ7.out; have := HJ25.out; first | omega | exact Nat.le_refl _⟩, ⟨stB BK101⟩, ⟨stB BK102⟩, ⟨stH HB⟩⟩
             ·rw [if_neg c33] at H
              have c33b0 : (a0_0 == 8) = false := beq_eq_false_iff_ne.mpr c33
              have c33b1 : (a0_0 != 8) = true := bne_iff_ne.mpr c33
              have H' := aq H
              clear H
              go_wp2
              go_meet
              case rel => exact ⟨_, ((a0_0 == 13)), eqS, H', ⟨by have := HJ7.out; have := HJ25.out; first | omega | exact Nat.le_refl _⟩, ⟨stB BK101⟩, ⟨stB BK102⟩, ⟨stH HB⟩⟩
           case rest =>
            clear HC31
            try clear c1
            try clear c2
            try clear c2b0
            try clear c2b1
            try clear p2
            try clear c3
            try clear c5
            try clear c8
            try clear c11
            try clear c13
            try clear c13b0
            try clear c13b1
            try clear c14
            try clear c15
            try clear c17
            try clear c17b0
            try clear c17b1
            try clear c18
            try clear c20
            try clear c20b0
            try clear c20b1
            try clear c21
            try clear c23
            try clear c23b0
            try clear c23b1
            try clear c24
            try clear c27
            try clear c27b0
            try clear c27b1
            try clear c28
            try clear c29
            try clear c32
            try clear c32b0
            try clear c32b1
            try clear c33
            try clear c33b0
            try clear c33b1
            obtain ⟨kq, x26_30, rfl, HA, HJ30, BK101, BK102, HB⟩ := hcut
            cases kq with
            | zero => exact absurd HA.out (by simp [note_shapeOf.j2])
            | succ kj30 =>
             have H := HA.out
             clear HA
             simp only [note_shapeOf.j2] at H
             by_cases c34 : x26_30 = true
             ·subst c34
              rw [if_pos rfl] at H
              simp only [Option.some.injEq, Prod.mk.injEq] at H
              obtain ⟨rfl, rfl, rfl, rfl, rfl, rfl, rfl, rfl⟩ := H
              have hnb35 := NB102_101.out
              have hnc35 := NB101_102.out
              obtain ⟨k36a, k36b, k36c, k36d, k36e, k36f, k36g⟩ := cl7 (W := wc) BK102.out
              obtain ⟨u36a, u36b, u36c, u36d, u36e, u36f, u36g⟩ := fr7 BK102.out
              go_wp2
              refine bodyPost_ret (results_ct rfl _ _ gb102 107 #[.bool false, .bool false, .bool false, .bool false, .bool true, .bool false, .bool false] (0, 0) _ rfl (by (with_reducible repeat (first | refine blk_drewN ?_ _ | refine blk_drew ?_ | refine blk_alloc ?_ _)); refine puts7 (cs := #[.bool false, .bool false, .bool false, .bool false, .bool false, .bool false, .bool false]) rfl ?_; (with_reducible repeat (first | refine blk_drewN ?_ _ | refine blk_drew ?_ | refine blk_alloc ?_ _)); exact BK102.out) Try.underlying107 rfl (by kernel_rfl)) rfl ?_
              exact ⟨eqW, by repeat (first | (with_reducible first | exact HB.out | apply below_alloc | apply pw_below_drewN | apply below_drew1 | refine below_set ?_ GE101.out | refine below_set ?_ GE102.out) | exact HB.out)⟩
             ·replace c34 := Bool.eq_false_iff.mpr c34
              subst c34
              rw [if_neg (show ¬ (false = true) by decide)] at H
              by_cases c37 : a0_0 = 9
              ·rw [if_pos c37] at H
               have c37b0 : (a0_0 == 9) = true := beq_iff_eq.mpr c37
               have c37b1 : (a0_0 != 9) = false := bne_eq_false_iff_eq.mpr c37
               clear c37
               simp only [Option.some.injEq, Prod.mk.injEq] at H
               obtain ⟨rfl, rfl, rfl, rfl, rfl, rfl, rfl, rfl⟩ := H
               have hnb38 := NB101_102.out
               have hnc38 := NB102_101.out
               obtain ⟨k39a, k39b, k39c, k39d, k39e, k39f, k39g, k39h, k39i, k39j, k39k⟩ := cl11 (W := wc) BK101.out
               obtain ⟨u39a, u39b, u39c, u39d, u39e, u39f, u39g, u39h, u39i, u39j, u39k⟩ := fr11 BK101.out
               obtain ⟨k40a, k40b, k40c, k40d, k40e, k40f, k40g⟩ := cl7 (W := wc) BK102.out
               obtain ⟨u40a, u40b, u40c, u40d, u40e, u40f, u40g⟩ := fr7 BK102.out
               go_wp2
               refine bodyPost_ret (results_ct rfl _ _ gb102 107 #[.bool true, .bool true, .bool true, .bool false, .bool false, .bool a0_3, .bool false] (0, 0) _ rfl (by (with_reducible repeat (first | refine blk_drewN ?_ _ | refine blk_drew ?_ | refine blk_alloc ?_ _)); refine puts7 (cs := #[.bool false, .bool false, .bool false, .bool false, .bool false, .bool false, .bool false]) rfl ?_; (with_reducible repeat (first | refine blk_drewN ?_ _ | refine blk_drew ?_ | refine blk_alloc ?_ _)); exact BK102.out) Try.underlying107 rfl (by kernel_rfl)) rfl ?_
               exact ⟨eqW, by repeat (first | (with_reducible first | exact HB.out | apply below_alloc | apply pw_below_drewN | apply below_drew1 | refine below_set ?_ GE101.out | refine below_set ?_ GE102.out) | exact HB.out)⟩
              ·rw [if_neg c37] at H
               have c37b0 : (a0_0 == 9) = false := beq_eq_false_iff_ne.mpr c37
               have c37b1 : (a0_0 != 9) = true := bne_iff_ne.mpr c37
               simp only [Option.some.injEq, Prod.mk.injEq] at H
               obtain ⟨rfl, rfl, rfl, rfl, rfl, rfl, rfl, rfl⟩ := H
               try go_wp2
               have n0_ := aq (blk_drew BK101.out)
               have n1_ := aq (blk_drew BK102.out)
               have n2_ := aq (below_drew1 HB.out)
               clear BK101
               clear BK102
               clear HB
               have BK101 := n0_
               have BK102 := n1_
               have HB := n2_
               clear n0_ n1_ n2_
               refine start_ (n := 6) (S := fun w' => w'.cell? ⟨gb101, 0, none⟩ = some (.int .i64 a0_0) ∧ w'.cell? ⟨gb101, 1, none⟩ = some (.int .i64 a0_1) ∧ w'.cell? ⟨gb101, 2, none⟩ = some (.bool a0_2) ∧ w'.cell? ⟨gb101, 3, none⟩ = some (.bool a0_3) ∧ w'.cell? ⟨gb101, 4, none⟩ = some (.int .i64 a0_4) ∧ w'.cell? ⟨gb101, 5, none⟩ = some (.int .i64 a0_5) ∧ w'.cell? ⟨gb101, 6, none⟩ = some (.int .i64 a0_6) ∧ w'.cell? ⟨gb101, 7, none⟩ = some (.int .i64 a0_7) ∧ w'.cell? ⟨gb101, 8, none⟩ = some (.int .i64 a0_8) ∧ w'.cell? ⟨gb101, 9, none⟩ = some (.slice A0_9 l0_9.length c0_9) ∧ w'.cell? ⟨gb101, 10, none⟩ = some (.slice A0_10 l0_10.length c0_10)) (ds := []) #[false, false, false, false, false, false] (by kernel_rfl) rfl rfl ⟨(blk_cell BK101.out 0).trans rfl, (blk_cell BK101.out 1).trans rfl, (blk_cell BK101.out 2).trans rfl, (blk_cell BK101.out 3).trans rfl, (blk_cell BK101.out 4).trans rfl, (blk_cell BK101.out 5).trans rfl, (blk_cell BK101.out 6).trans rfl, (blk_cell BK101.out 7).trans rfl, (blk_cell BK101.out 8).trans rfl, (blk_cell BK101.out 9).trans rfl, (blk_cell BK101.out 10).trans rfl⟩ (fun hHeld => ?_)
               generalize wc.drew = w41 at BK101 BK102 HB hHeld ⊢
               refine pure_ (i := 0) (N := some 36) (v := ?_) (a' := ?_) #[true, false, false, false, false, false] rfl rfl (by kernel_rfl) (fun _ _ _ h => h) (Or.inl ⟨by rfl, ?_⟩) ?_ ?_
               rotate_left
               ·intro w'
                go_simp
                with_reducible rfl
               rotate_left
               ·simp only [Act.put, List.setIfInBounds_toArray, List.set_cons_zero, List.set_cons_succ, i64_w, i32_w]
                rfl
               refine pure_ (i := 1) (N := some 37) (v := ?_) (a' := ?_) #[true, true, false, false, false, false] rfl rfl (by kernel_rfl) (fun _ _ _ h => h) (Or.inl ⟨by rfl, ?_⟩) ?_ ?_
               rotate_left
               ·intro w'
                go_simp
                with_reducible rfl
               rotate_left
               ·simp only [Act.put, List.setIfInBounds_toArray, List.set_cons_zero, List.set_cons_succ, i64_w, i32_w]
                rfl
               refine take_ (i := 2) (N := some 38) (v := ?_) (a' := ?_) #[true, true, true, false, false, false] rfl rfl (by kernel_rfl) (fun _ _ _ h => h) (Or.inl ⟨by rfl, ?_⟩) hHeld ?_ ?_
               rotate_left
               ·rintro w' ⟨s0, s1, s2, s3, s4, s5, s6, s7, s8, s9, s10⟩
                go_simp
                with_reducible rfl
               rotate_left
               ·simp only [Act.put, List.setIfInBounds_toArray, List.set_cons_zero, List.set_cons_succ, i64_w, i32_w]
                rfl
               refine pure_ (i := 3) (N := some 39) (v := ?_) (a' := ?_) #[true, true, true, true, false, false] rfl rfl (by kernel_rfl) (fun _ _ _ h => h) (Or.inl ⟨by rfl, ?_⟩) ?_ ?_
               rotate_left
               ·intro w'
                go_simp
                with_reducible rfl
               rotate_left
               ·simp only [Act.put, List.setIfInBounds_toArray, List.set_cons_zero, List.set_cons_succ, i64_w, i32_w]
                rfl
               refine one_ (i := 4) (N := none) #[true, true, true, true, true, false] rfl rfl (by kernel_rfl) (by decide) (fun K hK => ?_)
               have hs42 : w41.cell? ⟨gb102, 0, none⟩ = some (.bool false) := (blk_cell BK102.out 0).trans rfl
               have hfs42 := blk_frozen BK102.out 0
               have hns42_0 := NB101_102.out
               have hms42_0 := NB102_101.out
               have hs43 : w41.cell? ⟨gb102, 1, none⟩ = some (.bool false) := (blk_cell BK102.out 1).trans rfl
               have hfs43 := blk_frozen BK102.out 1
               have hns43_0 := NB101_102.out
               have hms43_0 := NB102_101.out
               have hs44 : w41.cell? ⟨gb102, 2, none⟩ = some (.bool false) := (blk_cell BK102.out 2).trans rfl
               have hfs44 := blk_frozen BK102.out 2
               have hns44_0 := NB101_102.out
               have hms44_0 := NB102_101.out
               have hs45 : w41.cell? ⟨gb102, 3, none⟩ = some (.bool false) := (blk_cell BK102.out 3).trans rfl
               have hfs45 := blk_frozen BK102.out 3
               have hns45_0 := NB101_102.out
               have hms45_0 := NB102_101.out
               have hs46 : w41.cell? ⟨gb102, 4, none⟩ = some (.bool false) := (blk_cell BK102.out 4).trans rfl
               have hfs46 := blk_frozen BK102.out 4
               have hns46_0 := NB101_102.out
               have hms46_0 := NB102_101.out
               have hs47 : w41.cell? ⟨gb102, 5, none⟩ = some (.bool false) := (blk_cell BK102.out 5).trans rfl
               have hfs47 := blk_frozen BK102.out 5
               have hns47_0 := NB101_102.out
               have hms47_0 := NB102_101.out
               have hs48 : w41.cell? ⟨gb102, 6, none⟩ = some (.bool false) := (blk_cell BK102.out 6).trans rfl
               have hfs48 := blk_frozen BK102.out 6
               have hns48_0 := NB101_102.out
               have hms48_0 := NB102_101.out
               refine skip_ (w1 := ?_) (by rfl) rfl ?_ ?_
               rotate_left
               ·go_simp
                rfl
               refine hK.out _ _ ⟨((cell_far (p := ⟨gb102, _, none⟩) NB101_102.out _).trans (((cell_far (p := ⟨gb102, _, none⟩) NB101_102.out _).trans (((cell_far (p := ⟨gb102, _, none⟩) NB101_102.out _).trans (((cell_far (p := ⟨gb102, _, none⟩) NB101_102.out _).trans (((cell_far (p := ⟨gb102, _, none⟩) NB101_102.out _).trans (((cell_far (p := ⟨gb102, _, none⟩) NB101_102.out _).trans (((cell_far (p := ⟨gb102, _, none⟩) NB101_102.out _).trans (hHeld.1)))))))))))))), ((cell_far (p := ⟨gb102, _, none⟩) NB101_102.out _).trans (((cell_far (p := ⟨gb102, _, none⟩) NB101_102.out _).trans (((cell_far (p := ⟨gb102, _, none⟩) NB101_102.out _).trans (((cell_far (p := ⟨gb102, _, none⟩) NB101_102.out _).trans (((cell_far (p := ⟨gb102, _, none⟩) NB101_102.out _).trans (((cell_far (p := ⟨gb102, _, none⟩) NB101_102.out _).trans (((cell_far (p := ⟨gb102, _, none⟩) NB101_102.out _).trans (hHeld.2.1)))))))))))))), ((cell_far (p := ⟨gb102, _, none⟩) NB101_102.out _).trans (((cell_far (p := ⟨gb102, _, none⟩) NB101_102.out _).trans (((cell_far (p := ⟨gb102, _, none⟩) NB101_102.out _).trans (((cell_far (p := ⟨gb102, _, none⟩) NB101_102.out _).trans (((cell_far (p := ⟨gb102, _, none⟩) NB101_102.out _).trans (((cell_far (p := ⟨gb102, _, none⟩) NB101_102.out _).trans (((cell_far (p := ⟨gb102, _, none⟩) NB101_102.out _).trans (hHeld.2.2.1)))))))))))))), ((cell_far (p := ⟨gb102, _, none⟩) NB101_102.out _).trans (((cell_far (p := ⟨gb102, _, none⟩) NB101_102.out _).trans (((cell_far (p := ⟨gb102, _, none⟩) NB101_102.out _).trans (((cell_far (p := ⟨gb102, _, none⟩) NB101_102.out _).trans (((cell_far (p := ⟨gb102, _, none⟩) NB101_102.out _).trans (((cell_far (p := ⟨gb102, _, none⟩) NB101_102.out _).trans (((cell_far (p := ⟨gb102, _, none⟩) NB101_102.out _).trans (hHeld.2.2.2.1)))))))))))))), ((cell_far (p := ⟨gb102, _, none⟩) NB101_102.out _).trans (((cell_far (p := ⟨gb102, _, none⟩) NB101_102.out _).trans (((cell_far (p := ⟨gb102, _, none⟩) NB101_102.out _).trans (((cell_far (p := ⟨gb102, _, none⟩) NB101_102.out _).trans (((cell_far (p := ⟨gb102, _, none⟩) NB101_102.out _).trans (((cell_far (p := ⟨gb102, _, none⟩) NB101_102.out _).trans (((cell_far (p := ⟨gb102, _, none⟩) NB101_102.out _).trans (hHeld.2.2.2.2.1)))))))))))))), ((cell_far (p := ⟨gb102, _, none⟩) NB101_102.out _).trans (((cell_far (p := ⟨gb102, _, none⟩) NB101_102.out _).trans (((cell_far (p := ⟨gb102, _, none⟩) NB101_102.out _).trans (((cell_far (p := ⟨gb102, _, none⟩) NB101_102.out _).trans (((cell_far (p := ⟨gb102, _, none⟩) NB101_102.out _).trans (((cell_far (p := ⟨gb102, _, none⟩) NB101_102.out _).trans (((cell_far (p := ⟨gb102, _, none⟩) NB101_102.out _).trans (hHeld.2.2.2.2.2.1)))))))))))))), ((cell_far (p := ⟨gb102, _, none⟩) NB101_102.out _).trans (((cell_far (p := ⟨gb102, _, none⟩) NB101_102.out _).trans (((cell_far (p := ⟨gb102, _, none⟩) NB101_102.out _).trans (((cell_far (p := ⟨gb102, _, none⟩) NB101_102.out _).trans (((cell_far (p := ⟨gb102, _, none⟩) NB101_102.out _).trans (((cell_far (p := ⟨gb102, _, none⟩) NB101_102.out _).trans (((cell_far (p := ⟨gb102, _, none⟩) NB101_102.out _).trans (hHeld.2.2.2.2.2.2.1)))))))))))))), ((cell_far (p := ⟨gb102, _, none⟩) NB101_102.out _).trans (((cell_far (p := ⟨gb102, _, none⟩) NB101_102.out _).trans (((cell_far (p := ⟨gb102, _, none⟩) NB101_102.out _).trans (((cell_far (p := ⟨gb102, _, none⟩) NB101_102.out _).trans (((cell_far (p := ⟨gb102, _, none⟩) NB101_102.out _).trans (((cell_far (p := ⟨gb102, _, none⟩) NB101_102.out _).trans (((cell_far (p := ⟨gb102, _, none⟩) NB101_102.out _).trans (hHeld.2.2.2.2.2.2.2.1)))))))))))))), ((cell_far (p := ⟨gb102, _, none⟩) NB101_102.out _).trans (((cell_far (p := ⟨gb102, _, none⟩) NB101_102.out _).trans (((cell_far (p := ⟨gb102, _, none⟩) NB101_102.out _).trans (((cell_far (p := ⟨gb102, _, none⟩) NB101_102.out _).trans (((cell_far (p := ⟨gb102, _, none⟩) NB101_102.out _).trans (((cell_far (p := ⟨gb102, _, none⟩) NB101_102.out _).trans (((cell_far (p := ⟨gb102, _, none⟩) NB101_102.out _).trans (hHeld.2.2.2.2.2.2.2.2.1)))))))))))))), ((cell_far (p := ⟨gb102, _, none⟩) NB101_102.out _).trans (((cell_far (p := ⟨gb102, _, none⟩) NB101_102.out _).trans (((cell_far (p := ⟨gb102, _, none⟩) NB101_102.out _).trans (((cell_far (p := ⟨gb102, _, none⟩) NB101_102.out _).trans (((cell_far (p := ⟨gb102, _, none⟩) NB101_102.out _).trans (((cell_far (p := ⟨gb102, _, none⟩) NB101_102.out _).trans (((cell_far (p := ⟨gb102, _, none⟩) NB101_102.out _).trans (hHeld.2.2.2.2.2.2.2.2.2.1)))))))))))))), ((cell_far (p := ⟨gb102, _, none⟩) NB101_102.out _).trans (((cell_far (p := ⟨gb102, _, none⟩) NB101_102.out _).trans (((cell_far (p := ⟨gb102, _, none⟩) NB101_102.out _).trans (((cell_far (p := ⟨gb102, _, none⟩) NB101_102.out _).trans (((cell_far (p := ⟨gb102, _, none⟩) NB101_102.out _).trans (((cell_far (p := ⟨gb102, _, none⟩) NB101_102.out _).trans (((cell_far (p := ⟨gb102, _, none⟩) NB101_102.out _).trans (hHeld.2.2.2.2.2.2.2.2.2.2))))))))))))))⟩ (fun hHeld => ?_)
               clear hK K
               refine pure_ (i := 5) (N := some 3) (v := ?_) (a' := ?_) #[true, true, true, true, true, true] rfl rfl (by kernel_rfl) (fun _ _ _ h => h) (Or.inl ⟨by rfl, ?_⟩) ?_ ?_
               rotate_left
               ·intro w'
                go_simp
                with_reducible rfl
               rotate_left
               ·simp only [Act.put, List.setIfInBounds_toArray, List.set_cons_zero, List.set_cons_succ, i64_w, i32_w]
                rfl
               refine done_ (by kernel_rfl) ?_
               try go_wp2
               refine bodyPost_ret (results_ct rfl _ _ gb102 107 #[.bool false, .bool false, .bool false, .bool false, .bool false, .bool false, .bool false] (0, 0) _ rfl (by (with_reducible repeat (first | refine blk_drewN ?_ _ | refine blk_drew ?_ | refine blk_alloc ?_ _)); refine puts7 (cs := #[.bool false, .bool false, .bool false, .bool false, .bool false, .bool false, .bool false]) rfl ?_; (with_reducible repeat (first | refine blk_drewN ?_ _ | refine blk_drew ?_ | refine blk_alloc ?_ _)); exact BK102.out) Try.underlying107 rfl (by kernel_rfl)) rfl ?_
               exact ⟨eqW, by repeat (first | (with_reducible first | exact HB.out | apply below_alloc | apply pw_below_drewN | apply below_drew1 | refine below_set ?_ GE101.out | refine below_set ?_ GE102.out) | exact HB.out)⟩
end Go.Proofs.Ytfjmnaobfbmllaa.M
namespace Go.Proofs.Ytfjmnaobfbmllaa.M
open Go.RowKit Go.Proofs.YtfjmnaobfbmllaaW.PrintWords Go.Proofs.YtfjmnaobfbmllaaW.PrintLast Go.Proofs.YtfjmnaobfbmllaaW.PrintMore
set_option linter.unusedVariables false
set_option linter.unusedSimpArgs false
def kindP (k : Int) : Bool := decide (1 ≤ k ∧ k ≤ 13)
def noteShape.f (k pg : Int) (x nd : Bool) (n t1 t2 t3 ls : Int) (l : List S33) (m : List S65) : Option (Bool × Bool × Bool × Bool × Bool × Bool × Bool × Bool) :=
  some ((shP k nd).1, (shP k nd).2.1, (shP k nd).2.2.1, (shP k nd).2.2.2.1, (shP k nd).2.2.2.2.1, (shP k nd).2.2.2.2.2.1, (shP k nd).2.2.2.2.2.2, kindP k)
theorem shape_pure (k pg : Int) (x nd : Bool) (n t1 t2 t3 ls : Int) (l : List S33) (m : List S65) : note_shapeOf.f 3 k pg x nd n t1 t2 t3 ls l m = noteShape.f k pg x nd n t1 t2 t3 ls l m := by
  unfold note_shapeOf.f noteShape.f
  simp only [note_shapeOf.j0, note_shapeOf.j1, note_shapeOf.j2]
  by_cases h1 : k = 1
  · subst h1; rfl
  by_cases h2 : k = 2
  · subst h2; rfl
  by_cases h3 : k = 3
  · subst h3; rfl
  by_cases h4 : k = 4
  · subst h4; rfl
  by_cases h5 : k = 5
  · subst h5; rfl
  by_cases h6 : k = 6
  · subst h6; rfl
  by_cases h7 : k = 7
  · subst h7; rfl
  by_cases h8 : k = 8
  · subst h8; rfl
  by_cases h9 : k = 9
  · subst h9; rfl
  by_cases h10 : k = 10
  · subst h10; rfl
  by_cases h11 : k = 11
  · subst h11; rfl
  by_cases h13 : k = 13
  · subst h13; rfl
  have e : kindP k = (k == 12) := by unfold kindP; rw [Bool.eq_iff_iff, decide_eq_true_eq, beq_iff_eq]; omega
  rw [e]
  simp [shP, *]
theorem noteShape.calls (a0_0 : Int) (a0_1 : Int) (a0_2 : Bool) (a0_3 : Bool) (a0_4 : Int) (a0_5 : Int) (a0_6 : Int) (a0_7 : Int) (a0_8 : Int) (A0_9 : Option Addr) (c0_9 : Nat) (l0_9 : List (S33)) (A0_10 : Option Addr) (c0_10 : Nat) (l0_10 : List (S65)) (r1 : Bool) (r2 : Bool) (r3 : Bool) (r4 : Bool) (r5 : Bool) (r6 : Bool) (r7 : Bool) (r8 : Bool) (w : World) (hr0_9 : Kd.C k33 w A0_9 l0_9.length l0_9) (hc0_9 : l0_9.length ≤ c0_9) (hr0_10 : Kd.C k65 w A0_10 l0_10.length l0_10) (hc0_10 : l0_10.length ≤ c0_10) (h : noteShape.f a0_0 a0_1 a0_2 a0_3 a0_4 a0_5 a0_6 a0_7 a0_8 l0_9 l0_10 = some (r1, r2, r3, r4, r5, r6, r7, r8)) :
    Calls Try.prog 88 #[.agg #[.int .i64 a0_0, .int .i64 a0_1, .bool a0_2, .bool a0_3, .int .i64 a0_4, .int .i64 a0_5, .int .i64 a0_6, .int .i64 a0_7, .int .i64 a0_8, .slice A0_9 l0_9.length c0_9, .slice A0_10 l0_10.length c0_10]] w fun e w' => e = .returned (.tuple #[.agg #[.bool r1, .bool r2, .bool r3, .bool r4, .bool r5, .bool r6, .bool r7], .bool r8]) ∧ Below w.heap.size w w' :=
  note_shapeOf.calls 3 a0_0 a0_1 a0_2 a0_3 a0_4 a0_5 a0_6 a0_7 a0_8 A0_9 c0_9 l0_9 A0_10 c0_10 l0_10 r1 r2 r3 r4 r5 r6 r7 r8 w hr0_9 hc0_9 hr0_10 hc0_10 (by rw [shape_pure]; exact h)
end Go.Proofs.Ytfjmnaobfbmllaa.M
namespace Go.Proofs.Ytfjmnaobfbmllaa.M
open Go.RowKit Go.Proofs.YtfjmnaobfbmllaaW.PrintWords Go.Proofs.YtfjmnaobfbmllaaW.PrintLast Go.Proofs.YtfjmnaobfbmllaaW.PrintMore
attribute [local go_sem] max2_int min2_int max_two min_two max_three min_three max_four min_four   -- for this text's walks alone
set_option linter.unusedVariables false
set_option linter.unusedSimpArgs false
def note_within.f (a0 : Int) (a1 : Int) (a2 : Int) : Option (Bool) := if a0 ≥ a1 then (some (decide (a0 ≤ a2))) else (some false)
set_option maxHeartbeats 8000000 in
set_option maxRecDepth 100000 in
theorem note_within.calls (a0 : Int) (a1 : Int) (a2 : Int) (r : Bool) (w : World) (h : note_within.f a0 a1 a2 = some r) :
  Calls Try.prog 94 #[.int .i64 a0, .int .i64 a1, .int .i64 a2] w fun e w' => e = .returned (.bool r) ∧ Drawn0 w w' := by
 have H : (if a0 ≥ a1 then (some (decide (a0 ≤ a2))) else (some false)) = some r := h
 clear h
 by_cases c4 : a0 ≥ a1
 ·rw [if_pos c4] at H
  have c4b0 : decide (a1 ≤ a0) = true := decide_eq_true c4
  clear c4
  obtain rfl := Option.some.inj H
  go_enter Try.func94, Try.ntmps94
  go_wp2
  go_ret
  exact ⟨by first | rfl | (simp; done) | (simp [*]; done), by repeat (first | exact Drawn0.refl _ | apply Drawn0.step)⟩
 ·rw [if_neg c4] at H
  have c4b0 : decide (a1 ≤ a0) = false := decide_eq_false c4
  clear c4
  obtain rfl := Option.some.inj H
  go_enter Try.func94, Try.ntmps94
  go_wp2
  go_ret
  exact ⟨by first | rfl | (simp; done) | (simp [*]; done), by repeat (first | exact Drawn0.refl _ | apply Drawn0.step)⟩
end Go.Proofs.Ytfjmnaobfbmllaa.M
namespace Go.Proofs.Ytfjmnaobfbmllaa.M
open Go.RowKit Go.Proofs.YtfjmnaobfbmllaaW.PrintWords Go.Proofs.YtfjmnaobfbmllaaW.PrintLast Go.Proofs.YtfjmnaobfbmllaaW.PrintMore
attribute [local go_sem] max2_int min2_int max_two min_two max_three min_three max_four min_four   -- for this text's walks alone
set_option linter.unusedVariables false
set_option linter.unusedSimpArgs false
mutual
def note_Good.j0 : Nat → Bool → Int → Int → Bool → Bool → Int → Int → Int → Int → Int → List (S33) → List (S65) → Bool → Bool → Bool → Bool → Bool → Bool → Bool → Option (Bool)
 | 0, _, _, _, _, _, _, _, _, _, _, _, _, _, _, _, _, _, _, _ => none
 | k + 1, x11, x102000, x102001, x102002, x102003, x102004, x102005, x102006, x102007, x102008, x102009, x102010, x111000, x111001, x111002, x111003, x111004, x111005, x111006 => if x11 = true then (some false) else (if x111000 = true then ((note_within.f x102001 0 1023).bind fun t112 => (note_Good.j1 k (!t112) x102000 x102001 x102002 x102003 x102004 x102005 x102006 x102007 x102008 x102009 x102010 x111000 x111001 x111002 x111003 x111004 x111005 x111006)) else (note_Good.j1 k false x102000 x102001 x102002 x102003 x102004 x102005 x102006 x102007 x102008 x102009 x102010 x111000 x111001 x111002 x111003 x111004 x111005 x111006))
def note_Good.j1 : Nat → Bool → Int → Int → Bool → Bool → Int → Int → Int → Int → Int → List (S33) → List (S65) → Bool → Bool → Bool → Bool → Bool → Bool → Bool → Option (Bool)
 | 0, _, _, _, _, _, _, _, _, _, _, _, _, _, _, _, _, _, _, _ => none
 | k + 1, x20, x102000, x102001, x102002, x102003, x102004, x102005, x102006, x102007, x102008, x102009, x102010, x111000, x111001, x111002, x111003, x111004, x111005, x111006 => if x20 = true then (note_Good.j2 k x20 x102000 x102001 x102002 x102003 x102004 x102005 x102006 x102007 x102008 x102009 x102010 x111000 x111001 x111002 x111003 x111004 x111005 x111006) else (if x111003 = true then ((entKnown.f x102005 x102006 x102007).bind fun t113 => (if t113 = true then (if x111004 = true then ((note_within.f x102004 0 1048576).bind fun t114 => (note_Good.j2 k (!t114) x102000 x102001 x102002 x102003 x102004 x102005 x102006 x102007 x102008 x102009 x102010 x111000 x111001 x111002 x111003 x111004 x111005 x111006)) else (note_Good.j2 k false x102000 x102001 x102002 x102003 x102004 x102005 x102006 x102007 x102008 x102009 x102010 x111000 x111001 x111002 x111003 x111004 x111005 x111006)) else (note_Good.j2 k (!t113) x102000 x102001 x102002 x102003 x102004 x102005 x102006 x102007 x102008 x102009 x102010 x111000 x111001 x111002 x111003 x111004 x111005 x111006))) else (if x111004 = true then ((note_within.f x102004 0 1048576).bind fun t115 => (note_Good.j2 k (!t115) x102000 x102001 x102002 x102003 x102004 x102005 x102006 x102007 x102008 x102009 x102010 x111000 x111001 x111002 x111003 x111004 x111005 x111006)) else (note_Good.j2 k false x102000 x102001 x102002 x102003 x102004 x102005 x102006 x102007 x102008 x102009 x102010 x111000 x111001 x111002 x111003 x111004 x111005 x111006)))
def note_Good.j2 : Nat → Bool → Int → Int → Bool → Bool → Int → Int → Int → Int → Int → List (S33) → List (S65) → Bool → Bool → Bool → Bool → Bool → Bool → Bool → Option (Bool)
 | 0, _, _, _, _, _, _, _, _, _, _, _, _, _, _, _, _, _, _, _ => none
 | k + 1, x20, x102000, x102001, x102002, x102003, x102004, x102005, x102006, x102007, x102008, x102009, x102010, x111000, x111001, x111002, x111003, x111004, x111005, x111006 => if x20 = true then (some false) else (if x111005 = true then ((slabGood.f x102008 x102009).bind fun t116 => (note_Good.j3 k (!t116) x102000 x102001 x102002 x102003 x102004 x102005 x102006 x102007 x102008 x102009 x102010 x111000 x111001 x111002 x111003 x111004 x111005 x111006)) else (note_Good.j3 k false x102000 x102001 x102002 x102003 x102004 x102005 x102006 x102007 x102008 x102009 x102010 x111000 x111001 x111002 x111003 x111004 x111005 x111006))
def note_Good.j3 : Nat → Bool → Int → Int → Bool → Bool → Int → Int → Int → Int → Int → List (S33) → List (S65) → Bool → Bool → Bool → Bool → Bool → Bool → Bool → Option (Bool)
 | 0, _, _, _, _, _, _, _, _, _, _, _, _, _, _, _, _, _, _, _ => none
 | k + 1, x45, x102000, x102001, x102002, x102003, x102004, x102005, x102006, x102007, x102008, x102009, x102010, x111000, x111001, x111002, x111003, x111004, x111005, x111006 => if x45 = true then (some false) else (if x111006 = true then ((note_within.f (x102010.length : Int) 1 16).bind fun t117 => (if t117 = true then ((slices_ContainsBad.f x102010).bind fun t118 => (some (!t118))) else (some false))) else ((slices_ContainsBad.f x102010).bind fun t119 => (some (!t119))))
end
def note_Good.f (k : Nat) (a0_0 : Int) (a0_1 : Int) (a0_2 : Bool) (a0_3 : Bool) (a0_4 : Int) (a0_5 : Int) (a0_6 : Int) (a0_7 : Int) (a0_8 : Int) (l0_9 : List (S33)) (l0_10 : List (S65)) : Option (Bool) := (noteShape.f a0_0 a0_1 a0_2 a0_3 a0_4 a0_5 a0_6 a0_7 a0_8 l0_9 l0_10).bind fun bt102 => (if bt102.2.2.2.2.2.2.2 = true then ((note_bare.f a0_0 a0_1 a0_2 a0_3 a0_4 a0_5 a0_6 a0_7 a0_8 l0_9 l0_10 bt102.1 bt102.2.1 bt102.2.2.1 bt102.2.2.2.1 bt102.2.2.2.2.1 bt102.2.2.2.2.2.1 bt102.2.2.2.2.2.2.1).bind fun t111 => (note_Good.j0 k (!t111) a0_0 a0_1 a0_2 a0_3 a0_4 a0_5 a0_6 a0_7 a0_8 l0_9 l0_10 bt102.1 bt102.2.1 bt102.2.2.1 bt102.2.2.2.1 bt102.2.2.2.2.1 bt102.2.2.2.2.2.1 bt102.2.2.2.2.2.2.1)) else (note_Good.j0 k true a0_0 a0_1 a0_2 a0_3 a0_4 a0_5 a0_6 a0_7 a0_8 l0_9 l0_10 bt102.1 bt102.2.1 bt102.2.2.1 bt102.2.2.2.1 bt102.2.2.2.2.1 bt102.2.2.2.2.2.1 bt102.2.2.2.2.2.2.1))
set_option maxHeartbeats 8000000 in
set_option maxRecDepth 100000 in
theorem note_Good.calls (k : Nat) (a0_0 : Int) (a0_1 : Int) (a0_2 : Bool) (a0_3 : Bool) (a0_4 : Int) (a0_5 : Int) (a0_6 : Int) (a0_7 : Int) (a0_8 : Int) (A0_9 : Option Addr) (c0_9 : Nat) (l0_9 : List (S33)) (A0_10 : Option Addr) (c0_10 : Nat) (l0_10 : List (S65)) (r : Bool) (w : World) (hr0_9 : Kd.C k33 w A0_9 l0_9.length l0_9) (hc0_9 : l0_9.length ≤ c0_9) (hr0_10 : Kd.C k65 w A0_10 l0_10.length l0_10) (hc0_10 : l0_10.length ≤ c0_10) (h : note_Good.f k a0_0 a0_1 a0_2 a0_3 a0_4 a0_5 a0_6 a0_7 a0_8 l0_9 l0_10 = some r) :
  Calls Try.prog 49 #[.agg #[.int .i64 a0_0, .int .i64 a0_1, .bool a0_2, .bool a0_3, .int .i64 a0_4, .int .i64 a0_5, .int .i64 a0_6, .int .i64 a0_7, .int .i64 a0_8, .slice A0_9 l0_9.length c0_9, .slice A0_10 l0_10.length c0_10]] w fun e w' => e = .returned (.bool r) ∧ Below w.heap.size w w' := by
 have hu55 := Try.underlying55
 have hu107 := Try.underlying107
 have hu52 := Try.underlying52
 have hu24 := Try.underlying24
 have HR0_9 := aq hr0_9
 have HC0_9 := aq hc0_9
 clear hr0_9 hc0_9
 have HR0_10 := aq hr0_10
 have HC0_10 := aq hc0_10
 clear hr0_10 hc0_10
 have HB := aq (Below.refl w.heap.size w)
 have H : ((noteShape.f a0_0 a0_1 a0_2 a0_3 a0_4 a0_5 a0_6 a0_7 a0_8 l0_9 l0_10).bind fun bt102 => (if bt102.2.2.2.2.2.2.2 = true then ((note_bare.f a0_0 a0_1 a0_2 a0_3 a0_4 a0_5 a0_6 a0_7 a0_8 l0_9 l0_10 bt102.1 bt102.2.1 bt102.2.2.1 bt102.2.2.2.1 bt102.2.2.2.2.1 bt102.2.2.2.2.2.1 bt102.2.2.2.2.2.2.1).bind fun t111 => (note_Good.j0 k (!t111) a0_0 a0_1 a0_2 a0_3 a0_4 a0_5 a0_6 a0_7 a0_8 l0_9 l0_10 bt102.1 bt102.2.1 bt102.2.2.1 bt102.2.2.2.1 bt102.2.2.2.2.1 bt102.2.2.2.2.2.1 bt102.2.2.2.2.2.2.1)) else (note_Good.j0 k true a0_0 a0_1 a0_2 a0_3 a0_4 a0_5 a0_6 a0_7 a0_8 l0_9 l0_10 bt102.1 bt102.2.1 bt102.2.2.1 bt102.2.2.2.1 bt102.2.2.2.2.1 bt102.2.2.2.2.2.1 bt102.2.2.2.2.2.2.1))) = some r := h
 clear h
 replace H := Option.bind_eq_some_iff.mp H
 obtain ⟨⟨t102, t103, t104, t105, t106, t107, t108, t109⟩, A20, H⟩ := H
 try dsimp only at H
 have A2 := aq A20
 clear A20
 have HC3 := aq H
 clear H
 go_enter Try.func49, Try.ntmps49
 go_upto_region 3 with (first | ((with_reducible refine gate_dst (N := 1) rfl ?_); (try (refine gate_guard (by rfl) ?_; dsimp only)); refine box_event ?hg (N := 1) ?hd (cs := #[.int .i64 a0_0, .int .i64 a0_1, .bool a0_2, .bool a0_3, .int .i64 a0_4, .int .i64 a0_5, .int .i64 a0_6, .int .i64 a0_7, .int .i64 a0_8, .slice A0_9 l0_9.length c0_9, .slice A0_10 l0_10.length c0_10]) (t := 55) ?hr ?_; (case hd => rfl); (case hg => rfl); (case hr => first | (go_simp; done) | (go_simp; rfl)); intro gb101 hg w4 hbox hb; have n0_ := aq (below_step (stH HB) hb); have n1_ := aq (hbox); have n2_ := aq ((by rw [hg]; exact (below_size (stH HB)) : w.heap.size ≤ gb101)); have n3_ := aq ((by rw [hg]; exact (below_size (stH HB)) : w.heap.size ≤ gb101)); replace HB := n0_; have BK101 := n1_; have GW101 := n2_; have GE101 := n3_; clear n0_ n1_ n2_ n3_; clear hb hbox hg; obtain ⟨k5a, k5b, k5c, k5d, k5e, k5f, k5g, k5h, k5i, k5j, k5k⟩ := cl11 (W := w4) BK101.out; obtain ⟨u5a, u5b, u5c, u5d, u5e, u5f, u5g, u5h, u5i, u5j, u5k⟩ := fr11 BK101.out) | ((with_reducible refine gate_callee (f := 88) rfl ?_); refine goesL_ (some 8) rfl rfl Try.func88 (by kernel_rfl) rfl #[.agg #[.int .i64 a0_0, .int .i64 a0_1, .bool a0_2, .bool a0_3, .int .i64 a0_4, .int .i64 a0_5, .int .i64 a0_6, .int .i64 a0_7, .int .i64 a0_8, .slice A0_9 l0_9.length c0_9, .slice A0_10 l0_10.length c0_10]] rfl fitR ?_; (with_reducible refine (noteShape.calls a0_0 a0_1 a0_2 a0_3 a0_4 a0_5 a0_6 a0_7 a0_8 _ _ l0_9 _ _ l0_10 t102 t103 t104 t105 t106 t107 t108 t109 _ ?side1 ?side2 ?side3 ?side4 A2.out).mono ?_); (case side1 => exact stC (Kd.C_below HR0_9.out HB.out)); (case side2 => exact HC0_9.out); (case side3 => exact stC (Kd.C_below HR0_10.out HB.out)); (case side4 => exact HC0_10.out); rintro e w6 ⟨rfl, hb⟩; refine ⟨_, rfl, ?_⟩; have n0_ := aq (blk_below (stB BK101) hb); have n1_ := aq (below_step (stH HB) hb); replace BK101 := n0_; replace HB := n1_; clear n0_ n1_; (try clear hb)) | ((with_reducible refine gate_dst (N := 3) rfl ?_); (try (refine gate_guard (by rfl) ?_; dsimp only)); refine box_event ?hg (N := 3) ?hd (cs := #[.bool false, .bool false, .bool false, .bool false, .bool false, .bool false, .bool false]) (t := 107) ?hr ?_; (case hd => rfl); (case hg => rfl); (case hr => first | (go_simp; done) | (go_simp; rfl)); intro gb110 hg w7 hbox hb; have n0_ := aq (blk_below (stB BK101) hb); have n1_ := aq (below_step (stH HB) hb); have n2_ := aq (hbox); have n3_ := aq ((by rw [hg]; exact (below_size (stH HB)) : w.heap.size ≤ gb110)); have n4_ := aq ((by rw [hg]; exact (below_size (stH HB)) : w.heap.size ≤ gb110)); have n5_ := aq ((by rw [hg]; exact Nat.ne_of_lt (blk_lt (stB BK101)) : gb101 ≠ gb110)); have n6_ := aq ((by rw [hg]; exact Nat.ne_of_gt (blk_lt (stB BK101)) : gb110 ≠ gb101)); replace BK101 := n0_; replace HB := n1_; have BK110 := n2_; have GW110 := n3_; have GE110 := n4_; have NB101_110 := n5_; have NB110_101 := n6_; clear n0_ n1_ n2_ n3_ n4_ n5_ n6_; clear hb hbox hg; have hnb8 := NB110_101.out; have hnc8 := NB101_110.out; obtain ⟨k9a, k9b, k9c, k9d, k9e, k9f, k9g⟩ := cl7 (W := w7) BK110.out; obtain ⟨u9a, u9b, u9c, u9d, u9e, u9f, u9g⟩ := fr7 BK110.out))
 (try simp only [Act.put, List.setIfInBounds_toArray, List.set_cons_zero, List.set_cons_succ])
 go_cut [11] (fun v11 wc => ∃ (kq : Nat) (x11_2 : Bool), v11 = .bool x11_2 ∧ Aside0 (note_Good.j0 kq x11_2 a0_0 a0_1 a0_2 a0_3 a0_4 a0_5 a0_6 a0_7 a0_8 l0_9 l0_10 t102 t103 t104 t105 t106 t107 t108 = some r) ∧ Aside0 (kq ≤ k) ∧ Aside0 (wc.heap[gb101]? = some (.cells #[.int .i64 a0_0, .int .i64 a0_1, .bool a0_2, .bool a0_3, .int .i64 a0_4, .int .i64 a0_5, .int .i64 a0_6, .int .i64 a0_7, .int .i64 a0_8, (.slice A0_9 l0_9.length c0_9), (.slice A0_10 l0_10.length c0_10)] 55 (0, 0))) ∧ Aside0 (wc.heap[gb110]? = some (.cells #[.bool t102, .bool t103, .bool t104, .bool t105, .bool t106, .bool t107, .bool t108] 107 (0, 0))) ∧ Aside0 (Below w.heap.size w wc))
 case first =>
  have H := HC3.out
  clear HC3
  by_cases c10 : t109 = true
  ·subst c10
   rw [if_pos rfl] at H
   replace H := Option.bind_eq_some_iff.mp H
   obtain ⟨t111, A110, H⟩ := H
   try dsimp only at H
   have A11 := aq A110
   clear A110
   have H' := aq H
   clear H
   have hnb12 := NB101_110.out
   have hnc12 := NB110_101.out
   obtain ⟨k13a, k13b, k13c, k13d, k13e, k13f, k13g, k13h, k13i, k13j, k13k⟩ := cl11 (W := w7) BK101.out
   obtain ⟨u13a, u13b, u13c, u13d, u13e, u13f, u13g, u13h, u13i, u13j, u13k⟩ := fr11 BK101.out
   obtain ⟨k14a, k14b, k14c, k14d, k14e, k14f, k14g⟩ := cl7 (W := w7) BK110.out
   obtain ⟨u14a, u14b, u14c, u14d, u14e, u14f, u14g⟩ := fr7 BK110.out
   go_wp2_with (first | (go_at_call 93; (with_reducible refine (note_bare.calls a0_0 a0_1 a0_2 a0_3 a0_4 a0_5 a0_6 a0_7 a0_8 _ _ l0_9 _ _ l0_10 t102 t103 t104 t105 t106 t107 t108 t111 _ ?side1 ?side2 ?side3 ?side4 A11.out).mono ?_); (case side1 => exact Kd.C_below HR0_9.out (stH HB)); (case side2 => exact HC0_9.out); (case side3 => exact Kd.C_below HR0_10.out (stH HB)); (case side4 => exact HC0_10.out); rintro e w15 ⟨rfl, hb⟩; have n0_ := aq (blk_below (g := gb101) (o := .cells #[.int .i64 a0_0, .int .i64 a0_1, .bool a0_2, .bool a0_3, .int .i64 a0_4, .int .i64 a0_5, .int .i64 a0_6, .int .i64 a0_7, .int .i64 a0_8, .slice A0_9 l0_9.length c0_9, .slice A0_10 l0_10.length c0_10] 55 (0, 0)) (stF BK101) hb); have n1_ := aq (blk_below (g := gb110) (o := .cells #[.bool t102, .bool t103, .bool t104, .bool t105, .bool t106, .bool t107, .bool t108] 107 (0, 0)) (by (with_reducible repeat (first | refine blk_drewN ?_ _ | refine blk_drew ?_ | refine blk_alloc ?_ _)); refine puts7 (cs := #[.bool false, .bool false, .bool false, .bool false, .bool false, .bool false, .bool false]) rfl ?_; (with_reducible repeat (first | refine blk_drewN ?_ _ | refine blk_drew ?_ | refine blk_alloc ?_ _)); exact BK110.out) hb); have n2_ := aq (below_step (stH HB) hb); replace BK101 := n0_; replace BK110 := n1_; replace HB := n2_; clear n0_ n1_ n2_; (try clear hb)))
   go_meet
   case rel => exact ⟨_, (!t111), eqS, H', ⟨by first | omega | exact Nat.le_refl _⟩, ⟨stB BK101⟩, ⟨stB BK110⟩, ⟨stH HB⟩⟩
  ·replace c10 := Bool.eq_false_iff.mpr c10
   subst c10
   rw [if_neg (show ¬ (false = true) by decide)] at H
   have H' := aq H
   clear H
   go_wp2
   go_meet
   case rel => exact ⟨_, (true), eqS, H', ⟨by first | omega | exact Nat.le_refl _⟩, ⟨stF BK101⟩, ⟨by (with_reducible repeat (first | refine blk_drewN ?_ _ | refine blk_drew ?_ | refine blk_alloc ?_ _)); refine puts7 (cs := #[.bool false, .bool false, .bool false, .bool false, .bool false, .bool false, .bool false]) rfl ?_; (with_reducible repeat (first | refine blk_drewN ?_ _ | refine blk_drew ?_ | refine blk_alloc ?_ _)); exact BK110.out⟩, ⟨stH HB⟩⟩
 case rest =>
  clear HC3
  try clear k5a k5b k5c k5d k5e k5f k5g k5h k5i k5j k5k
  try clear u5a u5b u5c u5d u5e u5f u5g u5h u5i u5j u5k
  try clear k9a k9b k9c k9d k9e k9f k9g
  try clear u9a u9b u9c u9d u9e u9f u9g
  try clear c1
  try clear p2
  try clear c4
  try clear c8
  try clear c10
  try clear c12
  obtain ⟨kq, x11_2, rfl, HA, HJ2, BK101, BK110, HB⟩ := hcut
  cases kq with
  | zero => exact absurd HA.out (by simp [note_Good.j0])
  | succ kj2 =>
   have H := HA.out
   clear HA
   simp only [note_Good.j0] at H
   by_cases c16 : x11_2 = true
   ·subst c16
    rw [if_pos rfl] at H
    obtain rfl := Option.some.inj H
    go_wp2
    go_ret
    exact ⟨eqW, by repeat (first | (with_reducible first | exact HB.out | apply below_alloc | apply pw_below_drewN | apply below_drew1 | refine below_set ?_ GE101.out | refine below_set ?_ GE110.out) | exact HB.out)⟩
   ·replace c16 := Bool.eq_false_iff.mpr c16
    subst c16
    rw [if_neg (show ¬ (false = true) by decide)] at H
    have HC17 := aq H
    clear H
    go_upto_region 5 with (fail)
    go_cut [20] (fun v20 wc => ∃ (kq : Nat) (x20_16 : Bool), v20 = .bool x20_16 ∧ Aside0 (note_Good.j1 kq x20_16 a0_0 a0_1 a0_2 a0_3 a0_4 a0_5 a0_6 a0_7 a0_8 l0_9 l0_10 t102 t103 t104 t105 t106 t107 t108 = some r) ∧ Aside0 (kq ≤ kj2) ∧ Aside0 (wc.heap[gb101]? = some (.cells #[.int .i64 a0_0, .int .i64 a0_1, .bool a0_2, .bool a0_3, .int .i64 a0_4, .int .i64 a0_5, .int .i64 a0_6, .int .i64 a0_7, .int .i64 a0_8, (.slice A0_9 l0_9.length c0_9), (.slice A0_10 l0_10.length c0_10)] 55 (0, 0))) ∧ Aside0 (wc.heap[gb110]? = some (.cells #[.bool t102, .bool t103, .bool t104, .bool t105, .bool t106, .bool t107, .bool t108] 107 (0, 0))) ∧ Aside0 (Below w.heap.size w wc))
    case first =>
     have H := HC17.out
     clear HC17
     by_cases c18 : t102 = true
     ·subst c18
      rw [if_pos rfl] at H
      replace H := Option.bind_eq_some_iff.mp H
      obtain ⟨t112, A190, H⟩ := H
      try dsimp only at H
      have A19 := aq A190
      clear A190
      have H' := aq H
      clear H
      have hnb20 := NB110_101.out
      have hnc20 := NB101_110.out
      obtain ⟨k21a, k21b, k21c, k21d, k21e, k21f, k21g⟩ := cl7 (W := wc) BK110.out
      obtain ⟨u21a, u21b, u21c, u21d, u21e, u21f, u21g⟩ := fr7 BK110.out
      obtain ⟨k22a, k22b, k22c, k22d, k22e, k22f, k22g, k22h, k22i, k22j, k22k⟩ := cl11 (W := wc) BK101.out
      obtain ⟨u22a, u22b, u22c, u22d, u22e, u22f, u22g, u22h, u22i, u22j, u22k⟩ := fr11 BK101.out
      go_wp2_with (first | (go_at_call 94; (with_reducible refine (note_within.calls a0_1 0 1023 t112 _ A19.out).mono ?_); rintro e w' ⟨rfl, ⟨nd, rfl⟩⟩))
      go_meet
      case rel => exact ⟨_, (!t112), eqS, H', ⟨by have := HJ2.out; first | omega | exact Nat.le_refl _⟩, ⟨stB BK101⟩, ⟨stB BK110⟩, ⟨stH HB⟩⟩
     ·replace c18 := Bool.eq_false_iff.mpr c18
      subst c18
      rw [if_neg (show ¬ (false = true) by decide)] at H
      have H' := aq H
      clear H
      have hnb23 := NB110_101.out
      have hnc23 := NB101_110.out
      obtain ⟨k24a, k24b, k24c, k24d, k24e, k24f, k24g⟩ := cl7 (W := wc) BK110.out
      obtain ⟨u24a, u24b, u24c, u24d, u24e, u24f, u24g⟩ := fr7 BK110.out
      go_wp2
      go_meet
      case rel => exact ⟨_, (false), eqS, H', ⟨by have := HJ2.out; first | omega | exact Nat.le_refl _⟩, ⟨stB BK101⟩, ⟨stB BK110⟩, ⟨stH HB⟩⟩
    case rest =>
     clear HC17
     try clear c1
     try clear c2
     try clear p2
     try clear c4
     try clear c8
     try clear c10
     try clear c12
     try clear c16
     try clear c18
     try clear c20
     try clear c23
     obtain ⟨kq, x20_16, rfl, HA, HJ16, BK101, BK110, HB⟩ := hcut
     cases kq with
     | zero => exact absurd HA.out (by simp [note_Good.j1])
     | succ kj16 =>
      have H := HA.out
      clear HA
      simp only [note_Good.j1] at H
      have HC25 := aq H
      clear H
      go_upto_if 20 with (fail)
      go_cut [20] (fun v20 wc => ∃ (kq : Nat) (x20_24 : Bool), v20 = .bool x20_24 ∧ Aside0 (note_Good.j2 kq x20_24 a0_0 a0_1 a0_2 a0_3 a0_4 a0_5 a0_6 a0_7 a0_8 l0_9 l0_10 t102 t103 t104 t105 t106 t107 t108 = some r) ∧ Aside0 (kq ≤ kj16) ∧ Aside0 (wc.heap[gb101]? = some (.cells #[.int .i64 a0_0, .int .i64 a0_1, .bool a0_2, .bool a0_3, .int .i64 a0_4, .int .i64 a0_5, .int .i64 a0_6, .int .i64 a0_7, .int .i64 a0_8, (.slice A0_9 l0_9.length c0_9), (.slice A0_10 l0_10.length c0_10)] 55 (0, 0))) ∧ Aside0 (wc.heap[gb110]? = some (.cells #[.bool t102, .bool t103, .bool t104, .bool t105, .bool t106, .bool t107, .bool t108] 107 (0, 0))) ∧ Aside0 (Below w.heap.size w wc))
      case first =>
       have H := HC25.out
       clear HC25
       by_cases c26 : x20_16 = true
       ·subst c26
        rw [if_pos rfl] at H
        have H' := aq H
        clear H
        go_wp2
        go_meet
        case rel => exact ⟨_, (true), eqS, H', ⟨by have := HJ2.out; have := HJ16.out; first | omega | exact Nat.le_refl _⟩, ⟨stB BK101⟩, ⟨stB BK110⟩, ⟨stH HB⟩⟩
       ·replace c26 := Bool.eq_false_iff.mpr c26
        subst c26
        rw [if_neg (show ¬ (false = true) by decide)] at H
        by_cases c27 : t105 = true
        ·subst c27
         rw [if_pos rfl] at H
         replace H := Option.bind_eq_some_iff.mp H
         obtain ⟨t113, A280, H⟩ := H
         try dsimp only at H
         have A28 := aq A280
         clear A280
         by_cases c29 : t113 = true
         ·subst c29
          rw [if_pos rfl] at H
          by_cases c30 : t106 = true
          ·subst c30
           rw [if_pos rfl] at H
           replace H := Option.bind_eq_some_iff.mp H
           obtain ⟨t114, A310, H⟩ := H
           try dsimp only at H
           have A31 := aq A310
           clear A310
           have H' := aq H
           clear H
           have hnb32 := NB110_101.out
           have hnc32 := NB101_110.out
           obtain ⟨k33a, k33b, k33c, k33d, k33e, k33f, k33g⟩ := cl7 (W := wc) BK110.out
           obtain ⟨u33a, u33b, u33c, u33d, u33e, u33f, u33g⟩ := fr7 BK110.out
           obtain ⟨k34a, k34b, k34c, k34d, k34e, k34f, k34g, k34h, k34i, k34j, k34k⟩ := cl11 (W := wc) BK101.out
           obtain ⟨u34a, u34b, u34c, u34d, u34e, u34f, u34g, u34h, u34i, u34j, u34k⟩ := fr11 BK101.out
           go_wp2_with (first | (go_at_call 59; (with_reducible refine (entKnown.calls a0_5 a0_6 a0_7 true _ A28.out).mono ?_); rintro e w35 ⟨rfl, hb⟩; have n0_ := aq (blk_below (stB BK101) hb); have n1_ := aq (blk_below (stB BK110) hb); have n2_ := aq (below_step (stH HB) hb); replace BK101 := n0_; replace BK110 := n1_; replace HB := n2_; clear n0_ n1_ n2_; (try clear hb); obtain ⟨k36a, k36b, k36c, k36d, k36e, k36f, k36g⟩ := cl7 (W := w35) BK110.out; obtain ⟨u36a, u36b, u36c, u36d, u36e, u36f, u36g⟩ := fr7 BK110.out; obtain ⟨k37a, k37b, k37c, k37d, k37e, k37f, k37g, k37h, k37i, k37j, k37k⟩ := cl11 (W := w35) BK101.out; obtain ⟨u37a, u37b, u37c, u37d, u37e, u37f, u37g, u37h, u37i, u37j, u37k⟩ := fr11 BK101.out) | (go_at_call 94; (with_reducible refine (note_within.calls a0_4 0 1048576 t114 _ A31.out).mono ?_); rintro e w' ⟨rfl, ⟨nd, rfl⟩⟩))
           go_meet
           case rel => exact ⟨_, (!t114), eqS, H', ⟨by have := HJ2.out; have := HJ16.out; first | omega | exact Nat.le_refl _⟩, ⟨stB BK101⟩, ⟨stB BK110⟩, ⟨stH HB⟩⟩
          ·replace c30 := Bool.eq_false_iff.mpr c30
           subst c30
           rw [if_neg (show ¬ (false = true) by decide)] at H
           have H' := aq H
           clear H
           have hnb38 := NB110_101.out
           have hnc38 := NB101_110.out
           obtain ⟨k39a, k39b, k39c, k39d, k39e, k39f, k39g⟩ := cl7 (W := wc) BK110.out
           obtain ⟨u39a, u39b, u39c, u39d, u39e, u39f, u39g⟩ := fr7 BK110.out
           obtain ⟨k40a, k40b, k40c, k40d, k40e, k40f, k40g, k40h, k40i, k40j, k40k⟩ := cl11 (W := wc) BK101.out
           obtain ⟨u40a, u40b, u40c, u40d, u40e, u40f, u40g, u40h, u40i, u40j, u40k⟩ := fr11 BK101.out
           go_wp2_with (first | (go_at_call 59; (with_reducible refine (entKnown.calls a0_5 a0_6 a0_7 true _ A28.out).mono ?_); rintro e w41 ⟨rfl, hb⟩; have n0_ := aq (blk_below (stB BK101) hb); have n1_ := aq (blk_below (stB BK110) hb); have n2_ := aq (below_step (stH HB) hb); replace BK101 := n0_; replace BK110 := n1_; replace HB := n2_; clear n0_ n1_ n2_; (try clear hb); obtain ⟨k42a, k42b, k42c, k42d, k42e, k42f, k42g⟩ := cl7 (W := w41) BK110.out; obtain ⟨u42a, u42b, u42c, u42d, u42e, u42f, u42g⟩ := fr7 BK110.out))
           go_meet
           case rel => exact ⟨_, (false), eqS, H', ⟨by have := HJ2.out; have := HJ16.out; first | omega | exact Nat.le_refl _⟩, ⟨stB BK101⟩, ⟨stB BK110⟩, ⟨stH HB⟩⟩
         ·replace c29 := Bool.eq_false_iff.mpr c29
          subst c29
          rw [if_neg (show ¬ (false = true) by decide)] at H
          have H' := aq H
          clear H
          have hnb43 := NB110_101.out
          have hnc43 := NB101_110.out
          obtain ⟨k44a, k44b, k44c, k44d, k44e, k44f, k44g⟩ := cl7 (W := wc) BK110.out
          obtain ⟨u44a, u44b, u44c, u44d, u44e, u44f, u44g⟩ := fr7 BK110.out
          obtain ⟨k45a, k45b, k45c, k45d, k45e, k45f, k45g, k45h, k45i, k45j, k45k⟩ := cl11 (W := wc) BK101.out
          obtain ⟨u45a, u45b, u45c, u45d, u45e, u45f, u45g, u45h, u45i, u45j, u45k⟩ := fr11 BK101.out
          go_wp2_with (first | (go_at_call 59; (with_reducible refine (entKnown.calls a0_5 a0_6 a0_7 false _ A28.out).mono ?_); rintro e w46 ⟨rfl, hb⟩; have n0_ := aq (blk_below (stB BK101) hb); have n1_ := aq (blk_below (stB BK110) hb); have n2_ := aq (below_step (stH HB) hb); replace BK101 := n0_; replace BK110 := n1_; replace HB := n2_; clear n0_ n1_ n2_; (try clear hb)))
          go_meet
          case rel => exact ⟨_, (!false), eqS, H', ⟨by have := HJ2.out; have := HJ16.out; first | omega | exact Nat.le_refl _⟩, ⟨stB BK101⟩, ⟨stB BK110⟩, ⟨stH HB⟩⟩
        ·replace c27 := Bool.eq_false_iff.mpr c27
         subst c27
         rw [if_neg (show ¬ (false = true) by decide)] at H
         by_cases c47 : t106 = true
         ·subst c47
          rw [if_pos rfl] at H
          replace H := Option.bind_eq_some_iff.mp H
          obtain ⟨t115, A480, H⟩ := H
          try dsimp only at H
          have A48 := aq A480
          clear A480
          have H' := aq H
          clear H
          have hnb49 := NB110_101.out
          have hnc49 := NB101_110.out
          obtain ⟨k50a, k50b, k50c, k50d, k50e, k50f, k50g⟩ := cl7 (W := wc) BK110.out
          obtain ⟨u50a, u50b, u50c, u50d, u50e, u50f, u50g⟩ := fr7 BK110.out
          obtain ⟨k51a, k51b, k51c, k51d, k51e, k51f, k51g, k51h, k51i, k51j, k51k⟩ := cl11 (W := wc) BK101.out
          obtain ⟨u51a, u51b, u51c, u51d, u51e, u51f, u51g, u51h, u51i, u51j, u51k⟩ := fr11 BK101.out
          go_wp2_with (first | (go_at_call 94; (with_reducible refine (note_within.calls a0_4 0 1048576 t115 _ A48.out).mono ?_); rintro e w' ⟨rfl, ⟨nd, rfl⟩⟩))
          go_meet
          case rel => exact ⟨_, (!t115), eqS, H', ⟨by have := HJ2.out; have := HJ16.out; first | omega | exact Nat.le_refl _⟩, ⟨stB BK101⟩, ⟨stB BK110⟩, ⟨stH HB⟩⟩
         ·replace c47 := Bool.eq_false_iff.mpr c47
          subst c47
          rw [if_neg (show ¬ (false = true) by decide)] at H
          have H' := aq H
          clear H
          have hnb52 := NB110_101.out
          have hnc52 := NB101_110.out
          obtain ⟨k53a, k53b, k53c, k53d, k53e, k53f, k53g⟩ := cl7 (W := wc) BK110.out
          obtain ⟨u53a, u53b, u53c, u53d, u53e, u53f, u53g⟩ := fr7 BK110.out
          go_wp2
          go_meet
          case rel => exact ⟨_, (false), eqS, H', ⟨by have := HJ2.out; have := HJ16.out; first | omega | exact Nat.le_refl _⟩, ⟨stB BK101⟩, ⟨stB BK110⟩, ⟨stH HB⟩⟩
      case rest =>
       clear HC25
       try clear c1
       try clear c2
       try clear p2
       try clear c3
       try clear c4
       try clear c5
       try clear c8
       try clear c10
       try clear c12
       try clear c16
       try clear c18
       try clear c20
       try clear c23
       try clear c26
       try clear c27
       try clear c29
       try clear c30
       try clear c32
       try clear c38
       try clear c43
       try clear c47
       try clear c49
       try clear c52
       obtain ⟨kq, x20_24, rfl, HA, HJ24, BK101, BK110, HB⟩ := hcut
       cases kq with
       | zero => exact absurd HA.out (by simp [note_Good.j2])
       | succ kj24 =>
        have H := HA.out
        clear HA
        simp only [note_Good.j2] at H
        by_cases c54 : x20_24 = true
        ·subst c54
         rw [if_pos rfl] at H
         obtain rfl := Option.some.inj H
         go_wp2
         go_ret
         exact ⟨eqW, by repeat (first | (with_reducible first | exact HB.out | apply below_alloc | apply pw_below_drewN | apply below_drew1 | refine below_set ?_ GE101.out | refine below_set ?_ GE110.out) | exact HB.out)⟩
        ·replace c54 := Bool.eq_false_iff.mpr c54
         subst c54
         rw [if_neg (show ¬ (false = true) by decide)] at H
         have HC55 := aq H
         clear H
         go_upto_region 9 with (fail)
         go_cut [45] (fun v45 wc => ∃ (kq : Nat) (x45_54 : Bool), v45 = .bool x45_54 ∧ Aside0 (note_Good.j3 kq x45_54 a0_0 a0_1 a0_2 a0_3 a0_4 a0_5 a0_6 a0_7 a0_8 l0_9 l0_10 t102 t103 t104 t105 t106 t107 t108 = some r) ∧ Aside0 (kq ≤ kj24) ∧ Aside0 (wc.heap[gb101]? = some (.cells #[.int .i64 a0_0, .int .i64 a0_1, .bool a0_2, .bool a0_3, .int .i64 a0_4, .int .i64 a0_5, .int .i64 a0_6, .int .i64 a0_7, .int .i64 a0_8, (.slice A0_9 l0_9.length c0_9), (.slice A0_10 l0_10.length c0_10)] 55 (0, 0))) ∧ Aside0 (wc.heap[gb110]? = some (.cells #[.bool t102, .bool t103, .bool t104, .bool t105, .bool t106, .bool t107, .bool t108] 107 (0, 0))) ∧ Aside0 (Below w.heap.size w wc))
         case first =>
          have H := HC55.out
          clear HC55
          by_cases c56 : t107 = true
          ·subst c56
           rw [if_pos rfl] at H
           replace H := Option.bind_eq_some_iff.mp H
           obtain ⟨t116, A570, H⟩ := H
           try dsimp only at H
           have A57 := aq A570
           clear A570
           have H' := aq H
           clear H
           have hnb58 := NB110_101.out
           have hnc58 := NB101_110.out
           obtain ⟨k59a, k59b, k59c, k59d, k59e, k59f, k59g⟩ := cl7 (W := wc) BK110.out
           obtain ⟨u59a, u59b, u59c, u59d, u59e, u59f, u59g⟩ := fr7 BK110.out
           obtain ⟨k60a, k60b, k60c, k60d, k60e, k60f, k60g, k60h, k60i, k60j, k60k⟩ := cl11 (W := wc) BK101.out
           obtain ⟨u60a, u60b, u60c, u60d, u60e, u60f, u60g, u60h, u60i, u60j, u60k⟩ := fr11 BK101.out
           go_wp2_with (first | (go_at_call 34; (with_reducible refine (slabGood.calls a0_8 _ _ l0_9 t116 _ ?side1 ?side2 A57.out).mono ?_); (case side1 => exact stC (Kd.C_below HR0_9.out HB.out)); (case side2 => exact HC0_9.out); rintro e w61 ⟨rfl, hb⟩; have n0_ := aq (blk_below (stB BK101) hb); have n1_ := aq (blk_below (stB BK110) hb); have n2_ := aq (below_step (stH HB) hb); replace BK101 := n0_; replace BK110 := n1_; replace HB := n2_; clear n0_ n1_ n2_; (try clear hb)))
           go_meet
           case rel => exact ⟨_, (!t116), eqS, H', ⟨by have := HJ2.out; have := HJ16.out; have := HJ24.out; first | omega | exact Nat.le_refl _⟩, ⟨stB BK101⟩, ⟨stB BK110⟩, ⟨stH HB⟩⟩
          ·replace c56 := Bool.eq_false_iff.mpr c56
           subst c56
           rw [if_neg (show ¬ (false = true) by decide)] at H
           have H' := aq H
           clear H
           have hnb62 := NB110_101.out
           have hnc62 := NB101_110.out
           obtain ⟨k63a, k63b, k63c, k63d, k63e, k63f, k63g⟩ := cl7 (W := wc) BK110.out
           obtain ⟨u63a, u63b, u63c, u63d, u63e, u63f, u63g⟩ := fr7 BK110.out
           go_wp2
           go_meet
           case rel => exact ⟨_, (false), eqS, H', ⟨by have := HJ2.out; have := HJ16.out; have := HJ24.out; first | omega | exact Nat.le_refl _⟩, ⟨stB BK101⟩, ⟨stB BK110⟩, ⟨stH HB⟩⟩
         case rest =>
          clear HC55
          try clear c1
          try clear c2
          try clear p2
          try clear c3
          try clear c4
          try clear c5
          try clear c6
          try clear c8
          try clear c10
          try clear c12
          try clear c16
          try clear c18
          try clear c20
          try clear c23
          try clear c26
          try clear c27
          try clear c29
          try clear c30
          try clear c32
          try clear c38
          try clear c43
          try clear c47
          try clear c49
          try clear c52
          try clear c54
          try clear c56
          try clear c58
          try clear c62
          obtain ⟨kq, x45_54, rfl, HA, HJ54, BK101, BK110, HB⟩ := hcut
          cases kq with
          | zero => exact absurd HA.out (by simp [note_Good.j3])
          | succ kj54 =>
           have H := HA.out
           clear HA
           simp only [note_Good.j3] at H
           by_cases c64 : x45_54 = true
           ·subst c64
            rw [if_pos rfl] at H
            obtain rfl := Option.some.inj H
            go_wp2
            go_ret
            exact ⟨eqW, by repeat (first | (with_reducible first | exact HB.out | apply below_alloc | apply pw_below_drewN | apply below_drew1 | refine below_set ?_ GE101.out | refine below_set ?_ GE110.out) | exact HB.out)⟩
           ·replace c64 := Bool.eq_false_iff.mpr c64
            subst c64
            rw [if_neg (show ¬ (false = true) by decide)] at H
            by_cases c65 : t108 = true
            ·subst c65
             rw [if_pos rfl] at H
             replace H := Option.bind_eq_some_iff.mp H
             obtain ⟨t117, A660, H⟩ := H
             try dsimp only at H
             have A66 := aq A660
             clear A660
             by_cases c67 : t117 = true
             ·subst c67
              rw [if_pos rfl] at H
              replace H := Option.bind_eq_some_iff.mp H
              obtain ⟨t118, A680, H⟩ := H
              try dsimp only at H
              have A68 := aq A680
              clear A680
              obtain rfl := Option.some.inj H
              have hnb69 := NB110_101.out
              have hnc69 := NB101_110.out
              obtain ⟨k70a, k70b, k70c, k70d, k70e, k70f, k70g⟩ := cl7 (W := wc) BK110.out
              obtain ⟨u70a, u70b, u70c, u70d, u70e, u70f, u70g⟩ := fr7 BK110.out
              obtain ⟨k71a, k71b, k71c, k71d, k71e, k71f, k71g, k71h, k71i, k71j, k71k⟩ := cl11 (W := wc) BK101.out
              obtain ⟨u71a, u71b, u71c, u71d, u71e, u71f, u71g, u71h, u71i, u71j, u71k⟩ := fr11 BK101.out
              go_wp2_with (first | (go_at_call 94; (with_reducible refine (note_within.calls (l0_10.length : Int) 1 16 true _ A66.out).mono ?_); rintro e w' ⟨rfl, ⟨nd, rfl⟩⟩) | ((with_reducible refine gate_callee (f := 95) rfl ?_); refine goesL_ (some 66) rfl rfl Try.func95 (by kernel_rfl) rfl #[.slice A0_10 l0_10.length c0_10, .func (.func 92) #[] #[]] rfl fitR ?_; (with_reducible refine (slices_ContainsBad.calls _ _ l0_10 t118 _ ?side1 ?side2 A68.out).mono ?_); (case side1 => repeat (first | exact (Kd.C_below HR0_10.out (stH HB)) | (with_reducible refine Kd.C_alloc ?_ _) | (with_reducible refine Kd.C_drewN ?_ _) | (with_reducible refine Kd.C_drew ?_))); (case side2 => exact HC0_10.out); rintro e w72 ⟨rfl, hb⟩; refine ⟨_, rfl, ?_⟩; have n0_ := aq (blk_below (stB BK101) hb); have n1_ := aq (blk_below (stB BK110) hb); have n2_ := aq (below_step (stH HB) hb); replace BK101 := n0_; replace BK110 := n1_; replace HB := n2_; clear n0_ n1_ n2_; (try clear hb)))
              go_ret
              exact ⟨eqW, by repeat (first | (with_reducible first | exact HB.out | apply below_alloc | apply pw_below_drewN | apply below_drew1 | refine below_set ?_ GE101.out | refine below_set ?_ GE110.out) | exact HB.out)⟩
             ·replace c67 := Bool.eq_false_iff.mpr c67
              subst c67
              rw [if_neg (show ¬ (false = true) by decide)] at H
              obtain rfl := Option.some.inj H
              have hnb73 := NB110_101.out
              have hnc73 := NB101_110.out
              obtain ⟨k74a, k74b, k74c, k74d, k74e, k74f, k74g⟩ := cl7 (W := wc) BK110.out
              obtain ⟨u74a, u74b, u74c, u74d, u74e, u74f, u74g⟩ := fr7 BK110.out
              obtain ⟨k75a, k75b, k75c, k75d, k75e, k75f, k75g, k75h, k75i, k75j, k75k⟩ := cl11 (W := wc) BK101.out
              obtain ⟨u75a, u75b, u75c, u75d, u75e, u75f, u75g, u75h, u75i, u75j, u75k⟩ := fr11 BK101.out
              go_wp2_with (first | (go_at_call 94; (with_reducible refine (note_within.calls (l0_10.length : Int) 1 16 false _ A66.out).mono ?_); rintro e w' ⟨rfl, ⟨nd, rfl⟩⟩))
              go_ret
              exact ⟨eqW, by repeat (first | (with_reducible first | exact HB.out | apply below_alloc | apply pw_below_drewN | apply below_drew1 | refine below_set ?_ GE101.out | refine below_set ?_ GE110.out) | exact HB.out)⟩
            ·replace c65 := Bool.eq_false_iff.mpr c65
             subst c65
             rw [if_neg (show ¬ (false = true) by decide)] at H
             replace H := Option.bind_eq_some_iff.mp H
             obtain ⟨t119, A760, H⟩ := H
             try dsimp only at H
             have A76 := aq A760
             clear A760
             obtain rfl := Option.some.inj H
             have hnb77 := NB110_101.out
             have hnc77 := NB101_110.out
             obtain ⟨k78a, k78b, k78c, k78d, k78e, k78f, k78g⟩ := cl7 (W := wc) BK110.out
             obtain ⟨u78a, u78b, u78c, u78d, u78e, u78f, u78g⟩ := fr7 BK110.out
             obtain ⟨k79a, k79b, k79c, k79d, k79e, k79f, k79g, k79h, k79i, k79j, k79k⟩ := cl11 (W := wc) BK101.out
             obtain ⟨u79a, u79b, u79c, u79d, u79e, u79f, u79g, u79h, u79i, u79j, u79k⟩ := fr11 BK101.out
             go_wp2_with (first | ((with_reducible refine gate_callee (f := 95) rfl ?_); refine goesL_ (some 66) rfl rfl Try.func95 (by kernel_rfl) rfl #[.slice A0_10 l0_10.length c0_10, .func (.func 92) #[] #[]] rfl fitR ?_; (with_reducible refine (slices_ContainsBad.calls _ _ l0_10 t119 _ ?side1 ?side2 A76.out).mono ?_); (case side1 => exact stC (Kd.C_below HR0_10.out HB.out)); (case side2 => exact HC0_10.out); rintro e w80 ⟨rfl, hb⟩; refine ⟨_, rfl, ?_⟩; have n0_ := aq (blk_below (stB BK101) hb); have n1_ := aq (blk_below (stB BK110) hb); have n2_ := aq (below_step (stH HB) hb); replace BK101 := n0_; replace BK110 := n1_; replace HB := n2_; clear n0_ n1_ n2_; (try clear hb)))
             go_ret
             exact ⟨eqW, by repeat (first | (with_reducible first | exact HB.out | apply below_alloc | apply pw_below_drewN | apply below_drew1 | refine below_set ?_ GE101.out | refine below_set ?_ GE110.out) | exact HB.out)⟩
end Go.Proofs.Ytfjmnaobfbmllaa.M
namespace Go.Proofs.Ytfjmnaobfbmllaa.M
open Go.RowKit Go.Proofs.YtfjmnaobfbmllaaW.PrintWords Go.Proofs.YtfjmnaobfbmllaaW.PrintLast Go.Proofs.YtfjmnaobfbmllaaW.PrintMore
set_option linter.unusedVariables false
set_option linter.unusedSimpArgs false
abbrev msg (k pg : Int) (x nd : Bool) (n t1 t2 t3 ls : Int) (l : List S33) (m : List S65) : S55 := ⟨k, pg, x, nd, n, ⟨t1, t2, t3⟩, ⟨ls, l⟩, m⟩
theorem nwithin_eq (a lo hi : Int) : note_within.f a lo hi = some (decide (lo ≤ a ∧ a ≤ hi)) := by
  unfold note_within.f
  by_cases h : a ≥ lo
  · rw [if_pos h]; congr 1; rw [decide_eq_decide]; omega
  · rw [if_neg h]; congr 1; rw [eq_comm, decide_eq_false_iff_not]; omega
theorem good_j3 (q : Nat) (b : Bool) (k pg : Int) (x nd : Bool) (n t1 t2 t3 ls : Int) (l : List S33) (m : List S65) (f0 f1 f2 f3 f4 f5 f6 : Bool) :
    note_Good.j3 (q + 1) b k pg x nd n t1 t2 t3 ls l m f0 f1 f2 f3 f4 f5 f6 = some (!b && ((!f6 || decide (1 ≤ (m.length : Int) ∧ (m.length : Int) ≤ 16)) && !m.any badE)) := by
  simp only [note_Good.j3, nwithin_eq, slices_ContainsBad.f, Option.bind_some]
  cases b with
  | true => simp
  | false =>
    cases f6 with
    | false => simp
    | true =>
      by_cases h : 1 ≤ (m.length : Int) ∧ (m.length : Int) ≤ 16
      · simp only [decide_eq_true h]; simp
      · simp only [decide_eq_false h]; simp
theorem good_j2 (q : Nat) (b : Bool) (k pg : Int) (x nd : Bool) (n t1 t2 t3 ls : Int) (l : List S33) (m : List S65) (f0 f1 f2 f3 f4 f5 f6 : Bool) :
    note_Good.j2 (q + 2) b k pg x nd n t1 t2 t3 ls l m f0 f1 f2 f3 f4 f5 f6 = some (!b && ((!f5 || goodP ls l) && ((!f6 || decide (1 ≤ (m.length : Int) ∧ (m.length : Int) ≤ 16)) && !m.any badE))) := by
  simp only [note_Good.j2, slabGood.f, Option.bind_some, good_j3]
  cases b <;> cases f5 <;> simp
theorem good_j1m (q : Nat) (b : Bool) (k pg : Int) (x nd : Bool) (n t1 t2 t3 ls : Int) (l : List S33) (m : List S65) (f0 f1 f2 f3 f4 f5 f6 : Bool) :
    note_Good.j1 (q + 3) b k pg x nd n t1 t2 t3 ls l m f0 f1 f2 f3 f4 f5 f6 = some (!b && ((!f3 || decide (KnownP t1 t2 t3)) && ((!f4 || decide (0 ≤ n ∧ n ≤ 1048576)) && ((!f5 || goodP ls l) && ((!f6 || decide (1 ≤ (m.length : Int) ∧ (m.length : Int) ≤ 16)) && !m.any badE))))) := by
  simp only [note_Good.j1, entKnown.f, nwithin_eq, Option.bind_some, good_j2]
  cases b with
  | true => simp
  | false =>
    by_cases h : KnownP t1 t2 t3
    · simp only [decide_eq_true h]; cases f3 <;> cases f4 <;> simp
    · simp only [decide_eq_false h]; cases f3 <;> cases f4 <;> simp
theorem good_j0m (q : Nat) (b : Bool) (k pg : Int) (x nd : Bool) (n t1 t2 t3 ls : Int) (l : List S33) (m : List S65) (f0 f1 f2 f3 f4 f5 f6 : Bool) :
    note_Good.j0 (q + 4) b k pg x nd n t1 t2 t3 ls l m f0 f1 f2 f3 f4 f5 f6 = some (!b && ((!f0 || decide (0 ≤ pg ∧ pg ≤ 1023)) && ((!f3 || decide (KnownP t1 t2 t3)) && ((!f4 || decide (0 ≤ n ∧ n ≤ 1048576)) && ((!f5 || goodP ls l) && ((!f6 || decide (1 ≤ (m.length : Int) ∧ (m.length : Int) ≤ 16)) && !m.any badE)))))) := by
  simp only [note_Good.j0, nwithin_eq, Option.bind_some, good_j1m]
  cases b <;> cases f0 <;> simp
theorem good_eq (k pg : Int) (x nd : Bool) (n t1 t2 t3 ls : Int) (l : List S33) (m : List S65) (f0 f1 f2 f3 f4 f5 f6 : Bool) (hs : shP k nd = (f0, f1, f2, f3, f4, f5, f6)) :
    (kindP k && (bareP (leastM k) pg x nd n t1 t2 t3 ls l m f0 f1 f2 f3 f4 f5 f6 && ((!f0 || decide (0 ≤ pg ∧ pg ≤ 1023)) && ((!f3 || decide (KnownP t1 t2 t3)) && ((!f4 || decide (0 ≤ n ∧ n ≤ 1048576)) && ((!f5 || goodP ls l) && ((!f6 || decide (1 ≤ (m.length : Int) ∧ (m.length : Int) ≤ 16)) && !m.any badE)))))))
      = decide (GoodM (msg k pg x nd n t1 t2 t3 ls l m)) := by
  rw [Bool.eq_iff_iff, decide_eq_true_eq]
  unfold GoodM bareP kindP shM
  simp only [hs]
  have hz := least_zero k
  have e0 : ((f0 || pg == 0) = true ∧ (!f0 || decide (0 ≤ pg ∧ pg ≤ 1023)) = true) ↔ (if f0 = true then 0 ≤ pg ∧ pg ≤ 1023 else pg = 0) := by cases f0 <;> simp
  have e1 : (f1 || !x) = true ↔ (f1 = false → x = false) := by cases f1 <;> cases x <;> simp
  have e2 : (f2 || !nd) = true ↔ (f2 = false → nd = false) := by cases f2 <;> cases nd <;> simp
  have e3 : ((f3 || (t1 == 0 && (t2 == 0 && (t3 == 0)))) = true ∧ (!f3 || decide (KnownP t1 t2 t3)) = true) ↔ (if f3 = true then KnownP t1 t2 t3 else t1 = 0 ∧ t2 = 0 ∧ t3 = 0) := by cases f3 <;> simp
  have e4 : ((((f4 && decide (n ≥ leastM k)) || n == 0) = true ∧ (!f4 || decide (n ≥ leastM k)) = true) ∧ (!f4 || decide (0 ≤ n ∧ n ≤ 1048576)) = true) ↔ (if f4 = true then leastM k ≤ n ∧ n ≤ 1048576 else n = 0) := by
    cases f4
    · simp
    · simp only [Bool.true_and, Bool.not_true, Bool.false_or, decide_eq_true_eq, Bool.or_eq_true, beq_iff_eq, if_true]; omega
  have e5 : ((f5 || (ls == 0 && (l.length : Int) == 0)) = true ∧ (!f5 || goodP ls l) = true) ↔ (if f5 = true then goodP ls l = true else ls = 0 ∧ l = []) := by cases f5 <;> simp
  have e6 : ((f6 || (m.length : Int) == 0) = true ∧ (!f6 || decide (1 ≤ (m.length : Int) ∧ (m.length : Int) ≤ 16)) = true) ↔ (if f6 = true then 1 ≤ m.length ∧ m.length ≤ 16 else m = []) := by
    cases f6
    · simp
    · simp only [Bool.true_or, Bool.not_true, Bool.false_or, decide_eq_true_eq, if_true, true_and]; omega
  rw [← e0, ← e1, ← e2, ← e3, ← e4, ← e5, ← e6]
  simp only [Bool.and_eq_true (a := _) (b := _), Bool.not_eq_true', decide_eq_true_eq (p := 1 ≤ k ∧ k ≤ 13)]
  constructor
  · rintro ⟨h0, ⟨⟨⟨⟨⟨⟨⟨b0, b1⟩, b2⟩, b3⟩, b4⟩, b5⟩, b6⟩, b7⟩, c0, c3, c4, c5, c6, c7⟩
    exact ⟨h0, ⟨b0, c0⟩, b1, b2, ⟨b3, c3⟩, ⟨⟨b4, b7⟩, c4⟩, ⟨b5, c5⟩, ⟨b6, c6⟩, c7⟩
  · rintro ⟨h0, ⟨b0, c0⟩, b1, b2, ⟨b3, c3⟩, ⟨⟨b4, b7⟩, c4⟩, ⟨b5, c5⟩, ⟨b6, c6⟩, c7⟩
    exact ⟨h0, ⟨⟨⟨⟨⟨⟨⟨b0, b1⟩, b2⟩, b3⟩, b4⟩, b5⟩, b6⟩, b7⟩, c0, c3, c4, c5, c6, c7⟩
def noteGood.f (k pg : Int) (x nd : Bool) (n t1 t2 t3 ls : Int) (l : List S33) (m : List S65) : Option Bool := some (decide (GoodM (msg k pg x nd n t1 t2 t3 ls l m)))
theorem good_pureM (k pg : Int) (x nd : Bool) (n t1 t2 t3 ls : Int) (l : List S33) (m : List S65) : note_Good.f 4 k pg x nd n t1 t2 t3 ls l m = noteGood.f k pg x nd n t1 t2 t3 ls l m := by
  unfold note_Good.f noteGood.f noteShape.f
  rw [Option.bind_some]
  obtain ⟨f0, f1, f2, f3, f4, f5, f6, hs⟩ : ∃ f0 f1 f2 f3 f4 f5 f6, shP k nd = (f0, f1, f2, f3, f4, f5, f6) := ⟨_, _, _, _, _, _, _, rfl⟩
  rw [← good_eq k pg x nd n t1 t2 t3 ls l m f0 f1 f2 f3 f4 f5 f6 hs, hs]
  simp only
  unfold note_bare.f
  rw [if_pos hs.symm, Option.bind_some, good_j0m 0, good_j0m 0]
  cases kindP k with
  | true => rw [if_pos rfl]; simp only [Bool.not_not, Bool.true_and]; rfl
  | false => rw [if_neg Bool.false_ne_true]; simp
theorem noteGood.calls (a0_0 : Int) (a0_1 : Int) (a0_2 : Bool) (a0_3 : Bool) (a0_4 : Int) (a0_5 : Int) (a0_6 : Int) (a0_7 : Int) (a0_8 : Int) (A0_9 : Option Addr) (c0_9 : Nat) (l0_9 : List (S33)) (A0_10 : Option Addr) (c0_10 : Nat) (l0_10 : List (S65)) (r : Bool) (w : World) (hr0_9 : Kd.C k33 w A0_9 l0_9.length l0_9) (hc0_9 : l0_9.length ≤ c0_9) (hr0_10 : Kd.C k65 w A0_10 l0_10.length l0_10) (hc0_10 : l0_10.length ≤ c0_10) (h : noteGood.f a0_0 a0_1 a0_2 a0_3 a0_4 a0_5 a0_6 a0_7 a0_8 l0_9 l0_10 = some r) :
    Calls Try.prog 49 #[.agg #[.int .i64 a0_0, .int .i64 a0_1, .bool a0_2, .bool a0_3, .int .i64 a0_4, .int .i64 a0_5, .int .i64 a0_6, .int .i64 a0_7, .int .i64 a0_8, .slice A0_9 l0_9.length c0_9, .slice A0_10 l0_10.length c0_10]] w fun e w' => e = .returned (.bool r) ∧ Below w.heap.size w w' :=
  note_Good.calls 4 a0_0 a0_1 a0_2 a0_3 a0_4 a0_5 a0_6 a0_7 a0_8 A0_9 c0_9 l0_9 A0_10 c0_10 l0_10 r w hr0_9 hc0_9 hr0_10 hc0_10 (by rw [good_pureM]; exact h)
end Go.Proofs.Ytfjmnaobfbmllaa.M
namespace Go.Proofs.Ytfjmnaobfbmllaa.M
open Go.RowKit Go.Proofs.YtfjmnaobfbmllaaW.PrintWords Go.Proofs.YtfjmnaobfbmllaaW.PrintLast Go.Proofs.YtfjmnaobfbmllaaW.PrintMore
attribute [local go_sem] max2_int min2_int max_two min_two max_three min_three max_four min_four   -- for this text's walks alone
set_option linter.unusedVariables false
set_option linter.unusedSimpArgs false
def note_flag.f (a0 : Bool) : Option (ByteArray) := if a0 = true then ((nibInt.f 1).bind fun t101 => (some t101)) else ((nibInt.f 0).bind fun t102 => (some t102))
set_option maxHeartbeats 8000000 in
set_option maxRecDepth 100000 in
theorem note_flag.calls (a0 : Bool) (r : ByteArray) (w : World) (h : note_flag.f a0 = some r) :
  Calls Try.prog 125 #[.bool a0] w fun e w' => e = .returned (.string r) ∧ Below w.heap.size w w' := by
 have HB := aq (Below.refl w.heap.size w)
 have H : (if a0 = true then ((nibInt.f 1).bind fun t101 => (some t101)) else ((nibInt.f 0).bind fun t102 => (some t102))) = some r := h
 clear h
 by_cases c2 : a0 = true
 ·subst c2
  rw [if_pos rfl] at H
  replace H := Option.bind_eq_some_iff.mp H
  obtain ⟨t101, A30, H⟩ := H
  try dsimp only at H
  have A3 := aq A30
  clear A30
  obtain rfl := Option.some.inj H
  go_enter Try.func125, Try.ntmps125
  go_wp2_with (first | ((with_reducible refine gate_callee (f := 98) rfl ?_); refine goesL_ (some 4) rfl rfl Try.func98 (by kernel_rfl) rfl #[.int .i64 1] rfl fitR ?_; (with_reducible refine (nibInt.calls 1 t101 _ A3.out).mono ?_); rintro e w4 ⟨rfl, hb⟩; refine ⟨_, rfl, ?_⟩; have n0_ := aq (below_step (stH HB) hb); replace HB := n0_; clear n0_; (try clear hb)))
  go_ret
  exact ⟨eqW, by repeat (first | (with_reducible first | exact HB.out | apply below_alloc | apply pw_below_drewN | apply below_drew1) | exact HB.out)⟩
 ·replace c2 := Bool.eq_false_iff.mpr c2
  subst c2
  rw [if_neg (show ¬ (false = true) by decide)] at H
  replace H := Option.bind_eq_some_iff.mp H
  obtain ⟨t102, A50, H⟩ := H
  try dsimp only at H
  have A5 := aq A50
  clear A50
  obtain rfl := Option.some.inj H
  go_enter Try.func125, Try.ntmps125
  go_wp2_with (first | ((with_reducible refine gate_callee (f := 98) rfl ?_); refine goesL_ (some 5) rfl rfl Try.func98 (by kernel_rfl) rfl #[.int .i64 0] rfl fitR ?_; (with_reducible refine (nibInt.calls 0 t102 _ A5.out).mono ?_); rintro e w6 ⟨rfl, hb⟩; refine ⟨_, rfl, ?_⟩; have n0_ := aq (below_step (stH HB) hb); replace HB := n0_; clear n0_; (try clear hb)))
  go_ret
  exact ⟨eqW, by repeat (first | (with_reducible first | exact HB.out | apply below_alloc | apply pw_below_drewN | apply below_drew1) | exact HB.out)⟩
end Go.Proofs.Ytfjmnaobfbmllaa.M
namespace Go.Proofs.Ytfjmnaobfbmllaa.M
open Go.RowKit Go.Proofs.YtfjmnaobfbmllaaW.PrintWords Go.Proofs.YtfjmnaobfbmllaaW.PrintLast Go.Proofs.YtfjmnaobfbmllaaW.PrintMore
attribute [local go_sem] max2_int min2_int max_two min_two max_three min_three max_four min_four   -- for this text's walks alone
set_option linter.unusedVariables false
set_option linter.unusedSimpArgs false
mutual
def note_body.j0 : Nat → ByteArray → Int → Int → Bool → Bool → Int → Int → Int → Int → Int → List (S33) → List (S65) → Bool → Bool → Bool → Bool → Bool → Bool → Bool → Option (ByteArray)
 | 0, _, _, _, _, _, _, _, _, _, _, _, _, _, _, _, _, _, _, _ => none
 | k + 1, x5, x102000, x102001, x102002, x102003, x102004, x102005, x102006, x102007, x102008, x102009, x102010, x111000, x111001, x111002, x111003, x111004, x111005, x111006 => if x111001 = true then ((note_flag.f x102002).bind fun t113 => (if x5.size + t113.size ≤ 9223372036854775807 then (note_body.j1 k (x5 ++ t113) x102000 x102001 x102002 x102003 x102004 x102005 x102006 x102007 x102008 x102009 x102010 x111000 x111001 x111002 x111003 x111004 x111005 x111006) else (none))) else (note_body.j1 k x5 x102000 x102001 x102002 x102003 x102004 x102005 x102006 x102007 x102008 x102009 x102010 x111000 x111001 x111002 x111003 x111004 x111005 x111006)
def note_body.j1 : Nat → ByteArray → Int → Int → Bool → Bool → Int → Int → Int → Int → Int → List (S33) → List (S65) → Bool → Bool → Bool → Bool → Bool → Bool → Bool → Option (ByteArray)
 | 0, _, _, _, _, _, _, _, _, _, _, _, _, _, _, _, _, _, _, _ => none
 | k + 1, x5, x102000, x102001, x102002, x102003, x102004, x102005, x102006, x102007, x102008, x102009, x102010, x111000, x111001, x111002, x111003, x111004, x111005, x111006 => if x111002 = true then ((note_flag.f x102003).bind fun t114 => (if x5.size + t114.size ≤ 9223372036854775807 then (note_body.j2 k (x5 ++ t114) x102000 x102001 x102002 x102003 x102004 x102005 x102006 x102007 x102008 x102009 x102010 x111000 x111001 x111002 x111003 x111004 x111005 x111006) else (none))) else (note_body.j2 k x5 x102000 x102001 x102002 x102003 x102004 x102005 x102006 x102007 x102008 x102009 x102010 x111000 x111001 x111002 x111003 x111004 x111005 x111006)
def note_body.j2 : Nat → ByteArray → Int → Int → Bool → Bool → Int → Int → Int → Int → Int → List (S33) → List (S65) → Bool → Bool → Bool → Bool → Bool → Bool → Bool → Option (ByteArray)
 | 0, _, _, _, _, _, _, _, _, _, _, _, _, _, _, _, _, _, _, _ => none
 | k + 1, x5, x102000, x102001, x102002, x102003, x102004, x102005, x102006, x102007, x102008, x102009, x102010, x111000, x111001, x111002, x111003, x111004, x111005, x111006 => if x111003 = true then ((nibInt.f x102005).bind fun t115 => ((nibInt.f x102006).bind fun t116 => (if t115.size + t116.size ≤ 9223372036854775807 then ((nibInt.f x102007).bind fun t117 => (if (t115 ++ t116).size + t117.size ≤ 9223372036854775807 then (if x5.size + ((t115 ++ t116) ++ t117).size ≤ 9223372036854775807 then (note_body.j3 k (x5 ++ ((t115 ++ t116) ++ t117)) x102000 x102001 x102002 x102003 x102004 x102005 x102006 x102007 x102008 x102009 x102010 x111000 x111001 x111002 x111003 x111004 x111005 x111006) else (none)) else (none))) else (none)))) else (note_body.j3 k x5 x102000 x102001 x102002 x102003 x102004 x102005 x102006 x102007 x102008 x102009 x102010 x111000 x111001 x111002 x111003 x111004 x111005 x111006)
def note_body.j3 : Nat → ByteArray → Int → Int → Bool → Bool → Int → Int → Int → Int → Int → List (S33) → List (S65) → Bool → Bool → Bool → Bool → Bool → Bool → Bool → Option (ByteArray)
 | 0, _, _, _, _, _, _, _, _, _, _, _, _, _, _, _, _, _, _, _ => none
 | k + 1, x5, x102000, x102001, x102002, x102003, x102004, x102005, x102006, x102007, x102008, x102009, x102010, x111000, x111001, x111002, x111003, x111004, x111005, x111006 => if x111004 = true then ((nibInt.f x102004).bind fun t118 => (if x5.size + t118.size ≤ 9223372036854775807 then (note_body.j4 k (x5 ++ t118) x102000 x102001 x102002 x102003 x102004 x102005 x102006 x102007 x102008 x102009 x102010 x111000 x111001 x111002 x111003 x111004 x111005 x111006) else (none))) else (note_body.j4 k x5 x102000 x102001 x102002 x102003 x102004 x102005 x102006 x102007 x102008 x102009 x102010 x111000 x111001 x111002 x111003 x111004 x111005 x111006)
def note_body.j4 : Nat → ByteArray → Int → Int → Bool → Bool → Int → Int → Int → Int → Int → List (S33) → List (S65) → Bool → Bool → Bool → Bool → Bool → Bool → Bool → Option (ByteArray)
 | 0, _, _, _, _, _, _, _, _, _, _, _, _, _, _, _, _, _, _, _ => none
 | k + 1, x5, x102000, x102001, x102002, x102003, x102004, x102005, x102006, x102007, x102008, x102009, x102010, x111000, x111001, x111002, x111003, x111004, x111005, x111006 => if x111005 = true then ((slab_Encode.f x102008 x102009).bind fun bt119 => (if x5.size + bt119.1.size ≤ 9223372036854775807 then (note_body.j5 k (x5 ++ bt119.1) x102000 x102001 x102002 x102003 x102004 x102005 x102006 x102007 x102008 x102009 x102010 x111000 x111001 x111002 x111003 x111004 x111005 x111006) else (none))) else (note_body.j5 k x5 x102000 x102001 x102002 x102003 x102004 x102005 x102006 x102007 x102008 x102009 x102010 x111000 x111001 x111002 x111003 x111004 x111005 x111006)
def note_body.j5 : Nat → ByteArray → Int → Int → Bool → Bool → Int → Int → Int → Int → Int → List (S33) → List (S65) → Bool → Bool → Bool → Bool → Bool → Bool → Bool → Option (ByteArray)
 | 0, _, _, _, _, _, _, _, _, _, _, _, _, _, _, _, _, _, _, _ => none
 | k + 1, x5, x102000, x102001, x102002, x102003, x102004, x102005, x102006, x102007, x102008, x102009, x102010, x111000, x111001, x111002, x111003, x111004, x111005, x111006 => if x111006 = true then ((nibInt.f (x102010.length : Int)).bind fun t121 => (if x5.size + t121.size ≤ 9223372036854775807 then (note_body.j6 k (x5 ++ t121) x102000 x102001 x102002 x102003 x102004 x102005 x102006 x102007 x102008 x102009 x102010) else (none))) else (note_body.j6 k x5 x102000 x102001 x102002 x102003 x102004 x102005 x102006 x102007 x102008 x102009 x102010)
def note_body.j6 : Nat → ByteArray → Int → Int → Bool → Bool → Int → Int → Int → Int → Int → List (S33) → List (S65) → Option (ByteArray)
 | 0, _, _, _, _, _, _, _, _, _, _, _, _ => none
 | k + 1, x5, x102000, x102001, x102002, x102003, x102004, x102005, x102006, x102007, x102008, x102009, x102010 => note_body.l0 k x5 x102010 (x102010.length : Int) 0
def note_body.l0 : Nat → ByteArray → List (S65) → Int → Int → Option (ByteArray)
 | 0, _, _, _, _ => none
 | k + 1, x5, x86, x87, x88 => if x88 < x87 then (if 0 ≤ x88 then (if x88 < (x86.length : Int) then ((entEnc.f ((rd_T65 x86 x88).f0) ((rd_T65 x86 x88).f1.f0) ((rd_T65 x86 x88).f1.f1) ((rd_T65 x86 x88).f1.f2) ((rd_T65 x86 x88).f2) ((rd_T65 x86 x88).f3) ((rd_T65 x86 x88).f4) ((rd_T65 x86 x88).f5) ((rd_T65 x86 x88).f6.f0) ((rd_T65 x86 x88).f6.f1) ((rd_T65 x86 x88).f7.f0) ((rd_T65 x86 x88).f7.f1) ((rd_T65 x86 x88).f8)).bind fun bt124 => (if x5.size + bt124.1.size ≤ 9223372036854775807 then (note_body.l0 k (x5 ++ bt124.1) x86 x87 (wrap64 (x88 + 1))) else (none))) else (none)) else (none)) else (some x5)
end
def note_body.f (k : Nat) (a0_0 : Int) (a0_1 : Int) (a0_2 : Bool) (a0_3 : Bool) (a0_4 : Int) (a0_5 : Int) (a0_6 : Int) (a0_7 : Int) (a0_8 : Int) (l0_9 : List (S33)) (l0_10 : List (S65)) : Option (ByteArray) := (noteShape.f a0_0 a0_1 a0_2 a0_3 a0_4 a0_5 a0_6 a0_7 a0_8 l0_9 l0_10).bind fun bt102 => ((nibInt.f a0_0).bind fun t111 => (if bt102.1 = true then ((nibInt.f a0_1).bind fun t112 => (if t111.size + t112.size ≤ 9223372036854775807 then (note_body.j0 k (t111 ++ t112) a0_0 a0_1 a0_2 a0_3 a0_4 a0_5 a0_6 a0_7 a0_8 l0_9 l0_10 bt102.1 bt102.2.1 bt102.2.2.1 bt102.2.2.2.1 bt102.2.2.2.2.1 bt102.2.2.2.2.2.1 bt102.2.2.2.2.2.2.1) else (none))) else (note_body.j0 k t111 a0_0 a0_1 a0_2 a0_3 a0_4 a0_5 a0_6 a0_7 a0_8 l0_9 l0_10 bt102.1 bt102.2.1 bt102.2.2.1 bt102.2.2.2.1 bt102.2.2.2.2.1 bt102.2.2.2.2.2.1 bt102.2.2.2.2.2.2.1)))
def note_body.T10 : Bool × List (List Nat × List Nat) := (true, [([], []), ([], []), ([1], [1]), ([2], [2]), ([3], [3]), ([], []), ([5], [5]), ([6], [6]), ([7, 4], [7]), ([4, 8], [4, 8]), ([], []), ([10], [10]), ([11], [11]), ([12, 8], [12]), ([9, 13], [9, 13]), ([0, 14], [0, 14]), ([15, 13, 0, 1, 2, 3, 4, 5, 6, 7, 8, 9, 10, 11, 12, 13, 14, 15], [0, 15])])
def note_body.B10 : List Nat := [0, 0, 2, 6, 14, 0, 32, 96, 254, 510, 0, 1024, 3072, 7678, 16382, 32767, 65535]
theorem note_body.tab10 : rtab .any (opsOf Try.f106 10) = note_body.T10 := by kernel_rfl
theorem note_body.bits10 : waitsOk note_body.T10.2 note_body.B10 = true := by kernel_rfl
set_option maxHeartbeats 8000000 in
set_option maxRecDepth 100000 in
theorem note_body.calls (k : Nat) (a0_0 : Int) (a0_1 : Int) (a0_2 : Bool) (a0_3 : Bool) (a0_4 : Int) (a0_5 : Int) (a0_6 : Int) (a0_7 : Int) (a0_8 : Int) (A0_9 : Option Addr) (c0_9 : Nat) (l0_9 : List (S33)) (A0_10 : Option Addr) (c0_10 : Nat) (l0_10 : List (S65)) (r : ByteArray) (w : World) (hr0_9 : Kd.C k33 w A0_9 l0_9.length l0_9) (hc0_9 : l0_9.length ≤ c0_9) (hr0_10 : Kd.C k65 w A0_10 l0_10.length l0_10) (hc0_10 : l0_10.length ≤ c0_10) (h : note_body.f k a0_0 a0_1 a0_2 a0_3 a0_4 a0_5 a0_6 a0_7 a0_8 l0_9 l0_10 = some r) :
  Calls Try.prog 106 #[.agg #[.int .i64 a0_0, .int .i64 a0_1, .bool a0_2, .bool a0_3, .int .i64 a0_4, .int .i64 a0_5, .int .i64 a0_6, .int .i64 a0_7, .int .i64 a0_8, .slice A0_9 l0_9.length c0_9, .slice A0_10 l0_10.length c0_10]] w fun e w' => e = .returned (.string r) ∧ Below w.heap.size w w' := by
 have hu55 := Try.underlying55
 have hu107 := Try.underlying107
 have hu24 := Try.underlying24
 have hu65 := Try.underlying65
 have HR0_9 := aq hr0_9
 have HC0_9 := aq hc0_9
 clear hr0_9 hc0_9
 have HR0_10 := aq hr0_10
 have HC0_10 := aq hc0_10
 clear hr0_10 hc0_10
 have HB := aq (Below.refl w.heap.size w)
 have H : ((noteShape.f a0_0 a0_1 a0_2 a0_3 a0_4 a0_5 a0_6 a0_7 a0_8 l0_9 l0_10).bind fun bt102 => ((nibInt.f a0_0).bind fun t111 => (if bt102.1 = true then ((nibInt.f a0_1).bind fun t112 => (if t111.size + t112.size ≤ 9223372036854775807 then (note_body.j0 k (t111 ++ t112) a0_0 a0_1 a0_2 a0_3 a0_4 a0_5 a0_6 a0_7 a0_8 l0_9 l0_10 bt102.1 bt102.2.1 bt102.2.2.1 bt102.2.2.2.1 bt102.2.2.2.2.1 bt102.2.2.2.2.2.1 bt102.2.2.2.2.2.2.1) else (none))) else (note_body.j0 k t111 a0_0 a0_1 a0_2 a0_3 a0_4 a0_5 a0_6 a0_7 a0_8 l0_9 l0_10 bt102.1 bt102.2.1 bt102.2.2.1 bt102.2.2.2.1 bt102.2.2.2.2.1 bt102.2.2.2.2.2.1 bt102.2.2.2.2.2.2.1)))) = some r := h
 clear h
 replace H := Option.bind_eq_some_iff.mp H
 obtain ⟨⟨t102, t103, t104, t105, t106, t107, t108, t109⟩, A20, H⟩ := H
 try dsimp only at H
 have A2 := aq A20
 clear A20
 replace H := Option.bind_eq_some_iff.mp H
 obtain ⟨t111, A30, H⟩ := H
 try dsimp only at H
 have A3 := aq A30
 clear A30
 have HC4 := aq H
 clear H
 go_enter Try.func106, Try.ntmps106
 go_upto_if 21 with (first | ((with_reducible refine gate_dst (N := 1) rfl ?_); refine box_event ?hg (N := 1) ?hd (cs := #[.int .i64 a0_0, .int .i64 a0_1, .bool a0_2, .bool a0_3, .int .i64 a0_4, .int .i64 a0_5, .int .i64 a0_6, .int .i64 a0_7, .int .i64 a0_8, .slice A0_9 l0_9.length c0_9, .slice A0_10 l0_10.length c0_10]) (t := 55) ?hr ?_; (case hd => rfl); (case hg => rfl); (case hr => first | (go_simp; done) | (go_simp; rfl)); intro gb101 hg w5 hbox hb; have n0_ := aq (below_step (stH HB) hb); have n1_ := aq (hbox); have n2_ := aq ((by rw [hg]; exact (below_size (stH HB)) : w.heap.size ≤ gb101)); have n3_ := aq ((by rw [hg]; exact (below_size (stH HB)) : w.heap.size ≤ gb101)); replace HB := n0_; have BK101 := n1_; have GW101 := n2_; have GE101 := n3_; clear n0_ n1_ n2_ n3_; clear hb hbox hg; obtain ⟨k6a, k6b, k6c, k6d, k6e, k6f, k6g, k6h, k6i, k6j, k6k⟩ := cl11 (W := w5) BK101.out; obtain ⟨u6a, u6b, u6c, u6d, u6e, u6f, u6g, u6h, u6i, u6j, u6k⟩ := fr11 BK101.out) | ((with_reducible refine gate_callee (f := 88) rfl ?_); refine goesL_ (some 14) rfl rfl Try.func88 (by kernel_rfl) rfl #[.agg #[.int .i64 a0_0, .int .i64 a0_1, .bool a0_2, .bool a0_3, .int .i64 a0_4, .int .i64 a0_5, .int .i64 a0_6, .int .i64 a0_7, .int .i64 a0_8, .slice A0_9 l0_9.length c0_9, .slice A0_10 l0_10.length c0_10]] rfl fitR ?_; (with_reducible refine (noteShape.calls a0_0 a0_1 a0_2 a0_3 a0_4 a0_5 a0_6 a0_7 a0_8 _ _ l0_9 _ _ l0_10 t102 t103 t104 t105 t106 t107 t108 t109 _ ?side1 ?side2 ?side3 ?side4 A2.out).mono ?_); (case side1 => exact stC (Kd.C_below HR0_9.out HB.out)); (case side2 => exact HC0_9.out); (case side3 => exact stC (Kd.C_below HR0_10.out HB.out)); (case side4 => exact HC0_10.out); rintro e w7 ⟨rfl, hb⟩; refine ⟨_, rfl, ?_⟩; have n0_ := aq (blk_below (stB BK101) hb); have n1_ := aq (below_step (stH HB) hb); replace BK101 := n0_; replace HB := n1_; clear n0_ n1_; (try clear hb)) | ((with_reducible refine gate_dst (N := 3) rfl ?_); refine box_event ?hg (N := 3) ?hd (cs := #[.bool false, .bool false, .bool false, .bool false, .bool false, .bool false, .bool false]) (t := 107) ?hr ?_; (case hd => rfl); (case hg => rfl); (case hr => first | (go_simp; done) | (go_simp; rfl)); intro gb110 hg w8 hbox hb; have n0_ := aq (blk_below (stB BK101) hb); have n1_ := aq (below_step (stH HB) hb); have n2_ := aq (hbox); have n3_ := aq ((by rw [hg]; exact (below_size (stH HB)) : w.heap.size ≤ gb110)); have n4_ := aq ((by rw [hg]; exact (below_size (stH HB)) : w.heap.size ≤ gb110)); have n5_ := aq ((by rw [hg]; exact Nat.ne_of_lt (blk_lt (stB BK101)) : gb101 ≠ gb110)); have n6_ := aq ((by rw [hg]; exact Nat.ne_of_gt (blk_lt (stB BK101)) : gb110 ≠ gb101)); replace BK101 := n0_; replace HB := n1_; have BK110 := n2_; have GW110 := n3_; have GE110 := n4_; have NB101_110 := n5_; have NB110_101 := n6_; clear n0_ n1_ n2_ n3_ n4_ n5_ n6_; clear hb hbox hg; have hnb9 := NB110_101.out; have hnc9 := NB101_110.out; obtain ⟨k10a, k10b, k10c, k10d, k10e, k10f, k10g⟩ := cl7 (W := w8) BK110.out; obtain ⟨u10a, u10b, u10c, u10d, u10e, u10f, u10g⟩ := fr7 BK110.out; obtain ⟨k11a, k11b, k11c, k11d, k11e, k11f, k11g, k11h, k11i, k11j, k11k⟩ := cl11 (W := w8) BK101.out; obtain ⟨u11a, u11b, u11c, u11d, u11e, u11f, u11g, u11h, u11i, u11j, u11k⟩ := fr11 BK101.out) | ((with_reducible refine gate_callee (f := 98) rfl ?_); refine goesL_ (some 19) rfl rfl Try.func98 (by kernel_rfl) rfl #[.int .i64 a0_0] rfl fitR ?_; (with_reducible refine (nibInt.calls a0_0 t111 _ A3.out).mono ?_); rintro e w12 ⟨rfl, hb⟩; refine ⟨_, rfl, ?_⟩; have n0_ := aq (blk_below (g := gb101) (o := .cells #[.int .i64 a0_0, .int .i64 a0_1, .bool a0_2, .bool a0_3, .int .i64 a0_4, .int .i64 a0_5, .int .i64 a0_6, .int .i64 a0_7, .int .i64 a0_8, .slice A0_9 l0_9.length c0_9, .slice A0_10 l0_10.length c0_10] 55 (0, 0)) (stF BK101) hb); have n1_ := aq (blk_below (g := gb110) (o := .cells #[.bool t102, .bool t103, .bool t104, .bool t105, .bool t106, .bool t107, .bool t108] 107 (0, 0)) (by (with_reducible repeat (first | refine blk_drewN ?_ _ | refine blk_drew ?_ | refine blk_alloc ?_ _)); refine puts7 (cs := #[.bool false, .bool false, .bool false, .bool false, .bool false, .bool false, .bool false]) rfl ?_; (with_reducible repeat (first | refine blk_drewN ?_ _ | refine blk_drew ?_ | refine blk_alloc ?_ _)); exact BK110.out) hb); have n2_ := aq (below_step (stH HB) hb); replace BK101 := n0_; replace BK110 := n1_; replace HB := n2_; clear n0_ n1_ n2_; (try clear hb); obtain ⟨k13a, k13b, k13c, k13d, k13e, k13f, k13g⟩ := cl7 (W := w12) BK110.out; obtain ⟨u13a, u13b, u13c, u13d, u13e, u13f, u13g⟩ := fr7 BK110.out))
 (try simp only [Act.put, List.setIfInBounds_toArray, List.set_cons_zero, List.set_cons_succ])
 go_cut [5] (fun v5 wc => ∃ (kq : Nat) (x5_3 : ByteArray), v5 = .string x5_3 ∧ Aside0 (note_body.j0 kq x5_3 a0_0 a0_1 a0_2 a0_3 a0_4 a0_5 a0_6 a0_7 a0_8 l0_9 l0_10 t102 t103 t104 t105 t106 t107 t108 = some r) ∧ Aside0 (kq ≤ k) ∧ Aside0 (wc.heap[gb101]? = some (.cells #[.int .i64 a0_0, .int .i64 a0_1, .bool a0_2, .bool a0_3, .int .i64 a0_4, .int .i64 a0_5, .int .i64 a0_6, .int .i64 a0_7, .int .i64 a0_8, (.slice A0_9 l0_9.length c0_9), (.slice A0_10 l0_10.length c0_10)] 55 (0, 0))) ∧ Aside0 (wc.heap[gb110]? = some (.cells #[.bool t102, .bool t103, .bool t104, .bool t105, .bool t106, .bool t107, .bool t108] 107 (0, 0))) ∧ Aside0 (Below w.heap.size w wc))
 case first =>
  have H := HC4.out
  clear HC4
  by_cases c14 : t102 = true
  ·subst c14
   rw [if_pos rfl] at H
   replace H := Option.bind_eq_some_iff.mp H
   obtain ⟨t112, A150, H⟩ := H
   try dsimp only at H
   have A15 := aq A150
   clear A150
   by_cases c16 : t111.size + t112.size ≤ 9223372036854775807
   ·rw [if_pos c16] at H
    have c16b0 := eq_true c16
    have c16b1 : decide (t111.size + t112.size ≤ 9223372036854775807) = true := decide_eq_true c16
    try have c16b2 : (9223372036854775807 < t111.size + t112.size) = False := eq_false (Nat.not_lt.2 c16)
    have H' := aq H
    clear H
    have hnb17 := NB101_110.out
    have hnc17 := NB110_101.out
    obtain ⟨k18a, k18b, k18c, k18d, k18e, k18f, k18g, k18h, k18i, k18j, k18k⟩ := cl11 (W := w12) BK101.out
    obtain ⟨u18a, u18b, u18c, u18d, u18e, u18f, u18g, u18h, u18i, u18j, u18k⟩ := fr11 BK101.out
    go_wp2_with (first | ((with_reducible refine gate_callee (f := 98) rfl ?_); refine goesL_ (some 25) rfl rfl Try.func98 (by kernel_rfl) rfl #[.int .i64 a0_1] rfl fitR ?_; (with_reducible refine (nibInt.calls a0_1 t112 _ A15.out).mono ?_); rintro e w19 ⟨rfl, hb⟩; refine ⟨_, rfl, ?_⟩; have n0_ := aq (blk_below (stB BK101) hb); have n1_ := aq (blk_below (stB BK110) hb); have n2_ := aq (below_step (stH HB) hb); replace BK101 := n0_; replace BK110 := n1_; replace HB := n2_; clear n0_ n1_ n2_; (try clear hb)))
    go_meet
    case rel => exact ⟨_, (t111 ++ t112), eqS, H', ⟨by first | omega | exact Nat.le_refl _⟩, ⟨stB BK101⟩, ⟨stB BK110⟩, ⟨stH HB⟩⟩
   ·rw [if_neg c16] at H
    exact absurd H (by simp)
  ·replace c14 := Bool.eq_false_iff.mpr c14
   subst c14
   rw [if_neg (show ¬ (false = true) by decide)] at H
   have H' := aq H
   clear H
   go_wp2
   go_meet
   case rel => exact ⟨_, (t111), eqS, H', ⟨by first | omega | exact Nat.le_refl _⟩, ⟨stB BK101⟩, ⟨stB BK110⟩, ⟨stH HB⟩⟩
 case rest =>
  clear HC4
  try clear k6a k6b k6c k6d k6e k6f k6g k6h k6i k6j k6k
  try clear u6a u6b u6c u6d u6e u6f u6g u6h u6i u6j u6k
  try clear k10a k10b k10c k10d k10e k10f k10g
  try clear u10a u10b u10c u10d u10e u10f u10g
  try clear k11a k11b k11c k11d k11e k11f k11g k11h k11i k11j k11k
  try clear u11a u11b u11c u11d u11e u11f u11g u11h u11i u11j u11k
  try clear k13a k13b k13c k13d k13e k13f k13g
  try clear u13a u13b u13c u13d u13e u13f u13g
  try clear c1
  try clear p2
  try clear c8
  try clear c9
  try clear c10
  try clear c14
  try clear c16
  try clear c16b0
  try clear c16b1
  try clear c16b2
  try clear c17
  obtain ⟨kq, x5_3, rfl, HA, HJ3, BK101, BK110, HB⟩ := hcut
  cases kq with
  | zero => exact absurd HA.out (by simp [note_body.j0])
  | succ kj3 =>
   have H := HA.out
   clear HA
   simp only [note_body.j0] at H
   have HC20 := aq H
   clear H
   have hnb21 := NB110_101.out
   have hnc21 := NB101_110.out
   obtain ⟨k22a, k22b, k22c, k22d, k22e, k22f, k22g⟩ := cl7 (W := wc) BK110.out
   obtain ⟨u22a, u22b, u22c, u22d, u22e, u22f, u22g⟩ := fr7 BK110.out
   go_upto_if 28 with (fail)
   go_cut [5] (fun v5 wc => ∃ (kq : Nat) (x5_19 : ByteArray), v5 = .string x5_19 ∧ Aside0 (note_body.j1 kq x5_19 a0_0 a0_1 a0_2 a0_3 a0_4 a0_5 a0_6 a0_7 a0_8 l0_9 l0_10 t102 t103 t104 t105 t106 t107 t108 = some r) ∧ Aside0 (kq ≤ kj3) ∧ Aside0 (wc.heap[gb101]? = some (.cells #[.int .i64 a0_0, .int .i64 a0_1, .bool a0_2, .bool a0_3, .int .i64 a0_4, .int .i64 a0_5, .int .i64 a0_6, .int .i64 a0_7, .int .i64 a0_8, (.slice A0_9 l0_9.length c0_9), (.slice A0_10 l0_10.length c0_10)] 55 (0, 0))) ∧ Aside0 (wc.heap[gb110]? = some (.cells #[.bool t102, .bool t103, .bool t104, .bool t105, .bool t106, .bool t107, .bool t108] 107 (0, 0))) ∧ Aside0 (Below w.heap.size w wc))
   case first =>
    have H := HC20.out
    clear HC20
    by_cases c23 : t103 = true
    ·subst c23
     rw [if_pos rfl] at H
     replace H := Option.bind_eq_some_iff.mp H
     obtain ⟨t113, A240, H⟩ := H
     try dsimp only at H
     have A24 := aq A240
     clear A240
     by_cases c25 : x5_3.size + t113.size ≤ 9223372036854775807
     ·rw [if_pos c25] at H
      have c25b0 := eq_true c25
      have c25b1 : decide (x5_3.size + t113.size ≤ 9223372036854775807) = true := decide_eq_true c25
      try have c25b2 : (9223372036854775807 < x5_3.size + t113.size) = False := eq_false (Nat.not_lt.2 c25)
      have H' := aq H
      clear H
      have hnb26 := NB101_110.out
      have hnc26 := NB110_101.out
      obtain ⟨k27a, k27b, k27c, k27d, k27e, k27f, k27g, k27h, k27i, k27j, k27k⟩ := cl11 (W := wc) BK101.out
      obtain ⟨u27a, u27b, u27c, u27d, u27e, u27f, u27g, u27h, u27i, u27j, u27k⟩ := fr11 BK101.out
      go_wp2_with (first | ((with_reducible refine gate_callee (f := 125) rfl ?_); refine goesL_ (some 32) rfl rfl Try.func125 (by kernel_rfl) rfl #[.bool a0_2] rfl fitR ?_; (with_reducible refine (note_flag.calls a0_2 t113 _ A24.out).mono ?_); rintro e w28 ⟨rfl, hb⟩; refine ⟨_, rfl, ?_⟩; have n0_ := aq (blk_below (stB BK101) hb); have n1_ := aq (blk_below (stB BK110) hb); have n2_ := aq (below_step (stH HB) hb); replace BK101 := n0_; replace BK110 := n1_; replace HB := n2_; clear n0_ n1_ n2_; (try clear hb)))
      go_meet
      case rel => exact ⟨_, (x5_3 ++ t113), eqS, H', ⟨by have := HJ3.out; first | omega | exact Nat.le_refl _⟩, ⟨stB BK101⟩, ⟨stB BK110⟩, ⟨stH HB⟩⟩
     ·rw [if_neg c25] at H
      exact absurd H (by simp)
    ·replace c23 := Bool.eq_false_iff.mpr c23
     subst c23
     rw [if_neg (show ¬ (false = true) by decide)] at H
     have H' := aq H
     clear H
     go_wp2
     go_meet
     case rel => exact ⟨_, (x5_3), eqS, H', ⟨by have := HJ3.out; first | omega | exact Nat.le_refl _⟩, ⟨stB BK101⟩, ⟨stB BK110⟩, ⟨stH HB⟩⟩
   case rest =>
    clear HC20
    try clear k22a k22b k22c k22d k22e k22f k22g
    try clear u22a u22b u22c u22d u22e u22f u22g
    try clear c1
    try clear c2
    try clear p2
    try clear c8
    try clear c9
    try clear c10
    try clear c12
    try clear c14
    try clear c16
    try clear c16b0
    try clear c16b1
    try clear c16b2
    try clear c17
    try clear c21
    try clear c23
    try clear c25
    try clear c25b0
    try clear c25b1
    try clear c25b2
    try clear c26
    obtain ⟨kq, x5_19, rfl, HA, HJ19, BK101, BK110, HB⟩ := hcut
    cases kq with
    | zero => exact absurd HA.out (by simp [note_body.j1])
    | succ kj19 =>
     have H := HA.out
     clear HA
     simp only [note_body.j1] at H
     have HC29 := aq H
     clear H
     have hnb30 := NB110_101.out
     have hnc30 := NB101_110.out
     obtain ⟨k31a, k31b, k31c, k31d, k31e, k31f, k31g⟩ := cl7 (W := wc) BK110.out
     obtain ⟨u31a, u31b, u31c, u31d, u31e, u31f, u31g⟩ := fr7 BK110.out
     go_upto_if 35 with (fail)
     go_cut [5] (fun v5 wc => ∃ (kq : Nat) (x5_28 : ByteArray), v5 = .string x5_28 ∧ Aside0 (note_body.j2 kq x5_28 a0_0 a0_1 a0_2 a0_3 a0_4 a0_5 a0_6 a0_7 a0_8 l0_9 l0_10 t102 t103 t104 t105 t106 t107 t108 = some r) ∧ Aside0 (kq ≤ kj19) ∧ Aside0 (wc.heap[gb101]? = some (.cells #[.int .i64 a0_0, .int .i64 a0_1, .bool a0_2, .bool a0_3, .int .i64 a0_4, .int .i64 a0_5, .int .i64 a0_6, .int .i64 a0_7, .int .i64 a0_8, (.slice A0_9 l0_9.length c0_9), (.slice A0_10 l0_10.length c0_10)] 55 (0, 0))) ∧ Aside0 (wc.heap[gb110]? = some (.cells #[.bool t102, .bool t103, .bool t104, .bool t105, .bool t106, .bool t107, .bool t108] 107 (0, 0))) ∧ Aside0 (Below w.heap.size w wc))
     case first =>
      have H := HC29.out
      clear HC29
      by_cases c32 : t104 = true
      ·subst c32
       rw [if_pos rfl] at H
       replace H := Option.bind_eq_some_iff.mp H
       obtain ⟨t114, A330, H⟩ := H
       try dsimp only at H
       have A33 := aq A330
       clear A330
       by_cases c34 : x5_19.size + t114.size ≤ 9223372036854775807
       ·rw [if_pos c34] at H
        have c34b0 := eq_true c34
        have c34b1 : decide (x5_19.size + t114.size ≤ 9223372036854775807) = true := decide_eq_true c34
        try have c34b2 : (9223372036854775807 < x5_19.size + t114.size) = False := eq_false (Nat.not_lt.2 c34)
        have H' := aq H
        clear H
        have hnb35 := NB101_110.out
        have hnc35 := NB110_101.out
        obtain ⟨k36a, k36b, k36c, k36d, k36e, k36f, k36g, k36h, k36i, k36j, k36k⟩ := cl11 (W := wc) BK101.out
        obtain ⟨u36a, u36b, u36c, u36d, u36e, u36f, u36g, u36h, u36i, u36j, u36k⟩ := fr11 BK101.out
        go_wp2_with (first | ((with_reducible refine gate_callee (f := 125) rfl ?_); refine goesL_ (some 39) rfl rfl Try.func125 (by kernel_rfl) rfl #[.bool a0_3] rfl fitR ?_; (with_reducible refine (note_flag.calls a0_3 t114 _ A33.out).mono ?_); rintro e w37 ⟨rfl, hb⟩; refine ⟨_, rfl, ?_⟩; have n0_ := aq (blk_below (stB BK101) hb); have n1_ := aq (blk_below (stB BK110) hb); have n2_ := aq (below_step (stH HB) hb); replace BK101 := n0_; replace BK110 := n1_; replace HB := n2_; clear n0_ n1_ n2_; (try clear hb)))
        go_meet
        case rel => exact ⟨_, (x5_19 ++ t114), eqS, H', ⟨by have := HJ3.out; have := HJ19.out; first | omega | exact Nat.le_refl _⟩, ⟨stB BK101⟩, ⟨stB BK110⟩, ⟨stH HB⟩⟩
       ·rw [if_neg c34] at H
        exact absurd H (by simp)
      ·replace c32 := Bool.eq_false_iff.mpr c32
       subst c32
       rw [if_neg (show ¬ (false = true) by decide)] at H
       have H' := aq H
       clear H
       go_wp2
       go_meet
       case rel => exact ⟨_, (x5_19), eqS, H', ⟨by have := HJ3.out; have := HJ19.out; first | omega | exact Nat.le_refl _⟩, ⟨stB BK101⟩, ⟨stB BK110⟩, ⟨stH HB⟩⟩
     case rest =>
      clear HC29
      try clear k31a k31b k31c k31d k31e k31f k31g
      try clear u31a u31b u31c u31d u31e u31f u31g
      try clear c1
      try clear c2
      try clear p2
      try clear c3
      try clear c8
      try clear c9
      try clear c10
      try clear c12
      try clear c14
      try clear c16
      try clear c16b0
      try clear c16b1
      try clear c16b2
      try clear c17
      try clear c21
      try clear c23
      try clear c25
      try clear c25b0
      try clear c25b1
      try clear c25b2
      try clear c26
      try clear c30
      try clear c32
      try clear c34
      try clear c34b0
      try clear c34b1
      try clear c34b2
      try clear c35
      obtain ⟨kq, x5_28, rfl, HA, HJ28, BK101, BK110, HB⟩ := hcut
      cases kq with
      | zero => exact absurd HA.out (by simp [note_body.j2])
      | succ kj28 =>
       have H := HA.out
       clear HA
       simp only [note_body.j2] at H
       have HC38 := aq H
       clear H
       have hnb39 := NB110_101.out
       have hnc39 := NB101_110.out
       obtain ⟨k40a, k40b, k40c, k40d, k40e, k40f, k40g⟩ := cl7 (W := wc) BK110.out
       obtain ⟨u40a, u40b, u40c, u40d, u40e, u40f, u40g⟩ := fr7 BK110.out
       go_upto_if 42 with (fail)
       go_cut [5] (fun v5 wc => ∃ (kq : Nat) (x5_37 : ByteArray), v5 = .string x5_37 ∧ Aside0 (note_body.j3 kq x5_37 a0_0 a0_1 a0_2 a0_3 a0_4 a0_5 a0_6 a0_7 a0_8 l0_9 l0_10 t102 t103 t104 t105 t106 t107 t108 = some r) ∧ Aside0 (kq ≤ kj28) ∧ Aside0 (wc.heap[gb101]? = some (.cells #[.int .i64 a0_0, .int .i64 a0_1, .bool a0_2, .bool a0_3, .int .i64 a0_4, .int .i64 a0_5, .int .i64 a0_6, .int .i64 a0_7, .int .i64 a0_8, (.slice A0_9 l0_9.length c0_9), (.slice A0_10 l0_10.length c0_10)] 55 (0, 0))) ∧ Aside0 (wc.heap[gb110]? = some (.cells #[.bool t102, .bool t103, .bool t104, .bool t105, .bool t106, .bool t107, .bool t108] 107 (0, 0))) ∧ Aside0 (Below w.heap.size w wc))
       case first =>
        have H := HC38.out
        clear HC38
        by_cases c41 : t105 = true
        ·subst c41
         rw [if_pos rfl] at H
         replace H := Option.bind_eq_some_iff.mp H
         obtain ⟨t115, A420, H⟩ := H
         try dsimp only at H
         have A42 := aq A420
         clear A420
         replace H := Option.bind_eq_some_iff.mp H
         obtain ⟨t116, A430, H⟩ := H
         try dsimp only at H
         have A43 := aq A430
         clear A430
         by_cases c44 : t115.size + t116.size ≤ 9223372036854775807
         ·rw [if_pos c44] at H
          have c44b0 := eq_true c44
          have c44b1 : decide (t115.size + t116.size ≤ 9223372036854775807) = true := decide_eq_true c44
          try have c44b2 : (9223372036854775807 < t115.size + t116.size) = False := eq_false (Nat.not_lt.2 c44)
          replace H := Option.bind_eq_some_iff.mp H
          obtain ⟨t117, A450, H⟩ := H
          try dsimp only at H
          have A45 := aq A450
          clear A450
          by_cases c46 : (t115 ++ t116).size + t117.size ≤ 9223372036854775807
          ·rw [if_pos c46] at H
           have c46b0 := eq_true c46
           have c46b1 : decide ((t115 ++ t116).size + t117.size ≤ 9223372036854775807) = true := decide_eq_true c46
           try have c46b2 : (9223372036854775807 < (t115 ++ t116).size + t117.size) = False := eq_false (Nat.not_lt.2 c46)
           have c46b3 : (9223372036854775807 < t115.size + t116.size + t117.size) = False := (by rw [← ByteArray.size_append]; exact eq_false (Nat.not_lt.2 c46))
           by_cases c47 : x5_28.size + ((t115 ++ t116) ++ t117).size ≤ 9223372036854775807
           ·rw [if_pos c47] at H
            have c47b0 := eq_true c47
            have c47b1 : decide (x5_28.size + ((t115 ++ t116) ++ t117).size ≤ 9223372036854775807) = true := decide_eq_true c47
            try have c47b2 : (9223372036854775807 < x5_28.size + ((t115 ++ t116) ++ t117).size) = False := eq_false (Nat.not_lt.2 c47)
            have c47b3 : (9223372036854775807 < x5_28.size + (t115.size + t116.size + t117.size)) = False := (by rw [← ByteArray.size_append, ← ByteArray.size_append]; exact eq_false (Nat.not_lt.2 c47))
            have H' := aq H
            clear H
            try go_wp2
            have n0_ := aq (blk_drew BK101.out)
            have n1_ := aq (blk_drew BK110.out)
            have n2_ := aq (below_drew1 HB.out)
            clear BK101
            clear BK110
            clear HB
            have BK101 := n0_
            have BK110 := n1_
            have HB := n2_
            clear n0_ n1_ n2_
            refine start_ (n := 17) (S := fun w' => w'.cell? ⟨gb101, 0, none⟩ = some (.int .i64 a0_0) ∧ w'.cell? ⟨gb101, 1, none⟩ = some (.int .i64 a0_1) ∧ w'.cell? ⟨gb101, 2, none⟩ = some (.bool a0_2) ∧ w'.cell? ⟨gb101, 3, none⟩ = some (.bool a0_3) ∧ w'.cell? ⟨gb101, 4, none⟩ = some (.int .i64 a0_4) ∧ w'.cell? ⟨gb101, 5, none⟩ = some (.int .i64 a0_5) ∧ w'.cell? ⟨gb101, 6, none⟩ = some (.int .i64 a0_6) ∧ w'.cell? ⟨gb101, 7, none⟩ = some (.int .i64 a0_7) ∧ w'.cell? ⟨gb101, 8, none⟩ = some (.int .i64 a0_8) ∧ w'.cell? ⟨gb101, 9, none⟩ = some (.slice A0_9 l0_9.length c0_9) ∧ w'.cell? ⟨gb101, 10, none⟩ = some (.slice A0_10 l0_10.length c0_10)) (ds := []) #[false, false, false, false, false, false, false, false, false, false, false, false, false, false, false, false, false] (by kernel_rfl) rfl rfl ⟨(blk_cell BK101.out 0).trans rfl, (blk_cell BK101.out 1).trans rfl, (blk_cell BK101.out 2).trans rfl, (blk_cell BK101.out 3).trans rfl, (blk_cell BK101.out 4).trans rfl, (blk_cell BK101.out 5).trans rfl, (blk_cell BK101.out 6).trans rfl, (blk_cell BK101.out 7).trans rfl, (blk_cell BK101.out 8).trans rfl, (blk_cell BK101.out 9).trans rfl, (blk_cell BK101.out 10).trans rfl⟩ (fun hHeld => ?_); refine with_tabW note_body.tab10 note_body.bits10 (fun HT_ HW_ => ?_)
            generalize wc.drew = w48 at BK101 BK110 HB hHeld ⊢
            refine pure_ (i := 0) (N := some 43) (v := ?_) (a' := ?_) #[true, false, false, false, false, false, false, false, false, false, false, false, false, false, false, false, false] rfl rfl (any_of HT_.out (by kernel_rfl)) (fun _ _ _ h => h) (Or.inl ⟨by rfl, ?_⟩) ?_ ?_
            rotate_left
            ·intro w'
             go_simp
             with_reducible rfl
            rotate_left
            ·simp only [Act.put, List.setIfInBounds_toArray, List.set_cons_zero, List.set_cons_succ, i64_w, i32_w]
             rfl
            refine pure_ (i := 1) (N := some 44) (v := ?_) (a' := ?_) #[true, true, false, false, false, false, false, false, false, false, false, false, false, false, false, false, false] rfl rfl (any_of HT_.out (by kernel_rfl)) (fun _ _ _ h => h) (Or.inl ⟨by rfl, ?_⟩) ?_ ?_
            rotate_left
            ·intro w'
             go_simp
             with_reducible rfl
            rotate_left
            ·simp only [Act.put, List.setIfInBounds_toArray, List.set_cons_zero, List.set_cons_succ, i64_w, i32_w]
             rfl
            refine pure_ (i := 2) (N := some 45) (v := ?_) (a' := ?_) #[true, true, true, false, false, false, false, false, false, false, false, false, false, false, false, false, false] rfl rfl (any_of HT_.out (by kernel_rfl)) (fun _ _ _ h => h) (Or.inl ⟨by rfl, ?_⟩) ?_ ?_
            rotate_left
            ·intro w'
             go_simp
             with_reducible rfl
            rotate_left
            ·simp only [Act.put, List.setIfInBounds_toArray, List.set_cons_zero, List.set_cons_succ, i64_w, i32_w]
             rfl
            refine pure_ (i := 5) (N := some 48) (v := ?_) (a' := ?_) #[true, true, true, false, false, true, false, false, false, false, false, false, false, false, false, false, false] rfl rfl (any_of HT_.out (by kernel_rfl)) (fun _ _ _ h => h) (Or.inl ⟨by rfl, ?_⟩) ?_ ?_
            rotate_left
            ·intro w'
             go_simp
             with_reducible rfl
            rotate_left
            ·simp only [Act.put, List.setIfInBounds_toArray, List.set_cons_zero, List.set_cons_succ, i64_w, i32_w]
             rfl
            refine pure_ (i := 6) (N := some 49) (v := ?_) (a' := ?_) #[true, true, true, false, false, true, true, false, false, false, false, false, false, false, false, false, false] rfl rfl (any_of HT_.out (by kernel_rfl)) (fun _ _ _ h => h) (Or.inl ⟨by rfl, ?_⟩) ?_ ?_
            rotate_left
            ·intro w'
             go_simp
             with_reducible rfl
            rotate_left
            ·simp only [Act.put, List.setIfInBounds_toArray, List.set_cons_zero, List.set_cons_succ, i64_w, i32_w]
             rfl
            refine pure_ (i := 10) (N := some 53) (v := ?_) (a' := ?_) #[true, true, true, false, false, true, true, false, false, false, true, false, false, false, false, false, false] rfl rfl (any_of HT_.out (by kernel_rfl)) (fun _ _ _ h => h) (Or.inl ⟨by rfl, ?_⟩) ?_ ?_
            rotate_left
            ·intro w'
             go_simp
             with_reducible rfl
            rotate_left
            ·simp only [Act.put, List.setIfInBounds_toArray, List.set_cons_zero, List.set_cons_succ, i64_w, i32_w]
             rfl
            refine pure_ (i := 11) (N := some 54) (v := ?_) (a' := ?_) #[true, true, true, false, false, true, true, false, false, false, true, true, false, false, false, false, false] rfl rfl (any_of HT_.out (by kernel_rfl)) (fun _ _ _ h => h) (Or.inl ⟨by rfl, ?_⟩) ?_ ?_
            rotate_left
            ·intro w'
             go_simp
             with_reducible rfl
            rotate_left
            ·simp only [Act.put, List.setIfInBounds_toArray, List.set_cons_zero, List.set_cons_succ, i64_w, i32_w]
             rfl
            refine take_ (i := 3) (N := some 46) (v := ?_) (a' := ?_) #[true, true, true, true, false, true, true, false, false, false, true, true, false, false, false, false, false] rfl rfl (take_ofW HT_.out HW_.out (by kernel_rfl)) (fun _ _ _ h => h) (Or.inl ⟨by rfl, ?_⟩) hHeld ?_ ?_
            rotate_left
            ·rintro w' ⟨s0, s1, s2, s3, s4, s5, s6, s7, s8, s9, s10⟩
             go_simp
             with_reducible rfl
            rotate_left
            ·simp only [Act.put, List.setIfInBounds_toArray, List.set_cons_zero, List.set_cons_succ, i64_w, i32_w]
             rfl
            refine take_ (i := 7) (N := some 50) (v := ?_) (a' := ?_) #[true, true, true, true, false, true, true, true, false, false, true, true, false, false, false, false, false] rfl rfl (take_ofW HT_.out HW_.out (by kernel_rfl)) (fun _ _ _ h => h) (Or.inl ⟨by rfl, ?_⟩) hHeld ?_ ?_
            rotate_left
            ·rintro w' ⟨s0, s1, s2, s3, s4, s5, s6, s7, s8, s9, s10⟩
             go_simp
             with_reducible rfl
            rotate_left
            ·simp only [Act.put, List.setIfInBounds_toArray, List.set_cons_zero, List.set_cons_succ, i64_w, i32_w]
             rfl
            refine take_ (i := 12) (N := some 55) (v := ?_) (a' := ?_) #[true, true, true, true, false, true, true, true, false, false, true, true, true, false, false, false, false] rfl rfl (take_ofW HT_.out HW_.out (by kernel_rfl)) (fun _ _ _ h => h) (Or.inl ⟨by rfl, ?_⟩) hHeld ?_ ?_
            rotate_left
            ·rintro w' ⟨s0, s1, s2, s3, s4, s5, s6, s7, s8, s9, s10⟩
             go_simp
             with_reducible rfl
            rotate_left
            ·simp only [Act.put, List.setIfInBounds_toArray, List.set_cons_zero, List.set_cons_succ, i64_w, i32_w]
             rfl
            refine one_ (i := 4) (N := some 47) #[true, true, true, true, true, true, true, true, false, false, true, true, true, false, false, false, false] rfl rfl (one_of HT_.out (by kernel_rfl)) (by decide) (fun K hK => ?_)
            refine goes_ Try.func98 (by kernel_rfl) rfl #[.int .i64 a0_5] (by rfl) rfl rfl fitR ?_
            with_reducible refine (nibInt.calls a0_5 t115 _ A42.out).mono ?_
            rintro e w49 ⟨rfl, hb⟩
            refine ⟨_, rfl, ?_⟩
            have n0_ := aq (blk_below (stB BK101) hb)
            have n1_ := aq (blk_below (stB BK110) hb)
            have n2_ := aq (below_step (stH HB) hb)
            clear BK101
            clear BK110
            clear HB
            have BK101 := n0_
            have BK110 := n1_
            have HB := n2_
            clear n0_ n1_ n2_
            (try clear hb)
            (try clear hb2)
            (try clear hk)
            (try clear hi)
            refine hK.out _ _ ⟨(blk_cell BK101.out 0).trans rfl, (blk_cell BK101.out 1).trans rfl, (blk_cell BK101.out 2).trans rfl, (blk_cell BK101.out 3).trans rfl, (blk_cell BK101.out 4).trans rfl, (blk_cell BK101.out 5).trans rfl, (blk_cell BK101.out 6).trans rfl, (blk_cell BK101.out 7).trans rfl, (blk_cell BK101.out 8).trans rfl, (blk_cell BK101.out 9).trans rfl, (blk_cell BK101.out 10).trans rfl⟩ (fun hHeld => ?_)
            clear hK K
            refine norm_ (a' := ?_) ?_ ?_
            rotate_left
            ·show Act.put _ (some 47) _ = _
             simp only [Act.put, List.setIfInBounds_toArray, List.set_cons_zero, List.set_cons_succ, i64_w, i32_w]
             rfl
            refine one_ (i := 8) (N := some 51) #[true, true, true, true, true, true, true, true, true, false, true, true, true, false, false, false, false] rfl rfl (one_of HT_.out (by kernel_rfl)) (by decide) (fun K hK => ?_)
            refine goes_ Try.func98 (by kernel_rfl) rfl #[.int .i64 a0_6] (by rfl) rfl rfl fitR ?_
            with_reducible refine (nibInt.calls a0_6 t116 _ A43.out).mono ?_
            rintro e w50 ⟨rfl, hb⟩
            refine ⟨_, rfl, ?_⟩
            have n0_ := aq (blk_below (stB BK101) hb)
            have n1_ := aq (blk_below (stB BK110) hb)
            have n2_ := aq (below_step (stH HB) hb)
            clear BK101
            clear BK110
            clear HB
            have BK101 := n0_
            have BK110 := n1_
            have HB := n2_
            clear n0_ n1_ n2_
            (try clear hb)
            (try clear hb2)
            (try clear hk)
            (try clear hi)
            refine hK.out _ _ ⟨(blk_cell BK101.out 0).trans rfl, (blk_cell BK101.out 1).trans rfl, (blk_cell BK101.out 2).trans rfl, (blk_cell BK101.out 3).trans rfl, (blk_cell BK101.out 4).trans rfl, (blk_cell BK101.out 5).trans rfl, (blk_cell BK101.out 6).trans rfl, (blk_cell BK101.out 7).trans rfl, (blk_cell BK101.out 8).trans rfl, (blk_cell BK101.out 9).trans rfl, (blk_cell BK101.out 10).trans rfl⟩ (fun hHeld => ?_)
            clear hK K
            refine norm_ (a' := ?_) ?_ ?_
            rotate_left
            ·show Act.put _ (some 51) _ = _
             simp only [Act.put, List.setIfInBounds_toArray, List.set_cons_zero, List.set_cons_succ, i64_w, i32_w]
             rfl
            refine pure_ (i := 9) (N := some 52) (v := ?_) (a' := ?_) #[true, true, true, true, true, true, true, true, true, true, true, true, true, false, false, false, false] rfl rfl (any_of HT_.out (by kernel_rfl)) (fun _ _ _ h => h) (Or.inl ⟨by rfl, ?_⟩) ?_ ?_
            rotate_left
            ·intro w'
             go_simp
             with_reducible rfl
            rotate_left
            ·simp only [Act.put, List.setIfInBounds_toArray, List.set_cons_zero, List.set_cons_succ, i64_w, i32_w]
             rfl
            refine one_ (i := 13) (N := some 56) #[true, true, true, true, true, true, true, true, true, true, true, true, true, true, false, false, false] rfl rfl (one_of HT_.out (by kernel_rfl)) (by decide) (fun K hK => ?_)
            refine goes_ Try.func98 (by kernel_rfl) rfl #[.int .i64 a0_7] (by rfl) rfl rfl fitR ?_
            with_reducible refine (nibInt.calls a0_7 t117 _ A45.out).mono ?_
            rintro e w51 ⟨rfl, hb⟩
            refine ⟨_, rfl, ?_⟩
            have n0_ := aq (blk_below (stB BK101) hb)
            have n1_ := aq (blk_below (stB BK110) hb)
            have n2_ := aq (below_step (stH HB) hb)
            clear BK101
            clear BK110
            clear HB
            have BK101 := n0_
            have BK110 := n1_
            have HB := n2_
            clear n0_ n1_ n2_
            (try clear hb)
            (try clear hb2)
            (try clear hk)
            (try clear hi)
            refine hK.out _ _ ⟨(blk_cell BK101.out 0).trans rfl, (blk_cell BK101.out 1).trans rfl, (blk_cell BK101.out 2).trans rfl, (blk_cell BK101.out 3).trans rfl, (blk_cell BK101.out 4).trans rfl, (blk_cell BK101.out 5).trans rfl, (blk_cell BK101.out 6).trans rfl, (blk_cell BK101.out 7).trans rfl, (blk_cell BK101.out 8).trans rfl, (blk_cell BK101.out 9).trans rfl, (blk_cell BK101.out 10).trans rfl⟩ (fun hHeld => ?_)
            clear hK K
            refine norm_ (a' := ?_) ?_ ?_
            rotate_left
            ·show Act.put _ (some 56) _ = _
             simp only [Act.put, List.setIfInBounds_toArray, List.set_cons_zero, List.set_cons_succ, i64_w, i32_w]
             rfl
            refine pure_ (i := 14) (N := some 57) (v := ?_) (a' := ?_) #[true, true, true, true, true, true, true, true, true, true, true, true, true, true, true, false, false] rfl rfl (any_of HT_.out (by kernel_rfl)) (fun _ _ _ h => h) (Or.inl ⟨by rfl, ?_⟩) ?_ ?_
            rotate_left
            ·intro w'
             go_simp
             with_reducible rfl
            rotate_left
            ·simp only [Act.put, List.setIfInBounds_toArray, List.set_cons_zero, List.set_cons_succ, i64_w, i32_w]
             rfl
            refine pure_ (i := 15) (N := some 58) (v := ?_) (a' := ?_) #[true, true, true, true, true, true, true, true, true, true, true, true, true, true, true, true, false] rfl rfl (any_of HT_.out (by kernel_rfl)) (fun _ _ _ h => h) (Or.inl ⟨by rfl, ?_⟩) ?_ ?_
            rotate_left
            ·intro w'
             go_simp
             with_reducible rfl
            rotate_left
            ·simp only [Act.put, List.setIfInBounds_toArray, List.set_cons_zero, List.set_cons_succ, i64_w, i32_w]
             rfl
            refine pure_ (i := 16) (N := some 5) (v := ?_) (a' := ?_) #[true, true, true, true, true, true, true, true, true, true, true, true, true, true, true, true, true] rfl rfl (any_of HT_.out (by kernel_rfl)) (fun _ _ _ h => h) (Or.inl ⟨by rfl, ?_⟩) ?_ ?_
            rotate_left
            ·intro w'
             go_simp
             with_reducible rfl
            rotate_left
            ·simp only [Act.put, List.setIfInBounds_toArray, List.set_cons_zero, List.set_cons_succ, i64_w, i32_w]
             rfl
            refine done_ (done_of HT_.out (by kernel_rfl)) ?_
            try go_wp2
            go_meet
            case rel => exact ⟨_, (x5_28 ++ ((t115 ++ t116) ++ t117)), eqS, H', ⟨by have := HJ3.out; have := HJ19.out; have := HJ28.out; first | omega | exact Nat.le_refl _⟩, ⟨stB BK101⟩, ⟨stB BK110⟩, ⟨stH HB⟩⟩
           ·rw [if_neg c47] at H
            exact absurd H (by simp)
          ·rw [if_neg c46] at H
           exact absurd H (by simp)
         ·rw [if_neg c44] at H
          exact absurd H (by simp)
        ·replace c41 := Bool.eq_false_iff.mpr c41
         subst c41
         rw [if_neg (show ¬ (false = true) by decide)] at H
         have H' := aq H
         clear H
         go_wp2
         go_meet
         case rel => exact ⟨_, (x5_28), eqS, H', ⟨by have := HJ3.out; have := HJ19.out; have := HJ28.out; first | omega | exact Nat.le_refl _⟩, ⟨stB BK101⟩, ⟨stB BK110⟩, ⟨stH HB⟩⟩
       case rest =>
        clear HC38
        try clear k40a k40b k40c k40d k40e k40f k40g
        try clear u40a u40b u40c u40d u40e u40f u40g
        try clear c1
        try clear c2
        try clear p2
        try clear c3
        try clear c4
        try clear c8
        try clear c9
        try clear c10
        try clear c12
        try clear c14
        try clear c16
        try clear c16b0
        try clear c16b1
        try clear c16b2
        try clear c17
        try clear c21
        try clear c23
        try clear c25
        try clear c25b0
        try clear c25b1
        try clear c25b2
        try clear c26
        try clear c30
        try clear c32
        try clear c34
        try clear c34b0
        try clear c34b1
        try clear c34b2
        try clear c35
        try clear c39
        try clear c41
        try clear c44
        try clear c44b0
        try clear c44b1
        try clear c44b2
        try clear c46
        try clear c46b0
        try clear c46b1
        try clear c46b2
        try clear c47
        try clear c47b0
        try clear c47b1
        try clear c47b2
        obtain ⟨kq, x5_37, rfl, HA, HJ37, BK101, BK110, HB⟩ := hcut
        cases kq with
        | zero => exact absurd HA.out (by simp [note_body.j3])
        | succ kj37 =>
         have H := HA.out
         clear HA
         simp only [note_body.j3] at H
         have HC52 := aq H
         clear H
         have hnb53 := NB110_101.out
         have hnc53 := NB101_110.out
         obtain ⟨k54a, k54b, k54c, k54d, k54e, k54f, k54g⟩ := cl7 (W := wc) BK110.out
         obtain ⟨u54a, u54b, u54c, u54d, u54e, u54f, u54g⟩ := fr7 BK110.out
         go_upto_if 60 with (fail)
         go_cut [5] (fun v5 wc => ∃ (kq : Nat) (x5_51 : ByteArray), v5 = .string x5_51 ∧ Aside0 (note_body.j4 kq x5_51 a0_0 a0_1 a0_2 a0_3 a0_4 a0_5 a0_6 a0_7 a0_8 l0_9 l0_10 t102 t103 t104 t105 t106 t107 t108 = some r) ∧ Aside0 (kq ≤ kj37) ∧ Aside0 (wc.heap[gb101]? = some (.cells #[.int .i64 a0_0, .int .i64 a0_1, .bool a0_2, .bool a0_3, .int .i64 a0_4, .int .i64 a0_5, .int .i64 a0_6, .int .i64 a0_7, .int .i64 a0_8, (.slice A0_9 l0_9.length c0_9), (.slice A0_10 l0_10.length c0_10)] 55 (0, 0))) ∧ Aside0 (wc.heap[gb110]? = some (.cells #[.bool t102, .bool t103, .bool t104, .bool t105, .bool t106, .bool t107, .bool t108] 107 (0, 0))) ∧ Aside0 (Below w.heap.size w wc))
         case first =>
          have H := HC52.out
          clear HC52
          by_cases c55 : t106 = true
          ·subst c55
           rw [if_pos rfl] at H
           replace H := Option.bind_eq_some_iff.mp H
           obtain ⟨t118, A560, H⟩ := H
           try dsimp only at H
           have A56 := aq A560
           clear A560
           by_cases c57 : x5_37.size + t118.size ≤ 9223372036854775807
           ·rw [if_pos c57] at H
            have c57b0 := eq_true c57
            have c57b1 : decide (x5_37.size + t118.size ≤ 9223372036854775807) = true := decide_eq_true c57
            try have c57b2 : (9223372036854775807 < x5_37.size + t118.size) = False := eq_false (Nat.not_lt.2 c57)
            have H' := aq H
            clear H
            have hnb58 := NB101_110.out
            have hnc58 := NB110_101.out
            obtain ⟨k59a, k59b, k59c, k59d, k59e, k59f, k59g, k59h, k59i, k59j, k59k⟩ := cl11 (W := wc) BK101.out
            obtain ⟨u59a, u59b, u59c, u59d, u59e, u59f, u59g, u59h, u59i, u59j, u59k⟩ := fr11 BK101.out
            go_wp2_with (first | ((with_reducible refine gate_callee (f := 98) rfl ?_); refine goesL_ (some 64) rfl rfl Try.func98 (by kernel_rfl) rfl #[.int .i64 a0_4] rfl fitR ?_; (with_reducible refine (nibInt.calls a0_4 t118 _ A56.out).mono ?_); rintro e w60 ⟨rfl, hb⟩; refine ⟨_, rfl, ?_⟩; have n0_ := aq (blk_below (stB BK101) hb); have n1_ := aq (blk_below (stB BK110) hb); have n2_ := aq (below_step (stH HB) hb); replace BK101 := n0_; replace BK110 := n1_; replace HB := n2_; clear n0_ n1_ n2_; (try clear hb)))
            go_meet
            case rel => exact ⟨_, (x5_37 ++ t118), eqS, H', ⟨by have := HJ3.out; have := HJ19.out; have := HJ28.out; have := HJ37.out; first | omega | exact Nat.le_refl _⟩, ⟨stB BK101⟩, ⟨stB BK110⟩, ⟨stH HB⟩⟩
           ·rw [if_neg c57] at H
            exact absurd H (by simp)
          ·replace c55 := Bool.eq_false_iff.mpr c55
           subst c55
           rw [if_neg (show ¬ (false = true) by decide)] at H
           have H' := aq H
           clear H
           go_wp2
           go_meet
           case rel => exact ⟨_, (x5_37), eqS, H', ⟨by have := HJ3.out; have := HJ19.out; have := HJ28.out; have := HJ37.out; first | omega | exact Nat.le_refl _⟩, ⟨stB BK101⟩, ⟨stB BK110⟩, ⟨stH HB⟩⟩
         case rest =>
          clear HC52
          try clear k54a k54b k54c k54d k54e k54f k54g
          try clear u54a u54b u54c u54d u54e u54f u54g
          try clear c1
          try clear c2
          try clear p2
          try clear c3
          try clear c4
          try clear c5
          try clear c8
          try clear c9
          try clear c10
          try clear c12
          try clear c14
          try clear c16
          try clear c16b0
          try clear c16b1
          try clear c16b2
          try clear c17
          try clear c21
          try clear c23
          try clear c25
          try clear c25b0
          try clear c25b1
          try clear c25b2
          try clear c26
          try clear c30
          try clear c32
          try clear c34
          try clear c34b0
          try clear c34b1
          try clear c34b2
          try clear c35
          try clear c39
          try clear c41
          try clear c44
          try clear c44b0
          try clear c44b1
          try clear c44b2
          try clear c46
          try clear c46b0
          try clear c46b1
          try clear c46b2
          try clear c47
          try clear c47b0
          try clear c47b1
          try clear c47b2
          try clear c53
          try clear c55
          try clear c57
          try clear c57b0
          try clear c57b1
          try clear c57b2
          try clear c58
          obtain ⟨kq, x5_51, rfl, HA, HJ51, BK101, BK110, HB⟩ := hcut
          cases kq with
          | zero => exact absurd HA.out (by simp [note_body.j4])
          | succ kj51 =>
           have H := HA.out
           clear HA
           simp only [note_body.j4] at H
           have HC61 := aq H
           clear H
           have hnb62 := NB110_101.out
           have hnc62 := NB101_110.out
           obtain ⟨k63a, k63b, k63c, k63d, k63e, k63f, k63g⟩ := cl7 (W := wc) BK110.out
           obtain ⟨u63a, u63b, u63c, u63d, u63e, u63f, u63g⟩ := fr7 BK110.out
           go_upto_if 67 with (fail)
           go_cut [5] (fun v5 wc => ∃ (kq : Nat) (x5_60 : ByteArray), v5 = .string x5_60 ∧ Aside0 (note_body.j5 kq x5_60 a0_0 a0_1 a0_2 a0_3 a0_4 a0_5 a0_6 a0_7 a0_8 l0_9 l0_10 t102 t103 t104 t105 t106 t107 t108 = some r) ∧ Aside0 (kq ≤ kj51) ∧ Aside0 (wc.heap[gb101]? = some (.cells #[.int .i64 a0_0, .int .i64 a0_1, .bool a0_2, .bool a0_3, .int .i64 a0_4, .int .i64 a0_5, .int .i64 a0_6, .int .i64 a0_7, .int .i64 a0_8, (.slice A0_9 l0_9.length c0_9), (.slice A0_10 l0_10.length c0_10)] 55 (0, 0))) ∧ Aside0 (wc.heap[gb110]? = some (.cells #[.bool t102, .bool t103, .bool t104, .bool t105, .bool t106, .bool t107, .bool t108] 107 (0, 0))) ∧ Aside0 (Below w.heap.size w wc))
           case first =>
            have H := HC61.out
            clear HC61
            by_cases c64 : t107 = true
            ·subst c64
             rw [if_pos rfl] at H
             replace H := Option.bind_eq_some_iff.mp H
             obtain ⟨⟨t119, t120⟩, A650, H⟩ := H
             try dsimp only at H
             have A65 := aq A650
             clear A650
             by_cases c66 : x5_51.size + t119.size ≤ 9223372036854775807
             ·rw [if_pos c66] at H
              have c66b0 := eq_true c66
              have c66b1 : decide (x5_51.size + t119.size ≤ 9223372036854775807) = true := decide_eq_true c66
              try have c66b2 : (9223372036854775807 < x5_51.size + t119.size) = False := eq_false (Nat.not_lt.2 c66)
              have H' := aq H
              clear H
              have hnb67 := NB101_110.out
              have hnc67 := NB110_101.out
              obtain ⟨k68a, k68b, k68c, k68d, k68e, k68f, k68g, k68h, k68i, k68j, k68k⟩ := cl11 (W := wc) BK101.out
              obtain ⟨u68a, u68b, u68c, u68d, u68e, u68f, u68g, u68h, u68i, u68j, u68k⟩ := fr11 BK101.out
              go_wp2_with (first | ((with_reducible refine gate_callee (f := 32) rfl ?_); refine goesL_ (some 71) rfl rfl Try.func32 (by kernel_rfl) rfl #[.agg #[.int .i64 a0_8, .slice A0_9 l0_9.length c0_9]] rfl fitR ?_; (with_reducible refine (slab_Encode.calls a0_8 _ _ l0_9 t119 t120 _ ?side1 ?side2 A65.out).mono ?_); (case side1 => exact stC (Kd.C_below HR0_9.out HB.out)); (case side2 => exact HC0_9.out); rintro e w69 ⟨rfl, hb⟩; refine ⟨_, rfl, ?_⟩; have n0_ := aq (blk_below (stB BK101) hb); have n1_ := aq (blk_below (stB BK110) hb); have n2_ := aq (below_step (stH HB) hb); replace BK101 := n0_; replace BK110 := n1_; replace HB := n2_; clear n0_ n1_ n2_; (try clear hb)))
              go_meet
              case rel => exact ⟨_, (x5_51 ++ t119), eqS, H', ⟨by have := HJ3.out; have := HJ19.out; have := HJ28.out; have := HJ37.out; have := HJ51.out; first | omega | exact Nat.le_refl _⟩, ⟨stB BK101⟩, ⟨stB BK110⟩, ⟨stH HB⟩⟩
             ·rw [if_neg c66] at H
              exact absurd H (by simp)
            ·replace c64 := Bool.eq_false_iff.mpr c64
             subst c64
             rw [if_neg (show ¬ (false = true) by decide)] at H
             have H' := aq H
             clear H
             go_wp2
             go_meet
             case rel => exact ⟨_, (x5_51), eqS, H', ⟨by have := HJ3.out; have := HJ19.out; have := HJ28.out; have := HJ37.out; have := HJ51.out; first | omega | exact Nat.le_refl _⟩, ⟨stB BK101⟩, ⟨stB BK110⟩, ⟨stH HB⟩⟩
           case rest =>
            clear HC61
            try clear k63a k63b k63c k63d k63e k63f k63g
            try clear u63a u63b u63c u63d u63e u63f u63g
            try clear c1
            try clear c2
            try clear p2
            try clear c3
            try clear c4
            try clear c5
            try clear c6
            try clear c8
            try clear c9
            try clear c10
            try clear c12
            try clear c14
            try clear c16
            try clear c16b0
            try clear c16b1
            try clear c16b2
            try clear c17
            try clear c21
            try clear c23
            try clear c25
            try clear c25b0
            try clear c25b1
            try clear c25b2
            try clear c26
            try clear c30
            try clear c32
            try clear c34
            try clear c34b0
            try clear c34b1
            try clear c34b2
            try clear c35
            try clear c39
            try clear c41
            try clear c44
            try clear c44b0
            try clear c44b1
            try clear c44b2
            try clear c46
            try clear c46b0
            try clear c46b1
            try clear c46b2
            try clear c47
            try clear c47b0
            try clear c47b1
            try clear c47b2
            try clear c53
            try clear c55
            try clear c57
            try clear c57b0
            try clear c57b1
            try clear c57b2
            try clear c58
            try clear c62
            try clear c64
            try clear c66
            try clear c66b0
            try clear c66b1
            try clear c66b2
            try clear c67
            obtain ⟨kq, x5_60, rfl, HA, HJ60, BK101, BK110, HB⟩ := hcut
            cases kq with
            | zero => exact absurd HA.out (by simp [note_body.j5])
            | succ kj60 =>
             have H := HA.out
             clear HA
             simp only [note_body.j5] at H
             have HC70 := aq H
             clear H
             have hnb71 := NB110_101.out
             have hnc71 := NB101_110.out
             obtain ⟨k72a, k72b, k72c, k72d, k72e, k72f, k72g⟩ := cl7 (W := wc) BK110.out
             obtain ⟨u72a, u72b, u72c, u72d, u72e, u72f, u72g⟩ := fr7 BK110.out
             go_upto_if 78 with (fail)
             go_cut [5] (fun v5 wc => ∃ (kq : Nat) (x5_69 : ByteArray), v5 = .string x5_69 ∧ Aside0 (note_body.j6 kq x5_69 a0_0 a0_1 a0_2 a0_3 a0_4 a0_5 a0_6 a0_7 a0_8 l0_9 l0_10 = some r) ∧ Aside0 (kq ≤ kj60) ∧ Aside0 (wc.heap[gb101]? = some (.cells #[.int .i64 a0_0, .int .i64 a0_1, .bool a0_2, .bool a0_3, .int .i64 a0_4, .int .i64 a0_5, .int .i64 a0_6, .int .i64 a0_7, .int .i64 a0_8, (.slice A0_9 l0_9.length c0_9), (.slice A0_10 l0_10.length c0_10)] 55 (0, 0))) ∧ Aside0 (wc.heap[gb110]? = some (.cells #[.bool t102, .bool t103, .bool t104, .bool t105, .bool t106, .bool t107, .bool t108] 107 (0, 0))) ∧ Aside0 (Below w.heap.size w wc))
             case first =>
              have H := HC70.out
              clear HC70
              by_cases c73 : t108 = true
              ·subst c73
               rw [if_pos rfl] at H
               replace H := Option.bind_eq_some_iff.mp H
               obtain ⟨t121, A740, H⟩ := H
               try dsimp only at H
               have A74 := aq A740
               clear A740
               by_cases c75 : x5_60.size + t121.size ≤ 9223372036854775807
               ·rw [if_pos c75] at H
                have c75b0 := eq_true c75
                have c75b1 : decide (x5_60.size + t121.size ≤ 9223372036854775807) = true := decide_eq_true c75
                try have c75b2 : (9223372036854775807 < x5_60.size + t121.size) = False := eq_false (Nat.not_lt.2 c75)
                have H' := aq H
                clear H
                have hnb76 := NB101_110.out
                have hnc76 := NB110_101.out
                obtain ⟨k77a, k77b, k77c, k77d, k77e, k77f, k77g, k77h, k77i, k77j, k77k⟩ := cl11 (W := wc) BK101.out
                obtain ⟨u77a, u77b, u77c, u77d, u77e, u77f, u77g, u77h, u77i, u77j, u77k⟩ := fr11 BK101.out
                go_wp2_with (first | ((with_reducible refine gate_callee (f := 98) rfl ?_); refine goesL_ (some 83) rfl rfl Try.func98 (by kernel_rfl) rfl #[.int .i64 (l0_10.length : Int)] rfl fitR ?_; (with_reducible refine (nibInt.calls (l0_10.length : Int) t121 _ A74.out).mono ?_); rintro e w78 ⟨rfl, hb⟩; refine ⟨_, rfl, ?_⟩; have n0_ := aq (blk_below (stB BK101) hb); have n1_ := aq (blk_below (stB BK110) hb); have n2_ := aq (below_step (stH HB) hb); replace BK101 := n0_; replace BK110 := n1_; replace HB := n2_; clear n0_ n1_ n2_; (try clear hb)))
                go_meet
                case rel => exact ⟨_, (x5_60 ++ t121), eqS, H', ⟨by have := HJ3.out; have := HJ19.out; have := HJ28.out; have := HJ37.out; have := HJ51.out; have := HJ60.out; first | omega | exact Nat.le_refl _⟩, ⟨stB BK101⟩, ⟨stB BK110⟩, ⟨stH HB⟩⟩
               ·rw [if_neg c75] at H
                exact absurd H (by simp)
              ·replace c73 := Bool.eq_false_iff.mpr c73
               subst c73
               rw [if_neg (show ¬ (false = true) by decide)] at H
               have H' := aq H
               clear H
               go_wp2
               go_meet
               case rel => exact ⟨_, (x5_60), eqS, H', ⟨by have := HJ3.out; have := HJ19.out; have := HJ28.out; have := HJ37.out; have := HJ51.out; have := HJ60.out; first | omega | exact Nat.le_refl _⟩, ⟨stB BK101⟩, ⟨stB BK110⟩, ⟨stH HB⟩⟩
             case rest =>
              clear HC70
              try clear k72a k72b k72c k72d k72e k72f k72g
              try clear u72a u72b u72c u72d u72e u72f u72g
              try clear c1
              try clear c2
              try clear p2
              try clear c3
              try clear c4
              try clear c5
              try clear c6
              try clear c7
              try clear c8
              try clear c9
              try clear c10
              try clear c12
              try clear c14
              try clear c16
              try clear c16b0
              try clear c16b1
              try clear c16b2
              try clear c17
              try clear c21
              try clear c23
              try clear c25
              try clear c25b0
              try clear c25b1
              try clear c25b2
              try clear c26
              try clear c30
              try clear c32
              try clear c34
              try clear c34b0
              try clear c34b1
              try clear c34b2
              try clear c35
              try clear c39
              try clear c41
              try clear c44
              try clear c44b0
              try clear c44b1
              try clear c44b2
              try clear c46
              try clear c46b0
              try clear c46b1
              try clear c46b2
              try clear c47
              try clear c47b0
              try clear c47b1
              try clear c47b2
              try clear c53
              try clear c55
              try clear c57
              try clear c57b0
              try clear c57b1
              try clear c57b2
              try clear c58
              try clear c62
              try clear c64
              try clear c66
              try clear c66b0
              try clear c66b1
              try clear c66b2
              try clear c67
              try clear c71
              try clear c73
              try clear c75
              try clear c75b0
              try clear c75b1
              try clear c75b2
              try clear c76
              obtain ⟨kq, x5_69, rfl, HA, HJ69, BK101, BK110, HB⟩ := hcut
              cases kq with
              | zero => exact absurd HA.out (by simp [note_body.j6])
              | succ kj69 =>
               have H := HA.out
               clear HA
               simp only [note_body.j6] at H
               have H' := aq H
               clear H
               have hnb79 := NB101_110.out
               have hnc79 := NB110_101.out
               obtain ⟨k80a, k80b, k80c, k80d, k80e, k80f, k80g, k80h, k80i, k80j, k80k⟩ := cl11 (W := wc) BK101.out
               obtain ⟨u80a, u80b, u80c, u80d, u80e, u80f, u80g, u80h, u80i, u80j, u80k⟩ := fr11 BK101.out
               go_wp2
               go_loopg [5, 88] kj69 (fun kq v5 v88 w' => ∃ (x5_8 : ByteArray) (x88_8 : Int), v5 = .string x5_8 ∧ v88 = .int .i64 x88_8 ∧ Aside0 (note_body.l0 kq x5_8 l0_10 (l0_10.length : Int) x88_8 = some r) ∧ Aside0 (kq ≤ kj69) ∧ Aside0 (w'.heap[gb101]? = some (.cells #[.int .i64 a0_0, .int .i64 a0_1, .bool a0_2, .bool a0_3, .int .i64 a0_4, .int .i64 a0_5, .int .i64 a0_6, .int .i64 a0_7, .int .i64 a0_8, (.slice A0_9 l0_9.length c0_9), (.slice A0_10 l0_10.length c0_10)] 55 (0, 0))) ∧ Aside0 (w'.heap[gb110]? = some (.cells #[.bool t102, .bool t103, .bool t104, .bool t105, .bool t106, .bool t107, .bool t108] 107 (0, 0))) ∧ Aside0 (Below w.heap.size w w'))
               case atStart => exact ⟨(x5_69), (0), eqS, eqS, H', ⟨Nat.le_refl _⟩, ⟨stB BK101⟩, ⟨stB BK110⟩, ⟨stH HB⟩⟩
               case round =>
                clear H'
                try clear k80a k80b k80c k80d k80e k80f k80g k80h k80i k80j k80k
                try clear u80a u80b u80c u80d u80e u80f u80g u80h u80i u80j u80k
                try clear c1
                try clear c2
                try clear p2
                try clear c3
                try clear c4
                try clear c5
                try clear c6
                try clear c7
                try clear c8
                try clear c9
                try clear c10
                try clear c12
                try clear c14
                try clear c16
                try clear c16b0
                try clear c16b1
                try clear c16b2
                try clear c17
                try clear c21
                try clear c23
                try clear c25
                try clear c25b0
                try clear c25b1
                try clear c25b2
                try clear c26
                try clear c30
                try clear c32
                try clear c34
                try clear c34b0
                try clear c34b1
                try clear c34b2
                try clear c35
                try clear c39
                try clear c41
                try clear c44
                try clear c44b0
                try clear c44b1
                try clear c44b2
                try clear c46
                try clear c46b0
                try clear c46b1
                try clear c46b2
                try clear c47
                try clear c47b0
                try clear c47b1
                try clear c47b2
                try clear c53
                try clear c55
                try clear c57
                try clear c57b0
                try clear c57b1
                try clear c57b2
                try clear c58
                try clear c62
                try clear c64
                try clear c66
                try clear c66b0
                try clear c66b1
                try clear c66b2
                try clear c67
                try clear c71
                try clear c73
                try clear c75
                try clear c75b0
                try clear c75b1
                try clear c75b2
                try clear c76
                try clear c79
                obtain ⟨x5_8, x88_8, rfl, rfl, HA, HK8, BK101, BK110, HB⟩ := hrel
                cases gk with
                | zero => exact absurd HA.out (by simp [note_body.l0])
                | succ k8 =>
                 have H := HA.out
                 clear HA
                 simp only [note_body.l0] at H
                 by_cases c81 : x88_8 < (l0_10.length : Int)
                 ·rw [if_pos c81] at H
                  have c81b0 : decide (x88_8 < (l0_10.length : Int)) = true := decide_eq_true c81
                  clear c81
                  by_cases c82 : 0 ≤ x88_8
                  ·rw [if_pos c82] at H
                   have c82b0 : decide (0 ≤ x88_8) = true := decide_eq_true c82
                   clear c82
                   by_cases c83 : x88_8 < (l0_10.length : Int)
                   ·rw [if_pos c83] at H
                    have c83b0 : decide (x88_8 < (l0_10.length : Int)) = true := decide_eq_true c83
                    clear c83
                    replace H := Option.bind_eq_some_iff.mp H
                    obtain ⟨⟨t124, t125⟩, A840, H⟩ := H
                    try dsimp only at H
                    have A84 := aq A840
                    clear A840
                    by_cases c85 : x5_8.size + t124.size ≤ 9223372036854775807
                    ·rw [if_pos c85] at H
                     have c85b0 := eq_true c85
                     have c85b1 : decide (x5_8.size + t124.size ≤ 9223372036854775807) = true := decide_eq_true c85
                     try have c85b2 : (9223372036854775807 < x5_8.size + t124.size) = False := eq_false (Nat.not_lt.2 c85)
                     have H' := aq H
                     clear H
                     have p122 : 0 ≤ (x88_8 : Int) := of_decide_eq_true (by first | (with_reducible assumption) | assumption)
                     have q122 : x88_8 < (l0_10.length : Int) := of_decide_eq_true (by first | (with_reducible assumption) | assumption)
                     obtain ⟨ad122, e122, hx122_0, hx122_1, hx122_2, hx122_3, hx122_4, hx122_5, hx122_6, hx122_7, hx122_8, hx122_9, hx122_10, hx122_11, hx122_12⟩ := at_T65 HR0_10.out x88_8 p122 q122
                     cases e122
                     replace hx122_0 := (HB.out.cell (World.block_lt_of_cell? w _ hx122_0)).trans hx122_0
                     replace hx122_1 := (HB.out.cell (World.block_lt_of_cell? w _ hx122_1)).trans hx122_1
                     replace hx122_2 := (HB.out.cell (World.block_lt_of_cell? w _ hx122_2)).trans hx122_2
                     replace hx122_3 := (HB.out.cell (World.block_lt_of_cell? w _ hx122_3)).trans hx122_3
                     replace hx122_4 := (HB.out.cell (World.block_lt_of_cell? w _ hx122_4)).trans hx122_4
                     replace hx122_5 := (HB.out.cell (World.block_lt_of_cell? w _ hx122_5)).trans hx122_5
                     replace hx122_6 := (HB.out.cell (World.block_lt_of_cell? w _ hx122_6)).trans hx122_6
                     replace hx122_7 := (HB.out.cell (World.block_lt_of_cell? w _ hx122_7)).trans hx122_7
                     replace hx122_8 := (HB.out.cell (World.block_lt_of_cell? w _ hx122_8)).trans hx122_8
                     replace hx122_9 := (HB.out.cell (World.block_lt_of_cell? w _ hx122_9)).trans hx122_9
                     replace hx122_10 := (HB.out.cell (World.block_lt_of_cell? w _ hx122_10)).trans hx122_10
                     replace hx122_11 := (HB.out.cell (World.block_lt_of_cell? w _ hx122_11)).trans hx122_11
                     replace hx122_12 := (HB.out.cell (World.block_lt_of_cell? w _ hx122_12)).trans hx122_12
                     replace p122 := eq_true p122
                     replace q122 := eq_true q122
                     go_wp2_with (first | ((with_reducible refine gate_dst (N := 9) rfl ?_); refine box_event ?hg (N := 9) ?hd (cs := #[.int .i64 0, .int .i64 0, .int .i64 0, .int .i64 0, .int .i64 0, .int .i64 0, .int .i64 0, .int .i64 0, .bool false, .string (⟨#[]⟩ : ByteArray), .bool false, .string (⟨#[]⟩ : ByteArray), .int .i64 0]) (t := 65) ?hr ?_; (case hd => rfl); (case hg => rfl); (case hr => first | (go_simp; done) | (go_simp; rfl)); intro gb123 hg w86 hbox hb; have n0_ := aq (blk_below (stB BK101) hb); have n1_ := aq (blk_below (stB BK110) hb); have n2_ := aq (below_step (stH HB) hb); have n3_ := aq (hbox); have n4_ := aq ((by rw [hg]; exact (below_size (stH HB)) : w.heap.size ≤ gb123)); have n5_ := aq ((by rw [hg]; exact (below_size (stH HB)) : w.heap.size ≤ gb123)); have n6_ := aq ((by rw [hg]; exact Nat.ne_of_lt (blk_lt (stB BK101)) : gb101 ≠ gb123)); have n7_ := aq ((by rw [hg]; exact Nat.ne_of_gt (blk_lt (stB BK101)) : gb123 ≠ gb101)); have n8_ := aq ((by rw [hg]; exact Nat.ne_of_lt (blk_lt (stB BK110)) : gb110 ≠ gb123)); have n9_ := aq ((by rw [hg]; exact Nat.ne_of_gt (blk_lt (stB BK110)) : gb123 ≠ gb110)); replace BK101 := n0_; replace BK110 := n1_; replace HB := n2_; have BK123 := n3_; have GW123 := n4_; have GE123 := n5_; have NB101_123 := n6_; have NB123_101 := n7_; have NB110_123 := n8_; have NB123_110 := n9_; clear n0_ n1_ n2_ n3_ n4_ n5_ n6_ n7_ n8_ n9_; clear hb hbox hg; have hnb87 := NB123_101.out; have hnc87 := NB101_123.out; have hnb88 := NB123_110.out; have hnc88 := NB110_123.out; obtain ⟨k89a, k89b, k89c, k89d, k89e, k89f, k89g, k89h, k89i, k89j, k89k, k89l, k89m⟩ := cl13 (W := w86) BK123.out; obtain ⟨u89a, u89b, u89c, u89d, u89e, u89f, u89g, u89h, u89i, u89j, u89k, u89l, u89m⟩ := fr13 BK123.out) | ((with_reducible refine gate_callee (f := 53) rfl ?_); refine goesL_ (some 94) rfl rfl Try.func53 (by kernel_rfl) rfl #[.agg #[.int .i64 ((rd_T65 l0_10 x88_8).f0), .int .i64 ((rd_T65 l0_10 x88_8).f1.f0), .int .i64 ((rd_T65 l0_10 x88_8).f1.f1), .int .i64 ((rd_T65 l0_10 x88_8).f1.f2), .int .i64 ((rd_T65 l0_10 x88_8).f2), .int .i64 ((rd_T65 l0_10 x88_8).f3), .int .i64 ((rd_T65 l0_10 x88_8).f4), .int .i64 ((rd_T65 l0_10 x88_8).f5), .bool ((rd_T65 l0_10 x88_8).f6.f0), .string ((rd_T65 l0_10 x88_8).f6.f1), .bool ((rd_T65 l0_10 x88_8).f7.f0), .string ((rd_T65 l0_10 x88_8).f7.f1), .int .i64 ((rd_T65 l0_10 x88_8).f8)]] rfl fitR ?_; (with_reducible refine (entEnc.calls ((rd_T65 l0_10 x88_8).f0) ((rd_T65 l0_10 x88_8).f1.f0) ((rd_T65 l0_10 x88_8).f1.f1) ((rd_T65 l0_10 x88_8).f1.f2) ((rd_T65 l0_10 x88_8).f2) ((rd_T65 l0_10 x88_8).f3) ((rd_T65 l0_10 x88_8).f4) ((rd_T65 l0_10 x88_8).f5) ((rd_T65 l0_10 x88_8).f6.f0) ((rd_T65 l0_10 x88_8).f6.f1) ((rd_T65 l0_10 x88_8).f7.f0) ((rd_T65 l0_10 x88_8).f7.f1) ((rd_T65 l0_10 x88_8).f8) t124 t125 _ A84.out).mono ?_); rintro e w90 ⟨rfl, hb⟩; refine ⟨_, rfl, ?_⟩; have n0_ := aq (blk_below (g := gb101) (o := .cells #[.int .i64 a0_0, .int .i64 a0_1, .bool a0_2, .bool a0_3, .int .i64 a0_4, .int .i64 a0_5, .int .i64 a0_6, .int .i64 a0_7, .int .i64 a0_8, .slice A0_9 l0_9.length c0_9, .slice (some ad122) l0_10.length c0_10] 55 (0, 0)) (stF BK101) hb); have n1_ := aq (blk_below (g := gb110) (o := .cells #[.bool t102, .bool t103, .bool t104, .bool t105, .bool t106, .bool t107, .bool t108] 107 (0, 0)) (stF BK110) hb); have n2_ := aq (blk_below (g := gb123) (o := .cells #[.int .i64 ((rd_T65 l0_10 x88_8).f0), .int .i64 ((rd_T65 l0_10 x88_8).f1.f0), .int .i64 ((rd_T65 l0_10 x88_8).f1.f1), .int .i64 ((rd_T65 l0_10 x88_8).f1.f2), .int .i64 ((rd_T65 l0_10 x88_8).f2), .int .i64 ((rd_T65 l0_10 x88_8).f3), .int .i64 ((rd_T65 l0_10 x88_8).f4), .int .i64 ((rd_T65 l0_10 x88_8).f5), .bool ((rd_T65 l0_10 x88_8).f6.f0), .string ((rd_T65 l0_10 x88_8).f6.f1), .bool ((rd_T65 l0_10 x88_8).f7.f0), .string ((rd_T65 l0_10 x88_8).f7.f1), .int .i64 ((rd_T65 l0_10 x88_8).f8)] 65 (0, 0)) (by (with_reducible repeat (first | refine blk_drewN ?_ _ | refine blk_drew ?_ | refine blk_alloc ?_ _)); refine puts13 (cs := #[.int .i64 0, .int .i64 0, .int .i64 0, .int .i64 0, .int .i64 0, .int .i64 0, .int .i64 0, .int .i64 0, .bool false, .string (⟨#[]⟩ : ByteArray), .bool false, .string (⟨#[]⟩ : ByteArray), .int .i64 0]) rfl ?_; (with_reducible repeat (first | refine blk_drewN ?_ _ | refine blk_drew ?_ | refine blk_alloc ?_ _)); exact BK123.out) hb); have n3_ := aq (below_step (stH HB) hb); replace BK101 := n0_; replace BK110 := n1_; replace BK123 := n2_; replace HB := n3_; clear n0_ n1_ n2_ n3_; (try clear hb)))
                     go_roundg k8
                     case measure => have := HJ3.out; have := HJ19.out; have := HJ28.out; have := HJ37.out; have := HJ51.out; have := HJ60.out; have := HJ69.out; have := HK8.out; omega
                     case rel => exact ⟨(x5_8 ++ t124), (wrap64 (x88_8 + 1)), eqS, eqS, H', ⟨by have := HJ3.out; have := HJ19.out; have := HJ28.out; have := HJ37.out; have := HJ51.out; have := HJ60.out; have := HJ69.out; have := HK8.out; omega⟩, ⟨stB BK101⟩, ⟨stB BK110⟩, ⟨stH HB⟩⟩
                    ·rw [if_neg c85] at H
                     exact absurd H (by simp)
                   ·rw [if_neg c83] at H
                    exact absurd H (by simp)
                  ·rw [if_neg c82] at H
                   exact absurd H (by simp)
                 ·rw [if_neg c81] at H
                  have c81b0 : decide (x88_8 < (l0_10.length : Int)) = false := decide_eq_false c81
                  clear c81
                  obtain rfl := Option.some.inj H
                  go_wp2
                  go_ret
                  exact ⟨eqW, by repeat (first | (with_reducible first | exact HB.out | apply below_alloc | apply pw_below_drewN | apply below_drew1 | refine below_set ?_ GE101.out | refine below_set ?_ GE110.out) | exact HB.out)⟩
end Go.Proofs.Ytfjmnaobfbmllaa.M
namespace Go.Proofs.Ytfjmnaobfbmllaa.M
open Go.RowKit Go.Proofs.YtfjmnaobfbmllaaW.PrintWords Go.Proofs.YtfjmnaobfbmllaaW.PrintLast Go.Proofs.YtfjmnaobfbmllaaW.PrintMore
set_option linter.unusedVariables false
set_option linter.unusedSimpArgs false
def Fine (L : List Int) (c : Nat) : Prop := (∀ b ∈ L, 0 ≤ b ∧ b ≤ 255) ∧ L.length ≤ c
theorem Fine.app {L M : List Int} {c d : Nat} (h : Fine L c) (h2 : Fine M d) : Fine (L ++ M) (c + d) := ⟨app_all h.1 h2.1, by rw [List.length_append]; exact Nat.add_le_add h.2 h2.2⟩
theorem Fine.up {L : List Int} {c d : Nat} (h : Fine L c) (hc : c ≤ d) : Fine L d := ⟨h.1, Nat.le_trans h.2 hc⟩
theorem fine_int {n : Int} (h : small n) : Fine (intB n) 11 := ⟨intB_small h, intLen n⟩
theorem fit_ok {L M : List Int} {c d : Nat} (h : Fine L c) (h2 : Fine M d) (hc : c + d ≤ 100000) : (strOfNums L).size + (strOfNums M).size ≤ 9223372036854775807 := by
  have := h.2; have := h2.2
  rw [strOfNums_size, strOfNums_size]; omega
theorem nib_small {n : Int} (h : small n) : nibInt.f n = some (strOfNums (intB n)) := if_pos h
theorem nflag_eq (b : Bool) : note_flag.f b = some (strOfNums (intB (bI b))) := by
  unfold note_flag.f
  cases b with
  | true => rw [if_pos rfl, nib_small ⟨by decide, by decide⟩]; rfl
  | false => rw [if_neg Bool.false_ne_true, nib_small ⟨by decide, by decide⟩]; rfl
theorem rd65b (l : List S65) (i : Nat) (h : i < l.length) : rd_T65 l (i : Int) = l[i] := by simp [rd_T65, h]
theorem body_loop (m : List S65) (hm : ∀ e ∈ m, GoodE e) (hl : m.length ≤ 16) (d : Nat) : ∀ (i k : Nat) (L : List Int), i + d = m.length → d < k → Fine L (20000 + 600 * i) →
    note_body.l0 k (strOfNums L) m (m.length : Int) (i : Int) = some (strOfNums (L ++ (m.drop i).flatMap encE)) := by
  induction d with
  | zero =>
    intro i k L hi hk hL
    obtain ⟨k, rfl⟩ : ∃ m, k = m + 1 := ⟨k - 1, by omega⟩
    simp only [note_body.l0]
    rw [if_neg (by omega), List.drop_eq_nil_of_le (by omega)]
    simp
  | succ d ih =>
    intro i k L hi hk hL
    obtain ⟨k, rfl⟩ : ∃ m, k = m + 1 := ⟨k - 1, by omega⟩
    have hlt : i < m.length := by omega
    have hg : GoodE m[i] := hm _ (List.getElem_mem hlt)
    have h2 : Fine (encE m[i]) 600 := ⟨encE_range hg, encE_len hg⟩
    simp only [note_body.l0]
    rw [if_pos (by omega), if_pos (by omega), if_pos (by omega), rd65b m i hlt]
    unfold entEnc.f
    rw [mk_eq, encX_good hg, Option.bind_some]
    simp only
    rw [if_pos (fit_ok hL h2 (by omega)), str_app2 _ _ hL.1 h2.1, w64 ((i : Int) + 1) (by omega) (by omega), show ((i : Int) + 1) = ((i + 1 : Nat) : Int) by omega]
    rw [ih (i + 1) k (L ++ encE m[i]) (by omega) (by omega) ((hL.app h2).up (by omega)), List.drop_eq_getElem_cons hlt, List.flatMap_cons, List.append_assoc]
theorem body_all (m : List S65) (hm : ∀ e ∈ m, GoodE e) (hl : m.length ≤ 16) (k : Nat) (L : List Int) (hk : 16 < k) (hL : Fine L 20000) : note_body.l0 k (strOfNums L) m (m.length : Int) 0 = some (strOfNums (L ++ m.flatMap encE)) := by
  have := body_loop m hm hl m.length 0 k L (Nat.zero_add _) (by omega) (hL.up (Nat.le_add_right _ _))
  rw [List.drop_zero] at this
  exact this
section
variable (k pg : Int) (x nd : Bool) (n t1 t2 t3 ls : Int) (l : List S33) (m : List S65) (f0 f1 f2 f3 f4 f5 f6 : Bool)
theorem body_j5 (q : Nat) (L : List Int) (hL : Fine L 10000) (hm : ∀ e ∈ m, GoodE e) (hl : m.length ≤ 16) (h6 : f6 = false → m = []) :
    note_body.j5 (q + 19) (strOfNums L) k pg x nd n t1 t2 t3 ls l m f0 f1 f2 f3 f4 f5 f6 = some (strOfNums (L ++ on f6 (intB m.length ++ m.flatMap encE))) := by
  simp only [note_body.j5, note_body.j6]
  have hs : small (m.length : Int) := ⟨by omega, by omega⟩
  cases f6 with
  | true =>
    have hL2 : Fine (L ++ intB m.length) 20000 := (hL.app (fine_int hs)).up (by omega)
    rw [if_pos rfl, nib_small hs, Option.bind_some, if_pos (fit_ok hL (fine_int hs) (by omega)), str_app2 _ _ hL.1 (fine_int hs).1, body_all m hm hl (q + 17) _ (by omega) hL2, List.append_assoc]
    rfl
  | false =>
    obtain rfl := h6 rfl
    rw [if_neg Bool.false_ne_true, body_all [] hm hl (q + 17) L (by omega) (hL.up (by omega))]
    rfl
theorem body_j4 (q : Nat) (L : List Int) (hL : Fine L 9000) (h5 : f5 = true → goodP ls l = true) (hm : ∀ e ∈ m, GoodE e) (hl : m.length ≤ 16) (h6 : f6 = false → m = []) :
    note_body.j4 (q + 20) (strOfNums L) k pg x nd n t1 t2 t3 ls l m f0 f1 f2 f3 f4 f5 f6 = some (strOfNums (L ++ (on f5 (padL (encL ls l)) ++ on f6 (intB m.length ++ m.flatMap encE)))) := by
  simp only [note_body.j4]
  cases f5 with
  | true =>
    have hg := h5 rfl
    have h2 : Fine (padL (encL ls l)) 240 := ⟨padGood hg, Nat.le_of_eq (padGood_len hg)⟩
    have hL2 : Fine (L ++ padL (encL ls l)) 10000 := (hL.app h2).up (by omega)
    unfold slab_Encode.f
    rw [if_pos rfl, if_pos hg, Option.bind_some]
    simp only
    rw [if_pos (fit_ok hL h2 (by omega)), str_app2 _ _ hL.1 h2.1, body_j5 k pg x nd n t1 t2 t3 ls l m f0 f1 f2 f3 f4 true f6 q _ hL2 hm hl h6, List.append_assoc]
    rfl
  | false =>
    rw [if_neg Bool.false_ne_true, body_j5 k pg x nd n t1 t2 t3 ls l m f0 f1 f2 f3 f4 false f6 q _ (hL.up (by omega)) hm hl h6]
    rfl
theorem body_j3 (q : Nat) (L : List Int) (hL : Fine L 8000) (h4 : f4 = true → small n) (h5 : f5 = true → goodP ls l = true) (hm : ∀ e ∈ m, GoodE e) (hl : m.length ≤ 16) (h6 : f6 = false → m = []) :
    note_body.j3 (q + 21) (strOfNums L) k pg x nd n t1 t2 t3 ls l m f0 f1 f2 f3 f4 f5 f6 = some (strOfNums (L ++ (on f4 (intB n) ++ (on f5 (padL (encL ls l)) ++ on f6 (intB m.length ++ m.flatMap encE))))) := by
  simp only [note_body.j3]
  cases f4 with
  | true =>
    have h2 := fine_int (h4 rfl)
    have hL2 : Fine (L ++ intB n) 9000 := (hL.app h2).up (by omega)
    rw [if_pos rfl, nib_small (h4 rfl), Option.bind_some, if_pos (fit_ok hL h2 (by omega)), str_app2 _ _ hL.1 h2.1, body_j4 k pg x nd n t1 t2 t3 ls l m f0 f1 f2 f3 true f5 f6 q _ hL2 h5 hm hl h6, List.append_assoc]
    rfl
  | false =>
    rw [if_neg Bool.false_ne_true, body_j4 k pg x nd n t1 t2 t3 ls l m f0 f1 f2 f3 false f5 f6 q _ (hL.up (by omega)) h5 hm hl h6]
    rfl
theorem body_j2 (q : Nat) (L : List Int) (hL : Fine L 7000) (h3 : f3 = true → small t1 ∧ small t2 ∧ small t3) (h4 : f4 = true → small n) (h5 : f5 = true → goodP ls l = true) (hm : ∀ e ∈ m, GoodE e) (hl : m.length ≤ 16) (h6 : f6 = false → m = []) :
    note_body.j2 (q + 22) (strOfNums L) k pg x nd n t1 t2 t3 ls l m f0 f1 f2 f3 f4 f5 f6 = some (strOfNums (L ++ (on f3 (intB t1 ++ (intB t2 ++ intB t3)) ++ (on f4 (intB n) ++ (on f5 (padL (encL ls l)) ++ on f6 (intB m.length ++ m.flatMap encE)))))) := by
  simp only [note_body.j2]
  cases f3 with
  | true =>
    obtain ⟨s1, s2, s3⟩ := h3 rfl
    have a1 := fine_int s1
    have a2 := fine_int s2
    have a3 := fine_int s3
    have a12 := a1.app a2
    have a123 := a12.app a3
    have hL2 : Fine (L ++ (intB t1 ++ intB t2 ++ intB t3)) 8000 := (hL.app a123).up (by omega)
    rw [if_pos rfl, nib_small s1, nib_small s2, nib_small s3, Option.bind_some, Option.bind_some, if_pos (fit_ok a1 a2 (by omega)), Option.bind_some, str_app2 _ _ a1.1 a2.1, if_pos (fit_ok a12 a3 (by omega)), str_app2 _ _ a12.1 a3.1, if_pos (fit_ok hL a123 (by omega)), str_app2 _ _ hL.1 a123.1,
      body_j3 k pg x nd n t1 t2 t3 ls l m f0 f1 f2 true f4 f5 f6 q _ hL2 h4 h5 hm hl h6]
    simp only [on, if_true, List.append_assoc]
  | false =>
    rw [if_neg Bool.false_ne_true, body_j3 k pg x nd n t1 t2 t3 ls l m f0 f1 f2 false f4 f5 f6 q _ (hL.up (by omega)) h4 h5 hm hl h6]
    rfl
theorem body_j1 (q : Nat) (L : List Int) (hL : Fine L 6000) (h3 : f3 = true → small t1 ∧ small t2 ∧ small t3) (h4 : f4 = true → small n) (h5 : f5 = true → goodP ls l = true) (hm : ∀ e ∈ m, GoodE e) (hl : m.length ≤ 16) (h6 : f6 = false → m = []) :
    note_body.j1 (q + 23) (strOfNums L) k pg x nd n t1 t2 t3 ls l m f0 f1 f2 f3 f4 f5 f6 = some (strOfNums (L ++ (on f2 (intB (bI nd)) ++ (on f3 (intB t1 ++ (intB t2 ++ intB t3)) ++ (on f4 (intB n) ++ (on f5 (padL (encL ls l)) ++ on f6 (intB m.length ++ m.flatMap encE))))))) := by
  simp only [note_body.j1]
  cases f2 with
  | true =>
    have h2 := fine_int (bI_small nd)
    have hL2 : Fine (L ++ intB (bI nd)) 7000 := (hL.app h2).up (by omega)
    rw [if_pos rfl, nflag_eq, Option.bind_some, if_pos (fit_ok hL h2 (by omega)), str_app2 _ _ hL.1 h2.1, body_j2 k pg x nd n t1 t2 t3 ls l m f0 f1 true f3 f4 f5 f6 q _ hL2 h3 h4 h5 hm hl h6, List.append_assoc]
    rfl
  | false =>
    rw [if_neg Bool.false_ne_true, body_j2 k pg x nd n t1 t2 t3 ls l m f0 f1 false f3 f4 f5 f6 q _ (hL.up (by omega)) h3 h4 h5 hm hl h6]
    rfl
theorem body_j0 (q : Nat) (L : List Int) (hL : Fine L 5000) (h3 : f3 = true → small t1 ∧ small t2 ∧ small t3) (h4 : f4 = true → small n) (h5 : f5 = true → goodP ls l = true) (hm : ∀ e ∈ m, GoodE e) (hl : m.length ≤ 16) (h6 : f6 = false → m = []) :
    note_body.j0 (q + 24) (strOfNums L) k pg x nd n t1 t2 t3 ls l m f0 f1 f2 f3 f4 f5 f6 = some (strOfNums (L ++ (on f1 (intB (bI x)) ++ (on f2 (intB (bI nd)) ++ (on f3 (intB t1 ++ (intB t2 ++ intB t3)) ++ (on f4 (intB n) ++ (on f5 (padL (encL ls l)) ++ on f6 (intB m.length ++ m.flatMap encE)))))))) := by
  simp only [note_body.j0]
  cases f1 with
  | true =>
    have h2 := fine_int (bI_small x)
    have hL2 : Fine (L ++ intB (bI x)) 6000 := (hL.app h2).up (by omega)
    rw [if_pos rfl, nflag_eq, Option.bind_some, if_pos (fit_ok hL h2 (by omega)), str_app2 _ _ hL.1 h2.1, body_j1 k pg x nd n t1 t2 t3 ls l m f0 true f2 f3 f4 f5 f6 q _ hL2 h3 h4 h5 hm hl h6, List.append_assoc]
    rfl
  | false =>
    rw [if_neg Bool.false_ne_true, body_j1 k pg x nd n t1 t2 t3 ls l m f0 false f2 f3 f4 f5 f6 q _ (hL.up (by omega)) h3 h4 h5 hm hl h6]
    rfl
end
theorem body_pure {k pg : Int} {x nd : Bool} {n t1 t2 t3 ls : Int} {l : List S33} {m : List S65} (h : GoodM (msg k pg x nd n t1 t2 t3 ls l m)) : note_body.f 24 k pg x nd n t1 t2 t3 ls l m = some (bdy (msg k pg x nd n t1 t2 t3 ls l m)) := by
  obtain ⟨p0, p1, p5, p4, p6, p7, p8⟩ := good_parts h
  obtain ⟨h0, h1, h2, h3, h5, h4, h6, h7, h8⟩ := h
  unfold shM at p1 p5 p4 p6 p7 h7
  simp only at p0 p1 p5 p4 p6 p7 p8 h7
  obtain ⟨f0, f1, f2, f3, f4, f5, f6, hs⟩ : ∃ f0 f1 f2 f3 f4 f5 f6, shP k nd = (f0, f1, f2, f3, f4, f5, f6) := ⟨_, _, _, _, _, _, _, rfl⟩
  rw [hs] at p1 p5 p4 p6 p7 h7
  simp only at p1 p5 p4 p6 p7 h7
  have e7 : f6 = false → m = [] := fun e => by rw [if_neg (by rw [e]; decide)] at h7; exact h7
  have hl : m.length ≤ 16 := by
    cases f6 with
    | true => exact (p7 rfl).2
    | false => rw [e7 rfl]; decide
  unfold note_body.f noteShape.f bdy bodyM shM
  simp only [hs]
  have g0 := fine_int p0
  rw [Option.bind_some, nib_small p0, Option.bind_some]
  cases f0 with
  | true =>
    have g1 := fine_int (p1 rfl)
    rw [if_pos rfl, nib_small (p1 rfl), Option.bind_some, if_pos (fit_ok g0 g1 (by omega)), str_app2 _ _ g0.1 g1.1, body_j0 k pg x nd n t1 t2 t3 ls l m true f1 f2 f3 f4 f5 f6 0 _ ((g0.app g1).up (by omega)) p5 p4 p6 p8 hl e7, List.append_assoc]
    rfl
  | false =>
    rw [if_neg Bool.false_ne_true, body_j0 k pg x nd n t1 t2 t3 ls l m false f1 f2 f3 f4 f5 f6 0 _ (g0.up (by omega)) p5 p4 p6 p8 hl e7]
    rfl
def noteBody.f (k pg : Int) (x nd : Bool) (n t1 t2 t3 ls : Int) (l : List S33) (m : List S65) : Option ByteArray := if GoodM (msg k pg x nd n t1 t2 t3 ls l m) then some (bdy (msg k pg x nd n t1 t2 t3 ls l m)) else none
theorem noteBody.calls (a0_0 : Int) (a0_1 : Int) (a0_2 : Bool) (a0_3 : Bool) (a0_4 : Int) (a0_5 : Int) (a0_6 : Int) (a0_7 : Int) (a0_8 : Int) (A0_9 : Option Addr) (c0_9 : Nat) (l0_9 : List (S33)) (A0_10 : Option Addr) (c0_10 : Nat) (l0_10 : List (S65)) (r : ByteArray) (w : World) (hr0_9 : Kd.C k33 w A0_9 l0_9.length l0_9) (hc0_9 : l0_9.length ≤ c0_9) (hr0_10 : Kd.C k65 w A0_10 l0_10.length l0_10) (hc0_10 : l0_10.length ≤ c0_10) (h : noteBody.f a0_0 a0_1 a0_2 a0_3 a0_4 a0_5 a0_6 a0_7 a0_8 l0_9 l0_10 = some r) :
    Calls Try.prog 106 #[.agg #[.int .i64 a0_0, .int .i64 a0_1, .bool a0_2, .bool a0_3, .int .i64 a0_4, .int .i64 a0_5, .int .i64 a0_6, .int .i64 a0_7, .int .i64 a0_8, .slice A0_9 l0_9.length c0_9, .slice A0_10 l0_10.length c0_10]] w fun e w' => e = .returned (.string r) ∧ Below w.heap.size w w' := by
  unfold noteBody.f at h
  split at h
  · rename_i hg
    exact note_body.calls 24 a0_0 a0_1 a0_2 a0_3 a0_4 a0_5 a0_6 a0_7 a0_8 A0_9 c0_9 l0_9 A0_10 c0_10 l0_10 r w hr0_9 hc0_9 hr0_10 hc0_10 (by rw [body_pure hg]; exact h)
  · cases h
end Go.Proofs.Ytfjmnaobfbmllaa.M
namespace Go.Proofs.Ytfjmnaobfbmllaa.M
open Go.RowKit Go.Proofs.YtfjmnaobfbmllaaW.PrintWords Go.Proofs.YtfjmnaobfbmllaaW.PrintLast Go.Proofs.YtfjmnaobfbmllaaW.PrintMore
attribute [local go_sem] max2_int min2_int max_two min_two max_three min_three max_four min_four   -- for this text's walks alone
set_option linter.unusedVariables false
set_option linter.unusedSimpArgs false
def note_Encode.f (a0_0 : Int) (a0_1 : Int) (a0_2 : Bool) (a0_3 : Bool) (a0_4 : Int) (a0_5 : Int) (a0_6 : Int) (a0_7 : Int) (a0_8 : Int) (l0_9 : List (S33)) (l0_10 : List (S65)) : Option (ByteArray × Int) := (noteGood.f a0_0 a0_1 a0_2 a0_3 a0_4 a0_5 a0_6 a0_7 a0_8 l0_9 l0_10).bind fun t102 => (if t102 = true then ((noteBody.f a0_0 a0_1 a0_2 a0_3 a0_4 a0_5 a0_6 a0_7 a0_8 l0_9 l0_10).bind fun t103 => ((sum_Of.f (([t103] : List ByteArray))).bind fun t107 => ((highPut.f (IntKind.u64.wrap (t107)) 4).bind fun t108 => (if t108.size + t103.size ≤ 9223372036854775807 then (some (t108 ++ t103, 0)) else (none))))) else (some ((⟨#[]⟩ : ByteArray), 1)))
set_option maxHeartbeats 8000000 in
set_option maxRecDepth 100000 in
theorem note_Encode.calls (a0_0 : Int) (a0_1 : Int) (a0_2 : Bool) (a0_3 : Bool) (a0_4 : Int) (a0_5 : Int) (a0_6 : Int) (a0_7 : Int) (a0_8 : Int) (A0_9 : Option Addr) (c0_9 : Nat) (l0_9 : List (S33)) (A0_10 : Option Addr) (c0_10 : Nat) (l0_10 : List (S65)) (r1 : ByteArray) (r2 : Int) (w : World) (hr0_9 : Kd.C k33 w A0_9 l0_9.length l0_9) (hc0_9 : l0_9.length ≤ c0_9) (hr0_10 : Kd.C k65 w A0_10 l0_10.length l0_10) (hc0_10 : l0_10.length ≤ c0_10) (h : note_Encode.f a0_0 a0_1 a0_2 a0_3 a0_4 a0_5 a0_6 a0_7 a0_8 l0_9 l0_10 = some (r1, r2)) :
  Calls Try.prog 62 #[.agg #[.int .i64 a0_0, .int .i64 a0_1, .bool a0_2, .bool a0_3, .int .i64 a0_4, .int .i64 a0_5, .int .i64 a0_6, .int .i64 a0_7, .int .i64 a0_8, .slice A0_9 l0_9.length c0_9, .slice A0_10 l0_10.length c0_10]] w fun e w' => e = .returned (.tuple #[.string r1, .int .i64 r2]) ∧ Below w.heap.size w w' := by
 have hu55 := Try.underlying55
 have HR0_9 := aq hr0_9
 have HC0_9 := aq hc0_9
 clear hr0_9 hc0_9
 have HR0_10 := aq hr0_10
 have HC0_10 := aq hc0_10
 clear hr0_10 hc0_10
 have HB := aq (Below.refl w.heap.size w)
 have H : ((noteGood.f a0_0 a0_1 a0_2 a0_3 a0_4 a0_5 a0_6 a0_7 a0_8 l0_9 l0_10).bind fun t102 => (if t102 = true then ((noteBody.f a0_0 a0_1 a0_2 a0_3 a0_4 a0_5 a0_6 a0_7 a0_8 l0_9 l0_10).bind fun t103 => ((sum_Of.f (([t103] : List ByteArray))).bind fun t107 => ((highPut.f (IntKind.u64.wrap (t107)) 4).bind fun t108 => (if t108.size + t103.size ≤ 9223372036854775807 then (some (t108 ++ t103, 0)) else (none))))) else (some ((⟨#[]⟩ : ByteArray), 1)))) = some (r1, r2) := h
 clear h
 replace H := Option.bind_eq_some_iff.mp H
 obtain ⟨t102, A20, H⟩ := H
 try dsimp only at H
 have A2 := aq A20
 clear A20
 by_cases c3 : t102 = true
 ·subst c3
  rw [if_pos rfl] at H
  replace H := Option.bind_eq_some_iff.mp H
  obtain ⟨t103, A40, H⟩ := H
  try dsimp only at H
  have A4 := aq A40
  clear A40
  obtain ⟨y104, hy104⟩ : ∃ y_ : List ByteArray, y_ = (([t103] : List ByteArray)) := ⟨_, rfl⟩
  replace H : ((sum_Of.f y104).bind fun t107 => ((highPut.f (IntKind.u64.wrap (t107)) 4).bind fun t108 => (if t108.size + t103.size ≤ 9223372036854775807 then (some (t108 ++ t103, 0)) else (none)))) = some (r1, r2) := by first | (rw [hy104]; with_reducible exact H) | (have H2_ := (Option.bind_some _ _).symm.trans H; rw [hy104]; with_reducible exact H2_) | (have H2_ := (Option.bind_some _ _).symm.trans H; with_reducible exact H2_) | with_reducible exact H | (rw [hy104]; exact H) | exact H
  have Ny104 := aq hy104
  clear hy104
  replace H := Option.bind_eq_some_iff.mp H
  obtain ⟨t107, A50, H⟩ := H
  try dsimp only at H
  have A5 := aq A50
  clear A50
  replace H := Option.bind_eq_some_iff.mp H
  obtain ⟨t108, A60, H⟩ := H
  try dsimp only at H
  have A6 := aq A60
  clear A60
  by_cases c7 : t108.size + t103.size ≤ 9223372036854775807
  ·rw [if_pos c7] at H
   have c7b0 := eq_true c7
   have c7b1 : decide (t108.size + t103.size ≤ 9223372036854775807) = true := decide_eq_true c7
   try have c7b2 : (9223372036854775807 < t108.size + t103.size) = False := eq_false (Nat.not_lt.2 c7)
   simp only [Option.some.injEq, Prod.mk.injEq] at H
   obtain ⟨rfl, rfl⟩ := H
   go_enter Try.func62, Try.ntmps62
   go_wp2_with (first | ((with_reducible refine gate_dst (N := 1) rfl ?_); refine box_event ?hg (N := 1) ?hd (cs := #[.int .i64 a0_0, .int .i64 a0_1, .bool a0_2, .bool a0_3, .int .i64 a0_4, .int .i64 a0_5, .int .i64 a0_6, .int .i64 a0_7, .int .i64 a0_8, .slice A0_9 l0_9.length c0_9, .slice A0_10 l0_10.length c0_10]) (t := 55) ?hr ?_; (case hd => rfl); (case hg => rfl); (case hr => first | (go_simp; done) | (go_simp; rfl)); intro gb101 hg w8 hbox hb; have n0_ := aq (below_step (stH HB) hb); have n1_ := aq (hbox); have n2_ := aq ((by rw [hg]; exact (below_size (stH HB)) : w.heap.size ≤ gb101)); have n3_ := aq ((by rw [hg]; exact (below_size (stH HB)) : w.heap.size ≤ gb101)); replace HB := n0_; have BK101 := n1_; have GW101 := n2_; have GE101 := n3_; clear n0_ n1_ n2_ n3_; clear hb hbox hg; obtain ⟨k9a, k9b, k9c, k9d, k9e, k9f, k9g, k9h, k9i, k9j, k9k⟩ := cl11 (W := w8) BK101.out; obtain ⟨u9a, u9b, u9c, u9d, u9e, u9f, u9g, u9h, u9i, u9j, u9k⟩ := fr11 BK101.out) | ((with_reducible refine gate_callee (f := 49) rfl ?_); refine goesL_ (some 6) rfl rfl Try.func49 (by kernel_rfl) rfl #[.agg #[.int .i64 a0_0, .int .i64 a0_1, .bool a0_2, .bool a0_3, .int .i64 a0_4, .int .i64 a0_5, .int .i64 a0_6, .int .i64 a0_7, .int .i64 a0_8, .slice A0_9 l0_9.length c0_9, .slice A0_10 l0_10.length c0_10]] rfl fitR ?_; (with_reducible refine (noteGood.calls a0_0 a0_1 a0_2 a0_3 a0_4 a0_5 a0_6 a0_7 a0_8 _ _ l0_9 _ _ l0_10 true _ ?side1 ?side2 ?side3 ?side4 A2.out).mono ?_); (case side1 => exact stC (Kd.C_below HR0_9.out HB.out)); (case side2 => exact HC0_9.out); (case side3 => exact stC (Kd.C_below HR0_10.out HB.out)); (case side4 => exact HC0_10.out); rintro e w10 ⟨rfl, hb⟩; refine ⟨_, rfl, ?_⟩; have n0_ := aq (blk_below (stB BK101) hb); have n1_ := aq (below_step (stH HB) hb); replace BK101 := n0_; replace HB := n1_; clear n0_ n1_; (try clear hb); obtain ⟨k11a, k11b, k11c, k11d, k11e, k11f, k11g, k11h, k11i, k11j, k11k⟩ := cl11 (W := w10) BK101.out; obtain ⟨u11a, u11b, u11c, u11d, u11e, u11f, u11g, u11h, u11i, u11j, u11k⟩ := fr11 BK101.out) | ((with_reducible refine gate_callee (f := 106) rfl ?_); refine goesL_ (some 9) rfl rfl Try.func106 (by kernel_rfl) rfl #[.agg #[.int .i64 a0_0, .int .i64 a0_1, .bool a0_2, .bool a0_3, .int .i64 a0_4, .int .i64 a0_5, .int .i64 a0_6, .int .i64 a0_7, .int .i64 a0_8, .slice A0_9 l0_9.length c0_9, .slice A0_10 l0_10.length c0_10]] rfl fitR ?_; (with_reducible refine (noteBody.calls a0_0 a0_1 a0_2 a0_3 a0_4 a0_5 a0_6 a0_7 a0_8 _ _ l0_9 _ _ l0_10 t103 _ ?side1 ?side2 ?side3 ?side4 A4.out).mono ?_); (case side1 => exact stC (Kd.C_below HR0_9.out HB.out)); (case side2 => exact HC0_9.out); (case side3 => exact stC (Kd.C_below HR0_10.out HB.out)); (case side4 => exact HC0_10.out); rintro e w12 ⟨rfl, hb⟩; refine ⟨_, rfl, ?_⟩; have n0_ := aq (blk_below (stB BK101) hb); have n1_ := aq (below_step (stH HB) hb); replace BK101 := n0_; replace HB := n1_; clear n0_ n1_; (try clear hb)) | ((with_reducible refine gate_dst (N := 11) rfl ?_); refine Kd.R_lit Kd.string _ 9 ?hg (N := 11) ?hd (xs := ([t103] : List ByteArray)) (inner := [.string t103]) (ok := fun _ => True) (okp := fun _ => True) ?hr ?hp (fun _ hk => hk) trivial (Below.refl _ _) (Nat.le_refl _) (by simp) ?_; (case hd => rfl); (case hg => rfl); (case hr => first | (go_simp; done) | (go_simp; rfl)); (case hp => exact (Reps.one (show Kd.M Kd.string _ _ _ t103 [.string t103] from rfl) (Reps.none _ _))); intro v105 w13 ho14 hb hg_ hnew_; clear hg_ hnew_; (first | rw [← Ny104.out] at ho14 | (simp only [Int.reduceToNat] at ho14; rw [← Ny104.out] at ho14)); have n0_ := aq (Kd.R_lower ho14 (below_size (stH HB))); have n1_ := aq (blk_below (stB BK101) hb); have n2_ := aq (below_step (stH HB) hb); have HO106 := n0_; replace BK101 := n1_; replace HB := n2_; clear n0_ n1_ n2_; clear hb ho14; obtain ⟨Ao15, co15, eo15⟩ := Kd.R_slice HO106.out; subst eo15) | ((with_reducible refine gate_callee (f := 46) rfl ?_); refine goesL_ (some 12) rfl rfl Try.func46 (by kernel_rfl) rfl #[.slice Ao15 y104.length co15] rfl fitR ?_; (with_reducible refine (sum_Of.calls _ _ y104 t107 _ ?side1 ?side2 A5.out).mono ?_); (case side1 => repeat (first | exact (Kd.R_reads' HO106.out).2.2 | (with_reducible refine Kd.C_alloc ?_ _) | (with_reducible refine Kd.C_drewN ?_ _) | (with_reducible refine Kd.C_drew ?_))); (case side2 => exact (Kd.R_reads' HO106.out).2.1); rintro e w16 ⟨rfl, hb⟩; refine ⟨_, rfl, ?_⟩; have n0_ := aq (Kd.R_below (by (with_reducible repeat (first | apply Kd.R_alloc | apply Kd.R_drewN | apply Kd.R_drew)); exact HO106.out) hb); have n1_ := aq (blk_below (stB BK101) hb); have n2_ := aq (below_step (stH HB) hb); replace HO106 := n0_; replace BK101 := n1_; replace HB := n2_; clear n0_ n1_ n2_; (try clear hb)) | ((with_reducible refine gate_callee (f := 78) rfl ?_); refine goesL_ (some 14) rfl rfl Try.func78 (by kernel_rfl) rfl #[.int .u64 (IntKind.u64.wrap (t107)), .int .i64 4] rfl fitR ?_; (with_reducible refine (highPut.calls (IntKind.u64.wrap (t107)) 4 t108 _ A6.out).mono ?_); rintro e w17 ⟨rfl, hb⟩; refine ⟨_, rfl, ?_⟩; have n0_ := aq (Kd.R_below (by (with_reducible repeat (first | apply Kd.R_alloc | apply Kd.R_drewN | apply Kd.R_drew)); exact HO106.out) hb); have n1_ := aq (blk_below (stB BK101) hb); have n2_ := aq (below_step (stH HB) hb); replace HO106 := n0_; replace BK101 := n1_; replace HB := n2_; clear n0_ n1_ n2_; (try clear hb)))
   go_ret2
   exact ⟨eqW, by repeat (first | (with_reducible first | exact HB.out | apply below_alloc | apply pw_below_drewN | apply below_drew1 | refine below_set ?_ GE101.out) | exact HB.out)⟩
  ·rw [if_neg c7] at H
   exact absurd H (by simp)
 ·replace c3 := Bool.eq_false_iff.mpr c3
  subst c3
  rw [if_neg (show ¬ (false = true) by decide)] at H
  simp only [Option.some.injEq, Prod.mk.injEq] at H
  obtain ⟨rfl, rfl⟩ := H
  go_enter Try.func62, Try.ntmps62
  go_wp2_with (first | ((with_reducible refine gate_dst (N := 1) rfl ?_); refine box_event ?hg (N := 1) ?hd (cs := #[.int .i64 a0_0, .int .i64 a0_1, .bool a0_2, .bool a0_3, .int .i64 a0_4, .int .i64 a0_5, .int .i64 a0_6, .int .i64 a0_7, .int .i64 a0_8, .slice A0_9 l0_9.length c0_9, .slice A0_10 l0_10.length c0_10]) (t := 55) ?hr ?_; (case hd => rfl); (case hg => rfl); (case hr => first | (go_simp; done) | (go_simp; rfl)); intro gb101 hg w18 hbox hb; have n0_ := aq (below_step (stH HB) hb); have n1_ := aq (hbox); have n2_ := aq ((by rw [hg]; exact (below_size (stH HB)) : w.heap.size ≤ gb101)); have n3_ := aq ((by rw [hg]; exact (below_size (stH HB)) : w.heap.size ≤ gb101)); replace HB := n0_; have BK101 := n1_; have GW101 := n2_; have GE101 := n3_; clear n0_ n1_ n2_ n3_; clear hb hbox hg; obtain ⟨k19a, k19b, k19c, k19d, k19e, k19f, k19g, k19h, k19i, k19j, k19k⟩ := cl11 (W := w18) BK101.out; obtain ⟨u19a, u19b, u19c, u19d, u19e, u19f, u19g, u19h, u19i, u19j, u19k⟩ := fr11 BK101.out) | ((with_reducible refine gate_callee (f := 49) rfl ?_); refine goesL_ (some 6) rfl rfl Try.func49 (by kernel_rfl) rfl #[.agg #[.int .i64 a0_0, .int .i64 a0_1, .bool a0_2, .bool a0_3, .int .i64 a0_4, .int .i64 a0_5, .int .i64 a0_6, .int .i64 a0_7, .int .i64 a0_8, .slice A0_9 l0_9.length c0_9, .slice A0_10 l0_10.length c0_10]] rfl fitR ?_; (with_reducible refine (noteGood.calls a0_0 a0_1 a0_2 a0_3 a0_4 a0_5 a0_6 a0_7 a0_8 _ _ l0_9 _ _ l0_10 false _ ?side1 ?side2 ?side3 ?side4 A2.out).mono ?_); (case side1 => exact stC (Kd.C_below HR0_9.out HB.out)); (case side2 => exact HC0_9.out); (case side3 => exact stC (Kd.C_below HR0_10.out HB.out)); (case side4 => exact HC0_10.out); rintro e w20 ⟨rfl, hb⟩; refine ⟨_, rfl, ?_⟩; have n0_ := aq (blk_below (stB BK101) hb); have n1_ := aq (below_step (stH HB) hb); replace BK101 := n0_; replace HB := n1_; clear n0_ n1_; (try clear hb)))
  go_ret2
  exact ⟨eqW, by repeat (first | (with_reducible first | exact HB.out | apply below_alloc | apply pw_below_drewN | apply below_drew1 | refine below_set ?_ GE101.out) | exact HB.out)⟩
end Go.Proofs.Ytfjmnaobfbmllaa.M
namespace Go.Proofs.Ytfjmnaobfbmllaa.M
open Go.RowKit Go.Proofs.YtfjmnaobfbmllaaW.PrintWords Go.Proofs.YtfjmnaobfbmllaaW.PrintLast Go.Proofs.YtfjmnaobfbmllaaW.PrintMore
set_option linter.unusedVariables false
set_option linter.unusedSimpArgs false
theorem chk_wrap (s : ByteArray) : IntKind.u64.wrap ((chR [s] ^^^ 4294967295 : Nat) : Int) = (chk s : Int) := by
  have h := chk_lt s
  unfold chk at h ⊢
  exact wu64 _ (by omega) (by omega)
theorem sumOf_one {s : ByteArray} (h : s.size ≤ 4611686018427387904) : sum_Of.f [s] = some ((chR [s] ^^^ 4294967295 : Nat) : Int) := by
  unfold sum_Of.f
  rw [if_pos (by simp [h])]
def noteEnc.f (k pg : Int) (x nd : Bool) (n t1 t2 t3 ls : Int) (l : List S33) (m : List S65) : Option (ByteArray × Int) := some (encM (msg k pg x nd n t1 t2 t3 ls l m))
theorem enc_pureM (k pg : Int) (x nd : Bool) (n t1 t2 t3 ls : Int) (l : List S33) (m : List S65) : note_Encode.f k pg x nd n t1 t2 t3 ls l m = noteEnc.f k pg x nd n t1 t2 t3 ls l m := by
  unfold note_Encode.f noteEnc.f noteGood.f noteBody.f
  rw [Option.bind_some]
  by_cases hg : GoodM (msg k pg x nd n t1 t2 t3 ls l m)
  · have hsz := bdy_size hg
    rw [decide_eq_true hg, if_pos rfl, if_pos hg, Option.bind_some, sumOf_one (by omega), Option.bind_some, chk_wrap, encM_good hg]
    unfold highPut.f
    rw [if_pos (by decide), Option.bind_some]
    have e : strOfNums (hiL (4 : Int).toNat (chk (bdy (msg k pg x nd n t1 t2 t3 ls l m)) : Int)) = chB (bdy (msg k pg x nd n t1 t2 t3 ls l m)) := rfl
    rw [e, if_pos (by rw [chB_size]; omega)]
  · rw [decide_eq_false hg, if_neg Bool.false_ne_true, encM_bad hg]
theorem noteEnc.calls (a0_0 : Int) (a0_1 : Int) (a0_2 : Bool) (a0_3 : Bool) (a0_4 : Int) (a0_5 : Int) (a0_6 : Int) (a0_7 : Int) (a0_8 : Int) (A0_9 : Option Addr) (c0_9 : Nat) (l0_9 : List (S33)) (A0_10 : Option Addr) (c0_10 : Nat) (l0_10 : List (S65)) (r1 : ByteArray) (r2 : Int) (w : World) (hr0_9 : Kd.C k33 w A0_9 l0_9.length l0_9) (hc0_9 : l0_9.length ≤ c0_9) (hr0_10 : Kd.C k65 w A0_10 l0_10.length l0_10) (hc0_10 : l0_10.length ≤ c0_10) (h : noteEnc.f a0_0 a0_1 a0_2 a0_3 a0_4 a0_5 a0_6 a0_7 a0_8 l0_9 l0_10 = some (r1, r2)) :
    Calls Try.prog 62 #[.agg #[.int .i64 a0_0, .int .i64 a0_1, .bool a0_2, .bool a0_3, .int .i64 a0_4, .int .i64 a0_5, .int .i64 a0_6, .int .i64 a0_7, .int .i64 a0_8, .slice A0_9 l0_9.length c0_9, .slice A0_10 l0_10.length c0_10]] w fun e w' => e = .returned (.tuple #[.string r1, .int .i64 r2]) ∧ Below w.heap.size w w' :=
  note_Encode.calls a0_0 a0_1 a0_2 a0_3 a0_4 a0_5 a0_6 a0_7 a0_8 A0_9 c0_9 l0_9 A0_10 c0_10 l0_10 r1 r2 w hr0_9 hc0_9 hr0_10 hc0_10 (by rw [enc_pureM]; exact h)
end Go.Proofs.Ytfjmnaobfbmllaa.M
namespace Go.Proofs.Ytfjmnaobfbmllaa.M
open Go.RowKit Go.Proofs.YtfjmnaobfbmllaaW.PrintWords Go.Proofs.YtfjmnaobfbmllaaW.PrintLast Go.Proofs.YtfjmnaobfbmllaaW.PrintMore
attribute [local go_sem] max2_int min2_int max_two min_two max_three min_three max_four min_four   -- for this text's walks alone
set_option linter.unusedVariables false
set_option linter.unusedSimpArgs false
mutual
def seneschallaw11_great.j0 : Nat → Bool → Int → Int → Bool → Bool → Int → Int → Int → Int → Int → List (S33) → List (S65) → Option (Bool)
 | 0, _, _, _, _, _, _, _, _, _, _, _, _ => none
 | k + 1, x15, x102000, x102001, x102002, x102003, x102004, x102005, x102006, x102007, x102008, x102009, x102010 => if x15 = true then (some true) else (seneschallaw11_great.l0 k 0 x102000 x102001 x102002 x102003 x102004 x102005 x102006 x102007 x102008 x102009 x102010)
def seneschallaw11_great.l0 : Nat → Int → Int → Int → Bool → Bool → Int → Int → Int → Int → Int → List (S33) → List (S65) → Option (Bool)
 | 0, _, _, _, _, _, _, _, _, _, _, _, _ => none
 | k + 1, x3, x102000, x102001, x102002, x102003, x102004, x102005, x102006, x102007, x102008, x102009, x102010 => if x3 < (x102009.length : Int) then (if 0 ≤ x3 then (if (((rd_T33 x102009 x3).f1).size : Int) > 4096 then (some true) else (seneschallaw11_great.l0 k (wrap64 (x3 + 1)) x102000 x102001 x102002 x102003 x102004 x102005 x102006 x102007 x102008 x102009 x102010)) else (none)) else (seneschallaw11_great.l1 k 0 x102000 x102001 x102002 x102003 x102004 x102005 x102006 x102007 x102008 x102009 x102010)
def seneschallaw11_great.l1 : Nat → Int → Int → Int → Bool → Bool → Int → Int → Int → Int → Int → List (S33) → List (S65) → Option (Bool)
 | 0, _, _, _, _, _, _, _, _, _, _, _, _ => none
 | k + 1, x4, x102000, x102001, x102002, x102003, x102004, x102005, x102006, x102007, x102008, x102009, x102010 => if x4 < (x102010.length : Int) then (if 0 ≤ x4 then (if (((rd_T65 x102010 x4).f6.f1).size : Int) > 4096 then (some true) else (if (((rd_T65 x102010 x4).f7.f1).size : Int) > 4096 then (some true) else (seneschallaw11_great.l1 k (wrap64 (x4 + 1)) x102000 x102001 x102002 x102003 x102004 x102005 x102006 x102007 x102008 x102009 x102010))) else (none)) else (some false)
end
def seneschallaw11_great.f (k : Nat) (a0_0 : Int) (a0_1 : Int) (a0_2 : Bool) (a0_3 : Bool) (a0_4 : Int) (a0_5 : Int) (a0_6 : Int) (a0_7 : Int) (a0_8 : Int) (l0_9 : List (S33)) (l0_10 : List (S65)) : Option (Bool) := if (l0_9.length : Int) > 100 then (seneschallaw11_great.j0 k true a0_0 a0_1 a0_2 a0_3 a0_4 a0_5 a0_6 a0_7 a0_8 l0_9 l0_10) else (seneschallaw11_great.j0 k (decide ((l0_10.length : Int) > 40)) a0_0 a0_1 a0_2 a0_3 a0_4 a0_5 a0_6 a0_7 a0_8 l0_9 l0_10)
set_option maxHeartbeats 8000000 in
set_option maxRecDepth 100000 in
theorem seneschallaw11_great.calls (k : Nat) (a0_0 : Int) (a0_1 : Int) (a0_2 : Bool) (a0_3 : Bool) (a0_4 : Int) (a0_5 : Int) (a0_6 : Int) (a0_7 : Int) (a0_8 : Int) (A0_9 : Option Addr) (c0_9 : Nat) (l0_9 : List (S33)) (A0_10 : Option Addr) (c0_10 : Nat) (l0_10 : List (S65)) (r : Bool) (w : World) (hr0_9 : Kd.C k33 w A0_9 l0_9.length l0_9) (hc0_9 : l0_9.length ≤ c0_9) (hr0_10 : Kd.C k65 w A0_10 l0_10.length l0_10) (hc0_10 : l0_10.length ≤ c0_10) (h : seneschallaw11_great.f k a0_0 a0_1 a0_2 a0_3 a0_4 a0_5 a0_6 a0_7 a0_8 l0_9 l0_10 = some r) :
  Calls Try.prog 61 #[.agg #[.int .i64 a0_0, .int .i64 a0_1, .bool a0_2, .bool a0_3, .int .i64 a0_4, .int .i64 a0_5, .int .i64 a0_6, .int .i64 a0_7, .int .i64 a0_8, .slice A0_9 l0_9.length c0_9, .slice A0_10 l0_10.length c0_10]] w fun e w' => e = .returned (.bool r) ∧ Below w.heap.size w w' := by
 have hu55 := Try.underlying55
 have HR0_9 := aq hr0_9
 have HC0_9 := aq hc0_9
 clear hr0_9 hc0_9
 have HR0_10 := aq hr0_10
 have HC0_10 := aq hc0_10
 clear hr0_10 hc0_10
 have HB := aq (Below.refl w.heap.size w)
 have H : (if (l0_9.length : Int) > 100 then (seneschallaw11_great.j0 k true a0_0 a0_1 a0_2 a0_3 a0_4 a0_5 a0_6 a0_7 a0_8 l0_9 l0_10) else (seneschallaw11_great.j0 k (decide ((l0_10.length : Int) > 40)) a0_0 a0_1 a0_2 a0_3 a0_4 a0_5 a0_6 a0_7 a0_8 l0_9 l0_10)) = some r := h
 clear h
 have HC2 := aq H
 clear H
 go_enter Try.func61, Try.ntmps61
 go_upto_region 1 with (first | ((with_reducible refine gate_dst (N := 1) rfl ?_); (try (refine gate_guard (by rfl) ?_; dsimp only)); refine box_event ?hg (N := 1) ?hd (cs := #[.int .i64 a0_0, .int .i64 a0_1, .bool a0_2, .bool a0_3, .int .i64 a0_4, .int .i64 a0_5, .int .i64 a0_6, .int .i64 a0_7, .int .i64 a0_8, .slice A0_9 l0_9.length c0_9, .slice A0_10 l0_10.length c0_10]) (t := 55) ?hr ?_; (case hd => rfl); (case hg => rfl); (case hr => first | (go_simp; done) | (go_simp; rfl)); intro gb101 hg w3 hbox hb; have n0_ := aq (below_step (stH HB) hb); have n1_ := aq (hbox); have n2_ := aq ((by rw [hg]; exact (below_size (stH HB)) : w.heap.size ≤ gb101)); have n3_ := aq ((by rw [hg]; exact (below_size (stH HB)) : w.heap.size ≤ gb101)); replace HB := n0_; have BK101 := n1_; have GW101 := n2_; have GE101 := n3_; clear n0_ n1_ n2_ n3_; clear hb hbox hg))
 (try simp only [Act.put, List.setIfInBounds_toArray, List.set_cons_zero, List.set_cons_succ])
 go_cut [15] (fun v15 wc => ∃ (kq : Nat) (x15_1 : Bool), v15 = .bool x15_1 ∧ Aside0 (seneschallaw11_great.j0 kq x15_1 a0_0 a0_1 a0_2 a0_3 a0_4 a0_5 a0_6 a0_7 a0_8 l0_9 l0_10 = some r) ∧ Aside0 (kq ≤ k) ∧ Aside0 (wc.heap[gb101]? = some (.cells #[.int .i64 a0_0, .int .i64 a0_1, .bool a0_2, .bool a0_3, .int .i64 a0_4, .int .i64 a0_5, .int .i64 a0_6, .int .i64 a0_7, .int .i64 a0_8, (.slice A0_9 l0_9.length c0_9), (.slice A0_10 l0_10.length c0_10)] 55 (0, 0))) ∧ Aside0 (Below w.heap.size w wc))
 case first =>
  have H := HC2.out
  clear HC2
  by_cases c4 : (l0_9.length : Int) > 100
  ·rw [if_pos c4] at H
   have c4b0 : decide (100 < (l0_9.length : Int)) = true := decide_eq_true c4
   have c4b1 : decide (100 < l0_9.length) = true := decide_eq_true (by omega)
   clear c4
   (first | rw [c4b0] | (simp only [i64_w, i32_w]; rw [c4b0]) | skip)
   have H' := aq H
   clear H
   obtain ⟨k5a, k5b, k5c, k5d, k5e, k5f, k5g, k5h, k5i, k5j, k5k⟩ := cl11 (W := w3) BK101.out
   obtain ⟨u5a, u5b, u5c, u5d, u5e, u5f, u5g, u5h, u5i, u5j, u5k⟩ := fr11 BK101.out
   go_wp2
   go_meet
   case rel => exact ⟨_, (true), eqS, H', ⟨by first | omega | exact Nat.le_refl _⟩, ⟨stB BK101⟩, ⟨stH HB⟩⟩
  ·rw [if_neg c4] at H
   have c4b0 : decide (100 < (l0_9.length : Int)) = false := decide_eq_false c4
   have c4b1 : decide (100 < l0_9.length) = false := decide_eq_false (by omega)
   clear c4
   (first | rw [c4b0] | (simp only [i64_w, i32_w]; rw [c4b0]) | skip)
   have H' := aq H
   clear H
   obtain ⟨k6a, k6b, k6c, k6d, k6e, k6f, k6g, k6h, k6i, k6j, k6k⟩ := cl11 (W := w3) BK101.out
   obtain ⟨u6a, u6b, u6c, u6d, u6e, u6f, u6g, u6h, u6i, u6j, u6k⟩ := fr11 BK101.out
   go_wp2
   go_meet
   case rel => exact ⟨_, (decide ((l0_10.length : Int) > 40)), eqS, H', ⟨by first | omega | exact Nat.le_refl _⟩, ⟨stB BK101⟩, ⟨stH HB⟩⟩
 case rest =>
  clear HC2
  try clear p2
  try clear c4
  try clear c4b0
  try clear c4b1
  try clear c6
  obtain ⟨kq, x15_1, rfl, HA, HJ1, BK101, HB⟩ := hcut
  cases kq with
  | zero => exact absurd HA.out (by simp [seneschallaw11_great.j0])
  | succ kj1 =>
   have H := HA.out
   clear HA
   simp only [seneschallaw11_great.j0] at H
   by_cases c7 : x15_1 = true
   ·subst c7
    rw [if_pos rfl] at H
    obtain rfl := Option.some.inj H
    go_wp2
    go_ret
    exact ⟨eqW, by repeat (first | (with_reducible first | exact HB.out | apply below_alloc | apply pw_below_drewN | apply below_drew1 | refine below_set ?_ GE101.out) | exact HB.out)⟩
   ·replace c7 := Bool.eq_false_iff.mpr c7
    subst c7
    rw [if_neg (show ¬ (false = true) by decide)] at H
    have H' := aq H
    clear H
    go_wp2
    go_loopg [3] kj1 (fun kq v3 w' => ∃ (x3_2 : Int), v3 = .int .i64 x3_2 ∧ Aside0 (seneschallaw11_great.l0 kq x3_2 a0_0 a0_1 a0_2 a0_3 a0_4 a0_5 a0_6 a0_7 a0_8 l0_9 l0_10 = some r) ∧ Aside0 (kq ≤ kj1) ∧ Aside0 (w'.heap[gb101]? = some (.cells #[.int .i64 a0_0, .int .i64 a0_1, .bool a0_2, .bool a0_3, .int .i64 a0_4, .int .i64 a0_5, .int .i64 a0_6, .int .i64 a0_7, .int .i64 a0_8, (.slice A0_9 l0_9.length c0_9), (.slice A0_10 l0_10.length c0_10)] 55 (0, 0))) ∧ Aside0 (Below w.heap.size w w'))
    case atStart => exact ⟨(0), eqS, H', ⟨Nat.le_refl _⟩, ⟨stB BK101⟩, ⟨stH HB⟩⟩
    case round =>
     clear H'
     try clear p2
     try clear c4
     try clear c4b0
     try clear c4b1
     try clear c6
     try clear c7
     obtain ⟨x3_2, rfl, HA, HK2, BK101, HB⟩ := hrel
     cases gk with
     | zero => exact absurd HA.out (by simp [seneschallaw11_great.l0])
     | succ k2 =>
      have H := HA.out
      clear HA
      simp only [seneschallaw11_great.l0] at H
      by_cases c8 : x3_2 < (l0_9.length : Int)
      ·rw [if_pos c8] at H
       have c8b0 : decide (x3_2 < (l0_9.length : Int)) = true := decide_eq_true c8
       clear c8
       by_cases c9 : 0 ≤ x3_2
       ·rw [if_pos c9] at H
        have c9b0 : decide (0 ≤ x3_2) = true := decide_eq_true c9
        clear c9
        by_cases c10 : (((rd_T33 l0_9 x3_2).f1).size : Int) > 4096
        ·rw [if_pos c10] at H
         have c10b0 : decide (4096 < (((rd_T33 l0_9 x3_2).f1).size : Int)) = true := decide_eq_true c10
         have c10b1 : decide (4096 < ((rd_T33 l0_9 x3_2).f1).size) = true := decide_eq_true (by omega)
         clear c10
         obtain rfl := Option.some.inj H
         obtain ⟨k11a, k11b, k11c, k11d, k11e, k11f, k11g, k11h, k11i, k11j, k11k⟩ := cl11 (W := wr) BK101.out
         obtain ⟨u11a, u11b, u11c, u11d, u11e, u11f, u11g, u11h, u11i, u11j, u11k⟩ := fr11 BK101.out
         have p102 : 0 ≤ (x3_2 : Int) := of_decide_eq_true (by first | (with_reducible assumption) | assumption)
         have q102 : x3_2 < (l0_9.length : Int) := of_decide_eq_true (by first | (with_reducible assumption) | assumption)
         obtain ⟨ad102, e102, hx102_0, hx102_1⟩ := at_T33 HR0_9.out x3_2 p102 q102
         cases e102
         replace hx102_0 := (HB.out.cell (World.block_lt_of_cell? w _ hx102_0)).trans hx102_0
         replace hx102_1 := (HB.out.cell (World.block_lt_of_cell? w _ hx102_1)).trans hx102_1
         replace p102 := eq_true p102
         replace q102 := eq_true q102
         go_wp2
         go_ret
         exact ⟨eqW, by repeat (first | (with_reducible first | exact HB.out | apply below_alloc | apply pw_below_drewN | apply below_drew1 | refine below_set ?_ GE101.out) | exact HB.out)⟩
        ·rw [if_neg c10] at H
         have c10b0 : decide (4096 < (((rd_T33 l0_9 x3_2).f1).size : Int)) = false := decide_eq_false c10
         have c10b1 : decide (4096 < ((rd_T33 l0_9 x3_2).f1).size) = false := decide_eq_false (by omega)
         clear c10
         have H' := aq H
         clear H
         obtain ⟨k12a, k12b, k12c, k12d, k12e, k12f, k12g, k12h, k12i, k12j, k12k⟩ := cl11 (W := wr) BK101.out
         obtain ⟨u12a, u12b, u12c, u12d, u12e, u12f, u12g, u12h, u12i, u12j, u12k⟩ := fr11 BK101.out
         have p102 : 0 ≤ (x3_2 : Int) := of_decide_eq_true (by first | (with_reducible assumption) | assumption)
         have q102 : x3_2 < (l0_9.length : Int) := of_decide_eq_true (by first | (with_reducible assumption) | assumption)
         obtain ⟨ad102, e102, hx102_0, hx102_1⟩ := at_T33 HR0_9.out x3_2 p102 q102
         cases e102
         replace hx102_0 := (HB.out.cell (World.block_lt_of_cell? w _ hx102_0)).trans hx102_0
         replace hx102_1 := (HB.out.cell (World.block_lt_of_cell? w _ hx102_1)).trans hx102_1
         replace p102 := eq_true p102
         replace q102 := eq_true q102
         go_wp2
         go_roundg k2
         case measure => have := HJ1.out; have := HK2.out; omega
         case rel => exact ⟨(wrap64 (x3_2 + 1)), eqS, H', ⟨by have := HJ1.out; have := HK2.out; omega⟩, ⟨stB BK101⟩, ⟨stH HB⟩⟩
       ·rw [if_neg c9] at H
        exact absurd H (by simp)
      ·rw [if_neg c8] at H
       have c8b0 : decide (x3_2 < (l0_9.length : Int)) = false := decide_eq_false c8
       clear c8
       have H' := aq H
       clear H
       obtain ⟨k13a, k13b, k13c, k13d, k13e, k13f, k13g, k13h, k13i, k13j, k13k⟩ := cl11 (W := wr) BK101.out
       obtain ⟨u13a, u13b, u13c, u13d, u13e, u13f, u13g, u13h, u13i, u13j, u13k⟩ := fr11 BK101.out
       go_wp2
       go_loopg [4] k2 (fun kq v4 w' => ∃ (x4_3 : Int), v4 = .int .i64 x4_3 ∧ Aside0 (seneschallaw11_great.l1 kq x4_3 a0_0 a0_1 a0_2 a0_3 a0_4 a0_5 a0_6 a0_7 a0_8 l0_9 l0_10 = some r) ∧ Aside0 (kq ≤ k2) ∧ Aside0 (w'.heap[gb101]? = some (.cells #[.int .i64 a0_0, .int .i64 a0_1, .bool a0_2, .bool a0_3, .int .i64 a0_4, .int .i64 a0_5, .int .i64 a0_6, .int .i64 a0_7, .int .i64 a0_8, (.slice A0_9 l0_9.length c0_9), (.slice A0_10 l0_10.length c0_10)] 55 (0, 0))) ∧ Aside0 (Below w.heap.size w w'))
       case atStart => exact ⟨(0), eqS, H', ⟨Nat.le_refl _⟩, ⟨stB BK101⟩, ⟨stH HB⟩⟩
       case round =>
        clear H'
        try clear k13a k13b k13c k13d k13e k13f k13g k13h k13i k13j k13k
        try clear u13a u13b u13c u13d u13e u13f u13g u13h u13i u13j u13k
        try clear c1
        try clear p1
        try clear q1
        try clear hx1
        try clear p2
        try clear c4
        try clear c4b0
        try clear c4b1
        try clear c6
        try clear p6
        try clear c7
        try clear c8
        try clear c8b0
        try clear c9
        try clear c9b0
        try clear c10
        try clear c10b0
        try clear c10b1
        try clear p10
        try clear q10
        try clear hx10
        try clear hx102_0
        try clear hx102_1
        try clear p102
        try clear q102
        obtain ⟨x4_3, rfl, HA, HK3, BK101, HB⟩ := hrel
        cases gk with
        | zero => exact absurd HA.out (by simp [seneschallaw11_great.l1])
        | succ k3 =>
         have H := HA.out
         clear HA
         simp only [seneschallaw11_great.l1] at H
         by_cases c14 : x4_3 < (l0_10.length : Int)
         ·rw [if_pos c14] at H
          have c14b0 : decide (x4_3 < (l0_10.length : Int)) = true := decide_eq_true c14
          clear c14
          by_cases c15 : 0 ≤ x4_3
          ·rw [if_pos c15] at H
           have c15b0 : decide (0 ≤ x4_3) = true := decide_eq_true c15
           clear c15
           by_cases c16 : (((rd_T65 l0_10 x4_3).f6.f1).size : Int) > 4096
           ·rw [if_pos c16] at H
            have c16b0 : decide (4096 < (((rd_T65 l0_10 x4_3).f6.f1).size : Int)) = true := decide_eq_true c16
            have c16b1 : decide (4096 < ((rd_T65 l0_10 x4_3).f6.f1).size) = true := decide_eq_true (by omega)
            clear c16
            obtain rfl := Option.some.inj H
            obtain ⟨k17a, k17b, k17c, k17d, k17e, k17f, k17g, k17h, k17i, k17j, k17k⟩ := cl11 (W := wr) BK101.out
            obtain ⟨u17a, u17b, u17c, u17d, u17e, u17f, u17g, u17h, u17i, u17j, u17k⟩ := fr11 BK101.out
            have p103 : 0 ≤ (x4_3 : Int) := of_decide_eq_true (by first | (with_reducible assumption) | assumption)
            have q103 : x4_3 < (l0_10.length : Int) := of_decide_eq_true (by first | (with_reducible assumption) | assumption)
            obtain ⟨ad103, e103, hx103_0, hx103_1, hx103_2, hx103_3, hx103_4, hx103_5, hx103_6, hx103_7, hx103_8, hx103_9, hx103_10, hx103_11, hx103_12⟩ := at_T65 HR0_10.out x4_3 p103 q103
            cases e103
            replace hx103_0 := (HB.out.cell (World.block_lt_of_cell? w _ hx103_0)).trans hx103_0
            replace hx103_1 := (HB.out.cell (World.block_lt_of_cell? w _ hx103_1)).trans hx103_1
            replace hx103_2 := (HB.out.cell (World.block_lt_of_cell? w _ hx103_2)).trans hx103_2
            replace hx103_3 := (HB.out.cell (World.block_lt_of_cell? w _ hx103_3)).trans hx103_3
            replace hx103_4 := (HB.out.cell (World.block_lt_of_cell? w _ hx103_4)).trans hx103_4
            replace hx103_5 := (HB.out.cell (World.block_lt_of_cell? w _ hx103_5)).trans hx103_5
            replace hx103_6 := (HB.out.cell (World.block_lt_of_cell? w _ hx103_6)).trans hx103_6
            replace hx103_7 := (HB.out.cell (World.block_lt_of_cell? w _ hx103_7)).trans hx103_7
            replace hx103_8 := (HB.out.cell (World.block_lt_of_cell? w _ hx103_8)).trans hx103_8
            replace hx103_9 := (HB.out.cell (World.block_lt_of_cell? w _ hx103_9)).trans hx103_9
            replace hx103_10 := (HB.out.cell (World.block_lt_of_cell? w _ hx103_10)).trans hx103_10
            replace hx103_11 := (HB.out.cell (World.block_lt_of_cell? w _ hx103_11)).trans hx103_11
            replace hx103_12 := (HB.out.cell (World.block_lt_of_cell? w _ hx103_12)).trans hx103_12
            replace p103 := eq_true p103
            replace q103 := eq_true q103
            go_wp2
            go_ret
            exact ⟨eqW, by repeat (first | (with_reducible first | exact HB.out | apply below_alloc | apply pw_below_drewN | apply below_drew1 | refine below_set ?_ GE101.out) | exact HB.out)⟩
           ·rw [if_neg c16] at H
            have c16b0 : decide (4096 < (((rd_T65 l0_10 x4_3).f6.f1).size : Int)) = false := decide_eq_false c16
            have c16b1 : decide (4096 < ((rd_T65 l0_10 x4_3).f6.f1).size) = false := decide_eq_false (by omega)
            clear c16
            by_cases c18 : (((rd_T65 l0_10 x4_3).f7.f1).size : Int) > 4096
            ·rw [if_pos c18] at H
             have c18b0 : decide (4096 < (((rd_T65 l0_10 x4_3).f7.f1).size : Int)) = true := decide_eq_true c18
             have c18b1 : decide (4096 < ((rd_T65 l0_10 x4_3).f7.f1).size) = true := decide_eq_true (by omega)
             clear c18
             obtain rfl := Option.some.inj H
             obtain ⟨k19a, k19b, k19c, k19d, k19e, k19f, k19g, k19h, k19i, k19j, k19k⟩ := cl11 (W := wr) BK101.out
             obtain ⟨u19a, u19b, u19c, u19d, u19e, u19f, u19g, u19h, u19i, u19j, u19k⟩ := fr11 BK101.out
             have p103 : 0 ≤ (x4_3 : Int) := of_decide_eq_true (by first | (with_reducible assumption) | assumption)
             have q103 : x4_3 < (l0_10.length : Int) := of_decide_eq_true (by first | (with_reducible assumption) | assumption)
             obtain ⟨ad103, e103, hx103_0, hx103_1, hx103_2, hx103_3, hx103_4, hx103_5, hx103_6, hx103_7, hx103_8, hx103_9, hx103_10, hx103_11, hx103_12⟩ := at_T65 HR0_10.out x4_3 p103 q103
             cases e103
             replace hx103_0 := (HB.out.cell (World.block_lt_of_cell? w _ hx103_0)).trans hx103_0
             replace hx103_1 := (HB.out.cell (World.block_lt_of_cell? w _ hx103_1)).trans hx103_1
             replace hx103_2 := (HB.out.cell (World.block_lt_of_cell? w _ hx103_2)).trans hx103_2
             replace hx103_3 := (HB.out.cell (World.block_lt_of_cell? w _ hx103_3)).trans hx103_3
             replace hx103_4 := (HB.out.cell (World.block_lt_of_cell? w _ hx103_4)).trans hx103_4
             replace hx103_5 := (HB.out.cell (World.block_lt_of_cell? w _ hx103_5)).trans hx103_5
             replace hx103_6 := (HB.out.cell (World.block_lt_of_cell? w _ hx103_6)).trans hx103_6
             replace hx103_7 := (HB.out.cell (World.block_lt_of_cell? w _ hx103_7)).trans hx103_7
             replace hx103_8 := (HB.out.cell (World.block_lt_of_cell? w _ hx103_8)).trans hx103_8
             replace hx103_9 := (HB.out.cell (World.block_lt_of_cell? w _ hx103_9)).trans hx103_9
             replace hx103_10 := (HB.out.cell (World.block_lt_of_cell? w _ hx103_10)).trans hx103_10
             replace hx103_11 := (HB.out.cell (World.block_lt_of_cell? w _ hx103_11)).trans hx103_11
             replace hx103_12 := (HB.out.cell (World.block_lt_of_cell? w _ hx103_12)).trans hx103_12
             replace p103 := eq_true p103
             replace q103 := eq_true q103
             have p104 : 0 ≤ (x4_3 : Int) := of_decide_eq_true (by first | (with_reducible assumption) | assumption)
             have q104 : x4_3 < (l0_10.length : Int) := of_decide_eq_true (by first | (with_reducible assumption) | assumption)
             obtain ⟨ad104, e104, hx104_0, hx104_1, hx104_2, hx104_3, hx104_4, hx104_5, hx104_6, hx104_7, hx104_8, hx104_9, hx104_10, hx104_11, hx104_12⟩ := at_T65 HR0_10.out x4_3 p104 q104
             obtain rfl : ad103 = ad104 := (by injection e104)
             replace hx104_0 := (HB.out.cell (World.block_lt_of_cell? w _ hx104_0)).trans hx104_0
             replace hx104_1 := (HB.out.cell (World.block_lt_of_cell? w _ hx104_1)).trans hx104_1
             replace hx104_2 := (HB.out.cell (World.block_lt_of_cell? w _ hx104_2)).trans hx104_2
             replace hx104_3 := (HB.out.cell (World.block_lt_of_cell? w _ hx104_3)).trans hx104_3
             replace hx104_4 := (HB.out.cell (World.block_lt_of_cell? w _ hx104_4)).trans hx104_4
             replace hx104_5 := (HB.out.cell (World.block_lt_of_cell? w _ hx104_5)).trans hx104_5
             replace hx104_6 := (HB.out.cell (World.block_lt_of_cell? w _ hx104_6)).trans hx104_6
             replace hx104_7 := (HB.out.cell (World.block_lt_of_cell? w _ hx104_7)).trans hx104_7
             replace hx104_8 := (HB.out.cell (World.block_lt_of_cell? w _ hx104_8)).trans hx104_8
             replace hx104_9 := (HB.out.cell (World.block_lt_of_cell? w _ hx104_9)).trans hx104_9
             replace hx104_10 := (HB.out.cell (World.block_lt_of_cell? w _ hx104_10)).trans hx104_10
             replace hx104_11 := (HB.out.cell (World.block_lt_of_cell? w _ hx104_11)).trans hx104_11
             replace hx104_12 := (HB.out.cell (World.block_lt_of_cell? w _ hx104_12)).trans hx104_12
             replace p104 := eq_true p104
             replace q104 := eq_true q104
             go_wp2
             go_ret
             exact ⟨eqW, by repeat (first | (with_reducible first | exact HB.out | apply below_alloc | apply pw_below_drewN | apply below_drew1 | refine below_set ?_ GE101.out) | exact HB.out)⟩
            ·rw [if_neg c18] at H
             have c18b0 : decide (4096 < (((rd_T65 l0_10 x4_3).f7.f1).size : Int)) = false := decide_eq_false c18
             have c18b1 : decide (4096 < ((rd_T65 l0_10 x4_3).f7.f1).size) = false := decide_eq_false (by omega)
             clear c18
             have H' := aq H
             clear H
             obtain ⟨k20a, k20b, k20c, k20d, k20e, k20f, k20g, k20h, k20i, k20j, k20k⟩ := cl11 (W := wr) BK101.out
             obtain ⟨u20a, u20b, u20c, u20d, u20e, u20f, u20g, u20h, u20i, u20j, u20k⟩ := fr11 BK101.out
             have p103 : 0 ≤ (x4_3 : Int) := of_decide_eq_true (by first | (with_reducible assumption) | assumption)
             have q103 : x4_3 < (l0_10.length : Int) := of_decide_eq_true (by first | (with_reducible assumption) | assumption)
             obtain ⟨ad103, e103, hx103_0, hx103_1, hx103_2, hx103_3, hx103_4, hx103_5, hx103_6, hx103_7, hx103_8, hx103_9, hx103_10, hx103_11, hx103_12⟩ := at_T65 HR0_10.out x4_3 p103 q103
             cases e103
             replace hx103_0 := (HB.out.cell (World.block_lt_of_cell? w _ hx103_0)).trans hx103_0
             replace hx103_1 := (HB.out.cell (World.block_lt_of_cell? w _ hx103_1)).trans hx103_1
             replace hx103_2 := (HB.out.cell (World.block_lt_of_cell? w _ hx103_2)).trans hx103_2
             replace hx103_3 := (HB.out.cell (World.block_lt_of_cell? w _ hx103_3)).trans hx103_3
             replace hx103_4 := (HB.out.cell (World.block_lt_of_cell? w _ hx103_4)).trans hx103_4
             replace hx103_5 := (HB.out.cell (World.block_lt_of_cell? w _ hx103_5)).trans hx103_5
             replace hx103_6 := (HB.out.cell (World.block_lt_of_cell? w _ hx103_6)).trans hx103_6
             replace hx103_7 := (HB.out.cell (World.block_lt_of_cell? w _ hx103_7)).trans hx103_7
             replace hx103_8 := (HB.out.cell (World.block_lt_of_cell? w _ hx103_8)).trans hx103_8
             replace hx103_9 := (HB.out.cell (World.block_lt_of_cell? w _ hx103_9)).trans hx103_9
             replace hx103_10 := (HB.out.cell (World.block_lt_of_cell? w _ hx103_10)).trans hx103_10
             replace hx103_11 := (HB.out.cell (World.block_lt_of_cell? w _ hx103_11)).trans hx103_11
             replace hx103_12 := (HB.out.cell (World.block_lt_of_cell? w _ hx103_12)).trans hx103_12
             replace p103 := eq_true p103
             replace q103 := eq_true q103
             have p104 : 0 ≤ (x4_3 : Int) := of_decide_eq_true (by first | (with_reducible assumption) | assumption)
             have q104 : x4_3 < (l0_10.length : Int) := of_decide_eq_true (by first | (with_reducible assumption) | assumption)
             obtain ⟨ad104, e104, hx104_0, hx104_1, hx104_2, hx104_3, hx104_4, hx104_5, hx104_6, hx104_7, hx104_8, hx104_9, hx104_10, hx104_11, hx104_12⟩ := at_T65 HR0_10.out x4_3 p104 q104
             obtain rfl : ad103 = ad104 := (by injection e104)
             replace hx104_0 := (HB.out.cell (World.block_lt_of_cell? w _ hx104_0)).trans hx104_0
             replace hx104_1 := (HB.out.cell (World.block_lt_of_cell? w _ hx104_1)).trans hx104_1
             replace hx104_2 := (HB.out.cell (World.block_lt_of_cell? w _ hx104_2)).trans hx104_2
             replace hx104_3 := (HB.out.cell (World.block_lt_of_cell? w _ hx104_3)).trans hx104_3
             replace hx104_4 := (HB.out.cell (World.block_lt_of_cell? w _ hx104_4)).trans hx104_4
             replace hx104_5 := (HB.out.cell (World.block_lt_of_cell? w _ hx104_5)).trans hx104_5
             replace hx104_6 := (HB.out.cell (World.block_lt_of_cell? w _ hx104_6)).trans hx104_6
             replace hx104_7 := (HB.out.cell (World.block_lt_of_cell? w _ hx104_7)).trans hx104_7
             replace hx104_8 := (HB.out.cell (World.block_lt_of_cell? w _ hx104_8)).trans hx104_8
             replace hx104_9 := (HB.out.cell (World.block_lt_of_cell? w _ hx104_9)).trans hx104_9
             replace hx104_10 := (HB.out.cell (World.block_lt_of_cell? w _ hx104_10)).trans hx104_10
             replace hx104_11 := (HB.out.cell (World.block_lt_of_cell? w _ hx104_11)).trans hx104_11
             replace hx104_12 := (HB.out.cell (World.block_lt_of_cell? w _ hx104_12)).trans hx104_12
             replace p104 := eq_true p104
             replace q104 := eq_true q104
             go_wp2
             go_roundg k3
             case measure => have := HJ1.out; have := HK2.out; have := HK3.out; omega
             case rel => exact ⟨(wrap64 (x4_3 + 1)), eqS, H', ⟨by have := HJ1.out; have := HK2.out; have := HK3.out; omega⟩, ⟨stB BK101⟩, ⟨stH HB⟩⟩
          ·rw [if_neg c15] at H
           exact absurd H (by simp)
         ·rw [if_neg c14] at H
          have c14b0 : decide (x4_3 < (l0_10.length : Int)) = false := decide_eq_false c14
          clear c14
          obtain rfl := Option.some.inj H
          obtain ⟨k21a, k21b, k21c, k21d, k21e, k21f, k21g, k21h, k21i, k21j, k21k⟩ := cl11 (W := wr) BK101.out
          obtain ⟨u21a, u21b, u21c, u21d, u21e, u21f, u21g, u21h, u21i, u21j, u21k⟩ := fr11 BK101.out
          go_wp2
          go_ret
          exact ⟨eqW, by repeat (first | (with_reducible first | exact HB.out | apply below_alloc | apply pw_below_drewN | apply below_drew1 | refine below_set ?_ GE101.out) | exact HB.out)⟩
end Go.Proofs.Ytfjmnaobfbmllaa.M
namespace Go.Proofs.Ytfjmnaobfbmllaa.M
open Go.RowKit Go.Proofs.YtfjmnaobfbmllaaW.PrintWords Go.Proofs.YtfjmnaobfbmllaaW.PrintLast Go.Proofs.YtfjmnaobfbmllaaW.PrintMore
set_option linter.unusedVariables false
set_option linter.unusedSimpArgs false
def greatM (l : List S33) (m : List S65) : Bool := (decide (100 < l.length) || decide (40 < m.length)) || ((l.any fun x => decide (4096 < x.f1.size)) || m.any greatE)
theorem rd65t (l : List S65) (i : Nat) (h : i < l.length) : rd_T65 l (i : Int) = l[i] := by simp [rd_T65, h]
section
variable (a b : Int) (c d : Bool) (e f g h q : Int) (l : List S33) (m : List S65)
theorem great_l1 (hm : m.length ≤ 40) (n : Nat) : ∀ (k i : Nat), i + n = m.length → n < k →
    seneschallaw11_great.l1 k i a b c d e f g h q l m = some ((m.drop i).any greatE) := by
  induction n with
  | zero =>
    intro k i hi hk
    obtain ⟨k, rfl⟩ : ∃ m, k = m + 1 := ⟨k - 1, by omega⟩
    simp only [seneschallaw11_great.l1]
    rw [if_neg (by omega), List.drop_of_length_le (by omega)]; rfl
  | succ n ih =>
    intro k i hi hk
    obtain ⟨k, rfl⟩ : ∃ m, k = m + 1 := ⟨k - 1, by omega⟩
    have hlt : i < m.length := by omega
    simp only [seneschallaw11_great.l1]
    rw [if_pos (by omega), if_pos (by omega), rd65t m i hlt, List.drop_eq_getElem_cons hlt, List.any_cons, w64 ((i : Int) + 1) (by omega) (by omega)]
    have := ih k (i + 1) (by omega) (by omega)
    rw [show ((i + 1 : Nat) : Int) = (i : Int) + 1 by omega] at this
    by_cases h1 : ((m[i].f6.f1).size : Int) > 4096
    · rw [if_pos h1]; unfold greatE; rw [decide_eq_true (by omega)]; rfl
    · rw [if_neg h1]
      by_cases h2 : ((m[i].f7.f1).size : Int) > 4096
      · rw [if_pos h2, show greatE m[i] = true by unfold greatE; rw [decide_eq_true (p := 4096 < m[i].f7.f1.size) (by omega), Bool.or_true]]; rfl
      · rw [if_neg h2, this, show greatE m[i] = false by unfold greatE; rw [decide_eq_false (by omega), decide_eq_false (by omega)]; rfl]; rfl
theorem great_l0 (hl : l.length ≤ 100) (hm : m.length ≤ 40) (n : Nat) : ∀ (k i : Nat), i + n = l.length → n + 42 < k →
    seneschallaw11_great.l0 k i a b c d e f g h q l m = some ((l.drop i).any (fun x => decide (4096 < x.f1.size)) || m.any greatE) := by
  induction n with
  | zero =>
    intro k i hi hk
    obtain ⟨k, rfl⟩ : ∃ m, k = m + 1 := ⟨k - 1, by omega⟩
    simp only [seneschallaw11_great.l0]
    have := great_l1 a b c d e f g h q l m hm m.length k 0 (by omega) (by omega)
    rw [List.drop_zero] at this
    rw [if_neg (by omega), List.drop_of_length_le (by omega)]
    exact this
  | succ n ih =>
    intro k i hi hk
    obtain ⟨k, rfl⟩ : ∃ m, k = m + 1 := ⟨k - 1, by omega⟩
    have hlt : i < l.length := by omega
    simp only [seneschallaw11_great.l0]
    rw [if_pos (by omega), if_pos (by omega), rd33 l i hlt, List.drop_eq_getElem_cons hlt, List.any_cons, w64 ((i : Int) + 1) (by omega) (by omega)]
    have := ih k (i + 1) (by omega) (by omega)
    rw [show ((i + 1 : Nat) : Int) = (i : Int) + 1 by omega] at this
    by_cases h1 : ((l[i].f1).size : Int) > 4096
    · rw [if_pos h1, decide_eq_true (by omega)]; rfl
    · rw [if_neg h1, decide_eq_false (by omega), this]; rfl
theorem great_pureM : seneschallaw11_great.f 150 a b c d e f g h q l m = some (greatM l m) := by
  unfold seneschallaw11_great.f greatM
  by_cases h1 : (l.length : Int) > 100
  · rw [if_pos h1, decide_eq_true (p := 100 < l.length) (by omega)]; simp only [seneschallaw11_great.j0]; rw [if_pos trivial]; rfl
  · rw [if_neg h1, decide_eq_false (p := 100 < l.length) (by omega)]
    simp only [seneschallaw11_great.j0]
    by_cases h2 : (m.length : Int) > 40
    · rw [decide_eq_true h2, if_pos rfl, decide_eq_true (p := 40 < m.length) (by omega)]; rfl
    · rw [decide_eq_false h2, if_neg Bool.false_ne_true, decide_eq_false (p := 40 < m.length) (by omega)]
      have := great_l0 a b c d e f g h q l m (by omega) (by omega) l.length 149 0 (by omega) (by omega)
      rw [List.drop_zero] at this
      exact this
end
def great11.f (a0_0 : Int) (a0_1 : Int) (a0_2 : Bool) (a0_3 : Bool) (a0_4 : Int) (a0_5 : Int) (a0_6 : Int) (a0_7 : Int) (a0_8 : Int) (l : List S33) (m : List S65) : Option Bool := some (greatM l m)
theorem great11.calls (a0_0 : Int) (a0_1 : Int) (a0_2 : Bool) (a0_3 : Bool) (a0_4 : Int) (a0_5 : Int) (a0_6 : Int) (a0_7 : Int) (a0_8 : Int) (A0_9 : Option Addr) (c0_9 : Nat) (l0_9 : List (S33)) (A0_10 : Option Addr) (c0_10 : Nat) (l0_10 : List (S65)) (r : Bool) (w : World) (hr0_9 : Kd.C k33 w A0_9 l0_9.length l0_9) (hc0_9 : l0_9.length ≤ c0_9) (hr0_10 : Kd.C k65 w A0_10 l0_10.length l0_10) (hc0_10 : l0_10.length ≤ c0_10) (h : great11.f a0_0 a0_1 a0_2 a0_3 a0_4 a0_5 a0_6 a0_7 a0_8 l0_9 l0_10 = some r) :
    Calls Try.prog 61 #[.agg #[.int .i64 a0_0, .int .i64 a0_1, .bool a0_2, .bool a0_3, .int .i64 a0_4, .int .i64 a0_5, .int .i64 a0_6, .int .i64 a0_7, .int .i64 a0_8, .slice A0_9 l0_9.length c0_9, .slice A0_10 l0_10.length c0_10]] w fun e w' => e = .returned (.bool r) ∧ Below w.heap.size w w' :=
  seneschallaw11_great.calls 150 a0_0 a0_1 a0_2 a0_3 a0_4 a0_5 a0_6 a0_7 a0_8 A0_9 c0_9 l0_9 A0_10 c0_10 l0_10 r w hr0_9 hc0_9 hr0_10 hc0_10 (by rw [great_pureM]; exact h)
end Go.Proofs.Ytfjmnaobfbmllaa.M
namespace Go.Proofs.Ytfjmnaobfbmllaa.M
open Go.RowKit Go.Proofs.YtfjmnaobfbmllaaW.PrintWords Go.Proofs.YtfjmnaobfbmllaaW.PrintLast Go.Proofs.YtfjmnaobfbmllaaW.PrintMore
attribute [local go_sem] max2_int min2_int max_two min_two max_three min_three max_four min_four   -- for this text's walks alone
set_option linter.unusedVariables false
set_option linter.unusedSimpArgs false
def IsS104 (w0 W : World) (g : Nat) (f0 : ByteArray) (f1 : Bool) : Prop := W.heap[g]? = some (.cells #[.string f0, .bool f1] 104 (0, 0)) ∧ w0.heap.size ≤ g
theorem IsS104.grown {w0 W : World} {g : Nat} {f0 : ByteArray} {f1 : Bool} {W1 : World} {row : Option Nat} (h : IsS104 w0 W g f0 f1) (hw : W.grownBy W1 row) (hne : some g ≠ row) : IsS104 w0 W1 g f0 f1 := by
 obtain ⟨hb, hg⟩ := h
 exact ⟨blk_grown hb hw hne, hg⟩
theorem IsS104.kept {w0 W : World} {g : Nat} {f0 : ByteArray} {f1 : Bool} {W1 : World} {S : Nat → Prop} (h : IsS104 w0 W g f0 f1) (hk : Kept W W1 S) (hne : ¬ S g) : IsS104 w0 W1 g f0 f1 := by
 obtain ⟨hb, hg⟩ := h
 exact ⟨blk_kept hb hk hne, hg⟩
theorem IsS104.below {w0 W : World} {g : Nat} {f0 : ByteArray} {f1 : Bool} {W1 : World} (h : IsS104 w0 W g f0 f1) (hw : Below W.heap.size W W1) : IsS104 w0 W1 g f0 f1 := h.grown (grown_of_below hw none) (by simp)
theorem IsS104.alloc {w0 W : World} {g : Nat} {f0 : ByteArray} {f1 : Bool} (h : IsS104 w0 W g f0 f1) (o : Obj) : IsS104 w0 (W.alloc o) g f0 f1 := h.below (below_alloc (Below.refl _ _) o)
theorem IsS104.drewN {w0 W : World} {g : Nat} {f0 : ByteArray} {f1 : Bool} (h : IsS104 w0 W g f0 f1) (m : Nat) : IsS104 w0 (W.drewN m) g f0 f1 := h
theorem IsS104.drew {w0 W : World} {g : Nat} {f0 : ByteArray} {f1 : Bool} (h : IsS104 w0 W g f0 f1) : IsS104 w0 W.drew g f0 f1 := h
theorem IsS104.at_ {w0 W : World} {g : Nat} {f0 : ByteArray} {f1 : Bool} {w' : World} {m : Nat} (hq : W.drewN m = w') (h : IsS104 w0 W g f0 f1) : IsS104 w0 w' g f0 f1 := by subst hq; exact IsS104.drewN h m
theorem IsS104.apart {w0 W : World} {g : Nat} {f0 : ByteArray} {f1 : Bool} {α : Type} {d : Kd α} {e : Nat} {base : Nat} {ok : Nat → Prop} {v : Value} {xs : List α} (h : IsS104 w0 W g f0 f1) (ho : d.R e W base ok v xs) (ht : ∀ q, q ∈ e :: d.E → q ≠ 104) : d.R e W base (fun k => ok k ∧ k ≠ g) v xs := by
 obtain ⟨hb, hg⟩ := h
 exact Kd.R_types ho hb ht
theorem IsS104.own_ne {w0 W : World} {g : Nat} {f0 : ByteArray} {f1 : Bool} {α : Type} {d : Kd α} {e : Nat} {base : Nat} {ok : Nat → Prop} {v : Value} {xs : List α} (h : IsS104 w0 W g f0 f1) (ho : d.R e W base ok v xs) (ht : e ≠ 104) : some g ≠ v.ownBlock := by
 obtain ⟨hb, hg⟩ := h
 exact Kd.R_ne ho hb ht
theorem IsS104.lt {w0 W : World} {g : Nat} {f0 : ByteArray} {f1 : Bool} (h : IsS104 w0 W g f0 f1) : g < W.heap.size := by
 obtain ⟨hb, hg⟩ := h
 exact blk_lt hb
theorem IsS104.ge {w0 W : World} {g : Nat} {f0 : ByteArray} {f1 : Bool} (h : IsS104 w0 W g f0 f1) : w0.heap.size ≤ g := by
 obtain ⟨hb, hg⟩ := h
 exact hg
theorem IsS104.ne_blk {w0 W : World} {g : Nat} {f0 : ByteArray} {f1 : Bool} {a : Nat} {cs : Array Value} {t : TypeId} {fr : Nat × Nat} (h : IsS104 w0 W g f0 f1) (hb2 : W.heap[a]? = some (.cells cs t fr)) (ht : t ≠ 104) : g ≠ a := by
 obtain ⟨hb, hg⟩ := h
 rintro rfl
 rw [hb] at hb2
 injection hb2 with hb2
 injection hb2 with _ ht2
 exact ht ht2.symm
theorem IsS104.far {w0 W : World} {g : Nat} {f0 : ByteArray} {f1 : Bool} {p : Addr} (h : IsS104 w0 W g f0 f1) (hne : g ≠ p.block) (u : Value) : IsS104 w0 (W.setCell p u) g f0 f1 := by
 obtain ⟨hb, hg⟩ := h
 exact ⟨blk_far hb hne u, hg⟩
theorem cellS104_0 {W : World} {g : Nat} {f0 : ByteArray} {f1 : Bool} (h : W.heap[g]? = some (.cells #[.string f0, .bool f1] 104 (0, 0))) : W.cell? ⟨g, 0, none⟩ = some (.string f0) := (blk_cell h 0).trans rfl
theorem IsS104.set_0 {w0 W : World} {g : Nat} {f0 : ByteArray} {f1 : Bool} (h : IsS104 w0 W g f0 f1) (x : ByteArray) : IsS104 w0 (W.setCell ⟨g, 0, none⟩ (.string x)) g x f1 := by
 obtain ⟨hb, hg⟩ := h
 exact ⟨by simpa using blk_set hb 0 (.string x), hg⟩
theorem cellS104_1 {W : World} {g : Nat} {f0 : ByteArray} {f1 : Bool} (h : W.heap[g]? = some (.cells #[.string f0, .bool f1] 104 (0, 0))) : W.cell? ⟨g, 1, none⟩ = some (.bool f1) := (blk_cell h 1).trans rfl
theorem IsS104.set_1 {w0 W : World} {g : Nat} {f0 : ByteArray} {f1 : Bool} (h : IsS104 w0 W g f0 f1) (x : Bool) : IsS104 w0 (W.setCell ⟨g, 1, none⟩ (.bool x)) g f0 x := by
 obtain ⟨hb, hg⟩ := h
 exact ⟨by simpa using blk_set hb 1 (.bool x), hg⟩
theorem IsS104.st {P Q : Prop} (h : Aside0 P) (e : P → Q := by intro h_; repeat (first | (with_reducible first | exact h_ | apply IsS104.alloc | apply IsS104.drewN | apply IsS104.drew | apply IsS104.set_0 | apply IsS104.set_1 | refine IsS104.far ?_ (Aside0.out (by assumption)) _) | exact h_)) : Q := e h.out
theorem IsS104.stH {P Q : Prop} (h : Aside0 P) (e : P → Q := by intro h_; repeat (first | (with_reducible first | exact h_ | apply below_alloc | apply pw_below_drewN | apply below_drew1 | refine below_set ?_ (Aside0.out (by assumption)) | refine below_set ?_ (IsS104.ge (Aside0.out (by assumption)))) | exact h_)) : Q := e h.out
def note_scan_int.f (s0_0 : ByteArray) (s0_1 : Bool) : Option (Int × ByteArray × Bool) := (nibTake.f s0_0).bind fun bt101 => (if s0_1 = true then (some (bt101.1, bt101.2.1, true)) else (some (bt101.1, bt101.2.1, !bt101.2.2)))
set_option maxHeartbeats 8000000 in
set_option maxRecDepth 100000 in
theorem note_scan_int.calls (g : Nat) (s0_0 : ByteArray) (s0_1 : Bool) (r1 : Int) (r2 : ByteArray) (r3 : Bool) (w0 w : World) (hI : IsS104 w0 w g s0_0 s0_1) (hB : Below w0.heap.size w0 w) (h : note_scan_int.f s0_0 s0_1 = some (r1, r2, r3)) :
  Calls Try.prog 87 #[.pointer (some ⟨g, 0, none⟩)] w fun e w' => e = .returned (.int .i64 r1) ∧ IsS104 w0 w' g r2 r3 ∧ Below w0.heap.size w0 w' ∧ KeepBut w w' g none := by
 have HI0 := aq hI
 have HK := aq (KeepBut.refl w g none)
 have HL := aq hB.size
 clear hI
 have HW0 := aq hB.size
 have HB := aq hB
 clear hB
 have H : ((nibTake.f s0_0).bind fun bt101 => (if s0_1 = true then (some (bt101.1, bt101.2.1, true)) else (some (bt101.1, bt101.2.1, !bt101.2.2)))) = some (r1, r2, r3) := h
 clear h
 replace H := Option.bind_eq_some_iff.mp H
 obtain ⟨⟨t101, t102, t103⟩, A20, H⟩ := H
 try dsimp only at H
 have A2 := aq A20
 clear A20
 by_cases c3 : s0_1 = true
 ·subst c3
  rw [if_pos rfl] at H
  simp only [Option.some.injEq, Prod.mk.injEq] at H
  obtain ⟨rfl, rfl, rfl⟩ := H
  obtain ⟨HGz4, hgz4⟩ := HI0.out
  have k4a := cellS104_0 HGz4
  have k4b := cellS104_1 HGz4
  obtain ⟨u4a, u4b⟩ := fr2 HGz4
  clear HGz4 hgz4
  go_enter Try.func87, Try.ntmps87
  go_wp2_with (first | ((with_reducible refine gate_callee (f := 120) rfl ?_); refine goesL_ (some 11) rfl rfl Try.func120 (by kernel_rfl) rfl #[.string s0_0] rfl fitR ?_; (with_reducible refine (nibTake.calls s0_0 t101 t102 t103 _ A2.out).mono ?_); rintro e w5 ⟨rfl, hb⟩; refine ⟨_, rfl, ?_⟩; have n0_ := aq (IsS104.below (IsS104.st HI0) hb); have n1_ := aq (KeepBut.trans (stK HK) (KeepBut.of_below hb g none) (.inl rfl)); have n2_ := aq (below_step (IsS104.stH HB) hb); replace HI0 := n0_; replace HK := n1_; replace HB := n2_; clear n0_ n1_ n2_; (try clear hb); obtain ⟨HGz6, hgz6⟩ := HI0.out; have k6a := cellS104_0 HGz6; have k6b := cellS104_1 HGz6; obtain ⟨u6a, u6b⟩ := fr2 HGz6; clear HGz6 hgz6))
  go_ret
  exact ⟨eqW, by repeat (first | (with_reducible first | exact HI0.out | apply IsS104.alloc | apply IsS104.drewN | apply IsS104.drew | apply IsS104.set_0 | apply IsS104.set_1) | exact HI0.out), by repeat (first | (with_reducible first | exact HB.out | apply below_alloc | apply pw_below_drewN | apply below_drew1 | refine below_set ?_ (IsS104.ge HI0.out)) | exact HB.out), by repeat (first | (with_reducible first | exact HK.out | apply KeepBut.set_ | apply keep_drewN | apply keep_drew | apply keep_alloc) | exact HK.out)⟩
 ·replace c3 := Bool.eq_false_iff.mpr c3
  subst c3
  rw [if_neg (show ¬ (false = true) by decide)] at H
  simp only [Option.some.injEq, Prod.mk.injEq] at H
  obtain ⟨rfl, rfl, rfl⟩ := H
  obtain ⟨HGz7, hgz7⟩ := HI0.out
  have k7a := cellS104_0 HGz7
  have k7b := cellS104_1 HGz7
  obtain ⟨u7a, u7b⟩ := fr2 HGz7
  clear HGz7 hgz7
  go_enter Try.func87, Try.ntmps87
  go_wp2_with (first | ((with_reducible refine gate_callee (f := 120) rfl ?_); refine goesL_ (some 11) rfl rfl Try.func120 (by kernel_rfl) rfl #[.string s0_0] rfl fitR ?_; (with_reducible refine (nibTake.calls s0_0 t101 t102 t103 _ A2.out).mono ?_); rintro e w8 ⟨rfl, hb⟩; refine ⟨_, rfl, ?_⟩; have n0_ := aq (IsS104.below (IsS104.st HI0) hb); have n1_ := aq (KeepBut.trans (stK HK) (KeepBut.of_below hb g none) (.inl rfl)); have n2_ := aq (below_step (IsS104.stH HB) hb); replace HI0 := n0_; replace HK := n1_; replace HB := n2_; clear n0_ n1_ n2_; (try clear hb); obtain ⟨HGz9, hgz9⟩ := HI0.out; have k9a := cellS104_0 HGz9; have k9b := cellS104_1 HGz9; obtain ⟨u9a, u9b⟩ := fr2 HGz9; clear HGz9 hgz9))
  go_ret
  exact ⟨eqW, by repeat (first | (with_reducible first | exact HI0.out | apply IsS104.alloc | apply IsS104.drewN | apply IsS104.drew | apply IsS104.set_0 | apply IsS104.set_1) | exact HI0.out), by repeat (first | (with_reducible first | exact HB.out | apply below_alloc | apply pw_below_drewN | apply below_drew1 | refine below_set ?_ (IsS104.ge HI0.out)) | exact HB.out), by repeat (first | (with_reducible first | exact HK.out | apply KeepBut.set_ | apply keep_drewN | apply keep_drew | apply keep_alloc) | exact HK.out)⟩
end Go.Proofs.Ytfjmnaobfbmllaa.M
namespace Go.Proofs.Ytfjmnaobfbmllaa.M
open Go.RowKit Go.Proofs.YtfjmnaobfbmllaaW.PrintWords Go.Proofs.YtfjmnaobfbmllaaW.PrintLast Go.Proofs.YtfjmnaobfbmllaaW.PrintMore
attribute [local go_sem] max2_int min2_int max_two min_two max_three min_three max_four min_four   -- for this text's walks alone
set_option linter.unusedVariables false
set_option linter.unusedSimpArgs false
def note_scan_flag.f (s0_0 : ByteArray) (s0_1 : Bool) : Option (Bool × ByteArray × Bool) := (note_scan_int.f s0_0 s0_1).bind fun bt101 => (if bt101.2.2 = true then (some ((bt101.1 == 1), bt101.2.1, true)) else ((note_within.f bt101.1 0 1).bind fun t104 => (some ((bt101.1 == 1), bt101.2.1, !t104))))
set_option maxHeartbeats 8000000 in
set_option maxRecDepth 100000 in
theorem note_scan_flag.calls (g : Nat) (s0_0 : ByteArray) (s0_1 : Bool) (r1 : Bool) (r2 : ByteArray) (r3 : Bool) (w0 w : World) (hI : IsS104 w0 w g s0_0 s0_1) (hB : Below w0.heap.size w0 w) (h : note_scan_flag.f s0_0 s0_1 = some (r1, r2, r3)) :
  Calls Try.prog 89 #[.pointer (some ⟨g, 0, none⟩)] w fun e w' => e = .returned (.bool r1) ∧ IsS104 w0 w' g r2 r3 ∧ Below w0.heap.size w0 w' ∧ KeepBut w w' g none := by
 have HI0 := aq hI
 have HK := aq (KeepBut.refl w g none)
 have HL := aq hB.size
 clear hI
 have HW0 := aq hB.size
 have HB := aq hB
 clear hB
 have H : ((note_scan_int.f s0_0 s0_1).bind fun bt101 => (if bt101.2.2 = true then (some ((bt101.1 == 1), bt101.2.1, true)) else ((note_within.f bt101.1 0 1).bind fun t104 => (some ((bt101.1 == 1), bt101.2.1, !t104))))) = some (r1, r2, r3) := h
 clear h
 replace H := Option.bind_eq_some_iff.mp H
 obtain ⟨⟨t101, t102, t103⟩, A20, H⟩ := H
 try dsimp only at H
 have A2 := aq A20
 clear A20
 by_cases c3 : t103 = true
 ·subst c3
  rw [if_pos rfl] at H
  simp only [Option.some.injEq, Prod.mk.injEq] at H
  obtain ⟨rfl, rfl, rfl⟩ := H
  go_enter Try.func89, Try.ntmps89
  go_wp2_with (first | ((with_reducible refine gate_callee (f := 87) rfl ?_); refine goesL_ (some 5) rfl rfl Try.func87 (by kernel_rfl) rfl #[.pointer (some ⟨g, 0, none⟩)] rfl fitR ?_; (with_reducible refine (note_scan_int.calls g s0_0 s0_1 t101 t102 true w0 _ ?side1 ?side2 A2.out).mono ?_); (case side1 => repeat (first | (with_reducible first | exact HI0.out | apply IsS104.alloc | apply IsS104.drewN | apply IsS104.drew | apply IsS104.set_0 | apply IsS104.set_1) | exact HI0.out)); (case side2 => repeat (first | (with_reducible first | exact HB.out | apply below_alloc | apply pw_below_drewN | apply below_drew1 | refine below_set ?_ (IsS104.ge HI0.out)) | exact HB.out)); rintro e w4 ⟨rfl, hi, hb, hk⟩; refine ⟨_, rfl, ?_⟩; have n0_ := aq (KeepBut.trans (stK HK) hk (.inl rfl)); have n1_ := aq (hb); have n2_ := aq (hi); replace HK := n0_; replace HB := n1_; replace HI0 := n2_; clear n0_ n1_ n2_; (try clear hb); (try clear hk); (try clear hi); obtain ⟨HGz5, hgz5⟩ := HI0.out; have k5a := cellS104_0 HGz5; have k5b := cellS104_1 HGz5; obtain ⟨u5a, u5b⟩ := fr2 HGz5; clear HGz5 hgz5))
  go_ret
  exact ⟨eqW, by repeat (first | (with_reducible first | exact HI0.out | apply IsS104.alloc | apply IsS104.drewN | apply IsS104.drew | apply IsS104.set_0 | apply IsS104.set_1) | exact HI0.out), by repeat (first | (with_reducible first | exact HB.out | apply below_alloc | apply pw_below_drewN | apply below_drew1 | refine below_set ?_ (IsS104.ge HI0.out)) | exact HB.out), by repeat (first | (with_reducible first | exact HK.out | apply KeepBut.set_ | apply keep_drewN | apply keep_drew | apply keep_alloc) | exact HK.out)⟩
 ·replace c3 := Bool.eq_false_iff.mpr c3
  subst c3
  rw [if_neg (show ¬ (false = true) by decide)] at H
  replace H := Option.bind_eq_some_iff.mp H
  obtain ⟨t104, A60, H⟩ := H
  try dsimp only at H
  have A6 := aq A60
  clear A60
  simp only [Option.some.injEq, Prod.mk.injEq] at H
  obtain ⟨rfl, rfl, rfl⟩ := H
  go_enter Try.func89, Try.ntmps89
  go_wp2_with (first | ((with_reducible refine gate_callee (f := 87) rfl ?_); refine goesL_ (some 5) rfl rfl Try.func87 (by kernel_rfl) rfl #[.pointer (some ⟨g, 0, none⟩)] rfl fitR ?_; (with_reducible refine (note_scan_int.calls g s0_0 s0_1 t101 t102 false w0 _ ?side1 ?side2 A2.out).mono ?_); (case side1 => repeat (first | (with_reducible first | exact HI0.out | apply IsS104.alloc | apply IsS104.drewN | apply IsS104.drew | apply IsS104.set_0 | apply IsS104.set_1) | exact HI0.out)); (case side2 => repeat (first | (with_reducible first | exact HB.out | apply below_alloc | apply pw_below_drewN | apply below_drew1 | refine below_set ?_ (IsS104.ge HI0.out)) | exact HB.out)); rintro e w7 ⟨rfl, hi, hb, hk⟩; refine ⟨_, rfl, ?_⟩; have n0_ := aq (KeepBut.trans (stK HK) hk (.inl rfl)); have n1_ := aq (hb); have n2_ := aq (hi); replace HK := n0_; replace HB := n1_; replace HI0 := n2_; clear n0_ n1_ n2_; (try clear hb); (try clear hk); (try clear hi); obtain ⟨HGz8, hgz8⟩ := HI0.out; have k8a := cellS104_0 HGz8; have k8b := cellS104_1 HGz8; obtain ⟨u8a, u8b⟩ := fr2 HGz8; clear HGz8 hgz8) | (go_at_call 94; (with_reducible refine (note_within.calls t101 0 1 t104 _ A6.out).mono ?_); rintro e w' ⟨rfl, ⟨nd, rfl⟩⟩; (try (rw [drewN_self w7]; generalize hq_ : World.drewN w7 _ = w7; have n0_ : Aside0 (IsS104 w0 w7 g t102 false) := ⟨by rw [← hq_]; exact (IsS104.st HI0)⟩; have n1_ : Aside0 (KeepBut w w7 g none) := ⟨by rw [← hq_]; exact (stK HK)⟩; have n2_ : Aside0 (Below w0.heap.size w0 w7) := ⟨by rw [← hq_]; exact (IsS104.stH HB)⟩; clear HI0 HK HB hq_; have HI0 := n0_; have HK := n1_; have HB := n2_; clear n0_ n1_ n2_; obtain ⟨HGy, hgy⟩ := HI0.out; have hcy_0 := cellS104_0 HGy; have hcy_1 := cellS104_1 HGy; obtain ⟨hfy_0, hfy_1⟩ := fr2 HGy; clear HGy hgy))))
  go_ret
  exact ⟨eqW, by repeat (first | (with_reducible first | exact HI0.out | apply IsS104.alloc | apply IsS104.drewN | apply IsS104.drew | apply IsS104.set_0 | apply IsS104.set_1) | exact HI0.out), by repeat (first | (with_reducible first | exact HB.out | apply below_alloc | apply pw_below_drewN | apply below_drew1 | refine below_set ?_ (IsS104.ge HI0.out)) | exact HB.out), by repeat (first | (with_reducible first | exact HK.out | apply KeepBut.set_ | apply keep_drewN | apply keep_drew | apply keep_alloc) | exact HK.out)⟩
end Go.Proofs.Ytfjmnaobfbmllaa.M
namespace Go.Proofs.Ytfjmnaobfbmllaa.M
open Go.RowKit Go.Proofs.YtfjmnaobfbmllaaW.PrintWords Go.Proofs.YtfjmnaobfbmllaaW.PrintLast Go.Proofs.YtfjmnaobfbmllaaW.PrintMore
attribute [local go_sem] max2_int min2_int max_two min_two max_three min_three max_four min_four   -- for this text's walks alone
set_option linter.unusedVariables false
set_option linter.unusedSimpArgs false
def note_scan_image.f (s0_0 : ByteArray) (s0_1 : Bool) : Option (Int × (List (S33)) × ByteArray × Bool) := if (s0_0.size : Int) < 240 then (some (0, ([] : List (S33)), s0_0, true)) else (if 0 ≤ 240 then (if 240 ≤ (s0_0.size : Int) then ((slabDec.f (s0_0.extract 0 240)).bind fun bt102 => (if s0_1 = true then (some (bt102.1, bt102.2.1, s0_0.extract 240 s0_0.size, true)) else (some (bt102.1, bt102.2.1, s0_0.extract 240 s0_0.size, (bt102.2.2 != 0))))) else (none)) else (none))
set_option maxHeartbeats 8000000 in
set_option maxRecDepth 100000 in
theorem note_scan_image.calls (g : Nat) (s0_0 : ByteArray) (s0_1 : Bool) (r1 : Int) (r2 : List (S33)) (r3 : ByteArray) (r4 : Bool) (w0 w : World) (hI : IsS104 w0 w g s0_0 s0_1) (hB : Below w0.heap.size w0 w) (h : note_scan_image.f s0_0 s0_1 = some (r1, r2, r3, r4)) :
  Calls Try.prog 90 #[.pointer (some ⟨g, 0, none⟩)] w fun e w' => ∃ v1_ : Value, e = .returned (.agg #[.int .i64 r1, v1_]) ∧ Kd.R k33 33 w' w.heap.size (fun _ => True) v1_ r2 ∧ IsS104 w0 w' g r3 r4 ∧ Below w0.heap.size w0 w' ∧ KeepBut w w' g none := by
 have hu24 := Try.underlying24
 have HI0 := aq hI
 have HK := aq (KeepBut.refl w g none)
 have HL := aq hB.size
 clear hI
 have HW0 := aq hB.size
 have HB := aq hB
 clear hB
 have H : (if (s0_0.size : Int) < 240 then (some (0, ([] : List (S33)), s0_0, true)) else (if 0 ≤ 240 then (if 240 ≤ (s0_0.size : Int) then ((slabDec.f (s0_0.extract 0 240)).bind fun bt102 => (if s0_1 = true then (some (bt102.1, bt102.2.1, s0_0.extract 240 s0_0.size, true)) else (some (bt102.1, bt102.2.1, s0_0.extract 240 s0_0.size, (bt102.2.2 != 0))))) else (none)) else (none))) = some (r1, r2, r3, r4) := h
 clear h
 by_cases c2 : (s0_0.size : Int) < 240
 ·rw [if_pos c2] at H
  have c2b0 : decide ((s0_0.size : Int) < 240) = true := decide_eq_true c2
  have c2b1 : decide (s0_0.size < 240) = true := decide_eq_true (by omega)
  clear c2
  simp only [Option.some.injEq, Prod.mk.injEq] at H
  obtain ⟨rfl, rfl, rfl, rfl⟩ := H
  go_enter Try.func90, Try.ntmps90
  go_wp2_with (first | ((with_reducible refine gate_dst (N := 2) rfl ?_); refine box_event ?hg (N := 2) ?hd (cs := #[.int .i64 0, .slice none 0 0]) (t := 24) ?hr ?_; (case hd => rfl); (case hg => rfl); (case hr => first | (go_simp; done) | (go_simp; rfl)); intro gb101 hg w3 hbox hb; have n0_ := aq (IsS104.below (IsS104.st HI0) hb); have n1_ := aq (KeepBut.trans (stK HK) (KeepBut.of_below hb g none) (.inl rfl)); have n2_ := aq (below_step (IsS104.stH HB) hb); have n3_ := aq (hbox); have n4_ := aq ((by rw [hg]; exact (keep_size (w := w) (g := g) (row := none) (stK HK)) : w.heap.size ≤ gb101)); have n5_ := aq ((Nat.le_trans HW0.out (by rw [hg]; exact (keep_size (w := w) (g := g) (row := none) (stK HK)) : w.heap.size ≤ gb101) : w0.heap.size ≤ gb101)); have n6_ := aq ((by rw [hg]; exact Nat.ne_of_lt (IsS104.lt (show IsS104 w0 _ g s0_0 s0_1 from by repeat (first | (with_reducible first | exact HI0.out | apply IsS104.alloc | apply IsS104.drewN | apply IsS104.drew | apply IsS104.set_0 | apply IsS104.set_1) | exact HI0.out))) : g ≠ gb101)); have n7_ := aq ((by rw [hg]; exact Nat.ne_of_gt (IsS104.lt (show IsS104 w0 _ g s0_0 s0_1 from by repeat (first | (with_reducible first | exact HI0.out | apply IsS104.alloc | apply IsS104.drewN | apply IsS104.drew | apply IsS104.set_0 | apply IsS104.set_1) | exact HI0.out))) : gb101 ≠ g)); replace HI0 := n0_; replace HK := n1_; replace HB := n2_; have BK101 := n3_; have GW101 := n4_; have GE101 := n5_; have NB0_101 := n6_; have NB101_0 := n7_; clear n0_ n1_ n2_ n3_ n4_ n5_ n6_ n7_; clear hb hbox hg; obtain ⟨HGz4, hgz4⟩ := HI0.out; have k4a := cellS104_0 HGz4; have k4b := cellS104_1 HGz4; obtain ⟨u4a, u4b⟩ := fr2 HGz4; clear HGz4 hgz4; have hnb5 := NB101_0.out; have hnc5 := NB0_101.out; obtain ⟨k6a, k6b⟩ := cl2 (W := w3) BK101.out; obtain ⟨u6a, u6b⟩ := fr2 BK101.out))
  refine bodyPost_ret (results_cell_row rfl _ _ gb101 24 #[.int .i64 0, .slice none 0 0] (0, 0) _ rfl (by (with_reducible repeat (first | refine blk_drewN ?_ _ | refine blk_drew ?_ | refine blk_alloc ?_ _)); refine blk_put (cs := #[.int .i64 0, .slice none 0 0]) ?_ 1 _ rfl; (with_reducible repeat (first | refine blk_drewN ?_ _ | refine blk_drew ?_ | refine blk_alloc ?_ _)); refine blk_put (cs := #[.int .i64 0, .slice none 0 0]) ?_ 0 _ rfl; (with_reducible repeat (first | refine blk_drewN ?_ _ | refine blk_drew ?_ | refine blk_alloc ?_ _)); refine blk_far ?_ NB101_0.out _; (with_reducible repeat (first | refine blk_drewN ?_ _ | refine blk_drew ?_ | refine blk_alloc ?_ _)); exact BK101.out) Try.underlying24 rfl (by kernel_rfl)) rfl ?_
  exact ⟨_, eqW, by first | exact Kd.R_nil _ _ _ _ _ | exact Kd.N_nil _ _ _ _ _ | exact Kd.V_nil _ _ _ _ _ | exact Kd.Q_nil _ _ _ _ _ | exact Kd.S_nil _ _ _ _ _, by repeat (first | (with_reducible first | exact HI0.out | apply IsS104.alloc | apply IsS104.drewN | apply IsS104.drew | apply IsS104.set_0 | apply IsS104.set_1 | refine IsS104.far ?_ NB0_101.out _) | exact HI0.out), by repeat (first | (with_reducible first | exact HB.out | apply below_alloc | apply pw_below_drewN | apply below_drew1 | refine below_set ?_ (IsS104.ge HI0.out) | refine below_set ?_ GE101.out) | exact HB.out), by repeat (first | (with_reducible first | exact HK.out | apply KeepBut.set_ | apply keep_drewN | apply keep_drew | apply keep_alloc | refine keep_far ?_ GW101.out _) | exact HK.out)⟩
 ·rw [if_neg c2] at H
  have c2b0 : decide ((s0_0.size : Int) < 240) = false := decide_eq_false c2
  have c2b1 : decide (s0_0.size < 240) = false := decide_eq_false (by omega)
  clear c2
  by_cases c7 : 0 ≤ 240
  ·rw [if_pos c7] at H
   have c7b0 := eq_true c7
   have c7b1 : decide (0 ≤ 240) = true := decide_eq_true c7
   clear c7
   by_cases c8 : 240 ≤ (s0_0.size : Int)
   ·rw [if_pos c8] at H
    have c8b0 := eq_true c8
    have c8b1 : decide (240 ≤ (s0_0.size : Int)) = true := decide_eq_true c8
    clear c8
    replace H := Option.bind_eq_some_iff.mp H
    obtain ⟨⟨t102, t103, t106⟩, A90, H⟩ := H
    try dsimp only at H
    have A9 := aq A90
    clear A90
    have c10b0 := eq_true (of_decide_eq_true (by first | (with_reducible assumption) | assumption) : 240 ≤ (s0_0.size : Int))
    by_cases c11 : s0_1 = true
    ·subst c11
     rw [if_pos rfl] at H
     simp only [Option.some.injEq, Prod.mk.injEq] at H
     obtain ⟨rfl, rfl, rfl, rfl⟩ := H
     go_enter Try.func90, Try.ntmps90
     go_upto_region 5 with (first | ((with_reducible refine gate_dst (N := 2) rfl ?_); refine box_event ?hg (N := 2) ?hd (cs := #[.int .i64 0, .slice none 0 0]) (t := 24) ?hr ?_; (case hd => rfl); (case hg => rfl); (case hr => first | (go_simp; done) | (go_simp; rfl)); intro gb101 hg w12 hbox hb; have n0_ := aq (IsS104.below (IsS104.st HI0) hb); have n1_ := aq (KeepBut.trans (stK HK) (KeepBut.of_below hb g none) (.inl rfl)); have n2_ := aq (below_step (IsS104.stH HB) hb); have n3_ := aq (hbox); have n4_ := aq ((by rw [hg]; exact (keep_size (w := w) (g := g) (row := none) (stK HK)) : w.heap.size ≤ gb101)); have n5_ := aq ((Nat.le_trans HW0.out (by rw [hg]; exact (keep_size (w := w) (g := g) (row := none) (stK HK)) : w.heap.size ≤ gb101) : w0.heap.size ≤ gb101)); have n6_ := aq ((by rw [hg]; exact Nat.ne_of_lt (IsS104.lt (show IsS104 w0 _ g s0_0 true from by repeat (first | (with_reducible first | exact HI0.out | apply IsS104.alloc | apply IsS104.drewN | apply IsS104.drew | apply IsS104.set_0 | apply IsS104.set_1) | exact HI0.out))) : g ≠ gb101)); have n7_ := aq ((by rw [hg]; exact Nat.ne_of_gt (IsS104.lt (show IsS104 w0 _ g s0_0 true from by repeat (first | (with_reducible first | exact HI0.out | apply IsS104.alloc | apply IsS104.drewN | apply IsS104.drew | apply IsS104.set_0 | apply IsS104.set_1) | exact HI0.out))) : gb101 ≠ g)); replace HI0 := n0_; replace HK := n1_; replace HB := n2_; have BK101 := n3_; have GW101 := n4_; have GE101 := n5_; have NB0_101 := n6_; have NB101_0 := n7_; clear n0_ n1_ n2_ n3_ n4_ n5_ n6_ n7_; clear hb hbox hg; obtain ⟨HGz13, hgz13⟩ := HI0.out; have k13a := cellS104_0 HGz13; have k13b := cellS104_1 HGz13; obtain ⟨u13a, u13b⟩ := fr2 HGz13; clear HGz13 hgz13) | ((with_reducible refine gate_callee (f := 73) rfl ?_); refine goesL_ (some 21) rfl rfl Try.func73 (by kernel_rfl) rfl #[.string (s0_0.extract 0 240)] rfl fitR ?_; (with_reducible refine (slabDec.calls (s0_0.extract 0 240) t102 t103 t106 _ A9.out).mono ?_); rintro e w14 ⟨v104, rfl, ho0, hb⟩; refine ⟨_, rfl, ?_⟩; have n0_ := aq (Kd.R_lower ho0 (keep_size (w := w) (g := g) (row := none) (stK HK))); have n1_ := aq (IsS104.below (IsS104.st HI0) hb); have n2_ := aq (blk_below (stB BK101) hb); have n3_ := aq (KeepBut.trans (stK HK) (KeepBut.of_below hb g none) (.inl rfl)); have n4_ := aq (below_step (IsS104.stH HB) hb); have HO105 := n0_; replace HI0 := n1_; replace BK101 := n2_; replace HK := n3_; replace HB := n4_; clear n0_ n1_ n2_ n3_ n4_; (try clear hb); (try clear ho0)) | ((with_reducible refine gate_dst (N := 3) rfl ?_); refine box_event ?hg (N := 3) ?hd (cs := #[.int .i64 0, .slice none 0 0]) (t := 24) ?hr ?_; (case hd => rfl); (case hg => rfl); (case hr => first | (go_simp; done) | (go_simp; rfl)); intro gb107 hg w15 hbox hb; have n0_ := aq (Kd.R_below (by (with_reducible repeat (first | apply Kd.R_alloc | apply Kd.R_drewN | apply Kd.R_drew)); exact HO105.out) hb); have n1_ := aq (IsS104.below (IsS104.st HI0) hb); have n2_ := aq (blk_below (stB BK101) hb); have n3_ := aq (KeepBut.trans (stK HK) (KeepBut.of_below hb g none) (.inl rfl)); have n4_ := aq (below_step (IsS104.stH HB) hb); have n5_ := aq (hbox); have n6_ := aq ((by rw [hg]; exact (keep_size (w := w) (g := g) (row := none) (stK HK)) : w.heap.size ≤ gb107)); have n7_ := aq ((Nat.le_trans HW0.out (by rw [hg]; exact (keep_size (w := w) (g := g) (row := none) (stK HK)) : w.heap.size ≤ gb107) : w0.heap.size ≤ gb107)); have n8_ := aq ((by rw [hg]; exact Nat.ne_of_lt (blk_lt (stB BK101)) : gb101 ≠ gb107)); have n9_ := aq ((by rw [hg]; exact Nat.ne_of_gt (blk_lt (stB BK101)) : gb107 ≠ gb101)); have n10_ := aq ((by rw [hg]; exact Nat.ne_of_lt (IsS104.lt (show IsS104 w0 _ g s0_0 true from by repeat (first | (with_reducible first | exact HI0.out | apply IsS104.alloc | apply IsS104.drewN | apply IsS104.drew | apply IsS104.set_0 | apply IsS104.set_1 | refine IsS104.far ?_ NB0_101.out _) | exact HI0.out))) : g ≠ gb107)); have n11_ := aq ((by rw [hg]; exact Nat.ne_of_gt (IsS104.lt (show IsS104 w0 _ g s0_0 true from by repeat (first | (with_reducible first | exact HI0.out | apply IsS104.alloc | apply IsS104.drewN | apply IsS104.drew | apply IsS104.set_0 | apply IsS104.set_1 | refine IsS104.far ?_ NB0_101.out _) | exact HI0.out))) : gb107 ≠ g)); replace HO105 := n0_; replace HI0 := n1_; replace BK101 := n2_; replace HK := n3_; replace HB := n4_; have BK107 := n5_; have GW107 := n6_; have GE107 := n7_; have NB101_107 := n8_; have NB107_101 := n9_; have NB0_107 := n10_; have NB107_0 := n11_; clear n0_ n1_ n2_ n3_ n4_ n5_ n6_ n7_ n8_ n9_ n10_ n11_; clear hb hbox hg; have hnb16 := NB107_101.out; have hnc16 := NB101_107.out; have hnb17 := NB107_0.out; have hnc17 := NB0_107.out; obtain ⟨k18a, k18b⟩ := cl2 (W := w15) BK107.out; obtain ⟨u18a, u18b⟩ := fr2 BK107.out; obtain ⟨Ao19, co19, eo19⟩ := Kd.R_slice HO105.out; subst eo19; obtain ⟨HGz20, hgz20⟩ := HI0.out; have k20a := cellS104_0 HGz20; have k20b := cellS104_1 HGz20; obtain ⟨u20a, u20b⟩ := fr2 HGz20; clear HGz20 hgz20; have hnb21 := NB101_0.out; have hnc21 := NB0_101.out; obtain ⟨k22a, k22b⟩ := cl2 (W := w15) BK101.out; obtain ⟨u22a, u22b⟩ := fr2 BK101.out))
     go_region
     go_wp2
     refine bodyPost_ret (results_cell_row rfl _ _ gb101 24 #[.int .i64 t102, .slice Ao19 t103.length co19] (0, 0) _ rfl (by (with_reducible repeat (first | refine blk_drewN ?_ _ | refine blk_drew ?_ | refine blk_alloc ?_ _)); refine blk_put (cs := #[.int .i64 t102, .slice none 0 0]) ?_ 1 _ rfl; (with_reducible repeat (first | refine blk_drewN ?_ _ | refine blk_drew ?_ | refine blk_alloc ?_ _)); refine blk_put (cs := #[.int .i64 0, .slice none 0 0]) ?_ 0 _ rfl; (with_reducible repeat (first | refine blk_drewN ?_ _ | refine blk_drew ?_ | refine blk_alloc ?_ _)); refine blk_far ?_ NB101_0.out _; (with_reducible repeat (first | refine blk_drewN ?_ _ | refine blk_drew ?_ | refine blk_alloc ?_ _)); refine blk_far ?_ NB101_0.out _; (with_reducible repeat (first | refine blk_drewN ?_ _ | refine blk_drew ?_ | refine blk_alloc ?_ _)); refine blk_far ?_ NB101_107.out _; (with_reducible repeat (first | refine blk_drewN ?_ _ | refine blk_drew ?_ | refine blk_alloc ?_ _)); refine blk_far ?_ NB101_107.out _; (with_reducible repeat (first | refine blk_drewN ?_ _ | refine blk_drew ?_ | refine blk_alloc ?_ _)); exact BK101.out) Try.underlying24 rfl (by kernel_rfl)) rfl ?_
     exact ⟨_, eqW, by (with_reducible repeat (first | apply Kd.R_alloc | apply Kd.R_drewN | apply Kd.R_drew)); exact Kd.R_mono (Kd.R_far (p := ⟨gb101, 1, none⟩) (Kd.R_far (p := ⟨gb101, 0, none⟩) (Kd.R_drew (Kd.R_far (p := ⟨g, 1, none⟩) (Kd.R_far (p := ⟨g, 0, none⟩) (Kd.R_far (p := ⟨gb107, 1, none⟩) (Kd.R_far (p := ⟨gb107, 0, none⟩) (Kd.R_types (IsS104.apart HI0.out (Kd.R_types HO105.out BK107.out (by decide)) (by decide)) BK101.out (by decide)) (fun _ hk => hk.1.1.2) (.int .i64 t102)) (fun _ hk => hk.1.1.2) (.slice Ao19 t103.length co19)) (fun _ hk => hk.1.2) (.string (s0_0.extract 240 s0_0.size))) (fun _ hk => hk.1.2) (.bool true))) (fun _ hk => hk.2) (.int .i64 t102)) (fun _ hk => hk.2) (.slice Ao19 t103.length co19)) (fun _ hk => trivial), by repeat (first | (with_reducible first | exact HI0.out | apply IsS104.alloc | apply IsS104.drewN | apply IsS104.drew | refine IsS104.set_0 (f0 := s0_0) ?_ _ | refine IsS104.set_1 (f1 := true) ?_ _ | refine IsS104.far ?_ NB0_101.out _ | refine IsS104.far ?_ NB0_107.out _) | exact HI0.out), by repeat (first | (with_reducible first | exact HB.out | apply below_alloc | apply pw_below_drewN | apply below_drew1 | refine below_set ?_ (IsS104.ge HI0.out) | refine below_set ?_ GE101.out | refine below_set ?_ GE107.out) | exact HB.out), by repeat (first | (with_reducible first | exact HK.out | apply KeepBut.set_ | apply keep_drewN | apply keep_drew | apply keep_alloc | refine keep_far ?_ GW101.out _ | refine keep_far ?_ GW107.out _) | exact HK.out)⟩
    ·replace c11 := Bool.eq_false_iff.mpr c11
     subst c11
     rw [if_neg (show ¬ (false = true) by decide)] at H
     simp only [Option.some.injEq, Prod.mk.injEq] at H
     obtain ⟨rfl, rfl, rfl, rfl⟩ := H
     go_enter Try.func90, Try.ntmps90
     go_upto_region 5 with (first | ((with_reducible refine gate_dst (N := 2) rfl ?_); refine box_event ?hg (N := 2) ?hd (cs := #[.int .i64 0, .slice none 0 0]) (t := 24) ?hr ?_; (case hd => rfl); (case hg => rfl); (case hr => first | (go_simp; done) | (go_simp; rfl)); intro gb101 hg w23 hbox hb; have n0_ := aq (IsS104.below (IsS104.st HI0) hb); have n1_ := aq (KeepBut.trans (stK HK) (KeepBut.of_below hb g none) (.inl rfl)); have n2_ := aq (below_step (IsS104.stH HB) hb); have n3_ := aq (hbox); have n4_ := aq ((by rw [hg]; exact (keep_size (w := w) (g := g) (row := none) (stK HK)) : w.heap.size ≤ gb101)); have n5_ := aq ((Nat.le_trans HW0.out (by rw [hg]; exact (keep_size (w := w) (g := g) (row := none) (stK HK)) : w.heap.size ≤ gb101) : w0.heap.size ≤ gb101)); have n6_ := aq ((by rw [hg]; exact Nat.ne_of_lt (IsS104.lt (show IsS104 w0 _ g s0_0 false from by repeat (first | (with_reducible first | exact HI0.out | apply IsS104.alloc | apply IsS104.drewN | apply IsS104.drew | apply IsS104.set_0 | apply IsS104.set_1) | exact HI0.out))) : g ≠ gb101)); have n7_ := aq ((by rw [hg]; exact Nat.ne_of_gt (IsS104.lt (show IsS104 w0 _ g s0_0 false from by repeat (first | (with_reducible first | exact HI0.out | apply IsS104.alloc | apply IsS104.drewN | apply IsS104.drew | apply IsS104.set_0 | apply IsS104.set_1) | exact HI0.out))) : gb101 ≠ g)); replace HI0 := n0_; replace HK := n1_; replace HB := n2_; have BK101 := n3_; have GW101 := n4_; have GE101 := n5_; have NB0_101 := n6_; have NB101_0 := n7_; clear n0_ n1_ n2_ n3_ n4_ n5_ n6_ n7_; clear hb hbox hg; obtain ⟨HGz24, hgz24⟩ := HI0.out; have k24a := cellS104_0 HGz24; have k24b := cellS104_1 HGz24; obtain ⟨u24a, u24b⟩ := fr2 HGz24; clear HGz24 hgz24) | ((with_reducible refine gate_callee (f := 73) rfl ?_); refine goesL_ (some 21) rfl rfl Try.func73 (by kernel_rfl) rfl #[.string (s0_0.extract 0 240)] rfl fitR ?_; (with_reducible refine (slabDec.calls (s0_0.extract 0 240) t102 t103 t106 _ A9.out).mono ?_); rintro e w25 ⟨v104, rfl, ho0, hb⟩; refine ⟨_, rfl, ?_⟩; have n0_ := aq (Kd.R_lower ho0 (keep_size (w := w) (g := g) (row := none) (stK HK))); have n1_ := aq (IsS104.below (IsS104.st HI0) hb); have n2_ := aq (blk_below (stB BK101) hb); have n3_ := aq (KeepBut.trans (stK HK) (KeepBut.of_below hb g none) (.inl rfl)); have n4_ := aq (below_step (IsS104.stH HB) hb); have HO105 := n0_; replace HI0 := n1_; replace BK101 := n2_; replace HK := n3_; replace HB := n4_; clear n0_ n1_ n2_ n3_ n4_; (try clear hb); (try clear ho0)) | ((with_reducible refine gate_dst (N := 3) rfl ?_); refine box_event ?hg (N := 3) ?hd (cs := #[.int .i64 0, .slice none 0 0]) (t := 24) ?hr ?_; (case hd => rfl); (case hg => rfl); (case hr => first | (go_simp; done) | (go_simp; rfl)); intro gb107 hg w26 hbox hb; have n0_ := aq (Kd.R_below (by (with_reducible repeat (first | apply Kd.R_alloc | apply Kd.R_drewN | apply Kd.R_drew)); exact HO105.out) hb); have n1_ := aq (IsS104.below (IsS104.st HI0) hb); have n2_ := aq (blk_below (stB BK101) hb); have n3_ := aq (KeepBut.trans (stK HK) (KeepBut.of_below hb g none) (.inl rfl)); have n4_ := aq (below_step (IsS104.stH HB) hb); have n5_ := aq (hbox); have n6_ := aq ((by rw [hg]; exact (keep_size (w := w) (g := g) (row := none) (stK HK)) : w.heap.size ≤ gb107)); have n7_ := aq ((Nat.le_trans HW0.out (by rw [hg]; exact (keep_size (w := w) (g := g) (row := none) (stK HK)) : w.heap.size ≤ gb107) : w0.heap.size ≤ gb107)); have n8_ := aq ((by rw [hg]; exact Nat.ne_of_lt (blk_lt (stB BK101)) : gb101 ≠ gb107)); have n9_ := aq ((by rw [hg]; exact Nat.ne_of_gt (blk_lt (stB BK101)) : gb107 ≠ gb101)); have n10_ := aq ((by rw [hg]; exact Nat.ne_of_lt (IsS104.lt (show IsS104 w0 _ g s0_0 false from by repeat (first | (with_reducible first | exact HI0.out | apply IsS104.alloc | apply IsS104.drewN | apply IsS104.drew | apply IsS104.set_0 | apply IsS104.set_1 | refine IsS104.far ?_ NB0_101.out _) | exact HI0.out))) : g ≠ gb107)); have n11_ := aq ((by rw [hg]; exact Nat.ne_of_gt (IsS104.lt (show IsS104 w0 _ g s0_0 false from by repeat (first | (with_reducible first | exact HI0.out | apply IsS104.alloc | apply IsS104.drewN | apply IsS104.drew | apply IsS104.set_0 | apply IsS104.set_1 | refine IsS104.far ?_ NB0_101.out _) | exact HI0.out))) : gb107 ≠ g)); replace HO105 := n0_; replace HI0 := n1_; replace BK101 := n2_; replace HK := n3_; replace HB := n4_; have BK107 := n5_; have GW107 := n6_; have GE107 := n7_; have NB101_107 := n8_; have NB107_101 := n9_; have NB0_107 := n10_; have NB107_0 := n11_; clear n0_ n1_ n2_ n3_ n4_ n5_ n6_ n7_ n8_ n9_ n10_ n11_; clear hb hbox hg; have hnb27 := NB107_101.out; have hnc27 := NB101_107.out; have hnb28 := NB107_0.out; have hnc28 := NB0_107.out; obtain ⟨k29a, k29b⟩ := cl2 (W := w26) BK107.out; obtain ⟨u29a, u29b⟩ := fr2 BK107.out; obtain ⟨Ao30, co30, eo30⟩ := Kd.R_slice HO105.out; subst eo30; obtain ⟨HGz31, hgz31⟩ := HI0.out; have k31a := cellS104_0 HGz31; have k31b := cellS104_1 HGz31; obtain ⟨u31a, u31b⟩ := fr2 HGz31; clear HGz31 hgz31; have hnb32 := NB101_0.out; have hnc32 := NB0_101.out; obtain ⟨k33a, k33b⟩ := cl2 (W := w26) BK101.out; obtain ⟨u33a, u33b⟩ := fr2 BK101.out))
     go_region
     go_wp2
     refine bodyPost_ret (results_cell_row rfl _ _ gb101 24 #[.int .i64 t102, .slice Ao30 t103.length co30] (0, 0) _ rfl (by (with_reducible repeat (first | refine blk_drewN ?_ _ | refine blk_drew ?_ | refine blk_alloc ?_ _)); refine blk_put (cs := #[.int .i64 t102, .slice none 0 0]) ?_ 1 _ rfl; (with_reducible repeat (first | refine blk_drewN ?_ _ | refine blk_drew ?_ | refine blk_alloc ?_ _)); refine blk_put (cs := #[.int .i64 0, .slice none 0 0]) ?_ 0 _ rfl; (with_reducible repeat (first | refine blk_drewN ?_ _ | refine blk_drew ?_ | refine blk_alloc ?_ _)); refine blk_far ?_ NB101_0.out _; (with_reducible repeat (first | refine blk_drewN ?_ _ | refine blk_drew ?_ | refine blk_alloc ?_ _)); refine blk_far ?_ NB101_0.out _; (with_reducible repeat (first | refine blk_drewN ?_ _ | refine blk_drew ?_ | refine blk_alloc ?_ _)); refine blk_far ?_ NB101_107.out _; (with_reducible repeat (first | refine blk_drewN ?_ _ | refine blk_drew ?_ | refine blk_alloc ?_ _)); refine blk_far ?_ NB101_107.out _; (with_reducible repeat (first | refine blk_drewN ?_ _ | refine blk_drew ?_ | refine blk_alloc ?_ _)); exact BK101.out) Try.underlying24 rfl (by kernel_rfl)) rfl ?_
     exact ⟨_, eqW, by (with_reducible repeat (first | apply Kd.R_alloc | apply Kd.R_drewN | apply Kd.R_drew)); exact Kd.R_mono (Kd.R_far (p := ⟨gb101, 1, none⟩) (Kd.R_far (p := ⟨gb101, 0, none⟩) (Kd.R_drew (Kd.R_far (p := ⟨g, 1, none⟩) (Kd.R_far (p := ⟨g, 0, none⟩) (Kd.R_far (p := ⟨gb107, 1, none⟩) (Kd.R_far (p := ⟨gb107, 0, none⟩) (Kd.R_types (IsS104.apart HI0.out (Kd.R_types HO105.out BK107.out (by decide)) (by decide)) BK101.out (by decide)) (fun _ hk => hk.1.1.2) (.int .i64 t102)) (fun _ hk => hk.1.1.2) (.slice Ao30 t103.length co30)) (fun _ hk => hk.1.2) (.string (s0_0.extract 240 s0_0.size))) (fun _ hk => hk.1.2) (.bool (t106 != 0)))) (fun _ hk => hk.2) (.int .i64 t102)) (fun _ hk => hk.2) (.slice Ao30 t103.length co30)) (fun _ hk => trivial), by repeat (first | (with_reducible first | exact HI0.out | apply IsS104.alloc | apply IsS104.drewN | apply IsS104.drew | refine IsS104.set_0 (f0 := s0_0) ?_ _ | refine IsS104.set_1 (f1 := false) ?_ _ | refine IsS104.far ?_ NB0_101.out _ | refine IsS104.far ?_ NB0_107.out _) | exact HI0.out), by repeat (first | (with_reducible first | exact HB.out | apply below_alloc | apply pw_below_drewN | apply below_drew1 | refine below_set ?_ (IsS104.ge HI0.out) | refine below_set ?_ GE101.out | refine below_set ?_ GE107.out) | exact HB.out), by repeat (first | (with_reducible first | exact HK.out | apply KeepBut.set_ | apply keep_drewN | apply keep_drew | apply keep_alloc | refine keep_far ?_ GW101.out _ | refine keep_far ?_ GW107.out _) | exact HK.out)⟩
   ·rw [if_neg c8] at H
    exact absurd H (by simp)
  ·rw [if_neg c7] at H
   exact absurd H (by simp)
end Go.Proofs.Ytfjmnaobfbmllaa.M
namespace Go.Proofs.Ytfjmnaobfbmllaa.M
open Go.RowKit Go.Proofs.YtfjmnaobfbmllaaW.PrintWords Go.Proofs.YtfjmnaobfbmllaaW.PrintLast Go.Proofs.YtfjmnaobfbmllaaW.PrintMore
theorem rfar13 {α : Type} {d : Kd α} {e : TypeId} {W : World} {base : Nat} {ok : Nat → Prop} {v : Value} {xs : List α} {g : Nat} (h : d.R e W base ok v xs) (hok : ∀ k, ok k → k ≠ g) (b0 b1 b2 b3 b4 b5 b6 b7 b8 b9 b10 b11 b12 : Value) : d.R e (((((((((((((W.setCell ⟨g, 0, none⟩ b0).setCell ⟨g, 1, none⟩ b1).setCell ⟨g, 2, none⟩ b2).setCell ⟨g, 3, none⟩ b3).setCell ⟨g, 4, none⟩ b4).setCell ⟨g, 5, none⟩ b5).setCell ⟨g, 6, none⟩ b6).setCell ⟨g, 7, none⟩ b7).setCell ⟨g, 8, none⟩ b8).setCell ⟨g, 9, none⟩ b9).setCell ⟨g, 10, none⟩ b10).setCell ⟨g, 11, none⟩ b11).setCell ⟨g, 12, none⟩ b12) base ok v xs :=
  (Kd.R_far (p := ⟨g, 12, none⟩) (Kd.R_far (p := ⟨g, 11, none⟩) (Kd.R_far (p := ⟨g, 10, none⟩) (Kd.R_far (p := ⟨g, 9, none⟩) (Kd.R_far (p := ⟨g, 8, none⟩) (Kd.R_far (p := ⟨g, 7, none⟩) (Kd.R_far (p := ⟨g, 6, none⟩) (Kd.R_far (p := ⟨g, 5, none⟩) (Kd.R_far (p := ⟨g, 4, none⟩) (Kd.R_far (p := ⟨g, 3, none⟩) (Kd.R_far (p := ⟨g, 2, none⟩) (Kd.R_far (p := ⟨g, 1, none⟩) (Kd.R_far (p := ⟨g, 0, none⟩) h hok b0) hok b1) hok b2) hok b3) hok b4) hok b5) hok b6) hok b7) hok b8) hok b9) hok b10) hok b11) hok b12)
end Go.Proofs.Ytfjmnaobfbmllaa.M
