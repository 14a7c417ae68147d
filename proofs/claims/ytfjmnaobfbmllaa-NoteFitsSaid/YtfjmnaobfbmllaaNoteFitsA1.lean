/- The law NoteFits: it returns true for every input, and its arguments read as they did. No condition. Part 2 of 4. -/
import Derived.Test.YtfjmnaobfbmllaaProg
import Derived.Test.YtfjmnaobfbmllaaRows
import Derived.Test.YtfjmnaobfbmllaaUApart
import Derived.Test.YtfjmnaobfbmllaaUEqStruct
import Derived.Test.YtfjmnaobfbmllaaUFoot
import Derived.Test.YtfjmnaobfbmllaaUGuard
import Derived.Test.YtfjmnaobfbmllaaUInv
import Derived.Test.YtfjmnaobfbmllaaUKept
import Derived.Test.YtfjmnaobfbmllaaULast
import Derived.Test.YtfjmnaobfbmllaaUMore
import Derived.Test.YtfjmnaobfbmllaaUN
import Derived.Test.YtfjmnaobfbmllaaURepsOne
import Derived.Test.YtfjmnaobfbmllaaUShare
import Derived.Test.YtfjmnaobfbmllaaUTab
import Derived.Test.YtfjmnaobfbmllaaUWords
import Derived.ArgAppend
import Derived.Below
import Derived.BigQuiet
import Derived.Carry
import Derived.ChangeArms
import Derived.ChangeMaps
import Derived.ChangeOld
import Derived.Deep.AppendLies
import Derived.Deep.CutBlock
import Derived.Deep.DeepCutAuto
import Derived.Deep.Draws
import Derived.Deep.LoopGhost
import Derived.Deep.OwnRows
import Derived.Deep.QuietTactic
import Derived.Deep.RegionHeld3
import Derived.Deep.Slices
import Derived.KernelRfl
import Derived.Laws.Bits64
import Derived.Laws.Bits64b
import Derived.Laws.BitsAllLaws
import Derived.Laws.BitsLemmas
import Derived.Laws.BytesArg
import Derived.Laws.CopyOwn
import Derived.Laws.IdiomCopy
import Derived.Laws.MakeOwn
import Derived.Laws.OwnMore
import Derived.Laws.Rows
import Derived.Laws.Slices
import Derived.Lib.AppendStr
import Derived.Lib.ConvBytes
import Derived.Maps.AppendAt
import Derived.OpenShut
import Derived.OrdersHeld
import Derived.OwnWalk
import Derived.ProofKit
import Derived.RowKit
import Derived.RowKit3
import Derived.ShutString
import Derived.SizedLaws
import Derived.Tactics
import Derived.WalkKit
import Derived.WideLaws
import Derived.Test.YtfjmnaobfbmllaaNoteFitsA0
namespace Go.Proofs.Ytfjmnaobfbmllaa.M
open Go.RowKit Go.Proofs.YtfjmnaobfbmllaaW.PrintWords Go.Proofs.YtfjmnaobfbmllaaW.PrintLast Go.Proofs.YtfjmnaobfbmllaaW.PrintMore
set_option linter.unusedVariables false
set_option linter.unusedSimpArgs false
theorem hiL_succ (n : Nat) (a : Int) : hiL (n + 1) a = hiL n (a / 256) ++ [a % 256] := by
  unfold hiL
  rw [List.range_succ, List.map_append]
  congr 1
  · apply List.map_congr_left
    intro i hi
    rw [List.mem_range] at hi
    have e : 8 * (n + 1 - 1 - i) = 8 + 8 * (n - 1 - i) := by omega
    rw [e, Int.pow_add, ← Int.ediv_ediv_of_nonneg (by decide)]
    rfl
  · simp
theorem getN_hiL (n : Nat) (a : Int) : getN (hiL n a) = a % 256 ^ n := by
  induction n generalizing a with
  | zero => simp [hiL, getN, Int.emod_one]
  | succ n ih =>
    rw [hiL_succ, getN_snoc, ih, Int.pow_succ]
    have hM : (0 : Int) < 256 ^ n := Int.pow_pos (by decide)
    generalize (256 : Int) ^ n = M at *
    have h1 := Int.emod_add_mul_ediv (a / 256) M
    have h2 := Int.emod_nonneg (a / 256) (by omega : M ≠ 0)
    have h3 := Int.emod_lt_of_pos (a / 256) hM
    generalize a / 256 % M = t at *
    generalize a / 256 / M = k at *
    have e : a = (t * 256 + a % 256) + M * 256 * k := by
      rw [Int.mul_assoc, Int.mul_comm 256 k, ← Int.mul_assoc]; omega
    have h4 : a % (M * 256) = (t * 256 + a % 256 + M * 256 * k) % (M * 256) := congrArg (· % (M * 256)) e
    rw [h4, Int.add_mul_emod_self_left]
    exact (Int.emod_eq_of_lt (by omega) (by omega)).symm
end Go.Proofs.Ytfjmnaobfbmllaa.M
namespace Go.Proofs.Ytfjmnaobfbmllaa.M
open Go.RowKit Go.Proofs.YtfjmnaobfbmllaaW.PrintWords Go.Proofs.YtfjmnaobfbmllaaW.PrintLast Go.Proofs.YtfjmnaobfbmllaaW.PrintMore
set_option linter.unusedVariables false
set_option linter.unusedSimpArgs false
def varF : Nat → Nat → List Int
  | 0, u => [(u : Int)]
  | k + 1, u => if u < 128 then [(u : Int)] else ((u % 128 + 128 : Nat) : Int) :: varF k (u / 128)
def foldI (n : Int) : Nat := if n < 0 then 2 * (-(n + 1)).toNat + 1 else 2 * n.toNat
def unfoldI (u : Nat) : Int := if u % 2 = 1 then -((u / 2 : Nat) : Int) - 1 else ((u / 2 : Nat) : Int)
def intB (n : Int) : List Int := varF 10 (foldI n)
theorem unfold_fold (n : Int) : unfoldI (foldI n) = n := by
  unfold unfoldI foldI
  split <;> split <;> omega
theorem fold_unfold (u : Nat) : foldI (unfoldI u) = u := by
  unfold unfoldI foldI
  split <;> split <;> omega
def takeV : Nat → Nat → List Int → Option (Nat × List Int)
  | _, _, [] => none
  | i, u, b :: bs => if 10 ≤ i then none else if b < 128 then (if (i = 9 ∧ 1 < b) ∨ (0 < i ∧ b = 0) then none else some (u + b.toNat * 2 ^ (7 * i), bs))
      else if i = 9 then none else takeV (i + 1) (u + (b - 128).toNat * 2 ^ (7 * i)) bs
theorem varF_range (k : Nat) : ∀ u, u < 128 * 128 ^ k → ∀ b ∈ varF k u, 0 ≤ b ∧ b ≤ 255 := by
  induction k with
  | zero =>
    intro u h b hb
    simp only [varF, List.mem_singleton] at hb
    subst hb; simp at h; omega
  | succ k ih =>
    intro u h b hb
    unfold varF at hb
    split at hb
    · rw [List.mem_singleton] at hb; subst hb; omega
    · rw [List.mem_cons] at hb
      rcases hb with rfl | hb
      · omega
      · exact ih (u / 128) (by rw [Nat.pow_succ] at h; omega) b hb
theorem varF_len (k u : Nat) : 1 ≤ (varF k u).length ∧ (varF k u).length ≤ k + 1 := by
  induction k generalizing u with
  | zero => simp [varF]
  | succ k ih =>
    unfold varF
    split
    · simp
    · have := ih (u / 128); simp; omega
theorem pow7 (i : Nat) : 2 ^ (7 * (i + 1)) = 128 * 2 ^ (7 * i) := by
  rw [show 7 * (i + 1) = 7 + 7 * i by omega, Nat.pow_add]
theorem take_var (k : Nat) : ∀ (i u v : Nat) (rest : List Int), i + k = 9 → v * 2 ^ (7 * i) < 2 ^ 64 → (0 < i → 0 < v) → takeV i u (varF k v ++ rest) = some (u + v * 2 ^ (7 * i), rest) := by
  induction k with
  | zero =>
    intro i u v rest hi hv hp
    obtain rfl : i = 9 := by omega
    have h2 : v ≤ 1 := by
      have e : (2 : Nat) ^ 64 = 2 * 2 ^ (7 * 9) := by decide
      rw [e] at hv
      exact Nat.lt_succ_iff.mp (Nat.lt_of_mul_lt_mul_right hv)
    have h1 := hp (by omega)
    simp only [varF, List.singleton_append, takeV]
    rw [if_neg (by omega), if_pos (by omega), if_neg (by omega), Int.toNat_natCast]
  | succ k ih =>
    intro i u v rest hi hv hp
    unfold varF
    by_cases hs : v < 128
    · rw [if_pos hs]
      simp only [List.singleton_append, takeV]
      rw [if_neg (by omega), if_pos (by omega), if_neg (by rintro (h | h); omega; have := hp h.1; omega), Int.toNat_natCast]
    · rw [if_neg hs]
      simp only [List.cons_append, takeV]
      rw [if_neg (by omega), if_neg (by omega), if_neg (by omega)]
      have e : (((v % 128 + 128 : Nat) : Int) - 128).toNat = v % 128 := by omega
      have hm := Nat.div_add_mod v 128
      rw [e, ih (i + 1) _ (v / 128) rest (by omega) (by
        rw [pow7]
        refine Nat.lt_of_le_of_lt ?_ hv
        rw [← Nat.mul_assoc]
        exact Nat.mul_le_mul_right _ (by omega)) (fun _ => by omega)]
      have e2 : u + v % 128 * 2 ^ (7 * i) + v / 128 * 2 ^ (7 * (i + 1)) = u + v * 2 ^ (7 * i) := by
        rw [pow7, ← Nat.mul_assoc, Nat.add_assoc, ← Nat.add_mul, show v % 128 + v / 128 * 128 = v by omega]
      rw [e2]
theorem take_sound (bs : List Int) (hr : ∀ b ∈ bs, 0 ≤ b ∧ b ≤ 255) : ∀ (i u w : Nat) (rest : List Int), takeV i u bs = some (w, rest) →
    ∃ v, bs = varF (9 - i) v ++ rest ∧ w = u + v * 2 ^ (7 * i) ∧ (i ≤ 9 ∧ (0 < i → 0 < v) ∧ v * 2 ^ (7 * i) < 2 ^ 64) := by
  induction bs with
  | nil => intro i u w rest h; cases h
  | cons b bs ih =>
    intro i u w rest h
    have hb := hr b (by simp)
    simp only [takeV] at h
    by_cases h10 : 10 ≤ i
    · rw [if_pos h10] at h; cases h
    rw [if_neg h10] at h
    have hp : 2 ^ (7 * i) ≤ 2 ^ (7 * 9) := Nat.pow_le_pow_right (by decide) (by omega)
    by_cases h128 : b < 128
    · rw [if_pos h128] at h
      by_cases hc : (i = 9 ∧ 1 < b) ∨ (0 < i ∧ b = 0)
      · rw [if_pos hc] at h; cases h
      · rw [if_neg hc, Option.some.injEq, Prod.mk.injEq] at h
        obtain ⟨rfl, rfl⟩ := h
        refine ⟨b.toNat, ?_, rfl, by omega, fun hi => by omega, ?_⟩
        · have e : varF (9 - i) b.toNat = [b] := by
            cases h9 : 9 - i with
            | zero => simp only [varF]; congr 1; omega
            | succ k => unfold varF; rw [if_pos (by omega)]; congr 1; omega
          rw [e]; rfl
        · by_cases h9 : i = 9
          · subst h9
            have : b.toNat ≤ 1 := by omega
            have h3 := Nat.mul_le_mul_right (2 ^ (7 * 9)) this
            have e : (2 : Nat) ^ 64 = 2 * 2 ^ (7 * 9) := by decide
            have := Nat.two_pow_pos (7 * 9)
            omega
          · have hp2 : 2 ^ (7 * i) ≤ 2 ^ (7 * 8) := Nat.pow_le_pow_right (by decide) (by omega)
            have h3 := Nat.mul_le_mul (show b.toNat ≤ 127 by omega) hp2
            have e : (2 : Nat) ^ 64 = 256 * 2 ^ (7 * 8) := by decide
            have := Nat.two_pow_pos (7 * 8)
            omega
    · rw [if_neg h128] at h
      by_cases h9 : i = 9
      · rw [if_pos h9] at h; cases h
      rw [if_neg h9] at h
      obtain ⟨v, e1, e2, e3, e4, e5⟩ := ih (fun b hb => hr b (by simp [hb])) (i + 1) _ w rest h
      have hv := e4 (by omega)
      refine ⟨(b - 128).toNat + 128 * v, ?_, ?_, by omega, fun _ => by omega, ?_⟩
      · have e : 9 - i = (9 - (i + 1)) + 1 := by omega
        rw [e]
        unfold varF
        rw [if_neg (by omega), show ((b - 128).toNat + 128 * v) / 128 = v by omega, show ((((b - 128).toNat + 128 * v) % 128 + 128 : Nat) : Int) = b by omega, e1]
        rfl
      · rw [e2, pow7, Nat.add_mul, Nat.add_assoc, ← Nat.mul_assoc, Nat.mul_comm v 128]
      · rw [pow7] at e5
        have h1 : (b - 128).toNat + 128 * v < 128 * (v + 1) := by omega
        have e : (2 : Nat) ^ 64 = 128 * 2 ^ (7 * i) * 2 ^ (57 - 7 * i) := by
          rw [show 128 * 2 ^ (7 * i) = 2 ^ (7 + 7 * i) by rw [Nat.pow_add], ← Nat.pow_add, show 7 + 7 * i + (57 - 7 * i) = 64 by omega]
        have h2 : v < 2 ^ (57 - 7 * i) := by
          rw [e, Nat.mul_comm] at e5
          exact Nat.lt_of_mul_lt_mul_left e5
        have h3 : ((b - 128).toNat + 128 * v) * 2 ^ (7 * i) < (128 * (v + 1)) * 2 ^ (7 * i) := Nat.mul_lt_mul_of_pos_right h1 (Nat.two_pow_pos _)
        refine Nat.lt_of_lt_of_le h3 ?_
        rw [e, Nat.mul_assoc, Nat.mul_comm (v + 1), ← Nat.mul_assoc]
        exact Nat.mul_le_mul_left _ h2
end Go.Proofs.Ytfjmnaobfbmllaa.M
namespace Go.Proofs.Ytfjmnaobfbmllaa.M
open Go.RowKit Go.Proofs.YtfjmnaobfbmllaaW.PrintWords Go.Proofs.YtfjmnaobfbmllaaW.PrintLast Go.Proofs.YtfjmnaobfbmllaaW.PrintMore
attribute [local go_sem] max2_int min2_int max_two min_two max_three min_three max_four min_four   -- for this text's walks alone
set_option linter.unusedVariables false
set_option linter.unusedSimpArgs false
def nib_Int.l0 : Nat → Int → List Int → Option (ByteArray)
 | 0, _, _ => none
 | k + 1, x3, x4 => if x3 ≥ 128 then (if x4.length < 140737488355328 then (nib_Int.l0 k (x3 / 128) (x4 ++ [Go.bits .or .u8 ((x3) % 256) 128])) else (none)) else (if x4.length < 140737488355328 then (some (strOfNums (x4 ++ [(x3) % 256]))) else (none))
def nib_Int.f (k : Nat) (a0 : Int) : Option (ByteArray) := nib_Int.l0 k (Go.bits .xor .u64 (IntKind.u64.wrap ((IntKind.u64.wrap (a0)) * 2)) (IntKind.u64.wrap (a0 / 9223372036854775808))) ([] : List Int)
set_option maxHeartbeats 8000000 in
set_option maxRecDepth 100000 in
theorem nib_Int.calls (k : Nat) (a0 : Int) (r : ByteArray) (w : World) (h : nib_Int.f k a0 = some r) :
  Calls Try.prog 98 #[.int .i64 a0] w fun e w' => e = .returned (.string r) ∧ Below w.heap.size w w' := by
 have HB := aq (Below.refl w.heap.size w)
 have H : (nib_Int.l0 k (Go.bits .xor .u64 (IntKind.u64.wrap ((IntKind.u64.wrap (a0)) * 2)) (IntKind.u64.wrap (a0 / 9223372036854775808))) ([] : List Int)) = some r := h
 clear h
 have H' := aq H
 clear H
 go_enter Try.func98, Try.ntmps98
 go_wp2
 go_loopg [3, 4] k (fun kq v3 v4 w' => ∃ (x3_1 : Int) (x4_1 : List Int), v3 = .int .u64 x3_1 ∧ Aside0 (nib_Int.l0 kq x3_1 x4_1 = some r) ∧ Aside0 (kq ≤ k) ∧ Aside0 (Kd.R (Kd.int .u8) 5 w' w.heap.size (fun _ => True) v4 x4_1) ∧ Aside0 (Below w.heap.size w w'))
 case atStart => exact ⟨(Go.bits .xor .u64 (IntKind.u64.wrap ((IntKind.u64.wrap (a0)) * 2)) (IntKind.u64.wrap (a0 / 9223372036854775808))), (([] : List Int)), eqS, H', ⟨Nat.le_refl _⟩, ⟨by first | exact Kd.R_nil _ _ _ _ _ | exact Kd.N_nil _ _ _ _ _ | exact Kd.V_nil _ _ _ _ _ | exact Kd.Q_nil _ _ _ _ _ | exact Kd.S_nil _ _ _ _ _⟩, ⟨stH HB⟩⟩
 case round =>
  clear H'
  obtain ⟨x3_1, x4_1, rfl, HA, HK1, HO_4, HB⟩ := hrel
  cases gk with
  | zero => exact absurd HA.out (by simp [nib_Int.l0])
  | succ k1 =>
   have H := HA.out
   clear HA
   simp only [nib_Int.l0] at H
   by_cases c2 : x3_1 ≥ 128
   ·rw [if_pos c2] at H
    have c2b0 : decide (128 ≤ x3_1) = true := decide_eq_true c2
    clear c2
    by_cases c3 : x4_1.length < 140737488355328
    ·rw [if_pos c3] at H
     have LMc3 := aq c3
     clear c3
     obtain ⟨y101, hy101⟩ : ∃ y_ : List Int, y_ = (x4_1 ++ [Go.bits .or .u8 ((x3_1) % 256) 128]) := ⟨_, rfl⟩
     replace H : (nib_Int.l0 k1 (x3_1 / 128) y101) = some r := by first | (rw [hy101]; with_reducible exact H) | (have H2_ := (Option.bind_some _ _).symm.trans H; rw [hy101]; with_reducible exact H2_) | (have H2_ := (Option.bind_some _ _).symm.trans H; with_reducible exact H2_) | with_reducible exact H | (rw [hy101]; exact H) | exact H
     have Ny101 := aq hy101
     clear hy101
     have H' := aq H
     clear H
     go_wp2_with (first | ((with_reducible refine gate_builtin (b := .append) (xs := #[.tmp 16, .tmp 20]) rfl ?_); at_builtin; refine Kd.R_append (Kd.int .u8) (w0 := w) w.heap.size rfl (.tmp 16) (.tmp 20) 36 5 (.int .u8 0) 1 rfl Try.underlying36 info5 rfl (by decide) (by omega) u4 x4_1 (Go.bits .or .u8 ((x3_1) % 256) 128) [.int .u8 (Go.bits .or .u8 ((x3_1) % 256) 128)] (fun _ => True) (fun _ => False) rfl rfl ?aP (fun _ hk => hk.elim) ?aF ?aO ?aB ?aS ?aL ?_; (case aP => exact rfl); (case aB => exact (stH HB)); (case aF => exact (fun _ _ => trivial)); (case aO => exact (by (with_reducible repeat (first | apply Kd.R_alloc | apply Kd.R_drewN | apply Kd.R_drew)); exact HO_4.out)); (case aS => exact (below_size (stH HB))); (case aL => have := LMc3.out; omega); intro v102 w4 ho hb hg hat; rw [← Ny101.out] at ho; have n0_ := aq (hb); have n1_ := aq (ho); clear HB; clear HO_4; have HB := n0_; have HO103 := n1_; clear n0_ n1_; clear ho hb hg hat))
     go_roundg k1
     case measure => have := HK1.out; omega
     case rel => exact ⟨(x3_1 / 128), (y101), eqS, H', ⟨by have := HK1.out; omega⟩, ⟨by (with_reducible repeat (first | apply Kd.R_alloc | apply Kd.R_drewN | apply Kd.R_drew)); exact HO103.out⟩, ⟨stH HB⟩⟩
    ·rw [if_neg c3] at H
     exact absurd H (by simp)
   ·rw [if_neg c2] at H
    have c2b0 : decide (128 ≤ x3_1) = false := decide_eq_false c2
    clear c2
    by_cases c5 : x4_1.length < 140737488355328
    ·rw [if_pos c5] at H
     have LMc5 := aq c5
     clear c5
     obtain ⟨y104, hy104⟩ : ∃ y_ : List Int, y_ = (x4_1 ++ [(x3_1) % 256]) := ⟨_, rfl⟩
     replace H : (some (strOfNums y104)) = some r := by first | (rw [hy104]; with_reducible exact H) | (have H2_ := (Option.bind_some _ _).symm.trans H; rw [hy104]; with_reducible exact H2_) | (have H2_ := (Option.bind_some _ _).symm.trans H; with_reducible exact H2_) | with_reducible exact H | (rw [hy104]; exact H) | exact H
     have Ny104 := aq hy104
     clear hy104
     obtain rfl := Option.some.inj H
     go_wp2_with (first | ((with_reducible refine gate_builtin (b := .append) (xs := #[.tmp 22, .tmp 25]) rfl ?_); at_builtin; refine Kd.R_append (Kd.int .u8) (w0 := w) w.heap.size rfl (.tmp 22) (.tmp 25) 36 5 (.int .u8 0) 1 rfl Try.underlying36 info5 rfl (by decide) (by omega) u4 x4_1 ((x3_1) % 256) [.int .u8 ((x3_1) % 256)] (fun _ => True) (fun _ => False) rfl rfl ?aP (fun _ hk => hk.elim) ?aF ?aO ?aB ?aS ?aL ?_; (case aP => exact rfl); (case aB => exact (stH HB)); (case aF => exact (fun _ _ => trivial)); (case aO => exact (by (with_reducible repeat (first | apply Kd.R_alloc | apply Kd.R_drewN | apply Kd.R_drew)); exact HO_4.out)); (case aS => exact (below_size (stH HB))); (case aL => have := LMc5.out; omega); intro v105 w6 ho hb hg hat; rw [← Ny104.out] at ho; have n0_ := aq (hb); have n1_ := aq (ho); clear HB; clear HO_4; have HB := n0_; have HO106 := n1_; clear n0_ n1_; clear ho hb hg hat; have hcv7 := own_string (P := Try.prog) Try.underlying36 Try.underlying5 Try.underlying9 (Kd.own_of_R HO106.out)))
     go_ret
     exact ⟨eqW, by repeat (first | (with_reducible first | exact HB.out | apply below_alloc | apply pw_below_drewN | apply below_drew1) | exact HB.out)⟩
    ·rw [if_neg c5] at H
     exact absurd H (by simp)
end Go.Proofs.Ytfjmnaobfbmllaa.M
namespace Go.Proofs.Ytfjmnaobfbmllaa.M
open Go.RowKit Go.Proofs.YtfjmnaobfbmllaaW.PrintWords Go.Proofs.YtfjmnaobfbmllaaW.PrintLast Go.Proofs.YtfjmnaobfbmllaaW.PrintMore
attribute [local go_sem] max2_int min2_int max_two min_two max_three min_three max_four min_four   -- for this text's walks alone
set_option linter.unusedVariables false
set_option linter.unusedSimpArgs false
mutual
def nib_TakeInt.l0 : Nat → ByteArray → Int → Int → Int → Option (Int × ByteArray × Bool)
 | 0, _, _, _, _ => none
 | k + 1, x0, x5, x10, x11 => if x11 < x10 then (if 0 ≤ x11 then (if x11 < (x0.size : Int) then (if 0 ≤ (wrap64 (7 * x11)) then (if x11 = 9 then (if (bt x0 x11) > 1 then (nib_TakeInt.j1 k x0 (Go.bits .or .u64 x5 (shl .u64 (IntKind.u64.wrap (Go.bits .andNot .u8 (bt x0 x11) 128)) (wrap64 (7 * x11)))) x11 (bt x0 x11) x10 x11 true) else (if x11 > 0 then (nib_TakeInt.j1 k x0 (Go.bits .or .u64 x5 (shl .u64 (IntKind.u64.wrap (Go.bits .andNot .u8 (bt x0 x11) 128)) (wrap64 (7 * x11)))) x11 (bt x0 x11) x10 x11 ((bt x0 x11) == 0)) else (nib_TakeInt.j1 k x0 (Go.bits .or .u64 x5 (shl .u64 (IntKind.u64.wrap (Go.bits .andNot .u8 (bt x0 x11) 128)) (wrap64 (7 * x11)))) x11 (bt x0 x11) x10 x11 false))) else (if x11 > 0 then (nib_TakeInt.j1 k x0 (Go.bits .or .u64 x5 (shl .u64 (IntKind.u64.wrap (Go.bits .andNot .u8 (bt x0 x11) 128)) (wrap64 (7 * x11)))) x11 (bt x0 x11) x10 x11 ((bt x0 x11) == 0)) else (nib_TakeInt.j1 k x0 (Go.bits .or .u64 x5 (shl .u64 (IntKind.u64.wrap (Go.bits .andNot .u8 (bt x0 x11) 128)) (wrap64 (7 * x11)))) x11 (bt x0 x11) x10 x11 false))) else (none)) else (none)) else (none)) else (some (0, (⟨#[]⟩ : ByteArray), false))
def nib_TakeInt.j1 : Nat → ByteArray → Int → Int → Int → Int → Int → Bool → Option (Int × ByteArray × Bool)
 | 0, _, _, _, _, _, _, _ => none
 | k + 1, x0, x5, x6, x7, x10, x11, x25 => if x25 = true then (some (0, (⟨#[]⟩ : ByteArray), false)) else (if x7 < 128 then (if 0 ≤ (wrap64 (x6 + 1)) then (if (wrap64 (x6 + 1)) ≤ (x0.size : Int) then (some (Go.bits .xor .i64 (wrap64 (x5 / 2)) (wrap64 (-(wrap64 (Go.bits .and .u64 x5 1)))), x0.extract ((wrap64 (x6 + 1)) : Int).toNat x0.size, true)) else (none)) else (none)) else (nib_TakeInt.l0 k x0 x5 x10 (wrap64 (x11 + 1))))
end
def nib_TakeInt.f (k : Nat) (a0 : ByteArray) : Option (Int × ByteArray × Bool) := nib_TakeInt.l0 k a0 0 (mn (a0.size : Int) 10) 0
set_option maxHeartbeats 8000000 in
set_option maxRecDepth 100000 in
theorem nib_TakeInt.calls (k : Nat) (a0 : ByteArray) (r1 : Int) (r2 : ByteArray) (r3 : Bool) (w : World) (h : nib_TakeInt.f k a0 = some (r1, r2, r3)) :
  Calls Try.prog 120 #[.string a0] w fun e w' => e = .returned (.tuple #[.int .i64 r1, .string r2, .bool r3]) ∧ Below w.heap.size w w' := by
 have HB := aq (Below.refl w.heap.size w)
 have H : (nib_TakeInt.l0 k a0 0 (mn (a0.size : Int) 10) 0) = some (r1, r2, r3) := h
 clear h
 obtain ⟨ji2, hji2⟩ : ∃ j_ : Int, (mn (a0.size : Int) 10) = j_ := ⟨_, rfl⟩
 replace H : (nib_TakeInt.l0 k a0 0 ji2 0) = some (r1, r2, r3) := by first | (rw [hji2] at H; exact H) | (simp only [hji2] at H ⊢; exact H)
 (try (have hji2h : ji2 ≤ 10 := by (rw [← hji2]; unfold mn; (repeat' split) <;> omega)))
 (try (have hji2g : ji2 ≤ 64 := by omega))
 (try (have hji2l : 0 ≤ ji2 := by (rw [← hji2]; unfold mn; (repeat' split) <;> omega)))
 (try (have hji2m : 0 ≤ ji2 := by omega))
 have hji2_ : (if 10 < (a0.size : Int) then 10 else (a0.size : Int)) = ji2 := hji2
 have H' := aq H
 clear H
 go_enter Try.func120, Try.ntmps120
 go_wp2
 repeat (go_quiet (fail); try go_wp2)
 go_loopg [5, 11] k (fun kq v5 v11 w' => ∃ (x5_1 : Int) (x11_1 : Int), v5 = .int .u64 x5_1 ∧ v11 = .int .i64 x11_1 ∧ Aside0 (nib_TakeInt.l0 kq a0 x5_1 ji2 x11_1 = some (r1, r2, r3)) ∧ Aside0 (kq ≤ k) ∧ Aside0 (Below w.heap.size w w'))
 case atStart => exact ⟨(0), (0), eqS, eqS, H', ⟨Nat.le_refl _⟩, ⟨stH HB⟩⟩
 case round =>
  clear H'
  try clear c1
  try clear p2
  obtain ⟨x5_1, x11_1, rfl, rfl, HA, HK1, HB⟩ := hrel
  cases gk with
  | zero => exact absurd HA.out (by simp [nib_TakeInt.l0])
  | succ k1 =>
   have H := HA.out
   clear HA
   simp only [nib_TakeInt.l0] at H
   by_cases c3 : x11_1 < ji2
   ·rw [if_pos c3] at H
    have c3b0 : decide (x11_1 < ji2) = true := decide_eq_true c3
    clear c3
    by_cases c4 : 0 ≤ x11_1
    ·rw [if_pos c4] at H
     have c4b0 : decide (0 ≤ x11_1) = true := decide_eq_true c4
     clear c4
     by_cases c5 : x11_1 < (a0.size : Int)
     ·rw [if_pos c5] at H
      have c5b0 : decide (x11_1 < (a0.size : Int)) = true := decide_eq_true c5
      clear c5
      obtain ⟨ji7, hji7⟩ : ∃ j_ : Int, (wrap64 (7 * x11_1)) = j_ := ⟨_, rfl⟩
      replace H : (if 0 ≤ (ji7) then (if x11_1 = 9 then (if (bt a0 x11_1) > 1 then (nib_TakeInt.j1 k1 a0 (Go.bits .or .u64 x5_1 (shl .u64 (IntKind.u64.wrap (Go.bits .andNot .u8 (bt a0 x11_1) 128)) (ji7))) x11_1 (bt a0 x11_1) ji2 x11_1 true) else (if x11_1 > 0 then (nib_TakeInt.j1 k1 a0 (Go.bits .or .u64 x5_1 (shl .u64 (IntKind.u64.wrap (Go.bits .andNot .u8 (bt a0 x11_1) 128)) (ji7))) x11_1 (bt a0 x11_1) ji2 x11_1 ((bt a0 x11_1) == 0)) else (nib_TakeInt.j1 k1 a0 (Go.bits .or .u64 x5_1 (shl .u64 (IntKind.u64.wrap (Go.bits .andNot .u8 (bt a0 x11_1) 128)) (ji7))) x11_1 (bt a0 x11_1) ji2 x11_1 false))) else (if x11_1 > 0 then (nib_TakeInt.j1 k1 a0 (Go.bits .or .u64 x5_1 (shl .u64 (IntKind.u64.wrap (Go.bits .andNot .u8 (bt a0 x11_1) 128)) (ji7))) x11_1 (bt a0 x11_1) ji2 x11_1 ((bt a0 x11_1) == 0)) else (nib_TakeInt.j1 k1 a0 (Go.bits .or .u64 x5_1 (shl .u64 (IntKind.u64.wrap (Go.bits .andNot .u8 (bt a0 x11_1) 128)) (ji7))) x11_1 (bt a0 x11_1) ji2 x11_1 false))) else (none)) = some (r1, r2, r3) := by first | (rw [hji7] at H; exact H) | (simp only [hji7] at H ⊢; exact H)
      have hji7w : (IntKind.i64.wrap (7 * x11_1)) = ji7 := (i64_w _).trans hji7
      by_cases c8 : 0 ≤ (ji7)
      ·rw [if_pos c8] at H
       have c8b0 := eq_true c8
       have c8b1 : decide (0 ≤ (ji7)) = true := decide_eq_true c8
       clear c8
       obtain ⟨ji9, hji9⟩ : ∃ j_ : Int, (shl .u64 (IntKind.u64.wrap (Go.bits .andNot .u8 (bt a0 x11_1) 128)) (ji7)) = j_ := ⟨_, rfl⟩
       replace H : (if x11_1 = 9 then (if (bt a0 x11_1) > 1 then (nib_TakeInt.j1 k1 a0 (Go.bits .or .u64 x5_1 (ji9)) x11_1 (bt a0 x11_1) ji2 x11_1 true) else (if x11_1 > 0 then (nib_TakeInt.j1 k1 a0 (Go.bits .or .u64 x5_1 (ji9)) x11_1 (bt a0 x11_1) ji2 x11_1 ((bt a0 x11_1) == 0)) else (nib_TakeInt.j1 k1 a0 (Go.bits .or .u64 x5_1 (ji9)) x11_1 (bt a0 x11_1) ji2 x11_1 false))) else (if x11_1 > 0 then (nib_TakeInt.j1 k1 a0 (Go.bits .or .u64 x5_1 (ji9)) x11_1 (bt a0 x11_1) ji2 x11_1 ((bt a0 x11_1) == 0)) else (nib_TakeInt.j1 k1 a0 (Go.bits .or .u64 x5_1 (ji9)) x11_1 (bt a0 x11_1) ji2 x11_1 false))) = some (r1, r2, r3) := by first | (rw [hji9] at H; exact H) | (simp only [hji9] at H ⊢; exact H)
       have hji9_ : (IntKind.u64.wrap ((IntKind.u64.wrap (Go.bits .andNot .u8 (bt a0 x11_1) 128)) * 2 ^ min (ji7).toNat 64)) = ji9 := hji9
       have hji9z : (ji7) ≤ 64 → (IntKind.u64.wrap ((IntKind.u64.wrap (Go.bits .andNot .u8 (bt a0 x11_1) 128)) * 2 ^ (ji7).toNat)) = ji9 := shl_small hji9
       have HC10 := aq H
       clear H
       have p6 : 0 ≤ (x11_1 : Int) := of_decide_eq_true (by first | (with_reducible assumption) | assumption)
       have q6 : x11_1 < (a0.size : Int) := of_decide_eq_true (by first | (with_reducible assumption) | assumption)
       have hx6 := bt_at a0 x11_1
       replace p6 := eq_true p6
       replace q6 := eq_true q6
       go_upto_region 7 with (fail)
       repeat (go_quiet (fail); go_upto_region 7 with (fail))
       go_cut [25] (fun v25 wc => ∃ (kq : Nat) (x25_9 : Bool), v25 = .bool x25_9 ∧ Aside0 (nib_TakeInt.j1 kq a0 (Go.bits .or .u64 x5_1 (ji9)) x11_1 (bt a0 x11_1) ji2 x11_1 x25_9 = some (r1, r2, r3)) ∧ Aside0 (kq ≤ k1) ∧ Aside0 (Below w.heap.size w wc))
       case first =>
        have H := HC10.out
        clear HC10
        by_cases c11 : x11_1 = 9
        ·rw [if_pos c11] at H
         have c11b0 : (x11_1 == 9) = true := beq_iff_eq.mpr c11
         have c11b1 : (x11_1 != 9) = false := bne_eq_false_iff_eq.mpr c11
         clear c11
         (first | rw [c11b0] | (simp only [i64_w, i32_w]; rw [c11b0]) | skip)
         by_cases c12 : (bt a0 x11_1) > 1
         ·rw [if_pos c12] at H
          have c12b0 : decide (1 < (bt a0 x11_1)) = true := decide_eq_true c12
          clear c12
          have H' := aq H
          clear H
          go_wp2
          repeat (go_quiet (fail); try go_wp2)
          go_meet
          case rel => exact ⟨_, (true), eqS, H', ⟨by have := HK1.out; first | omega | exact Nat.le_refl _⟩, ⟨stH HB⟩⟩
         ·rw [if_neg c12] at H
          have c12b0 : decide (1 < (bt a0 x11_1)) = false := decide_eq_false c12
          clear c12
          by_cases c13 : x11_1 > 0
          ·rw [if_pos c13] at H
           have c13b0 : decide (0 < x11_1) = true := decide_eq_true c13
           clear c13
           have H' := aq H
           clear H
           go_wp2
           repeat (go_quiet (fail); try go_wp2)
           go_meet
           case rel => exact ⟨_, (((bt a0 x11_1) == 0)), eqS, H', ⟨by have := HK1.out; first | omega | exact Nat.le_refl _⟩, ⟨stH HB⟩⟩
          ·rw [if_neg c13] at H
           have c13b0 : decide (0 < x11_1) = false := decide_eq_false c13
           clear c13
           have H' := aq H
           clear H
           go_wp2
           repeat (go_quiet (fail); try go_wp2)
           go_meet
           case rel => exact ⟨_, (false), eqS, H', ⟨by have := HK1.out; first | omega | exact Nat.le_refl _⟩, ⟨stH HB⟩⟩
        ·rw [if_neg c11] at H
         have c11b0 : (x11_1 == 9) = false := beq_eq_false_iff_ne.mpr c11
         have c11b1 : (x11_1 != 9) = true := bne_iff_ne.mpr c11
         (first | rw [c11b0] | (simp only [i64_w, i32_w]; rw [c11b0]) | skip)
         by_cases c14 : x11_1 > 0
         ·rw [if_pos c14] at H
          have c14b0 : decide (0 < x11_1) = true := decide_eq_true c14
          clear c14
          have H' := aq H
          clear H
          go_wp2
          repeat (go_quiet (fail); try go_wp2)
          go_meet
          case rel => exact ⟨_, (((bt a0 x11_1) == 0)), eqS, H', ⟨by have := HK1.out; first | omega | exact Nat.le_refl _⟩, ⟨stH HB⟩⟩
         ·rw [if_neg c14] at H
          have c14b0 : decide (0 < x11_1) = false := decide_eq_false c14
          clear c14
          have H' := aq H
          clear H
          go_wp2
          repeat (go_quiet (fail); try go_wp2)
          go_meet
          case rel => exact ⟨_, (false), eqS, H', ⟨by have := HK1.out; first | omega | exact Nat.le_refl _⟩, ⟨stH HB⟩⟩
       case rest =>
        clear HC10
        try clear c1
        try clear p2
        try clear c3
        try clear c3b0
        try clear c4
        try clear c4b0
        try clear c5
        try clear c5b0
        try clear p6
        try clear q6
        try clear hx6
        try clear c8
        try clear c8b0
        try clear c8b1
        try clear c11
        try clear c11b0
        try clear c11b1
        try clear c12
        try clear c12b0
        try clear c13
        try clear c13b0
        try clear c14
        try clear c14b0
        obtain ⟨kq, x25_9, rfl, HA, HJ9, HB⟩ := hcut
        cases kq with
        | zero => exact absurd HA.out (by simp [nib_TakeInt.j1])
        | succ kj9 =>
         have H := HA.out
         clear HA
         simp only [nib_TakeInt.j1] at H
         by_cases c15 : x25_9 = true
         ·subst c15
          rw [if_pos rfl] at H
          simp only [Option.some.injEq, Prod.mk.injEq] at H
          obtain ⟨rfl, rfl, rfl⟩ := H
          go_wp2
          repeat (go_quiet (fail); try go_wp2)
          go_ret3
          exact ⟨by first | rfl | (simp [errW_none, errW_some] <;> rfl) | (simp only [← hji2, ← hji7, ← hji9]; first | rfl | (simp [errW_none, errW_some] <;> rfl)) | (simp [*, errW_none, errW_some] <;> rfl), by repeat (first | (with_reducible first | exact HB.out | apply below_alloc | apply pw_below_drewN | apply below_drew1) | exact HB.out)⟩
         ·replace c15 := Bool.eq_false_iff.mpr c15
          subst c15
          rw [if_neg (show ¬ (false = true) by decide)] at H
          by_cases c16 : (bt a0 x11_1) < 128
          ·rw [if_pos c16] at H
           have c16b0 : decide ((bt a0 x11_1) < 128) = true := decide_eq_true c16
           clear c16
           obtain ⟨ji17, hji17⟩ : ∃ j_ : Int, (wrap64 (x11_1 + 1)) = j_ := ⟨_, rfl⟩
           replace H : (if 0 ≤ (ji17) then (if (ji17) ≤ (a0.size : Int) then (some (Go.bits .xor .i64 (wrap64 ((Go.bits .or .u64 x5_1 (ji9)) / 2)) (wrap64 (-(wrap64 (Go.bits .and .u64 (Go.bits .or .u64 x5_1 (ji9)) 1)))), a0.extract ((ji17) : Int).toNat a0.size, true)) else (none)) else (none)) = some (r1, r2, r3) := by first | (rw [hji17] at H; exact H) | (simp only [hji17] at H ⊢; exact H)
           have hji17w : (IntKind.i64.wrap (x11_1 + 1)) = ji17 := (i64_w _).trans hji17
           by_cases c18 : 0 ≤ (ji17)
           ·rw [if_pos c18] at H
            have c18b0 := eq_true c18
            have c18b1 : decide (0 ≤ (ji17)) = true := decide_eq_true c18
            clear c18
            by_cases c19 : (ji17) ≤ (a0.size : Int)
            ·rw [if_pos c19] at H
             have c19b0 := eq_true c19
             have c19b1 : decide ((ji17) ≤ (a0.size : Int)) = true := decide_eq_true c19
             clear c19
             simp only [Option.some.injEq, Prod.mk.injEq] at H
             obtain ⟨rfl, rfl, rfl⟩ := H
             go_wp2
             repeat (go_quiet (fail); try go_wp2)
             go_ret3
             exact ⟨by first | rfl | (simp [errW_none, errW_some] <;> rfl) | (simp only [← hji2, ← hji7, ← hji9, ← hji17]; first | rfl | (simp [errW_none, errW_some] <;> rfl)) | (simp [*, errW_none, errW_some] <;> rfl), by repeat (first | (with_reducible first | exact HB.out | apply below_alloc | apply pw_below_drewN | apply below_drew1) | exact HB.out)⟩
            ·rw [if_neg c19] at H
             exact absurd H (by simp)
           ·rw [if_neg c18] at H
            exact absurd H (by simp)
          ·rw [if_neg c16] at H
           have c16b0 : decide ((bt a0 x11_1) < 128) = false := decide_eq_false c16
           clear c16
           have H' := aq H
           clear H
           go_wp2
           repeat (go_quiet (fail); try go_wp2)
           go_roundg kj9
           case measure => have := HK1.out; have := HJ9.out; omega
           case rel => exact ⟨((Go.bits .or .u64 x5_1 (ji9))), (wrap64 (x11_1 + 1)), (by first | rfl | (simp; done) | (simp only [← hji9] <;> (first | rfl | simp)) | (simp [*]; done)), eqS, H', ⟨by have := HK1.out; have := HJ9.out; omega⟩, ⟨stH HB⟩⟩
      ·rw [if_neg c8] at H
       exact absurd H (by simp)
     ·rw [if_neg c5] at H
      exact absurd H (by simp)
    ·rw [if_neg c4] at H
     exact absurd H (by simp)
   ·rw [if_neg c3] at H
    have c3b0 : decide (x11_1 < ji2) = false := decide_eq_false c3
    clear c3
    simp only [Option.some.injEq, Prod.mk.injEq] at H
    obtain ⟨rfl, rfl, rfl⟩ := H
    go_wp2
    repeat (go_quiet (fail); try go_wp2)
    go_ret3
    exact ⟨by first | rfl | (simp [errW_none, errW_some] <;> rfl) | (simp only [← hji2]; first | rfl | (simp [errW_none, errW_some] <;> rfl)) | (simp [*, errW_none, errW_some] <;> rfl), by repeat (first | (with_reducible first | exact HB.out | apply below_alloc | apply pw_below_drewN | apply below_drew1) | exact HB.out)⟩
end Go.Proofs.Ytfjmnaobfbmllaa.M
namespace Go.Proofs.Ytfjmnaobfbmllaa.M
open Go.RowKit Go.Proofs.YtfjmnaobfbmllaaW.PrintWords Go.Proofs.YtfjmnaobfbmllaaW.PrintLast Go.Proofs.YtfjmnaobfbmllaaW.PrintMore
set_option linter.unusedVariables false
set_option linter.unusedSimpArgs false
theorem u8_or (b : Nat) (h : b < 256) : Go.bits .or .u8 (b : Int) 128 = ((b % 128 + 128 : Nat) : Int) := by
  have : ∀ n : Fin 256, Go.bits .or .u8 (n.val : Int) 128 = ((n.val % 128 + 128 : Nat) : Int) := by decide +kernel
  exact this ⟨b, h⟩
theorem u8_clear (b : Nat) (h : b < 256) : Go.bits .andNot .u8 (b : Int) 128 = ((b % 128 : Nat) : Int) := by
  have : ∀ n : Fin 256, Go.bits .andNot .u8 (n.val : Int) 128 = ((n.val % 128 : Nat) : Int) := by decide +kernel
  exact this ⟨b, h⟩
theorem wu64 (n : Int) (h0 : 0 ≤ n) (h1 : n < 18446744073709551616) : IntKind.u64.wrap n = n := by rw [IntKind.wrap_u64]; omega
theorem nib_l0 (f : Nat) : ∀ (k u : Nat) (acc : List Int), u < 128 * 128 ^ f → f < k → acc.length + f ≤ 100 → nib_Int.l0 k u acc = some (strOfNums (acc ++ varF f u)) := by
  induction f with
  | zero =>
    intro k u acc hu hk hb
    obtain ⟨k, rfl⟩ : ∃ m, k = m + 1 := ⟨k - 1, by omega⟩
    have hu : u < 128 := by simpa using hu
    have c1 : ¬ (u : Int) ≥ 128 := by omega
    have c2 : acc.length < 140737488355328 := by omega
    simp only [nib_Int.l0, varF]
    rw [if_neg c1, if_pos c2, show (u : Int) % 256 = u by omega]
  | succ f ih =>
    intro k u acc hu hk hb
    obtain ⟨k, rfl⟩ : ∃ m, k = m + 1 := ⟨k - 1, by omega⟩
    have c2 : acc.length < 140737488355328 := by omega
    simp only [nib_Int.l0]
    unfold varF
    by_cases h : u < 128
    · have c1 : ¬ (u : Int) ≥ 128 := by omega
      rw [if_neg c1, if_pos c2, if_pos h, show (u : Int) % 256 = u by omega]
    · have c1 : (u : Int) ≥ 128 := by omega
      rw [if_pos c1, if_pos c2, if_neg h, show (u : Int) % 256 = ((u % 256 : Nat) : Int) by omega, u8_or (u % 256) (by omega), show (u : Int) / 128 = ((u / 128 : Nat) : Int) by omega,
        ih k (u / 128) _ (by rw [Nat.pow_succ] at hu; omega) (by omega) (by simp; omega), List.append_assoc, show u % 256 % 128 = u % 128 by omega]
      rfl
theorem foldI_nat (n : Nat) : foldI (n : Int) = 2 * n := by
  unfold foldI
  rw [if_neg (by omega), Int.toNat_natCast]
theorem nib_pure (n : Nat) (hn : n ≤ 4611686018427387904) (k : Nat) (hk : 11 < k) : nib_Int.f k n = some (strOfNums (intB n)) := by
  unfold nib_Int.f intB
  have e0 : (n : Int) / 9223372036854775808 = 0 := by omega
  have e1 : Go.bits .xor .u64 ((2 * n : Nat) : Int) ((0 : Nat) : Int) = ((2 * n : Nat) : Int) := by
    rw [bits_xor_u64_nat _ _ (by omega) (by omega), Nat.xor_zero]
  rw [e0, wu64 (n : Int) (by omega) (by omega), wu64 0 (by omega) (by omega), wu64 ((n : Int) * 2) (by omega) (by omega), show (n : Int) * 2 = ((2 * n : Nat) : Int) by omega,
    show (0 : Int) = ((0 : Nat) : Int) from rfl, e1, nib_l0 10 k (2 * n) [] (by
      have : (128 : Nat) ^ 10 = 1180591620717411303424 := by decide
      omega) (by omega) (by simp), foldI_nat]
  rfl
def takeR (s : ByteArray) : Int × ByteArray × Bool := match takeV 0 0 (bytesOf s) with
  | none => (0, ⟨#[]⟩, false)
  | some (u, rest) => (unfoldI u, strOfNums rest, true)
def takeX : Option (Nat × List Int) → Int × ByteArray × Bool
  | none => (0, ⟨#[]⟩, false)
  | some (u, rest) => (unfoldI u, strOfNums rest, true)
theorem takeR_eq (s : ByteArray) : takeR s = takeX (takeV 0 0 (bytesOf s)) := by
  unfold takeR takeX; rfl
theorem extract_drop (s : ByteArray) (i : Nat) : s.extract i s.size = strOfNums ((bytesOf s).drop i) := by
  rw [← bytes_drop, str_bytes]
theorem i64_xor_zero (n : Nat) (h : n < 9223372036854775808) : Go.bits .xor .i64 (n : Int) 0 = (n : Int) := by
  show IntKind.i64.wrap ((BitVec.ofInt 64 (n : Int) ^^^ BitVec.ofInt 64 0).toNat : Int) = _
  have e : BitVec.ofInt 64 0 = 0#64 := by decide
  rw [e, BitVec.xor_zero, BitVec.ofInt_natCast, BitVec.toNat_ofNat, Nat.mod_eq_of_lt (by omega), IntKind.wrap_i64]
  omega
theorem i64_xor_ones (n : Nat) (h : n < 9223372036854775808) : Go.bits .xor .i64 (n : Int) (-1) = -(n : Int) - 1 := by
  show IntKind.i64.wrap ((BitVec.ofInt 64 (n : Int) ^^^ BitVec.ofInt 64 (-1)).toNat : Int) = _
  have e : BitVec.ofInt 64 (-1) = BitVec.allOnes 64 := by decide
  rw [e, BitVec.xor_allOnes, BitVec.toNat_not, BitVec.ofInt_natCast, BitVec.toNat_ofNat, Nat.mod_eq_of_lt (by omega), IntKind.wrap_i64]
  omega
theorem nib_unfold (u : Nat) (hu : u < 18446744073709551616) : Go.bits .xor .i64 (wrap64 ((u : Int) / 2)) (wrap64 (-(wrap64 (Go.bits .and .u64 (u : Int) 1)))) = unfoldI u := by
  have e1 : Go.bits .and .u64 (u : Int) 1 = ((u % 2 : Nat) : Int) := by
    have := bits_and_u64_nat u 1 hu (by decide)
    rw [Nat.and_one_is_mod] at this
    exact this
  rw [e1, w64 ((u : Int) / 2) (by omega) (by omega), w64 ((u % 2 : Nat) : Int) (by omega) (by omega), w64 (-((u % 2 : Nat) : Int)) (by omega) (by omega), show (u : Int) / 2 = ((u / 2 : Nat) : Int) by omega]
  unfold unfoldI
  by_cases h : u % 2 = 1
  · rw [if_pos h, h]
    exact i64_xor_ones (u / 2) (by omega)
  · rw [if_neg h, show u % 2 = 0 by omega]
    exact i64_xor_zero (u / 2) (by omega)
theorem pow_le_56 (i : Nat) (h : i ≤ 8) : 2 ^ (7 * i) ≤ 72057594037927936 := by
  have := Nat.pow_le_pow_right (show 0 < 2 by decide) (show 7 * i ≤ 56 by omega)
  exact this
theorem shl_nat (m i : Nat) (hi : i ≤ 9) : shl .u64 (m : Int) ((7 * i : Nat) : Int) = IntKind.u64.wrap ((m * 2 ^ (7 * i) : Nat) : Int) := by
  unfold shl
  have e : min (((7 * i : Nat) : Int)).toNat IntKind.u64.bits = 7 * i := by
    have : IntKind.u64.bits = 64 := rfl
    rw [Int.toNat_natCast, this]; omega
  rw [e]
  simp
theorem nib_or (u m i : Nat) (hi : i ≤ 9) (hu : u < 2 ^ (7 * i)) (hm : m * 2 ^ (7 * i) < 18446744073709551616) :
    Go.bits .or .u64 (u : Int) (shl .u64 (m : Int) ((7 * i : Nat) : Int)) = ((u + m * 2 ^ (7 * i) : Nat) : Int) := by
  have hp : 2 ^ (7 * i) ≤ 2 ^ (7 * 9) := Nat.pow_le_pow_right (by decide) (by omega)
  have h9 : (2 : Nat) ^ (7 * 9) = 9223372036854775808 := by decide
  rw [shl_nat m i hi, wu64 _ (by omega) (by omega), bits_or_u64_nat u _ (by omega) hm, Nat.or_comm, Nat.mul_comm m, ← Nat.two_pow_add_eq_or_of_lt hu m, Nat.add_comm]
theorem nib_fin (k : Nat) (s : ByteArray) (u i : Nat) (b x : Int) (hi : i < s.size) (h9 : i ≤ 9) (hu : u < 18446744073709551616) (hb : b < 128) :
    nib_TakeInt.j1 (k + 1) s u i b x i false = some (unfoldI u, strOfNums ((bytesOf s).drop (i + 1)), true) := by
  have hw : wrap64 ((i : Int) + 1) = ((i + 1 : Nat) : Int) := by rw [w64 _ (by omega) (by omega)]; omega
  have c1 : (0 : Int) ≤ ((i + 1 : Nat) : Int) := by omega
  have c2 : ((i + 1 : Nat) : Int) ≤ (s.size : Int) := by omega
  simp only [nib_TakeInt.j1]
  rw [if_neg Bool.false_ne_true, if_pos hb, hw, if_pos c1, if_pos c2, nib_unfold u hu, Int.toNat_natCast, extract_drop]
theorem nib_bad (k : Nat) (s : ByteArray) (u : Int) (i b x y : Int) : nib_TakeInt.j1 (k + 1) s u i b x y true = some (0, ⟨#[]⟩, false) := by
  simp only [nib_TakeInt.j1]
  exact if_pos trivial
theorem take_nil (i u : Nat) : takeV i u [] = none := by cases i <;> rfl
theorem nibtake_loop (s : ByteArray) (d : Nat) : ∀ (k i u : Nat), i + d = min s.size 10 → 2 * d + 1 < k → u < 2 ^ (7 * i) →
    nib_TakeInt.l0 k s u ((min s.size 10 : Nat) : Int) i = some (takeX (takeV i u ((bytesOf s).drop i))) := by
  induction d with
  | zero =>
    intro k i u hi hk hu
    obtain ⟨k, rfl⟩ : ∃ m, k = m + 1 := ⟨k - 1, by omega⟩
    have c1 : ¬ (i : Int) < ((min s.size 10 : Nat) : Int) := by omega
    simp only [nib_TakeInt.l0]
    rw [if_neg c1]
    by_cases h10 : i = 10
    · subst h10
      cases (bytesOf s).drop 10 with
      | nil => rfl
      | cons b bs => simp only [takeV]; rw [if_pos (by decide)]; rfl
    · rw [List.drop_of_length_le (by rw [bytesOf_length]; omega), take_nil]; rfl
  | succ d ih =>
    intro k i u hi hk hu
    obtain ⟨k, rfl⟩ : ∃ m, k = m + 2 := ⟨k - 2, by omega⟩
    have hlt : i < s.size := by omega
    have h9 : i ≤ 9 := by omega
    have g1 : i + 1 + d = min s.size 10 := by omega
    have g2 : 2 * d + 1 < k := by omega
    have c1 : (i : Int) < ((min s.size 10 : Nat) : Int) := by omega
    have c2 : (0 : Int) ≤ (i : Int) := by omega
    have c3 : (i : Int) < (s.size : Int) := by omega
    have e7 : wrap64 (7 * (i : Int)) = ((7 * i : Nat) : Int) := by rw [w64 _ (by omega) (by omega)]; omega
    have c4 : (0 : Int) ≤ ((7 * i : Nat) : Int) := by omega
    obtain ⟨b, hb⟩ := Int.eq_ofNat_of_zero_le (bt_range s i).1
    have hb2 := (bt_range s i).2
    have hpos := Nat.two_pow_pos (7 * i)
    simp only [nib_TakeInt.l0]
    rw [if_pos c1, if_pos c2, if_pos c3, e7, if_pos c4, drop_step s i hlt, hb]
    rw [hb] at hb2
    clear hb e7
    rw [u8_clear b (by omega), wu64 ((b % 128 : Nat) : Int) (by omega) (by omega)]
    have hX : takeX none = (0, ⟨#[]⟩, false) := rfl
    by_cases h91 : i = 9 ∧ 1 < b
    · have d1 : (i : Int) = 9 := by omega
      have d2 : (b : Int) > 1 := by omega
      have hR : takeV i u ((b : Int) :: (bytesOf s).drop (i + 1)) = none := by
        simp only [takeV]
        rw [if_neg (by omega)]
        by_cases hb1 : (b : Int) < 128
        · rw [if_pos hb1, if_pos (Or.inl ⟨h91.1, d2⟩)]
        · rw [if_neg hb1, if_pos h91.1]
      rw [if_pos d1, if_pos d2, nib_bad, hR, hX]
    · have hm : b % 128 * 2 ^ (7 * i) < 18446744073709551616 := by
        by_cases h9' : i = 9
        · have hb1 : b % 128 ≤ 1 := by omega
          have := Nat.mul_le_mul_right (2 ^ (7 * i)) hb1
          have e : 2 ^ (7 * i) = 9223372036854775808 := by subst h9'; decide
          omega
        · have := Nat.mul_le_mul (show b % 128 ≤ 127 by omega) (pow_le_56 i (by omega))
          omega
      rw [nib_or u (b % 128) i h9 hu hm]
      have hu2 : u + b % 128 * 2 ^ (7 * i) < 2 ^ (7 * (i + 1)) := by
        rw [pow7]
        have := Nat.mul_le_mul_right (2 ^ (7 * i)) (show b % 128 ≤ 127 by omega)
        omega
      have hu3 : u + b % 128 * 2 ^ (7 * i) < 18446744073709551616 := by
        by_cases h9' : i = 9
        · have hb1 : b % 128 ≤ 1 := by omega
          have := Nat.mul_le_mul_right (2 ^ (7 * i)) hb1
          have e : 2 ^ (7 * i) = 9223372036854775808 := by subst h9'; decide
          omega
        · have h1 := pow_le_56 i (by omega)
          have := Nat.mul_le_mul (show b % 128 ≤ 127 by omega) h1
          omega
      have hL : (if (i : Int) = 9 then if (b : Int) > 1 then nib_TakeInt.j1 (k + 1) s ((u + b % 128 * 2 ^ (7 * i) : Nat) : Int) i b ((min s.size 10 : Nat) : Int) i true else if (i : Int) > 0 then nib_TakeInt.j1 (k + 1) s ((u + b % 128 * 2 ^ (7 * i) : Nat) : Int) i b ((min s.size 10 : Nat) : Int) i ((b : Int) == 0) else nib_TakeInt.j1 (k + 1) s ((u + b % 128 * 2 ^ (7 * i) : Nat) : Int) i b ((min s.size 10 : Nat) : Int) i false
          else if (i : Int) > 0 then nib_TakeInt.j1 (k + 1) s ((u + b % 128 * 2 ^ (7 * i) : Nat) : Int) i b ((min s.size 10 : Nat) : Int) i ((b : Int) == 0) else nib_TakeInt.j1 (k + 1) s ((u + b % 128 * 2 ^ (7 * i) : Nat) : Int) i b ((min s.size 10 : Nat) : Int) i false)
          = nib_TakeInt.j1 (k + 1) s ((u + b % 128 * 2 ^ (7 * i) : Nat) : Int) i b ((min s.size 10 : Nat) : Int) i (decide (0 < i ∧ b = 0)) := by
        have hin : (if (i : Int) > 0 then nib_TakeInt.j1 (k + 1) s ((u + b % 128 * 2 ^ (7 * i) : Nat) : Int) i b ((min s.size 10 : Nat) : Int) i ((b : Int) == 0) else nib_TakeInt.j1 (k + 1) s ((u + b % 128 * 2 ^ (7 * i) : Nat) : Int) i b ((min s.size 10 : Nat) : Int) i false)
          = nib_TakeInt.j1 (k + 1) s ((u + b % 128 * 2 ^ (7 * i) : Nat) : Int) i b ((min s.size 10 : Nat) : Int) i (decide (0 < i ∧ b = 0)) := by
          by_cases h0 : 0 < i
          · rw [if_pos (show (i : Int) > 0 by omega)]
            congr 1
            rw [Bool.eq_iff_iff]; simp; omega
          · rw [if_neg (show ¬ (i : Int) > 0 by omega)]
            congr 1
            rw [Bool.eq_iff_iff]; simp; omega
        rw [hin]
        by_cases h9' : (i : Int) = 9
        · rw [if_pos h9', if_neg (show ¬ (b : Int) > 1 by omega)]
        · rw [if_neg h9']
      rw [hL]
      by_cases hz : 0 < i ∧ b = 0
      · have hR : takeV i u ((b : Int) :: (bytesOf s).drop (i + 1)) = none := by
          simp only [takeV]
          rw [if_neg (by omega), if_pos (by omega), if_pos (Or.inr ⟨hz.1, by omega⟩)]
        rw [decide_eq_true hz, nib_bad, hR, hX]
      · rw [decide_eq_false hz]
        by_cases hb1 : (b : Int) < 128
        · have hR : takeV i u ((b : Int) :: (bytesOf s).drop (i + 1)) = some (u + b % 128 * 2 ^ (7 * i), (bytesOf s).drop (i + 1)) := by
            simp only [takeV]
            rw [if_neg (by omega), if_pos hb1, if_neg (by omega), Int.toNat_natCast, show b % 128 = b by omega]
          rw [nib_fin k s _ i b _ hlt h9 hu3 hb1, hR]; rfl
        · have h9' : ¬ i = 9 := by omega
          have hR : takeV i u ((b : Int) :: (bytesOf s).drop (i + 1)) = takeV (i + 1) (u + b % 128 * 2 ^ (7 * i)) ((bytesOf s).drop (i + 1)) := by
            simp only [takeV]
            rw [if_neg (by omega), if_neg hb1, if_neg h9', show ((b : Int) - 128).toNat = b % 128 by omega]
          have hw : wrap64 ((i : Int) + 1) = ((i + 1 : Nat) : Int) := by rw [w64 _ (by omega) (by omega)]; omega
          simp only [nib_TakeInt.j1]
          rw [if_neg Bool.false_ne_true, if_neg hb1, hw, hR]
          exact ih k (i + 1) _ g1 g2 hu2
theorem nibtake_pure (s : ByteArray) (k : Nat) (hk : 30 < k) : nib_TakeInt.f k s = some (takeR s) := by
  unfold nib_TakeInt.f
  have hm : mn (s.size : Int) 10 = ((min s.size 10 : Nat) : Int) := by unfold mn; split <;> omega
  have h0 : 0 < 2 ^ (7 * 0) := Nat.two_pow_pos _
  have h1 : 2 * min s.size 10 + 1 < k := by omega
  have := nibtake_loop s (min s.size 10) k 0 0 (Nat.zero_add _) h1 h0
  rw [Int.natCast_zero, List.drop_zero] at this
  rw [hm, takeR_eq]
  exact this
end Go.Proofs.Ytfjmnaobfbmllaa.M
namespace Go.Proofs.Ytfjmnaobfbmllaa.M
open Go.RowKit Go.Proofs.YtfjmnaobfbmllaaW.PrintWords Go.Proofs.YtfjmnaobfbmllaaW.PrintLast Go.Proofs.YtfjmnaobfbmllaaW.PrintMore
set_option linter.unusedVariables false
set_option linter.unusedSimpArgs false
theorem intB_len (n : Int) : 1 ≤ (intB n).length ∧ (intB n).length ≤ 11 := varF_len 10 _
theorem bytes_append (s t : ByteArray) : bytesOf (s ++ t) = bytesOf s ++ bytesOf t := by
  unfold bytesOf
  rw [ByteArray.data_append, Array.toList_append, List.map_append]
theorem str_append (xs : List Int) (s : ByteArray) (h : ∀ x ∈ xs, 0 ≤ x ∧ x ≤ 255) : strOfNums xs ++ s = strOfNums (xs ++ bytesOf s) := by
  apply bytes_inj
  rw [bytes_append, bytesOf_strOfNums xs h, bytesOf_strOfNums]
  intro x hx
  rw [List.mem_append] at hx
  rcases hx with hx | hx
  · exact h x hx
  · exact bytesOf_range s x hx
theorem str_app2 (xs ys : List Int) (h : ∀ x ∈ xs, 0 ≤ x ∧ x ≤ 255) (h2 : ∀ x ∈ ys, 0 ≤ x ∧ x ≤ 255) : strOfNums xs ++ strOfNums ys = strOfNums (xs ++ ys) := by
  rw [str_append xs _ h, bytesOf_strOfNums ys h2]
theorem intB_range (n : Nat) (hn : n ≤ 4611686018427387904) : ∀ b ∈ intB n, 0 ≤ b ∧ b ≤ 255 := by
  unfold intB
  rw [foldI_nat]
  refine varF_range 10 _ ?_
  have : (128 : Nat) ^ 10 = 1180591620717411303424 := by decide
  omega
def strB (s : ByteArray) : List Int := intB s.size ++ bytesOf s
theorem strB_range (s : ByteArray) (hs : s.size ≤ 4611686018427387904) : ∀ b ∈ strB s, 0 ≤ b ∧ b ≤ 255 := by
  intro b hb
  unfold strB at hb
  rw [List.mem_append] at hb
  rcases hb with hb | hb
  · exact intB_range _ hs b hb
  · exact bytesOf_range s b hb
theorem strB_len (s : ByteArray) : (strB s).length ≤ 11 + s.size := by
  unfold strB
  rw [List.length_append, bytesOf_length]
  have := (intB_len s.size).2
  omega
def nibInt.f (n : Int) : Option ByteArray := if 0 ≤ n ∧ n ≤ 4611686018427387904 then some (strOfNums (intB n)) else none
theorem nibInt.calls (n : Int) (r : ByteArray) (w : World) (h : nibInt.f n = some r) : Calls Try.prog 98 #[.int .i64 n] w fun e w' => e = .returned (.string r) ∧ Below w.heap.size w w' := by
  unfold nibInt.f at h
  split at h
  · rename_i hn
    obtain ⟨m, rfl⟩ := Int.eq_ofNat_of_zero_le hn.1
    exact nib_Int.calls 12 m r w (by rw [nib_pure m (by omega) 12 (by omega)]; exact h)
  · cases h
def nibTake.f (s : ByteArray) : Option (Int × ByteArray × Bool) := some (takeR s)
theorem nibTake.calls (s : ByteArray) (r1 : Int) (r2 : ByteArray) (r3 : Bool) (w : World) (h : nibTake.f s = some (r1, r2, r3)) :
    Calls Try.prog 120 #[.string s] w fun e w' => e = .returned (.tuple #[.int .i64 r1, .string r2, .bool r3]) ∧ Below w.heap.size w w' :=
  nib_TakeInt.calls 31 s r1 r2 r3 w (by rw [nibtake_pure s 31 (by omega)]; exact h)
def textR (m : Int) (t : Int × ByteArray × Bool) : ByteArray × ByteArray × Bool :=
  if t.2.2 = true ∧ 0 ≤ t.1 ∧ t.1 ≤ m ∧ t.1 ≤ t.2.1.size then (t.2.1.extract 0 t.1.toNat, t.2.1.extract t.1.toNat t.2.1.size, true) else (⟨#[]⟩, ⟨#[]⟩, false)
end Go.Proofs.Ytfjmnaobfbmllaa.M
namespace Go.Proofs.Ytfjmnaobfbmllaa.M
open Go.RowKit Go.Proofs.YtfjmnaobfbmllaaW.PrintWords Go.Proofs.YtfjmnaobfbmllaaW.PrintLast Go.Proofs.YtfjmnaobfbmllaaW.PrintMore
set_option linter.unusedVariables false
set_option linter.unusedSimpArgs false
def slotE (x : S33) : List Int := if x.f0 then intB 1 ++ strB x.f1 else intB 0
def numsE (x : S65) : List Int := [x.f0, x.f1.f0, x.f1.f1, x.f1.f2, x.f2, x.f3] ++ (if x.f0 = 1 ∨ x.f0 = 2 then [x.f4, x.f5, x.f8] else [])
def tailE (x : S65) : List Int := if x.f0 = 1 ∨ x.f0 = 2 then slotE x.f6 ++ slotE x.f7 else []
def encE (x : S65) : List Int := (numsE x).flatMap intB ++ tailE x
def small (n : Int) : Prop := 0 ≤ n ∧ n ≤ 4611686018427387904
theorem nums_small {x : S65} (h : GoodE x) : ∀ n ∈ numsE x, small n := by
  obtain ⟨h1, h2, h3, h4⟩ := h
  unfold KnownP at h1
  intro n hn
  unfold numsE at hn
  unfold small
  rw [List.mem_append] at hn
  rcases hn with hn | hn
  · simp only [List.mem_cons, List.not_mem_nil, or_false] at hn
    have hk : 1 ≤ x.f0 ∧ x.f0 ≤ 4 := by rcases h4 with h | h | h <;> omega
    rcases hn with rfl | rfl | rfl | rfl | rfl | rfl <;> omega
  · split at hn
    · simp only [List.mem_cons, List.not_mem_nil, or_false] at hn
      rcases h4 with h | h | h
      · have := h.2.1.1; have := h.2.1.2.1
        rcases hn with rfl | rfl | rfl <;> omega
      · have := h.2.1.1; have := h.2.1.2.1
        rcases hn with rfl | rfl | rfl <;> omega
      · omega
    · cases hn
theorem intB_small {n : Int} (h : small n) : (∀ b ∈ intB n, 0 ≤ b ∧ b ≤ 255) := by
  obtain ⟨m, rfl⟩ := Int.eq_ofNat_of_zero_le h.1
  have := h.2
  exact intB_range m (by omega)
theorem flat_small (l : List Int) (h : ∀ n ∈ l, small n) : ∀ b ∈ l.flatMap intB, 0 ≤ b ∧ b ≤ 255 := by
  intro b hb
  rw [List.mem_flatMap] at hb
  obtain ⟨n, hn, hb⟩ := hb
  exact intB_small (h n hn) b hb
theorem flat_len (l : List Int) : (l.flatMap intB).length ≤ 11 * l.length := by
  induction l with
  | nil => simp
  | cons n l ih =>
    rw [List.flatMap_cons, List.length_append, List.length_cons]
    have := (intB_len n).2
    omega
theorem slotE_range (x : S33) (h : x.f1.size ≤ 200) : ∀ b ∈ slotE x, 0 ≤ b ∧ b ≤ 255 := by
  intro b hb
  unfold slotE at hb
  split at hb
  · rw [List.mem_append] at hb
    rcases hb with hb | hb
    · exact intB_range 1 (by decide) b hb
    · exact strB_range x.f1 (by omega) b hb
  · exact intB_range 0 (by decide) b hb
theorem slotE_len (x : S33) (h : x.f1.size ≤ 200) : (slotE x).length ≤ 222 := by
  unfold slotE
  split
  · rw [List.length_append]
    have := (intB_len 1).2; have := strB_len x.f1; omega
  · have := (intB_len 0).2; omega
theorem good_slots {x : S65} (h : GoodE x) : x.f6.f1.size ≤ 200 ∧ x.f7.f1.size ≤ 200 := by
  rcases h.2.2.2 with h | h | h
  · exact ⟨((odd_fine _).mp h.2.1.2.2.1).2, ((odd_fine _).mp h.2.1.2.2.2).2⟩
  · exact ⟨((odd_fine _).mp h.2.1.2.2.1).2, ((odd_fine _).mp h.2.1.2.2.2).2⟩
  · rw [h.2.2.2.2.1, h.2.2.2.2.2]; exact ⟨fine_z.2, fine_z.2⟩
theorem encE_range {x : S65} (h : GoodE x) : ∀ b ∈ encE x, 0 ≤ b ∧ b ≤ 255 := by
  intro b hb
  unfold encE tailE at hb
  rw [List.mem_append] at hb
  rcases hb with hb | hb
  · exact flat_small _ (nums_small h) b hb
  · split at hb
    · rw [List.mem_append] at hb
      rcases hb with hb | hb
      · exact slotE_range _ (good_slots h).1 b hb
      · exact slotE_range _ (good_slots h).2 b hb
    · cases hb
theorem encE_len {x : S65} (h : GoodE x) : (encE x).length ≤ 600 := by
  unfold encE tailE
  rw [List.length_append]
  have h1 := flat_len (numsE x)
  have h2 : (numsE x).length ≤ 9 := by unfold numsE; split <;> simp
  have := slotE_len _ (good_slots h).1
  have := slotE_len _ (good_slots h).2
  split
  · rw [List.length_append]; omega
  · rw [List.length_nil]; omega
def encX (x : S65) : ByteArray × Int := if GoodE x then (strOfNums (encE x), 0) else (⟨#[]⟩, 1)
end Go.Proofs.Ytfjmnaobfbmllaa.M
namespace Go.Proofs.Ytfjmnaobfbmllaa.M
open Go.RowKit Go.Proofs.YtfjmnaobfbmllaaW.PrintWords Go.Proofs.YtfjmnaobfbmllaaW.PrintLast Go.Proofs.YtfjmnaobfbmllaaW.PrintMore
attribute [local go_sem] max2_int min2_int max_two min_two max_three min_three max_four min_four   -- for this text's walks alone
set_option linter.unusedVariables false
set_option linter.unusedSimpArgs false
def nib_Str.f (a0 : ByteArray) : Option (ByteArray) := (nibInt.f (a0.size : Int)).bind fun t101 => (if t101.size + a0.size ≤ 9223372036854775807 then (some (t101 ++ a0)) else (none))
set_option maxHeartbeats 8000000 in
set_option maxRecDepth 100000 in
theorem nib_Str.calls (a0 : ByteArray) (r : ByteArray) (w : World) (h : nib_Str.f a0 = some r) :
  Calls Try.prog 122 #[.string a0] w fun e w' => e = .returned (.string r) ∧ Below w.heap.size w w' := by
 have HB := aq (Below.refl w.heap.size w)
 have H : ((nibInt.f (a0.size : Int)).bind fun t101 => (if t101.size + a0.size ≤ 9223372036854775807 then (some (t101 ++ a0)) else (none))) = some r := h
 clear h
 replace H := Option.bind_eq_some_iff.mp H
 obtain ⟨t101, A20, H⟩ := H
 try dsimp only at H
 have A2 := aq A20
 clear A20
 by_cases c3 : t101.size + a0.size ≤ 9223372036854775807
 ·rw [if_pos c3] at H
  have c3b0 := eq_true c3
  have c3b1 : decide (t101.size + a0.size ≤ 9223372036854775807) = true := decide_eq_true c3
  try have c3b2 : (9223372036854775807 < t101.size + a0.size) = False := eq_false (Nat.not_lt.2 c3)
  obtain rfl := Option.some.inj H
  go_enter Try.func122, Try.ntmps122
  go_wp2_with (first | ((with_reducible refine gate_callee (f := 98) rfl ?_); refine goesL_ (some 5) rfl rfl Try.func98 (by kernel_rfl) rfl #[.int .i64 (a0.size : Int)] rfl fitR ?_; (with_reducible refine (nibInt.calls (a0.size : Int) t101 _ A2.out).mono ?_); rintro e w4 ⟨rfl, hb⟩; refine ⟨_, rfl, ?_⟩; have n0_ := aq (below_step (stH HB) hb); replace HB := n0_; clear n0_; (try clear hb)))
  go_ret
  exact ⟨eqW, by repeat (first | (with_reducible first | exact HB.out | apply below_alloc | apply pw_below_drewN | apply below_drew1) | exact HB.out)⟩
 ·rw [if_neg c3] at H
  exact absurd H (by simp)
end Go.Proofs.Ytfjmnaobfbmllaa.M
namespace Go.Proofs.Ytfjmnaobfbmllaa.M
open Go.RowKit Go.Proofs.YtfjmnaobfbmllaaW.PrintWords Go.Proofs.YtfjmnaobfbmllaaW.PrintLast Go.Proofs.YtfjmnaobfbmllaaW.PrintMore
attribute [local go_sem] max2_int min2_int max_two min_two max_three min_three max_four min_four   -- for this text's walks alone
set_option linter.unusedVariables false
set_option linter.unusedSimpArgs false
def nib_TakeStr.f (a0 : ByteArray) (a1 : Int) : Option (ByteArray × ByteArray × Bool) := (nibTake.f a0).bind fun bt101 => (if bt101.2.2 = true then (if bt101.1 < 0 then (some ((⟨#[]⟩ : ByteArray), (⟨#[]⟩ : ByteArray), false)) else (if bt101.1 > (mn a1 (bt101.2.1.size : Int)) then (some ((⟨#[]⟩ : ByteArray), (⟨#[]⟩ : ByteArray), false)) else (if 0 ≤ bt101.1 then (if bt101.1 ≤ (bt101.2.1.size : Int) then (some (bt101.2.1.extract 0 (bt101.1 : Int).toNat, bt101.2.1.extract (bt101.1 : Int).toNat bt101.2.1.size, true)) else (none)) else (none)))) else (some ((⟨#[]⟩ : ByteArray), (⟨#[]⟩ : ByteArray), false)))
set_option maxHeartbeats 8000000 in
set_option maxRecDepth 100000 in
theorem nib_TakeStr.calls (a0 : ByteArray) (a1 : Int) (r1 : ByteArray) (r2 : ByteArray) (r3 : Bool) (w : World) (h : nib_TakeStr.f a0 a1 = some (r1, r2, r3)) :
  Calls Try.prog 126 #[.string a0, .int .i64 a1] w fun e w' => e = .returned (.tuple #[.string r1, .string r2, .bool r3]) ∧ Below w.heap.size w w' := by
 have HB := aq (Below.refl w.heap.size w)
 have H : ((nibTake.f a0).bind fun bt101 => (if bt101.2.2 = true then (if bt101.1 < 0 then (some ((⟨#[]⟩ : ByteArray), (⟨#[]⟩ : ByteArray), false)) else (if bt101.1 > (mn a1 (bt101.2.1.size : Int)) then (some ((⟨#[]⟩ : ByteArray), (⟨#[]⟩ : ByteArray), false)) else (if 0 ≤ bt101.1 then (if bt101.1 ≤ (bt101.2.1.size : Int) then (some (bt101.2.1.extract 0 (bt101.1 : Int).toNat, bt101.2.1.extract (bt101.1 : Int).toNat bt101.2.1.size, true)) else (none)) else (none)))) else (some ((⟨#[]⟩ : ByteArray), (⟨#[]⟩ : ByteArray), false)))) = some (r1, r2, r3) := h
 clear h
 replace H := Option.bind_eq_some_iff.mp H
 obtain ⟨⟨t101, t102, t103⟩, A30, H⟩ := H
 try dsimp only at H
 have A3 := aq A30
 clear A30
 by_cases c4 : t103 = true
 ·subst c4
  rw [if_pos rfl] at H
  by_cases c5 : t101 < 0
  ·rw [if_pos c5] at H
   have c5b0 : decide (t101 < 0) = true := decide_eq_true c5
   clear c5
   simp only [Option.some.injEq, Prod.mk.injEq] at H
   obtain ⟨rfl, rfl, rfl⟩ := H
   go_enter Try.func126, Try.ntmps126
   go_wp2_with (first | (go_at_call 120; (with_reducible refine (nibTake.calls a0 t101 t102 true _ A3.out).mono ?_); rintro e w6 ⟨rfl, hb⟩; have n0_ := aq (below_step (stH HB) hb); replace HB := n0_; clear n0_; (try clear hb)))
   repeat (go_quiet (first | (go_at_call 120; (with_reducible refine (nibTake.calls a0 t101 t102 true _ A3.out).mono ?_); rintro e w6 ⟨rfl, hb⟩; have n0_ := aq (below_step (stH HB) hb); replace HB := n0_; clear n0_; (try clear hb))); try go_wp2_with (first | (go_at_call 120; (with_reducible refine (nibTake.calls a0 t101 t102 true _ A3.out).mono ?_); rintro e w6 ⟨rfl, hb⟩; have n0_ := aq (below_step (stH HB) hb); replace HB := n0_; clear n0_; (try clear hb))))
   go_ret3
   exact ⟨eqW, by repeat (first | (with_reducible first | exact HB.out | apply below_alloc | apply pw_below_drewN | apply below_drew1) | exact HB.out)⟩
  ·rw [if_neg c5] at H
   have c5b0 : decide (t101 < 0) = false := decide_eq_false c5
   clear c5
   obtain ⟨ji7, hji7⟩ : ∃ j_ : Int, (mn a1 (t102.size : Int)) = j_ := ⟨_, rfl⟩
   replace H : (if t101 > (ji7) then (some ((⟨#[]⟩ : ByteArray), (⟨#[]⟩ : ByteArray), false)) else (if 0 ≤ t101 then (if t101 ≤ (t102.size : Int) then (some (t102.extract 0 (t101 : Int).toNat, t102.extract (t101 : Int).toNat t102.size, true)) else (none)) else (none))) = some (r1, r2, r3) := by first | (rw [hji7] at H; exact H) | (simp only [hji7] at H ⊢; exact H)
   (try rw [hji7] at A3)
   have hji7_ : (if (t102.size : Int) < a1 then (t102.size : Int) else a1) = ji7 := hji7
   by_cases c8 : t101 > (ji7)
   ·rw [if_pos c8] at H
    have c8b0 : decide ((ji7) < t101) = true := decide_eq_true c8
    clear c8
    simp only [Option.some.injEq, Prod.mk.injEq] at H
    obtain ⟨rfl, rfl, rfl⟩ := H
    go_enter Try.func126, Try.ntmps126
    go_wp2_with (first | (go_at_call 120; (with_reducible refine (nibTake.calls a0 t101 t102 true _ A3.out).mono ?_); rintro e w9 ⟨rfl, hb⟩; have n0_ := aq (below_step (stH HB) hb); replace HB := n0_; clear n0_; (try clear hb)))
    repeat (go_quiet (first | (go_at_call 120; (with_reducible refine (nibTake.calls a0 t101 t102 true _ A3.out).mono ?_); rintro e w9 ⟨rfl, hb⟩; have n0_ := aq (below_step (stH HB) hb); replace HB := n0_; clear n0_; (try clear hb))); try go_wp2_with (first | (go_at_call 120; (with_reducible refine (nibTake.calls a0 t101 t102 true _ A3.out).mono ?_); rintro e w9 ⟨rfl, hb⟩; have n0_ := aq (below_step (stH HB) hb); replace HB := n0_; clear n0_; (try clear hb))))
    go_ret3
    exact ⟨by first | rfl | (simp [errW_none, errW_some] <;> rfl) | (simp only [← hji7]; first | rfl | (simp [errW_none, errW_some] <;> rfl)) | (simp [*, errW_none, errW_some] <;> rfl), by repeat (first | (with_reducible first | exact HB.out | apply below_alloc | apply pw_below_drewN | apply below_drew1) | exact HB.out)⟩
   ·rw [if_neg c8] at H
    have c8b0 : decide ((ji7) < t101) = false := decide_eq_false c8
    clear c8
    by_cases c10 : 0 ≤ t101
    ·rw [if_pos c10] at H
     have c10b0 := eq_true c10
     have c10b1 : decide (0 ≤ t101) = true := decide_eq_true c10
     clear c10
     by_cases c11 : t101 ≤ (t102.size : Int)
     ·rw [if_pos c11] at H
      have c11b0 := eq_true c11
      have c11b1 : decide (t101 ≤ (t102.size : Int)) = true := decide_eq_true c11
      clear c11
      have c12b0 := eq_true (of_decide_eq_true (by first | (with_reducible assumption) | assumption) : 0 ≤ t101)
      have c13b0 := eq_true (of_decide_eq_true (by first | (with_reducible assumption) | assumption) : t101 ≤ (t102.size : Int))
      simp only [Option.some.injEq, Prod.mk.injEq] at H
      obtain ⟨rfl, rfl, rfl⟩ := H
      go_enter Try.func126, Try.ntmps126
      go_wp2_with (first | (go_at_call 120; (with_reducible refine (nibTake.calls a0 t101 t102 true _ A3.out).mono ?_); rintro e w14 ⟨rfl, hb⟩; have n0_ := aq (below_step (stH HB) hb); replace HB := n0_; clear n0_; (try clear hb)))
      repeat (go_quiet (first | (go_at_call 120; (with_reducible refine (nibTake.calls a0 t101 t102 true _ A3.out).mono ?_); rintro e w14 ⟨rfl, hb⟩; have n0_ := aq (below_step (stH HB) hb); replace HB := n0_; clear n0_; (try clear hb))); try go_wp2_with (first | (go_at_call 120; (with_reducible refine (nibTake.calls a0 t101 t102 true _ A3.out).mono ?_); rintro e w14 ⟨rfl, hb⟩; have n0_ := aq (below_step (stH HB) hb); replace HB := n0_; clear n0_; (try clear hb))))
      go_ret3
      exact ⟨by first | rfl | (simp [errW_none, errW_some] <;> rfl) | (simp only [← hji7]; first | rfl | (simp [errW_none, errW_some] <;> rfl)) | (simp [*, errW_none, errW_some] <;> rfl), by repeat (first | (with_reducible first | exact HB.out | apply below_alloc | apply pw_below_drewN | apply below_drew1) | exact HB.out)⟩
     ·rw [if_neg c11] at H
      exact absurd H (by simp)
    ·rw [if_neg c10] at H
     exact absurd H (by simp)
 ·replace c4 := Bool.eq_false_iff.mpr c4
  subst c4
  rw [if_neg (show ¬ (false = true) by decide)] at H
  simp only [Option.some.injEq, Prod.mk.injEq] at H
  obtain ⟨rfl, rfl, rfl⟩ := H
  go_enter Try.func126, Try.ntmps126
  go_wp2_with (first | (go_at_call 120; (with_reducible refine (nibTake.calls a0 t101 t102 false _ A3.out).mono ?_); rintro e w15 ⟨rfl, hb⟩; have n0_ := aq (below_step (stH HB) hb); replace HB := n0_; clear n0_; (try clear hb)))
  repeat (go_quiet (first | (go_at_call 120; (with_reducible refine (nibTake.calls a0 t101 t102 false _ A3.out).mono ?_); rintro e w15 ⟨rfl, hb⟩; have n0_ := aq (below_step (stH HB) hb); replace HB := n0_; clear n0_; (try clear hb))); try go_wp2_with (first | (go_at_call 120; (with_reducible refine (nibTake.calls a0 t101 t102 false _ A3.out).mono ?_); rintro e w15 ⟨rfl, hb⟩; have n0_ := aq (below_step (stH HB) hb); replace HB := n0_; clear n0_; (try clear hb))))
  go_ret3
  exact ⟨eqW, by repeat (first | (with_reducible first | exact HB.out | apply below_alloc | apply pw_below_drewN | apply below_drew1) | exact HB.out)⟩
end Go.Proofs.Ytfjmnaobfbmllaa.M
namespace Go.Proofs.Ytfjmnaobfbmllaa.M
open Go.RowKit Go.Proofs.YtfjmnaobfbmllaaW.PrintWords Go.Proofs.YtfjmnaobfbmllaaW.PrintLast Go.Proofs.YtfjmnaobfbmllaaW.PrintMore
set_option linter.unusedVariables false
set_option linter.unusedSimpArgs false
def nibStr.f (s : ByteArray) : Option ByteArray := if s.size ≤ 4611686018427387904 then some (strOfNums (strB s)) else none
theorem nibStr.calls (s r : ByteArray) (w : World) (h : nibStr.f s = some r) : Calls Try.prog 122 #[.string s] w fun e w' => e = .returned (.string r) ∧ Below w.heap.size w w' := by
  unfold nibStr.f at h
  split at h
  · rename_i hs
    refine nib_Str.calls s r w ?_
    unfold nib_Str.f nibInt.f
    have := (intB_len s.size).2
    rw [if_pos (show 0 ≤ (s.size : Int) ∧ (s.size : Int) ≤ 4611686018427387904 by omega), Option.bind_some, if_pos (by rw [strOfNums_size]; omega), str_append _ _ (intB_range _ hs)]
    exact h
  · cases h
def nibTakeStr.f (s : ByteArray) (m : Int) : Option (ByteArray × ByteArray × Bool) := some (textR m (takeR s))
theorem nibtext_pure (s : ByteArray) (m : Int) : nib_TakeStr.f s m = some (textR m (takeR s)) := by
  unfold nib_TakeStr.f nibTake.f
  rw [Option.bind_some]
  generalize takeR s = t
  obtain ⟨n, rest, ok⟩ := t
  unfold textR
  simp only
  have hmn : mn m (rest.size : Int) = if m ≤ rest.size then m else rest.size := by unfold mn; split <;> split <;> omega
  cases ok with
  | false => rw [if_neg Bool.false_ne_true, if_neg (by simp)]
  | true =>
    rw [if_pos rfl]
    by_cases h0 : n < 0
    · rw [if_pos h0, if_neg (by omega)]
    · rw [if_neg h0]
      by_cases h1 : n > mn m (rest.size : Int)
      · rw [if_pos h1, if_neg]
        rintro ⟨_, _, h2, h3⟩
        rw [hmn] at h1
        split at h1 <;> omega
      · have h2 : n ≤ m ∧ n ≤ rest.size := by
          rw [hmn] at h1
          split at h1 <;> omega
        rw [if_neg h1, if_pos (show 0 ≤ n by omega), if_pos h2.2, if_pos ⟨rfl, by omega, h2.1, h2.2⟩]
theorem nibTakeStr.calls (s : ByteArray) (m : Int) (r1 r2 : ByteArray) (r3 : Bool) (w : World) (h : nibTakeStr.f s m = some (r1, r2, r3)) :
    Calls Try.prog 126 #[.string s, .int .i64 m] w fun e w' => e = .returned (.tuple #[.string r1, .string r2, .bool r3]) ∧ Below w.heap.size w w' :=
  nib_TakeStr.calls s m r1 r2 r3 w (by rw [nibtext_pure s m]; exact h)
end Go.Proofs.Ytfjmnaobfbmllaa.M
namespace Go.Proofs.Ytfjmnaobfbmllaa.M
open Go.RowKit Go.Proofs.YtfjmnaobfbmllaaW.PrintWords Go.Proofs.YtfjmnaobfbmllaaW.PrintLast Go.Proofs.YtfjmnaobfbmllaaW.PrintMore
attribute [local go_sem] max2_int min2_int max_two min_two max_three min_three max_four min_four   -- for this text's walks alone
set_option linter.unusedVariables false
set_option linter.unusedSimpArgs false
def entry_slot.f (a0_0 : Bool) (a0_1 : ByteArray) : Option (ByteArray) := if a0_0 = true then ((nibInt.f 1).bind fun t102 => ((nibStr.f a0_1).bind fun t103 => (if t102.size + t103.size ≤ 9223372036854775807 then (some (t102 ++ t103)) else (none)))) else ((nibInt.f 0).bind fun t104 => (some t104))
set_option maxHeartbeats 8000000 in
set_option maxRecDepth 100000 in
theorem entry_slot.calls (a0_0 : Bool) (a0_1 : ByteArray) (r : ByteArray) (w : World) (h : entry_slot.f a0_0 a0_1 = some r) :
  Calls Try.prog 99 #[.agg #[.bool a0_0, .string a0_1]] w fun e w' => e = .returned (.string r) ∧ Below w.heap.size w w' := by
 have hu33 := Try.underlying33
 have HB := aq (Below.refl w.heap.size w)
 have H : (if a0_0 = true then ((nibInt.f 1).bind fun t102 => ((nibStr.f a0_1).bind fun t103 => (if t102.size + t103.size ≤ 9223372036854775807 then (some (t102 ++ t103)) else (none)))) else ((nibInt.f 0).bind fun t104 => (some t104))) = some r := h
 clear h
 by_cases c2 : a0_0 = true
 ·subst c2
  rw [if_pos rfl] at H
  replace H := Option.bind_eq_some_iff.mp H
  obtain ⟨t102, A30, H⟩ := H
  try dsimp only at H
  have A3 := aq A30
  clear A30
  replace H := Option.bind_eq_some_iff.mp H
  obtain ⟨t103, A40, H⟩ := H
  try dsimp only at H
  have A4 := aq A40
  clear A40
  by_cases c5 : t102.size + t103.size ≤ 9223372036854775807
  ·rw [if_pos c5] at H
   have c5b0 := eq_true c5
   have c5b1 : decide (t102.size + t103.size ≤ 9223372036854775807) = true := decide_eq_true c5
   try have c5b2 : (9223372036854775807 < t102.size + t103.size) = False := eq_false (Nat.not_lt.2 c5)
   obtain rfl := Option.some.inj H
   go_enter Try.func99, Try.ntmps99
   try go_wp2_with (first | ((with_reducible refine gate_dst (N := 1) rfl ?_); refine box_event ?hg (N := 1) ?hd (cs := #[.bool true, .string a0_1]) (t := 33) ?hr ?_; (case hd => rfl); (case hg => rfl); (case hr => first | (go_simp; done) | (go_simp; rfl)); intro gb101 hg w6 hbox hb; have n0_ := aq (below_step (stH HB) hb); have n1_ := aq (hbox); have n2_ := aq ((by rw [hg]; exact (below_size (stH HB)) : w.heap.size ≤ gb101)); have n3_ := aq ((by rw [hg]; exact (below_size (stH HB)) : w.heap.size ≤ gb101)); replace HB := n0_; have BK101 := n1_; have GW101 := n2_; have GE101 := n3_; clear n0_ n1_ n2_ n3_; clear hb hbox hg; obtain ⟨k7a, k7b⟩ := cl2 (W := w6) BK101.out; obtain ⟨u7a, u7b⟩ := fr2 BK101.out))
   have n0_ := aq (blk_drew BK101.out)
   have n1_ := aq (below_drew1 HB.out)
   clear BK101
   clear HB
   have BK101 := n0_
   have HB := n1_
   clear n0_ n1_
   refine start_ (n := 6) (S := fun w' => w'.cell? ⟨gb101, 0, none⟩ = some (.bool true) ∧ w'.cell? ⟨gb101, 1, none⟩ = some (.string a0_1)) (ds := []) #[false, false, false, false, false, false] (by kernel_rfl) rfl rfl ⟨(blk_cell BK101.out 0).trans rfl, (blk_cell BK101.out 1).trans rfl⟩ (fun hHeld => ?_)
   generalize w6.drew = w8 at BK101 HB hHeld ⊢
   refine pure_ (i := 1) (N := some 8) (v := ?_) (a' := ?_) #[false, true, false, false, false, false] rfl rfl (by kernel_rfl) (fun _ _ _ h => h) (Or.inl ⟨by rfl, ?_⟩) ?_ ?_
   rotate_left
   ·intro w'
    go_simp
    with_reducible rfl
   rotate_left
   ·simp only [Act.put, List.setIfInBounds_toArray, List.set_cons_zero, List.set_cons_succ, i64_w, i32_w]
    rfl
   refine take_ (i := 2) (N := some 9) (v := ?_) (a' := ?_) #[false, true, true, false, false, false] rfl rfl (by kernel_rfl) (fun _ _ _ h => h) (Or.inl ⟨by rfl, ?_⟩) hHeld ?_ ?_
   rotate_left
   ·rintro w' ⟨s0, s1⟩
    go_simp
    with_reducible rfl
   rotate_left
   ·simp only [Act.put, List.setIfInBounds_toArray, List.set_cons_zero, List.set_cons_succ, i64_w, i32_w]
    rfl
   refine one_ (i := 0) (N := some 7) #[true, true, true, false, false, false] rfl rfl (by kernel_rfl) (by decide) (fun K hK => ?_)
   refine goes_ Try.func98 (by kernel_rfl) rfl #[.int .i64 1] (by rfl) rfl rfl fitR ?_
   with_reducible refine (nibInt.calls 1 t102 _ A3.out).mono ?_
   rintro e w9 ⟨rfl, hb⟩
   refine ⟨_, rfl, ?_⟩
   have n0_ := aq (blk_below (stB BK101) hb)
   have n1_ := aq (below_step (stH HB) hb)
   clear BK101
   clear HB
   have BK101 := n0_
   have HB := n1_
   clear n0_ n1_
   (try clear hb)
   (try clear hb2)
   (try clear hk)
   (try clear hi)
   refine hK.out _ _ ⟨(blk_cell BK101.out 0).trans rfl, (blk_cell BK101.out 1).trans rfl⟩ (fun hHeld => ?_)
   clear hK K
   refine norm_ (a' := ?_) ?_ ?_
   rotate_left
   ·show Act.put _ (some 7) _ = _
    simp only [Act.put, List.setIfInBounds_toArray, List.set_cons_zero, List.set_cons_succ, i64_w, i32_w]
    rfl
   refine one_ (i := 3) (N := some 10) #[true, true, true, true, false, false] rfl rfl (by kernel_rfl) (by decide) (fun K hK => ?_)
   refine goes_ Try.func122 (by kernel_rfl) rfl #[.string a0_1] (by rfl) rfl rfl fitR ?_
   with_reducible refine (nibStr.calls a0_1 t103 _ A4.out).mono ?_
   rintro e w10 ⟨rfl, hb⟩
   refine ⟨_, rfl, ?_⟩
   have n0_ := aq (blk_below (stB BK101) hb)
   have n1_ := aq (below_step (stH HB) hb)
   clear BK101
   clear HB
   have BK101 := n0_
   have HB := n1_
   clear n0_ n1_
   (try clear hb)
   (try clear hb2)
   (try clear hk)
   (try clear hi)
   refine hK.out _ _ ⟨(blk_cell BK101.out 0).trans rfl, (blk_cell BK101.out 1).trans rfl⟩ (fun hHeld => ?_)
   clear hK K
   refine norm_ (a' := ?_) ?_ ?_
   rotate_left
   ·show Act.put _ (some 10) _ = _
    simp only [Act.put, List.setIfInBounds_toArray, List.set_cons_zero, List.set_cons_succ, i64_w, i32_w]
    rfl
   refine pure_ (i := 4) (N := some 11) (v := ?_) (a' := ?_) #[true, true, true, true, true, false] rfl rfl (by kernel_rfl) (fun _ _ _ h => h) (Or.inl ⟨by rfl, ?_⟩) ?_ ?_
   rotate_left
   ·intro w'
    go_simp
    with_reducible rfl
   rotate_left
   ·simp only [Act.put, List.setIfInBounds_toArray, List.set_cons_zero, List.set_cons_succ, i64_w, i32_w]
    rfl
   refine pure_ (i := 5) (N := some 2) (v := ?_) (a' := ?_) #[true, true, true, true, true, true] rfl rfl (by kernel_rfl) (fun _ _ _ h => h) (Or.inl ⟨by rfl, ?_⟩) ?_ ?_
   rotate_left
   ·intro w'
    go_simp
    with_reducible rfl
   rotate_left
   ·simp only [Act.put, List.setIfInBounds_toArray, List.set_cons_zero, List.set_cons_succ, i64_w, i32_w]
    rfl
   refine done_ (by kernel_rfl) ?_
   try go_wp2
   go_ret
   exact ⟨eqW, by repeat (first | (with_reducible first | exact HB.out | apply below_alloc | apply pw_below_drewN | apply below_drew1 | refine below_set ?_ GE101.out) | exact HB.out)⟩
  ·rw [if_neg c5] at H
   exact absurd H (by simp)
 ·replace c2 := Bool.eq_false_iff.mpr c2
  subst c2
  rw [if_neg (show ¬ (false = true) by decide)] at H
  replace H := Option.bind_eq_some_iff.mp H
  obtain ⟨t104, A110, H⟩ := H
  try dsimp only at H
  have A11 := aq A110
  clear A110
  obtain rfl := Option.some.inj H
  go_enter Try.func99, Try.ntmps99
  go_wp2_with (first | ((with_reducible refine gate_dst (N := 1) rfl ?_); refine box_event ?hg (N := 1) ?hd (cs := #[.bool false, .string a0_1]) (t := 33) ?hr ?_; (case hd => rfl); (case hg => rfl); (case hr => first | (go_simp; done) | (go_simp; rfl)); intro gb101 hg w12 hbox hb; have n0_ := aq (below_step (stH HB) hb); have n1_ := aq (hbox); have n2_ := aq ((by rw [hg]; exact (below_size (stH HB)) : w.heap.size ≤ gb101)); have n3_ := aq ((by rw [hg]; exact (below_size (stH HB)) : w.heap.size ≤ gb101)); replace HB := n0_; have BK101 := n1_; have GW101 := n2_; have GE101 := n3_; clear n0_ n1_ n2_ n3_; clear hb hbox hg; obtain ⟨k13a, k13b⟩ := cl2 (W := w12) BK101.out; obtain ⟨u13a, u13b⟩ := fr2 BK101.out) | ((with_reducible refine gate_callee (f := 98) rfl ?_); refine goesL_ (some 6) rfl rfl Try.func98 (by kernel_rfl) rfl #[.int .i64 0] rfl fitR ?_; (with_reducible refine (nibInt.calls 0 t104 _ A11.out).mono ?_); rintro e w14 ⟨rfl, hb⟩; refine ⟨_, rfl, ?_⟩; have n0_ := aq (blk_below (stB BK101) hb); have n1_ := aq (below_step (stH HB) hb); replace BK101 := n0_; replace HB := n1_; clear n0_ n1_; (try clear hb)))
  go_ret
  exact ⟨eqW, by repeat (first | (with_reducible first | exact HB.out | apply below_alloc | apply pw_below_drewN | apply below_drew1 | refine below_set ?_ GE101.out) | exact HB.out)⟩
end Go.Proofs.Ytfjmnaobfbmllaa.M
namespace Go.Proofs.Ytfjmnaobfbmllaa.M
open Go.RowKit Go.Proofs.YtfjmnaobfbmllaaW.PrintWords Go.Proofs.YtfjmnaobfbmllaaW.PrintLast Go.Proofs.YtfjmnaobfbmllaaW.PrintMore
set_option linter.unusedVariables false
set_option linter.unusedSimpArgs false
theorem entslot_eq (u : Bool) (d : ByteArray) (h : d.size ≤ 200) : entry_slot.f u d = some (strOfNums (slotE ⟨u, d⟩)) := by
 unfold entry_slot.f nibInt.f nibStr.f slotE
 have h1 := (intB_len 1).2
 have h2 := strB_len d
 cases u with
 | true =>
  rw [if_pos rfl, if_pos (by decide), Option.bind_some, if_pos (by omega), Option.bind_some, if_pos (by rw [strOfNums_size, strOfNums_size]; omega),
   str_app2 _ _ (show ∀ b ∈ intB 1, 0 ≤ b ∧ b ≤ 255 from intB_range 1 (by decide)) (strB_range d (by omega))]
  rfl
 | false =>
  rw [if_neg Bool.false_ne_true, if_pos (by decide), Option.bind_some]
  rfl
theorem field_at (x : S65) (g i : Nat) (hi : i < (numsE x).length) : ∃ o : Nat, (fieldPs g)[i]? = some (.pointer (some ⟨g, o, none⟩)) ∧ (#[.int .i64 x.f0, .int .i64 x.f1.f0, .int .i64 x.f1.f1, .int .i64 x.f1.f2, .int .i64 x.f2, .int .i64 x.f3, .int .i64 x.f4, .int .i64 x.f5, .bool x.f6.f0, .string x.f6.f1, .bool x.f7.f0, .string x.f7.f1, .int .i64 x.f8] : Array Value)[o]? = some (.int .i64 (numsE x)[i]) := by
 unfold numsE at hi ⊢
 split at hi
 ·have : i = 0 ∨ i = 1 ∨ i = 2 ∨ i = 3 ∨ i = 4 ∨ i = 5 ∨ i = 6 ∨ i = 7 ∨ i = 8 := by simp at hi; omega
  rename_i hk
  simp only [if_pos hk]
  rcases this with rfl | rfl | rfl | rfl | rfl | rfl | rfl | rfl | rfl <;> exact ⟨_, rfl, rfl⟩
 ·have : i = 0 ∨ i = 1 ∨ i = 2 ∨ i = 3 ∨ i = 4 ∨ i = 5 := by simp at hi; omega
  rename_i hk
  simp only [if_neg hk]
  rcases this with rfl | rfl | rfl | rfl | rfl | rfl <;> exact ⟨_, rfl, rfl⟩
theorem nums_len (x : S65) : (numsE x).length = if x.f0 = 1 ∨ x.f0 = 2 then 9 else 6 := by unfold numsE; split <;> simp
set_option maxHeartbeats 8000000 in
set_option maxRecDepth 100000 in
theorem entry_Encode.bad (x : S65) (hg : ¬ GoodE x) (w : World) :
  Calls Try.prog 53 #[.agg #[.int .i64 x.f0, .int .i64 x.f1.f0, .int .i64 x.f1.f1, .int .i64 x.f1.f2, .int .i64 x.f2, .int .i64 x.f3, .int .i64 x.f4, .int .i64 x.f5, .bool x.f6.f0, .string x.f6.f1, .bool x.f7.f0, .string x.f7.f1, .int .i64 x.f8]] w fun e w' => e = .returned (.tuple #[.string ⟨#[]⟩, .int .i64 1]) ∧ Below w.heap.size w w' := by
 have hu65 := Try.underlying65
 have HGD : Aside0 (entGood.f x.f0 x.f1.f0 x.f1.f1 x.f1.f2 x.f2 x.f3 x.f4 x.f5 x.f6.f0 x.f6.f1 x.f7.f0 x.f7.f1 x.f8 = some false) := ⟨congrArg some (decide_eq_false hg)⟩
 go_enter Try.func53, Try.ntmps53
 go_wp2_with (first | ((with_reducible refine gate_dst (N := 1) rfl ?_); refine box_event ?hg (N := 1) ?hd (cs := #[.int .i64 x.f0, .int .i64 x.f1.f0, .int .i64 x.f1.f1, .int .i64 x.f1.f2, .int .i64 x.f2, .int .i64 x.f3, .int .i64 x.f4, .int .i64 x.f5, .bool x.f6.f0, .string x.f6.f1, .bool x.f7.f0, .string x.f7.f1, .int .i64 x.f8]) (t := 65) ?hr ?_; (case hd => rfl); (case hg => rfl); (case hr => first | (go_simp; done) | (go_simp; rfl)); intro g1 hg1 w2 hbox hb; have HBK := aq hbox; have HB := aq hb; have HG := aq (show w.heap.size ≤ g1 by rw [hg1]; exact Nat.le_refl _); clear hbox hb hg1; have hcz0 : w2.cell? ⟨g1, 0, none⟩ = some (.int .i64 x.f0) := (blk_cell HBK.out 0).trans rfl; have hfz0 := blk_frozen HBK.out 0; have hcz1 : w2.cell? ⟨g1, 1, none⟩ = some (.int .i64 x.f1.f0) := (blk_cell HBK.out 1).trans rfl; have hfz1 := blk_frozen HBK.out 1; have hcz2 : w2.cell? ⟨g1, 2, none⟩ = some (.int .i64 x.f1.f1) := (blk_cell HBK.out 2).trans rfl; have hfz2 := blk_frozen HBK.out 2; have hcz3 : w2.cell? ⟨g1, 3, none⟩ = some (.int .i64 x.f1.f2) := (blk_cell HBK.out 3).trans rfl; have hfz3 := blk_frozen HBK.out 3; have hcz4 : w2.cell? ⟨g1, 4, none⟩ = some (.int .i64 x.f2) := (blk_cell HBK.out 4).trans rfl; have hfz4 := blk_frozen HBK.out 4; have hcz5 : w2.cell? ⟨g1, 5, none⟩ = some (.int .i64 x.f3) := (blk_cell HBK.out 5).trans rfl; have hfz5 := blk_frozen HBK.out 5; have hcz6 : w2.cell? ⟨g1, 6, none⟩ = some (.int .i64 x.f4) := (blk_cell HBK.out 6).trans rfl; have hfz6 := blk_frozen HBK.out 6; have hcz7 : w2.cell? ⟨g1, 7, none⟩ = some (.int .i64 x.f5) := (blk_cell HBK.out 7).trans rfl; have hfz7 := blk_frozen HBK.out 7; have hcz8 : w2.cell? ⟨g1, 8, none⟩ = some (.bool x.f6.f0) := (blk_cell HBK.out 8).trans rfl; have hfz8 := blk_frozen HBK.out 8; have hcz9 : w2.cell? ⟨g1, 9, none⟩ = some (.string x.f6.f1) := (blk_cell HBK.out 9).trans rfl; have hfz9 := blk_frozen HBK.out 9; have hcz10 : w2.cell? ⟨g1, 10, none⟩ = some (.bool x.f7.f0) := (blk_cell HBK.out 10).trans rfl; have hfz10 := blk_frozen HBK.out 10; have hcz11 : w2.cell? ⟨g1, 11, none⟩ = some (.string x.f7.f1) := (blk_cell HBK.out 11).trans rfl; have hfz11 := blk_frozen HBK.out 11; have hcz12 : w2.cell? ⟨g1, 12, none⟩ = some (.int .i64 x.f8) := (blk_cell HBK.out 12).trans rfl; have hfz12 := blk_frozen HBK.out 12) | ((with_reducible refine gate_callee (f := 55) rfl ?_); refine goesL_ (some 8) rfl rfl Try.func55 (by kernel_rfl) rfl #[.agg #[.int .i64 x.f0, .int .i64 x.f1.f0, .int .i64 x.f1.f1, .int .i64 x.f1.f2, .int .i64 x.f2, .int .i64 x.f3, .int .i64 x.f4, .int .i64 x.f5, .bool x.f6.f0, .string x.f6.f1, .bool x.f7.f0, .string x.f7.f1, .int .i64 x.f8]] rfl (by (try simp only [List.map_toArray, List.map_cons, List.map_nil]); first | done | rfl) ?_; (with_reducible refine (entGood.calls x.f0 x.f1.f0 x.f1.f1 x.f1.f2 x.f2 x.f3 x.f4 x.f5 x.f6.f0 x.f6.f1 x.f7.f0 x.f7.f1 x.f8 false _ HGD.out).mono ?_); rintro e w3 ⟨rfl, hb⟩; refine ⟨_, rfl, ?_⟩; have n0_ := aq (blk_below HBK.out hb); have n1_ := aq (below_step HB.out hb); clear HBK HB; have HBK := n0_; have HB := n1_; clear n0_ n1_ hb; clear hcz0 hfz0 hcz1 hfz1 hcz2 hfz2 hcz3 hfz3 hcz4 hfz4 hcz5 hfz5 hcz6 hfz6 hcz7 hfz7 hcz8 hfz8 hcz9 hfz9 hcz10 hfz10 hcz11 hfz11 hcz12 hfz12; have hcz0 : w3.cell? ⟨g1, 0, none⟩ = some (.int .i64 x.f0) := (blk_cell HBK.out 0).trans rfl; have hfz0 := blk_frozen HBK.out 0; have hcz1 : w3.cell? ⟨g1, 1, none⟩ = some (.int .i64 x.f1.f0) := (blk_cell HBK.out 1).trans rfl; have hfz1 := blk_frozen HBK.out 1; have hcz2 : w3.cell? ⟨g1, 2, none⟩ = some (.int .i64 x.f1.f1) := (blk_cell HBK.out 2).trans rfl; have hfz2 := blk_frozen HBK.out 2; have hcz3 : w3.cell? ⟨g1, 3, none⟩ = some (.int .i64 x.f1.f2) := (blk_cell HBK.out 3).trans rfl; have hfz3 := blk_frozen HBK.out 3; have hcz4 : w3.cell? ⟨g1, 4, none⟩ = some (.int .i64 x.f2) := (blk_cell HBK.out 4).trans rfl; have hfz4 := blk_frozen HBK.out 4; have hcz5 : w3.cell? ⟨g1, 5, none⟩ = some (.int .i64 x.f3) := (blk_cell HBK.out 5).trans rfl; have hfz5 := blk_frozen HBK.out 5; have hcz6 : w3.cell? ⟨g1, 6, none⟩ = some (.int .i64 x.f4) := (blk_cell HBK.out 6).trans rfl; have hfz6 := blk_frozen HBK.out 6; have hcz7 : w3.cell? ⟨g1, 7, none⟩ = some (.int .i64 x.f5) := (blk_cell HBK.out 7).trans rfl; have hfz7 := blk_frozen HBK.out 7; have hcz8 : w3.cell? ⟨g1, 8, none⟩ = some (.bool x.f6.f0) := (blk_cell HBK.out 8).trans rfl; have hfz8 := blk_frozen HBK.out 8; have hcz9 : w3.cell? ⟨g1, 9, none⟩ = some (.string x.f6.f1) := (blk_cell HBK.out 9).trans rfl; have hfz9 := blk_frozen HBK.out 9; have hcz10 : w3.cell? ⟨g1, 10, none⟩ = some (.bool x.f7.f0) := (blk_cell HBK.out 10).trans rfl; have hfz10 := blk_frozen HBK.out 10; have hcz11 : w3.cell? ⟨g1, 11, none⟩ = some (.string x.f7.f1) := (blk_cell HBK.out 11).trans rfl; have hfz11 := blk_frozen HBK.out 11; have hcz12 : w3.cell? ⟨g1, 12, none⟩ = some (.int .i64 x.f8) := (blk_cell HBK.out 12).trans rfl; have hfz12 := blk_frozen HBK.out 12))
 go_ret2
 exact ⟨rfl, HB.out⟩
set_option maxHeartbeats 8000000 in
set_option maxRecDepth 100000 in
theorem entry_Encode.good (x : S65) (hg : GoodE x) (w : World) :
  Calls Try.prog 53 #[.agg #[.int .i64 x.f0, .int .i64 x.f1.f0, .int .i64 x.f1.f1, .int .i64 x.f1.f2, .int .i64 x.f2, .int .i64 x.f3, .int .i64 x.f4, .int .i64 x.f5, .bool x.f6.f0, .string x.f6.f1, .bool x.f7.f0, .string x.f7.f1, .int .i64 x.f8]] w fun e w' => e = .returned (.tuple #[.string (strOfNums (encE x)), .int .i64 0]) ∧ Below w.heap.size w w' := by
 have hu65 := Try.underlying65
 have hu116 := Try.underlying116
 have hu33 := Try.underlying33
 have HGD : Aside0 (entGood.f x.f0 x.f1.f0 x.f1.f1 x.f1.f2 x.f2 x.f3 x.f4 x.f5 x.f6.f0 x.f6.f1 x.f7.f0 x.f7.f1 x.f8 = some true) := ⟨congrArg some (decide_eq_true hg)⟩
 have HGG := aq hg
 clear hg
 go_enter Try.func53, Try.ntmps53
 go_wp2_with (first | ((with_reducible refine gate_dst (N := 1) rfl ?_); refine box_event ?hg (N := 1) ?hd (cs := #[.int .i64 x.f0, .int .i64 x.f1.f0, .int .i64 x.f1.f1, .int .i64 x.f1.f2, .int .i64 x.f2, .int .i64 x.f3, .int .i64 x.f4, .int .i64 x.f5, .bool x.f6.f0, .string x.f6.f1, .bool x.f7.f0, .string x.f7.f1, .int .i64 x.f8]) (t := 65) ?hr ?_; (case hd => rfl); (case hg => rfl); (case hr => first | (go_simp; done) | (go_simp; rfl)); intro g1 hg1 w2 hbox hb; have HBK := aq hbox; have HB := aq hb; have HG := aq (show w.heap.size ≤ g1 by rw [hg1]; exact Nat.le_refl _); clear hbox hb hg1; have hcz0 : w2.cell? ⟨g1, 0, none⟩ = some (.int .i64 x.f0) := (blk_cell HBK.out 0).trans rfl; have hfz0 := blk_frozen HBK.out 0; have hcz1 : w2.cell? ⟨g1, 1, none⟩ = some (.int .i64 x.f1.f0) := (blk_cell HBK.out 1).trans rfl; have hfz1 := blk_frozen HBK.out 1; have hcz2 : w2.cell? ⟨g1, 2, none⟩ = some (.int .i64 x.f1.f1) := (blk_cell HBK.out 2).trans rfl; have hfz2 := blk_frozen HBK.out 2; have hcz3 : w2.cell? ⟨g1, 3, none⟩ = some (.int .i64 x.f1.f2) := (blk_cell HBK.out 3).trans rfl; have hfz3 := blk_frozen HBK.out 3; have hcz4 : w2.cell? ⟨g1, 4, none⟩ = some (.int .i64 x.f2) := (blk_cell HBK.out 4).trans rfl; have hfz4 := blk_frozen HBK.out 4; have hcz5 : w2.cell? ⟨g1, 5, none⟩ = some (.int .i64 x.f3) := (blk_cell HBK.out 5).trans rfl; have hfz5 := blk_frozen HBK.out 5; have hcz6 : w2.cell? ⟨g1, 6, none⟩ = some (.int .i64 x.f4) := (blk_cell HBK.out 6).trans rfl; have hfz6 := blk_frozen HBK.out 6; have hcz7 : w2.cell? ⟨g1, 7, none⟩ = some (.int .i64 x.f5) := (blk_cell HBK.out 7).trans rfl; have hfz7 := blk_frozen HBK.out 7; have hcz8 : w2.cell? ⟨g1, 8, none⟩ = some (.bool x.f6.f0) := (blk_cell HBK.out 8).trans rfl; have hfz8 := blk_frozen HBK.out 8; have hcz9 : w2.cell? ⟨g1, 9, none⟩ = some (.string x.f6.f1) := (blk_cell HBK.out 9).trans rfl; have hfz9 := blk_frozen HBK.out 9; have hcz10 : w2.cell? ⟨g1, 10, none⟩ = some (.bool x.f7.f0) := (blk_cell HBK.out 10).trans rfl; have hfz10 := blk_frozen HBK.out 10; have hcz11 : w2.cell? ⟨g1, 11, none⟩ = some (.string x.f7.f1) := (blk_cell HBK.out 11).trans rfl; have hfz11 := blk_frozen HBK.out 11; have hcz12 : w2.cell? ⟨g1, 12, none⟩ = some (.int .i64 x.f8) := (blk_cell HBK.out 12).trans rfl; have hfz12 := blk_frozen HBK.out 12) | ((with_reducible refine gate_callee (f := 55) rfl ?_); refine goesL_ (some 8) rfl rfl Try.func55 (by kernel_rfl) rfl #[.agg #[.int .i64 x.f0, .int .i64 x.f1.f0, .int .i64 x.f1.f1, .int .i64 x.f1.f2, .int .i64 x.f2, .int .i64 x.f3, .int .i64 x.f4, .int .i64 x.f5, .bool x.f6.f0, .string x.f6.f1, .bool x.f7.f0, .string x.f7.f1, .int .i64 x.f8]] rfl (by (try simp only [List.map_toArray, List.map_cons, List.map_nil]); first | done | rfl) ?_; (with_reducible refine (entGood.calls x.f0 x.f1.f0 x.f1.f1 x.f1.f2 x.f2 x.f3 x.f4 x.f5 x.f6.f0 x.f6.f1 x.f7.f0 x.f7.f1 x.f8 true _ HGD.out).mono ?_); rintro e w3 ⟨rfl, hb⟩; refine ⟨_, rfl, ?_⟩; have n0_ := aq (blk_below HBK.out hb); have n1_ := aq (below_step HB.out hb); clear HBK HB; have HBK := n0_; have HB := n1_; clear n0_ n1_ hb; clear hcz0 hfz0 hcz1 hfz1 hcz2 hfz2 hcz3 hfz3 hcz4 hfz4 hcz5 hfz5 hcz6 hfz6 hcz7 hfz7 hcz8 hfz8 hcz9 hfz9 hcz10 hfz10 hcz11 hfz11 hcz12 hfz12; have hcz0 : w3.cell? ⟨g1, 0, none⟩ = some (.int .i64 x.f0) := (blk_cell HBK.out 0).trans rfl; have hfz0 := blk_frozen HBK.out 0; have hcz1 : w3.cell? ⟨g1, 1, none⟩ = some (.int .i64 x.f1.f0) := (blk_cell HBK.out 1).trans rfl; have hfz1 := blk_frozen HBK.out 1; have hcz2 : w3.cell? ⟨g1, 2, none⟩ = some (.int .i64 x.f1.f1) := (blk_cell HBK.out 2).trans rfl; have hfz2 := blk_frozen HBK.out 2; have hcz3 : w3.cell? ⟨g1, 3, none⟩ = some (.int .i64 x.f1.f2) := (blk_cell HBK.out 3).trans rfl; have hfz3 := blk_frozen HBK.out 3; have hcz4 : w3.cell? ⟨g1, 4, none⟩ = some (.int .i64 x.f2) := (blk_cell HBK.out 4).trans rfl; have hfz4 := blk_frozen HBK.out 4; have hcz5 : w3.cell? ⟨g1, 5, none⟩ = some (.int .i64 x.f3) := (blk_cell HBK.out 5).trans rfl; have hfz5 := blk_frozen HBK.out 5; have hcz6 : w3.cell? ⟨g1, 6, none⟩ = some (.int .i64 x.f4) := (blk_cell HBK.out 6).trans rfl; have hfz6 := blk_frozen HBK.out 6; have hcz7 : w3.cell? ⟨g1, 7, none⟩ = some (.int .i64 x.f5) := (blk_cell HBK.out 7).trans rfl; have hfz7 := blk_frozen HBK.out 7; have hcz8 : w3.cell? ⟨g1, 8, none⟩ = some (.bool x.f6.f0) := (blk_cell HBK.out 8).trans rfl; have hfz8 := blk_frozen HBK.out 8; have hcz9 : w3.cell? ⟨g1, 9, none⟩ = some (.string x.f6.f1) := (blk_cell HBK.out 9).trans rfl; have hfz9 := blk_frozen HBK.out 9; have hcz10 : w3.cell? ⟨g1, 10, none⟩ = some (.bool x.f7.f0) := (blk_cell HBK.out 10).trans rfl; have hfz10 := blk_frozen HBK.out 10; have hcz11 : w3.cell? ⟨g1, 11, none⟩ = some (.string x.f7.f1) := (blk_cell HBK.out 11).trans rfl; have hfz11 := blk_frozen HBK.out 11; have hcz12 : w3.cell? ⟨g1, 12, none⟩ = some (.int .i64 x.f8) := (blk_cell HBK.out 12).trans rfl; have hfz12 := blk_frozen HBK.out 12) | ((with_reducible refine gate_callee (f := 97) rfl ?_); refine goesL_ (some 10) rfl rfl Try.func97 (by kernel_rfl) rfl #[.pointer (some ⟨g1, 0, none⟩)] rfl (by (try simp only [List.map_toArray, List.map_cons, List.map_nil]); first | done | rfl) ?_; (refine (entry_fields.calls g1 x.f0 _ _ HBK.out hcz0).mono ?_); rintro e w4 ⟨g2, he, hbh, hlt, hb⟩; rw [← nums_len x] at he; subst he; refine ⟨_, rfl, ?_⟩; have n0_ := aq (blk_below HBK.out hb); have n1_ := aq (below_step HB.out hb); have HH := aq hbh; have HNE := aq (show g2 ≠ g1 by have := blk_lt HBK.out; omega); clear HBK HB; have HBK := n0_; have HB := n1_; clear n0_ n1_ hb hbh hlt; clear hcz0 hfz0 hcz1 hfz1 hcz2 hfz2 hcz3 hfz3 hcz4 hfz4 hcz5 hfz5 hcz6 hfz6 hcz7 hfz7 hcz8 hfz8 hcz9 hfz9 hcz10 hfz10 hcz11 hfz11 hcz12 hfz12; have hcz0 : w4.cell? ⟨g1, 0, none⟩ = some (.int .i64 x.f0) := (blk_cell HBK.out 0).trans rfl; have hfz0 := blk_frozen HBK.out 0; have hcz1 : w4.cell? ⟨g1, 1, none⟩ = some (.int .i64 x.f1.f0) := (blk_cell HBK.out 1).trans rfl; have hfz1 := blk_frozen HBK.out 1; have hcz2 : w4.cell? ⟨g1, 2, none⟩ = some (.int .i64 x.f1.f1) := (blk_cell HBK.out 2).trans rfl; have hfz2 := blk_frozen HBK.out 2; have hcz3 : w4.cell? ⟨g1, 3, none⟩ = some (.int .i64 x.f1.f2) := (blk_cell HBK.out 3).trans rfl; have hfz3 := blk_frozen HBK.out 3; have hcz4 : w4.cell? ⟨g1, 4, none⟩ = some (.int .i64 x.f2) := (blk_cell HBK.out 4).trans rfl; have hfz4 := blk_frozen HBK.out 4; have hcz5 : w4.cell? ⟨g1, 5, none⟩ = some (.int .i64 x.f3) := (blk_cell HBK.out 5).trans rfl; have hfz5 := blk_frozen HBK.out 5; have hcz6 : w4.cell? ⟨g1, 6, none⟩ = some (.int .i64 x.f4) := (blk_cell HBK.out 6).trans rfl; have hfz6 := blk_frozen HBK.out 6; have hcz7 : w4.cell? ⟨g1, 7, none⟩ = some (.int .i64 x.f5) := (blk_cell HBK.out 7).trans rfl; have hfz7 := blk_frozen HBK.out 7; have hcz8 : w4.cell? ⟨g1, 8, none⟩ = some (.bool x.f6.f0) := (blk_cell HBK.out 8).trans rfl; have hfz8 := blk_frozen HBK.out 8; have hcz9 : w4.cell? ⟨g1, 9, none⟩ = some (.string x.f6.f1) := (blk_cell HBK.out 9).trans rfl; have hfz9 := blk_frozen HBK.out 9; have hcz10 : w4.cell? ⟨g1, 10, none⟩ = some (.bool x.f7.f0) := (blk_cell HBK.out 10).trans rfl; have hfz10 := blk_frozen HBK.out 10; have hcz11 : w4.cell? ⟨g1, 11, none⟩ = some (.string x.f7.f1) := (blk_cell HBK.out 11).trans rfl; have hfz11 := blk_frozen HBK.out 11; have hcz12 : w4.cell? ⟨g1, 12, none⟩ = some (.int .i64 x.f8) := (blk_cell HBK.out 12).trans rfl; have hfz12 := blk_frozen HBK.out 12))
 clear hcz0 hfz0 hcz1 hfz1 hcz2 hfz2 hcz3 hfz3 hcz4 hfz4 hcz5 hfz5 hcz6 hfz6 hcz7 hfz7 hcz8 hfz8 hcz9 hfz9 hcz10 hfz10 hcz11 hfz11 hcz12 hfz12
 go_loopg [4, 6, 12] (numsE x).length (fun gg v4 v6 v12 wr => ∃ i : Nat, i ≤ (numsE x).length ∧ (numsE x).length - i ≤ gg ∧ v12 = .int .i64 i ∧ v4 = .string (strOfNums (((numsE x).take i).flatMap intB)) ∧ Aside0 (wr.heap[g1]? = some (.cells #[.int .i64 x.f0, .int .i64 x.f1.f0, .int .i64 x.f1.f1, .int .i64 x.f1.f2, .int .i64 x.f2, .int .i64 x.f3, .int .i64 x.f4, .int .i64 x.f5, .bool x.f6.f0, .string x.f6.f1, .bool x.f7.f0, .string x.f7.f1, .int .i64 x.f8] 65 (0, 0))) ∧ Aside0 (wr.heap[g2]? = some (.cells (fieldPs g1) 119 (0, 0))) ∧ Aside0 (Below w.heap.size w wr))
 case atStart => exact ⟨0, Nat.zero_le _, by omega, rfl, rfl, HBK, HH, HB⟩
 case round =>
  clear HBK HH HB
  obtain ⟨i, hi, hgg, rfl, rfl, HBK, HH, HB⟩ := hrel
  have hl9 : (numsE x).length ≤ 9 := by unfold numsE; split <;> simp
  by_cases hlt : i < (numsE x).length
  ·have q0 : (i : Int) < ((numsE x).length : Int) := by omega
   have q1 : (0 : Int) ≤ (i : Int) := by omega
   obtain ⟨o, hp, hc⟩ := field_at x g1 i hlt
   have hsm := nums_small HGG.out _ (List.getElem_mem hlt)
   have hcp : wr.cell? ⟨g2, i, none⟩ = some (.pointer (some ⟨g1, o, none⟩)) := (blk_cell HH.out i).trans hp
   have hcn : wr.cell? ⟨g1, o, none⟩ = some (.int .i64 (numsE x)[i]) := (blk_cell HBK.out o).trans hc
   have HS : Aside0 (strOfNums (((numsE x).take i).flatMap intB) ++ strOfNums (intB (numsE x)[i]) = strOfNums (((numsE x).take (i + 1)).flatMap intB)) := ⟨by
    rw [List.take_succ_eq_append_getElem hlt, List.flatMap_append, List.flatMap_singleton, str_app2 _ _ (flat_small _ (fun n hn => nums_small HGG.out n (List.mem_of_mem_take hn))) (intB_small hsm)]⟩
   have HNI : Aside0 (nibInt.f (numsE x)[i] = some (strOfNums (intB (numsE x)[i]))) := ⟨if_pos hsm⟩
   have hsz1 : (strOfNums (((numsE x).take i).flatMap intB)).size ≤ 99 := by
    rw [strOfNums_size]
    have := flat_len ((numsE x).take i)
    rw [List.length_take] at this
    omega
   have hsz2 : (strOfNums (intB (numsE x)[i])).size ≤ 11 := by rw [strOfNums_size]; exact (intB_len _).2
   clear hp hc hsm
   generalize (numsE x)[i] = n at *
   generalize strOfNums (((numsE x).take i).flatMap intB) = s0 at *
   have hj : (strOfNums (intB n)).size + s0.size ≤ 9223372036854775807 := by omega
   have hj2 : s0.size + (strOfNums (intB n)).size ≤ 9223372036854775807 := by omega
   have hj3 : (9223372036854775807 < s0.size + (strOfNums (intB n)).size) = False := eq_false (Nat.not_lt.2 hj2)
   go_wp2_with (first | ((with_reducible refine gate_callee (f := 98) rfl ?_); refine goesL_ (some 20) rfl rfl Try.func98 (by kernel_rfl) rfl #[.int .i64 n] rfl (by (try simp only [List.map_toArray, List.map_cons, List.map_nil]); first | done | rfl) ?_; (with_reducible refine (nibInt.calls n (strOfNums (intB n)) _ HNI.out).mono ?_); rintro e w6 ⟨rfl, hb⟩; refine ⟨_, rfl, ?_⟩; have n0_ := aq (blk_below HBK.out hb); have n1_ := aq (below_step HB.out hb); have n2_ := aq (blk_below HH.out hb); clear HBK HB HH; have HBK := n0_; have HB := n1_; have HH := n2_; clear n0_ n1_ n2_ hb))
   go_roundg ((numsE x).length - (i + 1))
   case measure => omega
   case rel => exact ⟨i + 1, by omega, by omega, by go_num, by rw [HS.out], HBK, HH, HB⟩
  ·have hltz : ¬ (i : Int) < ((numsE x).length : Int) := by omega
   have HT : Aside0 (((numsE x).take i).flatMap intB = (numsE x).flatMap intB) := ⟨by rw [List.take_of_length_le (by omega)]⟩
   rw [HT.out]
   clear HT
   have hs := good_slots HGG.out
   have hsz : (strOfNums ((numsE x).flatMap intB)).size ≤ 99 := by rw [strOfNums_size]; have := flat_len (numsE x); omega
   have H29 : Aside0 (entry_slot.f x.f6.f0 x.f6.f1 = some (strOfNums (slotE x.f6))) := ⟨entslot_eq _ _ hs.1⟩
   have H32 : Aside0 (entry_slot.f x.f7.f0 x.f7.f1 = some (strOfNums (slotE x.f7))) := ⟨entslot_eq _ _ hs.2⟩
   have hz6 : (strOfNums (slotE x.f6)).size ≤ 222 := by rw [strOfNums_size]; exact slotE_len _ hs.1
   have hz7 : (strOfNums (slotE x.f7)).size ≤ 222 := by rw [strOfNums_size]; exact slotE_len _ hs.2
   have HE : Aside0 (strOfNums ((numsE x).flatMap intB) ++ (strOfNums (slotE x.f6) ++ strOfNums (slotE x.f7)) = strOfNums ((numsE x).flatMap intB ++ (slotE x.f6 ++ slotE x.f7))) := ⟨by rw [str_app2 _ _ (slotE_range _ hs.1) (slotE_range _ hs.2), str_app2 _ _ (flat_small _ (nums_small HGG.out)) (fun b hb => by rw [List.mem_append] at hb; rcases hb with hb | hb; exact slotE_range _ hs.1 b hb; exact slotE_range _ hs.2 b hb)]⟩
   have HK3 : Aside0 (x.f0 ≤ 2 ↔ (x.f0 = 1 ∨ x.f0 = 2)) := ⟨by rcases HGG.out.2.2.2 with h | h | h <;> omega⟩
   have hcz0 : wr.cell? ⟨g1, 0, none⟩ = some (.int .i64 x.f0) := (blk_cell HBK.out 0).trans rfl
   by_cases hk : x.f0 ≤ 2
   ·have HX : Aside0 ((numsE x).flatMap intB ++ (slotE x.f6 ++ slotE x.f7) = encE x) := ⟨by unfold encE tailE; rw [if_pos (HK3.out.mp hk)]⟩
    generalize strOfNums (slotE x.f6) = s6 at *
    generalize strOfNums (slotE x.f7) = s7 at *
    generalize strOfNums ((numsE x).flatMap intB) = s0 at *
    have hj1 : s6.size + s7.size ≤ 9223372036854775807 := by omega
    have hj2 : s0.size + (s6.size + s7.size) ≤ 9223372036854775807 := by omega
    have hj3 : (9223372036854775807 < s6.size + s7.size) = False := eq_false (Nat.not_lt.2 hj1)
    have hj4 : (9223372036854775807 < s0.size + (s6.size + s7.size)) = False := eq_false (Nat.not_lt.2 hj2)
    go_wp2
    have n0_ := aq (blk_drew HBK.out)
    have n1_ := aq (below_drew1 HB.out)
    clear HBK HB hcz0
    have HBK := n0_
    have HB := n1_
    clear n0_ n1_
    refine start_ (n := 10) (S := fun w' => w'.cell? ⟨g1, 8, none⟩ = some (.bool x.f6.f0) ∧ w'.cell? ⟨g1, 9, none⟩ = some (.string x.f6.f1) ∧ w'.cell? ⟨g1, 10, none⟩ = some (.bool x.f7.f0) ∧ w'.cell? ⟨g1, 11, none⟩ = some (.string x.f7.f1)) (ds := []) #[false, false, false, false, false, false, false, false, false, false] (by kernel_rfl) rfl rfl ⟨(blk_cell HBK.out 8).trans rfl, (blk_cell HBK.out 9).trans rfl, (blk_cell HBK.out 10).trans rfl, (blk_cell HBK.out 11).trans rfl⟩ (fun hHeld => ?_)
    generalize wr.drew = w6 at HBK HB hHeld ⊢
    refine pure_ (i := 0) (N := some 26) (v := ?_) (a' := ?_) #[true, false, false, false, false, false, false, false, false, false] rfl rfl (by kernel_rfl) (fun _ _ _ h => h) (Or.inl ⟨by rfl, ?_⟩) ?_ ?_
    rotate_left
    ·intro w'
     go_simp
     with_reducible rfl
    rotate_left
    ·simp only [Act.put, List.setIfInBounds_toArray, List.set_cons_zero, List.set_cons_succ, i64_w, i32_w]
     rfl
    refine pure_ (i := 1) (N := some 27) (v := ?_) (a' := ?_) #[true, true, false, false, false, false, false, false, false, false] rfl rfl (by kernel_rfl) (fun _ _ _ h => h) (Or.inl ⟨by rfl, ?_⟩) ?_ ?_
    rotate_left
    ·intro w'
     go_simp
     with_reducible rfl
    rotate_left
    ·simp only [Act.put, List.setIfInBounds_toArray, List.set_cons_zero, List.set_cons_succ, i64_w, i32_w]
     rfl
    refine pure_ (i := 4) (N := some 30) (v := ?_) (a' := ?_) #[true, true, false, false, true, false, false, false, false, false] rfl rfl (by kernel_rfl) (fun _ _ _ h => h) (Or.inl ⟨by rfl, ?_⟩) ?_ ?_
    rotate_left
    ·intro w'
     go_simp
     with_reducible rfl
    rotate_left
    ·simp only [Act.put, List.setIfInBounds_toArray, List.set_cons_zero, List.set_cons_succ, i64_w, i32_w]
     rfl
    refine take_ (i := 2) (N := some 28) (v := ?_) (a' := ?_) #[true, true, true, false, true, false, false, false, false, false] rfl rfl (by kernel_rfl) (fun _ _ _ h => h) (Or.inl ⟨by rfl, ?_⟩) hHeld ?_ ?_
    rotate_left
    ·rintro w' ⟨s8, s9, s10, s11⟩
     go_simp
     with_reducible rfl
    rotate_left
    ·simp only [Act.put, List.setIfInBounds_toArray, List.set_cons_zero, List.set_cons_succ, i64_w, i32_w]
     rfl
    refine take_ (i := 5) (N := some 31) (v := ?_) (a' := ?_) #[true, true, true, false, true, true, false, false, false, false] rfl rfl (by kernel_rfl) (fun _ _ _ h => h) (Or.inl ⟨by rfl, ?_⟩) hHeld ?_ ?_
    rotate_left
    ·rintro w' ⟨s8, s9, s10, s11⟩
     go_simp
     with_reducible rfl
    rotate_left
    ·simp only [Act.put, List.setIfInBounds_toArray, List.set_cons_zero, List.set_cons_succ, i64_w, i32_w]
     rfl
    refine one_ (i := 3) (N := some 29) #[true, true, true, true, true, true, false, false, false, false] rfl rfl (by kernel_rfl) (by decide) (fun K hK => ?_)
    refine goes_ Try.func99 (by kernel_rfl) rfl #[.agg #[.bool x.f6.f0, .string x.f6.f1]] (by rfl) rfl rfl (by (try simp only [List.map_toArray, List.map_cons, List.map_nil]); first | done | rfl) ?_
    with_reducible refine (entry_slot.calls x.f6.f0 x.f6.f1 _ _ H29.out).mono ?_
    rintro e w7 ⟨rfl, hb⟩
    refine ⟨_, rfl, ?_⟩
    have n0_ := aq (blk_below HBK.out hb)
    have n1_ := aq (below_step HB.out hb)
    clear HBK HB hb
    have HBK := n0_
    have HB := n1_
    clear n0_ n1_
    refine hK.out _ _ ⟨(blk_cell HBK.out 8).trans rfl, (blk_cell HBK.out 9).trans rfl, (blk_cell HBK.out 10).trans rfl, (blk_cell HBK.out 11).trans rfl⟩ (fun hHeld => ?_)
    clear hK K
    refine norm_ (a' := ?_) ?_ ?_
    rotate_left
    ·show Act.put _ (some 29) _ = _
     simp only [Act.put, List.setIfInBounds_toArray, List.set_cons_zero, List.set_cons_succ, i64_w, i32_w]
     rfl
    refine one_ (i := 6) (N := some 32) #[true, true, true, true, true, true, true, false, false, false] rfl rfl (by kernel_rfl) (by decide) (fun K hK => ?_)
    refine goes_ Try.func99 (by kernel_rfl) rfl #[.agg #[.bool x.f7.f0, .string x.f7.f1]] (by rfl) rfl rfl (by (try simp only [List.map_toArray, List.map_cons, List.map_nil]); first | done | rfl) ?_
    with_reducible refine (entry_slot.calls x.f7.f0 x.f7.f1 _ _ H32.out).mono ?_
    rintro e w7 ⟨rfl, hb⟩
    refine ⟨_, rfl, ?_⟩
    have n0_ := aq (blk_below HBK.out hb)
    have n1_ := aq (below_step HB.out hb)
    clear HBK HB hb
    have HBK := n0_
    have HB := n1_
    clear n0_ n1_
    refine hK.out _ _ ⟨(blk_cell HBK.out 8).trans rfl, (blk_cell HBK.out 9).trans rfl, (blk_cell HBK.out 10).trans rfl, (blk_cell HBK.out 11).trans rfl⟩ (fun hHeld => ?_)
    clear hK K
    refine norm_ (a' := ?_) ?_ ?_
    rotate_left
    ·show Act.put _ (some 32) _ = _
     simp only [Act.put, List.setIfInBounds_toArray, List.set_cons_zero, List.set_cons_succ, i64_w, i32_w]
     rfl
    refine pure_ (i := 7) (N := some 33) (v := ?_) (a' := ?_) #[true, true, true, true, true, true, true, true, false, false] rfl rfl (by kernel_rfl) (fun _ _ _ h => h) (Or.inl ⟨by rfl, ?_⟩) ?_ ?_
    rotate_left
    ·intro w'
     go_simp
     with_reducible rfl
    rotate_left
    ·simp only [Act.put, List.setIfInBounds_toArray, List.set_cons_zero, List.set_cons_succ, i64_w, i32_w]
     rfl
    refine pure_ (i := 8) (N := some 34) (v := ?_) (a' := ?_) #[true, true, true, true, true, true, true, true, true, false] rfl rfl (by kernel_rfl) (fun _ _ _ h => h) (Or.inl ⟨by rfl, ?_⟩) ?_ ?_
    rotate_left
    ·intro w'
     go_simp
     with_reducible rfl
    rotate_left
    ·simp only [Act.put, List.setIfInBounds_toArray, List.set_cons_zero, List.set_cons_succ, i64_w, i32_w]
     rfl
    refine pure_ (i := 9) (N := some 4) (v := ?_) (a' := ?_) #[true, true, true, true, true, true, true, true, true, true] rfl rfl (by kernel_rfl) (fun _ _ _ h => h) (Or.inl ⟨by rfl, ?_⟩) ?_ ?_
    rotate_left
    ·intro w'
     go_simp
     with_reducible rfl
    rotate_left
    ·simp only [Act.put, List.setIfInBounds_toArray, List.set_cons_zero, List.set_cons_succ, i64_w, i32_w]
     rfl
    refine done_ (by kernel_rfl) ?_
    try go_wp2
    go_ret2
    exact ⟨by rw [← HX.out, ← HE.out]; rfl, HB.out⟩
   ·have HX : Aside0 ((numsE x).flatMap intB = encE x) := ⟨by unfold encE tailE; rw [if_neg (fun h => hk (HK3.out.mpr h)), List.append_nil]⟩
    go_wp2
    go_ret2
    exact ⟨by rw [← HX.out]; rfl, HB.out⟩
def entEnc.f (k c e n lsn prev p s : Int) (u : Bool) (d : ByteArray) (u2 : Bool) (d2 : ByteArray) (next : Int) : Option (ByteArray × Int) := some (encX (mkE k c e n lsn prev p s u d u2 d2 next))
theorem entEnc.calls (k c e n lsn prev p s : Int) (u : Bool) (d : ByteArray) (u2 : Bool) (d2 : ByteArray) (next : Int) (r1 : ByteArray) (r2 : Int) (w : World) (h : entEnc.f k c e n lsn prev p s u d u2 d2 next = some (r1, r2)) :
  Calls Try.prog 53 #[.agg #[.int .i64 k, .int .i64 c, .int .i64 e, .int .i64 n, .int .i64 lsn, .int .i64 prev, .int .i64 p, .int .i64 s, .bool u, .string d, .bool u2, .string d2, .int .i64 next]] w fun e w' => e = .returned (.tuple #[.string r1, .int .i64 r2]) ∧ Below w.heap.size w w' := by
 unfold entEnc.f encX at h
 by_cases hg : GoodE (mkE k c e n lsn prev p s u d u2 d2 next)
 ·rw [if_pos hg] at h
  cases h
  exact entry_Encode.good (mkE k c e n lsn prev p s u d u2 d2 next) hg w
 ·rw [if_neg hg] at h
  cases h
  exact entry_Encode.bad (mkE k c e n lsn prev p s u d u2 d2 next) hg w
end Go.Proofs.Ytfjmnaobfbmllaa.M
namespace Go.Proofs.Ytfjmnaobfbmllaa.M
open Go.RowKit Go.Proofs.YtfjmnaobfbmllaaW.PrintWords Go.Proofs.YtfjmnaobfbmllaaW.PrintLast Go.Proofs.YtfjmnaobfbmllaaW.PrintMore
set_option linter.unusedVariables false
set_option linter.unusedSimpArgs false
theorem varF_more (k : Nat) : ∀ v, v < 128 * 128 ^ k → varF (k + 1) v = varF k v := by
  induction k with
  | zero => intro v h; unfold varF; rw [if_pos (by simpa using h)]
  | succ k ih =>
    intro v h
    have h2 : v / 128 < 128 * 128 ^ k := by rw [Nat.pow_succ] at h; omega
    have := ih (v / 128) h2
    rw [show varF (k + 1 + 1) v = (if v < 128 then [(v : Int)] else ((v % 128 + 128 : Nat) : Int) :: varF (k + 1) (v / 128)) from rfl, this]
    rfl
theorem varF9 (v : Nat) (h : v < 2 ^ 64) : varF 10 v = varF 9 v := by
  refine varF_more 9 v ?_
  have e1 : (2 : Nat) ^ 64 = 18446744073709551616 := by decide
  have e2 : (128 : Nat) ^ 9 = 9223372036854775808 := by decide
  rw [e1] at h
  rw [e2]
  omega
def takeI (bs : List Int) : Option (Int × List Int) := (takeV 0 0 bs).map fun r => (unfoldI r.1, r.2)
theorem takeI_int (n : Int) (h : small n) (rest : List Int) : takeI (intB n ++ rest) = some (n, rest) := by
  obtain ⟨m, rfl⟩ := Int.eq_ofNat_of_zero_le h.1
  have h2 := h.2
  have e1 : (2 : Nat) ^ 64 = 18446744073709551616 := by decide
  have hv : 2 * m < 2 ^ 64 := by rw [e1]; omega
  unfold takeI intB
  rw [foldI_nat, varF9 _ hv, take_var 9 0 0 (2 * m) rest rfl (by rw [Nat.mul_zero, Nat.pow_zero, Nat.mul_one]; exact hv) (fun h => absurd h (Nat.lt_irrefl 0))]
  rw [Nat.mul_zero, Nat.pow_zero, Nat.mul_one, Nat.zero_add]
  have := unfold_fold (m : Int)
  rw [foldI_nat] at this
  simp [this]
theorem takeI_sound (bs : List Int) (hr : ∀ b ∈ bs, 0 ≤ b ∧ b ≤ 255) (n : Int) (rest : List Int) (h : takeI bs = some (n, rest)) : bs = intB n ++ rest := by
  unfold takeI at h
  rw [Option.map_eq_some_iff] at h
  obtain ⟨⟨w, r⟩, h1, h2⟩ := h
  simp only [Prod.mk.injEq] at h2
  obtain ⟨rfl, rfl⟩ := h2
  obtain ⟨v, e1, e2, _, _, e3⟩ := take_sound bs hr 0 0 w r h1
  rw [Nat.mul_zero, Nat.pow_zero, Nat.mul_one] at e2 e3
  rw [Nat.zero_add] at e2
  subst e2
  unfold intB
  rw [fold_unfold, varF9 _ e3]
  exact e1
def takeT (bs : List Int) : Option (ByteArray × List Int) := (takeI bs).bind fun r => if 0 ≤ r.1 ∧ r.1 ≤ 200 ∧ r.1 ≤ r.2.length then some (strOfNums (r.2.take r.1.toNat), r.2.drop r.1.toNat) else none
def takeS (bs : List Int) : Option (S33 × List Int) := (takeI bs).bind fun r => if r.1 = 0 then some (z33, r.2) else if r.1 = 1 then (takeT r.2).map (fun q => (⟨true, q.1⟩, q.2)) else none
theorem takeT_str (s : ByteArray) (h : s.size ≤ 200) (rest : List Int) : takeT (strB s ++ rest) = some (s, rest) := by
  unfold takeT strB
  have hl := bytesOf_length s
  rw [List.append_assoc, takeI_int _ ⟨by omega, by omega⟩, Option.bind_some]
  simp only
  rw [if_pos ⟨by omega, by omega, by rw [List.length_append]; omega⟩, Int.toNat_natCast, List.take_left' hl, List.drop_left' hl, str_bytes]
theorem takeS_slot (x : S33) (h : fineS x) (rest : List Int) : takeS (slotE x ++ rest) = some (x, rest) := by
  unfold takeS slotE
  cases hu : x.f0 with
  | true =>
    rw [if_pos rfl, List.append_assoc, takeI_int 1 ⟨by decide, by decide⟩, Option.bind_some]
    simp only
    rw [if_neg (by decide), if_pos trivial, takeT_str _ h.2, Option.map_some]
    simp only
    rw [← hu]
  | false =>
    rw [if_neg Bool.false_ne_true, takeI_int 0 ⟨by decide, by decide⟩, Option.bind_some]
    simp only
    rw [if_pos trivial, h.1 hu]
theorem rest_range {xs rest bs : List Int} (h : bs = xs ++ rest) (hr : ∀ b ∈ bs, 0 ≤ b ∧ b ≤ 255) : ∀ b ∈ rest, 0 ≤ b ∧ b ≤ 255 := fun b hb => hr b (by rw [h]; simp [hb])
theorem takeT_sound (bs : List Int) (hr : ∀ b ∈ bs, 0 ≤ b ∧ b ≤ 255) (s : ByteArray) (rest : List Int) (h : takeT bs = some (s, rest)) : bs = strB s ++ rest ∧ s.size ≤ 200 := by
  unfold takeT at h
  rw [Option.bind_eq_some_iff] at h
  obtain ⟨⟨n, r⟩, h1, h2⟩ := h
  have e := takeI_sound bs hr n r h1
  have hr2 := rest_range e hr
  simp only at h2
  split at h2
  · rename_i hc
    simp only [Option.some.injEq, Prod.mk.injEq] at h2
    obtain ⟨rfl, rfl⟩ := h2
    have hl : (strOfNums (r.take n.toNat)).size = n.toNat := by rw [strOfNums_size, List.length_take]; omega
    refine ⟨?_, by rw [hl]; omega⟩
    unfold strB
    rw [hl, bytesOf_strOfNums _ (fun b hb => hr2 b (List.mem_of_mem_take hb)), List.append_assoc, List.take_append_drop, show ((n.toNat : Nat) : Int) = n by omega]
    exact e
  · cases h2
theorem takeS_sound (bs : List Int) (hr : ∀ b ∈ bs, 0 ≤ b ∧ b ≤ 255) (x : S33) (rest : List Int) (h : takeS bs = some (x, rest)) : bs = slotE x ++ rest := by
  unfold takeS at h
  rw [Option.bind_eq_some_iff] at h
  obtain ⟨⟨n, r⟩, h1, h2⟩ := h
  have e := takeI_sound bs hr n r h1
  simp only at h2
  split at h2
  · rename_i hc
    simp only [Option.some.injEq, Prod.mk.injEq] at h2
    obtain ⟨rfl, rfl⟩ := h2
    rw [e, hc]; rfl
  · split at h2
    · rename_i _ hc
      rw [Option.map_eq_some_iff] at h2
      obtain ⟨⟨s, q⟩, h3, h4⟩ := h2
      simp only [Prod.mk.injEq] at h4
      obtain ⟨rfl, rfl⟩ := h4
      have e2 := (takeT_sound r (rest_range e hr) s q h3).1
      rw [e, hc, e2]
      show _ = (intB 1 ++ strB s) ++ q
      rw [List.append_assoc]
    · cases h2
def takeNs : Nat → List Int → Option (List Int × List Int)
  | 0, bs => some ([], bs)
  | k + 1, bs => (takeI bs).bind fun r => (takeNs k r.2).map fun q => (r.1 :: q.1, q.2)
theorem takeNs_flat (l : List Int) (h : ∀ n ∈ l, small n) (rest : List Int) : takeNs l.length (l.flatMap intB ++ rest) = some (l, rest) := by
  induction l with
  | nil => rfl
  | cons n l ih =>
    rw [List.flatMap_cons, List.append_assoc, List.length_cons]
    unfold takeNs
    rw [takeI_int n (h n (by simp)), Option.bind_some]
    simp only
    rw [ih (fun m hm => h m (by simp [hm])), Option.map_some]
theorem takeNs_sound (k : Nat) : ∀ (bs : List Int), (∀ b ∈ bs, 0 ≤ b ∧ b ≤ 255) → ∀ l rest, takeNs k bs = some (l, rest) → l.length = k ∧ bs = l.flatMap intB ++ rest := by
  induction k with
  | zero =>
    intro bs _ l rest h
    simp only [takeNs, Option.some.injEq, Prod.mk.injEq] at h
    obtain ⟨rfl, rfl⟩ := h
    exact ⟨rfl, rfl⟩
  | succ k ih =>
    intro bs hr l rest h
    unfold takeNs at h
    rw [Option.bind_eq_some_iff] at h
    obtain ⟨⟨n, r⟩, h1, h2⟩ := h
    have e := takeI_sound bs hr n r h1
    rw [Option.map_eq_some_iff] at h2
    obtain ⟨⟨l2, q⟩, h3, h4⟩ := h2
    simp only [Prod.mk.injEq] at h4
    obtain ⟨rfl, rfl⟩ := h4
    obtain ⟨i1, i2⟩ := ih r (rest_range e hr) l2 q h3
    refine ⟨by simp [i1], ?_⟩
    rw [List.flatMap_cons, List.append_assoc, ← i2]
    exact e
def parseE (bs : List Int) : Option (S65 × List Int) := (takeNs 6 bs).bind fun r =>
  if rd r.1 0 = 1 ∨ rd r.1 0 = 2 then (takeNs 3 r.2).bind fun q => (takeS q.2).bind fun a => (takeS a.2).map fun b =>
    (⟨rd r.1 0, ⟨rd r.1 1, rd r.1 2, rd r.1 3⟩, rd r.1 4, rd r.1 5, rd q.1 0, rd q.1 1, a.1, b.1, rd q.1 2⟩, b.2)
  else some (⟨rd r.1 0, ⟨rd r.1 1, rd r.1 2, rd r.1 3⟩, rd r.1 4, rd r.1 5, 0, 0, z33, z33, 0⟩, r.2)
theorem parse_encE {x : S65} (hg : GoodE x) (rest : List Int) : parseE (encE x ++ rest) = some (x, rest) := by
  have hs := nums_small hg
  unfold parseE encE tailE
  unfold numsE at hs ⊢
  by_cases hk : x.f0 = 1 ∨ x.f0 = 2
  · rw [if_pos hk] at hs
    rw [if_pos hk, if_pos hk, List.flatMap_append, List.append_assoc, List.append_assoc, List.append_assoc]
    have h6 := takeNs_flat [x.f0, x.f1.f0, x.f1.f1, x.f1.f2, x.f2, x.f3] (fun n hn => hs n (by rw [List.mem_append]; exact .inl hn)) ([x.f4, x.f5, x.f8].flatMap intB ++ (slotE x.f6 ++ (slotE x.f7 ++ rest)))
    have h3 := takeNs_flat [x.f4, x.f5, x.f8] (fun n hn => hs n (by rw [List.mem_append]; exact .inr hn)) (slotE x.f6 ++ (slotE x.f7 ++ rest))
    have h6' : takeNs 6 ([x.f0, x.f1.f0, x.f1.f1, x.f1.f2, x.f2, x.f3].flatMap intB ++ ([x.f4, x.f5, x.f8].flatMap intB ++ (slotE x.f6 ++ (slotE x.f7 ++ rest)))) = _ := h6
    have h3' : takeNs 3 ([x.f4, x.f5, x.f8].flatMap intB ++ (slotE x.f6 ++ (slotE x.f7 ++ rest))) = _ := h3
    have hf : fineS x.f6 ∧ fineS x.f7 := by
      rcases hg.2.2.2 with h | h | h
      · exact ⟨(odd_fine _).mp h.2.1.2.2.1, (odd_fine _).mp h.2.1.2.2.2⟩
      · exact ⟨(odd_fine _).mp h.2.1.2.2.1, (odd_fine _).mp h.2.1.2.2.2⟩
      · omega
    rw [h6', Option.bind_some]
    have e0 : rd [x.f0, x.f1.f0, x.f1.f1, x.f1.f2, x.f2, x.f3] 0 = x.f0 := rfl
    simp only
    rw [e0, if_pos hk, h3', Option.bind_some]
    simp only
    rw [takeS_slot _ hf.1, Option.bind_some]
    simp only
    rw [takeS_slot _ hf.2]
    rfl
  · rw [if_neg hk, List.append_nil] at hs
    rw [if_neg hk, if_neg hk, List.append_nil, List.append_nil]
    have h6 := takeNs_flat [x.f0, x.f1.f0, x.f1.f1, x.f1.f2, x.f2, x.f3] hs rest
    have h6' : takeNs 6 ([x.f0, x.f1.f0, x.f1.f1, x.f1.f2, x.f2, x.f3].flatMap intB ++ rest) = _ := h6
    have e0 : rd [x.f0, x.f1.f0, x.f1.f1, x.f1.f2, x.f2, x.f3] 0 = x.f0 := rfl
    rw [h6', Option.bind_some]
    simp only
    rw [e0, if_neg hk]
    have hz : x.f4 = 0 ∧ x.f5 = 0 ∧ x.f8 = 0 ∧ x.f6 = z33 ∧ x.f7 = z33 := by
      rcases hg.2.2.2 with h | h | h
      · exact absurd (.inl h.1) hk
      · exact absurd (.inr h.1) hk
      · exact h.2
    have ex : x = ⟨x.f0, x.f1, x.f2, x.f3, x.f4, x.f5, x.f6, x.f7, x.f8⟩ := rfl
    rw [hz.1, hz.2.1, hz.2.2.1, hz.2.2.2.1, hz.2.2.2.2] at ex
    conv => rhs; rw [ex]
    rfl
end Go.Proofs.Ytfjmnaobfbmllaa.M
namespace Go.Proofs.Ytfjmnaobfbmllaa.M
open Go.RowKit Go.Proofs.YtfjmnaobfbmllaaW.PrintWords Go.Proofs.YtfjmnaobfbmllaaW.PrintLast Go.Proofs.YtfjmnaobfbmllaaW.PrintMore
set_option linter.unusedVariables false
set_option linter.unusedSimpArgs false
def zE : S65 := ⟨0, ⟨0, 0, 0⟩, 0, 0, 0, 0, z33, z33, 0⟩
def decE (s : ByteArray) : S65 × ByteArray × Int := match parseE (bytesOf s) with
  | some (x, rest) => if GoodE x then (x, strOfNums rest, 0) else (zE, ⟨#[]⟩, 4)
  | none => (zE, ⟨#[]⟩, 4)
theorem decE_enc {x : S65} (hg : GoodE x) (rest : ByteArray) : decE (strOfNums (encE x) ++ rest) = (x, rest, 0) := by
  unfold decE
  rw [bytes_append, bytesOf_strOfNums _ (encE_range hg), parse_encE hg]
  simp only
  rw [if_pos hg, str_bytes]
end Go.Proofs.Ytfjmnaobfbmllaa.M
namespace Go.Proofs.Ytfjmnaobfbmllaa.M
open Go.RowKit Go.Proofs.YtfjmnaobfbmllaaW.PrintWords Go.Proofs.YtfjmnaobfbmllaaW.PrintLast Go.Proofs.YtfjmnaobfbmllaaW.PrintMore
set_option linter.unusedVariables false
set_option linter.unusedSimpArgs false
def tI (r : ByteArray) (b : Bool) : Int × ByteArray × Bool := ((takeR r).1, (takeR r).2.1, b || !(takeR r).2.2)
def tS (r : ByteArray) (b : Bool) : S33 × ByteArray × Bool :=
  if (tI r b).1 = 0 then (z33, (tI r b).2.1, (tI r b).2.2)
  else if (tI r b).1 = 1 then (⟨true, (textR 200 (takeR (tI r b).2.1)).1⟩, (textR 200 (takeR (tI r b).2.1)).2.1, (tI r b).2.2 || !(textR 200 (takeR (tI r b).2.1)).2.2)
  else (z33, (tI r b).2.1, true)
def setF (x : S65) (i : Nat) (n : Int) : S65 := match i with
  | 0 => ⟨n, x.f1, x.f2, x.f3, x.f4, x.f5, x.f6, x.f7, x.f8⟩
  | 1 => ⟨x.f0, ⟨n, x.f1.f1, x.f1.f2⟩, x.f2, x.f3, x.f4, x.f5, x.f6, x.f7, x.f8⟩
  | 2 => ⟨x.f0, ⟨x.f1.f0, n, x.f1.f2⟩, x.f2, x.f3, x.f4, x.f5, x.f6, x.f7, x.f8⟩
  | 3 => ⟨x.f0, ⟨x.f1.f0, x.f1.f1, n⟩, x.f2, x.f3, x.f4, x.f5, x.f6, x.f7, x.f8⟩
  | 4 => ⟨x.f0, x.f1, n, x.f3, x.f4, x.f5, x.f6, x.f7, x.f8⟩
  | 5 => ⟨x.f0, x.f1, x.f2, n, x.f4, x.f5, x.f6, x.f7, x.f8⟩
  | 6 => ⟨x.f0, x.f1, x.f2, x.f3, n, x.f5, x.f6, x.f7, x.f8⟩
  | 7 => ⟨x.f0, x.f1, x.f2, x.f3, x.f4, n, x.f6, x.f7, x.f8⟩
  | _ => ⟨x.f0, x.f1, x.f2, x.f3, x.f4, x.f5, x.f6, x.f7, n⟩
def decRun : Nat → Nat → S65 → ByteArray → Bool → S65 × ByteArray × Bool
  | 0, _, x, r, b => (x, r, b)
  | d + 1, i, x, r, b => decRun d (i + 1) (setF x i (tI r b).1) (tI r b).2.1 (tI r b).2.2
def finE (x : S65) (r : ByteArray) (b : Bool) : S65 × ByteArray × Int := if b = false ∧ GoodE x then (x, r, 0) else (zE, ⟨#[]⟩, 4)
def withS (x : S65) (a b : S33) : S65 := ⟨x.f0, x.f1, x.f2, x.f3, x.f4, x.f5, a, b, x.f8⟩
def decT (q : S65 × ByteArray × Bool) : S65 × ByteArray × Int :=
  if q.1.f0 = 1 ∨ q.1.f0 = 2 then finE (withS q.1 (tS q.2.1 q.2.2).1 (tS (tS q.2.1 q.2.2).2.1 (tS q.2.1 q.2.2).2.2).1) (tS (tS q.2.1 q.2.2).2.1 (tS q.2.1 q.2.2).2.2).2.1 (tS (tS q.2.1 q.2.2).2.1 (tS q.2.1 q.2.2).2.2).2.2
  else finE q.1 q.2.1 q.2.2
def decG (s : ByteArray) : S65 × ByteArray × Int :=
  decT (decRun (if (tI s false).1 = 1 ∨ (tI s false).1 = 2 then 8 else 5) 1 (setF zE 0 (tI s false).1) (tI s false).2.1 (tI s false).2.2)
theorem tI_some {r : ByteArray} {n : Int} {m : List Int} (h : takeI (bytesOf r) = some (n, m)) (b : Bool) : tI r b = (n, strOfNums m, b) := by
  unfold takeI at h
  rw [Option.map_eq_some_iff] at h
  obtain ⟨⟨u, q⟩, h1, h2⟩ := h
  simp only [Prod.mk.injEq] at h2
  obtain ⟨rfl, rfl⟩ := h2
  unfold tI
  rw [takeR_eq, h1]
  show (unfoldI u, strOfNums q, b || !true) = _
  rw [Bool.not_true, Bool.or_false]
theorem tI_none {r : ByteArray} (h : takeI (bytesOf r) = none) (b : Bool) : tI r b = (0, ⟨#[]⟩, true) := by
  unfold takeI at h
  rw [Option.map_eq_none_iff] at h
  unfold tI
  rw [takeR_eq, h]
  show ((0 : Int), (⟨#[]⟩ : ByteArray), b || !false) = _
  rw [Bool.not_false, Bool.or_true]
theorem tI_bad (r : ByteArray) : (tI r true).2.2 = true := by unfold tI; rfl
theorem takeI_range {r : ByteArray} {n : Int} {m : List Int} (h : takeI (bytesOf r) = some (n, m)) : ∀ b ∈ m, 0 ≤ b ∧ b ≤ 255 :=
  rest_range (takeI_sound _ (bytesOf_range r) n m h) (bytesOf_range r)
theorem takeR_some {r : ByteArray} {n : Int} {m : List Int} (h : takeI (bytesOf r) = some (n, m)) : takeR r = (n, strOfNums m, true) := by
  have e := tI_some h false
  unfold tI at e
  simp only [Prod.mk.injEq, Bool.false_or] at e
  rw [← e.1, ← e.2.1]
  have : (takeR r).2.2 = true := by have := e.2.2; revert this; cases (takeR r).2.2 <;> decide
  rw [← this]
theorem takeR_none {r : ByteArray} (h : takeI (bytesOf r) = none) : takeR r = (0, ⟨#[]⟩, false) := by
  unfold takeI at h
  rw [Option.map_eq_none_iff] at h
  rw [takeR_eq, h]; rfl
theorem str_take (m : List Int) (hm : ∀ b ∈ m, 0 ≤ b ∧ b ≤ 255) (n : Nat) : (strOfNums m).extract 0 n = strOfNums (m.take n) := by
  apply bytes_inj
  rw [bytes_extract, bytesOf_strOfNums m hm, bytesOf_strOfNums _ (fun b hb => hm b (List.mem_of_mem_take hb)), List.drop_zero, Nat.sub_zero]
theorem str_drop (m : List Int) (hm : ∀ b ∈ m, 0 ≤ b ∧ b ≤ 255) (n : Nat) : (strOfNums m).extract n (strOfNums m).size = strOfNums (m.drop n) := by
  apply bytes_inj
  rw [bytes_drop, bytesOf_strOfNums m hm, bytesOf_strOfNums _ (fun b hb => hm b (List.mem_of_mem_drop hb))]
theorem textR_eq {r : ByteArray} : textR 200 (takeR r) = match takeT (bytesOf r) with
    | some (s, m) => (s, strOfNums m, true)
    | none => (⟨#[]⟩, ⟨#[]⟩, false) := by
  unfold takeT
  cases h : takeI (bytesOf r) with
  | none => rw [takeR_none h]; rfl
  | some q =>
    obtain ⟨n, m⟩ := q
    rw [takeR_some h, Option.bind_some]
    unfold textR
    simp only
    by_cases hc : 0 ≤ n ∧ n ≤ 200 ∧ n ≤ m.length
    · have hm := takeI_range h
      rw [if_pos hc, if_pos ⟨trivial, hc.1, hc.2.1, by rw [strOfNums_size]; exact hc.2.2⟩, str_take m hm, str_drop m hm]
    · rw [if_neg hc, if_neg (fun hd => hc ⟨hd.2.1, hd.2.2.1, by rw [← strOfNums_size]; exact hd.2.2.2⟩)]
theorem tS_some {r : ByteArray} {x : S33} {m : List Int} (h : takeS (bytesOf r) = some (x, m)) (b : Bool) : tS r b = (x, strOfNums m, b) := by
  unfold takeS at h
  rw [Option.bind_eq_some_iff] at h
  obtain ⟨⟨n, q⟩, h1, h2⟩ := h
  have e := tI_some h1 b
  have hq := takeI_range h1
  unfold tS
  rw [e]
  simp only at h2 ⊢
  split at h2
  · rename_i hc
    rw [if_pos hc]
    cases h2; rfl
  · rename_i hc
    rw [if_neg hc]
    split at h2
    · rename_i hc2
      rw [if_pos hc2, textR_eq, bytesOf_strOfNums q hq]
      rw [Option.map_eq_some_iff] at h2
      obtain ⟨⟨s, t⟩, h3, h4⟩ := h2
      rw [h3]
      simp only [Prod.mk.injEq] at h4
      obtain ⟨rfl, rfl⟩ := h4
      simp
    · cases h2
theorem tS_none {r : ByteArray} (h : takeS (bytesOf r) = none) (b : Bool) : (tS r b).2.2 = true := by
  unfold takeS at h
  unfold tS
  cases h1 : takeI (bytesOf r) with
  | none => rw [tI_none h1]; rfl
  | some q =>
    obtain ⟨n, q⟩ := q
    have hq := takeI_range h1
    rw [h1, Option.bind_some] at h
    rw [tI_some h1]
    simp only at h ⊢
    split at h
    · cases h
    · rename_i hc
      rw [if_neg hc]
      split at h
      · rename_i hc2
        rw [if_pos hc2, textR_eq, bytesOf_strOfNums q hq]
        rw [Option.map_eq_none_iff] at h
        rw [h]; simp
      · rename_i hc2
        rw [if_neg hc2]
theorem tS_bad (r : ByteArray) : (tS r true).2.2 = true := by
  unfold tS
  have h := tI_bad r
  split
  · exact h
  · split
    · simp only [h, Bool.true_or]
    · rfl
def fillE : S65 → Nat → List Int → S65
  | x, _, [] => x
  | x, i, n :: l => fillE (setF x i n) (i + 1) l
theorem run_bad (d : Nat) : ∀ (i : Nat) (x : S65) (r : ByteArray), (decRun d i x r true).2.2 = true := by
  induction d with
  | zero => intro i x r; rfl
  | succ d ih => intro i x r; simp only [decRun]; rw [tI_bad]; exact ih _ _ _
theorem run_none (d : Nat) : ∀ (i : Nat) (x : S65) (r : ByteArray) (b : Bool), takeNs d (bytesOf r) = none → (decRun d i x r b).2.2 = true := by
  induction d with
  | zero => intro i x r b h; cases h
  | succ d ih =>
    intro i x r b h
    simp only [decRun]
    cases h1 : takeI (bytesOf r) with
    | none => rw [tI_none h1]; exact run_bad _ _ _ _
    | some q =>
      obtain ⟨n, q⟩ := q
      unfold takeNs at h
      rw [h1, Option.bind_some, Option.map_eq_none_iff] at h
      rw [tI_some h1]
      exact ih _ _ _ _ (by rw [bytesOf_strOfNums q (takeI_range h1)]; exact h)
theorem run_some (d : Nat) : ∀ (i : Nat) (x : S65) (r : ByteArray) (b : Bool) (l m : List Int), takeNs d (bytesOf r) = some (l, m) → decRun d i x r b = (fillE x i l, strOfNums m, b) := by
  induction d with
  | zero =>
    intro i x r b l m h
    simp only [takeNs, Option.some.injEq, Prod.mk.injEq] at h
    obtain ⟨rfl, rfl⟩ := h
    simp only [decRun, fillE, str_bytes]
  | succ d ih =>
    intro i x r b l m h
    unfold takeNs at h
    rw [Option.bind_eq_some_iff] at h
    obtain ⟨⟨n, q⟩, h1, h2⟩ := h
    rw [Option.map_eq_some_iff] at h2
    obtain ⟨⟨l2, q2⟩, h3, h4⟩ := h2
    simp only [Prod.mk.injEq] at h4
    obtain ⟨rfl, rfl⟩ := h4
    simp only [decRun, fillE]
    rw [tI_some h1]
    exact ih _ _ _ _ _ _ (by rw [bytesOf_strOfNums q (takeI_range h1)]; exact h3)
theorem fin_bad (x : S65) (r : ByteArray) : finE x r true = (zE, ⟨#[]⟩, 4) := by
  unfold finE; rw [if_neg (fun h => by cases h.1)]
theorem decT_bad {q : S65 × ByteArray × Bool} (h : q.2.2 = true) : decT q = (zE, ⟨#[]⟩, 4) := by
  unfold decT
  rw [h, tS_bad, tS_bad, fin_bad, fin_bad, ite_self]
theorem takeNs_add (a b : Nat) : ∀ bs, takeNs (a + b) bs = (takeNs a bs).bind fun r => (takeNs b r.2).map fun q => (r.1 ++ q.1, q.2) := by
  induction a with
  | zero => intro bs; simp only [takeNs, Nat.zero_add, Option.bind_some, List.nil_append]; cases takeNs b bs <;> rfl
  | succ a ih =>
    intro bs
    rw [Nat.succ_add]
    simp only [takeNs]
    cases takeI bs with
    | none => rfl
    | some r =>
      simp only [Option.bind_some]
      rw [ih]
      cases takeNs a r.2 with
      | none => rfl
      | some q =>
        simp only [Option.bind_some, Option.map_some]
        cases takeNs b q.2 <;> rfl
theorem list5 {l : List Int} (h : l.length = 5) : ∃ a b c d e, l = [a, b, c, d, e] := by
  match l, h with
  | [a, b, c, d, e], _ => exact ⟨a, b, c, d, e, rfl⟩
theorem list3 {l : List Int} (h : l.length = 3) : ∃ a b c, l = [a, b, c] := by
  match l, h with
  | [a, b, c], _ => exact ⟨a, b, c, rfl⟩
theorem decG_eq (s : ByteArray) : decG s = decE s := by
  unfold decG decE parseE
  have e6 : takeNs 6 (bytesOf s) = (takeI (bytesOf s)).bind fun r => (takeNs 5 r.2).map fun q => (r.1 :: q.1, q.2) := rfl
  rw [e6]
  cases h1 : takeI (bytesOf s) with
  | none => rw [tI_none h1, Option.bind_none, decT_bad (run_bad _ _ _ _)]; rfl
  | some r =>
    obtain ⟨k, m⟩ := r
    have hm := takeI_range h1
    have hb := bytesOf_strOfNums m hm
    rw [tI_some h1, Option.bind_some]
    simp only
    have ek : (setF zE 0 k).f0 = k := rfl
    by_cases hk : k = 1 ∨ k = 2
    · rw [if_pos hk]
      have h8 := takeNs_add 5 3 m
      rw [show 5 + 3 = 8 from rfl] at h8
      cases h5 : takeNs 5 m with
      | none =>
        rw [h5, Option.bind_none] at h8
        rw [decT_bad (run_none 8 1 _ _ _ (by rw [hb]; exact h8))]; rfl
      | some q =>
        obtain ⟨l, q⟩ := q
        obtain ⟨hl, e5⟩ := takeNs_sound 5 m hm l q h5
        obtain ⟨a1, a2, a3, a4, a5, rfl⟩ := list5 hl
        have hq := rest_range e5 hm
        rw [h5, Option.bind_some] at h8
        simp only [Option.map_some, Option.bind_some] at h8 ⊢
        rw [if_pos (show rd (k :: [a1, a2, a3, a4, a5]) 0 = 1 ∨ rd (k :: [a1, a2, a3, a4, a5]) 0 = 2 from hk)]
        cases h3 : takeNs 3 q with
        | none =>
          rw [h3, Option.map_none] at h8
          rw [decT_bad (run_none 8 1 _ _ _ (by rw [hb]; exact h8))]; rfl
        | some p =>
          obtain ⟨l2, p⟩ := p
          obtain ⟨hl2, e3⟩ := takeNs_sound 3 q hq l2 p h3
          obtain ⟨b1, b2, b3, rfl⟩ := list3 hl2
          have hp := rest_range e3 hq
          have hbp := bytesOf_strOfNums p hp
          rw [h3, Option.map_some] at h8
          rw [run_some 8 1 _ _ _ _ _ (by rw [hb]; exact h8)]
          simp only [Option.bind_some]
          have ex : fillE (setF zE 0 k) 1 ([a1, a2, a3, a4, a5] ++ [b1, b2, b3]) = ⟨k, ⟨a1, a2, a3⟩, a4, a5, b1, b2, z33, z33, b3⟩ := rfl
          rw [ex]
          unfold decT
          simp only
          rw [if_pos hk]
          cases hs : takeS p with
          | none =>
            have t := tS_none (r := strOfNums p) (by rw [hbp]; exact hs) false
            rw [t, tS_bad, fin_bad]; rfl
          | some u =>
            obtain ⟨x1, u⟩ := u
            have hu := rest_range (takeS_sound p hp x1 u hs) hp
            have hbu := bytesOf_strOfNums u hu
            rw [tS_some (r := strOfNums p) (by rw [hbp]; exact hs) false]
            simp only [Option.bind_some]
            cases hs2 : takeS u with
            | none =>
              have t := tS_none (r := strOfNums u) (by rw [hbu]; exact hs2) false
              rw [t, fin_bad]; rfl
            | some v =>
              obtain ⟨x2, v⟩ := v
              rw [tS_some (r := strOfNums u) (by rw [hbu]; exact hs2) false]
              simp only [Option.map_some]
              unfold finE
              have ex2 : withS ⟨k, ⟨a1, a2, a3⟩, a4, a5, b1, b2, z33, z33, b3⟩ x1 x2 = ⟨k, ⟨a1, a2, a3⟩, a4, a5, b1, b2, x1, x2, b3⟩ := rfl
              rw [ex2]
              by_cases hg : GoodE ⟨k, ⟨a1, a2, a3⟩, a4, a5, b1, b2, x1, x2, b3⟩
              · rw [if_pos ⟨rfl, hg⟩]; exact (if_pos hg).symm
              · rw [if_neg (fun h => hg h.2)]; exact (if_neg hg).symm
    · rw [if_neg hk]
      cases h5 : takeNs 5 m with
      | none =>
        rw [decT_bad (run_none 5 1 _ _ _ (by rw [hb]; exact h5))]; rfl
      | some q =>
        obtain ⟨l, q⟩ := q
        obtain ⟨hl, e5⟩ := takeNs_sound 5 m hm l q h5
        obtain ⟨a1, a2, a3, a4, a5, rfl⟩ := list5 hl
        rw [run_some 5 1 _ _ _ _ _ (by rw [hb]; exact h5)]
        simp only [Option.map_some, Option.bind_some]
        rw [if_neg (show ¬ (rd (k :: [a1, a2, a3, a4, a5]) 0 = 1 ∨ rd (k :: [a1, a2, a3, a4, a5]) 0 = 2) from hk)]
        have ex : fillE (setF zE 0 k) 1 [a1, a2, a3, a4, a5] = ⟨k, ⟨a1, a2, a3⟩, a4, a5, 0, 0, z33, z33, 0⟩ := rfl
        rw [ex]
        unfold decT
        simp only
        rw [if_neg hk]
        unfold finE
        by_cases hg : GoodE ⟨k, ⟨a1, a2, a3⟩, a4, a5, 0, 0, z33, z33, 0⟩
        · rw [if_pos ⟨rfl, hg⟩]; exact (if_pos hg).symm
        · rw [if_neg (fun h => hg h.2)]; exact (if_neg hg).symm
end Go.Proofs.Ytfjmnaobfbmllaa.M
namespace Go.Proofs.Ytfjmnaobfbmllaa.M
open Go.RowKit Go.Proofs.YtfjmnaobfbmllaaW.PrintWords Go.Proofs.YtfjmnaobfbmllaaW.PrintLast Go.Proofs.YtfjmnaobfbmllaaW.PrintMore
attribute [local go_sem] max2_int min2_int max_two min_two max_three min_three max_four min_four   -- for this text's walks alone
set_option linter.unusedVariables false
set_option linter.unusedSimpArgs false
def IsS127 (w0 W : World) (g : Nat) (f0 : ByteArray) (f1 : Bool) : Prop := W.heap[g]? = some (.cells #[.string f0, .bool f1] 127 (0, 0)) ∧ w0.heap.size ≤ g
theorem IsS127.grown {w0 W : World} {g : Nat} {f0 : ByteArray} {f1 : Bool} {W1 : World} {row : Option Nat} (h : IsS127 w0 W g f0 f1) (hw : W.grownBy W1 row) (hne : some g ≠ row) : IsS127 w0 W1 g f0 f1 := by
 obtain ⟨hb, hg⟩ := h
 exact ⟨blk_grown hb hw hne, hg⟩
theorem IsS127.kept {w0 W : World} {g : Nat} {f0 : ByteArray} {f1 : Bool} {W1 : World} {S : Nat → Prop} (h : IsS127 w0 W g f0 f1) (hk : Kept W W1 S) (hne : ¬ S g) : IsS127 w0 W1 g f0 f1 := by
 obtain ⟨hb, hg⟩ := h
 exact ⟨blk_kept hb hk hne, hg⟩
theorem IsS127.below {w0 W : World} {g : Nat} {f0 : ByteArray} {f1 : Bool} {W1 : World} (h : IsS127 w0 W g f0 f1) (hw : Below W.heap.size W W1) : IsS127 w0 W1 g f0 f1 := h.grown (grown_of_below hw none) (by simp)
theorem IsS127.alloc {w0 W : World} {g : Nat} {f0 : ByteArray} {f1 : Bool} (h : IsS127 w0 W g f0 f1) (o : Obj) : IsS127 w0 (W.alloc o) g f0 f1 := h.below (below_alloc (Below.refl _ _) o)
theorem IsS127.drewN {w0 W : World} {g : Nat} {f0 : ByteArray} {f1 : Bool} (h : IsS127 w0 W g f0 f1) (m : Nat) : IsS127 w0 (W.drewN m) g f0 f1 := h
theorem IsS127.drew {w0 W : World} {g : Nat} {f0 : ByteArray} {f1 : Bool} (h : IsS127 w0 W g f0 f1) : IsS127 w0 W.drew g f0 f1 := h
theorem IsS127.at_ {w0 W : World} {g : Nat} {f0 : ByteArray} {f1 : Bool} {w' : World} {m : Nat} (hq : W.drewN m = w') (h : IsS127 w0 W g f0 f1) : IsS127 w0 w' g f0 f1 := by subst hq; exact IsS127.drewN h m
theorem IsS127.apart {w0 W : World} {g : Nat} {f0 : ByteArray} {f1 : Bool} {α : Type} {d : Kd α} {e : Nat} {base : Nat} {ok : Nat → Prop} {v : Value} {xs : List α} (h : IsS127 w0 W g f0 f1) (ho : d.R e W base ok v xs) (ht : ∀ q, q ∈ e :: d.E → q ≠ 127) : d.R e W base (fun k => ok k ∧ k ≠ g) v xs := by
 obtain ⟨hb, hg⟩ := h
 exact Kd.R_types ho hb ht
theorem IsS127.own_ne {w0 W : World} {g : Nat} {f0 : ByteArray} {f1 : Bool} {α : Type} {d : Kd α} {e : Nat} {base : Nat} {ok : Nat → Prop} {v : Value} {xs : List α} (h : IsS127 w0 W g f0 f1) (ho : d.R e W base ok v xs) (ht : e ≠ 127) : some g ≠ v.ownBlock := by
 obtain ⟨hb, hg⟩ := h
 exact Kd.R_ne ho hb ht
theorem IsS127.lt {w0 W : World} {g : Nat} {f0 : ByteArray} {f1 : Bool} (h : IsS127 w0 W g f0 f1) : g < W.heap.size := by
 obtain ⟨hb, hg⟩ := h
 exact blk_lt hb
theorem IsS127.ge {w0 W : World} {g : Nat} {f0 : ByteArray} {f1 : Bool} (h : IsS127 w0 W g f0 f1) : w0.heap.size ≤ g := by
 obtain ⟨hb, hg⟩ := h
 exact hg
theorem IsS127.ne_blk {w0 W : World} {g : Nat} {f0 : ByteArray} {f1 : Bool} {a : Nat} {cs : Array Value} {t : TypeId} {fr : Nat × Nat} (h : IsS127 w0 W g f0 f1) (hb2 : W.heap[a]? = some (.cells cs t fr)) (ht : t ≠ 127) : g ≠ a := by
 obtain ⟨hb, hg⟩ := h
 rintro rfl
 rw [hb] at hb2
 injection hb2 with hb2
 injection hb2 with _ ht2
 exact ht ht2.symm
theorem IsS127.far {w0 W : World} {g : Nat} {f0 : ByteArray} {f1 : Bool} {p : Addr} (h : IsS127 w0 W g f0 f1) (hne : g ≠ p.block) (u : Value) : IsS127 w0 (W.setCell p u) g f0 f1 := by
 obtain ⟨hb, hg⟩ := h
 exact ⟨blk_far hb hne u, hg⟩
theorem cellS127_0 {W : World} {g : Nat} {f0 : ByteArray} {f1 : Bool} (h : W.heap[g]? = some (.cells #[.string f0, .bool f1] 127 (0, 0))) : W.cell? ⟨g, 0, none⟩ = some (.string f0) := (blk_cell h 0).trans rfl
theorem IsS127.set_0 {w0 W : World} {g : Nat} {f0 : ByteArray} {f1 : Bool} (h : IsS127 w0 W g f0 f1) (x : ByteArray) : IsS127 w0 (W.setCell ⟨g, 0, none⟩ (.string x)) g x f1 := by
 obtain ⟨hb, hg⟩ := h
 exact ⟨by simpa using blk_set hb 0 (.string x), hg⟩
theorem cellS127_1 {W : World} {g : Nat} {f0 : ByteArray} {f1 : Bool} (h : W.heap[g]? = some (.cells #[.string f0, .bool f1] 127 (0, 0))) : W.cell? ⟨g, 1, none⟩ = some (.bool f1) := (blk_cell h 1).trans rfl
theorem IsS127.set_1 {w0 W : World} {g : Nat} {f0 : ByteArray} {f1 : Bool} (h : IsS127 w0 W g f0 f1) (x : Bool) : IsS127 w0 (W.setCell ⟨g, 1, none⟩ (.bool x)) g f0 x := by
 obtain ⟨hb, hg⟩ := h
 exact ⟨by simpa using blk_set hb 1 (.bool x), hg⟩
theorem IsS127.st {P Q : Prop} (h : Aside0 P) (e : P → Q := by intro h_; repeat (first | (with_reducible first | exact h_ | apply IsS127.alloc | apply IsS127.drewN | apply IsS127.drew | apply IsS127.set_0 | apply IsS127.set_1 | refine IsS127.far ?_ (Aside0.out (by assumption)) _) | exact h_)) : Q := e h.out
theorem IsS127.stH {P Q : Prop} (h : Aside0 P) (e : P → Q := by intro h_; repeat (first | (with_reducible first | exact h_ | apply below_alloc | apply pw_below_drewN | apply below_drew1 | refine below_set ?_ (Aside0.out (by assumption)) | refine below_set ?_ (IsS127.ge (Aside0.out (by assumption)))) | exact h_)) : Q := e h.out
def entry_taker_int.f (s0_0 : ByteArray) (s0_1 : Bool) : Option (Int × ByteArray × Bool) := (nibTake.f s0_0).bind fun bt101 => (if s0_1 = true then (some (bt101.1, bt101.2.1, true)) else (some (bt101.1, bt101.2.1, !bt101.2.2)))
set_option maxHeartbeats 8000000 in
set_option maxRecDepth 100000 in
theorem entry_taker_int.calls (g : Nat) (s0_0 : ByteArray) (s0_1 : Bool) (r1 : Int) (r2 : ByteArray) (r3 : Bool) (w0 w : World) (hI : IsS127 w0 w g s0_0 s0_1) (hB : Below w0.heap.size w0 w) (h : entry_taker_int.f s0_0 s0_1 = some (r1, r2, r3)) :
  Calls Try.prog 107 #[.pointer (some ⟨g, 0, none⟩)] w fun e w' => e = .returned (.int .i64 r1) ∧ IsS127 w0 w' g r2 r3 ∧ Below w0.heap.size w0 w' ∧ KeepBut w w' g none := by
 have HI0 := aq hI
 have HK := aq (KeepBut.refl w g none)
 have HL := aq hB.size
 clear hI
 have HW0 := aq hB.size
 have HB := aq hB
 clear hB
 have H : ((nibTake.f s0_0).bind fun bt101 => (if s0_1 = true then (some (bt101.1, bt101.2.1, true)) else (some (bt101.1, bt101.2.1, !bt101.2.2)))) = some (r1, r2, r3) := h
 clear h
 replace H := Option.bind_eq_some_iff.mp H
 obtain ⟨⟨t101, t102, t103⟩, A20, H⟩ := H
 try dsimp only at H
 have A2 := aq A20
 clear A20
 by_cases c3 : s0_1 = true
 ·subst c3
  rw [if_pos rfl] at H
  simp only [Option.some.injEq, Prod.mk.injEq] at H
  obtain ⟨rfl, rfl, rfl⟩ := H
  obtain ⟨HGz4, hgz4⟩ := HI0.out
  have k4a := cellS127_0 HGz4
  have k4b := cellS127_1 HGz4
  obtain ⟨u4a, u4b⟩ := fr2 HGz4
  clear HGz4 hgz4
  go_enter Try.func107, Try.ntmps107
  go_wp2_with (first | ((with_reducible refine gate_callee (f := 120) rfl ?_); refine goesL_ (some 11) rfl rfl Try.func120 (by kernel_rfl) rfl #[.string s0_0] rfl fitR ?_; (with_reducible refine (nibTake.calls s0_0 t101 t102 t103 _ A2.out).mono ?_); rintro e w5 ⟨rfl, hb⟩; refine ⟨_, rfl, ?_⟩; have n0_ := aq (IsS127.below (IsS127.st HI0) hb); have n1_ := aq (KeepBut.trans (stK HK) (KeepBut.of_below hb g none) (.inl rfl)); have n2_ := aq (below_step (IsS127.stH HB) hb); replace HI0 := n0_; replace HK := n1_; replace HB := n2_; clear n0_ n1_ n2_; (try clear hb); obtain ⟨HGz6, hgz6⟩ := HI0.out; have k6a := cellS127_0 HGz6; have k6b := cellS127_1 HGz6; obtain ⟨u6a, u6b⟩ := fr2 HGz6; clear HGz6 hgz6))
  go_ret
  exact ⟨eqW, by repeat (first | (with_reducible first | exact HI0.out | apply IsS127.alloc | apply IsS127.drewN | apply IsS127.drew | apply IsS127.set_0 | apply IsS127.set_1) | exact HI0.out), by repeat (first | (with_reducible first | exact HB.out | apply below_alloc | apply pw_below_drewN | apply below_drew1 | refine below_set ?_ (IsS127.ge HI0.out)) | exact HB.out), by repeat (first | (with_reducible first | exact HK.out | apply KeepBut.set_ | apply keep_drewN | apply keep_drew | apply keep_alloc) | exact HK.out)⟩
 ·replace c3 := Bool.eq_false_iff.mpr c3
  subst c3
  rw [if_neg (show ¬ (false = true) by decide)] at H
  simp only [Option.some.injEq, Prod.mk.injEq] at H
  obtain ⟨rfl, rfl, rfl⟩ := H
  obtain ⟨HGz7, hgz7⟩ := HI0.out
  have k7a := cellS127_0 HGz7
  have k7b := cellS127_1 HGz7
  obtain ⟨u7a, u7b⟩ := fr2 HGz7
  clear HGz7 hgz7
  go_enter Try.func107, Try.ntmps107
  go_wp2_with (first | ((with_reducible refine gate_callee (f := 120) rfl ?_); refine goesL_ (some 11) rfl rfl Try.func120 (by kernel_rfl) rfl #[.string s0_0] rfl fitR ?_; (with_reducible refine (nibTake.calls s0_0 t101 t102 t103 _ A2.out).mono ?_); rintro e w8 ⟨rfl, hb⟩; refine ⟨_, rfl, ?_⟩; have n0_ := aq (IsS127.below (IsS127.st HI0) hb); have n1_ := aq (KeepBut.trans (stK HK) (KeepBut.of_below hb g none) (.inl rfl)); have n2_ := aq (below_step (IsS127.stH HB) hb); replace HI0 := n0_; replace HK := n1_; replace HB := n2_; clear n0_ n1_ n2_; (try clear hb); obtain ⟨HGz9, hgz9⟩ := HI0.out; have k9a := cellS127_0 HGz9; have k9b := cellS127_1 HGz9; obtain ⟨u9a, u9b⟩ := fr2 HGz9; clear HGz9 hgz9))
  go_ret
  exact ⟨eqW, by repeat (first | (with_reducible first | exact HI0.out | apply IsS127.alloc | apply IsS127.drewN | apply IsS127.drew | apply IsS127.set_0 | apply IsS127.set_1) | exact HI0.out), by repeat (first | (with_reducible first | exact HB.out | apply below_alloc | apply pw_below_drewN | apply below_drew1 | refine below_set ?_ (IsS127.ge HI0.out)) | exact HB.out), by repeat (first | (with_reducible first | exact HK.out | apply KeepBut.set_ | apply keep_drewN | apply keep_drew | apply keep_alloc) | exact HK.out)⟩
end Go.Proofs.Ytfjmnaobfbmllaa.M
namespace Go.Proofs.Ytfjmnaobfbmllaa.M
open Go.RowKit Go.Proofs.YtfjmnaobfbmllaaW.PrintWords Go.Proofs.YtfjmnaobfbmllaaW.PrintLast Go.Proofs.YtfjmnaobfbmllaaW.PrintMore
attribute [local go_sem] max2_int min2_int max_two min_two max_three min_three max_four min_four   -- for this text's walks alone
set_option linter.unusedVariables false
set_option linter.unusedSimpArgs false
def entry_taker_slot.f (s0_0 : ByteArray) (s0_1 : Bool) : Option (Bool × ByteArray × ByteArray × Bool) := (entry_taker_int.f s0_0 s0_1).bind fun bt102 => (if bt102.1 = 0 then (some (false, (⟨#[]⟩ : ByteArray), bt102.2.1, bt102.2.2)) else (if bt102.1 = 1 then ((nibTakeStr.f bt102.2.1 200).bind fun bt105 => (if bt102.2.2 = true then (some (true, bt105.1, bt105.2.1, true)) else (some (true, bt105.1, bt105.2.1, !bt105.2.2)))) else (some (false, (⟨#[]⟩ : ByteArray), bt102.2.1, true))))
set_option maxHeartbeats 8000000 in
set_option maxRecDepth 100000 in
theorem entry_taker_slot.calls (g : Nat) (s0_0 : ByteArray) (s0_1 : Bool) (r1 : Bool) (r2 : ByteArray) (r3 : ByteArray) (r4 : Bool) (w0 w : World) (hI : IsS127 w0 w g s0_0 s0_1) (hB : Below w0.heap.size w0 w) (h : entry_taker_slot.f s0_0 s0_1 = some (r1, r2, r3, r4)) :
  Calls Try.prog 108 #[.pointer (some ⟨g, 0, none⟩)] w fun e w' => e = .returned (.agg #[.bool r1, .string r2]) ∧ IsS127 w0 w' g r3 r4 ∧ Below w0.heap.size w0 w' ∧ KeepBut w w' g none := by
 have hu33 := Try.underlying33
 have HI0 := aq hI
 have HK := aq (KeepBut.refl w g none)
 have HL := aq hB.size
 clear hI
 have HW0 := aq hB.size
 have HB := aq hB
 clear hB
 have H : ((entry_taker_int.f s0_0 s0_1).bind fun bt102 => (if bt102.1 = 0 then (some (false, (⟨#[]⟩ : ByteArray), bt102.2.1, bt102.2.2)) else (if bt102.1 = 1 then ((nibTakeStr.f bt102.2.1 200).bind fun bt105 => (if bt102.2.2 = true then (some (true, bt105.1, bt105.2.1, true)) else (some (true, bt105.1, bt105.2.1, !bt105.2.2)))) else (some (false, (⟨#[]⟩ : ByteArray), bt102.2.1, true))))) = some (r1, r2, r3, r4) := h
 clear h
 replace H := Option.bind_eq_some_iff.mp H
 obtain ⟨⟨t102, t103, t104⟩, A20, H⟩ := H
 try dsimp only at H
 have A2 := aq A20
 clear A20
 by_cases c3 : t102 = 0
 ·rw [if_pos c3] at H
  have c3b0 : (t102 == 0) = true := beq_iff_eq.mpr c3
  have c3b1 : (t102 != 0) = false := bne_eq_false_iff_eq.mpr c3
  clear c3
  simp only [Option.some.injEq, Prod.mk.injEq] at H
  obtain ⟨rfl, rfl, rfl, rfl⟩ := H
  go_enter Try.func108, Try.ntmps108
  go_wp2_with (first | ((with_reducible refine gate_dst (N := 2) rfl ?_); refine box_event ?hg (N := 2) ?hd (cs := #[.bool false, .string (⟨#[]⟩ : ByteArray)]) (t := 33) ?hr ?_; (case hd => rfl); (case hg => rfl); (case hr => first | (go_simp; done) | (go_simp; rfl)); intro gb101 hg w4 hbox hb; have n0_ := aq (IsS127.below (IsS127.st HI0) hb); have n1_ := aq (KeepBut.trans (stK HK) (KeepBut.of_below hb g none) (.inl rfl)); have n2_ := aq (below_step (IsS127.stH HB) hb); have n3_ := aq (hbox); have n4_ := aq ((by rw [hg]; exact (keep_size (w := w) (g := g) (row := none) (stK HK)) : w.heap.size ≤ gb101)); have n5_ := aq ((Nat.le_trans HW0.out (by rw [hg]; exact (keep_size (w := w) (g := g) (row := none) (stK HK)) : w.heap.size ≤ gb101) : w0.heap.size ≤ gb101)); have n6_ := aq ((by rw [hg]; exact Nat.ne_of_lt (IsS127.lt (show IsS127 w0 _ g s0_0 s0_1 from by repeat (first | (with_reducible first | exact HI0.out | apply IsS127.alloc | apply IsS127.drewN | apply IsS127.drew | apply IsS127.set_0 | apply IsS127.set_1) | exact HI0.out))) : g ≠ gb101)); have n7_ := aq ((by rw [hg]; exact Nat.ne_of_gt (IsS127.lt (show IsS127 w0 _ g s0_0 s0_1 from by repeat (first | (with_reducible first | exact HI0.out | apply IsS127.alloc | apply IsS127.drewN | apply IsS127.drew | apply IsS127.set_0 | apply IsS127.set_1) | exact HI0.out))) : gb101 ≠ g)); replace HI0 := n0_; replace HK := n1_; replace HB := n2_; have BK101 := n3_; have GW101 := n4_; have GE101 := n5_; have NB0_101 := n6_; have NB101_0 := n7_; clear n0_ n1_ n2_ n3_ n4_ n5_ n6_ n7_; clear hb hbox hg) | ((with_reducible refine gate_callee (f := 107) rfl ?_); refine goesL_ (some 7) rfl rfl Try.func107 (by kernel_rfl) rfl #[.pointer (some ⟨g, 0, none⟩)] rfl fitR ?_; (with_reducible refine (entry_taker_int.calls g s0_0 s0_1 t102 t103 t104 w0 _ ?side1 ?side2 A2.out).mono ?_); (case side1 => repeat (first | (with_reducible first | exact HI0.out | apply IsS127.alloc | apply IsS127.drewN | apply IsS127.drew | apply IsS127.set_0 | apply IsS127.set_1 | refine IsS127.far ?_ NB0_101.out _) | exact HI0.out)); (case side2 => repeat (first | (with_reducible first | exact HB.out | apply below_alloc | apply pw_below_drewN | apply below_drew1 | refine below_set ?_ (IsS127.ge HI0.out) | refine below_set ?_ GE101.out) | exact HB.out)); rintro e w5 ⟨rfl, hi, hb, hk⟩; refine ⟨_, rfl, ?_⟩; have n0_ := aq (KeepBut.blk hk (stB BK101) NB101_0.out (by simp)); have n1_ := aq (KeepBut.trans (stK HK) hk (.inl rfl)); have n2_ := aq (hb); have n3_ := aq (hi); replace BK101 := n0_; replace HK := n1_; replace HB := n2_; replace HI0 := n3_; clear n0_ n1_ n2_ n3_; (try clear hb); (try clear hk); (try clear hi); have hnb6 := NB101_0.out; have hnc6 := NB0_101.out; obtain ⟨k7a, k7b⟩ := cl2 (W := w5) BK101.out; obtain ⟨u7a, u7b⟩ := fr2 BK101.out))
  refine bodyPost_ret (results_cell_row rfl _ _ gb101 33 #[.bool false, .string (⟨#[]⟩ : ByteArray)] (0, 0) _ rfl (by (with_reducible repeat (first | refine blk_drewN ?_ _ | refine blk_drew ?_ | refine blk_alloc ?_ _)); refine puts2 (cs := #[.bool false, .string (⟨#[]⟩ : ByteArray)]) rfl ?_; (with_reducible repeat (first | refine blk_drewN ?_ _ | refine blk_drew ?_ | refine blk_alloc ?_ _)); exact BK101.out) Try.underlying33 rfl (by kernel_rfl)) rfl ?_
  exact ⟨eqW, by repeat (first | (with_reducible first | exact HI0.out | apply IsS127.alloc | apply IsS127.drewN | apply IsS127.drew | apply IsS127.set_0 | apply IsS127.set_1 | refine IsS127.far ?_ NB0_101.out _) | exact HI0.out), by repeat (first | (with_reducible first | exact HB.out | apply below_alloc | apply pw_below_drewN | apply below_drew1 | refine below_set ?_ (IsS127.ge HI0.out) | refine below_set ?_ GE101.out) | exact HB.out), by repeat (first | (with_reducible first | exact HK.out | apply KeepBut.set_ | apply keep_drewN | apply keep_drew | apply keep_alloc | refine keep_far ?_ GW101.out _) | exact HK.out)⟩
 ·rw [if_neg c3] at H
  have c3b0 : (t102 == 0) = false := beq_eq_false_iff_ne.mpr c3
  have c3b1 : (t102 != 0) = true := bne_iff_ne.mpr c3
  by_cases c8 : t102 = 1
  ·rw [if_pos c8] at H
   have c8b0 : (t102 == 1) = true := beq_iff_eq.mpr c8
   have c8b1 : (t102 != 1) = false := bne_eq_false_iff_eq.mpr c8
   clear c8
   replace H := Option.bind_eq_some_iff.mp H
   obtain ⟨⟨t105, t106, t107⟩, A90, H⟩ := H
   try dsimp only at H
   have A9 := aq A90
   clear A90
   by_cases c10 : t104 = true
   ·subst c10
    rw [if_pos rfl] at H
    simp only [Option.some.injEq, Prod.mk.injEq] at H
    obtain ⟨rfl, rfl, rfl, rfl⟩ := H
    go_enter Try.func108, Try.ntmps108
    go_wp2_with (first | ((with_reducible refine gate_dst (N := 2) rfl ?_); refine box_event ?hg (N := 2) ?hd (cs := #[.bool false, .string (⟨#[]⟩ : ByteArray)]) (t := 33) ?hr ?_; (case hd => rfl); (case hg => rfl); (case hr => first | (go_simp; done) | (go_simp; rfl)); intro gb101 hg w11 hbox hb; have n0_ := aq (IsS127.below (IsS127.st HI0) hb); have n1_ := aq (KeepBut.trans (stK HK) (KeepBut.of_below hb g none) (.inl rfl)); have n2_ := aq (below_step (IsS127.stH HB) hb); have n3_ := aq (hbox); have n4_ := aq ((by rw [hg]; exact (keep_size (w := w) (g := g) (row := none) (stK HK)) : w.heap.size ≤ gb101)); have n5_ := aq ((Nat.le_trans HW0.out (by rw [hg]; exact (keep_size (w := w) (g := g) (row := none) (stK HK)) : w.heap.size ≤ gb101) : w0.heap.size ≤ gb101)); have n6_ := aq ((by rw [hg]; exact Nat.ne_of_lt (IsS127.lt (show IsS127 w0 _ g s0_0 s0_1 from by repeat (first | (with_reducible first | exact HI0.out | apply IsS127.alloc | apply IsS127.drewN | apply IsS127.drew | apply IsS127.set_0 | apply IsS127.set_1) | exact HI0.out))) : g ≠ gb101)); have n7_ := aq ((by rw [hg]; exact Nat.ne_of_gt (IsS127.lt (show IsS127 w0 _ g s0_0 s0_1 from by repeat (first | (with_reducible first | exact HI0.out | apply IsS127.alloc | apply IsS127.drewN | apply IsS127.drew | apply IsS127.set_0 | apply IsS127.set_1) | exact HI0.out))) : gb101 ≠ g)); replace HI0 := n0_; replace HK := n1_; replace HB := n2_; have BK101 := n3_; have GW101 := n4_; have GE101 := n5_; have NB0_101 := n6_; have NB101_0 := n7_; clear n0_ n1_ n2_ n3_ n4_ n5_ n6_ n7_; clear hb hbox hg) | ((with_reducible refine gate_callee (f := 107) rfl ?_); refine goesL_ (some 7) rfl rfl Try.func107 (by kernel_rfl) rfl #[.pointer (some ⟨g, 0, none⟩)] rfl fitR ?_; (with_reducible refine (entry_taker_int.calls g s0_0 s0_1 t102 t103 true w0 _ ?side1 ?side2 A2.out).mono ?_); (case side1 => repeat (first | (with_reducible first | exact HI0.out | apply IsS127.alloc | apply IsS127.drewN | apply IsS127.drew | apply IsS127.set_0 | apply IsS127.set_1 | refine IsS127.far ?_ NB0_101.out _) | exact HI0.out)); (case side2 => repeat (first | (with_reducible first | exact HB.out | apply below_alloc | apply pw_below_drewN | apply below_drew1 | refine below_set ?_ (IsS127.ge HI0.out) | refine below_set ?_ GE101.out) | exact HB.out)); rintro e w12 ⟨rfl, hi, hb, hk⟩; refine ⟨_, rfl, ?_⟩; have n0_ := aq (KeepBut.blk hk (stB BK101) NB101_0.out (by simp)); have n1_ := aq (KeepBut.trans (stK HK) hk (.inl rfl)); have n2_ := aq (hb); have n3_ := aq (hi); replace BK101 := n0_; replace HK := n1_; replace HB := n2_; replace HI0 := n3_; clear n0_ n1_ n2_ n3_; (try clear hb); (try clear hk); (try clear hi); obtain ⟨HGz13, hgz13⟩ := HI0.out; have k13a := cellS127_0 HGz13; have k13b := cellS127_1 HGz13; obtain ⟨u13a, u13b⟩ := fr2 HGz13; clear HGz13 hgz13) | ((with_reducible refine gate_callee (f := 126) rfl ?_); refine goesL_ (some 18) rfl rfl Try.func126 (by kernel_rfl) rfl #[.string t103, .int .i64 200] rfl fitR ?_; (with_reducible refine (nibTakeStr.calls t103 200 t105 t106 t107 _ A9.out).mono ?_); rintro e w14 ⟨rfl, hb⟩; refine ⟨_, rfl, ?_⟩; have n0_ := aq (IsS127.below (IsS127.st HI0) hb); have n1_ := aq (blk_below (stB BK101) hb); have n2_ := aq (KeepBut.trans (stK HK) (KeepBut.of_below hb g none) (.inl rfl)); have n3_ := aq (below_step (IsS127.stH HB) hb); replace HI0 := n0_; replace BK101 := n1_; replace HK := n2_; replace HB := n3_; clear n0_ n1_ n2_ n3_; (try clear hb); obtain ⟨HGz15, hgz15⟩ := HI0.out; have k15a := cellS127_0 HGz15; have k15b := cellS127_1 HGz15; obtain ⟨u15a, u15b⟩ := fr2 HGz15; clear HGz15 hgz15; have hnb16 := NB101_0.out; have hnc16 := NB0_101.out; obtain ⟨k17a, k17b⟩ := cl2 (W := w14) BK101.out; obtain ⟨u17a, u17b⟩ := fr2 BK101.out))
    refine bodyPost_ret (results_cell_row rfl _ _ gb101 33 #[.bool true, .string t105] (0, 0) _ rfl (by (with_reducible repeat (first | refine blk_drewN ?_ _ | refine blk_drew ?_ | refine blk_alloc ?_ _)); refine puts2 (cs := #[.bool false, .string (⟨#[]⟩ : ByteArray)]) rfl ?_; refine blk_far ?_ NB101_0.out _; refine blk_far ?_ NB101_0.out _; (with_reducible repeat (first | refine blk_drewN ?_ _ | refine blk_drew ?_ | refine blk_alloc ?_ _)); exact BK101.out) Try.underlying33 rfl (by kernel_rfl)) rfl ?_
    exact ⟨eqW, by repeat (first | (with_reducible first | exact HI0.out | apply IsS127.alloc | apply IsS127.drewN | apply IsS127.drew | apply IsS127.set_0 | apply IsS127.set_1 | refine IsS127.far ?_ NB0_101.out _) | exact HI0.out), by repeat (first | (with_reducible first | exact HB.out | apply below_alloc | apply pw_below_drewN | apply below_drew1 | refine below_set ?_ (IsS127.ge HI0.out) | refine below_set ?_ GE101.out) | exact HB.out), by repeat (first | (with_reducible first | exact HK.out | apply KeepBut.set_ | apply keep_drewN | apply keep_drew | apply keep_alloc | refine keep_far ?_ GW101.out _) | exact HK.out)⟩
   ·replace c10 := Bool.eq_false_iff.mpr c10
    subst c10
    rw [if_neg (show ¬ (false = true) by decide)] at H
    simp only [Option.some.injEq, Prod.mk.injEq] at H
    obtain ⟨rfl, rfl, rfl, rfl⟩ := H
    go_enter Try.func108, Try.ntmps108
    go_wp2_with (first | ((with_reducible refine gate_dst (N := 2) rfl ?_); refine box_event ?hg (N := 2) ?hd (cs := #[.bool false, .string (⟨#[]⟩ : ByteArray)]) (t := 33) ?hr ?_; (case hd => rfl); (case hg => rfl); (case hr => first | (go_simp; done) | (go_simp; rfl)); intro gb101 hg w18 hbox hb; have n0_ := aq (IsS127.below (IsS127.st HI0) hb); have n1_ := aq (KeepBut.trans (stK HK) (KeepBut.of_below hb g none) (.inl rfl)); have n2_ := aq (below_step (IsS127.stH HB) hb); have n3_ := aq (hbox); have n4_ := aq ((by rw [hg]; exact (keep_size (w := w) (g := g) (row := none) (stK HK)) : w.heap.size ≤ gb101)); have n5_ := aq ((Nat.le_trans HW0.out (by rw [hg]; exact (keep_size (w := w) (g := g) (row := none) (stK HK)) : w.heap.size ≤ gb101) : w0.heap.size ≤ gb101)); have n6_ := aq ((by rw [hg]; exact Nat.ne_of_lt (IsS127.lt (show IsS127 w0 _ g s0_0 s0_1 from by repeat (first | (with_reducible first | exact HI0.out | apply IsS127.alloc | apply IsS127.drewN | apply IsS127.drew | apply IsS127.set_0 | apply IsS127.set_1) | exact HI0.out))) : g ≠ gb101)); have n7_ := aq ((by rw [hg]; exact Nat.ne_of_gt (IsS127.lt (show IsS127 w0 _ g s0_0 s0_1 from by repeat (first | (with_reducible first | exact HI0.out | apply IsS127.alloc | apply IsS127.drewN | apply IsS127.drew | apply IsS127.set_0 | apply IsS127.set_1) | exact HI0.out))) : gb101 ≠ g)); replace HI0 := n0_; replace HK := n1_; replace HB := n2_; have BK101 := n3_; have GW101 := n4_; have GE101 := n5_; have NB0_101 := n6_; have NB101_0 := n7_; clear n0_ n1_ n2_ n3_ n4_ n5_ n6_ n7_; clear hb hbox hg) | ((with_reducible refine gate_callee (f := 107) rfl ?_); refine goesL_ (some 7) rfl rfl Try.func107 (by kernel_rfl) rfl #[.pointer (some ⟨g, 0, none⟩)] rfl fitR ?_; (with_reducible refine (entry_taker_int.calls g s0_0 s0_1 t102 t103 false w0 _ ?side1 ?side2 A2.out).mono ?_); (case side1 => repeat (first | (with_reducible first | exact HI0.out | apply IsS127.alloc | apply IsS127.drewN | apply IsS127.drew | apply IsS127.set_0 | apply IsS127.set_1 | refine IsS127.far ?_ NB0_101.out _) | exact HI0.out)); (case side2 => repeat (first | (with_reducible first | exact HB.out | apply below_alloc | apply pw_below_drewN | apply below_drew1 | refine below_set ?_ (IsS127.ge HI0.out) | refine below_set ?_ GE101.out) | exact HB.out)); rintro e w19 ⟨rfl, hi, hb, hk⟩; refine ⟨_, rfl, ?_⟩; have n0_ := aq (KeepBut.blk hk (stB BK101) NB101_0.out (by simp)); have n1_ := aq (KeepBut.trans (stK HK) hk (.inl rfl)); have n2_ := aq (hb); have n3_ := aq (hi); replace BK101 := n0_; replace HK := n1_; replace HB := n2_; replace HI0 := n3_; clear n0_ n1_ n2_ n3_; (try clear hb); (try clear hk); (try clear hi); obtain ⟨HGz20, hgz20⟩ := HI0.out; have k20a := cellS127_0 HGz20; have k20b := cellS127_1 HGz20; obtain ⟨u20a, u20b⟩ := fr2 HGz20; clear HGz20 hgz20) | ((with_reducible refine gate_callee (f := 126) rfl ?_); refine goesL_ (some 18) rfl rfl Try.func126 (by kernel_rfl) rfl #[.string t103, .int .i64 200] rfl fitR ?_; (with_reducible refine (nibTakeStr.calls t103 200 t105 t106 t107 _ A9.out).mono ?_); rintro e w21 ⟨rfl, hb⟩; refine ⟨_, rfl, ?_⟩; have n0_ := aq (IsS127.below (IsS127.st HI0) hb); have n1_ := aq (blk_below (stB BK101) hb); have n2_ := aq (KeepBut.trans (stK HK) (KeepBut.of_below hb g none) (.inl rfl)); have n3_ := aq (below_step (IsS127.stH HB) hb); replace HI0 := n0_; replace BK101 := n1_; replace HK := n2_; replace HB := n3_; clear n0_ n1_ n2_ n3_; (try clear hb); obtain ⟨HGz22, hgz22⟩ := HI0.out; have k22a := cellS127_0 HGz22; have k22b := cellS127_1 HGz22; obtain ⟨u22a, u22b⟩ := fr2 HGz22; clear HGz22 hgz22; have hnb23 := NB101_0.out; have hnc23 := NB0_101.out; obtain ⟨k24a, k24b⟩ := cl2 (W := w21) BK101.out; obtain ⟨u24a, u24b⟩ := fr2 BK101.out))
    refine bodyPost_ret (results_cell_row rfl _ _ gb101 33 #[.bool true, .string t105] (0, 0) _ rfl (by (with_reducible repeat (first | refine blk_drewN ?_ _ | refine blk_drew ?_ | refine blk_alloc ?_ _)); refine puts2 (cs := #[.bool false, .string (⟨#[]⟩ : ByteArray)]) rfl ?_; refine blk_far ?_ NB101_0.out _; refine blk_far ?_ NB101_0.out _; (with_reducible repeat (first | refine blk_drewN ?_ _ | refine blk_drew ?_ | refine blk_alloc ?_ _)); exact BK101.out) Try.underlying33 rfl (by kernel_rfl)) rfl ?_
    exact ⟨eqW, by repeat (first | (with_reducible first | exact HI0.out | apply IsS127.alloc | apply IsS127.drewN | apply IsS127.drew | apply IsS127.set_0 | apply IsS127.set_1 | refine IsS127.far ?_ NB0_101.out _) | exact HI0.out), by repeat (first | (with_reducible first | exact HB.out | apply below_alloc | apply pw_below_drewN | apply below_drew1 | refine below_set ?_ (IsS127.ge HI0.out) | refine below_set ?_ GE101.out) | exact HB.out), by repeat (first | (with_reducible first | exact HK.out | apply KeepBut.set_ | apply keep_drewN | apply keep_drew | apply keep_alloc | refine keep_far ?_ GW101.out _) | exact HK.out)⟩
  ·rw [if_neg c8] at H
   have c8b0 : (t102 == 1) = false := beq_eq_false_iff_ne.mpr c8
   have c8b1 : (t102 != 1) = true := bne_iff_ne.mpr c8
   simp only [Option.some.injEq, Prod.mk.injEq] at H
   obtain ⟨rfl, rfl, rfl, rfl⟩ := H
   go_enter Try.func108, Try.ntmps108
   go_wp2_with (first | ((with_reducible refine gate_dst (N := 2) rfl ?_); refine box_event ?hg (N := 2) ?hd (cs := #[.bool false, .string (⟨#[]⟩ : ByteArray)]) (t := 33) ?hr ?_; (case hd => rfl); (case hg => rfl); (case hr => first | (go_simp; done) | (go_simp; rfl)); intro gb101 hg w25 hbox hb; have n0_ := aq (IsS127.below (IsS127.st HI0) hb); have n1_ := aq (KeepBut.trans (stK HK) (KeepBut.of_below hb g none) (.inl rfl)); have n2_ := aq (below_step (IsS127.stH HB) hb); have n3_ := aq (hbox); have n4_ := aq ((by rw [hg]; exact (keep_size (w := w) (g := g) (row := none) (stK HK)) : w.heap.size ≤ gb101)); have n5_ := aq ((Nat.le_trans HW0.out (by rw [hg]; exact (keep_size (w := w) (g := g) (row := none) (stK HK)) : w.heap.size ≤ gb101) : w0.heap.size ≤ gb101)); have n6_ := aq ((by rw [hg]; exact Nat.ne_of_lt (IsS127.lt (show IsS127 w0 _ g s0_0 s0_1 from by repeat (first | (with_reducible first | exact HI0.out | apply IsS127.alloc | apply IsS127.drewN | apply IsS127.drew | apply IsS127.set_0 | apply IsS127.set_1) | exact HI0.out))) : g ≠ gb101)); have n7_ := aq ((by rw [hg]; exact Nat.ne_of_gt (IsS127.lt (show IsS127 w0 _ g s0_0 s0_1 from by repeat (first | (with_reducible first | exact HI0.out | apply IsS127.alloc | apply IsS127.drewN | apply IsS127.drew | apply IsS127.set_0 | apply IsS127.set_1) | exact HI0.out))) : gb101 ≠ g)); replace HI0 := n0_; replace HK := n1_; replace HB := n2_; have BK101 := n3_; have GW101 := n4_; have GE101 := n5_; have NB0_101 := n6_; have NB101_0 := n7_; clear n0_ n1_ n2_ n3_ n4_ n5_ n6_ n7_; clear hb hbox hg) | ((with_reducible refine gate_callee (f := 107) rfl ?_); refine goesL_ (some 7) rfl rfl Try.func107 (by kernel_rfl) rfl #[.pointer (some ⟨g, 0, none⟩)] rfl fitR ?_; (with_reducible refine (entry_taker_int.calls g s0_0 s0_1 t102 t103 t104 w0 _ ?side1 ?side2 A2.out).mono ?_); (case side1 => repeat (first | (with_reducible first | exact HI0.out | apply IsS127.alloc | apply IsS127.drewN | apply IsS127.drew | apply IsS127.set_0 | apply IsS127.set_1 | refine IsS127.far ?_ NB0_101.out _) | exact HI0.out)); (case side2 => repeat (first | (with_reducible first | exact HB.out | apply below_alloc | apply pw_below_drewN | apply below_drew1 | refine below_set ?_ (IsS127.ge HI0.out) | refine below_set ?_ GE101.out) | exact HB.out)); rintro e w26 ⟨rfl, hi, hb, hk⟩; refine ⟨_, rfl, ?_⟩; have n0_ := aq (KeepBut.blk hk (stB BK101) NB101_0.out (by simp)); have n1_ := aq (KeepBut.trans (stK HK) hk (.inl rfl)); have n2_ := aq (hb); have n3_ := aq (hi); replace BK101 := n0_; replace HK := n1_; replace HB := n2_; replace HI0 := n3_; clear n0_ n1_ n2_ n3_; (try clear hb); (try clear hk); (try clear hi); obtain ⟨HGz27, hgz27⟩ := HI0.out; have k27a := cellS127_0 HGz27; have k27b := cellS127_1 HGz27; obtain ⟨u27a, u27b⟩ := fr2 HGz27; clear HGz27 hgz27; have hnb28 := NB101_0.out; have hnc28 := NB0_101.out; obtain ⟨k29a, k29b⟩ := cl2 (W := w26) BK101.out; obtain ⟨u29a, u29b⟩ := fr2 BK101.out))
   refine bodyPost_ret (results_cell_row rfl _ _ gb101 33 #[.bool false, .string (⟨#[]⟩ : ByteArray)] (0, 0) _ rfl (by (with_reducible repeat (first | refine blk_drewN ?_ _ | refine blk_drew ?_ | refine blk_alloc ?_ _)); refine puts2 (cs := #[.bool false, .string (⟨#[]⟩ : ByteArray)]) rfl ?_; refine blk_far ?_ NB101_0.out _; (with_reducible repeat (first | refine blk_drewN ?_ _ | refine blk_drew ?_ | refine blk_alloc ?_ _)); exact BK101.out) Try.underlying33 rfl (by kernel_rfl)) rfl ?_
   exact ⟨eqW, by repeat (first | (with_reducible first | exact HI0.out | apply IsS127.alloc | apply IsS127.drewN | apply IsS127.drew | apply IsS127.set_0 | apply IsS127.set_1 | refine IsS127.far ?_ NB0_101.out _) | exact HI0.out), by repeat (first | (with_reducible first | exact HB.out | apply below_alloc | apply pw_below_drewN | apply below_drew1 | refine below_set ?_ (IsS127.ge HI0.out) | refine below_set ?_ GE101.out) | exact HB.out), by repeat (first | (with_reducible first | exact HK.out | apply KeepBut.set_ | apply keep_drewN | apply keep_drew | apply keep_alloc | refine keep_far ?_ GW101.out _) | exact HK.out)⟩
end Go.Proofs.Ytfjmnaobfbmllaa.M
namespace Go.Proofs.Ytfjmnaobfbmllaa.M
open Go.RowKit Go.Proofs.YtfjmnaobfbmllaaW.PrintWords Go.Proofs.YtfjmnaobfbmllaaW.PrintLast Go.Proofs.YtfjmnaobfbmllaaW.PrintMore
set_option linter.unusedVariables false
set_option linter.unusedSimpArgs false
set_option maxHeartbeats 4000000 in
theorem p13 {cs : Array Value} (w : World) (g : Nat) (k c e n lsn prev p s : Int) (u : Bool) (d : ByteArray) (u2 : Bool) (d2 : ByteArray) (next : Int)
  (h : w.heap[g]? = some (.cells cs 65 (0, 0))) (hs : cs.size = 13 := by rfl) :
  ((((((((((((((w.setCell ⟨g, 0, none⟩ (.int .i64 k)).setCell ⟨g, 1, none⟩ (.int .i64 c)).setCell ⟨g, 2, none⟩ (.int .i64 e)).setCell ⟨g, 3, none⟩ (.int .i64 n)).setCell ⟨g, 4, none⟩ (.int .i64 lsn)).setCell ⟨g, 5, none⟩ (.int .i64 prev)).setCell ⟨g, 6, none⟩ (.int .i64 p)).setCell ⟨g, 7, none⟩ (.int .i64 s)).setCell ⟨g, 8, none⟩ (.bool u)).setCell ⟨g, 9, none⟩ (.string d)).setCell ⟨g, 10, none⟩ (.bool u2)).setCell ⟨g, 11, none⟩ (.string d2)).setCell ⟨g, 12, none⟩ (.int .i64 next))).heap[g]? = some (.cells #[.int .i64 k, .int .i64 c, .int .i64 e, .int .i64 n, .int .i64 lsn, .int .i64 prev, .int .i64 p, .int .i64 s, .bool u, .string d, .bool u2, .string d2, .int .i64 next] 65 (0, 0)) ∧ (∀ q o, w.heap[q]? = some o → q ≠ g → ((((((((((((((w.setCell ⟨g, 0, none⟩ (.int .i64 k)).setCell ⟨g, 1, none⟩ (.int .i64 c)).setCell ⟨g, 2, none⟩ (.int .i64 e)).setCell ⟨g, 3, none⟩ (.int .i64 n)).setCell ⟨g, 4, none⟩ (.int .i64 lsn)).setCell ⟨g, 5, none⟩ (.int .i64 prev)).setCell ⟨g, 6, none⟩ (.int .i64 p)).setCell ⟨g, 7, none⟩ (.int .i64 s)).setCell ⟨g, 8, none⟩ (.bool u)).setCell ⟨g, 9, none⟩ (.string d)).setCell ⟨g, 10, none⟩ (.bool u2)).setCell ⟨g, 11, none⟩ (.string d2)).setCell ⟨g, 12, none⟩ (.int .i64 next))).heap[q]? = some o) ∧
   (∀ w0 : World, Below w0.heap.size w0 w → w0.heap.size ≤ g → Below w0.heap.size w0 ((((((((((((((w.setCell ⟨g, 0, none⟩ (.int .i64 k)).setCell ⟨g, 1, none⟩ (.int .i64 c)).setCell ⟨g, 2, none⟩ (.int .i64 e)).setCell ⟨g, 3, none⟩ (.int .i64 n)).setCell ⟨g, 4, none⟩ (.int .i64 lsn)).setCell ⟨g, 5, none⟩ (.int .i64 prev)).setCell ⟨g, 6, none⟩ (.int .i64 p)).setCell ⟨g, 7, none⟩ (.int .i64 s)).setCell ⟨g, 8, none⟩ (.bool u)).setCell ⟨g, 9, none⟩ (.string d)).setCell ⟨g, 10, none⟩ (.bool u2)).setCell ⟨g, 11, none⟩ (.string d2)).setCell ⟨g, 12, none⟩ (.int .i64 next)))) := by
 refine ⟨?_, ?_, ?_⟩
 ·obtain ⟨l⟩ := cs
  match l, hs with
  | [_, _, _, _, _, _, _, _, _, _, _, _, _], _ =>
   have h0 := h
   have h1 := blk_set h0 0 (.int .i64 k)
   have h2 := blk_set h1 1 (.int .i64 c)
   have h3 := blk_set h2 2 (.int .i64 e)
   have h4 := blk_set h3 3 (.int .i64 n)
   have h5 := blk_set h4 4 (.int .i64 lsn)
   have h6 := blk_set h5 5 (.int .i64 prev)
   have h7 := blk_set h6 6 (.int .i64 p)
   have h8 := blk_set h7 7 (.int .i64 s)
   have h9 := blk_set h8 8 (.bool u)
   have h10 := blk_set h9 9 (.string d)
   have h11 := blk_set h10 10 (.bool u2)
   have h12 := blk_set h11 11 (.string d2)
   have h13 := blk_set h12 12 (.int .i64 next)
   simp only [List.setIfInBounds_toArray, List.set_cons_zero, List.set_cons_succ] at h13
   exact h13
 ·intro q o hq hne
  repeat refine (Below.heap_setCell _ _ _ q hne).trans ?_
  exact hq
 ·intro w0 hb hg
  repeat refine below_set ?_ hg
  exact hb
theorem takerInt_eq (r : ByteArray) (b : Bool) : entry_taker_int.f r b = some (tI r b) := by
 unfold entry_taker_int.f nibTake.f tI
 rw [Option.bind_some]
 cases b with
 | true => rw [if_pos rfl]; simp
 | false => rw [if_neg Bool.false_ne_true]; simp
theorem takerSlot_eq (r : ByteArray) (b : Bool) : entry_taker_slot.f r b = some ((tS r b).1.f0, (tS r b).1.f1, (tS r b).2.1, (tS r b).2.2) := by
 unfold entry_taker_slot.f nibTakeStr.f
 rw [takerInt_eq, Option.bind_some]
 unfold tS
 by_cases h0 : (tI r b).1 = 0
 ·rw [if_pos h0, if_pos h0]; rfl
 ·rw [if_neg h0, if_neg h0]
  by_cases h1 : (tI r b).1 = 1
  ·rw [if_pos h1, if_pos h1, Option.bind_some]
   cases hb : (tI r b).2.2 with
   | true => rw [if_pos rfl]; simp
   | false => rw [if_neg Bool.false_ne_true]; simp
  ·rw [if_neg h1, if_neg h1]; rfl
def offF (i : Nat) : Nat := if i = 8 then 12 else i
theorem field_ptr (g i : Nat) (h : i ≤ 8) : (fieldPs g)[i]? = some (.pointer (some ⟨g, offF i, none⟩)) := by
 have : i = 0 ∨ i = 1 ∨ i = 2 ∨ i = 3 ∨ i = 4 ∨ i = 5 ∨ i = 6 ∨ i = 7 ∨ i = 8 := by omega
 rcases this with rfl | rfl | rfl | rfl | rfl | rfl | rfl | rfl | rfl <;> rfl
theorem field_set (x : S65) (i : Nat) (n : Int) (h : i ≤ 8) : (#[.int .i64 x.f0, .int .i64 x.f1.f0, .int .i64 x.f1.f1, .int .i64 x.f1.f2, .int .i64 x.f2, .int .i64 x.f3, .int .i64 x.f4, .int .i64 x.f5, .bool x.f6.f0, .string x.f6.f1, .bool x.f7.f0, .string x.f7.f1, .int .i64 x.f8] : Array Value).setIfInBounds (offF i) (.int .i64 n) = #[.int .i64 (setF x i n).f0, .int .i64 (setF x i n).f1.f0, .int .i64 (setF x i n).f1.f1, .int .i64 (setF x i n).f1.f2, .int .i64 (setF x i n).f2, .int .i64 (setF x i n).f3, .int .i64 (setF x i n).f4, .int .i64 (setF x i n).f5, .bool (setF x i n).f6.f0, .string (setF x i n).f6.f1, .bool (setF x i n).f7.f0, .string (setF x i n).f7.f1, .int .i64 (setF x i n).f8] := by
 have : i = 0 ∨ i = 1 ∨ i = 2 ∨ i = 3 ∨ i = 4 ∨ i = 5 ∨ i = 6 ∨ i = 7 ∨ i = 8 := by omega
 rcases this with rfl | rfl | rfl | rfl | rfl | rfl | rfl | rfl | rfl <;> rfl
theorem field_old (x : S65) (i : Nat) (h : i ≤ 8) : ∃ n : Int, (#[.int .i64 x.f0, .int .i64 x.f1.f0, .int .i64 x.f1.f1, .int .i64 x.f1.f2, .int .i64 x.f2, .int .i64 x.f3, .int .i64 x.f4, .int .i64 x.f5, .bool x.f6.f0, .string x.f6.f1, .bool x.f7.f0, .string x.f7.f1, .int .i64 x.f8] : Array Value)[offF i]? = some (.int .i64 n) := by
 have : i = 0 ∨ i = 1 ∨ i = 2 ∨ i = 3 ∨ i = 4 ∨ i = 5 ∨ i = 6 ∨ i = 7 ∨ i = 8 := by omega
 rcases this with rfl | rfl | rfl | rfl | rfl | rfl | rfl | rfl | rfl <;> exact ⟨_, rfl⟩
set_option maxHeartbeats 8000000 in
set_option maxRecDepth 100000 in
theorem entry_Decode.run (s : ByteArray) (w : World) :
  Calls Try.prog 63 #[.string s] w fun e w' => e = .returned (.tuple #[.agg #[.int .i64 (decG s).1.f0, .int .i64 (decG s).1.f1.f0, .int .i64 (decG s).1.f1.f1, .int .i64 (decG s).1.f1.f2, .int .i64 (decG s).1.f2, .int .i64 (decG s).1.f3, .int .i64 (decG s).1.f4, .int .i64 (decG s).1.f5, .bool (decG s).1.f6.f0, .string (decG s).1.f6.f1, .bool (decG s).1.f7.f0, .string (decG s).1.f7.f1, .int .i64 (decG s).1.f8], .string (decG s).2.1, .int .i64 (decG s).2.2]) ∧ Below w.heap.size w w' := by
 have hu65 := Try.underlying65
 have hu33 := Try.underlying33
 have hu127 := Try.underlying127
 have hu116 := Try.underlying116
 obtain ⟨k, r0, b0, ht⟩ : ∃ k r0 b0, tI s false = (k, r0, b0) := ⟨_, _, _, rfl⟩
 have HT : Aside0 (entry_taker_int.f s false = some (k, r0, b0)) := ⟨by rw [takerInt_eq, ht]⟩
 obtain ⟨m, hm5, hm8, hM⟩ : ∃ m : Nat, 5 ≤ m ∧ m ≤ 8 ∧ (if k = 1 ∨ k = 2 then 9 else 6) = m + 1 := by
  by_cases hk : k = 1 ∨ k = 2
  ·exact ⟨8, by omega, by omega, if_pos hk⟩
  ·exact ⟨5, by omega, by omega, if_neg hk⟩
 have HM := aq hM
 have HG : Aside0 (decG s = decT (decRun m 1 (setF zE 0 k) r0 b0)) := ⟨by
  have : (if k = 1 ∨ k = 2 then 8 else 5) = m := by split at hM <;> (rename_i hc; first | rw [if_pos hc] | rw [if_neg hc]) <;> omega
  unfold decG
  rw [ht]
  simp only
  rw [this]⟩
 clear ht hM
 go_enter Try.func63, Try.ntmps63
 go_wp2_with (first | ((with_reducible refine gate_dst (N := 2) rfl ?_); refine box_event ?hg (N := 2) ?hd (cs := #[.int .i64 0, .int .i64 0, .int .i64 0, .int .i64 0, .int .i64 0, .int .i64 0, .int .i64 0, .int .i64 0, .bool false, .string (⟨#[]⟩ : ByteArray), .bool false, .string (⟨#[]⟩ : ByteArray), .int .i64 0]) (t := 65) ?hr ?_; (case hd => rfl); (case hg => rfl); (case hr => first | (go_simp; done) | (go_simp; rfl)); intro gr hg w1 hbox hb; have BR := aq hbox; have HB := aq hb; have GR := aq (show w.heap.size ≤ gr by rw [hg]; exact Nat.le_refl _); clear hbox hb hg) | ((with_reducible refine gate_dst (N := 11) rfl ?_); refine box_event ?hg (N := 11) ?hd (cs := #[.string s, .bool false]) (t := 127) ?hr ?_; (case hd => rfl); (case hg => rfl); (case hr => first | (go_simp; done) | (go_simp; rfl)); intro gt hg w2 hbox hb; have n0_ := aq (blk_below BR.out hb); have n1_ := aq (below_step HB.out hb); have IT : Aside0 (IsS127 w w2 gt s false) := ⟨⟨hbox, by rw [hg]; exact HB.out.size⟩⟩; have NRT := aq (show gr ≠ gt by have := blk_lt BR.out; omega); clear BR HB; have BR := n0_; have HB := n1_; clear n0_ n1_; clear hbox hb hg) | ((with_reducible refine gate_callee (f := 107) rfl ?_); refine goesL_ (some 13) rfl rfl Try.func107 (by kernel_rfl) rfl #[.pointer (some ⟨gt, 0, none⟩)] rfl (by (try simp only [List.map_toArray, List.map_cons, List.map_nil]); first | done | rfl) ?_; (with_reducible refine (entry_taker_int.calls gt s false k r0 b0 w _ IT.out HB.out HT.out).mono ?_); rintro e w3 ⟨rfl, hi, hb, hk⟩; refine ⟨_, rfl, ?_⟩; have n0_ := aq (KeepBut.blk hk BR.out NRT.out (by simp)); have n1_ := aq hi; have n2_ := aq hb; clear BR IT HB; have BR := n0_; have IT := n1_; have HB := n2_; clear n0_ n1_ n2_; clear hi hb hk) | ((with_reducible refine gate_dst (N := 6) rfl ?_); refine box_event ?hg (N := 6) ?hd (cs := #[.int .i64 0, .int .i64 0, .int .i64 0, .int .i64 0, .int .i64 0, .int .i64 0, .int .i64 0, .int .i64 0, .bool false, .string (⟨#[]⟩ : ByteArray), .bool false, .string (⟨#[]⟩ : ByteArray), .int .i64 0]) (t := 65) ?hr ?_; (case hd => rfl); (case hg => rfl); (case hr => first | (go_simp; done) | (go_simp; rfl)); intro gx hg w4 hbox hb; have n0_ := aq (blk_below BR.out hb); have n1_ := aq (IsS127.below IT.out hb); have n2_ := aq (below_step HB.out hb); have BX := aq hbox; have GX := aq (show w.heap.size ≤ gx by rw [hg]; exact HB.out.size); have NRX := aq (show gr ≠ gx by have := blk_lt BR.out; omega); have NTX := aq (show gt ≠ gx by have := IsS127.lt IT.out; omega); clear BR IT HB; have BR := n0_; have IT := n1_; have HB := n2_; clear n0_ n1_ n2_; clear hbox hb hg; have hcx0 : w4.cell? ⟨gx, 0, none⟩ = some (.int .i64 0) := (blk_cell BX.out 0).trans rfl; have hfx0 := blk_frozen BX.out 0; have hcx1 : w4.cell? ⟨gx, 1, none⟩ = some (.int .i64 0) := (blk_cell BX.out 1).trans rfl; have hfx1 := blk_frozen BX.out 1; have hcx2 : w4.cell? ⟨gx, 2, none⟩ = some (.int .i64 0) := (blk_cell BX.out 2).trans rfl; have hfx2 := blk_frozen BX.out 2; have hcx3 : w4.cell? ⟨gx, 3, none⟩ = some (.int .i64 0) := (blk_cell BX.out 3).trans rfl; have hfx3 := blk_frozen BX.out 3; have hcx4 : w4.cell? ⟨gx, 4, none⟩ = some (.int .i64 0) := (blk_cell BX.out 4).trans rfl; have hfx4 := blk_frozen BX.out 4; have hcx5 : w4.cell? ⟨gx, 5, none⟩ = some (.int .i64 0) := (blk_cell BX.out 5).trans rfl; have hfx5 := blk_frozen BX.out 5; have hcx6 : w4.cell? ⟨gx, 6, none⟩ = some (.int .i64 0) := (blk_cell BX.out 6).trans rfl; have hfx6 := blk_frozen BX.out 6; have hcx7 : w4.cell? ⟨gx, 7, none⟩ = some (.int .i64 0) := (blk_cell BX.out 7).trans rfl; have hfx7 := blk_frozen BX.out 7; have hcx8 : w4.cell? ⟨gx, 8, none⟩ = some (.bool false) := (blk_cell BX.out 8).trans rfl; have hfx8 := blk_frozen BX.out 8; have hcx9 : w4.cell? ⟨gx, 9, none⟩ = some (.string (⟨#[]⟩ : ByteArray)) := (blk_cell BX.out 9).trans rfl; have hfx9 := blk_frozen BX.out 9; have hcx10 : w4.cell? ⟨gx, 10, none⟩ = some (.bool false) := (blk_cell BX.out 10).trans rfl; have hfx10 := blk_frozen BX.out 10; have hcx11 : w4.cell? ⟨gx, 11, none⟩ = some (.string (⟨#[]⟩ : ByteArray)) := (blk_cell BX.out 11).trans rfl; have hfx11 := blk_frozen BX.out 11; have hcx12 : w4.cell? ⟨gx, 12, none⟩ = some (.int .i64 0) := (blk_cell BX.out 12).trans rfl; have hfx12 := blk_frozen BX.out 12) | ((with_reducible refine gate_callee (f := 97) rfl ?_); refine goesL_ (some 15) rfl rfl Try.func97 (by kernel_rfl) rfl #[.pointer (some ⟨gx, 0, none⟩)] rfl (by (try simp only [List.map_toArray, List.map_cons, List.map_nil]); first | done | rfl) ?_; (refine (entry_fields.calls gx k _ _ (p13 w4 gx (k) (0) (0) (0) (0) (0) (0) (0) (false) ((⟨#[]⟩ : ByteArray)) (false) ((⟨#[]⟩ : ByteArray)) (0) BX.out).1 ((blk_cell (p13 w4 gx (k) (0) (0) (0) (0) (0) (0) (0) (false) ((⟨#[]⟩ : ByteArray)) (false) ((⟨#[]⟩ : ByteArray)) (0) BX.out).1 0).trans rfl)).mono ?_); rintro e w5 ⟨gf, he, hbh, hlt, hb⟩; rw [show (if k = 1 ∨ k = 2 then 9 else 6) = m + 1 from HM.out] at he; subst he; refine ⟨_, rfl, ?_⟩; have n0_ := aq (blk_below ((p13 w4 gx (k) (0) (0) (0) (0) (0) (0) (0) (false) ((⟨#[]⟩ : ByteArray)) (false) ((⟨#[]⟩ : ByteArray)) (0) BX.out).2.1 gr _ BR.out NRX.out) hb); have n1_ : Aside0 (IsS127 w w5 gt r0 b0) := ⟨IsS127.below ⟨(p13 w4 gx (k) (0) (0) (0) (0) (0) (0) (0) (false) ((⟨#[]⟩ : ByteArray)) (false) ((⟨#[]⟩ : ByteArray)) (0) BX.out).2.1 gt _ IT.out.1 NTX.out, IT.out.2⟩ hb⟩; have n2_ := aq (below_step ((p13 w4 gx (k) (0) (0) (0) (0) (0) (0) (0) (false) ((⟨#[]⟩ : ByteArray)) (false) ((⟨#[]⟩ : ByteArray)) (0) BX.out).2.2 w HB.out GX.out) hb); have n3_ := aq (blk_below (p13 w4 gx (k) (0) (0) (0) (0) (0) (0) (0) (false) ((⟨#[]⟩ : ByteArray)) (false) ((⟨#[]⟩ : ByteArray)) (0) BX.out).1 hb); have BF := aq hbh; have hsz := (p13 w4 gx (k) (0) (0) (0) (0) (0) (0) (0) (false) ((⟨#[]⟩ : ByteArray)) (false) ((⟨#[]⟩ : ByteArray)) (0) BX.out).2.1 gr _ BR.out NRX.out; have NXF := aq (show gx ≠ gf by have := blk_lt (p13 w4 gx (k) (0) (0) (0) (0) (0) (0) (0) (false) ((⟨#[]⟩ : ByteArray)) (false) ((⟨#[]⟩ : ByteArray)) (0) BX.out).1; omega); have NRF := aq (show gr ≠ gf by have := blk_lt hsz; omega); have NTF := aq (show gt ≠ gf by have := blk_lt ((p13 w4 gx (k) (0) (0) (0) (0) (0) (0) (0) (false) ((⟨#[]⟩ : ByteArray)) (false) ((⟨#[]⟩ : ByteArray)) (0) BX.out).2.1 gt _ IT.out.1 NTX.out); omega); clear hsz; clear hcx0 hfx0 hcx1 hfx1 hcx2 hfx2 hcx3 hfx3 hcx4 hfx4 hcx5 hfx5 hcx6 hfx6 hcx7 hfx7 hcx8 hfx8 hcx9 hfx9 hcx10 hfx10 hcx11 hfx11 hcx12 hfx12; clear BR IT HB BX; have BR := n0_; have IT := n1_; have HB := n2_; have BX := n3_; clear n0_ n1_ n2_ n3_; clear hbh hlt hb))
 go_loopg [8, 18] m (fun gg v8 v18 wr => ∃ (i : Nat) (x : S65) (r : ByteArray) (b : Bool), i ≤ m ∧ m - i ≤ gg ∧ v18 = .int .i64 i ∧ Aside0 (decRun (m - i) (i + 1) x r b = decRun m 1 (setF zE 0 k) r0 b0) ∧ Aside0 (wr.heap[gx]? = some (.cells #[.int .i64 x.f0, .int .i64 x.f1.f0, .int .i64 x.f1.f1, .int .i64 x.f1.f2, .int .i64 x.f2, .int .i64 x.f3, .int .i64 x.f4, .int .i64 x.f5, .bool x.f6.f0, .string x.f6.f1, .bool x.f7.f0, .string x.f7.f1, .int .i64 x.f8] 65 (0, 0))) ∧ Aside0 (IsS127 w wr gt r b) ∧ Aside0 (wr.heap[gf]? = some (.cells (fieldPs gx) 119 (0, 0))) ∧ Aside0 (wr.heap[gr]? = some (.cells #[.int .i64 0, .int .i64 0, .int .i64 0, .int .i64 0, .int .i64 0, .int .i64 0, .int .i64 0, .int .i64 0, .bool false, .string (⟨#[]⟩ : ByteArray), .bool false, .string (⟨#[]⟩ : ByteArray), .int .i64 0] 65 (0, 0))) ∧ Aside0 (Below w.heap.size w wr))
 case atStart => exact ⟨0, setF zE 0 k, r0, b0, Nat.zero_le _, by omega, rfl, ⟨rfl⟩, ⟨BX.out⟩, IT, BF, BR, HB⟩
 case round =>
  clear BX IT BF BR HB
  obtain ⟨i, x, r, b, hi, hgg, rfl, HR, BX, IT, BF, BR, HB⟩ := hrel
  by_cases hlt : i < m
  ·have q0 : (i : Int) < (m : Int) := by omega
   have q1 : (0 : Int) ≤ (i : Int) := by omega
   obtain ⟨n, r1, b1, ht⟩ : ∃ n r1 b1, tI r b = (n, r1, b1) := ⟨_, _, _, rfl⟩
   have HTI : Aside0 (entry_taker_int.f r b = some (n, r1, b1)) := ⟨by rw [takerInt_eq, ht]⟩
   have HR2 : Aside0 (decRun (m - (i + 1)) (i + 1 + 1) (setF x (i + 1) n) r1 b1 = decRun m 1 (setF zE 0 k) r0 b0) := ⟨by
    have := HR.out
    rw [show m - i = (m - (i + 1)) + 1 by omega] at this
    simp only [decRun] at this
    rw [ht] at this
    exact this⟩
   have hp := field_ptr gx (1 + i) (by omega)
   obtain ⟨n0, hold⟩ := field_old x (1 + i) (by omega)
   have hset := field_set x (1 + i) n (by omega)
   rw [show 1 + i = i + 1 by omega] at hp hold hset
   have HS := aq hset
   have HO := aq hold
   have hcp : wr.cell? ⟨gf, 1 + i, none⟩ = some (.pointer (some ⟨gx, offF (i + 1), none⟩)) := by rw [show 1 + i = i + 1 by omega]; exact (blk_cell BF.out (i + 1)).trans hp
   clear hp hold hset ht HR
   generalize offF (i + 1) = o at *
   go_wp2_with (first | ((with_reducible refine gate_callee (f := 107) rfl ?_); refine goesL_ (some 24) rfl rfl Try.func107 (by kernel_rfl) rfl #[.pointer (some ⟨gt, 0, none⟩)] rfl (by (try simp only [List.map_toArray, List.map_cons, List.map_nil]); first | done | rfl) ?_; (with_reducible refine (entry_taker_int.calls gt r b n r1 b1 w _ IT.out HB.out HTI.out).mono ?_); rintro e w6 ⟨rfl, hi2, hb, hk⟩; refine ⟨_, rfl, ?_⟩; have n0_ := aq (KeepBut.blk hk BR.out NRT.out (by simp)); have n1_ := aq hi2; have n2_ := aq hb; have n3_ := aq (KeepBut.blk hk BX.out NTX.out.symm (by simp)); have n4_ := aq (KeepBut.blk hk BF.out NTF.out.symm (by simp)); clear BR IT HB BX BF; have BR := n0_; have IT := n1_; have HB := n2_; have BX := n3_; have BF := n4_; clear n0_ n1_ n2_ n3_ n4_; have hcx : w6.cell? ⟨gx, o, none⟩ = some (.int .i64 n0) := (blk_cell BX.out o).trans HO.out; have hfx := blk_frozen BX.out o; clear hi2 hb hk))
   go_roundg (m - (i + 1))
   case measure => omega
   case rel => exact ⟨i + 1, setF x (i + 1) n, r1, b1, by omega, by omega, by go_num, HR2, ⟨by rw [← HS.out]; exact blk_set BX.out o _⟩, ⟨IsS127.far IT.out NTX.out _⟩, ⟨blk_far BF.out NXF.out.symm _⟩, ⟨blk_far BR.out NRX.out _⟩, ⟨below_set HB.out GX.out⟩⟩
  ·have hltz : ¬ (i : Int) < (m : Int) := by omega
   have HE : Aside0 (decG s = decT (x, r, b)) := ⟨by
    have := HR.out
    rw [show m - i = 0 by omega] at this
    rw [HG.out, ← this]
    rfl⟩
   clear HR HG HM HT
   have hcx0 : wr.cell? ⟨gx, 0, none⟩ = some (.int .i64 x.f0) := (blk_cell BX.out 0).trans rfl
   go_upto_region 8 with fail
   go_cut [34] (fun v34 wc => v34 = .bool (decide (x.f0 = 1 ∨ x.f0 = 2)) ∧ wc = wr)
   case first =>
    by_cases h1 : x.f0 = 1
    ·have e1 : (x.f0 == 1) = true := beq_iff_eq.mpr h1
     have e2 : decide (x.f0 = 1 ∨ x.f0 = 2) = true := decide_eq_true (.inl h1)
     have E2 := aq e2
     clear h1 e2
     go_wp2
     go_meet
     exact ⟨by rw [E2.out], rfl⟩
    ·by_cases h2 : x.f0 = 2
     ·have e1 : (x.f0 == 1) = false := beq_eq_false_iff_ne.mpr h1
      have e3 : (x.f0 == 2) = true := beq_iff_eq.mpr h2
      have E2 : Aside0 (decide (x.f0 = 1 ∨ x.f0 = 2) = true) := ⟨decide_eq_true (.inr h2)⟩
      clear h1 h2
      go_wp2
      go_meet
      exact ⟨by rw [E2.out], rfl⟩
     ·have e1 : (x.f0 == 1) = false := beq_eq_false_iff_ne.mpr h1
      have e3 : (x.f0 == 2) = false := beq_eq_false_iff_ne.mpr h2
      have E2 : Aside0 (decide (x.f0 = 1 ∨ x.f0 = 2) = false) := ⟨decide_eq_false (fun h => h.elim h1 h2)⟩
      clear h1 h2
      go_wp2
      go_meet
      exact ⟨by rw [E2.out], rfl⟩
   case rest =>
    obtain ⟨rfl, rfl⟩ := hcut
    clear hcx0
    obtain ⟨ck, hck⟩ : ∃ ck, decide (x.f0 = 1 ∨ x.f0 = 2) = ck := ⟨_, rfl⟩
    rw [hck]
    have HCK := aq hck
    clear hck
    go_upto_if 34 with fail
    go_cut [35] (fun v35 wc => ∃ (y : S65) (r2 : ByteArray) (b2 : Bool), Aside0 (decT (x, r, b) = finE y r2 b2) ∧ Aside0 (wc.heap[gx]? = some (.cells #[.int .i64 y.f0, .int .i64 y.f1.f0, .int .i64 y.f1.f1, .int .i64 y.f1.f2, .int .i64 y.f2, .int .i64 y.f3, .int .i64 y.f4, .int .i64 y.f5, .bool y.f6.f0, .string y.f6.f1, .bool y.f7.f0, .string y.f7.f1, .int .i64 y.f8] 65 (0, 0))) ∧ Aside0 (IsS127 w wc gt r2 b2) ∧ Aside0 (wc.heap[gr]? = some (.cells #[.int .i64 0, .int .i64 0, .int .i64 0, .int .i64 0, .int .i64 0, .int .i64 0, .int .i64 0, .int .i64 0, .bool false, .string (⟨#[]⟩ : ByteArray), .bool false, .string (⟨#[]⟩ : ByteArray), .int .i64 0] 65 (0, 0))) ∧ Aside0 (Below w.heap.size w wc))
    case first =>
     cases ck with
     | true =>
      obtain ⟨x1, r1, b1, ht1⟩ : ∃ x1 r1 b1, tS r b = (x1, r1, b1) := ⟨_, _, _, rfl⟩
      obtain ⟨x2, r2, b2, ht2⟩ : ∃ x2 r2 b2, tS r1 b1 = (x2, r2, b2) := ⟨_, _, _, rfl⟩
      have HT1 : Aside0 (entry_taker_slot.f r b = some (x1.f0, x1.f1, r1, b1)) := ⟨by rw [takerSlot_eq, ht1]⟩
      have HT2 : Aside0 (entry_taker_slot.f r1 b1 = some (x2.f0, x2.f1, r2, b2)) := ⟨by rw [takerSlot_eq, ht2]⟩
      have HF : Aside0 (decT (x, r, b) = finE (withS x x1 x2) r2 b2) := ⟨by
       unfold decT
       rw [if_pos (of_decide_eq_true HCK.out)]
       simp only
       rw [ht1]
       simp only
       rw [ht2]⟩
      clear ht1 ht2
      go_wp2_with (first | ((with_reducible refine gate_callee (f := 108) rfl ?_); refine goesL_ (some 36) rfl rfl Try.func108 (by kernel_rfl) rfl #[.pointer (some ⟨gt, 0, none⟩)] rfl (by (try simp only [List.map_toArray, List.map_cons, List.map_nil]); first | done | rfl) ?_; (with_reducible refine (entry_taker_slot.calls gt r b x1.f0 x1.f1 r1 b1 w _ IT.out HB.out HT1.out).mono ?_); rintro e w7 ⟨rfl, hi2, hb, hk⟩; refine ⟨_, rfl, ?_⟩; have n0_ := aq (KeepBut.blk hk BR.out NRT.out (by simp)); have n1_ := aq hi2; have n2_ := aq hb; have n3_ := aq (KeepBut.blk hk BX.out NTX.out.symm (by simp)); clear BR IT HB BX; have BR := n0_; have IT := n1_; have HB := n2_; have BX := n3_; clear n0_ n1_ n2_ n3_; have hcy8 : w7.cell? ⟨gx, 8, none⟩ = some (.bool x.f6.f0) := (blk_cell BX.out 8).trans rfl; have hfy8 := blk_frozen BX.out 8; have hcy9 : w7.cell? ⟨gx, 9, none⟩ = some (.string x.f6.f1) := (blk_cell BX.out 9).trans rfl; have hfy9 := blk_frozen BX.out 9; clear hi2 hb hk) | ((with_reducible refine gate_callee (f := 108) rfl ?_); refine goesL_ (some 39) rfl rfl Try.func108 (by kernel_rfl) rfl #[.pointer (some ⟨gt, 0, none⟩)] rfl (by (try simp only [List.map_toArray, List.map_cons, List.map_nil]); first | done | rfl) ?_; (with_reducible refine (entry_taker_slot.calls gt r1 b1 x2.f0 x2.f1 r2 b2 w _ (IsS127.far (IsS127.far IT.out NTX.out _) NTX.out _) (below_set (below_set HB.out GX.out) GX.out) HT2.out).mono ?_); rintro e w8 ⟨rfl, hi2, hb, hk⟩; refine ⟨_, rfl, ?_⟩; have n0_ := aq (KeepBut.blk hk (blk_far (blk_far BR.out NRX.out _) NRX.out _) NRT.out (by simp)); have n1_ := aq hi2; have n2_ := aq hb; have n3_ := aq (KeepBut.blk hk (blk_set (blk_set BX.out 8 _) 9 _) NTX.out.symm (by simp)); clear hcy8 hfy8 hcy9 hfy9; clear BR IT HB BX; have BR := n0_; have IT := n1_; have HB := n2_; have BX := n3_; clear n0_ n1_ n2_ n3_; have hcy10 : w8.cell? ⟨gx, 10, none⟩ = some (.bool x.f7.f0) := (blk_cell BX.out 10).trans rfl; have hfy10 := blk_frozen BX.out 10; have hcy11 : w8.cell? ⟨gx, 11, none⟩ = some (.string x.f7.f1) := (blk_cell BX.out 11).trans rfl; have hfy11 := blk_frozen BX.out 11; clear hi2 hb hk))
      go_meet
      exact ⟨withS x x1 x2, r2, b2, HF, ⟨blk_set (blk_set BX.out 10 _) 11 _⟩, ⟨IsS127.far (IsS127.far IT.out NTX.out _) NTX.out _⟩, ⟨blk_far (blk_far BR.out NRX.out _) NRX.out _⟩, ⟨below_set (below_set HB.out GX.out) GX.out⟩⟩
     | false =>
      have HF : Aside0 (decT (x, r, b) = finE x r b) := ⟨by
       unfold decT
       exact if_neg (of_decide_eq_false HCK.out)⟩
      go_wp2
      go_meet
      exact ⟨x, r, b, HF, BX, IT, BR, HB⟩
    case rest =>
     clear BX IT BR HB
     obtain ⟨y, r2, b2, HF, BX, IT, BR, HB⟩ := hcut
     cases b2 with
     | true =>
      have hct := cellS127_1 IT.out.1
      have hcr0 : wc.cell? ⟨gr, 0, none⟩ = some (.int .i64 0) := (blk_cell BR.out 0).trans rfl; have hfr0 := blk_frozen BR.out 0; have hcr1 : wc.cell? ⟨gr, 1, none⟩ = some (.int .i64 0) := (blk_cell BR.out 1).trans rfl; have hfr1 := blk_frozen BR.out 1; have hcr2 : wc.cell? ⟨gr, 2, none⟩ = some (.int .i64 0) := (blk_cell BR.out 2).trans rfl; have hfr2 := blk_frozen BR.out 2; have hcr3 : wc.cell? ⟨gr, 3, none⟩ = some (.int .i64 0) := (blk_cell BR.out 3).trans rfl; have hfr3 := blk_frozen BR.out 3; have hcr4 : wc.cell? ⟨gr, 4, none⟩ = some (.int .i64 0) := (blk_cell BR.out 4).trans rfl; have hfr4 := blk_frozen BR.out 4; have hcr5 : wc.cell? ⟨gr, 5, none⟩ = some (.int .i64 0) := (blk_cell BR.out 5).trans rfl; have hfr5 := blk_frozen BR.out 5; have hcr6 : wc.cell? ⟨gr, 6, none⟩ = some (.int .i64 0) := (blk_cell BR.out 6).trans rfl; have hfr6 := blk_frozen BR.out 6; have hcr7 : wc.cell? ⟨gr, 7, none⟩ = some (.int .i64 0) := (blk_cell BR.out 7).trans rfl; have hfr7 := blk_frozen BR.out 7; have hcr8 : wc.cell? ⟨gr, 8, none⟩ = some (.bool false) := (blk_cell BR.out 8).trans rfl; have hfr8 := blk_frozen BR.out 8; have hcr9 : wc.cell? ⟨gr, 9, none⟩ = some (.string (⟨#[]⟩ : ByteArray)) := (blk_cell BR.out 9).trans rfl; have hfr9 := blk_frozen BR.out 9; have hcr10 : wc.cell? ⟨gr, 10, none⟩ = some (.bool false) := (blk_cell BR.out 10).trans rfl; have hfr10 := blk_frozen BR.out 10; have hcr11 : wc.cell? ⟨gr, 11, none⟩ = some (.string (⟨#[]⟩ : ByteArray)) := (blk_cell BR.out 11).trans rfl; have hfr11 := blk_frozen BR.out 11; have hcr12 : wc.cell? ⟨gr, 12, none⟩ = some (.int .i64 0) := (blk_cell BR.out 12).trans rfl; have hfr12 := blk_frozen BR.out 12
      go_wp2
      refine bodyPost_ret (results_ctt rfl _ _ gr 65 #[.int .i64 0, .int .i64 0, .int .i64 0, .int .i64 0, .int .i64 0, .int .i64 0, .int .i64 0, .int .i64 0, .bool false, .string (⟨#[]⟩ : ByteArray), .bool false, .string (⟨#[]⟩ : ByteArray), .int .i64 0] (0, 0) _ rfl ((p13 wc gr (0) (0) (0) (0) (0) (0) (0) (0) (false) ((⟨#[]⟩ : ByteArray)) (false) ((⟨#[]⟩ : ByteArray)) (0) BR.out).1) Try.underlying65 rfl (by kernel_rfl)) rfl ?_
      exact ⟨by rw [HE.out, HF.out, fin_bad]; rfl, (p13 wc gr (0) (0) (0) (0) (0) (0) (0) (0) (false) ((⟨#[]⟩ : ByteArray)) (false) ((⟨#[]⟩ : ByteArray)) (0) BR.out).2.2 w HB.out GR.out⟩
     | false =>
      by_cases hg : GoodE y
      ·have HGD : Aside0 (entGood.f y.f0 y.f1.f0 y.f1.f1 y.f1.f2 y.f2 y.f3 y.f4 y.f5 y.f6.f0 y.f6.f1 y.f7.f0 y.f7.f1 y.f8 = some true) := ⟨congrArg some (decide_eq_true hg)⟩
       have HX : Aside0 (finE y r2 false = (y, r2, 0)) := ⟨by unfold finE; rw [if_pos ⟨rfl, hg⟩]⟩
       clear hg
       have hct := cellS127_1 IT.out.1
       have hcx0 : wc.cell? ⟨gx, 0, none⟩ = some (.int .i64 y.f0) := (blk_cell BX.out 0).trans rfl; have hfx0 := blk_frozen BX.out 0; have hcx1 : wc.cell? ⟨gx, 1, none⟩ = some (.int .i64 y.f1.f0) := (blk_cell BX.out 1).trans rfl; have hfx1 := blk_frozen BX.out 1; have hcx2 : wc.cell? ⟨gx, 2, none⟩ = some (.int .i64 y.f1.f1) := (blk_cell BX.out 2).trans rfl; have hfx2 := blk_frozen BX.out 2; have hcx3 : wc.cell? ⟨gx, 3, none⟩ = some (.int .i64 y.f1.f2) := (blk_cell BX.out 3).trans rfl; have hfx3 := blk_frozen BX.out 3; have hcx4 : wc.cell? ⟨gx, 4, none⟩ = some (.int .i64 y.f2) := (blk_cell BX.out 4).trans rfl; have hfx4 := blk_frozen BX.out 4; have hcx5 : wc.cell? ⟨gx, 5, none⟩ = some (.int .i64 y.f3) := (blk_cell BX.out 5).trans rfl; have hfx5 := blk_frozen BX.out 5; have hcx6 : wc.cell? ⟨gx, 6, none⟩ = some (.int .i64 y.f4) := (blk_cell BX.out 6).trans rfl; have hfx6 := blk_frozen BX.out 6; have hcx7 : wc.cell? ⟨gx, 7, none⟩ = some (.int .i64 y.f5) := (blk_cell BX.out 7).trans rfl; have hfx7 := blk_frozen BX.out 7; have hcx8 : wc.cell? ⟨gx, 8, none⟩ = some (.bool y.f6.f0) := (blk_cell BX.out 8).trans rfl; have hfx8 := blk_frozen BX.out 8; have hcx9 : wc.cell? ⟨gx, 9, none⟩ = some (.string y.f6.f1) := (blk_cell BX.out 9).trans rfl; have hfx9 := blk_frozen BX.out 9; have hcx10 : wc.cell? ⟨gx, 10, none⟩ = some (.bool y.f7.f0) := (blk_cell BX.out 10).trans rfl; have hfx10 := blk_frozen BX.out 10; have hcx11 : wc.cell? ⟨gx, 11, none⟩ = some (.string y.f7.f1) := (blk_cell BX.out 11).trans rfl; have hfx11 := blk_frozen BX.out 11; have hcx12 : wc.cell? ⟨gx, 12, none⟩ = some (.int .i64 y.f8) := (blk_cell BX.out 12).trans rfl; have hfx12 := blk_frozen BX.out 12
       go_wp2_with (first | ((with_reducible refine gate_callee (f := 55) rfl ?_); (refine gate_guard (by rfl) ?_); refine goesL_ (some 47) rfl rfl Try.func55 (by kernel_rfl) rfl #[.agg #[.int .i64 y.f0, .int .i64 y.f1.f0, .int .i64 y.f1.f1, .int .i64 y.f1.f2, .int .i64 y.f2, .int .i64 y.f3, .int .i64 y.f4, .int .i64 y.f5, .bool y.f6.f0, .string y.f6.f1, .bool y.f7.f0, .string y.f7.f1, .int .i64 y.f8]] rfl (by (try simp only [List.map_toArray, List.map_cons, List.map_nil]); first | done | rfl) ?_; (with_reducible refine (entGood.calls y.f0 y.f1.f0 y.f1.f1 y.f1.f2 y.f2 y.f3 y.f4 y.f5 y.f6.f0 y.f6.f1 y.f7.f0 y.f7.f1 y.f8 true _ HGD.out).mono ?_); rintro e w9 ⟨rfl, hb⟩; refine ⟨_, rfl, ?_⟩; have n0_ := aq (blk_below BR.out hb); have n1_ := aq (IsS127.below IT.out hb); have n2_ := aq (below_step HB.out hb); have n3_ := aq (blk_below BX.out hb); clear hct; clear hcx0 hfx0 hcx1 hfx1 hcx2 hfx2 hcx3 hfx3 hcx4 hfx4 hcx5 hfx5 hcx6 hfx6 hcx7 hfx7 hcx8 hfx8 hcx9 hfx9 hcx10 hfx10 hcx11 hfx11 hcx12 hfx12; clear BR IT HB BX; have BR := n0_; have IT := n1_; have HB := n2_; have BX := n3_; clear n0_ n1_ n2_ n3_; skip; clear hb))
       have n0_ := aq (blk_drew BX.out)
       have n1_ := aq (IsS127.drew IT.out)
       have n2_ := aq (blk_drew BR.out)
       have n3_ := aq (below_drew1 HB.out)
       clear BX IT BR HB
       have BX := n0_
       have IT := n1_
       have BR := n2_
       have HB := n3_
       clear n0_ n1_ n2_ n3_
       refine start_ (n := 8) (S := fun w' => w'.heap[gx]? = some (.cells #[.int .i64 y.f0, .int .i64 y.f1.f0, .int .i64 y.f1.f1, .int .i64 y.f1.f2, .int .i64 y.f2, .int .i64 y.f3, .int .i64 y.f4, .int .i64 y.f5, .bool y.f6.f0, .string y.f6.f1, .bool y.f7.f0, .string y.f7.f1, .int .i64 y.f8] 65 (0, 0)) ∧ w'.heap[gt]? = some (.cells #[.string r2, .bool false] 127 (0, 0))) (ds := []) #[false, false, false, false, false, false, false, false] (by kernel_rfl) rfl rfl ⟨BX.out, IT.out.1⟩ (fun hHeld => ?_)
       generalize w9.drew = w10 at BX IT BR HB hHeld ⊢
       refine pure_ (i := 1) (N := some 52) (v := ?_) (a' := ?_) #[false, true, false, false, false, false, false, false] rfl rfl (by kernel_rfl) (fun _ _ _ h => h) (Or.inl ⟨by rfl, ?_⟩) ?_ ?_
       rotate_left
       ·intro w'
        go_simp
        with_reducible rfl
       rotate_left
       ·simp only [Act.put, List.setIfInBounds_toArray, List.set_cons_zero, List.set_cons_succ, i64_w, i32_w]
        rfl
       refine pure_ (i := 2) (N := some 53) (v := ?_) (a' := ?_) #[false, true, true, false, false, false, false, false] rfl rfl (by kernel_rfl) (fun _ _ _ h => h) (Or.inl ⟨by rfl, ?_⟩) ?_ ?_
       rotate_left
       ·intro w'
        go_simp
        with_reducible rfl
       rotate_left
       ·simp only [Act.put, List.setIfInBounds_toArray, List.set_cons_zero, List.set_cons_succ, i64_w, i32_w]
        rfl
       refine pure_ (i := 3) (N := some 54) (v := ?_) (a' := ?_) #[false, true, true, true, false, false, false, false] rfl rfl (by kernel_rfl) (fun _ _ _ h => h) (Or.inl ⟨by rfl, ?_⟩) ?_ ?_
       rotate_left
       ·intro w'
        go_simp
        with_reducible rfl
       rotate_left
       ·simp only [Act.put, List.setIfInBounds_toArray, List.set_cons_zero, List.set_cons_succ, i64_w, i32_w]
        rfl
       refine take_ (i := 0) (N := some 51) (v := ?_) (a' := ?_) #[true, true, true, true, false, false, false, false] rfl rfl (by kernel_rfl) (fun _ _ _ h => h) (Or.inl ⟨by rfl, ?_⟩) hHeld ?_ ?_
       rotate_left
       ·rintro w' ⟨s0, s1⟩
        have hcs0 : w'.cell? ⟨gx, 0, none⟩ = some (.int .i64 y.f0) := (blk_cell s0 0).trans rfl; have hfs0 := blk_frozen s0 0; have hcs1 : w'.cell? ⟨gx, 1, none⟩ = some (.int .i64 y.f1.f0) := (blk_cell s0 1).trans rfl; have hfs1 := blk_frozen s0 1; have hcs2 : w'.cell? ⟨gx, 2, none⟩ = some (.int .i64 y.f1.f1) := (blk_cell s0 2).trans rfl; have hfs2 := blk_frozen s0 2; have hcs3 : w'.cell? ⟨gx, 3, none⟩ = some (.int .i64 y.f1.f2) := (blk_cell s0 3).trans rfl; have hfs3 := blk_frozen s0 3; have hcs4 : w'.cell? ⟨gx, 4, none⟩ = some (.int .i64 y.f2) := (blk_cell s0 4).trans rfl; have hfs4 := blk_frozen s0 4; have hcs5 : w'.cell? ⟨gx, 5, none⟩ = some (.int .i64 y.f3) := (blk_cell s0 5).trans rfl; have hfs5 := blk_frozen s0 5; have hcs6 : w'.cell? ⟨gx, 6, none⟩ = some (.int .i64 y.f4) := (blk_cell s0 6).trans rfl; have hfs6 := blk_frozen s0 6; have hcs7 : w'.cell? ⟨gx, 7, none⟩ = some (.int .i64 y.f5) := (blk_cell s0 7).trans rfl; have hfs7 := blk_frozen s0 7; have hcs8 : w'.cell? ⟨gx, 8, none⟩ = some (.bool y.f6.f0) := (blk_cell s0 8).trans rfl; have hfs8 := blk_frozen s0 8; have hcs9 : w'.cell? ⟨gx, 9, none⟩ = some (.string y.f6.f1) := (blk_cell s0 9).trans rfl; have hfs9 := blk_frozen s0 9; have hcs10 : w'.cell? ⟨gx, 10, none⟩ = some (.bool y.f7.f0) := (blk_cell s0 10).trans rfl; have hfs10 := blk_frozen s0 10; have hcs11 : w'.cell? ⟨gx, 11, none⟩ = some (.string y.f7.f1) := (blk_cell s0 11).trans rfl; have hfs11 := blk_frozen s0 11; have hcs12 : w'.cell? ⟨gx, 12, none⟩ = some (.int .i64 y.f8) := (blk_cell s0 12).trans rfl; have hfs12 := blk_frozen s0 12
        go_simp
        with_reducible rfl
       rotate_left
       ·simp only [Act.put, List.setIfInBounds_toArray, List.set_cons_zero, List.set_cons_succ, i64_w, i32_w]
        rfl
       refine take_ (i := 4) (N := some 55) (v := ?_) (a' := ?_) #[true, true, true, true, true, false, false, false] rfl rfl (by kernel_rfl) (fun _ _ _ h => h) (Or.inl ⟨by rfl, ?_⟩) hHeld ?_ ?_
       rotate_left
       ·rintro w' ⟨s0, s1⟩
        have t0 := cellS127_0 s1
        go_simp
        with_reducible rfl
       rotate_left
       ·simp only [Act.put, List.setIfInBounds_toArray, List.set_cons_zero, List.set_cons_succ, i64_w, i32_w]
        rfl
       refine one_ (i := 5) (N := none) #[true, true, true, true, true, true, false, false] rfl rfl (by kernel_rfl) (by decide) (fun K hK => ?_)
       have hcq0 : w10.cell? ⟨gr, 0, none⟩ = some (.int .i64 0) := (blk_cell BR.out 0).trans rfl; have hfq0 := blk_frozen BR.out 0; have hcq1 : w10.cell? ⟨gr, 1, none⟩ = some (.int .i64 0) := (blk_cell BR.out 1).trans rfl; have hfq1 := blk_frozen BR.out 1; have hcq2 : w10.cell? ⟨gr, 2, none⟩ = some (.int .i64 0) := (blk_cell BR.out 2).trans rfl; have hfq2 := blk_frozen BR.out 2; have hcq3 : w10.cell? ⟨gr, 3, none⟩ = some (.int .i64 0) := (blk_cell BR.out 3).trans rfl; have hfq3 := blk_frozen BR.out 3; have hcq4 : w10.cell? ⟨gr, 4, none⟩ = some (.int .i64 0) := (blk_cell BR.out 4).trans rfl; have hfq4 := blk_frozen BR.out 4; have hcq5 : w10.cell? ⟨gr, 5, none⟩ = some (.int .i64 0) := (blk_cell BR.out 5).trans rfl; have hfq5 := blk_frozen BR.out 5; have hcq6 : w10.cell? ⟨gr, 6, none⟩ = some (.int .i64 0) := (blk_cell BR.out 6).trans rfl; have hfq6 := blk_frozen BR.out 6; have hcq7 : w10.cell? ⟨gr, 7, none⟩ = some (.int .i64 0) := (blk_cell BR.out 7).trans rfl; have hfq7 := blk_frozen BR.out 7; have hcq8 : w10.cell? ⟨gr, 8, none⟩ = some (.bool false) := (blk_cell BR.out 8).trans rfl; have hfq8 := blk_frozen BR.out 8; have hcq9 : w10.cell? ⟨gr, 9, none⟩ = some (.string (⟨#[]⟩ : ByteArray)) := (blk_cell BR.out 9).trans rfl; have hfq9 := blk_frozen BR.out 9; have hcq10 : w10.cell? ⟨gr, 10, none⟩ = some (.bool false) := (blk_cell BR.out 10).trans rfl; have hfq10 := blk_frozen BR.out 10; have hcq11 : w10.cell? ⟨gr, 11, none⟩ = some (.string (⟨#[]⟩ : ByteArray)) := (blk_cell BR.out 11).trans rfl; have hfq11 := blk_frozen BR.out 11; have hcq12 : w10.cell? ⟨gr, 12, none⟩ = some (.int .i64 0) := (blk_cell BR.out 12).trans rfl; have hfq12 := blk_frozen BR.out 12
       refine skip_ (w1 := ?_) (by rfl) rfl ?_ ?_
       rotate_left
       ·go_simp
        rfl
       refine hK.out _ _ ⟨(p13 w10 gr (y.f0) (y.f1.f0) (y.f1.f1) (y.f1.f2) (y.f2) (y.f3) (y.f4) (y.f5) (y.f6.f0) (y.f6.f1) (y.f7.f0) (y.f7.f1) (y.f8) BR.out).2.1 gx _ BX.out NRX.out.symm, (p13 w10 gr (y.f0) (y.f1.f0) (y.f1.f1) (y.f1.f2) (y.f2) (y.f3) (y.f4) (y.f5) (y.f6.f0) (y.f6.f1) (y.f7.f0) (y.f7.f1) (y.f8) BR.out).2.1 gt _ IT.out.1 NRT.out.symm⟩ (fun hHeld => ?_)
       clear hK K
       refine pure_ (i := 6) (N := some 3) (v := ?_) (a' := ?_) #[true, true, true, true, true, true, true, false] rfl rfl (by kernel_rfl) (fun _ _ _ h => h) (Or.inl ⟨by rfl, ?_⟩) ?_ ?_
       rotate_left
       ·intro w'
        go_simp
        with_reducible rfl
       rotate_left
       ·simp only [Act.put, List.setIfInBounds_toArray, List.set_cons_zero, List.set_cons_succ, i64_w, i32_w]
        rfl
       refine pure_ (i := 7) (N := some 4) (v := ?_) (a' := ?_) #[true, true, true, true, true, true, true, true] rfl rfl (by kernel_rfl) (fun _ _ _ h => h) (Or.inl ⟨by rfl, ?_⟩) ?_ ?_
       rotate_left
       ·intro w'
        go_simp
        with_reducible rfl
       rotate_left
       ·simp only [Act.put, List.setIfInBounds_toArray, List.set_cons_zero, List.set_cons_succ, i64_w, i32_w]
        rfl
       refine done_ (by kernel_rfl) ?_
       try go_wp2
       refine bodyPost_ret (results_ctt rfl _ _ gr 65 #[.int .i64 y.f0, .int .i64 y.f1.f0, .int .i64 y.f1.f1, .int .i64 y.f1.f2, .int .i64 y.f2, .int .i64 y.f3, .int .i64 y.f4, .int .i64 y.f5, .bool y.f6.f0, .string y.f6.f1, .bool y.f7.f0, .string y.f7.f1, .int .i64 y.f8] (0, 0) _ rfl ((p13 w10 gr (y.f0) (y.f1.f0) (y.f1.f1) (y.f1.f2) (y.f2) (y.f3) (y.f4) (y.f5) (y.f6.f0) (y.f6.f1) (y.f7.f0) (y.f7.f1) (y.f8) BR.out).1) Try.underlying65 rfl (by kernel_rfl)) rfl ?_
       exact ⟨by rw [HE.out, HF.out, HX.out]; rfl, (p13 w10 gr (y.f0) (y.f1.f0) (y.f1.f1) (y.f1.f2) (y.f2) (y.f3) (y.f4) (y.f5) (y.f6.f0) (y.f6.f1) (y.f7.f0) (y.f7.f1) (y.f8) BR.out).2.2 w HB.out GR.out⟩
      ·have HGD : Aside0 (entGood.f y.f0 y.f1.f0 y.f1.f1 y.f1.f2 y.f2 y.f3 y.f4 y.f5 y.f6.f0 y.f6.f1 y.f7.f0 y.f7.f1 y.f8 = some false) := ⟨congrArg some (decide_eq_false hg)⟩
       have HX : Aside0 (finE y r2 false = (zE, ⟨#[]⟩, 4)) := ⟨by unfold finE; rw [if_neg (fun h => hg h.2)]⟩
       clear hg
       have hct := cellS127_1 IT.out.1
       have hcx0 : wc.cell? ⟨gx, 0, none⟩ = some (.int .i64 y.f0) := (blk_cell BX.out 0).trans rfl; have hfx0 := blk_frozen BX.out 0; have hcx1 : wc.cell? ⟨gx, 1, none⟩ = some (.int .i64 y.f1.f0) := (blk_cell BX.out 1).trans rfl; have hfx1 := blk_frozen BX.out 1; have hcx2 : wc.cell? ⟨gx, 2, none⟩ = some (.int .i64 y.f1.f1) := (blk_cell BX.out 2).trans rfl; have hfx2 := blk_frozen BX.out 2; have hcx3 : wc.cell? ⟨gx, 3, none⟩ = some (.int .i64 y.f1.f2) := (blk_cell BX.out 3).trans rfl; have hfx3 := blk_frozen BX.out 3; have hcx4 : wc.cell? ⟨gx, 4, none⟩ = some (.int .i64 y.f2) := (blk_cell BX.out 4).trans rfl; have hfx4 := blk_frozen BX.out 4; have hcx5 : wc.cell? ⟨gx, 5, none⟩ = some (.int .i64 y.f3) := (blk_cell BX.out 5).trans rfl; have hfx5 := blk_frozen BX.out 5; have hcx6 : wc.cell? ⟨gx, 6, none⟩ = some (.int .i64 y.f4) := (blk_cell BX.out 6).trans rfl; have hfx6 := blk_frozen BX.out 6; have hcx7 : wc.cell? ⟨gx, 7, none⟩ = some (.int .i64 y.f5) := (blk_cell BX.out 7).trans rfl; have hfx7 := blk_frozen BX.out 7; have hcx8 : wc.cell? ⟨gx, 8, none⟩ = some (.bool y.f6.f0) := (blk_cell BX.out 8).trans rfl; have hfx8 := blk_frozen BX.out 8; have hcx9 : wc.cell? ⟨gx, 9, none⟩ = some (.string y.f6.f1) := (blk_cell BX.out 9).trans rfl; have hfx9 := blk_frozen BX.out 9; have hcx10 : wc.cell? ⟨gx, 10, none⟩ = some (.bool y.f7.f0) := (blk_cell BX.out 10).trans rfl; have hfx10 := blk_frozen BX.out 10; have hcx11 : wc.cell? ⟨gx, 11, none⟩ = some (.string y.f7.f1) := (blk_cell BX.out 11).trans rfl; have hfx11 := blk_frozen BX.out 11; have hcx12 : wc.cell? ⟨gx, 12, none⟩ = some (.int .i64 y.f8) := (blk_cell BX.out 12).trans rfl; have hfx12 := blk_frozen BX.out 12
       go_wp2_with (first | ((with_reducible refine gate_callee (f := 55) rfl ?_); (refine gate_guard (by rfl) ?_); refine goesL_ (some 47) rfl rfl Try.func55 (by kernel_rfl) rfl #[.agg #[.int .i64 y.f0, .int .i64 y.f1.f0, .int .i64 y.f1.f1, .int .i64 y.f1.f2, .int .i64 y.f2, .int .i64 y.f3, .int .i64 y.f4, .int .i64 y.f5, .bool y.f6.f0, .string y.f6.f1, .bool y.f7.f0, .string y.f7.f1, .int .i64 y.f8]] rfl (by (try simp only [List.map_toArray, List.map_cons, List.map_nil]); first | done | rfl) ?_; (with_reducible refine (entGood.calls y.f0 y.f1.f0 y.f1.f1 y.f1.f2 y.f2 y.f3 y.f4 y.f5 y.f6.f0 y.f6.f1 y.f7.f0 y.f7.f1 y.f8 false _ HGD.out).mono ?_); rintro e w9 ⟨rfl, hb⟩; refine ⟨_, rfl, ?_⟩; have n0_ := aq (blk_below BR.out hb); have n1_ := aq (IsS127.below IT.out hb); have n2_ := aq (below_step HB.out hb); have n3_ := aq (blk_below BX.out hb); clear hct; clear hcx0 hfx0 hcx1 hfx1 hcx2 hfx2 hcx3 hfx3 hcx4 hfx4 hcx5 hfx5 hcx6 hfx6 hcx7 hfx7 hcx8 hfx8 hcx9 hfx9 hcx10 hfx10 hcx11 hfx11 hcx12 hfx12; clear BR IT HB BX; have BR := n0_; have IT := n1_; have HB := n2_; have BX := n3_; clear n0_ n1_ n2_ n3_; have hcr0 : w9.cell? ⟨gr, 0, none⟩ = some (.int .i64 0) := (blk_cell BR.out 0).trans rfl; have hfr0 := blk_frozen BR.out 0; have hcr1 : w9.cell? ⟨gr, 1, none⟩ = some (.int .i64 0) := (blk_cell BR.out 1).trans rfl; have hfr1 := blk_frozen BR.out 1; have hcr2 : w9.cell? ⟨gr, 2, none⟩ = some (.int .i64 0) := (blk_cell BR.out 2).trans rfl; have hfr2 := blk_frozen BR.out 2; have hcr3 : w9.cell? ⟨gr, 3, none⟩ = some (.int .i64 0) := (blk_cell BR.out 3).trans rfl; have hfr3 := blk_frozen BR.out 3; have hcr4 : w9.cell? ⟨gr, 4, none⟩ = some (.int .i64 0) := (blk_cell BR.out 4).trans rfl; have hfr4 := blk_frozen BR.out 4; have hcr5 : w9.cell? ⟨gr, 5, none⟩ = some (.int .i64 0) := (blk_cell BR.out 5).trans rfl; have hfr5 := blk_frozen BR.out 5; have hcr6 : w9.cell? ⟨gr, 6, none⟩ = some (.int .i64 0) := (blk_cell BR.out 6).trans rfl; have hfr6 := blk_frozen BR.out 6; have hcr7 : w9.cell? ⟨gr, 7, none⟩ = some (.int .i64 0) := (blk_cell BR.out 7).trans rfl; have hfr7 := blk_frozen BR.out 7; have hcr8 : w9.cell? ⟨gr, 8, none⟩ = some (.bool false) := (blk_cell BR.out 8).trans rfl; have hfr8 := blk_frozen BR.out 8; have hcr9 : w9.cell? ⟨gr, 9, none⟩ = some (.string (⟨#[]⟩ : ByteArray)) := (blk_cell BR.out 9).trans rfl; have hfr9 := blk_frozen BR.out 9; have hcr10 : w9.cell? ⟨gr, 10, none⟩ = some (.bool false) := (blk_cell BR.out 10).trans rfl; have hfr10 := blk_frozen BR.out 10; have hcr11 : w9.cell? ⟨gr, 11, none⟩ = some (.string (⟨#[]⟩ : ByteArray)) := (blk_cell BR.out 11).trans rfl; have hfr11 := blk_frozen BR.out 11; have hcr12 : w9.cell? ⟨gr, 12, none⟩ = some (.int .i64 0) := (blk_cell BR.out 12).trans rfl; have hfr12 := blk_frozen BR.out 12; clear hb))
       refine bodyPost_ret (results_ctt rfl _ _ gr 65 #[.int .i64 0, .int .i64 0, .int .i64 0, .int .i64 0, .int .i64 0, .int .i64 0, .int .i64 0, .int .i64 0, .bool false, .string (⟨#[]⟩ : ByteArray), .bool false, .string (⟨#[]⟩ : ByteArray), .int .i64 0] (0, 0) _ rfl ((p13 w9 gr (0) (0) (0) (0) (0) (0) (0) (0) (false) ((⟨#[]⟩ : ByteArray)) (false) ((⟨#[]⟩ : ByteArray)) (0) BR.out).1) Try.underlying65 rfl (by kernel_rfl)) rfl ?_
       exact ⟨by rw [HE.out, HF.out, HX.out]; rfl, (p13 w9 gr (0) (0) (0) (0) (0) (0) (0) (0) (false) ((⟨#[]⟩ : ByteArray)) (false) ((⟨#[]⟩ : ByteArray)) (0) BR.out).2.2 w HB.out GR.out⟩
def entTup (q : S65 × ByteArray × Int) : Int × Int × Int × Int × Int × Int × Int × Int × Bool × ByteArray × Bool × ByteArray × Int × ByteArray × Int := (q.1.f0, q.1.f1.f0, q.1.f1.f1, q.1.f1.f2, q.1.f2, q.1.f3, q.1.f4, q.1.f5, q.1.f6.f0, q.1.f6.f1, q.1.f7.f0, q.1.f7.f1, q.1.f8, q.2.1, q.2.2)
def entry_Decode.f (s : ByteArray) : Option (Int × Int × Int × Int × Int × Int × Int × Int × Bool × ByteArray × Bool × ByteArray × Int × ByteArray × Int) := some (entTup (decE s))
theorem entry_Decode.calls (s : ByteArray) (r1 : Int) (r2 : Int) (r3 : Int) (r4 : Int) (r5 : Int) (r6 : Int) (r7 : Int) (r8 : Int) (r9 : Bool) (r10 : ByteArray) (r11 : Bool) (r12 : ByteArray) (r13 : Int) (r14 : ByteArray) (r15 : Int) (w : World) (h : entry_Decode.f s = some (r1, r2, r3, r4, r5, r6, r7, r8, r9, r10, r11, r12, r13, r14, r15)) :
  Calls Try.prog 63 #[.string s] w fun e w' => e = .returned (.tuple #[.agg #[.int .i64 r1, .int .i64 r2, .int .i64 r3, .int .i64 r4, .int .i64 r5, .int .i64 r6, .int .i64 r7, .int .i64 r8, .bool r9, .string r10, .bool r11, .string r12, .int .i64 r13], .string r14, .int .i64 r15]) ∧ Below w.heap.size w w' := by
 unfold entry_Decode.f entTup at h
 rw [← decG_eq] at h
 simp only [Option.some.injEq, Prod.mk.injEq] at h
 obtain ⟨rfl, rfl, rfl, rfl, rfl, rfl, rfl, rfl, rfl, rfl, rfl, rfl, rfl, rfl, rfl⟩ := h
 exact entry_Decode.run s w
end Go.Proofs.Ytfjmnaobfbmllaa.M
namespace Go.Proofs.Ytfjmnaobfbmllaa.M
open Go.RowKit Go.Proofs.YtfjmnaobfbmllaaW.PrintWords Go.Proofs.YtfjmnaobfbmllaaW.PrintLast Go.Proofs.YtfjmnaobfbmllaaW.PrintMore
set_option linter.unusedVariables false
set_option linter.unusedSimpArgs false
theorem s65_ext (x y : S65) : x = y ↔ x.f0 = y.f0 ∧ ((x.f1.f0 = y.f1.f0 ∧ x.f1.f1 = y.f1.f1 ∧ x.f1.f2 = y.f1.f2) ∧ x.f2 = y.f2 ∧ x.f3 = y.f3 ∧ x.f4 = y.f4 ∧ x.f5 = y.f5 ∧ (x.f6.f0 = y.f6.f0 ∧ x.f6.f1 = y.f6.f1) ∧ (x.f7.f0 = y.f7.f0 ∧ x.f7.f1 = y.f7.f1) ∧ x.f8 = y.f8) := by
  obtain ⟨a0, ⟨a1, a2, a3⟩, a4, a5, a6, a7, ⟨a8, a9⟩, ⟨a10, a11⟩, a12⟩ := x
  obtain ⟨b0, ⟨b1, b2, b3⟩, b4, b5, b6, b7, ⟨b8, b9⟩, ⟨b10, b11⟩, b12⟩ := y
  simp
instance decS65 : DecidableEq S65 := fun x y => decidable_of_iff _ (s65_ext x y).symm
def greatE (x : S65) : Bool := decide (4096 < x.f6.f1.size) || decide (4096 < x.f7.f1.size)
theorem mk_eq (x : S65) : mkE x.f0 x.f1.f0 x.f1.f1 x.f1.f2 x.f2 x.f3 x.f4 x.f5 x.f6.f0 x.f6.f1 x.f7.f0 x.f7.f1 x.f8 = x := rfl
theorem encX_good {x : S65} (h : GoodE x) : encX x = (strOfNums (encE x), 0) := if_pos h
end Go.Proofs.Ytfjmnaobfbmllaa.M
namespace Go.Proofs.Ytfjmnaobfbmllaa.M
open Go.RowKit Go.Proofs.YtfjmnaobfbmllaaW.PrintWords Go.Proofs.YtfjmnaobfbmllaaW.PrintLast Go.Proofs.YtfjmnaobfbmllaaW.PrintMore
set_option linter.unusedVariables false
set_option linter.unusedSimpArgs false
def encB (a : Int) (l : List S33) : ByteArray := strOfNums (padL (encL a l))
theorem slotsB_cons (x : S33) (l : List S33) : slotsB (x :: l) = slotB x ++ slotsB l := by simp [slotsB]
theorem enc_len {a : Int} {l : List S33} (hg : goodP a l = true) : (encL a l).length = rawSize l := by
  obtain ⟨_, _, _, h4, _, _⟩ := good_facts a l hg
  have := slotsB_length l h4 l.length (by omega)
  rw [List.drop_length, List.take_length] at this
  unfold encL rawSize
  rw [List.length_append, hiL_length, List.length_cons]
  simp only [sumS] at this
  omega
end Go.Proofs.Ytfjmnaobfbmllaa.M
namespace Go.Proofs.Ytfjmnaobfbmllaa.M
open Go.RowKit Go.Proofs.YtfjmnaobfbmllaaW.PrintWords Go.Proofs.YtfjmnaobfbmllaaW.PrintLast Go.Proofs.YtfjmnaobfbmllaaW.PrintMore
attribute [local go_sem] max2_int min2_int max_two min_two max_three min_three max_four min_four   -- for this text's walks alone
set_option linter.unusedVariables false
set_option linter.unusedSimpArgs false
def slab_Decode.l0 : Nat → ByteArray → Int → List (S33) → ByteArray → Int → Int → Option (Int × (List (S33)) × Int)
 | 0, _, _, _, _, _, _ => none
 | k + 1, x0, x4, x5, x6, x21, x22 => if x22 < x21 then (if x6.toList = ([] : List UInt8) then (some (0, ([] : List (S33)), 4)) else (if 0 < (x6.size : Int) then (if 1 ≤ (x6.size : Int) then (if (wrap64 (bt x6 0)) = 255 then (if x5.length < 5864062014805 then (slab_Decode.l0 k x0 x4 (x5 ++ [(⟨false, (⟨#[]⟩ : ByteArray)⟩ : S33)]) (x6.extract 1 x6.size) x21 ((x22 + 1) % 256)) else (none)) else (if (wrap64 (bt x6 0)) > ((x6.extract 1 x6.size).size : Int) then (some (0, ([] : List (S33)), 4)) else (if 0 ≤ (wrap64 (bt x6 0)) then (if (wrap64 (bt x6 0)) ≤ ((x6.extract 1 x6.size).size : Int) then (if x5.length < 5864062014805 then (slab_Decode.l0 k x0 x4 (x5 ++ [(⟨true, (x6.extract 1 x6.size).extract 0 ((wrap64 (bt x6 0)) : Int).toNat⟩ : S33)]) ((x6.extract 1 x6.size).extract ((wrap64 (bt x6 0)) : Int).toNat (x6.extract 1 x6.size).size) x21 ((x22 + 1) % 256)) else (none)) else (none)) else (none)))) else (none)) else (none))) else ((slab_Encode.f (wrap64 (x4)) x5).bind fun bt104 => (if x4 > 1099511627776 then (some (0, ([] : List (S33)), 4)) else (if bt104.2 = 0 then (if bt104.1.toList = x0.toList then (some (wrap64 (x4), x5, 0)) else (some (0, ([] : List (S33)), 4))) else (some (0, ([] : List (S33)), 4)))))
def slab_Decode.f (k : Nat) (a0 : ByteArray) : Option (Int × (List (S33)) × Int) := if (a0.size : Int) = 240 then (if 0 ≤ 8 then (if 8 ≤ (a0.size : Int) then ((high_Get.f (a0.extract 0 8)).bind fun t102 => (if 9 ≤ (a0.size : Int) then (if 8 < (a0.size : Int) then (slab_Decode.l0 k a0 t102 ([] : List (S33)) (a0.extract 9 a0.size) (bt a0 8) 0) else (none)) else (none))) else (none)) else (none)) else (some (0, ([] : List (S33)), 4))
set_option maxHeartbeats 8000000 in
set_option maxRecDepth 100000 in
theorem slab_Decode.calls (k : Nat) (a0 : ByteArray) (r1 : Int) (r2 : List (S33)) (r3 : Int) (w : World) (h : slab_Decode.f k a0 = some (r1, r2, r3)) :
  Calls Try.prog 73 #[.string a0] w fun e w' => ∃ v1_ : Value, e = .returned (.tuple #[.agg #[.int .i64 r1, v1_], .int .i64 r3]) ∧ Kd.R k33 33 w' w.heap.size (fun _ => True) v1_ r2 ∧ Below w.heap.size w w' := by
 have hu24 := Try.underlying24
 have hu33 := Try.underlying33
 have HB := aq (Below.refl w.heap.size w)
 have H : (if (a0.size : Int) = 240 then (if 0 ≤ 8 then (if 8 ≤ (a0.size : Int) then ((high_Get.f (a0.extract 0 8)).bind fun t102 => (if 9 ≤ (a0.size : Int) then (if 8 < (a0.size : Int) then (slab_Decode.l0 k a0 t102 ([] : List (S33)) (a0.extract 9 a0.size) (bt a0 8) 0) else (none)) else (none))) else (none)) else (none)) else (some (0, ([] : List (S33)), 4))) = some (r1, r2, r3) := h
 clear h
 by_cases c2 : (a0.size : Int) = 240
 ·rw [if_pos c2] at H
  have c2b0 : ((a0.size : Int) == 240) = true := beq_iff_eq.mpr c2
  have c2b1 : ((a0.size : Int) != 240) = false := bne_eq_false_iff_eq.mpr c2
  clear c2
  by_cases c3 : 0 ≤ 8
  ·rw [if_pos c3] at H
   have c3b0 := eq_true c3
   have c3b1 : decide (0 ≤ 8) = true := decide_eq_true c3
   clear c3
   by_cases c4 : 8 ≤ (a0.size : Int)
   ·rw [if_pos c4] at H
    have c4b0 := eq_true c4
    have c4b1 : decide (8 ≤ (a0.size : Int)) = true := decide_eq_true c4
    clear c4
    replace H := Option.bind_eq_some_iff.mp H
    obtain ⟨t102, A50, H⟩ := H
    try dsimp only at H
    have A5 := aq A50
    clear A50
    by_cases c6 : 9 ≤ (a0.size : Int)
    ·rw [if_pos c6] at H
     have c6b0 := eq_true c6
     have c6b1 : decide (9 ≤ (a0.size : Int)) = true := decide_eq_true c6
     clear c6
     by_cases c7 : 8 < (a0.size : Int)
     ·rw [if_pos c7] at H
      have c7b0 : decide (8 < (a0.size : Int)) = true := decide_eq_true c7
      have c7b1 : decide (8 < a0.size) = true := decide_eq_true (by omega)
      clear c7
      have H' := aq H
      clear H
      go_enter Try.func73, Try.ntmps73
      go_wp2_with (first | ((with_reducible refine gate_dst (N := 2) rfl ?_); refine box_event ?hg (N := 2) ?hd (cs := #[.int .i64 0, .slice none 0 0]) (t := 24) ?hr ?_; (case hd => rfl); (case hg => rfl); (case hr => first | (go_simp; done) | (go_simp; rfl)); intro gb101 hg w9 hbox hb; have n0_ := aq (below_step (stH HB) hb); have n1_ := aq (hbox); have n2_ := aq ((by rw [hg]; exact (below_size (stH HB)) : w.heap.size ≤ gb101)); have n3_ := aq ((by rw [hg]; exact (below_size (stH HB)) : w.heap.size ≤ gb101)); replace HB := n0_; have BK101 := n1_; have GW101 := n2_; have GE101 := n3_; clear n0_ n1_ n2_ n3_; clear hb hbox hg) | ((with_reducible refine gate_callee (f := 86) rfl ?_); refine goesL_ (some 17) rfl rfl Try.func86 (by kernel_rfl) rfl #[.string (a0.extract 0 8)] rfl fitR ?_; (with_reducible refine (high_Get.calls (a0.extract 0 8) t102 _ A5.out).mono ?_); rintro e w10 ⟨rfl, hb⟩; refine ⟨_, rfl, ?_⟩; have n0_ := aq (blk_below (stB BK101) hb); have n1_ := aq (below_step (stH HB) hb); replace BK101 := n0_; replace HB := n1_; clear n0_ n1_; (try clear hb); have p8 : 0 ≤ (8 : Int) := (by omega); have q8 : 8 < a0.size := (by have : (8 : Int) < (a0.size : Int) := of_decide_eq_true (by first | (with_reducible assumption) | assumption); omega); have hx8 : ∀ h : 8 < a0.size, ((a0[8]'h).toNat : Int) = bt a0 8 := bt_at a0 8; clear p8; have qi8 : (8 < (a0.size : Int)) = True := eq_true (of_decide_eq_true (by first | (with_reducible assumption) | assumption)); replace q8 := eq_true q8))
      go_loopg [5, 6, 22] k (fun kq v5 v6 v22 w' => ∃ (x5_1 : List (S33)) (x6_1 : ByteArray) (x22_1 : Int) (x102000_1 : Int), v6 = .string x6_1 ∧ v22 = .int .u8 x22_1 ∧ Aside0 (slab_Decode.l0 kq a0 t102 x5_1 x6_1 (bt a0 8) x22_1 = some (r1, r2, r3)) ∧ Aside0 (kq ≤ k) ∧ Aside0 (Kd.R k33 33 w' w.heap.size (fun _ => True) v5 x5_1) ∧ Aside0 (w'.heap[gb101]? = some (.cells #[.int .i64 x102000_1, (.slice none 0 0)] 24 (0, 0))) ∧ Aside0 (Below w.heap.size w w'))
      case atStart => exact ⟨(([] : List (S33))), (a0.extract 9 a0.size), (0), (0), eqS, eqS, H', ⟨Nat.le_refl _⟩, ⟨by first | exact Kd.R_nil _ _ _ _ _ | exact Kd.N_nil _ _ _ _ _ | exact Kd.V_nil _ _ _ _ _ | exact Kd.Q_nil _ _ _ _ _ | exact Kd.S_nil _ _ _ _ _⟩, ⟨stB BK101⟩, ⟨stH HB⟩⟩
      case round =>
       clear H'
       try clear c2
       try clear c2b0
       try clear c2b1
       try clear p2
       try clear c3
       try clear c3b0
       try clear c3b1
       try clear c4
       try clear c4b0
       try clear c4b1
       try clear c6
       try clear c6b0
       try clear c6b1
       try clear c7
       try clear c7b0
       try clear c7b1
       try clear c8
       try clear p8
       try clear q8
       try clear hx8
       try clear qi8
       obtain ⟨x5_1, x6_1, x22_1, x102000_1, rfl, rfl, HA, HK1, HO_5, BK101, HB⟩ := hrel
       cases gk with
       | zero => exact absurd HA.out (by simp [slab_Decode.l0])
       | succ k1 =>
        have H := HA.out
        clear HA
        simp only [slab_Decode.l0] at H
        by_cases c11 : x22_1 < (bt a0 8)
        ·rw [if_pos c11] at H
         have c11b0 : decide (x22_1 < (bt a0 8)) = true := decide_eq_true c11
         clear c11
         by_cases c12 : x6_1.toList = ([] : List UInt8)
         ·rw [if_pos c12] at H
          have c12b0 : (x6_1.toList == ([] : List UInt8)) = true := beq_iff_eq.mpr c12
          have c12b1 : (x6_1.toList != ([] : List UInt8)) = false := bne_eq_false_iff_eq.mpr c12
          clear c12
          simp only [Option.some.injEq, Prod.mk.injEq] at H
          obtain ⟨rfl, rfl, rfl⟩ := H
          obtain ⟨k13a, k13b⟩ := cl2 (W := wr) BK101.out
          obtain ⟨u13a, u13b⟩ := fr2 BK101.out
          go_wp2
          refine bodyPost_ret (results_ct rfl _ _ gb101 24 #[.int .i64 0, .slice none 0 0] (0, 0) _ rfl (by (with_reducible repeat (first | refine blk_drewN ?_ _ | refine blk_drew ?_ | refine blk_alloc ?_ _)); refine puts2 (cs := #[.int .i64 x102000_1, .slice none 0 0]) rfl ?_; (with_reducible repeat (first | refine blk_drewN ?_ _ | refine blk_drew ?_ | refine blk_alloc ?_ _)); exact BK101.out) Try.underlying24 rfl (by kernel_rfl)) rfl ?_
          exact ⟨_, eqW, by first | exact Kd.R_nil _ _ _ _ _ | exact Kd.N_nil _ _ _ _ _ | exact Kd.V_nil _ _ _ _ _ | exact Kd.Q_nil _ _ _ _ _ | exact Kd.S_nil _ _ _ _ _, by repeat (first | (with_reducible first | exact HB.out | apply below_alloc | apply pw_below_drewN | apply below_drew1 | refine below_set ?_ GE101.out) | exact HB.out)⟩
         ·rw [if_neg c12] at H
          have c12b0 : (x6_1.toList == ([] : List UInt8)) = false := beq_eq_false_iff_ne.mpr c12
          have c12b1 : (x6_1.toList != ([] : List UInt8)) = true := bne_iff_ne.mpr c12
          by_cases c14 : 0 < (x6_1.size : Int)
          ·rw [if_pos c14] at H
           have c14b0 : decide (0 < (x6_1.size : Int)) = true := decide_eq_true c14
           have c14b1 : decide (0 < x6_1.size) = true := decide_eq_true (by omega)
           clear c14
           by_cases c16 : 1 ≤ (x6_1.size : Int)
           ·rw [if_pos c16] at H
            have c16b0 := eq_true c16
            have c16b1 : decide (1 ≤ (x6_1.size : Int)) = true := decide_eq_true c16
            clear c16
            by_cases c17 : (wrap64 (bt x6_1 0)) = 255
            ·rw [if_pos c17] at H
             have c17b0 : ((wrap64 (bt x6_1 0)) == 255) = true := beq_iff_eq.mpr c17
             have c17b1 : ((wrap64 (bt x6_1 0)) != 255) = false := bne_eq_false_iff_eq.mpr c17
             clear c17
             by_cases c18 : x5_1.length < 5864062014805
             ·rw [if_pos c18] at H
              have LMc18 := aq c18
              clear c18
              obtain ⟨y106, hy106⟩ : ∃ y_ : List (S33), y_ = (x5_1 ++ [(⟨false, (⟨#[]⟩ : ByteArray)⟩ : S33)]) := ⟨_, rfl⟩
              replace H : (slab_Decode.l0 k1 a0 t102 y106 (x6_1.extract 1 x6_1.size) (bt a0 8) ((x22_1 + 1) % 256)) = some (r1, r2, r3) := by first | (rw [hy106]; with_reducible exact H) | (have H2_ := (Option.bind_some _ _).symm.trans H; rw [hy106]; with_reducible exact H2_) | (have H2_ := (Option.bind_some _ _).symm.trans H; with_reducible exact H2_) | with_reducible exact H | (rw [hy106]; exact H) | exact H
              have Ny106 := aq hy106
              clear hy106
              have H' := aq H
              clear H
              have p15 : 0 ≤ (0 : Int) := (by omega)
              have q15 : 0 < x6_1.size := (by have : (0 : Int) < (x6_1.size : Int) := of_decide_eq_true (by first | (with_reducible assumption) | assumption); omega)
              have hx15 : ∀ h : 0 < x6_1.size, ((x6_1[0]'h).toNat : Int) = bt x6_1 0 := bt_at x6_1 0
              clear p15
              have qi15 : (0 < (x6_1.size : Int)) = True := eq_true (of_decide_eq_true (by first | (with_reducible assumption) | assumption))
              replace q15 := eq_true q15
              go_wp2_with (first | ((with_reducible refine gate_builtin (b := .append) (xs := #[.tmp 35, .tmp 37]) rfl ?_); at_builtin; refine Kd.R_append k33 (w0 := w) w.heap.size rfl (.tmp 35) (.tmp 37) 22 33 (.agg #[(.bool false), (.string ⟨#[]⟩)]) 24 rfl Try.underlying22 info33 rfl (by decide) (by omega) u5 x5_1 (⟨false, (⟨#[]⟩ : ByteArray)⟩ : S33) [.bool false, .string (⟨#[]⟩ : ByteArray)] (fun _ => True) (fun _ => False) rfl rfl ?aP (fun _ hk => hk.elim) ?aF ?aO ?aB ?aS ?aL ?_; (case aP => exact k33_mkM _ _ _ (⟨false, (⟨#[]⟩ : ByteArray)⟩ : S33)); (case aB => exact (stH HB)); (case aF => exact (fun _ _ => trivial)); (case aO => exact (by (with_reducible repeat (first | apply Kd.R_alloc | apply Kd.R_drewN | apply Kd.R_drew)); exact HO_5.out)); (case aS => exact (below_size (stH HB))); (case aL => have := LMc18.out; omega); intro v107 w19 ho hb hg hat; rw [← Ny106.out] at ho; have n0_ := aq (blk_grown (stB BK101) hg (Kd.R_ne HO_5.out BK101.out (by decide))); have n1_ := aq (hb); have n2_ := aq (ho); clear BK101; clear HB; clear HO_5; have BK101 := n0_; have HB := n1_; have HO108 := n2_; clear n0_ n1_ n2_; clear ho hb hg hat))
              go_roundg k1
              case measure => have := HK1.out; omega
              case rel => exact ⟨(y106), (x6_1.extract 1 x6_1.size), ((x22_1 + 1) % 256), (x102000_1), eqS, eqS, H', ⟨by have := HK1.out; omega⟩, ⟨by (with_reducible repeat (first | apply Kd.R_alloc | apply Kd.R_drewN | apply Kd.R_drew)); exact HO108.out⟩, ⟨stB BK101⟩, ⟨stH HB⟩⟩
             ·rw [if_neg c18] at H
              exact absurd H (by simp)
            ·rw [if_neg c17] at H
             have c17b0 : ((wrap64 (bt x6_1 0)) == 255) = false := beq_eq_false_iff_ne.mpr c17
             have c17b1 : ((wrap64 (bt x6_1 0)) != 255) = true := bne_iff_ne.mpr c17
             by_cases c20 : (wrap64 (bt x6_1 0)) > ((x6_1.extract 1 x6_1.size).size : Int)
             ·rw [if_pos c20] at H
              have hsz : (x6_1.extract 1 x6_1.size).size = x6_1.size - 1 := (by simp [ByteArray.size_extract]); have c20b0 : decide (((x6_1.extract 1 x6_1.size).size : Int) < (wrap64 (bt x6_1 0))) = true := decide_eq_true c20; have c20b2 : decide (((x6_1.size - 1 : Nat) : Int) < (wrap64 (bt x6_1 0))) = true := (by rw [← hsz]; exact c20b0)
              clear c20
              simp only [Option.some.injEq, Prod.mk.injEq] at H
              obtain ⟨rfl, rfl, rfl⟩ := H
              have p15 : 0 ≤ (0 : Int) := (by omega)
              have q15 : 0 < x6_1.size := (by have : (0 : Int) < (x6_1.size : Int) := of_decide_eq_true (by first | (with_reducible assumption) | assumption); omega)
              have hx15 : ∀ h : 0 < x6_1.size, ((x6_1[0]'h).toNat : Int) = bt x6_1 0 := bt_at x6_1 0
              clear p15
              have qi15 : (0 < (x6_1.size : Int)) = True := eq_true (of_decide_eq_true (by first | (with_reducible assumption) | assumption))
              replace q15 := eq_true q15
              obtain ⟨k21a, k21b⟩ := cl2 (W := wr) BK101.out
              obtain ⟨u21a, u21b⟩ := fr2 BK101.out
              go_wp2
              refine bodyPost_ret (results_ct rfl _ _ gb101 24 #[.int .i64 0, .slice none 0 0] (0, 0) _ rfl (by (with_reducible repeat (first | refine blk_drewN ?_ _ | refine blk_drew ?_ | refine blk_alloc ?_ _)); refine puts2 (cs := #[.int .i64 x102000_1, .slice none 0 0]) rfl ?_; (with_reducible repeat (first | refine blk_drewN ?_ _ | refine blk_drew ?_ | refine blk_alloc ?_ _)); exact BK101.out) Try.underlying24 rfl (by kernel_rfl)) rfl ?_
              exact ⟨_, eqW, by first | exact Kd.R_nil _ _ _ _ _ | exact Kd.N_nil _ _ _ _ _ | exact Kd.V_nil _ _ _ _ _ | exact Kd.Q_nil _ _ _ _ _ | exact Kd.S_nil _ _ _ _ _, by repeat (first | (with_reducible first | exact HB.out | apply below_alloc | apply pw_below_drewN | apply below_drew1 | refine below_set ?_ GE101.out) | exact HB.out)⟩
             ·rw [if_neg c20] at H
              have hsz : (x6_1.extract 1 x6_1.size).size = x6_1.size - 1 := (by simp [ByteArray.size_extract]); have c20b0 : decide (((x6_1.extract 1 x6_1.size).size : Int) < (wrap64 (bt x6_1 0))) = false := decide_eq_false c20; have c20b2 : decide (((x6_1.size - 1 : Nat) : Int) < (wrap64 (bt x6_1 0))) = false := (by rw [← hsz]; exact c20b0)
              clear c20
              obtain ⟨ji22, hji22⟩ : ∃ j_ : Int, (wrap64 (bt x6_1 0)) = j_ := ⟨_, rfl⟩
              replace H : (if 0 ≤ (ji22) then (if (ji22) ≤ ((x6_1.extract 1 x6_1.size).size : Int) then (if x5_1.length < 5864062014805 then (slab_Decode.l0 k1 a0 t102 (x5_1 ++ [(⟨true, (x6_1.extract 1 x6_1.size).extract 0 ((ji22) : Int).toNat⟩ : S33)]) ((x6_1.extract 1 x6_1.size).extract ((ji22) : Int).toNat (x6_1.extract 1 x6_1.size).size) (bt a0 8) ((x22_1 + 1) % 256)) else (none)) else (none)) else (none)) = some (r1, r2, r3) := by first | (rw [hji22] at H; exact H) | (simp only [hji22] at H ⊢; exact H)
              (try rw [hji22] at c17b0)
              (try rw [hji22] at c17b1)
              (try rw [hji22] at c20b0)
              have hji22w : (IntKind.i64.wrap (bt x6_1 0)) = ji22 := (i64_w _).trans hji22
              by_cases c23 : 0 ≤ (ji22)
              ·rw [if_pos c23] at H
               have c23b0 := eq_true c23
               have c23b1 : decide (0 ≤ (ji22)) = true := decide_eq_true c23
               clear c23
               by_cases c24 : (ji22) ≤ ((x6_1.extract 1 x6_1.size).size : Int)
               ·rw [if_pos c24] at H
                have c24b0 := eq_true c24
                have c24b1 : decide ((ji22) ≤ ((x6_1.extract 1 x6_1.size).size : Int)) = true := decide_eq_true c24; have c24b2 : decide ((ji22) ≤ ((x6_1.size - 1 : Nat) : Int)) = true := (by rw [← hsz]; exact c24b1); have c24b3 : (ji22) ≤ ((x6_1.size - 1 : Nat) : Int) := of_decide_eq_true c24b2
                clear c24
                by_cases c25 : x5_1.length < 5864062014805
                ·rw [if_pos c25] at H
                 have LMc25 := aq c25
                 clear c25
                 obtain ⟨y109, hy109⟩ : ∃ y_ : List (S33), y_ = (x5_1 ++ [(⟨true, (x6_1.extract 1 x6_1.size).extract 0 ((ji22) : Int).toNat⟩ : S33)]) := ⟨_, rfl⟩
                 replace H : (slab_Decode.l0 k1 a0 t102 y109 ((x6_1.extract 1 x6_1.size).extract ((ji22) : Int).toNat (x6_1.extract 1 x6_1.size).size) (bt a0 8) ((x22_1 + 1) % 256)) = some (r1, r2, r3) := by first | (rw [hy109]; with_reducible exact H) | (have H2_ := (Option.bind_some _ _).symm.trans H; rw [hy109]; with_reducible exact H2_) | (have H2_ := (Option.bind_some _ _).symm.trans H; with_reducible exact H2_) | with_reducible exact H | (rw [hy109]; exact H) | exact H
                 have Ny109 := aq hy109
                 clear hy109
                 have c26b0 := eq_true (of_decide_eq_true (by first | (with_reducible assumption) | assumption) : 0 ≤ (ji22))
                 have c27b0 := eq_true (of_decide_eq_true (by first | (with_reducible assumption) | assumption) : (ji22) ≤ ((x6_1.extract 1 x6_1.size).size : Int))
                 have H' := aq H
                 clear H
                 have p15 : 0 ≤ (0 : Int) := (by omega)
                 have q15 : 0 < x6_1.size := (by have : (0 : Int) < (x6_1.size : Int) := of_decide_eq_true (by first | (with_reducible assumption) | assumption); omega)
                 have hx15 : ∀ h : 0 < x6_1.size, ((x6_1[0]'h).toNat : Int) = bt x6_1 0 := bt_at x6_1 0
                 clear p15
                 have qi15 : (0 < (x6_1.size : Int)) = True := eq_true (of_decide_eq_true (by first | (with_reducible assumption) | assumption))
                 replace q15 := eq_true q15
                 go_wp2_with (first | ((with_reducible refine gate_builtin (b := .append) (xs := #[.tmp 45, .tmp 50]) rfl ?_); at_builtin; refine Kd.R_append k33 (w0 := w) w.heap.size rfl (.tmp 45) (.tmp 50) 22 33 (.agg #[(.bool false), (.string ⟨#[]⟩)]) 24 rfl Try.underlying22 info33 rfl (by decide) (by omega) u5 x5_1 (⟨true, (x6_1.extract 1 x6_1.size).extract 0 ((ji22) : Int).toNat⟩ : S33) [.bool true, .string ((x6_1.extract 1 x6_1.size).extract 0 ((ji22) : Int).toNat)] (fun _ => True) (fun _ => False) rfl rfl ?aP (fun _ hk => hk.elim) ?aF ?aO ?aB ?aS ?aL ?_; (case aP => exact k33_mkM _ _ _ (⟨true, (x6_1.extract 1 x6_1.size).extract 0 ((ji22) : Int).toNat⟩ : S33)); (case aB => exact (stH HB)); (case aF => exact (fun _ _ => trivial)); (case aO => exact (by (with_reducible repeat (first | apply Kd.R_alloc | apply Kd.R_drewN | apply Kd.R_drew)); exact HO_5.out)); (case aS => exact (below_size (stH HB))); (case aL => have := LMc25.out; omega); intro v110 w28 ho hb hg hat; rw [← Ny109.out] at ho; have n0_ := aq (blk_grown (stB BK101) hg (Kd.R_ne HO_5.out BK101.out (by decide))); have n1_ := aq (hb); have n2_ := aq (ho); clear BK101; clear HB; clear HO_5; have BK101 := n0_; have HB := n1_; have HO111 := n2_; clear n0_ n1_ n2_; clear ho hb hg hat))
                 go_roundg k1
                 case measure => have := HK1.out; omega
                 case rel => exact ⟨(y109), ((x6_1.extract 1 x6_1.size).extract ((ji22) : Int).toNat (x6_1.extract 1 x6_1.size).size), ((x22_1 + 1) % 256), (x102000_1), (by first | rfl | (simp; done) | (simp only [← hji22] <;> (first | rfl | simp)) | (simp [*]; done)), eqS, H', ⟨by have := HK1.out; omega⟩, ⟨by (with_reducible repeat (first | apply Kd.R_alloc | apply Kd.R_drewN | apply Kd.R_drew)); exact HO111.out⟩, ⟨stB BK101⟩, ⟨stH HB⟩⟩
                ·rw [if_neg c25] at H
                 exact absurd H (by simp)
               ·rw [if_neg c24] at H
                exact absurd H (by simp)
              ·rw [if_neg c23] at H
               exact absurd H (by simp)
           ·rw [if_neg c16] at H
            exact absurd H (by simp)
          ·rw [if_neg c14] at H
           exact absurd H (by simp)
        ·rw [if_neg c11] at H
         have c11b0 : decide (x22_1 < (bt a0 8)) = false := decide_eq_false c11
         clear c11
         replace H := Option.bind_eq_some_iff.mp H
         obtain ⟨⟨t104, t105⟩, A290, H⟩ := H
         try dsimp only at H
         have A29 := aq A290
         clear A290
         by_cases c30 : t102 > 1099511627776
         ·rw [if_pos c30] at H
          have c30b0 : decide (1099511627776 < t102) = true := decide_eq_true c30
          clear c30
          simp only [Option.some.injEq, Prod.mk.injEq] at H
          obtain ⟨rfl, rfl, rfl⟩ := H
          obtain ⟨Ao31, co31, eo31⟩ := Kd.R_slice HO_5.out
          subst eo31
          go_wp2_with (first | ((with_reducible refine gate_dst (N := 8) rfl ?_); refine box_event ?hg (N := 8) ?hd (cs := #[.int .i64 0, .slice none 0 0]) (t := 24) ?hr ?_; (case hd => rfl); (case hg => rfl); (case hr => first | (go_simp; done) | (go_simp; rfl)); intro gb103 hg w32 hbox hb; have n0_ := aq (Kd.R_below (by (with_reducible repeat (first | apply Kd.R_alloc | apply Kd.R_drewN | apply Kd.R_drew)); exact HO_5.out) hb); have n1_ := aq (blk_below (stB BK101) hb); have n2_ := aq (below_step (stH HB) hb); have n3_ := aq (hbox); have n4_ := aq ((by rw [hg]; exact (below_size (stH HB)) : w.heap.size ≤ gb103)); have n5_ := aq ((by rw [hg]; exact (below_size (stH HB)) : w.heap.size ≤ gb103)); have n6_ := aq ((by rw [hg]; exact Nat.ne_of_lt (blk_lt (stB BK101)) : gb101 ≠ gb103)); have n7_ := aq ((by rw [hg]; exact Nat.ne_of_gt (blk_lt (stB BK101)) : gb103 ≠ gb101)); replace HO_5 := n0_; replace BK101 := n1_; replace HB := n2_; have BK103 := n3_; have GW103 := n4_; have GE103 := n5_; have NB101_103 := n6_; have NB103_101 := n7_; clear n0_ n1_ n2_ n3_ n4_ n5_ n6_ n7_; clear hb hbox hg; have hnb33 := NB103_101.out; have hnc33 := NB101_103.out; obtain ⟨k34a, k34b⟩ := cl2 (W := w32) BK103.out; obtain ⟨u34a, u34b⟩ := fr2 BK103.out) | ((with_reducible refine gate_callee (f := 32) rfl ?_); refine goesL_ (some 62) rfl rfl Try.func32 (by kernel_rfl) rfl #[.agg #[.int .i64 (wrap64 (t102)), .slice Ao31 x5_1.length co31]] rfl fitR ?_; (with_reducible refine (slab_Encode.calls (wrap64 (t102)) _ _ x5_1 t104 t105 _ ?side1 ?side2 A29.out).mono ?_); (case side1 => refine (Kd.R_reads' (e := 33) (base := w.heap.size) (ok := fun k_ => True) (n := x5_1.length) (c := co31) ?_).2.2; exact (by (with_reducible repeat (first | apply Kd.R_alloc | apply Kd.R_drewN | apply Kd.R_drew)); exact (Kd.R_mono (Kd.R_far (p := ⟨gb103, 1, none⟩) (Kd.R_far (p := ⟨gb103, 0, none⟩) (Kd.R_types HO_5.out BK103.out (by decide)) (fun _ hk => hk.2) (.int .i64 (wrap64 (t102)))) (fun _ hk => hk.2) (.slice Ao31 x5_1.length co31)) (fun _ h_ => h_.1)))); (case side2 => exact (Kd.R_reads' HO_5.out).2.1); rintro e w35 ⟨rfl, hb⟩; refine ⟨_, rfl, ?_⟩; have n0_ := aq (Kd.R_below (by (with_reducible repeat (first | apply Kd.R_alloc | apply Kd.R_drewN | apply Kd.R_drew)); exact (Kd.R_mono (Kd.R_far (p := ⟨gb103, 1, none⟩) (Kd.R_far (p := ⟨gb103, 0, none⟩) (Kd.R_types HO_5.out BK103.out (by decide)) (fun _ hk => hk.2) (.int .i64 (wrap64 (t102)))) (fun _ hk => hk.2) (.slice Ao31 x5_1.length co31)) (fun _ h_ => h_.1))) hb); have n1_ := aq (blk_below (g := gb101) (o := .cells #[.int .i64 x102000_1, .slice none 0 0] 24 (0, 0)) (stF BK101) hb); have n2_ := aq (blk_below (g := gb103) (o := .cells #[.int .i64 (wrap64 (t102)), .slice Ao31 x5_1.length co31] 24 (0, 0)) (by (with_reducible repeat (first | refine blk_drewN ?_ _ | refine blk_drew ?_ | refine blk_alloc ?_ _)); refine puts2 (cs := #[.int .i64 0, .slice none 0 0]) rfl ?_; (with_reducible repeat (first | refine blk_drewN ?_ _ | refine blk_drew ?_ | refine blk_alloc ?_ _)); exact BK103.out) hb); have n3_ := aq (below_step (stH HB) hb); replace HO_5 := n0_; replace BK101 := n1_; replace BK103 := n2_; replace HB := n3_; clear n0_ n1_ n2_ n3_; (try clear hb); (try clear hk); obtain ⟨k36a, k36b⟩ := cl2 (W := w35) BK101.out; obtain ⟨u36a, u36b⟩ := fr2 BK101.out))
          refine bodyPost_ret (results_ct rfl _ _ gb101 24 #[.int .i64 0, .slice none 0 0] (0, 0) _ rfl (by (with_reducible repeat (first | refine blk_drewN ?_ _ | refine blk_drew ?_ | refine blk_alloc ?_ _)); refine puts2 (cs := #[.int .i64 x102000_1, .slice none 0 0]) rfl ?_; (with_reducible repeat (first | refine blk_drewN ?_ _ | refine blk_drew ?_ | refine blk_alloc ?_ _)); exact BK101.out) Try.underlying24 rfl (by kernel_rfl)) rfl ?_
          exact ⟨_, eqW, by first | exact Kd.R_nil _ _ _ _ _ | exact Kd.N_nil _ _ _ _ _ | exact Kd.V_nil _ _ _ _ _ | exact Kd.Q_nil _ _ _ _ _ | exact Kd.S_nil _ _ _ _ _, by repeat (first | (with_reducible first | exact HB.out | apply below_alloc | apply pw_below_drewN | apply below_drew1 | refine below_set ?_ GE101.out | refine below_set ?_ GE103.out) | exact HB.out)⟩
         ·rw [if_neg c30] at H
          have c30b0 : decide (1099511627776 < t102) = false := decide_eq_false c30
          clear c30
          by_cases c37 : t105 = 0
          ·rw [if_pos c37] at H
           have c37b0 : (t105 == 0) = true := beq_iff_eq.mpr c37
           have c37b1 : (t105 != 0) = false := bne_eq_false_iff_eq.mpr c37
           clear c37
           by_cases c38 : t104.toList = a0.toList
           ·rw [if_pos c38] at H
            have c38b0 : (t104.toList == a0.toList) = true := beq_iff_eq.mpr c38
            have c38b1 : (t104.toList != a0.toList) = false := bne_eq_false_iff_eq.mpr c38
            clear c38
            simp only [Option.some.injEq, Prod.mk.injEq] at H
            obtain ⟨rfl, rfl, rfl⟩ := H
            obtain ⟨Ao39, co39, eo39⟩ := Kd.R_slice HO_5.out
            subst eo39
            go_wp2_with (first | ((with_reducible refine gate_dst (N := 8) rfl ?_); refine box_event ?hg (N := 8) ?hd (cs := #[.int .i64 0, .slice none 0 0]) (t := 24) ?hr ?_; (case hd => rfl); (case hg => rfl); (case hr => first | (go_simp; done) | (go_simp; rfl)); intro gb103 hg w40 hbox hb; have n0_ := aq (Kd.R_below (by (with_reducible repeat (first | apply Kd.R_alloc | apply Kd.R_drewN | apply Kd.R_drew)); exact HO_5.out) hb); have n1_ := aq (blk_below (stB BK101) hb); have n2_ := aq (below_step (stH HB) hb); have n3_ := aq (hbox); have n4_ := aq ((by rw [hg]; exact (below_size (stH HB)) : w.heap.size ≤ gb103)); have n5_ := aq ((by rw [hg]; exact (below_size (stH HB)) : w.heap.size ≤ gb103)); have n6_ := aq ((by rw [hg]; exact Nat.ne_of_lt (blk_lt (stB BK101)) : gb101 ≠ gb103)); have n7_ := aq ((by rw [hg]; exact Nat.ne_of_gt (blk_lt (stB BK101)) : gb103 ≠ gb101)); replace HO_5 := n0_; replace BK101 := n1_; replace HB := n2_; have BK103 := n3_; have GW103 := n4_; have GE103 := n5_; have NB101_103 := n6_; have NB103_101 := n7_; clear n0_ n1_ n2_ n3_ n4_ n5_ n6_ n7_; clear hb hbox hg; have hnb41 := NB103_101.out; have hnc41 := NB101_103.out; obtain ⟨k42a, k42b⟩ := cl2 (W := w40) BK103.out; obtain ⟨u42a, u42b⟩ := fr2 BK103.out) | ((with_reducible refine gate_callee (f := 32) rfl ?_); refine goesL_ (some 62) rfl rfl Try.func32 (by kernel_rfl) rfl #[.agg #[.int .i64 (wrap64 (t102)), .slice Ao39 x5_1.length co39]] rfl fitR ?_; (with_reducible refine (slab_Encode.calls (wrap64 (t102)) _ _ x5_1 t104 t105 _ ?side1 ?side2 A29.out).mono ?_); (case side1 => refine (Kd.R_reads' (e := 33) (base := w.heap.size) (ok := fun k_ => True) (n := x5_1.length) (c := co39) ?_).2.2; exact (by (with_reducible repeat (first | apply Kd.R_alloc | apply Kd.R_drewN | apply Kd.R_drew)); exact (Kd.R_mono (Kd.R_far (p := ⟨gb103, 1, none⟩) (Kd.R_far (p := ⟨gb103, 0, none⟩) (Kd.R_types HO_5.out BK103.out (by decide)) (fun _ hk => hk.2) (.int .i64 (wrap64 (t102)))) (fun _ hk => hk.2) (.slice Ao39 x5_1.length co39)) (fun _ h_ => h_.1)))); (case side2 => exact (Kd.R_reads' HO_5.out).2.1); rintro e w43 ⟨rfl, hb⟩; refine ⟨_, rfl, ?_⟩; have n0_ := aq (Kd.R_below (by (with_reducible repeat (first | apply Kd.R_alloc | apply Kd.R_drewN | apply Kd.R_drew)); exact (Kd.R_mono (Kd.R_far (p := ⟨gb103, 1, none⟩) (Kd.R_far (p := ⟨gb103, 0, none⟩) (Kd.R_types HO_5.out BK103.out (by decide)) (fun _ hk => hk.2) (.int .i64 (wrap64 (t102)))) (fun _ hk => hk.2) (.slice Ao39 x5_1.length co39)) (fun _ h_ => h_.1))) hb); have n1_ := aq (blk_below (g := gb101) (o := .cells #[.int .i64 x102000_1, .slice none 0 0] 24 (0, 0)) (stF BK101) hb); have n2_ := aq (blk_below (g := gb103) (o := .cells #[.int .i64 (wrap64 (t102)), .slice Ao39 x5_1.length co39] 24 (0, 0)) (by (with_reducible repeat (first | refine blk_drewN ?_ _ | refine blk_drew ?_ | refine blk_alloc ?_ _)); refine puts2 (cs := #[.int .i64 0, .slice none 0 0]) rfl ?_; (with_reducible repeat (first | refine blk_drewN ?_ _ | refine blk_drew ?_ | refine blk_alloc ?_ _)); exact BK103.out) hb); have n3_ := aq (below_step (stH HB) hb); replace HO_5 := n0_; replace BK101 := n1_; replace BK103 := n2_; replace HB := n3_; clear n0_ n1_ n2_ n3_; (try clear hb); (try clear hk); obtain ⟨k44a, k44b⟩ := cl2 (W := w43) BK103.out; obtain ⟨u44a, u44b⟩ := fr2 BK103.out; obtain ⟨k45a, k45b⟩ := cl2 (W := w43) BK101.out; obtain ⟨u45a, u45b⟩ := fr2 BK101.out))
            refine bodyPost_ret (results_ct rfl _ _ gb101 24 #[.int .i64 (wrap64 (t102)), .slice Ao39 x5_1.length co39] (0, 0) _ rfl (by (with_reducible repeat (first | refine blk_drewN ?_ _ | refine blk_drew ?_ | refine blk_alloc ?_ _)); refine puts2 (cs := #[.int .i64 x102000_1, .slice none 0 0]) rfl ?_; (with_reducible repeat (first | refine blk_drewN ?_ _ | refine blk_drew ?_ | refine blk_alloc ?_ _)); exact BK101.out) Try.underlying24 rfl (by kernel_rfl)) rfl ?_
            exact ⟨_, eqW, by (with_reducible repeat (first | apply Kd.R_alloc | apply Kd.R_drewN | apply Kd.R_drew)); exact Kd.R_mono (Kd.R_far (p := ⟨gb101, 1, none⟩) (Kd.R_far (p := ⟨gb101, 0, none⟩) (Kd.R_types HO_5.out BK101.out (by decide)) (fun _ hk => hk.2) (.int .i64 (wrap64 (t102)))) (fun _ hk => hk.2) (.slice Ao39 x5_1.length co39)) (fun _ hk => trivial), by repeat (first | (with_reducible first | exact HB.out | apply below_alloc | apply pw_below_drewN | apply below_drew1 | refine below_set ?_ GE101.out | refine below_set ?_ GE103.out) | exact HB.out)⟩
           ·rw [if_neg c38] at H
            have c38b0 : (t104.toList == a0.toList) = false := beq_eq_false_iff_ne.mpr c38
            have c38b1 : (t104.toList != a0.toList) = true := bne_iff_ne.mpr c38
            simp only [Option.some.injEq, Prod.mk.injEq] at H
            obtain ⟨rfl, rfl, rfl⟩ := H
            obtain ⟨Ao46, co46, eo46⟩ := Kd.R_slice HO_5.out
            subst eo46
            go_wp2_with (first | ((with_reducible refine gate_dst (N := 8) rfl ?_); refine box_event ?hg (N := 8) ?hd (cs := #[.int .i64 0, .slice none 0 0]) (t := 24) ?hr ?_; (case hd => rfl); (case hg => rfl); (case hr => first | (go_simp; done) | (go_simp; rfl)); intro gb103 hg w47 hbox hb; have n0_ := aq (Kd.R_below (by (with_reducible repeat (first | apply Kd.R_alloc | apply Kd.R_drewN | apply Kd.R_drew)); exact HO_5.out) hb); have n1_ := aq (blk_below (stB BK101) hb); have n2_ := aq (below_step (stH HB) hb); have n3_ := aq (hbox); have n4_ := aq ((by rw [hg]; exact (below_size (stH HB)) : w.heap.size ≤ gb103)); have n5_ := aq ((by rw [hg]; exact (below_size (stH HB)) : w.heap.size ≤ gb103)); have n6_ := aq ((by rw [hg]; exact Nat.ne_of_lt (blk_lt (stB BK101)) : gb101 ≠ gb103)); have n7_ := aq ((by rw [hg]; exact Nat.ne_of_gt (blk_lt (stB BK101)) : gb103 ≠ gb101)); replace HO_5 := n0_; replace BK101 := n1_; replace HB := n2_; have BK103 := n3_; have GW103 := n4_; have GE103 := n5_; have NB101_103 := n6_; have NB103_101 := n7_; clear n0_ n1_ n2_ n3_ n4_ n5_ n6_ n7_; clear hb hbox hg; have hnb48 := NB103_101.out; have hnc48 := NB101_103.out; obtain ⟨k49a, k49b⟩ := cl2 (W := w47) BK103.out; obtain ⟨u49a, u49b⟩ := fr2 BK103.out) | ((with_reducible refine gate_callee (f := 32) rfl ?_); refine goesL_ (some 62) rfl rfl Try.func32 (by kernel_rfl) rfl #[.agg #[.int .i64 (wrap64 (t102)), .slice Ao46 x5_1.length co46]] rfl fitR ?_; (with_reducible refine (slab_Encode.calls (wrap64 (t102)) _ _ x5_1 t104 t105 _ ?side1 ?side2 A29.out).mono ?_); (case side1 => refine (Kd.R_reads' (e := 33) (base := w.heap.size) (ok := fun k_ => True) (n := x5_1.length) (c := co46) ?_).2.2; exact (by (with_reducible repeat (first | apply Kd.R_alloc | apply Kd.R_drewN | apply Kd.R_drew)); exact (Kd.R_mono (Kd.R_far (p := ⟨gb103, 1, none⟩) (Kd.R_far (p := ⟨gb103, 0, none⟩) (Kd.R_types HO_5.out BK103.out (by decide)) (fun _ hk => hk.2) (.int .i64 (wrap64 (t102)))) (fun _ hk => hk.2) (.slice Ao46 x5_1.length co46)) (fun _ h_ => h_.1)))); (case side2 => exact (Kd.R_reads' HO_5.out).2.1); rintro e w50 ⟨rfl, hb⟩; refine ⟨_, rfl, ?_⟩; have n0_ := aq (Kd.R_below (by (with_reducible repeat (first | apply Kd.R_alloc | apply Kd.R_drewN | apply Kd.R_drew)); exact (Kd.R_mono (Kd.R_far (p := ⟨gb103, 1, none⟩) (Kd.R_far (p := ⟨gb103, 0, none⟩) (Kd.R_types HO_5.out BK103.out (by decide)) (fun _ hk => hk.2) (.int .i64 (wrap64 (t102)))) (fun _ hk => hk.2) (.slice Ao46 x5_1.length co46)) (fun _ h_ => h_.1))) hb); have n1_ := aq (blk_below (g := gb101) (o := .cells #[.int .i64 x102000_1, .slice none 0 0] 24 (0, 0)) (stF BK101) hb); have n2_ := aq (blk_below (g := gb103) (o := .cells #[.int .i64 (wrap64 (t102)), .slice Ao46 x5_1.length co46] 24 (0, 0)) (by (with_reducible repeat (first | refine blk_drewN ?_ _ | refine blk_drew ?_ | refine blk_alloc ?_ _)); refine puts2 (cs := #[.int .i64 0, .slice none 0 0]) rfl ?_; (with_reducible repeat (first | refine blk_drewN ?_ _ | refine blk_drew ?_ | refine blk_alloc ?_ _)); exact BK103.out) hb); have n3_ := aq (below_step (stH HB) hb); replace HO_5 := n0_; replace BK101 := n1_; replace BK103 := n2_; replace HB := n3_; clear n0_ n1_ n2_ n3_; (try clear hb); (try clear hk); obtain ⟨k51a, k51b⟩ := cl2 (W := w50) BK101.out; obtain ⟨u51a, u51b⟩ := fr2 BK101.out))
            refine bodyPost_ret (results_ct rfl _ _ gb101 24 #[.int .i64 0, .slice none 0 0] (0, 0) _ rfl (by (with_reducible repeat (first | refine blk_drewN ?_ _ | refine blk_drew ?_ | refine blk_alloc ?_ _)); refine puts2 (cs := #[.int .i64 x102000_1, .slice none 0 0]) rfl ?_; (with_reducible repeat (first | refine blk_drewN ?_ _ | refine blk_drew ?_ | refine blk_alloc ?_ _)); exact BK101.out) Try.underlying24 rfl (by kernel_rfl)) rfl ?_
            exact ⟨_, eqW, by first | exact Kd.R_nil _ _ _ _ _ | exact Kd.N_nil _ _ _ _ _ | exact Kd.V_nil _ _ _ _ _ | exact Kd.Q_nil _ _ _ _ _ | exact Kd.S_nil _ _ _ _ _, by repeat (first | (with_reducible first | exact HB.out | apply below_alloc | apply pw_below_drewN | apply below_drew1 | refine below_set ?_ GE101.out | refine below_set ?_ GE103.out) | exact HB.out)⟩
          ·rw [if_neg c37] at H
           have c37b0 : (t105 == 0) = false := beq_eq_false_iff_ne.mpr c37
           have c37b1 : (t105 != 0) = true := bne_iff_ne.mpr c37
           simp only [Option.some.injEq, Prod.mk.injEq] at H
           obtain ⟨rfl, rfl, rfl⟩ := H
           obtain ⟨Ao52, co52, eo52⟩ := Kd.R_slice HO_5.out
           subst eo52
           go_wp2_with (first | ((with_reducible refine gate_dst (N := 8) rfl ?_); refine box_event ?hg (N := 8) ?hd (cs := #[.int .i64 0, .slice none 0 0]) (t := 24) ?hr ?_; (case hd => rfl); (case hg => rfl); (case hr => first | (go_simp; done) | (go_simp; rfl)); intro gb103 hg w53 hbox hb; have n0_ := aq (Kd.R_below (by (with_reducible repeat (first | apply Kd.R_alloc | apply Kd.R_drewN | apply Kd.R_drew)); exact HO_5.out) hb); have n1_ := aq (blk_below (stB BK101) hb); have n2_ := aq (below_step (stH HB) hb); have n3_ := aq (hbox); have n4_ := aq ((by rw [hg]; exact (below_size (stH HB)) : w.heap.size ≤ gb103)); have n5_ := aq ((by rw [hg]; exact (below_size (stH HB)) : w.heap.size ≤ gb103)); have n6_ := aq ((by rw [hg]; exact Nat.ne_of_lt (blk_lt (stB BK101)) : gb101 ≠ gb103)); have n7_ := aq ((by rw [hg]; exact Nat.ne_of_gt (blk_lt (stB BK101)) : gb103 ≠ gb101)); replace HO_5 := n0_; replace BK101 := n1_; replace HB := n2_; have BK103 := n3_; have GW103 := n4_; have GE103 := n5_; have NB101_103 := n6_; have NB103_101 := n7_; clear n0_ n1_ n2_ n3_ n4_ n5_ n6_ n7_; clear hb hbox hg; have hnb54 := NB103_101.out; have hnc54 := NB101_103.out; obtain ⟨k55a, k55b⟩ := cl2 (W := w53) BK103.out; obtain ⟨u55a, u55b⟩ := fr2 BK103.out) | ((with_reducible refine gate_callee (f := 32) rfl ?_); refine goesL_ (some 62) rfl rfl Try.func32 (by kernel_rfl) rfl #[.agg #[.int .i64 (wrap64 (t102)), .slice Ao52 x5_1.length co52]] rfl fitR ?_; (with_reducible refine (slab_Encode.calls (wrap64 (t102)) _ _ x5_1 t104 t105 _ ?side1 ?side2 A29.out).mono ?_); (case side1 => refine (Kd.R_reads' (e := 33) (base := w.heap.size) (ok := fun k_ => True) (n := x5_1.length) (c := co52) ?_).2.2; exact (by (with_reducible repeat (first | apply Kd.R_alloc | apply Kd.R_drewN | apply Kd.R_drew)); exact (Kd.R_mono (Kd.R_far (p := ⟨gb103, 1, none⟩) (Kd.R_far (p := ⟨gb103, 0, none⟩) (Kd.R_types HO_5.out BK103.out (by decide)) (fun _ hk => hk.2) (.int .i64 (wrap64 (t102)))) (fun _ hk => hk.2) (.slice Ao52 x5_1.length co52)) (fun _ h_ => h_.1)))); (case side2 => exact (Kd.R_reads' HO_5.out).2.1); rintro e w56 ⟨rfl, hb⟩; refine ⟨_, rfl, ?_⟩; have n0_ := aq (Kd.R_below (by (with_reducible repeat (first | apply Kd.R_alloc | apply Kd.R_drewN | apply Kd.R_drew)); exact (Kd.R_mono (Kd.R_far (p := ⟨gb103, 1, none⟩) (Kd.R_far (p := ⟨gb103, 0, none⟩) (Kd.R_types HO_5.out BK103.out (by decide)) (fun _ hk => hk.2) (.int .i64 (wrap64 (t102)))) (fun _ hk => hk.2) (.slice Ao52 x5_1.length co52)) (fun _ h_ => h_.1))) hb); have n1_ := aq (blk_below (g := gb101) (o := .cells #[.int .i64 x102000_1, .slice none 0 0] 24 (0, 0)) (stF BK101) hb); have n2_ := aq (blk_below (g := gb103) (o := .cells #[.int .i64 (wrap64 (t102)), .slice Ao52 x5_1.length co52] 24 (0, 0)) (by (with_reducible repeat (first | refine blk_drewN ?_ _ | refine blk_drew ?_ | refine blk_alloc ?_ _)); refine puts2 (cs := #[.int .i64 0, .slice none 0 0]) rfl ?_; (with_reducible repeat (first | refine blk_drewN ?_ _ | refine blk_drew ?_ | refine blk_alloc ?_ _)); exact BK103.out) hb); have n3_ := aq (below_step (stH HB) hb); replace HO_5 := n0_; replace BK101 := n1_; replace BK103 := n2_; replace HB := n3_; clear n0_ n1_ n2_ n3_; (try clear hb); (try clear hk); obtain ⟨k57a, k57b⟩ := cl2 (W := w56) BK101.out; obtain ⟨u57a, u57b⟩ := fr2 BK101.out))
           refine bodyPost_ret (results_ct rfl _ _ gb101 24 #[.int .i64 0, .slice none 0 0] (0, 0) _ rfl (by (with_reducible repeat (first | refine blk_drewN ?_ _ | refine blk_drew ?_ | refine blk_alloc ?_ _)); refine puts2 (cs := #[.int .i64 x102000_1, .slice none 0 0]) rfl ?_; (with_reducible repeat (first | refine blk_drewN ?_ _ | refine blk_drew ?_ | refine blk_alloc ?_ _)); exact BK101.out) Try.underlying24 rfl (by kernel_rfl)) rfl ?_
           exact ⟨_, eqW, by first | exact Kd.R_nil _ _ _ _ _ | exact Kd.N_nil _ _ _ _ _ | exact Kd.V_nil _ _ _ _ _ | exact Kd.Q_nil _ _ _ _ _ | exact Kd.S_nil _ _ _ _ _, by repeat (first | (with_reducible first | exact HB.out | apply below_alloc | apply pw_below_drewN | apply below_drew1 | refine below_set ?_ GE101.out | refine below_set ?_ GE103.out) | exact HB.out)⟩
     ·rw [if_neg c7] at H
      exact absurd H (by simp)
    ·rw [if_neg c6] at H
     exact absurd H (by simp)
   ·rw [if_neg c4] at H
    exact absurd H (by simp)
  ·rw [if_neg c3] at H
   exact absurd H (by simp)
 ·rw [if_neg c2] at H
  have c2b0 : ((a0.size : Int) == 240) = false := beq_eq_false_iff_ne.mpr c2
  have c2b1 : ((a0.size : Int) != 240) = true := bne_iff_ne.mpr c2
  simp only [Option.some.injEq, Prod.mk.injEq] at H
  obtain ⟨rfl, rfl, rfl⟩ := H
  go_enter Try.func73, Try.ntmps73
  go_wp2_with (first | ((with_reducible refine gate_dst (N := 2) rfl ?_); refine box_event ?hg (N := 2) ?hd (cs := #[.int .i64 0, .slice none 0 0]) (t := 24) ?hr ?_; (case hd => rfl); (case hg => rfl); (case hr => first | (go_simp; done) | (go_simp; rfl)); intro gb101 hg w58 hbox hb; have n0_ := aq (below_step (stH HB) hb); have n1_ := aq (hbox); have n2_ := aq ((by rw [hg]; exact (below_size (stH HB)) : w.heap.size ≤ gb101)); have n3_ := aq ((by rw [hg]; exact (below_size (stH HB)) : w.heap.size ≤ gb101)); replace HB := n0_; have BK101 := n1_; have GW101 := n2_; have GE101 := n3_; clear n0_ n1_ n2_ n3_; clear hb hbox hg; obtain ⟨k59a, k59b⟩ := cl2 (W := w58) BK101.out; obtain ⟨u59a, u59b⟩ := fr2 BK101.out))
  refine bodyPost_ret (results_ct rfl _ _ gb101 24 #[.int .i64 0, .slice none 0 0] (0, 0) _ rfl (by (with_reducible repeat (first | refine blk_drewN ?_ _ | refine blk_drew ?_ | refine blk_alloc ?_ _)); refine puts2 (cs := #[.int .i64 0, .slice none 0 0]) rfl ?_; (with_reducible repeat (first | refine blk_drewN ?_ _ | refine blk_drew ?_ | refine blk_alloc ?_ _)); exact BK101.out) Try.underlying24 rfl (by kernel_rfl)) rfl ?_
  exact ⟨_, eqW, by first | exact Kd.R_nil _ _ _ _ _ | exact Kd.N_nil _ _ _ _ _ | exact Kd.V_nil _ _ _ _ _ | exact Kd.Q_nil _ _ _ _ _ | exact Kd.S_nil _ _ _ _ _, by repeat (first | (with_reducible first | exact HB.out | apply below_alloc | apply pw_below_drewN | apply below_drew1 | refine below_set ?_ GE101.out) | exact HB.out)⟩
end Go.Proofs.Ytfjmnaobfbmllaa.M
namespace Go.Proofs.Ytfjmnaobfbmllaa.M
open Go.RowKit Go.Proofs.YtfjmnaobfbmllaaW.PrintWords Go.Proofs.YtfjmnaobfbmllaaW.PrintLast Go.Proofs.YtfjmnaobfbmllaaW.PrintMore
set_option linter.unusedVariables false
set_option linter.unusedSimpArgs false
def parseB : Nat → List Int → Option (List S33 × List Int)
  | 0, bs => some ([], bs)
  | _ + 1, [] => none
  | n + 1, b :: bs => if b = 255 then (parseB n bs).map (fun r => (z33 :: r.1, r.2)) else if (bs.length : Int) < b then none
      else (parseB n (bs.drop b.toNat)).map (fun r => (⟨true, strOfNums (bs.take b.toNat)⟩ :: r.1, r.2))
theorem parse_enc (l : List S33) (hf : ∀ x ∈ l, fineS x) (rest : List Int) : parseB l.length (slotsB l ++ rest) = some (l, rest) := by
  induction l with
  | nil => rfl
  | cons x l ih =>
    have ih := ih (fun y hy => hf y (by simp [hy]))
    have hx := hf x (by simp)
    rw [slotsB_cons, List.append_assoc, List.length_cons]
    cases hu : x.f0 with
    | false =>
      have hz := hx.1 hu
      have hsb : slotB x = [255] := by unfold slotB; simp [hu]
      rw [hsb]
      show parseB (l.length + 1) (255 :: (slotsB l ++ rest)) = _
      simp only [parseB]
      rw [if_pos trivial, ih, hz]; rfl
    | true =>
      have hsb : slotB x = (x.f1.size : Int) :: bytesOf x.f1 := by unfold slotB; simp [hu]
      rw [hsb]
      show parseB (l.length + 1) ((x.f1.size : Int) :: (bytesOf x.f1 ++ (slotsB l ++ rest))) = _
      have hl := bytesOf_length x.f1
      have c1 : ¬ (x.f1.size : Int) = 255 := by have := hx.2; omega
      have c2 : ¬ (((bytesOf x.f1 ++ (slotsB l ++ rest)).length : Nat) : Int) < (x.f1.size : Int) := by rw [List.length_append]; omega
      simp only [parseB]
      rw [if_neg c1, if_neg c2, Int.toNat_natCast, List.drop_left' hl, List.take_left' hl, ih, str_bytes]
      show some (_ :: l, rest) = _
      rw [← hu]
theorem enc_size {a : Int} {l : List S33} (hg : goodP a l = true) : (encB a l).size = 240 := by
  have := enc_len hg
  have h6 := (good_facts a l hg).2.2.2.2.2
  unfold encB
  rw [strOfNums_size, padL_length _ (by omega)]
theorem encL_range {a : Int} {l : List S33} (hl : l.length ≤ 32) (hf : ∀ x ∈ l, fineS x) : ∀ x ∈ padL (encL a l), 0 ≤ x ∧ x ≤ 255 := by
  intro x hx
  unfold padL encL at hx
  rw [List.mem_append, List.mem_append, List.mem_cons] at hx
  rcases hx with (hx | rfl | hx) | hx
  · exact hiL_range 8 a x hx
  · omega
  · unfold slotsB at hx
    rw [List.mem_flatMap] at hx
    obtain ⟨y, hy, hx⟩ := hx
    unfold slotB at hx
    split at hx
    · rw [List.mem_cons] at hx
      rcases hx with rfl | hx
      · have := (hf y hy).2; omega
      · exact bytesOf_range _ x hx
    · rw [List.mem_singleton] at hx; omega
  · rw [List.mem_replicate] at hx; omega
theorem bytes_enc {a : Int} {l : List S33} (hg : goodP a l = true) : bytesOf (encB a l) = padL (encL a l) := by
  obtain ⟨_, _, h3, h4, _, _⟩ := (good_iff a l).mp hg
  exact bytesOf_strOfNums _ (encL_range h3 h4)
def IsDec (s : ByteArray) (r : Int × List S33 × Int) : Prop :=
  (goodP r.1 r.2.1 = true ∧ encB r.1 r.2.1 = s ∧ r.2.2 = 0) ∨ ((∀ a l, goodP a l = true → encB a l ≠ s) ∧ r = (0, [], 4))
def finD (s : ByteArray) (n : Int) (l : List S33) : Option (Int × List S33 × Int) :=
  some (if n > 1099511627776 then (0, [], 4) else if goodP (wrap64 n) l = true ∧ encB (wrap64 n) l = s then (wrap64 n, l, 0) else (0, [], 4))
theorem dec_fin (s : ByteArray) (n : Int) (l : List S33) (rest : ByteArray) (c i : Int) (h : ¬ i < c) (k : Nat) : slab_Decode.l0 (k + 1) s n l rest c i = finD s n l := by
  simp only [slab_Decode.l0]
  rw [if_neg h]
  unfold slab_Encode.f finD
  by_cases hg : goodP (wrap64 n) l = true
  · rw [if_pos hg, Option.bind_some]
    by_cases h1 : n > 1099511627776
    · rw [if_pos h1, if_pos h1]
    · rw [if_neg h1, if_neg h1]
      by_cases h2 : encB (wrap64 n) l = s
      · have h3 : (strOfNums (padL (encL (wrap64 n) l))).toList = s.toList := ba_inj.mpr h2
        rw [if_pos rfl, if_pos h3, if_pos ⟨hg, h2⟩]
      · have h3 : ¬ (strOfNums (padL (encL (wrap64 n) l))).toList = s.toList := fun e => h2 (ba_inj.mp e)
        rw [if_pos rfl, if_neg h3, if_neg (fun e => h2 e.2)]
  · rw [if_neg hg, Option.bind_some]
    by_cases h1 : n > 1099511627776
    · rw [if_pos h1, if_pos h1]
    · rw [if_neg h1, if_neg h1, if_neg (by decide), if_neg (fun e => hg e.1)]
theorem dec_loop (s : ByteArray) (n : Int) (c : Nat) (hc : c ≤ 255) (d : Nat) : ∀ (k i : Nat) (acc : List S33) (rest : ByteArray), i + d = c → d < k → acc.length ≤ i → rest.size ≤ 240 →
    slab_Decode.l0 k s n acc rest c i = match parseB d (bytesOf rest) with
      | none => some (0, [], 4)
      | some (l, _) => finD s n (acc ++ l) := by
  induction d with
  | zero =>
    intro k i acc rest hi hk ha hs
    obtain ⟨k, rfl⟩ : ∃ m, k = m + 1 := ⟨k - 1, by omega⟩
    rw [dec_fin s n acc rest c i (by omega) k]
    simp [parseB]
  | succ d ih =>
    intro k i acc rest hi hk ha hs
    obtain ⟨k, rfl⟩ : ∃ m, k = m + 1 := ⟨k - 1, by omega⟩
    have c1 : (i : Int) < (c : Int) := by omega
    simp only [slab_Decode.l0]
    rw [if_pos c1]
    by_cases he : rest.toList = []
    · rw [if_pos he, (ba_nil rest).mp he, bytes_nil]; rfl
    · have hp : 0 < rest.size := by
        rcases Nat.eq_zero_or_pos rest.size with h | h
        · exact absurd (by rw [ByteArray.toList_eq]; exact List.eq_nil_of_length_eq_zero (by rw [data_length]; exact h)) he
        · exact h
      have c2 : 0 < (rest.size : Int) := by omega
      have c3 : 1 ≤ (rest.size : Int) := by omega
      have hr := bt_range rest 0
      have hw : wrap64 (bt rest 0) = bt rest 0 := w64 _ (by omega) (by omega)
      have hb : bytesOf rest = bt rest 0 :: (bytesOf rest).drop 1 := by
        have := drop_step rest 0 hp
        simpa using this
      have hd : bytesOf (rest.extract 1 rest.size) = (bytesOf rest).drop 1 := bytes_drop rest 1
      have hds : (rest.extract 1 rest.size).size = rest.size - 1 := by simp [ByteArray.size_extract]
      have hi1 : ((i : Int) + 1) % 256 = ((i + 1 : Nat) : Int) := by omega
      have ha2 : acc.length < 5864062014805 := by omega
      rw [if_neg he, if_pos c2, if_pos c3, hw, hi1]
      by_cases h255 : bt rest 0 = 255
      · rw [if_pos h255, if_pos ha2, ih k (i + 1) _ _ (by omega) (by omega) (by simp; omega) (by rw [hds]; omega), hd]
        conv => rhs; rw [hb]
        simp only [parseB]
        rw [if_pos h255]
        cases parseB d (List.drop 1 (bytesOf rest)) with
        | none => rfl
        | some r => simp [z33]
      · rw [if_neg h255]
        conv => rhs; rw [hb]
        simp only [parseB]
        rw [if_neg h255]
        have hlen : ((List.drop 1 (bytesOf rest)).length : Int) = ((rest.extract 1 rest.size).size : Int) := by rw [← hd, bytesOf_length]
        rw [hlen]
        by_cases hbig : bt rest 0 > ((rest.extract 1 rest.size).size : Int)
        · have hbig2 : ((rest.extract 1 rest.size).size : Int) < bt rest 0 := hbig
          rw [if_pos hbig, if_pos hbig2]
        · have hbig2 : ¬ ((rest.extract 1 rest.size).size : Int) < bt rest 0 := hbig
          have c4 : bt rest 0 ≤ ((rest.extract 1 rest.size).size : Int) := by omega
          rw [if_neg hbig, if_neg hbig2, if_pos hr.1, if_pos c4, if_pos ha2]
          have hx : bytesOf ((rest.extract 1 rest.size).extract (bt rest 0).toNat (rest.extract 1 rest.size).size) = ((bytesOf rest).drop 1).drop (bt rest 0).toNat := by rw [bytes_drop, hd]
          have hy : (rest.extract 1 rest.size).extract 0 (bt rest 0).toNat = strOfNums (((bytesOf rest).drop 1).take (bt rest 0).toNat) := by
            rw [← hd]
            apply bytes_inj
            rw [bytes_extract, List.drop_zero, Nat.sub_zero, bytesOf_strOfNums]
            exact fun x hx => bytesOf_range _ x (List.mem_of_mem_take hx)
          rw [ih k (i + 1) _ _ (by omega) (by omega) (by simp; omega) (by simp [ByteArray.size_extract]; omega), hx, hy]
          cases parseB d (List.drop (bt rest 0).toNat (List.drop 1 (bytesOf rest))) with
          | none => rfl
          | some r => simp
theorem dec_size {s : ByteArray} (h : s.size ≠ 240) : IsDec s (0, [], 4) := .inr ⟨fun a l hg he => h (by rw [← he]; exact enc_size hg), rfl⟩
theorem bytes240 {s : ByteArray} (h : s.size = 240) : bytesOf s = (bytesOf s).take 8 ++ bt s 8 :: (bytesOf s).drop 9 := by
  have h1 := List.take_append_drop 8 (bytesOf s)
  rw [drop_step s 8 (by omega)] at h1
  exact h1.symm
theorem split8 {xs ys : List Int} {x y : Int} {l m : List Int} (h : xs ++ x :: l = ys ++ y :: m) (hl : xs.length = ys.length) : xs = ys ∧ x = y ∧ l = m := by
  have := List.append_inj h hl
  exact ⟨this.1, (List.cons.inj this.2).1, (List.cons.inj this.2).2⟩
theorem enc_read {a : Int} {l : List S33} {s : ByteArray} (hg : goodP a l = true) (he : encB a l = s) (hs : s.size = 240) :
    (bytesOf s).take 8 = hiL 8 a ∧ bt s 8 = l.length ∧ (bytesOf s).drop 9 = slotsB l ++ List.replicate (240 - (encL a l).length) 0 := by
  have h1 := bytes240 hs
  have h2 : bytesOf s = hiL 8 a ++ (l.length : Int) :: (slotsB l ++ List.replicate (240 - (encL a l).length) 0) := by
    rw [← he, bytes_enc hg]; unfold padL encL; rw [List.append_assoc, List.cons_append]
  rw [h2] at h1
  have := split8 h1 (by rw [hiL_length, ← h2, List.length_take, bytesOf_length]; omega)
  rw [← h2] at this
  exact ⟨this.1.symm, this.2.1.symm, this.2.2.symm⟩
theorem hi_num {a : Int} (h0 : 0 ≤ a) (h1 : a ≤ 1099511627776) : getN (hiL 8 a) = a := by
  rw [getN_hiL]; exact Int.emod_eq_of_lt h0 (by omega)
theorem dec_pure (s : ByteArray) (k : Nat) (hk : 256 < k) : ∃ r, slab_Decode.f k s = some r ∧ IsDec s r := by
  unfold slab_Decode.f
  by_cases hs : s.size = 240
  · have c0 : (s.size : Int) = 240 := by omega
    have c1 : (8 : Int) ≤ (s.size : Int) := by omega
    have c2 : (9 : Int) ≤ (s.size : Int) := by omega
    have c3 : (8 : Int) < (s.size : Int) := by omega
    have hh : high_Get.f (s.extract 0 8) = some (getN ((bytesOf s).take 8)) := by
      unfold high_Get.f
      rw [if_pos (by simp [ByteArray.size_extract]; omega), bytes_extract, List.drop_zero]
    rw [if_pos c0, if_pos (by decide), if_pos c1, hh, Option.bind_some, if_pos c2, if_pos c3]
    obtain ⟨c, hc⟩ := Int.eq_ofNat_of_zero_le (bt_range s 8).1
    have hc2 := (bt_range s 8).2
    rw [hc]
    have hl := dec_loop s (getN ((bytesOf s).take 8)) c (by omega) c k 0 [] (s.extract 9 s.size) (by omega) (by omega) (by simp) (by simp [ByteArray.size_extract]; omega)
    rw [Int.natCast_zero] at hl
    rw [hl, bytes_drop]
    cases hp : parseB c ((bytesOf s).drop 9) with
    | none =>
      refine ⟨_, rfl, .inr ⟨fun a l hg he => ?_, rfl⟩⟩
      obtain ⟨h1, h2, h3⟩ := enc_read hg he hs
      have := parse_enc l (((good_iff a l).mp hg).2.2.2.1) (List.replicate (240 - (encL a l).length) 0)
      rw [← h3, show l.length = c by omega, hp] at this
      cases this
    | some r =>
      obtain ⟨l, rest⟩ := r
      refine ⟨_, rfl, ?_⟩
      show IsDec s (if _ then _ else if _ then _ else _)
      rw [List.nil_append]
      have full : ∀ a m, goodP a m = true → encB a m = s → getN ((bytesOf s).take 8) = a ∧ m = l := by
        intro a m hg he
        obtain ⟨h1, h2, h3⟩ := enc_read hg he hs
        have := parse_enc m (((good_iff a m).mp hg).2.2.2.1) (List.replicate (240 - (encL a m).length) 0)
        rw [← h3, show m.length = c by omega, hp, Option.some.injEq, Prod.mk.injEq] at this
        have hg2 := (good_iff a m).mp hg
        exact ⟨by rw [h1, hi_num hg2.1 hg2.2.1], this.1.symm⟩
      have hbad : (¬ (goodP (getN ((bytesOf s).take 8)) l = true ∧ encB (getN ((bytesOf s).take 8)) l = s)) → IsDec s (0, [], 4) := fun hn =>
        .inr ⟨fun a m hg he => by
          obtain ⟨e1, e2⟩ := full a m hg he
          exact hn (by rw [e1, ← e2]; exact ⟨hg, he⟩), rfl⟩
      by_cases hbig : getN ((bytesOf s).take 8) > 1099511627776
      · rw [if_pos hbig]
        exact hbad (fun h => by have := ((good_iff _ _).mp h.1).2.1; omega)
      · have h0 := (getN_take (bytesOf s) (bytesOf_range s) 8 (by rw [bytesOf_length]; omega)).1
        rw [if_neg hbig, w64 _ (by omega) (by omega)]
        by_cases hg : goodP (getN ((bytesOf s).take 8)) l = true ∧ encB (getN ((bytesOf s).take 8)) l = s
        · rw [if_pos hg]; exact .inl ⟨hg.1, hg.2, rfl⟩
        · rw [if_neg hg]; exact hbad hg
  · have c0 : ¬ (s.size : Int) = 240 := by omega
    rw [if_neg c0]
    exact ⟨_, rfl, dec_size hs⟩
theorem enc_inj {a b : Int} {l m : List S33} (hl : goodP a l = true) (hm : goodP b m = true) (h : encB a l = encB b m) : a = b ∧ l = m := by
  obtain ⟨h1, h2, h3⟩ := enc_read hl rfl (enc_size hl)
  obtain ⟨g1, g2, g3⟩ := enc_read hm rfl (enc_size hm)
  have fl := (good_iff a l).mp hl
  have fm := (good_iff b m).mp hm
  rw [← h] at g1 g2 g3
  refine ⟨by rw [← hi_num fl.1 fl.2.1, ← h1, g1, hi_num fm.1 fm.2.1], ?_⟩
  have p1 := parse_enc l fl.2.2.2.1 (List.replicate (240 - (encL a l).length) 0)
  have p2 := parse_enc m fm.2.2.2.1 (List.replicate (240 - (encL b m).length) 0)
  rw [← h3] at p1
  rw [← g3, show m.length = l.length by omega, p1, Option.some.injEq, Prod.mk.injEq] at p2
  exact p2.1
theorem isDec_one {s : ByteArray} {r q : Int × List S33 × Int} (h : IsDec s r) (h2 : IsDec s q) : r = q := by
  obtain ⟨a, l, e⟩ := r
  obtain ⟨b, m, f⟩ := q
  rcases h with ⟨h1, h3, h4⟩ | ⟨h1, h3⟩ <;> rcases h2 with ⟨g1, g3, g4⟩ | ⟨g1, g3⟩
  · have := enc_inj h1 g1 (h3.trans g3.symm)
    simp only at h4 g4 this
    rw [this.1, this.2, h4, g4]
  · exact absurd h3 (g1 _ _ h1)
  · exact absurd g3 (h1 _ _ g1)
  · rw [h3, g3]
def decP (s : ByteArray) : Int × List S33 × Int := (slab_Decode.f 257 s).getD (0, [], 4)
theorem dec_eq (s : ByteArray) : slab_Decode.f 257 s = some (decP s) := by
  obtain ⟨r, h, _⟩ := dec_pure s 257 (by decide)
  unfold decP; rw [h]; rfl
theorem decP_is (s : ByteArray) : IsDec s (decP s) := by
  obtain ⟨r, h, h2⟩ := dec_pure s 257 (by decide)
  unfold decP; rw [h]; exact h2
def slabDec.f (s : ByteArray) : Option (Int × List S33 × Int) := some (decP s)
theorem slabDec.calls (s : ByteArray) (r1 : Int) (r2 : List S33) (r3 : Int) (w : World) (h : slabDec.f s = some (r1, r2, r3)) :
    Calls Try.prog 73 #[.string s] w fun e w' => ∃ v1_ : Value, e = .returned (.tuple #[.agg #[.int .i64 r1, v1_], .int .i64 r3]) ∧ Kd.R k33 33 w' w.heap.size (fun _ => True) v1_ r2 ∧ Below w.heap.size w w' :=
  slab_Decode.calls 257 s r1 r2 r3 w (by rw [dec_eq]; exact h)
end Go.Proofs.Ytfjmnaobfbmllaa.M
namespace Go.Proofs.Ytfjmnaobfbmllaa.M
open Go.RowKit Go.Proofs.YtfjmnaobfbmllaaW.PrintWords Go.Proofs.YtfjmnaobfbmllaaW.PrintLast Go.Proofs.YtfjmnaobfbmllaaW.PrintMore
set_option linter.unusedVariables false
set_option linter.unusedSimpArgs false
def zM : S55 := ⟨0, 0, false, false, 0, ⟨0, 0, 0⟩, ⟨0, []⟩, []⟩
def bI (b : Bool) : Int := if b then 1 else 0
def on (f : Bool) (l : List Int) : List Int := if f then l else []
abbrev shM (x : S55) : Bool × Bool × Bool × Bool × Bool × Bool × Bool := shP x.f0 x.f3
def leastM (k : Int) : Int := if k = 13 then 0 else 1
def GoodM (x : S55) : Prop :=
  (1 ≤ x.f0 ∧ x.f0 ≤ 13) ∧
  (if (shM x).1 = true then 0 ≤ x.f1 ∧ x.f1 ≤ 1023 else x.f1 = 0) ∧
  ((shM x).2.1 = false → x.f2 = false) ∧
  ((shM x).2.2.1 = false → x.f3 = false) ∧
  (if (shM x).2.2.2.1 = true then KnownP x.f5.f0 x.f5.f1 x.f5.f2 else x.f5.f0 = 0 ∧ x.f5.f1 = 0 ∧ x.f5.f2 = 0) ∧
  (if (shM x).2.2.2.2.1 = true then leastM x.f0 ≤ x.f4 ∧ x.f4 ≤ 1048576 else x.f4 = 0) ∧
  (if (shM x).2.2.2.2.2.1 = true then goodP x.f6.f0 x.f6.f1 = true else x.f6.f0 = 0 ∧ x.f6.f1 = []) ∧
  (if (shM x).2.2.2.2.2.2 = true then 1 ≤ x.f7.length ∧ x.f7.length ≤ 16 else x.f7 = []) ∧
  x.f7.any badE = false
instance decGoodM (x : S55) : Decidable (GoodM x) := by unfold GoodM; infer_instance
def bodyM (x : S55) : List Int :=
  intB x.f0 ++ (on (shM x).1 (intB x.f1) ++ (on (shM x).2.1 (intB (bI x.f2)) ++ (on (shM x).2.2.1 (intB (bI x.f3)) ++
  (on (shM x).2.2.2.1 (intB x.f5.f0 ++ (intB x.f5.f1 ++ intB x.f5.f2)) ++ (on (shM x).2.2.2.2.1 (intB x.f4) ++
  (on (shM x).2.2.2.2.2.1 (padL (encL x.f6.f0 x.f6.f1)) ++ on (shM x).2.2.2.2.2.2 (intB x.f7.length ++ x.f7.flatMap encE)))))))
theorem on_all {p : Int → Prop} {f : Bool} {l : List Int} (h : f = true → ∀ b ∈ l, p b) : ∀ b ∈ on f l, p b := by
  intro b hb
  cases f with
  | true => exact h rfl b hb
  | false => simp [on] at hb
theorem on_len {f : Bool} {l : List Int} {n : Nat} (h : f = true → l.length ≤ n) : (on f l).length ≤ n := by
  cases f with
  | true => exact h rfl
  | false => simp [on]
theorem app_all {p : Int → Prop} {l m : List Int} (h : ∀ b ∈ l, p b) (h2 : ∀ b ∈ m, p b) : ∀ b ∈ l ++ m, p b := by
  intro b hb
  rcases List.mem_append.mp hb with h3 | h3
  · exact h b h3
  · exact h2 b h3
theorem any_bad {l : List S65} (h : l.any badE = false) : ∀ e ∈ l, GoodE e := by
  intro e he
  rw [List.any_eq_false] at h
  have := h e he
  unfold badE at this
  simpa using this
theorem bI_small (b : Bool) : small (bI b) := by cases b <;> exact ⟨by decide, by decide⟩
theorem known_small {c e n : Int} (h : KnownP c e n) : small c ∧ small e ∧ small n := by
  obtain ⟨h1, h2, h3, h4, h5, h6⟩ := h
  exact ⟨⟨by omega, by omega⟩, ⟨by omega, by omega⟩, ⟨by omega, by omega⟩⟩
theorem least_zero (k : Int) : 0 ≤ leastM k := by unfold leastM; split <;> decide
theorem flat_good (l : List S65) (h : ∀ e ∈ l, GoodE e) : ∀ b ∈ l.flatMap encE, 0 ≤ b ∧ b ≤ 255 := by
  intro b hb
  obtain ⟨e, he, h2⟩ := List.mem_flatMap.mp hb
  exact encE_range (h e he) b h2
theorem flatE_len (l : List S65) (h : ∀ e ∈ l, GoodE e) : (l.flatMap encE).length ≤ 600 * l.length := by
  induction l with
  | nil => simp
  | cons x l ih =>
    have := ih (fun e he => h e (by simp [he]))
    have := encE_len (h x (by simp))
    rw [List.flatMap_cons, List.length_append, List.length_cons]
    omega
theorem good_parts {x : S55} (h : GoodM x) : small x.f0 ∧ ((shM x).1 = true → small x.f1) ∧ ((shM x).2.2.2.1 = true → small x.f5.f0 ∧ small x.f5.f1 ∧ small x.f5.f2) ∧ ((shM x).2.2.2.2.1 = true → small x.f4) ∧ ((shM x).2.2.2.2.2.1 = true → goodP x.f6.f0 x.f6.f1 = true) ∧ ((shM x).2.2.2.2.2.2 = true → 1 ≤ x.f7.length ∧ x.f7.length ≤ 16) ∧ ∀ e ∈ x.f7, GoodE e := by
  obtain ⟨h0, h1, h2, h3, h5, h4, h6, h7, h8⟩ := h
  have hz := least_zero x.f0
  refine ⟨⟨by omega, by omega⟩, ?_, ?_, ?_, ?_, ?_, any_bad h8⟩
  · intro e; rw [if_pos e] at h1; exact ⟨by omega, by omega⟩
  · intro e; rw [if_pos e] at h5; exact known_small h5
  · intro e; rw [if_pos e] at h4; exact ⟨by omega, by omega⟩
  · intro e; rw [if_pos e] at h6; exact h6
  · intro e; rw [if_pos e] at h7; exact h7
theorem padGood {a : Int} {l : List S33} (hg : goodP a l = true) : ∀ b ∈ padL (encL a l), 0 ≤ b ∧ b ≤ 255 := by
  have h := good_iff a l |>.mp hg
  exact encL_range h.2.2.1 h.2.2.2.1
theorem padGood_len {a : Int} {l : List S33} (hg : goodP a l = true) : (padL (encL a l)).length = 240 := by
  have h := enc_size hg
  unfold encB at h
  rw [strOfNums_size] at h
  exact h
theorem intLen (n : Int) : (intB n).length ≤ 11 := (intB_len n).2
theorem bodyM_len {x : S55} (h : GoodM x) : 1 ≤ (bodyM x).length ∧ (bodyM x).length ≤ 10000 := by
  obtain ⟨p0, p1, p5, p4, p6, p7, p8⟩ := good_parts h
  unfold bodyM
  simp only [List.length_append]
  have h0 := intB_len x.f0
  have h1 := on_len (f := (shM x).1) (l := intB x.f1) (fun _ => intLen _)
  have h2 := on_len (f := (shM x).2.1) (l := intB (bI x.f2)) (fun _ => intLen _)
  have h3 := on_len (f := (shM x).2.2.1) (l := intB (bI x.f3)) (fun _ => intLen _)
  have h4 := on_len (f := (shM x).2.2.2.1) (l := intB x.f5.f0 ++ (intB x.f5.f1 ++ intB x.f5.f2)) (n := 33) (fun _ => by
    have := intLen x.f5.f0; have := intLen x.f5.f1; have := intLen x.f5.f2
    simp only [List.length_append]; omega)
  have h5 := on_len (f := (shM x).2.2.2.2.1) (l := intB x.f4) (fun _ => intLen _)
  have h6 := on_len (f := (shM x).2.2.2.2.2.1) (l := padL (encL x.f6.f0 x.f6.f1)) (n := 240) (fun e => Nat.le_of_eq (padGood_len (p6 e)))
  have h7 := on_len (f := (shM x).2.2.2.2.2.2) (l := intB x.f7.length ++ x.f7.flatMap encE) (n := 9611) (fun e => by
    have := intLen (x.f7.length : Int); have := flatE_len x.f7 p8; have := p7 e
    simp only [List.length_append]; omega)
  omega
end Go.Proofs.Ytfjmnaobfbmllaa.M
namespace Go.Proofs.Ytfjmnaobfbmllaa.M
open Go.RowKit Go.Proofs.YtfjmnaobfbmllaaW.PrintWords Go.Proofs.YtfjmnaobfbmllaaW.PrintLast Go.Proofs.YtfjmnaobfbmllaaW.PrintMore
set_option linter.unusedVariables false
set_option linter.unusedSimpArgs false
def tF (r : ByteArray) (b : Bool) : Bool × ByteArray × Bool := (decide ((tI r b).1 = 1), (tI r b).2.1, (tI r b).2.2 || !decide (0 ≤ (tI r b).1 ∧ (tI r b).1 ≤ 1))
def tP (r : ByteArray) (b : Bool) : (Int × List S33) × ByteArray × Bool :=
  if r.size < 240 then ((0, []), r, true) else (((decP (r.extract 0 240)).1, (decP (r.extract 0 240)).2.1), r.extract 240 r.size, b || !decide ((decP (r.extract 0 240)).2.2 = 0))
def tEs : Nat → List S65 → ByteArray → Bool → List S65 × ByteArray × Bool
  | 0, acc, r, b => (acc, r, b)
  | d + 1, acc, r, b => if b then (acc, r, b) else tEs d (acc ++ [(decE r).1]) (decE r).2.1 (!decide ((decE r).2.2 = 0))
def tE (r : ByteArray) (b : Bool) : List S65 × ByteArray × Bool :=
  ((tEs (min (tI r b).1 17).toNat [] (tI r b).2.1 (tI r b).2.2).1, (tEs (min (tI r b).1 17).toNat [] (tI r b).2.1 (tI r b).2.2).2.1, (tEs (min (tI r b).1 17).toNat [] (tI r b).2.1 (tI r b).2.2).2.2 || !decide ((tI r b).1 = ((tEs (min (tI r b).1 17).toNat [] (tI r b).2.1 (tI r b).2.2).1.length : Int)))
def onT {α : Type} (f : Bool) (z : α) (t : ByteArray → Bool → α × ByteArray × Bool) (q : ByteArray × Bool) : α × ByteArray × Bool := if f then t q.1 q.2 else (z, q.1, q.2)
def tT (r : ByteArray) (b : Bool) : (Int × Int × Int) × ByteArray × Bool :=
  (((tI r b).1, (tI (tI r b).2.1 (tI r b).2.2).1, (tI (tI (tI r b).2.1 (tI r b).2.2).2.1 (tI (tI r b).2.1 (tI r b).2.2).2.2).1), (tI (tI (tI r b).2.1 (tI r b).2.2).2.1 (tI (tI r b).2.1 (tI r b).2.2).2.2).2)
def decQ (s : ByteArray) : S55 × ByteArray × Bool :=
  let q0 := tI s false
  let q1 := onT (shP q0.1 false).1 (0 : Int) tI q0.2
  let q2 := onT (shP q0.1 false).2.1 false tF q1.2
  let q3 := onT (shP q0.1 false).2.2.1 false tF q2.2
  let q4 := onT (shP q0.1 false).2.2.2.1 ((0, 0, 0) : Int × Int × Int) tT q3.2
  let q5 := onT (shP q0.1 false).2.2.2.2.1 (0 : Int) tI q4.2
  let q6 := onT (shP q0.1 q3.1).2.2.2.2.2.1 ((0, []) : Int × List S33) tP q5.2
  let q7 := onT (shP q0.1 false).2.2.2.2.2.2 ([] : List S65) tE q6.2
  (⟨q0.1, q1.1, q2.1, q3.1, q5.1, ⟨q4.1.1, q4.1.2.1, q4.1.2.2⟩, ⟨q6.1.1, q6.1.2⟩, q7.1⟩, q7.2)
def finM (q : S55 × ByteArray × Bool) : S55 × Int := if q.2.2 = false ∧ q.2.1 = ⟨#[]⟩ ∧ GoodM q.1 then (q.1, 0) else (zM, 4)
def Takes {α : Type} (t : ByteArray → Bool → α × ByteArray × Bool) (P : α → Prop) (B : α → List Int) : Prop := ∀ v (rest : List Int), P v → (∀ b ∈ rest, 0 ≤ b ∧ b ≤ 255) → t (strOfNums (B v ++ rest)) false = (v, strOfNums rest, false)
theorem tI_takes : Takes tI small intB := by
  intro v rest h hr
  exact tI_some (by rw [bytesOf_strOfNums _ (app_all (intB_small h) hr)]; exact takeI_int v h rest) false
theorem tF_takes : Takes tF (fun _ => True) (fun v => intB (bI v)) := by
  intro v rest _ hr
  unfold tF
  rw [tI_takes (bI v) rest (bI_small v) hr]
  cases v <;> rfl
theorem tP_takes : Takes tP (fun v => goodP v.1 v.2 = true) (fun v => padL (encL v.1 v.2)) := by
  intro v rest h hr
  have hl := padGood_len h
  have hg := padGood h
  have hall := app_all hg hr
  have e : (strOfNums (padL (encL v.1 v.2) ++ rest)).extract 0 240 = encB v.1 v.2 := by
    rw [str_take _ hall, List.take_left' hl]; rfl
  have hd : decP (encB v.1 v.2) = (v.1, v.2, 0) := isDec_one (decP_is _) (.inl ⟨h, rfl, rfl⟩)
  show tP (strOfNums (padL (encL v.1 v.2) ++ rest)) false = _
  unfold tP
  rw [if_neg (by rw [strOfNums_size, List.length_append]; omega), e, hd, str_drop _ hall, List.drop_left' hl]
  rfl
theorem tEs_takes (m : List S65) (hm : ∀ e ∈ m, GoodE e) : ∀ (acc : List S65) (rest : List Int), (∀ b ∈ rest, 0 ≤ b ∧ b ≤ 255) → tEs m.length acc (strOfNums (m.flatMap encE ++ rest)) false = (acc ++ m, strOfNums rest, false) := by
  induction m with
  | nil => intro acc rest hr; simp [tEs]
  | cons x m ih =>
    intro acc rest hr
    have hx := hm x (by simp)
    have hm2 : ∀ e ∈ m, GoodE e := fun e he => hm e (by simp [he])
    have hr2 := app_all (flat_good m hm2) hr
    rw [List.length_cons, List.flatMap_cons, List.append_assoc]
    simp only [tEs, Bool.false_eq_true, if_false]
    rw [← str_app2 (encE x) _ (encE_range hx) hr2, decE_enc hx]
    have := ih hm2 (acc ++ [x]) rest hr
    rw [show (!decide ((0 : Int) = 0)) = false from rfl, this, List.append_assoc, List.singleton_append]
theorem tE_takes : Takes tE (fun m => m.length ≤ 16 ∧ ∀ e ∈ m, GoodE e) (fun m => intB m.length ++ m.flatMap encE) := by
  intro m rest h hr
  unfold tE
  rw [List.append_assoc, tI_takes (m.length : Int) _ ⟨by omega, by omega⟩ (app_all (flat_good m h.2) hr)]
  simp only
  rw [show (min (m.length : Int) 17).toNat = m.length by omega, tEs_takes m h.2 [] rest hr]
  simp
theorem tT_takes : Takes tT (fun v => small v.1 ∧ small v.2.1 ∧ small v.2.2) (fun v => intB v.1 ++ (intB v.2.1 ++ intB v.2.2)) := by
  intro v rest h hr
  have h3 := app_all (intB_small h.2.2) hr
  have h2 := app_all (intB_small h.2.1) h3
  unfold tT
  rw [List.append_assoc, List.append_assoc, tI_takes _ _ h.1 h2]
  simp only
  rw [tI_takes _ _ h.2.1 h3]
  simp only
  rw [tI_takes _ _ h.2.2 hr]
theorem onT_takes {α : Type} {t : ByteArray → Bool → α × ByteArray × Bool} {P : α → Prop} {B : α → List Int} (ht : Takes t P B) (f : Bool) (z v : α) (rest : List Int) (hP : f = true → P v) (hz : f = false → v = z) (hr : ∀ b ∈ rest, 0 ≤ b ∧ b ≤ 255) : onT f z t (strOfNums (on f (B v) ++ rest), false) = (v, strOfNums rest, false) := by
  cases f with
  | true => exact ht v rest (hP rfl) hr
  | false => rw [hz rfl]; rfl
theorem sh_nd (k : Int) (a b : Bool) : (shP k a).1 = (shP k b).1 ∧ (shP k a).2.1 = (shP k b).2.1 ∧ (shP k a).2.2.1 = (shP k b).2.2.1 ∧ (shP k a).2.2.2.1 = (shP k b).2.2.2.1 ∧ (shP k a).2.2.2.2.1 = (shP k b).2.2.2.2.1 ∧ (shP k a).2.2.2.2.2.2 = (shP k b).2.2.2.2.2.2 := by
  unfold shP
  repeat' split
  all_goals exact ⟨rfl, rfl, rfl, rfl, rfl, rfl⟩
theorem decQ_takes {y : S55} (h : GoodM y) : decQ (strOfNums (bodyM y)) = (y, ⟨#[]⟩, false) := by
  obtain ⟨p0, p1, p5, p4, p6, p7, p8⟩ := good_parts h
  obtain ⟨h0, h1, h2, h3, h5, h4, h6, h7, h8⟩ := h
  obtain ⟨g1, g2, g3, g4, g5, g7⟩ := sh_nd y.f0 false y.f3
  have r7 : ∀ b ∈ on (shM y).2.2.2.2.2.2 (intB y.f7.length ++ y.f7.flatMap encE) ++ [], 0 ≤ b ∧ b ≤ 255 := app_all (on_all fun e => app_all (intB_small ⟨by omega, by have := p7 e; omega⟩) (flat_good _ p8)) (fun b hb => by simp at hb)
  have r6 := app_all (on_all (f := (shM y).2.2.2.2.2.1) fun e => padGood (p6 e)) r7
  have r5 := app_all (on_all (f := (shM y).2.2.2.2.1) fun e => intB_small (p4 e)) r6
  have r4 := app_all (on_all (f := (shM y).2.2.2.1) fun e => app_all (intB_small (p5 e).1) (app_all (intB_small (p5 e).2.1) (intB_small (p5 e).2.2))) r5
  have r3 := app_all (on_all (f := (shM y).2.2.1) fun e => intB_small (bI_small y.f3)) r4
  have r2 := app_all (on_all (f := (shM y).2.1) fun e => intB_small (bI_small y.f2)) r3
  have r1 := app_all (on_all (f := (shM y).1) fun e => intB_small (p1 e)) r2
  have eb : bodyM y = intB y.f0 ++ (on (shM y).1 (intB y.f1) ++ (on (shM y).2.1 (intB (bI y.f2)) ++ (on (shM y).2.2.1 (intB (bI y.f3)) ++ (on (shM y).2.2.2.1 (intB y.f5.f0 ++ (intB y.f5.f1 ++ intB y.f5.f2)) ++ (on (shM y).2.2.2.2.1 (intB y.f4) ++ (on (shM y).2.2.2.2.2.1 (padL (encL y.f6.f0 y.f6.f1)) ++ (on (shM y).2.2.2.2.2.2 (intB y.f7.length ++ y.f7.flatMap encE) ++ []))))))) := by rw [List.append_nil]; rfl
  rw [eb]
  unfold decQ
  rw [tI_takes y.f0 _ p0 r1]
  simp only
  rw [show (shP y.f0 false).1 = (shM y).1 from g1, show (shP y.f0 false).2.1 = (shM y).2.1 from g2, show (shP y.f0 false).2.2.1 = (shM y).2.2.1 from g3, show (shP y.f0 false).2.2.2.1 = (shM y).2.2.2.1 from g4, show (shP y.f0 false).2.2.2.2.1 = (shM y).2.2.2.2.1 from g5, show (shP y.f0 false).2.2.2.2.2.2 = (shM y).2.2.2.2.2.2 from g7]
  rw [onT_takes tI_takes (shM y).1 0 y.f1 _ p1 (fun e => by rw [if_neg (by rw [e]; decide)] at h1; exact h1) r2]
  simp only
  rw [onT_takes tF_takes (shM y).2.1 false y.f2 _ (fun _ => trivial) h2 r3]
  simp only
  rw [onT_takes tF_takes (shM y).2.2.1 false y.f3 _ (fun _ => trivial) h3 r4]
  simp only
  rw [onT_takes tT_takes (shM y).2.2.2.1 (0, 0, 0) (y.f5.f0, y.f5.f1, y.f5.f2) _ p5 (fun e => by rw [if_neg (by rw [e]; decide)] at h5; rw [h5.1, h5.2.1, h5.2.2]) r5]
  simp only
  rw [onT_takes tI_takes (shM y).2.2.2.2.1 0 y.f4 _ p4 (fun e => by rw [if_neg (by rw [e]; decide)] at h4; exact h4) r6]
  simp only
  rw [onT_takes tP_takes (shM y).2.2.2.2.2.1 (0, []) (y.f6.f0, y.f6.f1) _ p6 (fun e => by rw [if_neg (by rw [e]; decide)] at h6; rw [h6.1, h6.2]) r7]
  simp only
  rw [onT_takes tE_takes (shM y).2.2.2.2.2.2 [] y.f7 [] (fun e => ⟨(p7 e).2, p8⟩) (fun e => by rw [if_neg (by rw [e]; decide)] at h7; exact h7) (fun b hb => by simp at hb)]
  rfl
end Go.Proofs.Ytfjmnaobfbmllaa.M
namespace Go.Proofs.Ytfjmnaobfbmllaa.M
def cb (r : Nat) : Nat := (r / 2) ^^^ (if r % 2 = 1 then 3988292384 else 0)
def cn : Nat → Nat → Nat
  | 0, r => r
  | n + 1, r => cn n (cb r)
theorem xor_div2 (a b : Nat) : (a ^^^ b) / 2 = a / 2 ^^^ b / 2 := by
  apply Nat.eq_of_testBit_eq
  intro i
  simp [Nat.testBit_div_two, Nat.testBit_xor]
theorem cb_xor (a b : Nat) : cb (a ^^^ b) = cb a ^^^ cb b := by
  unfold cb
  rw [xor_div2]
  have h : (a ^^^ b) % 2 = (a % 2 + b % 2) % 2 := by
    have h0 := Nat.testBit_xor a b 0
    simp only [Nat.testBit_zero] at h0
    rcases Nat.mod_two_eq_zero_or_one a with ha | ha <;> rcases Nat.mod_two_eq_zero_or_one b with hb | hb <;> rcases Nat.mod_two_eq_zero_or_one (a ^^^ b) with hc | hc <;> simp [ha, hb, hc] at h0 ⊢
  rcases Nat.mod_two_eq_zero_or_one a with ha | ha <;> rcases Nat.mod_two_eq_zero_or_one b with hb | hb
  · rw [if_neg (by omega), if_neg (by omega), if_neg (by omega)]; simp
  · rw [if_pos (by omega), if_neg (by omega), if_pos (by omega)]; simp [Nat.xor_assoc]
  · rw [if_pos (by omega), if_pos (by omega), if_neg (by omega)]; simp only [Nat.xor_zero]; rw [Nat.xor_assoc, Nat.xor_assoc, Nat.xor_comm (b / 2)]
  · rw [if_neg (by omega), if_pos (by omega), if_pos (by omega), Nat.xor_zero]
    rw [Nat.xor_assoc, ← Nat.xor_assoc 3988292384 (b / 2), Nat.xor_comm 3988292384 (b / 2), Nat.xor_assoc (b / 2), Nat.xor_self, Nat.xor_zero]
theorem cn_xor (n : Nat) : ∀ a b : Nat, cn n (a ^^^ b) = cn n a ^^^ cn n b := by
  induction n with
  | zero => intro a b; rfl
  | succ n ih => intro a b; simp only [cn]; rw [cb_xor, ih]
theorem cb_two (a : Nat) : cb (2 * a) = a := by
  unfold cb
  rw [if_neg (by omega), Nat.xor_zero]; omega
theorem cn_shift (n : Nat) : ∀ a : Nat, cn n (2 ^ n * a) = a := by
  induction n with
  | zero => intro a; simp [cn]
  | succ n ih => intro a; simp only [cn]; rw [Nat.pow_succ, Nat.mul_comm (2 ^ n) 2, Nat.mul_assoc, cb_two, ih]
theorem split_xor (n x : Nat) : x = (2 ^ n * (x / 2 ^ n)) ^^^ (x % 2 ^ n) := by
  apply Nat.eq_of_testBit_eq
  intro i
  rw [Nat.testBit_xor, Nat.testBit_two_pow_mul, Nat.testBit_div_two_pow, Nat.testBit_mod_two_pow]
  by_cases h : i < n
  · simp [h, Nat.not_le.mpr h]
  · have h2 : n ≤ i := by omega
    simp [h, h2]
theorem cn_split (n x : Nat) : cn n x = (x / 2 ^ n) ^^^ cn n (x % 2 ^ n) := by
  conv => lhs; rw [split_xor n x]
  rw [cn_xor, cn_shift]
theorem xor_lt {a b n : Nat} (ha : a < 2 ^ n) (hb : b < 2 ^ n) : a ^^^ b < 2 ^ n := Nat.xor_lt_two_pow ha hb
theorem cb_lt {r : Nat} (h : r < 2 ^ 32) : cb r < 2 ^ 32 := by
  unfold cb
  apply xor_lt
  · omega
  · split <;> decide
theorem cn_lt (n : Nat) : ∀ {r : Nat}, r < 2 ^ 32 → cn n r < 2 ^ 32 := by
  induction n with
  | zero => intro r h; exact h
  | succ n ih => intro r h; exact ih (cb_lt h)
def cs (bs : List Nat) (r : Nat) : Nat := bs.foldl (fun r b => cn 8 (r ^^^ b)) r
theorem cs_lt (bs : List Nat) (hr : ∀ b ∈ bs, b < 256) : ∀ {r : Nat}, r < 2 ^ 32 → cs bs r < 2 ^ 32 := by
  induction bs with
  | nil => intro r h; exact h
  | cons b bs ih => intro r h; exact ih (fun x hx => hr x (by simp [hx])) (cn_lt 8 (xor_lt h (by have := hr b (by simp); omega)))
theorem cn_byte (r b : Nat) (hb : b < 256) : cn 8 (r ^^^ b) = (r / 256) ^^^ cn 8 ((r % 256) ^^^ b) := by
  have e1 : (r ^^^ b) / 256 = r / 256 := by
    have : ∀ x y : Nat, (x ^^^ y) / 2 ^ 8 = x / 2 ^ 8 ^^^ y / 2 ^ 8 := fun x y => by
      apply Nat.eq_of_testBit_eq
      intro i
      simp only [Nat.testBit_div_two_pow, Nat.testBit_xor]
    have h := this r b
    rw [show (2 : Nat) ^ 8 = 256 from rfl, Nat.div_eq_of_lt hb, Nat.xor_zero] at h
    exact h
  have e2 : (r ^^^ b) % 256 = (r % 256) ^^^ b := by
    have : ∀ x y : Nat, (x ^^^ y) % 2 ^ 8 = x % 2 ^ 8 ^^^ y % 2 ^ 8 := fun x y => by
      apply Nat.eq_of_testBit_eq
      intro i
      simp only [Nat.testBit_mod_two_pow, Nat.testBit_xor]
      cases decide (i < 8) <;> simp
    have h := this r b
    rw [show (2 : Nat) ^ 8 = 256 from rfl, Nat.mod_eq_of_lt hb] at h
    exact h
  have := cn_split 8 (r ^^^ b)
  rw [show (2 : Nat) ^ 8 = 256 from rfl, e1, e2] at this
  exact this
end Go.Proofs.Ytfjmnaobfbmllaa.M
namespace Go.Proofs.Ytfjmnaobfbmllaa.M
open Go.RowKit Go.Proofs.YtfjmnaobfbmllaaW.PrintWords Go.Proofs.YtfjmnaobfbmllaaW.PrintLast Go.Proofs.YtfjmnaobfbmllaaW.PrintMore
attribute [local go_sem] max2_int min2_int max_two min_two max_three min_three max_four min_four   -- for this text's walks alone
set_option linter.unusedVariables false
set_option linter.unusedSimpArgs false
def sum_step.l0 : Nat → Int → Int → Option (Int)
 | 0, _, _ => none
 | k + 1, x0, x3 => if x3 < 8 then (sum_step.l0 k (Go.bits .xor .u32 (x0 / 2) (Go.bits .and .u32 3988292384 ((-(Go.bits .and .u32 x0 1)) % 4294967296))) (wrap64 (x3 + 1))) else (some x0)
def sum_step.f (k : Nat) (a0 : Int) : Option (Int) := sum_step.l0 k a0 0
set_option maxHeartbeats 8000000 in
set_option maxRecDepth 100000 in
theorem sum_step.calls (k : Nat) (a0 : Int) (r : Int) (w : World) (h : sum_step.f k a0 = some r) :
  Calls Try.prog 85 #[.int .u32 a0] w fun e w' => e = .returned (.int .u32 r) ∧ Drawn0 w w' := by
 have H : (sum_step.l0 k a0 0) = some r := h
 clear h
 have H' := aq H
 clear H
 go_enter Try.func85, Try.ntmps85
 go_wp2
 go_loopg [0, 3] k (fun kq v0 v3 w' => ∃ (x0_1 : Int) (x3_1 : Int), v0 = .int .u32 x0_1 ∧ v3 = .int .i64 x3_1 ∧ Aside0 (sum_step.l0 kq x0_1 x3_1 = some r) ∧ Aside0 (kq ≤ k) ∧ Drawn0 w w')
 case atStart => exact ⟨(a0), (0), eqS, eqS, H', ⟨Nat.le_refl _⟩, by repeat (first | exact Drawn0.refl _ | apply Drawn0.step)⟩
 case round =>
  clear H'
  obtain ⟨x0_1, x3_1, rfl, rfl, HA, HK1, ⟨m1, rfl⟩⟩ := hrel
  cases gk with
  | zero => exact absurd HA.out (by simp [sum_step.l0])
  | succ k1 =>
   have H := HA.out
   clear HA
   simp only [sum_step.l0] at H
   by_cases c2 : x3_1 < 8
   ·rw [if_pos c2] at H
    have c2b0 : decide (x3_1 < 8) = true := decide_eq_true c2
    clear c2
    have H' := aq H
    clear H
    go_wp2
    go_roundg k1
    case measure => have := HK1.out; omega
    case rel => exact ⟨(Go.bits .xor .u32 (x0_1 / 2) (Go.bits .and .u32 3988292384 ((-(Go.bits .and .u32 x0_1 1)) % 4294967296))), (wrap64 (x3_1 + 1)), eqS, eqS, H', ⟨by have := HK1.out; omega⟩, by repeat (first | exact Drawn0.refl _ | apply Drawn0.step)⟩
   ·rw [if_neg c2] at H
    have c2b0 : decide (x3_1 < 8) = false := decide_eq_false c2
    clear c2
    obtain rfl := Option.some.inj H
    go_wp2
    go_ret
    exact ⟨by first | rfl | (simp; done) | (simp [*]; done), by repeat (first | exact Drawn0.refl _ | apply Drawn0.step)⟩
end Go.Proofs.Ytfjmnaobfbmllaa.M
namespace Go.Proofs.Ytfjmnaobfbmllaa.M
open Go.RowKit Go.Proofs.YtfjmnaobfbmllaaW.PrintWords Go.Proofs.YtfjmnaobfbmllaaW.PrintLast Go.Proofs.YtfjmnaobfbmllaaW.PrintMore
set_option linter.unusedVariables false
set_option linter.unusedSimpArgs false
theorem stp_cb (n : Nat) (h : n < 4294967296) : Go.bits .xor .u32 ((n : Int) / 2) (Go.bits .and .u32 3988292384 ((-(Go.bits .and .u32 (n : Int) 1)) % 4294967296)) = (cb n : Int) := by
 have e1 : Go.bits .and .u32 (n : Int) 1 = ((n % 2 : Nat) : Int) := by
  have := u32_and_nat n 1 h (by omega)
  rw [Nat.and_one_is_mod] at this
  exact this
 have e2 : (n : Int) / 2 = ((n / 2 : Nat) : Int) := by omega
 rw [e1, e2]
 rcases Nat.mod_two_eq_zero_or_one n with h2 | h2
 ·have e3 : Go.bits .and .u32 3988292384 (-((0 : Nat) : Int) % 4294967296) = ((0 : Nat) : Int) := by
   have := u32_and_nat 3988292384 0 (by omega) (by omega)
   exact this
  rw [h2, e3, u32_xor_nat _ _ (by omega) (by omega)]
  simp [cb, h2]
 ·have e3 : Go.bits .and .u32 3988292384 (-((1 : Nat) : Int) % 4294967296) = ((3988292384 : Nat) : Int) := by
   have := u32_and_nat 3988292384 4294967295 (by omega) (by omega)
   exact this
  rw [h2, e3, u32_xor_nat _ _ (by omega) (by omega)]
  simp [cb, h2]
end Go.Proofs.Ytfjmnaobfbmllaa.M
