/- The law SlabKeeps: it returns true for every input, and its arguments read as they did. No condition. Part 2 of 3. -/
import Derived.Test.YtfjmnaobfbmllaaSlabKeepsA0
namespace Go.Proofs.Ytfjmnaobfbmllaa.M
open Go.RowKit Go.Proofs.YtfjmnaobfbmllaaW.PrintWords Go.Proofs.YtfjmnaobfbmllaaW.PrintLast Go.Proofs.YtfjmnaobfbmllaaW.PrintMore
attribute [local go_sem] max2_int min2_int max_two min_two max_three min_three max_four min_four   -- for this text's walks alone
set_option linter.unusedVariables false
set_option linter.unusedSimpArgs false

/-! ### high_Put: function 78 -/
def high_Put.l0 : Nat → Int → Int → List Int → Int → Int → Option (ByteArray)
  | 0, _, _, _, _, _ => none
  | k + 1, x0, x1, x5, x9, x10 => if x10 < x9 then (if 0 ≤ (wrap64 (8 * x10)) then (if 0 ≤ (wrap64 ((wrap64 (x1 - 1)) - x10)) then (if (wrap64 ((wrap64 (x1 - 1)) - x10)) < (x5.length : Int) then (high_Put.l0 k x0 x1 (x5.set ((wrap64 ((wrap64 (x1 - 1)) - x10)) : Int).toNat ((shr .u64 x0 (wrap64 (8 * x10))) % 256)) x9 (wrap64 (x10 + 1))) else (none)) else (none)) else (none)) else (some (strOfNums x5))
def high_Put.f (k : Nat) (a0 : Int) (a1 : Int) : Option (ByteArray) := if 0 ≤ a1 then (if (a1 : Int).toNat ≤ 281474976710656 then (high_Put.l0 k a0 a1 (List.replicate (a1 : Int).toNat 0) a1 0) else (none)) else (none)
set_option maxHeartbeats 8000000 in
set_option maxRecDepth 100000 in
theorem high_Put.calls (k : Nat) (a0 : Int) (a1 : Int) (r : ByteArray) (w : World) (h : high_Put.f k a0 a1 = some r) :
    Calls Try.prog 78 #[.int .u64 a0, .int .i64 a1] w fun e w' => e = .returned (.string r) ∧ Below w.heap.size w w' := by
  have HB := Aside0.mk (Below.refl w.heap.size w)
  have H : (if 0 ≤ a1 then (if (a1 : Int).toNat ≤ 281474976710656 then (high_Put.l0 k a0 a1 (List.replicate (a1 : Int).toNat 0) a1 0) else (none)) else (none)) = some r := h
  clear h
  by_cases c3 : 0 ≤ a1
  · rw [if_pos c3] at H
    have c3b0 := eq_true c3
    have c3b1 : decide (0 ≤ a1) = true := decide_eq_true c3
    clear c3
    by_cases c4 : (a1 : Int).toNat ≤ 281474976710656
    · rw [if_pos c4] at H
      have c4b0 := eq_true c4
      have c4b1 : decide ((a1 : Int).toNat ≤ 281474976710656) = true := decide_eq_true c4
      clear c4
      obtain ⟨y101, hy101⟩ : ∃ y_ : List Int, y_ = (List.replicate (a1 : Int).toNat 0) := ⟨_, rfl⟩
      replace H : (high_Put.l0 k a0 a1 y101 a1 0) = some r := by first | (rw [hy101]; with_reducible exact H) | (have H2_ := (Option.bind_some _ _).symm.trans H; rw [hy101]; with_reducible exact H2_) | (have H2_ := (Option.bind_some _ _).symm.trans H; with_reducible exact H2_) | with_reducible exact H | (rw [hy101]; exact H) | exact H
      have Ny101 := Aside0.mk hy101
      clear hy101
      have H' := Aside0.mk H
      clear H
      go_enter Try.func78, Try.ntmps78
      go_wp2_with (first | ((with_reducible refine gate_dst (N := 8) rfl ?_); refine Kd.R_make (Kd.int .u8) _ 5 rfl (N := 8) rfl 36 _ _ rfl a1 rfl rfl Try.underlying36 (.int .u8 0) 1 info5 rfl (by decide) (by omega) 0 (ok := fun _ => True) (okp := fun _ => True) rfl (fun _ hk => hk) trivial (of_decide_eq_true (by first | (with_reducible assumption) | assumption)) (Nat.le_trans (Nat.mul_le_mul_right _ (of_decide_eq_true (by first | (with_reducible assumption) | assumption) : a1.toNat ≤ 281474976710656)) (by omega)) (Below.refl _ _) (Nat.le_refl _) ?_; intro v102 w5 ho6 hb hg_ hnew_; clear hg_ hnew_; (first | rw [← Ny101.out] at ho6 | (simp only [Int.reduceToNat] at ho6; rw [← Ny101.out] at ho6)); have n0_ := Aside0.mk (Kd.R_lower ho6 (below_size (by repeat (first | (with_reducible first | exact HB.out | apply below_alloc | apply pw_below_drewN | apply below_drew1) | exact HB.out)))); have n1_ := Aside0.mk (below_step (by repeat (first | (with_reducible first | exact HB.out | apply below_alloc | apply pw_below_drewN | apply below_drew1) | exact HB.out)) hb); clear HB; have HO103 := n0_; have HB := n1_; clear n0_ n1_; clear hb ho6))
      go_loopg [10] k (fun kq v10 w' => ∃ (x5_1 : List Int) (x10_1 : Int), v10 = .int .i64 x10_1 ∧ Aside0 (high_Put.l0 kq a0 a1 x5_1 a1 x10_1 = some r) ∧ Aside0 (kq ≤ k) ∧ Aside0 (Kd.R (Kd.int .u8) 5 w' w.heap.size (fun _ => True) v102 x5_1) ∧ Aside0 (Below w.heap.size w w'))
      case atStart => exact ⟨(y101), (0), (by first | rfl | (simp; done) | (simp [*]; done)), H', ⟨Nat.le_refl _⟩, ⟨by (with_reducible repeat (first | apply Kd.R_alloc | apply Kd.R_drewN | apply Kd.R_drew)); exact HO103.out⟩, ⟨by repeat (first | (with_reducible first | exact HB.out | apply below_alloc | apply pw_below_drewN | apply below_drew1) | exact HB.out)⟩⟩
      case round =>
        clear H'
        try clear p2
        try clear c3
        try clear c3b0
        try clear c3b1
        try clear c4
        try clear c4b0
        try clear c4b1
        obtain ⟨x5_1, x10_1, rfl, HA, HK1, HO_5, HB⟩ := hrel
        cases gk with
        | zero => exact absurd HA.out (by simp [high_Put.l0])
        | succ k1 =>
          have H := HA.out
          clear HA
          simp only [high_Put.l0] at H
          by_cases c7 : x10_1 < a1
          · rw [if_pos c7] at H
            have c7b0 : decide (x10_1 < a1) = true := decide_eq_true c7
            clear c7
            obtain ⟨ji8, hji8⟩ : ∃ j_ : Int, (wrap64 (8 * x10_1)) = j_ := ⟨_, rfl⟩
            replace H : (if 0 ≤ (ji8) then (if 0 ≤ (wrap64 ((wrap64 (a1 - 1)) - x10_1)) then (if (wrap64 ((wrap64 (a1 - 1)) - x10_1)) < (x5_1.length : Int) then (high_Put.l0 k1 a0 a1 (x5_1.set ((wrap64 ((wrap64 (a1 - 1)) - x10_1)) : Int).toNat ((shr .u64 a0 (ji8)) % 256)) a1 (wrap64 (x10_1 + 1))) else (none)) else (none)) else (none)) = some r := by first | (rw [hji8] at H; exact H) | (simp only [hji8] at H ⊢; exact H)
            have hji8w : (IntKind.i64.wrap (8 * x10_1)) = ji8 := (i64_w _).trans hji8
            by_cases c9 : 0 ≤ (ji8)
            · rw [if_pos c9] at H
              have c9b0 := eq_true c9
              have c9b1 : decide (0 ≤ (ji8)) = true := decide_eq_true c9
              clear c9
              obtain ⟨ji10, hji10⟩ : ∃ j_ : Int, (shr .u64 a0 (ji8)) = j_ := ⟨_, rfl⟩
              replace H : (if 0 ≤ (wrap64 ((wrap64 (a1 - 1)) - x10_1)) then (if (wrap64 ((wrap64 (a1 - 1)) - x10_1)) < (x5_1.length : Int) then (high_Put.l0 k1 a0 a1 (x5_1.set ((wrap64 ((wrap64 (a1 - 1)) - x10_1)) : Int).toNat ((ji10) % 256)) a1 (wrap64 (x10_1 + 1))) else (none)) else (none)) = some r := by first | (rw [hji10] at H; exact H) | (simp only [hji10] at H ⊢; exact H)
              have hji10_ : (a0 / 2 ^ min (ji8).toNat 64) = ji10 := hji10
              have hji10z : (ji8) ≤ 64 → (a0 / 2 ^ (ji8).toNat) = ji10 := shr_small hji10
              obtain ⟨ji11, hji11⟩ : ∃ j_ : Int, (wrap64 ((wrap64 (a1 - 1)) - x10_1)) = j_ := ⟨_, rfl⟩
              replace H : (if 0 ≤ (ji11) then (if (ji11) < (x5_1.length : Int) then (high_Put.l0 k1 a0 a1 (x5_1.set ((ji11) : Int).toNat ((ji10) % 256)) a1 (wrap64 (x10_1 + 1))) else (none)) else (none)) = some r := by first | (rw [hji11] at H; exact H) | (simp only [hji11] at H ⊢; exact H)
              have hji11w : (IntKind.i64.wrap ((wrap64 (a1 - 1)) - x10_1)) = ji11 := (i64_w _).trans hji11
              by_cases c12 : 0 ≤ (ji11)
              · rw [if_pos c12] at H
                have c12b0 : decide (0 ≤ (ji11)) = true := decide_eq_true c12
                clear c12
                by_cases c13 : (ji11) < (x5_1.length : Int)
                · rw [if_pos c13] at H
                  have c13b0 : decide ((ji11) < (x5_1.length : Int)) = true := decide_eq_true c13
                  clear c13
                  obtain ⟨y104, hy104⟩ : ∃ y_ : List Int, y_ = (x5_1.set ((ji11) : Int).toNat ((ji10) % 256)) := ⟨_, rfl⟩
                  replace H : (high_Put.l0 k1 a0 a1 y104 a1 (wrap64 (x10_1 + 1))) = some r := by first | (rw [hy104]; with_reducible exact H) | (have H2_ := (Option.bind_some _ _).symm.trans H; rw [hy104]; with_reducible exact H2_) | (have H2_ := (Option.bind_some _ _).symm.trans H; with_reducible exact H2_) | with_reducible exact H | (rw [hy104]; exact H) | exact H
                  have Ny104 := Aside0.mk hy104
                  clear hy104
                  have H' := Aside0.mk H
                  clear H
                  have p14 : 0 ≤ ((ji11) : Int) := of_decide_eq_true (by first | (with_reducible assumption) | assumption)
                  have q14 : ((ji11) : Int) < ((x5_1.length : Int) : Int) := of_decide_eq_true (by first | (with_reducible assumption) | assumption)
                  obtain ⟨go14, co14, eo14, gb14, gl14, cl14, HG14⟩ := Kd.R_form HO_5.out (by omega)
                  (first | cases eo14 | (injection eo14 with ea_ en_ ec_; (first | subst ea_ | (injection ea_ with ea_; subst ea_)); subst ec_; clear en_))
                  have GB14 := Aside0.mk gb14
                  have GG14 := Aside0.mk HG14
                  clear gb14 gl14 HG14
                  obtain ⟨hx14_0, hf14_0⟩ := Kd.R_celln 0 HO_5.out ((ji11) : Int) p14 q14
                  replace p14 := eq_true p14
                  replace q14 := eq_true q14
                  have HP15 := Kd.R_putg HO_5.out ((ji11) : Int) ((ji10) % 256)
                  go_wp2_with (first | ((with_reducible refine gate_store (t := 5) (p := 23) rfl ?_); refine store_event (t := 5) (p := 23) (v := ?vo_w16) (w1 := (wr.setCell ⟨go14, ((ji11) : Int).toNat, none⟩ (.int .u8 ((ji10) % 256)))) ?hg ?ho ?hn ?hr ?_; (case ho => rfl); (case hg => rfl); (case hn => rfl); (case hr => first | (go_simp; done) | (go_simp; rfl)); intro w16 hw; have hg : wr.grownBy w16 (some go14) := (by rw [hw]; exact HP15.2); have hp_ : Kd.R (Kd.int .u8) 5 w16 w.heap.size (fun _ => True) (.slice (some ⟨go14, 0, none⟩) x5_1.length co14) y104 := (by rw [hw, Ny104.out]; exact HP15.1); clear HP15; have n0_ := Aside0.mk (hp_); have n1_ := Aside0.mk ((by rw [hw]; exact below_set (HB.out) GB14.out : Below w.heap.size w w16)); clear HO_5; clear HB; have HO_5 := n0_; have HB := n1_; clear n0_ n1_; clear hg hw hp_))
                  go_roundg k1
                  case measure => have := HK1.out; omega
                  case rel => exact ⟨(y104), (wrap64 (x10_1 + 1)), (by first | rfl | (simp; done) | (simp [*]; done)), H', ⟨by have := HK1.out; omega⟩, ⟨by (with_reducible repeat (first | apply Kd.R_alloc | apply Kd.R_drewN | apply Kd.R_drew)); exact HO_5.out⟩, ⟨by repeat (first | (with_reducible first | exact HB.out | apply below_alloc | apply pw_below_drewN | apply below_drew1) | exact HB.out)⟩⟩
                · rw [if_neg c13] at H
                  exact absurd H (by simp)
              · rw [if_neg c12] at H
                exact absurd H (by simp)
            · rw [if_neg c9] at H
              exact absurd H (by simp)
          · rw [if_neg c7] at H
            have c7b0 : decide (x10_1 < a1) = false := decide_eq_false c7
            clear c7
            obtain rfl := Option.some.inj H
            have hcv17 := own_string (P := Try.prog) Try.underlying36 Try.underlying5 Try.underlying9 (Kd.own_of_R HO_5.out)
            go_wp2
            go_ret
            exact ⟨by first | rfl | (simp [errW_none, errW_some] <;> rfl) | (simp [*, errW_none, errW_some] <;> rfl), by repeat (first | (with_reducible first | exact HB.out | apply below_alloc | apply pw_below_drewN | apply below_drew1) | exact HB.out)⟩
    · rw [if_neg c4] at H
      exact absurd H (by simp)
  · rw [if_neg c3] at H
    exact absurd H (by simp)

end Go.Proofs.Ytfjmnaobfbmllaa.M

namespace Go.Proofs.Ytfjmnaobfbmllaa.M
open Go.RowKit Go.Proofs.YtfjmnaobfbmllaaW.PrintWords Go.Proofs.YtfjmnaobfbmllaaW.PrintLast Go.Proofs.YtfjmnaobfbmllaaW.PrintMore
set_option linter.unusedVariables false
set_option linter.unusedSimpArgs false

/-- n bytes of a number, the highest first. -/
def hiL (n : Nat) (a : Int) : List Int := (List.range n).map fun i => a / 2 ^ (8 * (n - 1 - i)) % 256
theorem hiL_length (n : Nat) (a : Int) : (hiL n a).length = n := by simp [hiL]
def hiP (n i : Nat) (a : Int) : List Int := (List.range n).map fun j => if n ≤ j + i then a / 2 ^ (8 * (n - 1 - j)) % 256 else 0
theorem hiP_set (n i : Nat) (a : Int) (h : i < n) : (hiP n i a).set (n - 1 - i) (a / 2 ^ (8 * i) % 256) = hiP n (i + 1) a := by
  apply List.ext_getElem
  · simp [hiP]
  intro j h1 h2
  simp only [hiP, List.length_set, List.length_map, List.length_range] at h1
  simp only [hiP, List.getElem_set, List.getElem_map, List.getElem_range]
  by_cases e : n - 1 - i = j
  · subst e
    rw [if_pos rfl, if_pos (by omega), show n - 1 - (n - 1 - i) = i by omega]
  · rw [if_neg e]
    by_cases e2 : n ≤ j + i
    · rw [if_pos e2, if_pos (by omega)]
    · rw [if_neg e2, if_neg (by omega)]
theorem put_loop (n : Nat) (hn : n ≤ 8) (a : Int) (d : Nat) : ∀ (k i : Nat), i + d = n → d < k → high_Put.l0 k a n (hiP n i a) n i = some (strOfNums (hiL n a)) := by
  induction d with
  | zero =>
    intro k i hi hk
    obtain ⟨k, rfl⟩ : ∃ m, k = m + 1 := ⟨k - 1, by omega⟩
    simp only [high_Put.l0]
    rw [if_neg (by omega)]
    congr 2
    unfold hiP hiL
    apply List.map_congr_left
    intro j _
    rw [if_pos (by omega)]
  | succ d ih =>
    intro k i hi hk
    obtain ⟨k, rfl⟩ : ∃ m, k = m + 1 := ⟨k - 1, by omega⟩
    simp only [high_Put.l0]
    have hlen : (hiP n i a).length = n := by simp [hiP]
    rw [if_pos (by omega), w64 (8 * (i : Int)) (by omega) (by omega), if_pos (by omega), w64 ((n : Int) - 1) (by omega) (by omega), w64 ((n : Int) - 1 - i) (by omega) (by omega), if_pos (by omega), if_pos (by rw [hlen]; omega),
      w64 ((i : Int) + 1) (by omega) (by omega)]
    have e1 : ((n : Int) - 1 - i).toNat = n - 1 - i := by omega
    have e2 : shr .u64 a (8 * (i : Int)) = a / 2 ^ (8 * i) := by
      unfold shr
      rw [Nat.min_eq_left (by show (8 * (i : Int)).toNat ≤ 64; omega)]
      congr 2
    rw [e1, e2, hiP_set n i a (by omega)]
    have := ih k (i + 1) (by omega) (by omega)
    rwa [show ((i + 1 : Nat) : Int) = (i : Int) + 1 by omega] at this
theorem put_pure (n : Nat) (hn : n ≤ 8) (a : Int) (k : Nat) (hk : 8 < k) : high_Put.f k a n = some (strOfNums (hiL n a)) := by
  unfold high_Put.f
  rw [if_pos (by omega), if_pos (by omega)]
  have e : List.replicate ((n : Int).toNat) (0 : Int) = hiP n 0 a := by
    apply List.ext_getElem
    · simp [hiP]
    intro j h1 h2
    simp only [hiP, List.getElem_map, List.getElem_range, List.getElem_replicate]
    simp at h1
    rw [if_neg (by omega)]
  rw [e]
  exact put_loop n hn a n k 0 (by omega) (by omega)
def highPut.f (a n : Int) : Option ByteArray := if 0 ≤ n ∧ n ≤ 8 then some (strOfNums (hiL n.toNat a)) else none
theorem highPut.calls (a n : Int) (r : ByteArray) (w : World) (h : highPut.f a n = some r) :
    Calls Try.prog 78 #[.int .u64 a, .int .i64 n] w fun e w' => e = .returned (.string r) ∧ Below w.heap.size w w' := by
  unfold highPut.f at h
  split at h
  · rename_i hn
    obtain ⟨m, rfl⟩ := Int.eq_ofNat_of_zero_le hn.1
    exact high_Put.calls 9 a m r w (by rw [put_pure m (by omega) a 9 (by omega)]; simpa using h)
  · cases h
end Go.Proofs.Ytfjmnaobfbmllaa.M

namespace Go.Proofs.Ytfjmnaobfbmllaa.M
open Go.RowKit Go.Proofs.YtfjmnaobfbmllaaW.PrintWords Go.Proofs.YtfjmnaobfbmllaaW.PrintLast Go.Proofs.YtfjmnaobfbmllaaW.PrintMore
set_option linter.unusedVariables false
set_option linter.unusedSimpArgs false

/-- A slot's bytes on a page. -/
def slotB (x : S33) : List Int := if x.f0 then (x.f1.size : Int) :: bytesOf x.f1 else [255]
def slotsB (l : List S33) : List Int := l.flatMap slotB
/-- An image's bytes, ahead of the zeros behind them. -/
def encL (a : Int) (l : List S33) : List Int := hiL 8 a ++ (l.length : Int) :: slotsB l
theorem slotB_length (x : S33) (h : oddS x = false) : (slotB x).length = 1 + x.f1.size := by
  unfold slotB
  by_cases hu : x.f0 = true
  · rw [if_pos hu, List.length_cons, bytesOf_length]; omega
  · rw [if_neg hu]
    unfold oddS at h
    simp [hu] at h
    have h2 := h.1
    have : x.f1.toList.length = 0 := by rw [h2]; rfl
    rw [ByteArray.toList_eq] at this
    simp at this ⊢
    have e : x.f1.size = x.f1.data.size := rfl
    omega

theorem slotsB_take (l : List S33) (i : Nat) (h : i < l.length) : slotsB (l.take (i + 1)) = slotsB (l.take i) ++ slotB l[i] := by
  unfold slotsB
  rw [List.take_succ_eq_append_getElem h, List.flatMap_append]
  simp
theorem slotsB_length (l : List S33) (h : l.any oddS = false) (i : Nat) (hi : i ≤ l.length) : (slotsB (l.take i)).length + sumS (l.drop i) = sumS l := by
  induction i with
  | zero => simp [slotsB]
  | succ i ih =>
    have hlt : i < l.length := by omega
    have h1 := ih (by omega)
    rw [slotsB_take l i hlt, List.length_append, slotB_length _ (by
      rw [List.any_eq_false] at h
      simpa using h l[i] (List.getElem_mem hlt))]
    have := sumS_drop l i hlt
    omega
theorem made_nums (n : Nat) : madeCells #[.int .u8 0] n = (nums .u8 (List.replicate n 0)).toArray := by
  apply Array.ext
  · simp [madeCells, nums]
  intro i h1 h2
  simp [madeCells, nums, Nat.mod_one]
theorem make240 (W : World) : (Instr.makeSlice 36 (.int .i64 0) (.int .i64 240)).run Try.prog W = .ok (.slice (some ⟨W.heap.size, 0, none⟩) 0 240) (W.alloc (.cells (nums .u8 (padL [])).toArray 5)) := by
  obtain ⟨i0, hi, hzz⟩ := Option.map_eq_some_iff.1 info5
  simp only [Prod.mk.injEq] at hzz
  obtain ⟨hz0, hz1, hz2⟩ := hzz
  have h := run_make (P := Try.prog) W 36 5 i0 _ Try.underlying36 hi hz0 .i64 .i64 0 240 (by omega) (by omega) (by rw [hz2]; omega) (by omega)
  have e : madeCells (Value.int .u8 0).cells (Int.toNat 240 * i0.size) = (nums .u8 (padL [])).toArray := by
    rw [hz1]
    exact made_nums 240
  rw [h, e]
  rfl
theorem strOfNums_size (xs : List Int) : (strOfNums xs).size = xs.length := by
  simp [strOfNums, ByteArray.size]
theorem bytesOf_strOfNums (xs : List Int) (h : ∀ x ∈ xs, 0 ≤ x ∧ x ≤ 255) : bytesOf (strOfNums xs) = xs := by
  unfold bytesOf strOfNums
  simp only [List.map_map]
  conv => rhs; rw [← List.map_id xs]
  apply List.map_congr_left
  intro x hx
  have := h x hx
  simp
  omega
theorem hiL_range (n : Nat) (a : Int) : ∀ x ∈ hiL n a, 0 ≤ x ∧ x ≤ 255 := by
  intro x hx
  simp only [hiL, List.mem_map] at hx
  obtain ⟨i, _, rfl⟩ := hx
  omega
def slab_Encode.f (a : Int) (l : List S33) : Option (ByteArray × Int) := if goodP a l = true then some (strOfNums (padL (encL a l)), 0) else some ((⟨#[]⟩ : ByteArray), 1)

set_option maxHeartbeats 4000000 in
set_option maxRecDepth 100000 in
theorem slab_Encode.good (a : Int) (A : Option Addr) (c : Nat) (l : List S33) (w : World) (hr : Kd.C k33 w A l.length l) (hc : l.length ≤ c) (hg : goodP a l = true) :
    Calls Try.prog 32 #[.agg #[.int .i64 a, .slice A l.length c]] w fun e w' => e = .returned (.tuple #[.string (strOfNums (padL (encL a l))), .int .i64 0]) ∧ Below w.heap.size w w' := by
  have hu24 := Try.underlying24
  have hu33 := Try.underlying33
  have hcg : slabGood.f a l = some true := by unfold slabGood.f; rw [hg]
  unfold goodP at hg
  simp only [Bool.and_eq_true, decide_eq_true_eq, Bool.not_eq_true'] at hg
  obtain ⟨⟨⟨⟨⟨ha0, ha1⟩, hl32⟩, hodd⟩, hlast⟩, h240⟩ := hg
  have HR := Aside0.mk hr
  have HC := Aside0.mk hc
  have HG := Aside0.mk hcg
  have HO := Aside0.mk hodd
  have HS := Aside0.mk h240
  clear hr hc hcg hodd hlast h240
  have HB := Aside0.mk (Below.refl w.heap.size w)
  have HHP : Aside0 (highPut.f a 8 = some (strOfNums (hiL 8 a))) := ⟨by unfold highPut.f; rw [if_pos (by omega)]; rfl⟩
  have hwr0 : IntKind.u64.wrap a = a := by rw [IntKind.wrap_u64]; omega
  have HWR := Aside0.mk hwr0
  clear hwr0
  go_enter Try.func32, Try.ntmps32
  go_wp2_with (first | ((with_reducible refine gate_dst (N := 1) rfl ?_); (try (refine gate_guard (by rfl) ?_; dsimp only)); refine box_event ?hg (N := 1) ?hd (cs := #[.int .i64 a, .slice A l.length c]) (t := 24) ?hr ?_; (case hd => rfl); (case hg => rfl); (case hr => first | (go_simp; done) | (go_simp; rfl)); intro g1 hg1 w5 hbox hb; have HBK := Aside0.mk hbox; have n1_ := Aside0.mk (below_step HB.out hb); have HG1 := Aside0.mk (by rw [hg1]; exact HB.out.size : w.heap.size ≤ g1); clear HB; have HB := n1_; clear n1_ hbox hb hg1; have hc0 : w5.cell? ⟨g1, 0, none⟩ = some (.int .i64 a) := (blk_cell HBK.out 0).trans rfl; have hc1 : w5.cell? ⟨g1, 1, none⟩ = some (.slice A l.length c) := (blk_cell HBK.out 1).trans rfl) | ((with_reducible refine gate_callee (f := 34) rfl ?_); refine goesL_ (some 8) rfl rfl Try.func34 (by kernel_rfl) rfl #[.agg #[.int .i64 a, .slice A l.length c]] rfl (by (try simp only [List.map_toArray, List.map_cons, List.map_nil]); first | done | rfl) ?_; (with_reducible refine (slabGood.calls a _ _ l true _ ?side1 ?side2 HG.out).mono ?_); (case side1 => exact Kd.C_below HR.out HB.out); (case side2 => exact HC.out); rintro e w6 ⟨rfl, hb⟩; refine ⟨_, rfl, ?_⟩; have n0_ := Aside0.mk (blk_below (g := g1) HBK.out hb); have n1_ := Aside0.mk (below_step HB.out hb); clear HB HBK hc0 hc1 hb; have HBK := n0_; have HB := n1_; clear n0_ n1_))
  have n0_ := Aside0.mk (blk_drew HBK.out)
  have n1_ := Aside0.mk (below_drew1 HB.out)
  clear HBK HB
  have HBK := n0_
  have HB := n1_
  clear n0_ n1_
  refine start_ (n := 7) (S := fun w' => w'.cell? ⟨g1, 0, none⟩ = some (.int .i64 a)) (ds := []) #[false, false, false, false, false, false, false] (by kernel_rfl) rfl rfl ((blk_cell HBK.out 0).trans rfl) (fun hHeld => ?_)
  generalize w6.drew = w7 at HBK HB hHeld ⊢
  refine pure_ (i := 1) (N := some 11) (v := ?_) (a' := ?_) #[false, true, false, false, false, false, false] rfl rfl (by kernel_rfl) (fun _ _ _ h => h) (Or.inl ⟨by rfl, ?_⟩) ?_ ?_
  rotate_left
  · intro w'
    go_simp
    with_reducible rfl
  rotate_left
  · simp only [Act.put, List.setIfInBounds_toArray, List.set_cons_zero, List.set_cons_succ, i64_w, i32_w]
    rfl
  refine take_ (i := 2) (N := some 12) (v := ?_) (a' := ?_) #[false, true, true, false, false, false, false] rfl rfl (by kernel_rfl) (fun _ _ _ h => h) (Or.inl ⟨by rfl, ?_⟩) hHeld ?_ ?_
  rotate_left
  · intro w' s0
    go_simp
    with_reducible rfl
  rotate_left
  · simp only [Act.put, List.setIfInBounds_toArray, List.set_cons_zero, List.set_cons_succ, i64_w, i32_w]
    rfl
  refine pure_ (i := 3) (N := some 13) (v := ?_) (a' := ?_) #[false, true, true, true, false, false, false] rfl rfl (by kernel_rfl) (fun _ _ _ h => h) (Or.inl ⟨by rfl, ?_⟩) ?_ ?_
  rotate_left
  · intro w'
    go_simp
    with_reducible rfl
  rotate_left
  · simp only [Act.put, List.setIfInBounds_toArray, List.set_cons_zero, List.set_cons_succ, i64_w, i32_w]
    rfl
  rw [HWR.out]
  refine join_ (σ := Nat) 2 #[true, true, true, true, true, false, false] (fun s_ => [(10, .slice (some ⟨s_, 0, none⟩) 0 240), (14, .string (strOfNums (hiL 8 a)))]) (fun (s_ : Nat) w' => w'.cell? ⟨g1, 0, none⟩ = some (.int .i64 a) ∧ Buf w' s_ [] ∧ w'.heap[g1]? = some (.cells #[.int .i64 a, .slice A l.length c] 24 (0, 0)) ∧ w.heap.size ≤ s_ ∧ s_ ≠ g1 ∧ Below w.heap.size w w') ?_ ?_
  rotate_left
  · intro hCont
    refine two_ (i := 0) (j := 4) (Ni := some 10) (Nj := some 14) #[true, true, true, true, false, false, false] #[false, true, true, true, true, false, false] rfl rfl rfl rfl (by kernel_rfl) (by decide) (by decide) (fun K hK => ?_) (fun K hK => ?_)
    · skip
      have hma2 := make240 w7
      refine value_ (w1 := ?_) (v := ?_) (by rfl) rfl ?_ ?_
      rotate_left 2
      · go_simp
        constructor
        · rfl
        · rfl
      clear hma2
      have hsz := blk_lt HBK.out
      have hbW : Below w.heap.size w w7 := HB.out
      obtain ⟨g2, hg2⟩ : ∃ g_, g_ = w7.heap.size := ⟨_, rfl⟩
      have hBf : Aside0 (Buf (w7.alloc (.cells (nums .u8 (padL [])).toArray 5)) g2 []) := ⟨⟨by simp, by rw [hg2]; exact blk_new w7 _⟩⟩
      have n0_ := Aside0.mk (blk_alloc HBK.out (.cells (nums .u8 (padL [])).toArray 5))
      have n1_ := Aside0.mk (below_alloc HB.out (.cells (nums .u8 (padL [])).toArray 5))
      have HG2 := Aside0.mk (by rw [hg2]; exact hbW.size : w.heap.size ≤ g2)
      have HN2 := Aside0.mk (by rw [hg2]; omega : g2 ≠ g1)
      rw [← hg2]
      clear hg2 hsz hbW HBK HB
      generalize w7.alloc (.cells (nums .u8 (padL [])).toArray 5) = w8 at hBf n0_ n1_ ⊢
      have HBK := n0_
      have HB := n1_
      clear n0_ n1_
      refine hK.out _ _ ((blk_cell HBK.out 0).trans rfl) (fun hHeld => ?_)
      clear hK K
      refine norm_ (a' := ?_) ?_ ?_
      rotate_left
      · show Act.put _ (some 10) _ = _
        simp only [Act.put, List.setIfInBounds_toArray, List.set_cons_zero, List.set_cons_succ, i64_w, i32_w]
        rfl
      refine one_ (i := 4) (N := some 14) #[true, true, true, true, true, false, false] rfl rfl (by kernel_rfl) (by decide) (fun K hK => ?_)
      refine goes_ Try.func78 (by kernel_rfl) rfl #[.int .u64 a, .int .i64 8] (by rfl) rfl rfl (by (try simp only [List.map_toArray, List.map_cons, List.map_nil]); first | done | rfl) ?_
      with_reducible refine (highPut.calls a 8 _ _ HHP.out).mono ?_
      rintro e w9 ⟨rfl, hb⟩
      refine ⟨_, rfl, ?_⟩
      have hBf2 := Aside0.mk (Buf.below hBf.out hb)
      clear hBf
      have hBf := hBf2
      clear hBf2
      have n0_ := Aside0.mk (blk_below HBK.out hb)
      have n1_ := Aside0.mk (below_step HB.out hb)
      clear HBK HB hb
      have HBK := n0_
      have HB := n1_
      clear n0_ n1_
      refine hK.out _ _ ((blk_cell HBK.out 0).trans rfl) (fun hHeld => ?_)
      clear hK K
      exact norm_ (by simp only [putAll, Act.put, List.setIfInBounds_toArray, List.set_cons_zero, List.set_cons_succ]) (hCont g2 _ ⟨hHeld, hBf.out, HBK.out, HG2.out, HN2.out, HB.out⟩)

    · skip
      refine goes_ Try.func78 (by kernel_rfl) rfl #[.int .u64 a, .int .i64 8] (by rfl) rfl rfl (by (try simp only [List.map_toArray, List.map_cons, List.map_nil]); first | done | rfl) ?_
      with_reducible refine (highPut.calls a 8 _ _ HHP.out).mono ?_
      rintro e w8 ⟨rfl, hb⟩
      refine ⟨_, rfl, ?_⟩
      have n0_ := Aside0.mk (blk_below HBK.out hb)
      have n1_ := Aside0.mk (below_step HB.out hb)
      clear HBK HB hb
      have HBK := n0_
      have HB := n1_
      clear n0_ n1_
      refine hK.out _ _ ((blk_cell HBK.out 0).trans rfl) (fun hHeld => ?_)
      clear hK K
      refine norm_ (a' := ?_) ?_ ?_
      rotate_left
      · show Act.put _ (some 14) _ = _
        simp only [Act.put, List.setIfInBounds_toArray, List.set_cons_zero, List.set_cons_succ, i64_w, i32_w]
        rfl
      refine one_ (i := 0) (N := some 10) #[true, true, true, true, true, false, false] rfl rfl (by kernel_rfl) (by decide) (fun K hK => ?_)
      have hma2 := make240 w8
      refine value_ (w1 := ?_) (v := ?_) (by rfl) rfl ?_ ?_
      rotate_left 2
      · go_simp
        constructor
        · rfl
        · rfl
      clear hma2
      have hsz := blk_lt HBK.out
      have hbW : Below w.heap.size w w8 := HB.out
      obtain ⟨g2, hg2⟩ : ∃ g_, g_ = w8.heap.size := ⟨_, rfl⟩
      have hBf : Aside0 (Buf (w8.alloc (.cells (nums .u8 (padL [])).toArray 5)) g2 []) := ⟨⟨by simp, by rw [hg2]; exact blk_new w8 _⟩⟩
      have n0_ := Aside0.mk (blk_alloc HBK.out (.cells (nums .u8 (padL [])).toArray 5))
      have n1_ := Aside0.mk (below_alloc HB.out (.cells (nums .u8 (padL [])).toArray 5))
      have HG2 := Aside0.mk (by rw [hg2]; exact hbW.size : w.heap.size ≤ g2)
      have HN2 := Aside0.mk (by rw [hg2]; omega : g2 ≠ g1)
      rw [← hg2]
      clear hg2 hsz hbW HBK HB
      generalize w8.alloc (.cells (nums .u8 (padL [])).toArray 5) = w9 at hBf n0_ n1_ ⊢
      have HBK := n0_
      have HB := n1_
      clear n0_ n1_
      refine hK.out _ _ ((blk_cell HBK.out 0).trans rfl) (fun hHeld => ?_)
      clear hK K
      exact norm_ (by simp only [putAll, Act.put, List.setIfInBounds_toArray, List.set_cons_zero, List.set_cons_succ]) (hCont g2 _ ⟨hHeld, hBf.out, HBK.out, HG2.out, HN2.out, HB.out⟩)

  clear hHeld HBK HB
  rintro g2 w9 ⟨hHeld, h1_, h2_, h3_, h4_, h5_⟩
  have hBf := Aside0.mk h1_
  have HBK := Aside0.mk h2_
  have HG2 := Aside0.mk h3_
  have HN2 := Aside0.mk h4_
  have HB := Aside0.mk h5_
  clear h1_ h2_ h3_ h4_ h5_
  refine norm_ (a' := ?_) ?_ ?_
  rotate_left
  · simp only [putAll, Act.put, List.setIfInBounds_toArray, List.set_cons_zero, List.set_cons_succ]
    rfl
  refine one_ (i := 5) (N := some 15) #[true, true, true, true, true, true, false] rfl rfl (by kernel_rfl) (by decide) (fun K hK => ?_)
  refine step_buf_str (by rfl) (N := 15) rfl _ _ rfl rfl rfl hBf.out rfl (by rw [strOfNums_size, hiL_length]; simp) ?_
  intro w10 hb10 hg10
  rw [List.nil_append, bytesOf_strOfNums _ (hiL_range 8 a), strOfNums_size, hiL_length] at *
  have n0_ := Aside0.mk (blk_grown HBK.out hg10 (by simpa using fun e_ => HN2.out e_.symm))
  have n1_ := Aside0.mk (pw_below_grown HB.out (some g2) HB.out.size hg10 (fun k_ e_ => by cases e_; exact HG2.out))
  have n2_ := Aside0.mk hb10
  clear HBK HB hBf hb10 hg10
  have HBK := n0_
  have HB := n1_
  have hBf := n2_
  clear n0_ n1_ n2_
  refine hK.out _ _ ((blk_cell HBK.out 0).trans rfl) (fun hHeld => ?_)
  clear hK K
  refine norm_ (a' := ?_) ?_ ?_
  rotate_left
  · show Act.put _ (some 15) _ = _
    simp only [Act.put, List.setIfInBounds_toArray, List.set_cons_zero, List.set_cons_succ, i64_w, i32_w]
    rfl
  refine pure_ (i := 6) (N := some 4) (v := ?_) (a' := ?_) #[true, true, true, true, true, true, true] rfl rfl (by kernel_rfl) (fun _ _ _ h => h) (Or.inl ⟨by rfl, ?_⟩) ?_ ?_
  rotate_left
  · intro w'
    go_simp
    with_reducible rfl
  rotate_left
  · simp only [Act.put, List.setIfInBounds_toArray, List.set_cons_zero, List.set_cons_succ, i64_w, i32_w]
    rfl
  refine done_ (by kernel_rfl) ?_
  clear hHeld
  have hc0 : w10.cell? ⟨g1, 0, none⟩ = some (.int .i64 a) := (blk_cell HBK.out 0).trans rfl
  have hc1 : w10.cell? ⟨g1, 1, none⟩ = some (.slice A l.length c) := (blk_cell HBK.out 1).trans rfl
  go_wp2_with (first | ((with_reducible refine gate_dst (N := 22) rfl ?_); refine buf_append1 rfl (N := 22) rfl _ _ rfl (g := g2) (bs := hiL 8 a) (y := (l.length : Int)) rfl rfl hBf.out (by rw [hiL_length]) (by rw [hiL_length]; omega) ?_; intro w12 hbw hgw; have n0_ := Aside0.mk (blk_grown (blk_alloc HBK.out _) hgw (by simpa using fun e_ => HN2.out e_.symm)); have n1_ := Aside0.mk (pw_below_grown (below_alloc HB.out _) (some g2) (Below.size (below_alloc HB.out _)) hgw (fun k_ e_ => by cases e_; exact HG2.out)); have n2_ := Aside0.mk hbw; clear HBK HB hBf hbw hgw hc0 hc1; have HBK := n0_; have HB := n1_; have hBf := n2_; clear n0_ n1_ n2_; have hc0 : w12.cell? ⟨g1, 0, none⟩ = some (.int .i64 a) := (blk_cell HBK.out 0).trans rfl; have hc1 : w12.cell? ⟨g1, 1, none⟩ = some (.slice A l.length c) := (blk_cell HBK.out 1).trans rfl))
  go_loopg [4, 26] l.length (fun gg v4 v26 wr => ∃ k n : Nat, k ≤ l.length ∧ l.length - k ≤ gg ∧ v26 = .int .i64 k ∧ v4 = .slice (some ⟨g2, 0, none⟩) n 240 ∧ Aside0 (n = (hiL 8 a ++ (l.length : Int) :: slotsB (l.take k)).length) ∧ Aside0 (Buf wr g2 (hiL 8 a ++ (l.length : Int) :: slotsB (l.take k))) ∧ Aside0 (wr.heap[g1]? = some (.cells #[.int .i64 a, .slice A l.length c] 24 (0, 0))) ∧ Aside0 (Below w.heap.size w wr))
  case atStart => exact ⟨0, 9, Nat.zero_le _, by omega, rfl, rfl, ⟨by simp [hiL_length, slotsB]⟩, ⟨by simpa [slotsB] using hBf.out⟩, HBK, HB⟩
  case round =>
    clear hc0 hc1 hBf HBK HB
    obtain ⟨k, n, hk, hgk, rfl, rfl, hN0, hBf0, HBK, HB⟩ := hrel
    by_cases hlt : k < l.length
    · have p0 : 0 ≤ (k : Int) := by omega
      have q0 : (k : Int) < (l.length : Int) := by omega
      obtain ⟨ad, e0, hx0, hx1⟩ := at_T33 HR.out (k : Int) p0 q0
      cases e0
      replace hx0 := (HB.out.cell (World.block_lt_of_cell? w _ hx0)).trans hx0
      replace hx1 := (HB.out.cell (World.block_lt_of_cell? w _ hx1)).trans hx1
      rw [Int.toNat_natCast, rd33 l k hlt] at hx0 hx1
      have hoddx : oddS l[k] = false := by
        have h_ := HO.out
        rw [List.any_eq_false] at h_
        simpa using h_ l[k] (List.getElem_mem hlt)
      have hlen0 := slotsB_length l HO.out k hk
      have hsd := sumS_drop l k hlt
      have hraw := HS.out
      unfold rawSize at hraw
      have HL : Aside0 (n + 1 + l[k].f1.size ≤ 240) := ⟨by have h_ := hN0.out; simp only [List.length_append, List.length_cons, hiL_length] at h_; omega⟩
      have HE : Aside0 (slotsB (l.take (k + 1)) = slotsB (l.take k) ++ slotB l[k]) := ⟨slotsB_take l k hlt⟩
      clear hlen0 hsd hraw
      have hsz : l[k].f1.size ≤ 200 := by
        unfold oddS at hoddx; simp at hoddx; omega
      generalize l[k] = x at hx0 hx1 hoddx HL HE hsz
      obtain ⟨bs, hbs⟩ : ∃ b_, b_ = hiL 8 a ++ (l.length : Int) :: slotsB (l.take k) := ⟨_, rfl⟩
      have hN := hN0
      have hBf := hBf0
      rw [← hbs] at hN hBf
      clear hN0 hBf0
      have HL2 := HL
      rw [hN.out] at HL2
      clear HL
      have HL := HL2
      clear HL2
      have HBS := Aside0.mk hbs
      clear hbs
      cases hu : x.f0 with
      | true =>
        rw [hu] at hx0
        have HU := Aside0.mk hu
        have HES : Aside0 (hiL 8 a ++ (l.length : Int) :: slotsB (l.take (k + 1)) = (bs ++ [(x.f1.size : Int)]) ++ bytesOf x.f1) := ⟨by rw [HE.out, HBS.out]; simp [slotB, hu]⟩
        clear hu hoddx HE
        go_wp2_with (first | ((with_reducible refine gate_dst (N := 6) rfl ?_); refine box_event ?hg (N := 6) ?hd (cs := #[.bool false, .string (⟨#[]⟩ : ByteArray)]) (t := 33) ?hr ?_; (case hd => rfl); (case hg => rfl); (case hr => first | (go_simp; done) | (go_simp; rfl)); intro g3 hg3 w13 hbox hb; have HN3 := Aside0.mk (by rw [hg3]; exact Nat.ne_of_lt (blk_lt hBf.out.2) : g2 ≠ g3); have HN4 := Aside0.mk (by rw [hg3]; exact Nat.ne_of_lt (blk_lt HBK.out) : g1 ≠ g3); have HG3 := Aside0.mk (by rw [hg3]; exact HB.out.size : w.heap.size ≤ g3); have n0_ := Aside0.mk (blk_below HBK.out hb); have n1_ := Aside0.mk (below_step HB.out hb); have n2_ := Aside0.mk (Buf.below hBf.out hb); have HBX := Aside0.mk hbox; clear HBK HB hBf hb hbox hg3; have HBK := n0_; have HB := n1_; have hBf := n2_; clear n0_ n1_ n2_; have hz0 : w13.cell? ⟨g3, 0, none⟩ = some (.bool false) := (blk_cell HBX.out 0).trans rfl; have hz1 : w13.cell? ⟨g3, 1, none⟩ = some (.string (⟨#[]⟩ : ByteArray)) := (blk_cell HBX.out 1).trans rfl; have hf0 := blk_frozen HBX.out 0; have hf1 := blk_frozen HBX.out 1) | ((with_reducible refine gate_store (t := 33) (p := 6) rfl ?_); refine store_event (t := 33) (p := 6) (v := ?vo) (w1 := ((w13.setCell ⟨g3, 0, none⟩ (.bool true)).setCell ⟨g3, 1, none⟩ (.string x.f1))) ?hg ?ho ?hn ?hr ?_; (case ho => rfl); (case hg => rfl); (case hn => rfl); (case hr => first | (go_simp; done) | (go_simp; rfl)); intro w14 hw; have n0_ := Aside0.mk ((congrArg (fun W_ => W_.heap[g1]?) hw).trans (blk_far (p := ⟨g3, _, none⟩) (blk_far (p := ⟨g3, _, none⟩) HBK.out HN4.out _) HN4.out _)); have n1_ : Aside0 (Below w.heap.size w w14) := ⟨by rw [hw]; exact below_set (below_set HB.out HG3.out) HG3.out⟩; have n2_ : Aside0 (Buf w14 g2 bs) := ⟨⟨hBf.out.1, by rw [hw]; exact blk_far (p := ⟨g3, _, none⟩) (blk_far (p := ⟨g3, _, none⟩) hBf.out.2 HN3.out _) HN3.out _⟩⟩; have n3_ : Aside0 (w14.heap[g3]? = some (.cells #[.bool true, .string x.f1] 33 (0, 0))) := ⟨by rw [hw]; exact blk_set (blk_set HBX.out 0 _) 1 _⟩; clear HBK HB hBf HBX hz0 hz1 hf0 hf1 hw; have HBK := n0_; have HB := n1_; have hBf := n2_; have HBX := n3_; clear n0_ n1_ n2_ n3_; have hz0 : w14.cell? ⟨g3, 0, none⟩ = some (.bool true) := (blk_cell HBX.out 0).trans rfl; have hz1 : w14.cell? ⟨g3, 1, none⟩ = some (.string x.f1) := (blk_cell HBX.out 1).trans rfl) | ((with_reducible refine gate_dst (N := 42) rfl ?_); refine buf_append1 rfl (N := 42) rfl _ _ rfl (g := g2) (bs := bs) (y := (x.f1.size : Int)) rfl rfl hBf.out hN.out (by have h1_ := HL.out; omega) ?_; intro w15 hbw hgw; have n0_ := Aside0.mk (blk_grown (blk_alloc HBK.out _) hgw (by simpa using fun e_ => HN2.out e_.symm)); have n1_ := Aside0.mk (pw_below_grown (below_alloc HB.out _) (some g2) (Below.size (below_alloc HB.out _)) hgw (fun k_ e_ => by cases e_; exact HG2.out)); have n2_ := Aside0.mk hbw; have n3_ := Aside0.mk (blk_grown (blk_alloc HBX.out _) hgw (by simpa using fun e_ => HN3.out e_.symm)); clear HBK HB hBf HBX hbw hgw hz0 hz1; have HBK := n0_; have HB := n1_; have hBf := n2_; have HBX := n3_; clear n0_ n1_ n2_ n3_; have hz1 : w15.cell? ⟨g3, 1, none⟩ = some (.string x.f1) := (blk_cell HBX.out 1).trans rfl) | ((with_reducible refine gate_dst (N := 46) rfl ?_); refine buf_append_str rfl (N := 46) rfl _ _ rfl (g := g2) (bs := bs ++ [(x.f1.size : Int)]) (y := x.f1) rfl rfl hBf.out (by rw [List.length_append, ← hN.out]; rfl) (by have h1_ := HL.out; rw [List.length_append, List.length_singleton]; omega) ?_; intro w16 hbw hgw; have n0_ := Aside0.mk (blk_grown (HBK.out) hgw (by simpa using fun e_ => HN2.out e_.symm)); have n1_ := Aside0.mk (pw_below_grown (HB.out) (some g2) (Below.size (HB.out)) hgw (fun k_ e_ => by cases e_; exact HG2.out)); have n2_ := Aside0.mk hbw; clear HBK HB hBf HBX hbw hgw hz1; have HBK := n0_; have HB := n1_; have hBf := n2_; clear n0_ n1_ n2_))
        go_roundg (l.length - (k + 1))
        case measure => omega
        case rel => exact ⟨k + 1, _, by omega, by omega, by go_num, rfl, ⟨by rw [HES.out, hN.out]; simp [bytesOf_length]; omega⟩, ⟨by rw [HES.out]; exact hBf.out⟩, HBK, HB⟩
      | false =>
        rw [hu] at hx0
        have HU := Aside0.mk hu
        have HES : Aside0 (hiL 8 a ++ (l.length : Int) :: slotsB (l.take (k + 1)) = bs ++ [255]) := ⟨by rw [HE.out, HBS.out]; simp [slotB, hu]⟩
        clear hu hoddx HE
        go_wp2_with (first | ((with_reducible refine gate_dst (N := 6) rfl ?_); refine box_event ?hg (N := 6) ?hd (cs := #[.bool false, .string (⟨#[]⟩ : ByteArray)]) (t := 33) ?hr ?_; (case hd => rfl); (case hg => rfl); (case hr => first | (go_simp; done) | (go_simp; rfl)); intro g3 hg3 w13 hbox hb; have HN3 := Aside0.mk (by rw [hg3]; exact Nat.ne_of_lt (blk_lt hBf.out.2) : g2 ≠ g3); have HN4 := Aside0.mk (by rw [hg3]; exact Nat.ne_of_lt (blk_lt HBK.out) : g1 ≠ g3); have HG3 := Aside0.mk (by rw [hg3]; exact HB.out.size : w.heap.size ≤ g3); have n0_ := Aside0.mk (blk_below HBK.out hb); have n1_ := Aside0.mk (below_step HB.out hb); have n2_ := Aside0.mk (Buf.below hBf.out hb); have HBX := Aside0.mk hbox; clear HBK HB hBf hb hbox hg3; have HBK := n0_; have HB := n1_; have hBf := n2_; clear n0_ n1_ n2_; have hz0 : w13.cell? ⟨g3, 0, none⟩ = some (.bool false) := (blk_cell HBX.out 0).trans rfl; have hz1 : w13.cell? ⟨g3, 1, none⟩ = some (.string (⟨#[]⟩ : ByteArray)) := (blk_cell HBX.out 1).trans rfl; have hf0 := blk_frozen HBX.out 0; have hf1 := blk_frozen HBX.out 1) | ((with_reducible refine gate_store (t := 33) (p := 6) rfl ?_); refine store_event (t := 33) (p := 6) (v := ?vo) (w1 := ((w13.setCell ⟨g3, 0, none⟩ (.bool false)).setCell ⟨g3, 1, none⟩ (.string x.f1))) ?hg ?ho ?hn ?hr ?_; (case ho => rfl); (case hg => rfl); (case hn => rfl); (case hr => first | (go_simp; done) | (go_simp; rfl)); intro w14 hw; have n0_ := Aside0.mk ((congrArg (fun W_ => W_.heap[g1]?) hw).trans (blk_far (p := ⟨g3, _, none⟩) (blk_far (p := ⟨g3, _, none⟩) HBK.out HN4.out _) HN4.out _)); have n1_ : Aside0 (Below w.heap.size w w14) := ⟨by rw [hw]; exact below_set (below_set HB.out HG3.out) HG3.out⟩; have n2_ : Aside0 (Buf w14 g2 bs) := ⟨⟨hBf.out.1, by rw [hw]; exact blk_far (p := ⟨g3, _, none⟩) (blk_far (p := ⟨g3, _, none⟩) hBf.out.2 HN3.out _) HN3.out _⟩⟩; have n3_ : Aside0 (w14.heap[g3]? = some (.cells #[.bool false, .string x.f1] 33 (0, 0))) := ⟨by rw [hw]; exact blk_set (blk_set HBX.out 0 _) 1 _⟩; clear HBK HB hBf HBX hz0 hz1 hf0 hf1 hw; have HBK := n0_; have HB := n1_; have hBf := n2_; have HBX := n3_; clear n0_ n1_ n2_ n3_; have hz0 : w14.cell? ⟨g3, 0, none⟩ = some (.bool false) := (blk_cell HBX.out 0).trans rfl; have hz1 : w14.cell? ⟨g3, 1, none⟩ = some (.string x.f1) := (blk_cell HBX.out 1).trans rfl) | ((with_reducible refine gate_dst (N := 35) rfl ?_); refine buf_append1 rfl (N := 35) rfl _ _ rfl (g := g2) (bs := bs) (y := 255) rfl rfl hBf.out hN.out (by have h1_ := HL.out; omega) ?_; intro w15 hbw hgw; have n0_ := Aside0.mk (blk_grown (blk_alloc HBK.out _) hgw (by simpa using fun e_ => HN2.out e_.symm)); have n1_ := Aside0.mk (pw_below_grown (below_alloc HB.out _) (some g2) (Below.size (below_alloc HB.out _)) hgw (fun k_ e_ => by cases e_; exact HG2.out)); have n2_ := Aside0.mk hbw; have n3_ := Aside0.mk (blk_grown (blk_alloc HBX.out _) hgw (by simpa using fun e_ => HN3.out e_.symm)); clear HBK HB hBf HBX hbw hgw hz0 hz1; have HBK := n0_; have HB := n1_; have hBf := n2_; have HBX := n3_; clear n0_ n1_ n2_ n3_; have hz1 : w15.cell? ⟨g3, 1, none⟩ = some (.string x.f1) := (blk_cell HBX.out 1).trans rfl))
        go_roundg (l.length - (k + 1))
        case measure => omega
        case rel => exact ⟨k + 1, _, by omega, by omega, by go_num, rfl, ⟨by rw [HES.out, hN.out]; simp⟩, ⟨by rw [HES.out]; exact hBf.out⟩, HBK, HB⟩
    · have hltz : ¬ (k : Int) < (l.length : Int) := by omega
      obtain rfl : k = l.length := by omega
      have HFT : Aside0 (hiL 8 a ++ (l.length : Int) :: slotsB (l.take l.length) = encL a l) := ⟨by rw [List.take_length]; rfl⟩
      have hn240 : n ≤ 240 := by rw [hN0.out]; exact hBf0.out.1
      have hBf := hBf0
      rw [HFT.out] at hBf
      clear hBf0 hN0
      have hsl := fun (W_ : World) => buf_slice W_ (g := g2) hn240
      have htx := buf_text hBf.out
      go_wp2
      go_ret2
      exact ⟨rfl, HB.out⟩

set_option maxHeartbeats 4000000 in
set_option maxRecDepth 100000 in
theorem slab_Encode.bad (a : Int) (A : Option Addr) (c : Nat) (l : List S33) (w : World) (hr : Kd.C k33 w A l.length l) (hc : l.length ≤ c) (hg : goodP a l = false) :
    Calls Try.prog 32 #[.agg #[.int .i64 a, .slice A l.length c]] w fun e w' => e = .returned (.tuple #[.string (⟨#[]⟩ : ByteArray), .int .i64 1]) ∧ Below w.heap.size w w' := by
  have hu24 := Try.underlying24
  have HG : Aside0 (slabGood.f a l = some false) := ⟨by unfold slabGood.f; rw [hg]⟩
  have HR := Aside0.mk hr
  have HC := Aside0.mk hc
  clear hr hc hg
  have HB := Aside0.mk (Below.refl w.heap.size w)
  go_enter Try.func32, Try.ntmps32
  go_wp2_with (first | ((with_reducible refine gate_dst (N := 1) rfl ?_); (try (refine gate_guard (by rfl) ?_; dsimp only)); refine box_event ?hg (N := 1) ?hd (cs := #[.int .i64 a, .slice A l.length c]) (t := 24) ?hr ?_; (case hd => rfl); (case hg => rfl); (case hr => first | (go_simp; done) | (go_simp; rfl)); intro g1 hg1 w5 hbox hb; have HBK := Aside0.mk hbox; have n1_ := Aside0.mk (below_step HB.out hb); have HG1 := Aside0.mk (by rw [hg1]; exact HB.out.size : w.heap.size ≤ g1); clear HB; have HB := n1_; clear n1_ hbox hb hg1; have hc0 : w5.cell? ⟨g1, 0, none⟩ = some (.int .i64 a) := (blk_cell HBK.out 0).trans rfl; have hc1 : w5.cell? ⟨g1, 1, none⟩ = some (.slice A l.length c) := (blk_cell HBK.out 1).trans rfl) | ((with_reducible refine gate_callee (f := 34) rfl ?_); refine goesL_ (some 8) rfl rfl Try.func34 (by kernel_rfl) rfl #[.agg #[.int .i64 a, .slice A l.length c]] rfl (by (try simp only [List.map_toArray, List.map_cons, List.map_nil]); first | done | rfl) ?_; (with_reducible refine (slabGood.calls a _ _ l false _ ?side1 ?side2 HG.out).mono ?_); (case side1 => exact Kd.C_below HR.out HB.out); (case side2 => exact HC.out); rintro e w6 ⟨rfl, hb⟩; refine ⟨_, rfl, ?_⟩; have n0_ := Aside0.mk (blk_below (g := g1) HBK.out hb); have n1_ := Aside0.mk (below_step HB.out hb); clear HB HBK hc0 hc1 hb; have HBK := n0_; have HB := n1_; clear n0_ n1_))
  go_ret2
  exact ⟨rfl, HB.out⟩
theorem slab_Encode.calls (a : Int) (A : Option Addr) (c : Nat) (l : List S33) (r1 : ByteArray) (r2 : Int) (w : World) (hr : Kd.C k33 w A l.length l) (hc : l.length ≤ c) (h : slab_Encode.f a l = some (r1, r2)) :
    Calls Try.prog 32 #[.agg #[.int .i64 a, .slice A l.length c]] w fun e w' => e = .returned (.tuple #[.string r1, .int .i64 r2]) ∧ Below w.heap.size w w' := by
  unfold slab_Encode.f at h
  cases hg : goodP a l with
  | true =>
    rw [hg] at h
    simp at h
    obtain ⟨rfl, rfl⟩ := h
    exact slab_Encode.good a A c l w hr hc hg
  | false =>
    rw [hg] at h
    simp at h
    obtain ⟨rfl, rfl⟩ := h
    exact slab_Encode.bad a A c l w hr hc hg
end Go.Proofs.Ytfjmnaobfbmllaa.M

namespace Go.Proofs.Ytfjmnaobfbmllaa.M
open Go.RowKit Go.Proofs.YtfjmnaobfbmllaaW.PrintWords Go.Proofs.YtfjmnaobfbmllaaW.PrintLast Go.Proofs.YtfjmnaobfbmllaaW.PrintMore
set_option linter.unusedVariables false
set_option linter.unusedSimpArgs false

theorem ba_inj {x y : ByteArray} : x.toList = y.toList ↔ x = y := by
  constructor
  · intro h
    rw [ByteArray.toList_eq, ByteArray.toList_eq] at h
    cases x; cases y
    congr
    exact Array.toList_inj.mp h
  · rintro rfl; rfl
theorem ba_beq (x y : ByteArray) : (x.toList == y.toList) = decide (x = y) := by
  rw [Bool.eq_iff_iff]; simp [ba_inj]
theorem ba_nil (x : ByteArray) : x.toList = [] ↔ x = ⟨#[]⟩ := by
  rw [← ba_inj (y := ⟨#[]⟩)]; simp [ByteArray.toList_eq]
theorem s33_ext (x y : S33) : x = y ↔ x.f0 = y.f0 ∧ x.f1 = y.f1 := by cases x; cases y; simp
instance decS33 : DecidableEq S33 := fun x y => decidable_of_iff (x.f0 = y.f0 ∧ x.f1 = y.f1) (s33_ext x y).symm
theorem s33_beq (x y : S33) : (x.f0 == y.f0 && (x.f1.toList == y.f1.toList)) = decide (x = y) := by
  rw [Bool.eq_iff_iff]; simp [ba_inj, s33_ext]
theorem s33_ne (x y : S33) : ((!(x.f0 == y.f0) || (!(x.f1.toList == y.f1.toList))) = true) ↔ x ≠ y := by
  have := s33_beq x y
  rw [← Bool.not_and, this]; simp

/-! ### an image's slot -/
def slotL (l : List S33) (i : Nat) : S33 := l.getD i z33
def atP (a : Int) (l : List S33) (i : Int) : S33 := if goodP a l = true ∧ 0 ≤ i then slotL l i.toNat else z33
theorem slot_lt (l : List S33) (i : Nat) (h : i < l.length) : slotL l i = l[i] := by
  simp [slotL, List.getD_eq_getElem?_getD, List.getElem?_eq_getElem h]
theorem slot_ge (l : List S33) (i : Nat) (h : l.length ≤ i) : slotL l i = z33 := by
  simp [slotL, List.getD_eq_getElem?_getD, List.getElem?_eq_none h]
/-- A slot that can be. -/
def fineS (x : S33) : Prop := (x.f0 = false → x = z33) ∧ x.f1.size ≤ 200
theorem odd_fine (x : S33) : oddS x = false ↔ fineS x := by
  unfold oddS fineS
  rw [Bool.or_eq_false_iff, Bool.and_eq_false_iff, decide_eq_false_iff_not, Nat.not_lt]
  refine and_congr ?_ Iff.rfl
  rw [s33_ext]
  cases hx : x.f0 with
  | true => simp
  | false => simp [z33, ba_nil]
theorem fine_z : fineS z33 := ⟨fun _ => rfl, by simp [z33, ByteArray.size]⟩
theorem any_fine (l : List S33) : l.any oddS = false ↔ ∀ x ∈ l, fineS x := by
  rw [List.any_eq_false]
  exact forall_congr' fun x => imp_congr_right fun _ => by rw [← odd_fine]; simp
theorem slot_fine (l : List S33) (h : ∀ x ∈ l, fineS x) (i : Nat) : fineS (slotL l i) := by
  by_cases hi : i < l.length
  · rw [slot_lt l i hi]; exact h _ (List.getElem_mem hi)
  · rw [slot_ge l i (by omega)]; exact fine_z

/-! ### canonical images -/
theorem slot_trim (xs : List S33) (h : ∀ x ∈ xs, fineS x) (i : Nat) : slotL (trimS xs) i = slotL xs i := by
  have H : ∀ n (xs : List S33), xs.length = n → (∀ x ∈ xs, fineS x) → slotL (trimS xs) i = slotL xs i := by
    intro n
    induction n with
    | zero => intro xs h _; rw [List.eq_nil_of_length_eq_zero h]; rfl
    | succ n ih =>
      intro xs h hf
      obtain ⟨ys, y, rfl, _, _, hl⟩ := snoc_of xs (by omega)
      cases hy : y.f0 with
      | true => rw [trim_snoc_used ys y hy]
      | false =>
        rw [trim_snoc_free ys y hy, ih ys (by omega) (fun x hx => hf x (by simp [hx]))]
        have hz := (hf y (by simp)).1 hy
        subst hz
        by_cases hi : i < ys.length
        · rw [slot_lt _ _ hi, slot_lt _ _ (by simp; omega), List.getElem_append_left hi]
        · rw [slot_ge _ _ (by omega)]
          by_cases hi2 : i = ys.length
          · subst hi2; rw [slot_lt _ _ (by simp)]; simp
          · rw [slot_ge _ _ (by simp; omega)]
  exact H _ xs rfl h
theorem lastUsed_get (l : List S33) (h : lastUsed l = true) (hl : 0 < l.length) : (slotL l (l.length - 1)).f0 = true := by
  rw [slot_lt l _ (by omega), ← last33 l hl]; exact h
theorem canon (l m : List S33) (hl : lastUsed l = true) (hm : lastUsed m = true) (h : ∀ i, slotL l i = slotL m i) : l = m := by
  have key : ∀ (l m : List S33), lastUsed l = true → (∀ i, slotL l i = slotL m i) → l.length ≤ m.length := by
    intro l m hl h
    rcases Nat.lt_or_ge m.length l.length with hlt | hge
    · have h1 := lastUsed_get l hl (by omega)
      rw [h, slot_ge m _ (by omega)] at h1
      cases h1
    · exact hge
  have e : l.length = m.length := Nat.le_antisymm (key l m hl h) (key m l hm (fun i => (h i).symm))
  refine List.ext_getElem e fun i h1 h2 => ?_
  have := h i
  rwa [slot_lt l i h1, slot_lt m i h2] at this

/-! ### puts -/
theorem ext_len (l : List S33) (n : Nat) : (extS l n).length = max l.length n := by unfold extS; simp; omega
theorem slot_ext (l : List S33) (n i : Nat) : slotL (extS l n) i = slotL l i := by
  unfold extS
  by_cases hi : i < l.length
  · rw [slot_lt _ _ (by simp; omega), slot_lt _ _ hi, List.getElem_append_left hi]
  · rw [slot_ge l i (by omega)]
    by_cases hi2 : i < (l ++ List.replicate (n - l.length) z33).length
    · rw [slot_lt _ _ hi2, List.getElem_append_right (by omega)]; simp
    · rw [slot_ge _ _ (by omega)]
theorem slot_set (l : List S33) (s i : Nat) (x : S33) (h : s < l.length) : slotL (l.set s x) i = if i = s then x else slotL l i := by
  unfold slotL
  rw [List.getD_eq_getElem?_getD, List.getElem?_set]
  by_cases e : s = i
  · subst e; simp [h]
  · rw [if_neg e, if_neg (fun he => e he.symm), List.getD_eq_getElem?_getD]
theorem ext_fine (l : List S33) (n : Nat) (h : ∀ x ∈ l, fineS x) : ∀ x ∈ extS l n, fineS x := by
  intro x hx
  unfold extS at hx
  rw [List.mem_append, List.mem_replicate] at hx
  rcases hx with hx | hx
  · exact h x hx
  · rw [hx.2]; exact fine_z
theorem set_fine (l : List S33) (s : Nat) (x : S33) (h : ∀ y ∈ l, fineS y) (hx : fineS x) : ∀ y ∈ l.set s x, fineS y := by
  intro y hy
  rcases List.mem_or_eq_of_mem_set hy with hy | rfl
  · exact h y hy
  · exact hx
theorem put_fine (l : List S33) (s : Nat) (x : S33) (h : ∀ y ∈ l, fineS y) (hx : fineS x) : ∀ y ∈ putL l s x, fineS y := fun y hy => set_fine _ _ _ (ext_fine l _ h) hx y (trim_sub _ y hy)
theorem put_slot (l : List S33) (s i : Nat) (x : S33) (h : ∀ y ∈ l, fineS y) (hx : fineS x) : slotL (putL l s x) i = if i = s then x else slotL l i := by
  unfold putL
  rw [slot_trim _ (set_fine _ _ _ (ext_fine l _ h) hx), slot_set _ _ _ _ (by rw [ext_len]; omega), slot_ext]
theorem put_len (l : List S33) (s : Nat) (x : S33) : (putL l s x).length ≤ max l.length (s + 1) := by
  unfold putL
  refine Nat.le_trans (trim_length _) ?_
  rw [List.length_set, ext_len]; omega
theorem put_last (l : List S33) (s : Nat) (x : S33) : lastUsed (putL l s x) = true := trim_last _
theorem put_put (l : List S33) (s : Nat) (x y : S33) (h : ∀ y ∈ l, fineS y) (hx : fineS x) (hy : fineS y) (hl : lastUsed l = true) (he : y = slotL l s) : putL (putL l s x) s y = l := by
  refine canon _ _ (put_last _ _ _) hl fun i => ?_
  rw [put_slot _ _ _ _ (put_fine l s x h hx) hy, put_slot _ _ _ _ h hx]
  by_cases e : i = s
  · rw [if_pos e, he, e]
  · rw [if_neg e, if_neg e]

theorem trim_id (xs : List S33) (h : lastUsed xs = true) : trimS xs = xs := by
  rcases List.eq_nil_or_concat xs with rfl | ⟨ys, y, rfl⟩
  · rfl
  · rw [List.concat_eq_append] at h ⊢
    exact trim_snoc_used ys y (by simpa [lastUsed] using h)
/-- What is put, used, leaves nothing to trim. -/
theorem put_used (l : List S33) (s : Nat) (x : S33) (hl : lastUsed l = true) (hx : x.f0 = true) : putL l s x = (extS l (s + 1)).set s x := by
  unfold putL
  refine trim_id _ ?_
  have hs : s < (extS l (s + 1)).length := by rw [ext_len]; omega
  have hp : 0 < ((extS l (s + 1)).set s x).length := by rw [List.length_set]; omega
  rw [last33 _ hp]
  have e : ((extS l (s + 1)).set s x)[((extS l (s + 1)).set s x).length - 1] = slotL ((extS l (s + 1)).set s x) (((extS l (s + 1)).set s x).length - 1) := (slot_lt _ _ (by omega)).symm
  rw [e, slot_set _ _ _ _ hs, List.length_set, ext_len, slot_ext]
  split
  · exact hx
  · rename_i hne
    have : max l.length (s + 1) - 1 = l.length - 1 := by omega
    rw [this]
    exact lastUsed_get l hl (by omega)
theorem sumS_append (l m : List S33) : sumS (l ++ m) = sumS l + sumS m := by
  induction l with
  | nil => simp [sumS]
  | cons x l ih => simp only [List.cons_append, sumS, ih]; omega
theorem sumS_zeros (n : Nat) : sumS (List.replicate n z33) = n := by
  induction n with
  | zero => rfl
  | succ n ih => rw [List.replicate_succ]; show 1 + 0 + sumS (List.replicate n z33) = n + 1; omega
theorem sumS_set (l : List S33) (s : Nat) (x : S33) (h : s < l.length) : sumS (l.set s x) + l[s].f1.size = sumS l + x.f1.size := by
  induction l generalizing s with
  | nil => simp at h
  | cons y l ih =>
    cases s with
    | zero => simp [sumS]; omega
    | succ s =>
      have := ih s (by simpa using h)
      simp only [List.set_cons_succ, sumS, List.getElem_cons_succ]
      omega
theorem sumS_ext (l : List S33) (n : Nat) : sumS (extS l n) = sumS l + (n - l.length) := by
  unfold extS; rw [sumS_append, sumS_zeros]
theorem put_sum (l : List S33) (s : Nat) (x : S33) (hl : lastUsed l = true) (hx : x.f0 = true) : sumS (putL l s x) + (slotL l s).f1.size = sumS l + (s + 1 - l.length) + x.f1.size := by
  have hs : s < (extS l (s + 1)).length := by rw [ext_len]; omega
  have := sumS_set (extS l (s + 1)) s x hs
  rw [sumS_ext] at this
  rw [put_used l s x hl hx, ← slot_ext l (s + 1) s, slot_lt _ _ hs]
  exact this
theorem good_iff (a : Int) (l : List S33) : goodP a l = true ↔ 0 ≤ a ∧ a ≤ 1099511627776 ∧ l.length ≤ 32 ∧ (∀ x ∈ l, fineS x) ∧ lastUsed l = true ∧ rawSize l ≤ 240 := by
  unfold goodP
  rw [← any_fine]
  simp [and_assoc]
theorem put_len32 (l : List S33) (s : Nat) (x : S33) (hl : l.length ≤ 32) (hs : s < 32) : (putL l s x).length ≤ 32 := by
  have := put_len l s x; omega
theorem bad_fine (x : S33) (hb : badS x = false) (hs : x.f1.size ≤ 200) : fineS x := by
  rw [← odd_fine]; unfold oddS; unfold badS at hb; rw [hb]; simp; omega
theorem fine_bad (x : S33) (h : fineS x) : badS x = false := by
  rw [← odd_fine] at h; unfold oddS at h; unfold badS; simp only [Bool.or_eq_false_iff] at h; exact h.1
/-- What a put that is done tells. -/
theorem put_ok {a : Int} {l : List S33} {s : Int} {x : S33} {q : Int × List S33 × Int} (h : putP a l s x = q) (h0 : q.2.2 = 0) :
    goodP a l = true ∧ 0 ≤ s ∧ s < 32 ∧ fineS x ∧ rawSize (putL l s.toNat x) ≤ 240 ∧ q = (a, putL l s.toNat x, 0) := by
  unfold putP at h
  split at h
  · subst h; cases h0
  · rename_i hn
    split at h
    · subst h; cases h0
    · split at h
      · subst h; cases h0
      · rename_i h2 h3
        simp only [not_or] at hn
        have hb : badS x = false := by simpa using hn.2.2.2
        exact ⟨by simpa using hn.1, by omega, by omega, bad_fine x hb (by omega), by omega, h.symm⟩
theorem put_done {a : Int} {l : List S33} {s : Nat} {x : S33} (hg : goodP a l = true) (hs : s < 32) (hx : fineS x) :
    putP a l s x = if 240 < rawSize (putL l s x) then (0, [], 22) else (a, putL l s x, 0) := by
  rw [putP_ok a l s x hg (by omega) (fine_bad x hx), if_neg (by have := hx.2; omega)]
  rfl
theorem put_good {a : Int} {l : List S33} {s : Nat} {x : S33} (hg : goodP a l = true) (hs : s < 32) (hx : fineS x) (h : rawSize (putL l s x) ≤ 240) : goodP a (putL l s x) = true := by
  rw [good_iff] at hg ⊢
  exact ⟨hg.1, hg.2.1, put_len32 l s x hg.2.2.1 hs, put_fine l s x hg.2.2.2.1 hx, put_last l s x, h⟩
theorem put_fail {a : Int} {l : List S33} {s : Int} {x : S33} {q : Int × List S33 × Int} (h : putP a l s x = q) (h0 : q.2.2 ≠ 0) : q.1 = 0 ∧ q.2.1 = [] := by
  unfold putP at h
  split at h
  · subst h; exact ⟨rfl, rfl⟩
  · split at h
    · subst h; exact ⟨rfl, rfl⟩
    · split at h
      · subst h; exact ⟨rfl, rfl⟩
      · subst h; exact absurd rfl h0
end Go.Proofs.Ytfjmnaobfbmllaa.M

namespace Go.Proofs.Ytfjmnaobfbmllaa.M
open Go.RowKit Go.Proofs.YtfjmnaobfbmllaaW.PrintWords Go.Proofs.YtfjmnaobfbmllaaW.PrintLast Go.Proofs.YtfjmnaobfbmllaaW.PrintMore
attribute [local go_sem] max2_int min2_int max_two min_two max_three min_three max_four min_four   -- for this text's walks alone
set_option linter.unusedVariables false
set_option linter.unusedSimpArgs false

/-! ### seneschallaw03_great: function 31 -/
def seneschallaw03_great.l0 : Nat → Int → Int → List (S33) → Option (Bool)
  | 0, _, _, _ => none
  | k + 1, x3, x102000, x102001 => if x3 < (x102001.length : Int) then (if 0 ≤ x3 then (if (((rd_T33 x102001 x3).f1).size : Int) > 4096 then (some true) else (seneschallaw03_great.l0 k (wrap64 (x3 + 1)) x102000 x102001)) else (none)) else (some false)
def seneschallaw03_great.f (k : Nat) (a0_0 : Int) (l0_1 : List (S33)) : Option (Bool) := if (l0_1.length : Int) > 100 then (some true) else (seneschallaw03_great.l0 k 0 a0_0 l0_1)
set_option maxHeartbeats 8000000 in
set_option maxRecDepth 100000 in
theorem seneschallaw03_great.calls (k : Nat) (a0_0 : Int) (A0_1 : Option Addr) (c0_1 : Nat) (l0_1 : List (S33)) (r : Bool) (w : World) (hr0_1 : Kd.C k33 w A0_1 l0_1.length l0_1) (hc0_1 : l0_1.length ≤ c0_1) (h : seneschallaw03_great.f k a0_0 l0_1 = some r) :
    Calls Try.prog 31 #[.agg #[.int .i64 a0_0, .slice A0_1 l0_1.length c0_1]] w fun e w' => e = .returned (.bool r) ∧ Below w.heap.size w w' := by
  have hu24 := Try.underlying24
  have HR0_1 := Aside0.mk hr0_1
  have HC0_1 := Aside0.mk hc0_1
  clear hr0_1 hc0_1
  have HB := Aside0.mk (Below.refl w.heap.size w)
  have H : (if (l0_1.length : Int) > 100 then (some true) else (seneschallaw03_great.l0 k 0 a0_0 l0_1)) = some r := h
  clear h
  by_cases c2 : (l0_1.length : Int) > 100
  · rw [if_pos c2] at H
    have c2b0 : decide (100 < (l0_1.length : Int)) = true := decide_eq_true c2
    have c2b1 : decide (100 < l0_1.length) = true := decide_eq_true (by omega)
    clear c2
    obtain rfl := Option.some.inj H
    go_enter Try.func31, Try.ntmps31
    go_wp2_with (first | ((with_reducible refine gate_dst (N := 1) rfl ?_); refine box_event ?hg (N := 1) ?hd (cs := #[.int .i64 a0_0, .slice A0_1 l0_1.length c0_1]) (t := 24) ?hr ?_; (case hd => rfl); (case hg => rfl); (case hr => first | (go_simp; done) | (go_simp; rfl)); intro gb101 hg w3 hbox hb; have n0_ := Aside0.mk (below_step (by repeat (first | (with_reducible first | exact HB.out | apply below_alloc | apply pw_below_drewN | apply below_drew1) | exact HB.out)) hb); have n1_ := Aside0.mk (hbox); have n2_ := Aside0.mk ((by rw [hg]; exact (below_size (by repeat (first | (with_reducible first | exact HB.out | apply below_alloc | apply pw_below_drewN | apply below_drew1) | exact HB.out))) : w.heap.size ≤ gb101)); have n3_ := Aside0.mk ((by rw [hg]; exact (below_size (by repeat (first | (with_reducible first | exact HB.out | apply below_alloc | apply pw_below_drewN | apply below_drew1) | exact HB.out))) : w.heap.size ≤ gb101)); clear HB; have HB := n0_; have BK101 := n1_; have GW101 := n2_; have GE101 := n3_; clear n0_ n1_ n2_ n3_; clear hb hbox hg; have hcz4_0 : w3.cell? ⟨gb101, 0, none⟩ = some (.int .i64 a0_0) := (blk_cell BK101.out 0).trans rfl; have hcz4_1 : w3.cell? ⟨gb101, 1, none⟩ = some (.slice A0_1 l0_1.length c0_1) := (blk_cell BK101.out 1).trans rfl; have hfz4_0 := blk_frozen BK101.out 0; have hfz4_1 := blk_frozen BK101.out 1))
    go_ret
    exact ⟨by first | rfl | (simp [errW_none, errW_some] <;> rfl) | (simp [*, errW_none, errW_some] <;> rfl), by repeat (first | (with_reducible first | exact HB.out | apply below_alloc | apply pw_below_drewN | apply below_drew1 | refine below_set ?_ GE101.out) | exact HB.out)⟩
  · rw [if_neg c2] at H
    have c2b0 : decide (100 < (l0_1.length : Int)) = false := decide_eq_false c2
    have c2b1 : decide (100 < l0_1.length) = false := decide_eq_false (by omega)
    clear c2
    have H' := Aside0.mk H
    clear H
    go_enter Try.func31, Try.ntmps31
    go_wp2_with (first | ((with_reducible refine gate_dst (N := 1) rfl ?_); refine box_event ?hg (N := 1) ?hd (cs := #[.int .i64 a0_0, .slice A0_1 l0_1.length c0_1]) (t := 24) ?hr ?_; (case hd => rfl); (case hg => rfl); (case hr => first | (go_simp; done) | (go_simp; rfl)); intro gb101 hg w5 hbox hb; have n0_ := Aside0.mk (below_step (by repeat (first | (with_reducible first | exact HB.out | apply below_alloc | apply pw_below_drewN | apply below_drew1) | exact HB.out)) hb); have n1_ := Aside0.mk (hbox); have n2_ := Aside0.mk ((by rw [hg]; exact (below_size (by repeat (first | (with_reducible first | exact HB.out | apply below_alloc | apply pw_below_drewN | apply below_drew1) | exact HB.out))) : w.heap.size ≤ gb101)); have n3_ := Aside0.mk ((by rw [hg]; exact (below_size (by repeat (first | (with_reducible first | exact HB.out | apply below_alloc | apply pw_below_drewN | apply below_drew1) | exact HB.out))) : w.heap.size ≤ gb101)); clear HB; have HB := n0_; have BK101 := n1_; have GW101 := n2_; have GE101 := n3_; clear n0_ n1_ n2_ n3_; clear hb hbox hg; have hcz6_0 : w5.cell? ⟨gb101, 0, none⟩ = some (.int .i64 a0_0) := (blk_cell BK101.out 0).trans rfl; have hcz6_1 : w5.cell? ⟨gb101, 1, none⟩ = some (.slice A0_1 l0_1.length c0_1) := (blk_cell BK101.out 1).trans rfl; have hfz6_0 := blk_frozen BK101.out 0; have hfz6_1 := blk_frozen BK101.out 1))
    go_loopg [3] k (fun kq v3 w' => ∃ (x3_1 : Int), v3 = .int .i64 x3_1 ∧ Aside0 (seneschallaw03_great.l0 kq x3_1 a0_0 l0_1 = some r) ∧ Aside0 (kq ≤ k) ∧ Aside0 (w'.heap[gb101]? = some (.cells #[.int .i64 a0_0, (.slice A0_1 l0_1.length c0_1)] 24 (0, 0))) ∧ Aside0 (Below w.heap.size w w'))
    case atStart => exact ⟨(0), (by first | rfl | (simp; done) | (simp [*]; done)), H', ⟨Nat.le_refl _⟩, ⟨by (with_reducible repeat (first | refine blk_drewN ?_ _ | refine blk_drew ?_ | refine blk_alloc ?_ _)); exact BK101.out⟩, ⟨by repeat (first | (with_reducible first | exact HB.out | apply below_alloc | apply pw_below_drewN | apply below_drew1 | refine below_set ?_ GE101.out) | exact HB.out)⟩⟩
    case round =>
      clear H'
      try clear c2
      try clear c2b0
      try clear c2b1
      try clear p2
      try clear c3
      try clear hcz4_0
      try clear hcz4_1
      try clear hcz6_0
      try clear hcz6_1
      try clear hfz4_0
      try clear hfz4_1
      try clear hfz6_0
      try clear hfz6_1
      obtain ⟨x3_1, rfl, HA, HK1, BK101, HB⟩ := hrel
      cases gk with
      | zero => exact absurd HA.out (by simp [seneschallaw03_great.l0])
      | succ k1 =>
        have H := HA.out
        clear HA
        simp only [seneschallaw03_great.l0] at H
        by_cases c7 : x3_1 < (l0_1.length : Int)
        · rw [if_pos c7] at H
          have c7b0 : decide (x3_1 < (l0_1.length : Int)) = true := decide_eq_true c7
          clear c7
          by_cases c8 : 0 ≤ x3_1
          · rw [if_pos c8] at H
            have c8b0 : decide (0 ≤ x3_1) = true := decide_eq_true c8
            clear c8
            by_cases c9 : (((rd_T33 l0_1 x3_1).f1).size : Int) > 4096
            · rw [if_pos c9] at H
              have c9b0 : decide (4096 < (((rd_T33 l0_1 x3_1).f1).size : Int)) = true := decide_eq_true c9
              have c9b1 : decide (4096 < ((rd_T33 l0_1 x3_1).f1).size) = true := decide_eq_true (by omega)
              clear c9
              obtain rfl := Option.some.inj H
              have hcz10_0 : wr.cell? ⟨gb101, 0, none⟩ = some (.int .i64 a0_0) := (blk_cell BK101.out 0).trans rfl
              have hcz10_1 : wr.cell? ⟨gb101, 1, none⟩ = some (.slice A0_1 l0_1.length c0_1) := (blk_cell BK101.out 1).trans rfl
              have hfz10_0 := blk_frozen BK101.out 0
              have hfz10_1 := blk_frozen BK101.out 1
              have p102 : 0 ≤ (x3_1 : Int) := of_decide_eq_true (by first | (with_reducible assumption) | assumption)
              have q102 : x3_1 < (l0_1.length : Int) := of_decide_eq_true (by first | (with_reducible assumption) | assumption)
              obtain ⟨ad102, e102, hx102_0, hx102_1⟩ := at_T33 HR0_1.out x3_1 p102 q102
              cases e102
              replace hx102_0 := (HB.out.cell (World.block_lt_of_cell? w _ hx102_0)).trans hx102_0
              replace hx102_1 := (HB.out.cell (World.block_lt_of_cell? w _ hx102_1)).trans hx102_1
              replace p102 := eq_true p102
              replace q102 := eq_true q102
              go_wp2
              go_ret
              exact ⟨by first | rfl | (simp [errW_none, errW_some] <;> rfl) | (simp [*, errW_none, errW_some] <;> rfl), by repeat (first | (with_reducible first | exact HB.out | apply below_alloc | apply pw_below_drewN | apply below_drew1 | refine below_set ?_ GE101.out) | exact HB.out)⟩
            · rw [if_neg c9] at H
              have c9b0 : decide (4096 < (((rd_T33 l0_1 x3_1).f1).size : Int)) = false := decide_eq_false c9
              have c9b1 : decide (4096 < ((rd_T33 l0_1 x3_1).f1).size) = false := decide_eq_false (by omega)
              clear c9
              have H' := Aside0.mk H
              clear H
              have hcz11_0 : wr.cell? ⟨gb101, 0, none⟩ = some (.int .i64 a0_0) := (blk_cell BK101.out 0).trans rfl
              have hcz11_1 : wr.cell? ⟨gb101, 1, none⟩ = some (.slice A0_1 l0_1.length c0_1) := (blk_cell BK101.out 1).trans rfl
              have hfz11_0 := blk_frozen BK101.out 0
              have hfz11_1 := blk_frozen BK101.out 1
              have p102 : 0 ≤ (x3_1 : Int) := of_decide_eq_true (by first | (with_reducible assumption) | assumption)
              have q102 : x3_1 < (l0_1.length : Int) := of_decide_eq_true (by first | (with_reducible assumption) | assumption)
              obtain ⟨ad102, e102, hx102_0, hx102_1⟩ := at_T33 HR0_1.out x3_1 p102 q102
              cases e102
              replace hx102_0 := (HB.out.cell (World.block_lt_of_cell? w _ hx102_0)).trans hx102_0
              replace hx102_1 := (HB.out.cell (World.block_lt_of_cell? w _ hx102_1)).trans hx102_1
              replace p102 := eq_true p102
              replace q102 := eq_true q102
              go_wp2
              go_roundg k1
              case measure => have := HK1.out; omega
              case rel => exact ⟨(wrap64 (x3_1 + 1)), (by first | rfl | (simp; done) | (simp [*]; done)), H', ⟨by have := HK1.out; omega⟩, ⟨by (with_reducible repeat (first | refine blk_drewN ?_ _ | refine blk_drew ?_ | refine blk_alloc ?_ _)); exact BK101.out⟩, ⟨by repeat (first | (with_reducible first | exact HB.out | apply below_alloc | apply pw_below_drewN | apply below_drew1 | refine below_set ?_ GE101.out) | exact HB.out)⟩⟩
          · rw [if_neg c8] at H
            exact absurd H (by simp)
        · rw [if_neg c7] at H
          have c7b0 : decide (x3_1 < (l0_1.length : Int)) = false := decide_eq_false c7
          clear c7
          obtain rfl := Option.some.inj H
          have hcz12_0 : wr.cell? ⟨gb101, 0, none⟩ = some (.int .i64 a0_0) := (blk_cell BK101.out 0).trans rfl
          have hcz12_1 : wr.cell? ⟨gb101, 1, none⟩ = some (.slice A0_1 l0_1.length c0_1) := (blk_cell BK101.out 1).trans rfl
          have hfz12_0 := blk_frozen BK101.out 0
          have hfz12_1 := blk_frozen BK101.out 1
          go_wp2
          go_ret
          exact ⟨by first | rfl | (simp [errW_none, errW_some] <;> rfl) | (simp [*, errW_none, errW_some] <;> rfl), by repeat (first | (with_reducible first | exact HB.out | apply below_alloc | apply pw_below_drewN | apply below_drew1 | refine below_set ?_ GE101.out) | exact HB.out)⟩

end Go.Proofs.Ytfjmnaobfbmllaa.M

namespace Go.Proofs.Ytfjmnaobfbmllaa.M
open Go.RowKit Go.Proofs.YtfjmnaobfbmllaaW.PrintWords Go.Proofs.YtfjmnaobfbmllaaW.PrintLast Go.Proofs.YtfjmnaobfbmllaaW.PrintMore
attribute [local go_sem] max2_int min2_int max_two min_two max_three min_three max_four min_four   -- for this text's walks alone
set_option linter.unusedVariables false
set_option linter.unusedSimpArgs false

/-! ### slab_Size: function 36 -/
def slab_Size.f (a0_0 : Int) (l0_1 : List (S33)) : Option (Int) := (slabGood.f a0_0 l0_1).bind fun t102 => (if t102 = true then ((slabSize0.f l0_1).bind fun t103 => (some t103)) else (some 0))
set_option maxHeartbeats 8000000 in
set_option maxRecDepth 100000 in
theorem slab_Size.calls (a0_0 : Int) (A0_1 : Option Addr) (c0_1 : Nat) (l0_1 : List (S33)) (r : Int) (w : World) (hr0_1 : Kd.C k33 w A0_1 l0_1.length l0_1) (hc0_1 : l0_1.length ≤ c0_1) (h : slab_Size.f a0_0 l0_1 = some r) :
    Calls Try.prog 36 #[.agg #[.int .i64 a0_0, .slice A0_1 l0_1.length c0_1]] w fun e w' => e = .returned (.int .i64 r) ∧ Below w.heap.size w w' := by
  have hu24 := Try.underlying24
  have HR0_1 := Aside0.mk hr0_1
  have HC0_1 := Aside0.mk hc0_1
  clear hr0_1 hc0_1
  have HB := Aside0.mk (Below.refl w.heap.size w)
  have H : ((slabGood.f a0_0 l0_1).bind fun t102 => (if t102 = true then ((slabSize0.f l0_1).bind fun t103 => (some t103)) else (some 0))) = some r := h
  clear h
  replace H := Option.bind_eq_some_iff.mp H
  obtain ⟨t102, A20, H⟩ := H
  replace H : (if t102 = true then ((slabSize0.f l0_1).bind fun t103 => (some t103)) else (some 0)) = some r := H
  have A2 := Aside0.mk A20
  clear A20
  by_cases c3 : t102 = true
  · subst c3
    have H1 : ((slabSize0.f l0_1).bind fun t103 => (some t103)) = some r := by rw [if_pos rfl] at H; exact H
    clear H
    have H := H1
    clear H1
    replace H := Option.bind_eq_some_iff.mp H
    obtain ⟨t103, A40, H⟩ := H
    replace H : (some t103) = some r := H
    have A4 := Aside0.mk A40
    clear A40
    obtain rfl := Option.some.inj H
    go_enter Try.func36, Try.ntmps36
    go_wp2_with (first | ((with_reducible refine gate_dst (N := 1) rfl ?_); refine box_event ?hg (N := 1) ?hd (cs := #[.int .i64 a0_0, .slice A0_1 l0_1.length c0_1]) (t := 24) ?hr ?_; (case hd => rfl); (case hg => rfl); (case hr => first | (go_simp; done) | (go_simp; rfl)); intro gb101 hg w5 hbox hb; have n0_ := Aside0.mk (below_step (by repeat (first | (with_reducible first | exact HB.out | apply below_alloc | apply pw_below_drewN | apply below_drew1) | exact HB.out)) hb); have n1_ := Aside0.mk (hbox); have n2_ := Aside0.mk ((by rw [hg]; exact (below_size (by repeat (first | (with_reducible first | exact HB.out | apply below_alloc | apply pw_below_drewN | apply below_drew1) | exact HB.out))) : w.heap.size ≤ gb101)); have n3_ := Aside0.mk ((by rw [hg]; exact (below_size (by repeat (first | (with_reducible first | exact HB.out | apply below_alloc | apply pw_below_drewN | apply below_drew1) | exact HB.out))) : w.heap.size ≤ gb101)); clear HB; have HB := n0_; have BK101 := n1_; have GW101 := n2_; have GE101 := n3_; clear n0_ n1_ n2_ n3_; clear hb hbox hg; have hcz6_0 : w5.cell? ⟨gb101, 0, none⟩ = some (.int .i64 a0_0) := (blk_cell BK101.out 0).trans rfl; have hcz6_1 : w5.cell? ⟨gb101, 1, none⟩ = some (.slice A0_1 l0_1.length c0_1) := (blk_cell BK101.out 1).trans rfl; have hfz6_0 := blk_frozen BK101.out 0; have hfz6_1 := blk_frozen BK101.out 1) | ((with_reducible refine gate_callee (f := 34) rfl ?_); refine goesL_ (some 4) rfl rfl Try.func34 (by kernel_rfl) rfl #[.agg #[.int .i64 a0_0, .slice A0_1 l0_1.length c0_1]] rfl (by (try simp only [List.map_toArray, List.map_cons, List.map_nil]); first | done | rfl | (simp only [List.length_drop, List.length_take]; rfl)) ?_; (with_reducible refine (slabGood.calls a0_0 _ _ l0_1 true _ ?side1 ?side2 A2.out).mono ?_); (case side1 => repeat (first | exact (Kd.C_below HR0_1.out HB.out) | (with_reducible refine Kd.C_alloc ?_ _) | (with_reducible refine Kd.C_drewN ?_ _) | (with_reducible refine Kd.C_drew ?_))); (case side2 => exact HC0_1.out); rintro e w7 ⟨rfl, hb⟩; refine ⟨_, rfl, ?_⟩; have n0_ := Aside0.mk (blk_below (g := gb101) (o := .cells #[.int .i64 a0_0, .slice A0_1 l0_1.length c0_1] 24 (0, 0)) (by (with_reducible repeat (first | refine blk_drewN ?_ _ | refine blk_drew ?_ | refine blk_alloc ?_ _)); exact BK101.out) hb); have n1_ := Aside0.mk (below_step (by repeat (first | (with_reducible first | exact HB.out | apply below_alloc | apply pw_below_drewN | apply below_drew1 | refine below_set ?_ GE101.out) | exact HB.out)) hb); clear BK101; clear HB; have BK101 := n0_; have HB := n1_; clear n0_ n1_; (try clear hb); (try clear hb2); (try clear hk); (try clear hi); have hcz8_0 : w7.cell? ⟨gb101, 0, none⟩ = some (.int .i64 a0_0) := (blk_cell BK101.out 0).trans rfl; have hcz8_1 : w7.cell? ⟨gb101, 1, none⟩ = some (.slice A0_1 l0_1.length c0_1) := (blk_cell BK101.out 1).trans rfl; have hfz8_0 := blk_frozen BK101.out 0; have hfz8_1 := blk_frozen BK101.out 1) | ((with_reducible refine gate_callee (f := 81) rfl ?_); refine goesL_ (some 8) rfl rfl Try.func81 (by kernel_rfl) rfl #[.slice A0_1 l0_1.length c0_1] rfl (by (try simp only [List.map_toArray, List.map_cons, List.map_nil]); first | done | rfl | (simp only [List.length_drop, List.length_take]; rfl)) ?_; (with_reducible refine (slabSize0.calls _ _ l0_1 t103 _ ?side1 ?side2 A4.out).mono ?_); (case side1 => repeat (first | exact (Kd.C_below HR0_1.out HB.out) | (with_reducible refine Kd.C_alloc ?_ _) | (with_reducible refine Kd.C_drewN ?_ _) | (with_reducible refine Kd.C_drew ?_))); (case side2 => exact HC0_1.out); rintro e w9 ⟨rfl, hb⟩; refine ⟨_, rfl, ?_⟩; have n0_ := Aside0.mk (blk_below (g := gb101) (o := .cells #[.int .i64 a0_0, .slice A0_1 l0_1.length c0_1] 24 (0, 0)) (by (with_reducible repeat (first | refine blk_drewN ?_ _ | refine blk_drew ?_ | refine blk_alloc ?_ _)); exact BK101.out) hb); have n1_ := Aside0.mk (below_step (by repeat (first | (with_reducible first | exact HB.out | apply below_alloc | apply pw_below_drewN | apply below_drew1 | refine below_set ?_ GE101.out) | exact HB.out)) hb); clear BK101; clear HB; have BK101 := n0_; have HB := n1_; clear n0_ n1_; (try clear hb); (try clear hb2); (try clear hk); (try clear hi)))
    go_ret
    exact ⟨by first | rfl | (simp [errW_none, errW_some] <;> rfl) | (simp [*, errW_none, errW_some] <;> rfl), by repeat (first | (with_reducible first | exact HB.out | apply below_alloc | apply pw_below_drewN | apply below_drew1 | refine below_set ?_ GE101.out) | exact HB.out)⟩
  · replace c3 := Bool.eq_false_iff.mpr c3
    subst c3
    have H1 : (some 0) = some r := by rw [if_neg (show ¬ (false = true) by decide)] at H; exact H
    clear H
    have H := H1
    clear H1
    obtain rfl := Option.some.inj H
    go_enter Try.func36, Try.ntmps36
    go_wp2_with (first | ((with_reducible refine gate_dst (N := 1) rfl ?_); refine box_event ?hg (N := 1) ?hd (cs := #[.int .i64 a0_0, .slice A0_1 l0_1.length c0_1]) (t := 24) ?hr ?_; (case hd => rfl); (case hg => rfl); (case hr => first | (go_simp; done) | (go_simp; rfl)); intro gb101 hg w10 hbox hb; have n0_ := Aside0.mk (below_step (by repeat (first | (with_reducible first | exact HB.out | apply below_alloc | apply pw_below_drewN | apply below_drew1) | exact HB.out)) hb); have n1_ := Aside0.mk (hbox); have n2_ := Aside0.mk ((by rw [hg]; exact (below_size (by repeat (first | (with_reducible first | exact HB.out | apply below_alloc | apply pw_below_drewN | apply below_drew1) | exact HB.out))) : w.heap.size ≤ gb101)); have n3_ := Aside0.mk ((by rw [hg]; exact (below_size (by repeat (first | (with_reducible first | exact HB.out | apply below_alloc | apply pw_below_drewN | apply below_drew1) | exact HB.out))) : w.heap.size ≤ gb101)); clear HB; have HB := n0_; have BK101 := n1_; have GW101 := n2_; have GE101 := n3_; clear n0_ n1_ n2_ n3_; clear hb hbox hg; have hcz11_0 : w10.cell? ⟨gb101, 0, none⟩ = some (.int .i64 a0_0) := (blk_cell BK101.out 0).trans rfl; have hcz11_1 : w10.cell? ⟨gb101, 1, none⟩ = some (.slice A0_1 l0_1.length c0_1) := (blk_cell BK101.out 1).trans rfl; have hfz11_0 := blk_frozen BK101.out 0; have hfz11_1 := blk_frozen BK101.out 1) | ((with_reducible refine gate_callee (f := 34) rfl ?_); refine goesL_ (some 4) rfl rfl Try.func34 (by kernel_rfl) rfl #[.agg #[.int .i64 a0_0, .slice A0_1 l0_1.length c0_1]] rfl (by (try simp only [List.map_toArray, List.map_cons, List.map_nil]); first | done | rfl | (simp only [List.length_drop, List.length_take]; rfl)) ?_; (with_reducible refine (slabGood.calls a0_0 _ _ l0_1 false _ ?side1 ?side2 A2.out).mono ?_); (case side1 => repeat (first | exact (Kd.C_below HR0_1.out HB.out) | (with_reducible refine Kd.C_alloc ?_ _) | (with_reducible refine Kd.C_drewN ?_ _) | (with_reducible refine Kd.C_drew ?_))); (case side2 => exact HC0_1.out); rintro e w12 ⟨rfl, hb⟩; refine ⟨_, rfl, ?_⟩; have n0_ := Aside0.mk (blk_below (g := gb101) (o := .cells #[.int .i64 a0_0, .slice A0_1 l0_1.length c0_1] 24 (0, 0)) (by (with_reducible repeat (first | refine blk_drewN ?_ _ | refine blk_drew ?_ | refine blk_alloc ?_ _)); exact BK101.out) hb); have n1_ := Aside0.mk (below_step (by repeat (first | (with_reducible first | exact HB.out | apply below_alloc | apply pw_below_drewN | apply below_drew1 | refine below_set ?_ GE101.out) | exact HB.out)) hb); clear BK101; clear HB; have BK101 := n0_; have HB := n1_; clear n0_ n1_; (try clear hb); (try clear hb2); (try clear hk); (try clear hi)))
    go_ret
    exact ⟨by first | rfl | (simp [errW_none, errW_some] <;> rfl) | (simp [*, errW_none, errW_some] <;> rfl), by repeat (first | (with_reducible first | exact HB.out | apply below_alloc | apply pw_below_drewN | apply below_drew1 | refine below_set ?_ GE101.out) | exact HB.out)⟩

end Go.Proofs.Ytfjmnaobfbmllaa.M

namespace Go.Proofs.Ytfjmnaobfbmllaa.M
open Go.RowKit Go.Proofs.YtfjmnaobfbmllaaW.PrintWords Go.Proofs.YtfjmnaobfbmllaaW.PrintLast Go.Proofs.YtfjmnaobfbmllaaW.PrintMore
attribute [local go_sem] max2_int min2_int max_two min_two max_three min_three max_four min_four   -- for this text's walks alone
set_option linter.unusedVariables false
set_option linter.unusedSimpArgs false

/-! ### slab_At: function 39 -/
def slab_At.f (a0_0 : Int) (l0_1 : List (S33)) (a1 : Int) : Option (Bool × ByteArray) := (slabGood.f a0_0 l0_1).bind fun t103 => (if t103 = true then (if a1 < 0 then (some (false, (⟨#[]⟩ : ByteArray))) else (if a1 ≥ (l0_1.length : Int) then (some (false, (⟨#[]⟩ : ByteArray))) else (if 0 ≤ a1 then (if a1 < (l0_1.length : Int) then (some ((rd_T33 l0_1 a1).f0, (rd_T33 l0_1 a1).f1)) else (none)) else (none)))) else (some (false, (⟨#[]⟩ : ByteArray))))
set_option maxHeartbeats 8000000 in
set_option maxRecDepth 100000 in
theorem slab_At.calls (a0_0 : Int) (A0_1 : Option Addr) (c0_1 : Nat) (l0_1 : List (S33)) (a1 : Int) (r1 : Bool) (r2 : ByteArray) (w : World) (hr0_1 : Kd.C k33 w A0_1 l0_1.length l0_1) (hc0_1 : l0_1.length ≤ c0_1) (h : slab_At.f a0_0 l0_1 a1 = some (r1, r2)) :
    Calls Try.prog 39 #[.agg #[.int .i64 a0_0, .slice A0_1 l0_1.length c0_1], .int .i64 a1] w fun e w' => e = .returned (.agg #[.bool r1, .string r2]) ∧ Below w.heap.size w w' := by
  have hu24 := Try.underlying24
  have hu33 := Try.underlying33
  have HR0_1 := Aside0.mk hr0_1
  have HC0_1 := Aside0.mk hc0_1
  clear hr0_1 hc0_1
  have HB := Aside0.mk (Below.refl w.heap.size w)
  have H : ((slabGood.f a0_0 l0_1).bind fun t103 => (if t103 = true then (if a1 < 0 then (some (false, (⟨#[]⟩ : ByteArray))) else (if a1 ≥ (l0_1.length : Int) then (some (false, (⟨#[]⟩ : ByteArray))) else (if 0 ≤ a1 then (if a1 < (l0_1.length : Int) then (some ((rd_T33 l0_1 a1).f0, (rd_T33 l0_1 a1).f1)) else (none)) else (none)))) else (some (false, (⟨#[]⟩ : ByteArray))))) = some (r1, r2) := h
  clear h
  replace H := Option.bind_eq_some_iff.mp H
  obtain ⟨t103, A30, H⟩ := H
  replace H : (if t103 = true then (if a1 < 0 then (some (false, (⟨#[]⟩ : ByteArray))) else (if a1 ≥ (l0_1.length : Int) then (some (false, (⟨#[]⟩ : ByteArray))) else (if 0 ≤ a1 then (if a1 < (l0_1.length : Int) then (some ((rd_T33 l0_1 a1).f0, (rd_T33 l0_1 a1).f1)) else (none)) else (none)))) else (some (false, (⟨#[]⟩ : ByteArray)))) = some (r1, r2) := H
  have A3 := Aside0.mk A30
  clear A30
  by_cases c4 : t103 = true
  · subst c4
    have H1 : (if a1 < 0 then (some (false, (⟨#[]⟩ : ByteArray))) else (if a1 ≥ (l0_1.length : Int) then (some (false, (⟨#[]⟩ : ByteArray))) else (if 0 ≤ a1 then (if a1 < (l0_1.length : Int) then (some ((rd_T33 l0_1 a1).f0, (rd_T33 l0_1 a1).f1)) else (none)) else (none)))) = some (r1, r2) := by rw [if_pos rfl] at H; exact H
    clear H
    have H := H1
    clear H1
    by_cases c5 : a1 < 0
    · rw [if_pos c5] at H
      have c5b0 : decide (a1 < 0) = true := decide_eq_true c5
      clear c5
      simp only [Option.some.injEq, Prod.mk.injEq] at H
      obtain ⟨rfl, rfl⟩ := H
      go_enter Try.func39, Try.ntmps39
      go_wp2_with (first | ((with_reducible refine gate_dst (N := 2) rfl ?_); (try (refine gate_guard (by rfl) ?_; dsimp only)); refine box_event ?hg (N := 2) ?hd (cs := #[.int .i64 a0_0, .slice A0_1 l0_1.length c0_1]) (t := 24) ?hr ?_; (case hd => rfl); (case hg => rfl); (case hr => first | (go_simp; done) | (go_simp; rfl)); intro gb101 hg w6 hbox hb; have n0_ := Aside0.mk (below_step (by repeat (first | (with_reducible first | exact HB.out | apply below_alloc | apply pw_below_drewN | apply below_drew1) | exact HB.out)) hb); have n1_ := Aside0.mk (hbox); have n2_ := Aside0.mk ((by rw [hg]; exact (below_size (by repeat (first | (with_reducible first | exact HB.out | apply below_alloc | apply pw_below_drewN | apply below_drew1) | exact HB.out))) : w.heap.size ≤ gb101)); have n3_ := Aside0.mk ((by rw [hg]; exact (below_size (by repeat (first | (with_reducible first | exact HB.out | apply below_alloc | apply pw_below_drewN | apply below_drew1) | exact HB.out))) : w.heap.size ≤ gb101)); clear HB; have HB := n0_; have BK101 := n1_; have GW101 := n2_; have GE101 := n3_; clear n0_ n1_ n2_ n3_; clear hb hbox hg) | ((with_reducible refine gate_dst (N := 4) rfl ?_); (try (refine gate_guard (by rfl) ?_; dsimp only)); refine box_event ?hg (N := 4) ?hd (cs := #[.bool false, .string (⟨#[]⟩ : ByteArray)]) (t := 33) ?hr ?_; (case hd => rfl); (case hg => rfl); (case hr => first | (go_simp; done) | (go_simp; rfl)); intro gb102 hg w7 hbox hb; have n0_ := Aside0.mk (blk_below (g := gb101) (o := .cells #[.int .i64 a0_0, .slice A0_1 l0_1.length c0_1] 24 (0, 0)) (by (with_reducible repeat (first | refine blk_drewN ?_ _ | refine blk_drew ?_ | refine blk_alloc ?_ _)); exact BK101.out) hb); have n1_ := Aside0.mk (below_step (by repeat (first | (with_reducible first | exact HB.out | apply below_alloc | apply pw_below_drewN | apply below_drew1 | refine below_set ?_ GE101.out) | exact HB.out)) hb); have n2_ := Aside0.mk (hbox); have n3_ := Aside0.mk ((by rw [hg]; exact (below_size (by repeat (first | (with_reducible first | exact HB.out | apply below_alloc | apply pw_below_drewN | apply below_drew1 | refine below_set ?_ GE101.out) | exact HB.out))) : w.heap.size ≤ gb102)); have n4_ := Aside0.mk ((by rw [hg]; exact (below_size (by repeat (first | (with_reducible first | exact HB.out | apply below_alloc | apply pw_below_drewN | apply below_drew1 | refine below_set ?_ GE101.out) | exact HB.out))) : w.heap.size ≤ gb102)); have n5_ := Aside0.mk ((by rw [hg]; exact Nat.ne_of_lt (blk_lt (g := gb101) (o := .cells #[.int .i64 a0_0, .slice A0_1 l0_1.length c0_1] 24 (0, 0)) (by (with_reducible repeat (first | refine blk_drewN ?_ _ | refine blk_drew ?_ | refine blk_alloc ?_ _)); exact BK101.out)) : gb101 ≠ gb102)); have n6_ := Aside0.mk ((by rw [hg]; exact Nat.ne_of_gt (blk_lt (g := gb101) (o := .cells #[.int .i64 a0_0, .slice A0_1 l0_1.length c0_1] 24 (0, 0)) (by (with_reducible repeat (first | refine blk_drewN ?_ _ | refine blk_drew ?_ | refine blk_alloc ?_ _)); exact BK101.out)) : gb102 ≠ gb101)); clear BK101; clear HB; have BK101 := n0_; have HB := n1_; have BK102 := n2_; have GW102 := n3_; have GE102 := n4_; have NB101_102 := n5_; have NB102_101 := n6_; clear n0_ n1_ n2_ n3_ n4_ n5_ n6_; clear hb hbox hg; have hnb8 := NB101_102.out; have hnc8 := NB102_101.out; have hcz9_0 : w7.cell? ⟨gb101, 0, none⟩ = some (.int .i64 a0_0) := (blk_cell BK101.out 0).trans rfl; have hcz9_1 : w7.cell? ⟨gb101, 1, none⟩ = some (.slice A0_1 l0_1.length c0_1) := (blk_cell BK101.out 1).trans rfl; have hfz9_0 := blk_frozen BK101.out 0; have hfz9_1 := blk_frozen BK101.out 1) | ((with_reducible refine gate_callee (f := 34) rfl ?_); refine goesL_ (some 6) rfl rfl Try.func34 (by kernel_rfl) rfl #[.agg #[.int .i64 a0_0, .slice A0_1 l0_1.length c0_1]] rfl (by (try simp only [List.map_toArray, List.map_cons, List.map_nil]); first | done | rfl | (simp only [List.length_drop, List.length_take]; rfl)) ?_; (with_reducible refine (slabGood.calls a0_0 _ _ l0_1 true _ ?side1 ?side2 A3.out).mono ?_); (case side1 => repeat (first | exact (Kd.C_below HR0_1.out HB.out) | (with_reducible refine Kd.C_alloc ?_ _) | (with_reducible refine Kd.C_drewN ?_ _) | (with_reducible refine Kd.C_drew ?_))); (case side2 => exact HC0_1.out); rintro e w10 ⟨rfl, hb⟩; refine ⟨_, rfl, ?_⟩; have n0_ := Aside0.mk (blk_below (g := gb101) (o := .cells #[.int .i64 a0_0, .slice A0_1 l0_1.length c0_1] 24 (0, 0)) (by (with_reducible repeat (first | refine blk_drewN ?_ _ | refine blk_drew ?_ | refine blk_alloc ?_ _)); exact BK101.out) hb); have n1_ := Aside0.mk (blk_below (g := gb102) (o := .cells #[.bool false, .string (⟨#[]⟩ : ByteArray)] 33 (0, 0)) (by (with_reducible repeat (first | refine blk_drewN ?_ _ | refine blk_drew ?_ | refine blk_alloc ?_ _)); exact BK102.out) hb); have n2_ := Aside0.mk (below_step (by repeat (first | (with_reducible first | exact HB.out | apply below_alloc | apply pw_below_drewN | apply below_drew1 | refine below_set ?_ GE101.out | refine below_set ?_ GE102.out) | exact HB.out)) hb); clear BK101; clear BK102; clear HB; have BK101 := n0_; have BK102 := n1_; have HB := n2_; clear n0_ n1_ n2_; (try clear hb); (try clear hb2); (try clear hk); (try clear hi); have hcz11_0 : w10.cell? ⟨gb102, 0, none⟩ = some (.bool false) := (blk_cell BK102.out 0).trans rfl; have hcz11_1 : w10.cell? ⟨gb102, 1, none⟩ = some (.string (⟨#[]⟩ : ByteArray)) := (blk_cell BK102.out 1).trans rfl; have hfz11_0 := blk_frozen BK102.out 0; have hfz11_1 := blk_frozen BK102.out 1))
      refine bodyPost_ret (results_cell_row rfl _ _ gb102 33 #[.bool false, .string (⟨#[]⟩ : ByteArray)] (0, 0) _ rfl (by (with_reducible repeat (first | refine blk_drewN ?_ _ | refine blk_drew ?_ | refine blk_alloc ?_ _)); refine blk_put (cs := #[.bool false, .string (⟨#[]⟩ : ByteArray)]) ?_ 1 _ rfl; (with_reducible repeat (first | refine blk_drewN ?_ _ | refine blk_drew ?_ | refine blk_alloc ?_ _)); refine blk_put (cs := #[.bool false, .string (⟨#[]⟩ : ByteArray)]) ?_ 0 _ rfl; (with_reducible repeat (first | refine blk_drewN ?_ _ | refine blk_drew ?_ | refine blk_alloc ?_ _)); exact BK102.out) Try.underlying33 rfl (by kernel_rfl)) rfl ?_
      exact ⟨by first | rfl | (simp [errW_none, errW_some] <;> rfl) | (simp [*, errW_none, errW_some] <;> rfl), by repeat (first | (with_reducible first | exact HB.out | apply below_alloc | apply pw_below_drewN | apply below_drew1 | refine below_set ?_ GE101.out | refine below_set ?_ GE102.out) | exact HB.out)⟩
    · rw [if_neg c5] at H
      have c5b0 : decide (a1 < 0) = false := decide_eq_false c5
      clear c5
      by_cases c12 : a1 ≥ (l0_1.length : Int)
      · rw [if_pos c12] at H
        have c12b0 : decide ((l0_1.length : Int) ≤ a1) = true := decide_eq_true c12
        clear c12
        simp only [Option.some.injEq, Prod.mk.injEq] at H
        obtain ⟨rfl, rfl⟩ := H
        go_enter Try.func39, Try.ntmps39
        go_wp2_with (first | ((with_reducible refine gate_dst (N := 2) rfl ?_); (try (refine gate_guard (by rfl) ?_; dsimp only)); refine box_event ?hg (N := 2) ?hd (cs := #[.int .i64 a0_0, .slice A0_1 l0_1.length c0_1]) (t := 24) ?hr ?_; (case hd => rfl); (case hg => rfl); (case hr => first | (go_simp; done) | (go_simp; rfl)); intro gb101 hg w13 hbox hb; have n0_ := Aside0.mk (below_step (by repeat (first | (with_reducible first | exact HB.out | apply below_alloc | apply pw_below_drewN | apply below_drew1) | exact HB.out)) hb); have n1_ := Aside0.mk (hbox); have n2_ := Aside0.mk ((by rw [hg]; exact (below_size (by repeat (first | (with_reducible first | exact HB.out | apply below_alloc | apply pw_below_drewN | apply below_drew1) | exact HB.out))) : w.heap.size ≤ gb101)); have n3_ := Aside0.mk ((by rw [hg]; exact (below_size (by repeat (first | (with_reducible first | exact HB.out | apply below_alloc | apply pw_below_drewN | apply below_drew1) | exact HB.out))) : w.heap.size ≤ gb101)); clear HB; have HB := n0_; have BK101 := n1_; have GW101 := n2_; have GE101 := n3_; clear n0_ n1_ n2_ n3_; clear hb hbox hg) | ((with_reducible refine gate_dst (N := 4) rfl ?_); (try (refine gate_guard (by rfl) ?_; dsimp only)); refine box_event ?hg (N := 4) ?hd (cs := #[.bool false, .string (⟨#[]⟩ : ByteArray)]) (t := 33) ?hr ?_; (case hd => rfl); (case hg => rfl); (case hr => first | (go_simp; done) | (go_simp; rfl)); intro gb102 hg w14 hbox hb; have n0_ := Aside0.mk (blk_below (g := gb101) (o := .cells #[.int .i64 a0_0, .slice A0_1 l0_1.length c0_1] 24 (0, 0)) (by (with_reducible repeat (first | refine blk_drewN ?_ _ | refine blk_drew ?_ | refine blk_alloc ?_ _)); exact BK101.out) hb); have n1_ := Aside0.mk (below_step (by repeat (first | (with_reducible first | exact HB.out | apply below_alloc | apply pw_below_drewN | apply below_drew1 | refine below_set ?_ GE101.out) | exact HB.out)) hb); have n2_ := Aside0.mk (hbox); have n3_ := Aside0.mk ((by rw [hg]; exact (below_size (by repeat (first | (with_reducible first | exact HB.out | apply below_alloc | apply pw_below_drewN | apply below_drew1 | refine below_set ?_ GE101.out) | exact HB.out))) : w.heap.size ≤ gb102)); have n4_ := Aside0.mk ((by rw [hg]; exact (below_size (by repeat (first | (with_reducible first | exact HB.out | apply below_alloc | apply pw_below_drewN | apply below_drew1 | refine below_set ?_ GE101.out) | exact HB.out))) : w.heap.size ≤ gb102)); have n5_ := Aside0.mk ((by rw [hg]; exact Nat.ne_of_lt (blk_lt (g := gb101) (o := .cells #[.int .i64 a0_0, .slice A0_1 l0_1.length c0_1] 24 (0, 0)) (by (with_reducible repeat (first | refine blk_drewN ?_ _ | refine blk_drew ?_ | refine blk_alloc ?_ _)); exact BK101.out)) : gb101 ≠ gb102)); have n6_ := Aside0.mk ((by rw [hg]; exact Nat.ne_of_gt (blk_lt (g := gb101) (o := .cells #[.int .i64 a0_0, .slice A0_1 l0_1.length c0_1] 24 (0, 0)) (by (with_reducible repeat (first | refine blk_drewN ?_ _ | refine blk_drew ?_ | refine blk_alloc ?_ _)); exact BK101.out)) : gb102 ≠ gb101)); clear BK101; clear HB; have BK101 := n0_; have HB := n1_; have BK102 := n2_; have GW102 := n3_; have GE102 := n4_; have NB101_102 := n5_; have NB102_101 := n6_; clear n0_ n1_ n2_ n3_ n4_ n5_ n6_; clear hb hbox hg; have hnb15 := NB101_102.out; have hnc15 := NB102_101.out; have hcz16_0 : w14.cell? ⟨gb101, 0, none⟩ = some (.int .i64 a0_0) := (blk_cell BK101.out 0).trans rfl; have hcz16_1 : w14.cell? ⟨gb101, 1, none⟩ = some (.slice A0_1 l0_1.length c0_1) := (blk_cell BK101.out 1).trans rfl; have hfz16_0 := blk_frozen BK101.out 0; have hfz16_1 := blk_frozen BK101.out 1) | ((with_reducible refine gate_callee (f := 34) rfl ?_); refine goesL_ (some 6) rfl rfl Try.func34 (by kernel_rfl) rfl #[.agg #[.int .i64 a0_0, .slice A0_1 l0_1.length c0_1]] rfl (by (try simp only [List.map_toArray, List.map_cons, List.map_nil]); first | done | rfl | (simp only [List.length_drop, List.length_take]; rfl)) ?_; (with_reducible refine (slabGood.calls a0_0 _ _ l0_1 true _ ?side1 ?side2 A3.out).mono ?_); (case side1 => repeat (first | exact (Kd.C_below HR0_1.out HB.out) | (with_reducible refine Kd.C_alloc ?_ _) | (with_reducible refine Kd.C_drewN ?_ _) | (with_reducible refine Kd.C_drew ?_))); (case side2 => exact HC0_1.out); rintro e w17 ⟨rfl, hb⟩; refine ⟨_, rfl, ?_⟩; have n0_ := Aside0.mk (blk_below (g := gb101) (o := .cells #[.int .i64 a0_0, .slice A0_1 l0_1.length c0_1] 24 (0, 0)) (by (with_reducible repeat (first | refine blk_drewN ?_ _ | refine blk_drew ?_ | refine blk_alloc ?_ _)); exact BK101.out) hb); have n1_ := Aside0.mk (blk_below (g := gb102) (o := .cells #[.bool false, .string (⟨#[]⟩ : ByteArray)] 33 (0, 0)) (by (with_reducible repeat (first | refine blk_drewN ?_ _ | refine blk_drew ?_ | refine blk_alloc ?_ _)); exact BK102.out) hb); have n2_ := Aside0.mk (below_step (by repeat (first | (with_reducible first | exact HB.out | apply below_alloc | apply pw_below_drewN | apply below_drew1 | refine below_set ?_ GE101.out | refine below_set ?_ GE102.out) | exact HB.out)) hb); clear BK101; clear BK102; clear HB; have BK101 := n0_; have BK102 := n1_; have HB := n2_; clear n0_ n1_ n2_; (try clear hb); (try clear hb2); (try clear hk); (try clear hi); have hcz18_0 : w17.cell? ⟨gb101, 0, none⟩ = some (.int .i64 a0_0) := (blk_cell BK101.out 0).trans rfl; have hcz18_1 : w17.cell? ⟨gb101, 1, none⟩ = some (.slice A0_1 l0_1.length c0_1) := (blk_cell BK101.out 1).trans rfl; have hfz18_0 := blk_frozen BK101.out 0; have hfz18_1 := blk_frozen BK101.out 1; have hcz19_0 : w17.cell? ⟨gb102, 0, none⟩ = some (.bool false) := (blk_cell BK102.out 0).trans rfl; have hcz19_1 : w17.cell? ⟨gb102, 1, none⟩ = some (.string (⟨#[]⟩ : ByteArray)) := (blk_cell BK102.out 1).trans rfl; have hfz19_0 := blk_frozen BK102.out 0; have hfz19_1 := blk_frozen BK102.out 1))
        refine bodyPost_ret (results_cell_row rfl _ _ gb102 33 #[.bool false, .string (⟨#[]⟩ : ByteArray)] (0, 0) _ rfl (by (with_reducible repeat (first | refine blk_drewN ?_ _ | refine blk_drew ?_ | refine blk_alloc ?_ _)); refine blk_put (cs := #[.bool false, .string (⟨#[]⟩ : ByteArray)]) ?_ 1 _ rfl; (with_reducible repeat (first | refine blk_drewN ?_ _ | refine blk_drew ?_ | refine blk_alloc ?_ _)); refine blk_put (cs := #[.bool false, .string (⟨#[]⟩ : ByteArray)]) ?_ 0 _ rfl; (with_reducible repeat (first | refine blk_drewN ?_ _ | refine blk_drew ?_ | refine blk_alloc ?_ _)); exact BK102.out) Try.underlying33 rfl (by kernel_rfl)) rfl ?_
        exact ⟨by first | rfl | (simp [errW_none, errW_some] <;> rfl) | (simp [*, errW_none, errW_some] <;> rfl), by repeat (first | (with_reducible first | exact HB.out | apply below_alloc | apply pw_below_drewN | apply below_drew1 | refine below_set ?_ GE101.out | refine below_set ?_ GE102.out) | exact HB.out)⟩
      · rw [if_neg c12] at H
        have c12b0 : decide ((l0_1.length : Int) ≤ a1) = false := decide_eq_false c12
        clear c12
        by_cases c20 : 0 ≤ a1
        · rw [if_pos c20] at H
          have c20b0 : decide (0 ≤ a1) = true := decide_eq_true c20
          clear c20
          by_cases c21 : a1 < (l0_1.length : Int)
          · rw [if_pos c21] at H
            have c21b0 : decide (a1 < (l0_1.length : Int)) = true := decide_eq_true c21
            clear c21
            simp only [Option.some.injEq, Prod.mk.injEq] at H
            obtain ⟨rfl, rfl⟩ := H
            go_enter Try.func39, Try.ntmps39
            go_wp2_with (first | ((with_reducible refine gate_dst (N := 2) rfl ?_); (try (refine gate_guard (by rfl) ?_; dsimp only)); refine box_event ?hg (N := 2) ?hd (cs := #[.int .i64 a0_0, .slice A0_1 l0_1.length c0_1]) (t := 24) ?hr ?_; (case hd => rfl); (case hg => rfl); (case hr => first | (go_simp; done) | (go_simp; rfl)); intro gb101 hg w22 hbox hb; have n0_ := Aside0.mk (below_step (by repeat (first | (with_reducible first | exact HB.out | apply below_alloc | apply pw_below_drewN | apply below_drew1) | exact HB.out)) hb); have n1_ := Aside0.mk (hbox); have n2_ := Aside0.mk ((by rw [hg]; exact (below_size (by repeat (first | (with_reducible first | exact HB.out | apply below_alloc | apply pw_below_drewN | apply below_drew1) | exact HB.out))) : w.heap.size ≤ gb101)); have n3_ := Aside0.mk ((by rw [hg]; exact (below_size (by repeat (first | (with_reducible first | exact HB.out | apply below_alloc | apply pw_below_drewN | apply below_drew1) | exact HB.out))) : w.heap.size ≤ gb101)); clear HB; have HB := n0_; have BK101 := n1_; have GW101 := n2_; have GE101 := n3_; clear n0_ n1_ n2_ n3_; clear hb hbox hg) | ((with_reducible refine gate_dst (N := 4) rfl ?_); (try (refine gate_guard (by rfl) ?_; dsimp only)); refine box_event ?hg (N := 4) ?hd (cs := #[.bool false, .string (⟨#[]⟩ : ByteArray)]) (t := 33) ?hr ?_; (case hd => rfl); (case hg => rfl); (case hr => first | (go_simp; done) | (go_simp; rfl)); intro gb102 hg w23 hbox hb; have n0_ := Aside0.mk (blk_below (g := gb101) (o := .cells #[.int .i64 a0_0, .slice A0_1 l0_1.length c0_1] 24 (0, 0)) (by (with_reducible repeat (first | refine blk_drewN ?_ _ | refine blk_drew ?_ | refine blk_alloc ?_ _)); exact BK101.out) hb); have n1_ := Aside0.mk (below_step (by repeat (first | (with_reducible first | exact HB.out | apply below_alloc | apply pw_below_drewN | apply below_drew1 | refine below_set ?_ GE101.out) | exact HB.out)) hb); have n2_ := Aside0.mk (hbox); have n3_ := Aside0.mk ((by rw [hg]; exact (below_size (by repeat (first | (with_reducible first | exact HB.out | apply below_alloc | apply pw_below_drewN | apply below_drew1 | refine below_set ?_ GE101.out) | exact HB.out))) : w.heap.size ≤ gb102)); have n4_ := Aside0.mk ((by rw [hg]; exact (below_size (by repeat (first | (with_reducible first | exact HB.out | apply below_alloc | apply pw_below_drewN | apply below_drew1 | refine below_set ?_ GE101.out) | exact HB.out))) : w.heap.size ≤ gb102)); have n5_ := Aside0.mk ((by rw [hg]; exact Nat.ne_of_lt (blk_lt (g := gb101) (o := .cells #[.int .i64 a0_0, .slice A0_1 l0_1.length c0_1] 24 (0, 0)) (by (with_reducible repeat (first | refine blk_drewN ?_ _ | refine blk_drew ?_ | refine blk_alloc ?_ _)); exact BK101.out)) : gb101 ≠ gb102)); have n6_ := Aside0.mk ((by rw [hg]; exact Nat.ne_of_gt (blk_lt (g := gb101) (o := .cells #[.int .i64 a0_0, .slice A0_1 l0_1.length c0_1] 24 (0, 0)) (by (with_reducible repeat (first | refine blk_drewN ?_ _ | refine blk_drew ?_ | refine blk_alloc ?_ _)); exact BK101.out)) : gb102 ≠ gb101)); clear BK101; clear HB; have BK101 := n0_; have HB := n1_; have BK102 := n2_; have GW102 := n3_; have GE102 := n4_; have NB101_102 := n5_; have NB102_101 := n6_; clear n0_ n1_ n2_ n3_ n4_ n5_ n6_; clear hb hbox hg; have hnb24 := NB101_102.out; have hnc24 := NB102_101.out; have hcz25_0 : w23.cell? ⟨gb101, 0, none⟩ = some (.int .i64 a0_0) := (blk_cell BK101.out 0).trans rfl; have hcz25_1 : w23.cell? ⟨gb101, 1, none⟩ = some (.slice A0_1 l0_1.length c0_1) := (blk_cell BK101.out 1).trans rfl; have hfz25_0 := blk_frozen BK101.out 0; have hfz25_1 := blk_frozen BK101.out 1) | ((with_reducible refine gate_callee (f := 34) rfl ?_); refine goesL_ (some 6) rfl rfl Try.func34 (by kernel_rfl) rfl #[.agg #[.int .i64 a0_0, .slice A0_1 l0_1.length c0_1]] rfl (by (try simp only [List.map_toArray, List.map_cons, List.map_nil]); first | done | rfl | (simp only [List.length_drop, List.length_take]; rfl)) ?_; (with_reducible refine (slabGood.calls a0_0 _ _ l0_1 true _ ?side1 ?side2 A3.out).mono ?_); (case side1 => repeat (first | exact (Kd.C_below HR0_1.out HB.out) | (with_reducible refine Kd.C_alloc ?_ _) | (with_reducible refine Kd.C_drewN ?_ _) | (with_reducible refine Kd.C_drew ?_))); (case side2 => exact HC0_1.out); rintro e w26 ⟨rfl, hb⟩; refine ⟨_, rfl, ?_⟩; have n0_ := Aside0.mk (blk_below (g := gb101) (o := .cells #[.int .i64 a0_0, .slice A0_1 l0_1.length c0_1] 24 (0, 0)) (by (with_reducible repeat (first | refine blk_drewN ?_ _ | refine blk_drew ?_ | refine blk_alloc ?_ _)); exact BK101.out) hb); have n1_ := Aside0.mk (blk_below (g := gb102) (o := .cells #[.bool false, .string (⟨#[]⟩ : ByteArray)] 33 (0, 0)) (by (with_reducible repeat (first | refine blk_drewN ?_ _ | refine blk_drew ?_ | refine blk_alloc ?_ _)); exact BK102.out) hb); have n2_ := Aside0.mk (below_step (by repeat (first | (with_reducible first | exact HB.out | apply below_alloc | apply pw_below_drewN | apply below_drew1 | refine below_set ?_ GE101.out | refine below_set ?_ GE102.out) | exact HB.out)) hb); clear BK101; clear BK102; clear HB; have BK101 := n0_; have BK102 := n1_; have HB := n2_; clear n0_ n1_ n2_; (try clear hb); (try clear hb2); (try clear hk); (try clear hi); have hcz27_0 : w26.cell? ⟨gb101, 0, none⟩ = some (.int .i64 a0_0) := (blk_cell BK101.out 0).trans rfl; have hcz27_1 : w26.cell? ⟨gb101, 1, none⟩ = some (.slice A0_1 l0_1.length c0_1) := (blk_cell BK101.out 1).trans rfl; have hfz27_0 := blk_frozen BK101.out 0; have hfz27_1 := blk_frozen BK101.out 1; have p104 : 0 ≤ (a1 : Int) := of_decide_eq_true (by first | (with_reducible assumption) | assumption); have q104 : a1 < (l0_1.length : Int) := of_decide_eq_true (by first | (with_reducible assumption) | assumption); obtain ⟨ad104, e104, hx104_0, hx104_1⟩ := at_T33 HR0_1.out a1 p104 q104; cases e104; replace hx104_0 := (HB.out.cell (World.block_lt_of_cell? w _ hx104_0)).trans hx104_0; replace hx104_1 := (HB.out.cell (World.block_lt_of_cell? w _ hx104_1)).trans hx104_1; replace p104 := eq_true p104; replace q104 := eq_true q104; have hcz28_0 : w26.cell? ⟨gb102, 0, none⟩ = some (.bool false) := (blk_cell BK102.out 0).trans rfl; have hcz28_1 : w26.cell? ⟨gb102, 1, none⟩ = some (.string (⟨#[]⟩ : ByteArray)) := (blk_cell BK102.out 1).trans rfl; have hfz28_0 := blk_frozen BK102.out 0; have hfz28_1 := blk_frozen BK102.out 1))
            refine bodyPost_ret (results_cell_row rfl _ _ gb102 33 #[.bool ((rd_T33 l0_1 a1).f0), .string ((rd_T33 l0_1 a1).f1)] (0, 0) _ rfl (by (with_reducible repeat (first | refine blk_drewN ?_ _ | refine blk_drew ?_ | refine blk_alloc ?_ _)); refine blk_put (cs := #[.bool ((rd_T33 l0_1 a1).f0), .string (⟨#[]⟩ : ByteArray)]) ?_ 1 _ rfl; (with_reducible repeat (first | refine blk_drewN ?_ _ | refine blk_drew ?_ | refine blk_alloc ?_ _)); refine blk_put (cs := #[.bool false, .string (⟨#[]⟩ : ByteArray)]) ?_ 0 _ rfl; (with_reducible repeat (first | refine blk_drewN ?_ _ | refine blk_drew ?_ | refine blk_alloc ?_ _)); exact BK102.out) Try.underlying33 rfl (by kernel_rfl)) rfl ?_
            exact ⟨by first | rfl | (simp [errW_none, errW_some] <;> rfl) | (simp [*, errW_none, errW_some] <;> rfl), by repeat (first | (with_reducible first | exact HB.out | apply below_alloc | apply pw_below_drewN | apply below_drew1 | refine below_set ?_ GE101.out | refine below_set ?_ GE102.out) | exact HB.out)⟩
          · rw [if_neg c21] at H
            exact absurd H (by simp)
        · rw [if_neg c20] at H
          exact absurd H (by simp)
  · replace c4 := Bool.eq_false_iff.mpr c4
    subst c4
    have H1 : (some (false, (⟨#[]⟩ : ByteArray))) = some (r1, r2) := by rw [if_neg (show ¬ (false = true) by decide)] at H; exact H
    clear H
    have H := H1
    clear H1
    simp only [Option.some.injEq, Prod.mk.injEq] at H
    obtain ⟨rfl, rfl⟩ := H
    go_enter Try.func39, Try.ntmps39
    go_wp2_with (first | ((with_reducible refine gate_dst (N := 2) rfl ?_); (try (refine gate_guard (by rfl) ?_; dsimp only)); refine box_event ?hg (N := 2) ?hd (cs := #[.int .i64 a0_0, .slice A0_1 l0_1.length c0_1]) (t := 24) ?hr ?_; (case hd => rfl); (case hg => rfl); (case hr => first | (go_simp; done) | (go_simp; rfl)); intro gb101 hg w29 hbox hb; have n0_ := Aside0.mk (below_step (by repeat (first | (with_reducible first | exact HB.out | apply below_alloc | apply pw_below_drewN | apply below_drew1) | exact HB.out)) hb); have n1_ := Aside0.mk (hbox); have n2_ := Aside0.mk ((by rw [hg]; exact (below_size (by repeat (first | (with_reducible first | exact HB.out | apply below_alloc | apply pw_below_drewN | apply below_drew1) | exact HB.out))) : w.heap.size ≤ gb101)); have n3_ := Aside0.mk ((by rw [hg]; exact (below_size (by repeat (first | (with_reducible first | exact HB.out | apply below_alloc | apply pw_below_drewN | apply below_drew1) | exact HB.out))) : w.heap.size ≤ gb101)); clear HB; have HB := n0_; have BK101 := n1_; have GW101 := n2_; have GE101 := n3_; clear n0_ n1_ n2_ n3_; clear hb hbox hg) | ((with_reducible refine gate_dst (N := 4) rfl ?_); (try (refine gate_guard (by rfl) ?_; dsimp only)); refine box_event ?hg (N := 4) ?hd (cs := #[.bool false, .string (⟨#[]⟩ : ByteArray)]) (t := 33) ?hr ?_; (case hd => rfl); (case hg => rfl); (case hr => first | (go_simp; done) | (go_simp; rfl)); intro gb102 hg w30 hbox hb; have n0_ := Aside0.mk (blk_below (g := gb101) (o := .cells #[.int .i64 a0_0, .slice A0_1 l0_1.length c0_1] 24 (0, 0)) (by (with_reducible repeat (first | refine blk_drewN ?_ _ | refine blk_drew ?_ | refine blk_alloc ?_ _)); exact BK101.out) hb); have n1_ := Aside0.mk (below_step (by repeat (first | (with_reducible first | exact HB.out | apply below_alloc | apply pw_below_drewN | apply below_drew1 | refine below_set ?_ GE101.out) | exact HB.out)) hb); have n2_ := Aside0.mk (hbox); have n3_ := Aside0.mk ((by rw [hg]; exact (below_size (by repeat (first | (with_reducible first | exact HB.out | apply below_alloc | apply pw_below_drewN | apply below_drew1 | refine below_set ?_ GE101.out) | exact HB.out))) : w.heap.size ≤ gb102)); have n4_ := Aside0.mk ((by rw [hg]; exact (below_size (by repeat (first | (with_reducible first | exact HB.out | apply below_alloc | apply pw_below_drewN | apply below_drew1 | refine below_set ?_ GE101.out) | exact HB.out))) : w.heap.size ≤ gb102)); have n5_ := Aside0.mk ((by rw [hg]; exact Nat.ne_of_lt (blk_lt (g := gb101) (o := .cells #[.int .i64 a0_0, .slice A0_1 l0_1.length c0_1] 24 (0, 0)) (by (with_reducible repeat (first | refine blk_drewN ?_ _ | refine blk_drew ?_ | refine blk_alloc ?_ _)); exact BK101.out)) : gb101 ≠ gb102)); have n6_ := Aside0.mk ((by rw [hg]; exact Nat.ne_of_gt (blk_lt (g := gb101) (o := .cells #[.int .i64 a0_0, .slice A0_1 l0_1.length c0_1] 24 (0, 0)) (by (with_reducible repeat (first | refine blk_drewN ?_ _ | refine blk_drew ?_ | refine blk_alloc ?_ _)); exact BK101.out)) : gb102 ≠ gb101)); clear BK101; clear HB; have BK101 := n0_; have HB := n1_; have BK102 := n2_; have GW102 := n3_; have GE102 := n4_; have NB101_102 := n5_; have NB102_101 := n6_; clear n0_ n1_ n2_ n3_ n4_ n5_ n6_; clear hb hbox hg; have hnb31 := NB101_102.out; have hnc31 := NB102_101.out; have hcz32_0 : w30.cell? ⟨gb101, 0, none⟩ = some (.int .i64 a0_0) := (blk_cell BK101.out 0).trans rfl; have hcz32_1 : w30.cell? ⟨gb101, 1, none⟩ = some (.slice A0_1 l0_1.length c0_1) := (blk_cell BK101.out 1).trans rfl; have hfz32_0 := blk_frozen BK101.out 0; have hfz32_1 := blk_frozen BK101.out 1) | ((with_reducible refine gate_callee (f := 34) rfl ?_); refine goesL_ (some 6) rfl rfl Try.func34 (by kernel_rfl) rfl #[.agg #[.int .i64 a0_0, .slice A0_1 l0_1.length c0_1]] rfl (by (try simp only [List.map_toArray, List.map_cons, List.map_nil]); first | done | rfl | (simp only [List.length_drop, List.length_take]; rfl)) ?_; (with_reducible refine (slabGood.calls a0_0 _ _ l0_1 false _ ?side1 ?side2 A3.out).mono ?_); (case side1 => repeat (first | exact (Kd.C_below HR0_1.out HB.out) | (with_reducible refine Kd.C_alloc ?_ _) | (with_reducible refine Kd.C_drewN ?_ _) | (with_reducible refine Kd.C_drew ?_))); (case side2 => exact HC0_1.out); rintro e w33 ⟨rfl, hb⟩; refine ⟨_, rfl, ?_⟩; have n0_ := Aside0.mk (blk_below (g := gb101) (o := .cells #[.int .i64 a0_0, .slice A0_1 l0_1.length c0_1] 24 (0, 0)) (by (with_reducible repeat (first | refine blk_drewN ?_ _ | refine blk_drew ?_ | refine blk_alloc ?_ _)); exact BK101.out) hb); have n1_ := Aside0.mk (blk_below (g := gb102) (o := .cells #[.bool false, .string (⟨#[]⟩ : ByteArray)] 33 (0, 0)) (by (with_reducible repeat (first | refine blk_drewN ?_ _ | refine blk_drew ?_ | refine blk_alloc ?_ _)); exact BK102.out) hb); have n2_ := Aside0.mk (below_step (by repeat (first | (with_reducible first | exact HB.out | apply below_alloc | apply pw_below_drewN | apply below_drew1 | refine below_set ?_ GE101.out | refine below_set ?_ GE102.out) | exact HB.out)) hb); clear BK101; clear BK102; clear HB; have BK101 := n0_; have BK102 := n1_; have HB := n2_; clear n0_ n1_ n2_; (try clear hb); (try clear hb2); (try clear hk); (try clear hi); have hcz34_0 : w33.cell? ⟨gb102, 0, none⟩ = some (.bool false) := (blk_cell BK102.out 0).trans rfl; have hcz34_1 : w33.cell? ⟨gb102, 1, none⟩ = some (.string (⟨#[]⟩ : ByteArray)) := (blk_cell BK102.out 1).trans rfl; have hfz34_0 := blk_frozen BK102.out 0; have hfz34_1 := blk_frozen BK102.out 1))
    refine bodyPost_ret (results_cell_row rfl _ _ gb102 33 #[.bool false, .string (⟨#[]⟩ : ByteArray)] (0, 0) _ rfl (by (with_reducible repeat (first | refine blk_drewN ?_ _ | refine blk_drew ?_ | refine blk_alloc ?_ _)); refine blk_put (cs := #[.bool false, .string (⟨#[]⟩ : ByteArray)]) ?_ 1 _ rfl; (with_reducible repeat (first | refine blk_drewN ?_ _ | refine blk_drew ?_ | refine blk_alloc ?_ _)); refine blk_put (cs := #[.bool false, .string (⟨#[]⟩ : ByteArray)]) ?_ 0 _ rfl; (with_reducible repeat (first | refine blk_drewN ?_ _ | refine blk_drew ?_ | refine blk_alloc ?_ _)); exact BK102.out) Try.underlying33 rfl (by kernel_rfl)) rfl ?_
    exact ⟨by first | rfl | (simp [errW_none, errW_some] <;> rfl) | (simp [*, errW_none, errW_some] <;> rfl), by repeat (first | (with_reducible first | exact HB.out | apply below_alloc | apply pw_below_drewN | apply below_drew1 | refine below_set ?_ GE101.out | refine below_set ?_ GE102.out) | exact HB.out)⟩

end Go.Proofs.Ytfjmnaobfbmllaa.M

namespace Go.Proofs.Ytfjmnaobfbmllaa.M
open Go.RowKit Go.Proofs.YtfjmnaobfbmllaaW.PrintWords Go.Proofs.YtfjmnaobfbmllaaW.PrintLast Go.Proofs.YtfjmnaobfbmllaaW.PrintMore
set_option linter.unusedVariables false
set_option linter.unusedSimpArgs false

def vacS (x : S33) : Bool := !x.f0
theorem isVacant_any (x : S33) (w : World) : Calls Try.prog 84 #[.agg #[.bool x.f0, .string x.f1]] w fun e w' => e = .returned (.bool (vacS x)) ∧ Below w.heap.size w w' := by
  have hu33 := Try.underlying33
  unfold vacS
  go_enter Try.func84, Try.ntmps84
  go_wp2
  go_ret
  exact ⟨rfl, by first | exact Below.refl _ _ | exact below_alloc (Below.refl _ _) _⟩

set_option maxHeartbeats 2000000 in
theorem index_vacant (A : Option Addr) (c : Nat) (l : List S33) (w : World) (hr : Kd.C k33 w A l.length l) (hc : l.length ≤ c) :
    Calls Try.prog 83 #[.slice A l.length c, .func (.func 84) #[] #[]] w fun e w' => e = .returned (.int .i64 (idxOf vacS l)) ∧ Below w.heap.size w w' := by
  have hu33 := Try.underlying33
  have hmax := Kd.C_max hr
  have HR := Aside0.mk hr
  have HC := Aside0.mk hc
  clear hr hc
  have eg : ∀ args w, (callFunc 84 args).run Try.prog w = .ok (.enter 84 args) w := enters_ Try.func84 (by kernel_rfl) rfl
  go_enter Try.func83, Try.ntmps83
  go_wp2
  go_loopg [5, 8] l.length (fun gg _ s8 wr => ∃ kk : Nat, kk ≤ l.length ∧ l.length - kk ≤ gg ∧ s8 = .int .i64 kk ∧ Aside0 (Below w.heap.size w wr) ∧ Aside0 (∀ j (h : j < l.length), j < kk → vacS l[j] = false))
  case atStart => exact ⟨0, Nat.zero_le _, by omega, rfl, ⟨Below.refl _ w⟩, ⟨fun j _ hj => absurd hj (Nat.not_lt_zero _)⟩⟩
  case round =>
    obtain ⟨kk, hkk, hg, rfl, HB, HA⟩ := hrel
    by_cases hlt : kk < l.length
    · have p0 : 0 ≤ (kk : Int) := by omega
      have q0 : (kk : Int) < (l.length : Int) := by omega
      obtain ⟨ad, e0, hx0, hx1⟩ := at_T33 HR.out (kk : Int) p0 q0
      cases e0
      replace hx0 := (HB.out.cell (World.block_lt_of_cell? w _ hx0)).trans hx0
      replace hx1 := (HB.out.cell (World.block_lt_of_cell? w _ hx1)).trans hx1
      have HX : Aside0 (rd_T33 l (kk : Int) = l[kk]) := ⟨by simp [rd_T33, List.getD_eq_getElem?_getD, List.getElem?_eq_getElem hlt]⟩
      generalize rd_T33 l (kk : Int) = x at hx0 hx1 HX
      have hcall := isVacant_any x wr
      rw [Int.toNat_natCast] at hx0 hx1
      cases hq : vacS x with
      | true =>
        rw [hq] at hcall
        go_wp2_with (go_at_call 84; refine hcall.mono ?_; rintro e w' ⟨rfl, hb'⟩)
        go_ret
        refine ⟨?_, below_then HB.out HB.out.size hb'⟩
        rw [idxOf_hit vacS l kk hlt (by rw [← HX.out]; exact hq) (fun j h => HA.out j (by omega) h)]; rfl
      | false =>
        rw [hq] at hcall
        go_wp2_with (go_at_call 84; refine hcall.mono ?_; rintro e w' ⟨rfl, hb'⟩)
        go_roundg (l.length - (kk + 1))
        case measure => omega
        case rel =>
          refine ⟨kk + 1, by omega, by omega, by go_num, ⟨below_then HB.out HB.out.size hb'⟩, ⟨fun j h hj => ?_⟩⟩
          by_cases e : j = kk
          · subst e
            rw [← HX.out]; exact hq
          · exact HA.out j h (by omega)
    · have hltz : ¬ (kk : Int) < (l.length : Int) := by omega
      go_wp2
      go_ret
      refine ⟨?_, HB.out⟩
      rw [idxOf_miss vacS l (fun j h => HA.out j h (by omega))]; rfl


def slices_IndexVacant.f (l : List S33) : Option Int := some (idxOf vacS l)
theorem slices_IndexVacant.calls (A : Option Addr) (c : Nat) (l : List S33) (r : Int) (w : World) (hr : Kd.C k33 w A l.length l) (hc : l.length ≤ c) (h : slices_IndexVacant.f l = some r) :
    Calls Try.prog 83 #[.slice A l.length c, .func (.func 84) #[] #[]] w fun e w' => e = .returned (.int .i64 r) ∧ Below w.heap.size w w' := by
  obtain rfl := Option.some.inj h
  exact index_vacant A c l w hr hc
end Go.Proofs.Ytfjmnaobfbmllaa.M

namespace Go.Proofs.Ytfjmnaobfbmllaa.M
open Go.RowKit Go.Proofs.YtfjmnaobfbmllaaW.PrintWords Go.Proofs.YtfjmnaobfbmllaaW.PrintLast Go.Proofs.YtfjmnaobfbmllaaW.PrintMore
attribute [local go_sem] max2_int min2_int max_two min_two max_three min_three max_four min_four   -- for this text's walks alone
set_option linter.unusedVariables false
set_option linter.unusedSimpArgs false

/-! ### slab_Vacant: function 43 -/
mutual
def slab_Vacant.j0 : Nat → Int → Bool → Int → List (S33) → Option (Int × Int)
  | 0, _, _, _, _ => none
  | k + 1, x1, x8, x102000, x102001 => if x8 = true then (some (0, 1)) else (if x1 > 200 then (some (0, 5)) else ((slices_IndexVacant.f x102001).bind fun t103 => (if t103 < 0 then (slab_Vacant.j1 k x1 (x102001.length : Int) x102000 x102001) else (slab_Vacant.j1 k x1 t103 x102000 x102001))))
def slab_Vacant.j1 : Nat → Int → Int → Int → List (S33) → Option (Int × Int)
  | 0, _, _, _, _ => none
  | k + 1, x1, x6, x102000, x102001 => if x6 = (x102001.length : Int) then (if x6 ≥ 32 then (some (0, 22)) else ((slabSize0.f x102001).bind fun t104 => (if (wrap64 (t104 + (wrap64 (x1 + 1)))) > 240 then (some (0, 22)) else (some (x6, 0))))) else (if x6 ≥ 32 then (some (0, 22)) else ((slabSize0.f x102001).bind fun t105 => (if (wrap64 (t105 + x1)) > 240 then (some (0, 22)) else (some (x6, 0)))))
end
def slab_Vacant.f (k : Nat) (a0_0 : Int) (l0_1 : List (S33)) (a1 : Int) : Option (Int × Int) := (slabGood.f a0_0 l0_1).bind fun t102 => (if t102 = true then (slab_Vacant.j0 k a1 (decide (a1 < 0)) a0_0 l0_1) else (slab_Vacant.j0 k a1 true a0_0 l0_1))
set_option maxHeartbeats 8000000 in
set_option maxRecDepth 100000 in
theorem slab_Vacant.calls (k : Nat) (a0_0 : Int) (A0_1 : Option Addr) (c0_1 : Nat) (l0_1 : List (S33)) (a1 : Int) (r1 : Int) (r2 : Int) (w : World) (hr0_1 : Kd.C k33 w A0_1 l0_1.length l0_1) (hc0_1 : l0_1.length ≤ c0_1) (h : slab_Vacant.f k a0_0 l0_1 a1 = some (r1, r2)) :
    Calls Try.prog 43 #[.agg #[.int .i64 a0_0, .slice A0_1 l0_1.length c0_1], .int .i64 a1] w fun e w' => e = .returned (.tuple #[.int .i64 r1, .int .i64 r2]) ∧ Below w.heap.size w w' := by
  have hu24 := Try.underlying24
  have HR0_1 := Aside0.mk hr0_1
  have HC0_1 := Aside0.mk hc0_1
  clear hr0_1 hc0_1
  have HB := Aside0.mk (Below.refl w.heap.size w)
  have H : ((slabGood.f a0_0 l0_1).bind fun t102 => (if t102 = true then (slab_Vacant.j0 k a1 (decide (a1 < 0)) a0_0 l0_1) else (slab_Vacant.j0 k a1 true a0_0 l0_1))) = some (r1, r2) := h
  clear h
  have HC3 := Aside0.mk H
  clear H
  go_enter Try.func43, Try.ntmps43
  go_upto_region 1 with (first | ((with_reducible refine gate_dst (N := 2) rfl ?_); refine box_event ?hg (N := 2) ?hd (cs := #[.int .i64 a0_0, .slice A0_1 l0_1.length c0_1]) (t := 24) ?hr ?_; (case hd => rfl); (case hg => rfl); (case hr => first | (go_simp; done) | (go_simp; rfl)); intro gb101 hg w4 hbox hb; have n0_ := Aside0.mk (below_step (by repeat (first | (with_reducible first | exact HB.out | apply below_alloc | apply pw_below_drewN | apply below_drew1) | exact HB.out)) hb); have n1_ := Aside0.mk (hbox); have n2_ := Aside0.mk ((by rw [hg]; exact (below_size (by repeat (first | (with_reducible first | exact HB.out | apply below_alloc | apply pw_below_drewN | apply below_drew1) | exact HB.out))) : w.heap.size ≤ gb101)); have n3_ := Aside0.mk ((by rw [hg]; exact (below_size (by repeat (first | (with_reducible first | exact HB.out | apply below_alloc | apply pw_below_drewN | apply below_drew1) | exact HB.out))) : w.heap.size ≤ gb101)); clear HB; have HB := n0_; have BK101 := n1_; have GW101 := n2_; have GE101 := n3_; clear n0_ n1_ n2_ n3_; clear hb hbox hg))
  (try simp only [Act.put, List.setIfInBounds_toArray, List.set_cons_zero, List.set_cons_succ])
  go_cut [8] (fun v8 wc => ∃ (kq : Nat) (x8_2 : Bool), v8 = .bool x8_2 ∧ Aside0 (slab_Vacant.j0 kq a1 x8_2 a0_0 l0_1 = some (r1, r2)) ∧ Aside0 (kq ≤ k) ∧ Aside0 (wc.heap[gb101]? = some (.cells #[.int .i64 a0_0, (.slice A0_1 l0_1.length c0_1)] 24 (0, 0))) ∧ Aside0 (Below w.heap.size w wc))
  case first =>
    have H := HC3.out
    clear HC3
    replace H := Option.bind_eq_some_iff.mp H
    obtain ⟨t102, A50, H⟩ := H
    replace H : (if t102 = true then (slab_Vacant.j0 k a1 (decide (a1 < 0)) a0_0 l0_1) else (slab_Vacant.j0 k a1 true a0_0 l0_1)) = some (r1, r2) := H
    have A5 := Aside0.mk A50
    clear A50
    by_cases c6 : t102 = true
    · subst c6
      have H1 : (slab_Vacant.j0 k a1 (decide (a1 < 0)) a0_0 l0_1) = some (r1, r2) := by rw [if_pos rfl] at H; exact H
      clear H
      have H := H1
      clear H1
      have H' := Aside0.mk H
      clear H
      have hcz7_0 : w4.cell? ⟨gb101, 0, none⟩ = some (.int .i64 a0_0) := (blk_cell BK101.out 0).trans rfl
      have hcz7_1 : w4.cell? ⟨gb101, 1, none⟩ = some (.slice A0_1 l0_1.length c0_1) := (blk_cell BK101.out 1).trans rfl
      have hfz7_0 := blk_frozen BK101.out 0
      have hfz7_1 := blk_frozen BK101.out 1
      go_wp2_with (first | ((with_reducible refine gate_callee (f := 34) rfl ?_); refine goesL_ (some 10) rfl rfl Try.func34 (by kernel_rfl) rfl #[.agg #[.int .i64 a0_0, .slice A0_1 l0_1.length c0_1]] rfl (by (try simp only [List.map_toArray, List.map_cons, List.map_nil]); first | done | rfl | (simp only [List.length_drop, List.length_take]; rfl)) ?_; (with_reducible refine (slabGood.calls a0_0 _ _ l0_1 true _ ?side1 ?side2 A5.out).mono ?_); (case side1 => repeat (first | exact (Kd.C_below HR0_1.out HB.out) | (with_reducible refine Kd.C_alloc ?_ _) | (with_reducible refine Kd.C_drewN ?_ _) | (with_reducible refine Kd.C_drew ?_))); (case side2 => exact HC0_1.out); rintro e w8 ⟨rfl, hb⟩; refine ⟨_, rfl, ?_⟩; have n0_ := Aside0.mk (blk_below (g := gb101) (o := .cells #[.int .i64 a0_0, .slice A0_1 l0_1.length c0_1] 24 (0, 0)) (by (with_reducible repeat (first | refine blk_drewN ?_ _ | refine blk_drew ?_ | refine blk_alloc ?_ _)); exact BK101.out) hb); have n1_ := Aside0.mk (below_step (by repeat (first | (with_reducible first | exact HB.out | apply below_alloc | apply pw_below_drewN | apply below_drew1 | refine below_set ?_ GE101.out) | exact HB.out)) hb); clear BK101; clear HB; have BK101 := n0_; have HB := n1_; clear n0_ n1_; (try clear hb); (try clear hb2); (try clear hk); (try clear hi)))
      go_meet
      case rel => exact ⟨_, (decide (a1 < 0)), (by first | rfl | (simp; done) | (simp [*]; done)), H', ⟨by first | omega | exact Nat.le_refl _⟩, ⟨by (with_reducible repeat (first | refine blk_drewN ?_ _ | refine blk_drew ?_ | refine blk_alloc ?_ _)); exact BK101.out⟩, ⟨by repeat (first | (with_reducible first | exact HB.out | apply below_alloc | apply pw_below_drewN | apply below_drew1 | refine below_set ?_ GE101.out) | exact HB.out)⟩⟩
    · replace c6 := Bool.eq_false_iff.mpr c6
      subst c6
      have H1 : (slab_Vacant.j0 k a1 true a0_0 l0_1) = some (r1, r2) := by rw [if_neg (show ¬ (false = true) by decide)] at H; exact H
      clear H
      have H := H1
      clear H1
      have H' := Aside0.mk H
      clear H
      have hcz9_0 : w4.cell? ⟨gb101, 0, none⟩ = some (.int .i64 a0_0) := (blk_cell BK101.out 0).trans rfl
      have hcz9_1 : w4.cell? ⟨gb101, 1, none⟩ = some (.slice A0_1 l0_1.length c0_1) := (blk_cell BK101.out 1).trans rfl
      have hfz9_0 := blk_frozen BK101.out 0
      have hfz9_1 := blk_frozen BK101.out 1
      go_wp2_with (first | ((with_reducible refine gate_callee (f := 34) rfl ?_); refine goesL_ (some 10) rfl rfl Try.func34 (by kernel_rfl) rfl #[.agg #[.int .i64 a0_0, .slice A0_1 l0_1.length c0_1]] rfl (by (try simp only [List.map_toArray, List.map_cons, List.map_nil]); first | done | rfl | (simp only [List.length_drop, List.length_take]; rfl)) ?_; (with_reducible refine (slabGood.calls a0_0 _ _ l0_1 false _ ?side1 ?side2 A5.out).mono ?_); (case side1 => repeat (first | exact (Kd.C_below HR0_1.out HB.out) | (with_reducible refine Kd.C_alloc ?_ _) | (with_reducible refine Kd.C_drewN ?_ _) | (with_reducible refine Kd.C_drew ?_))); (case side2 => exact HC0_1.out); rintro e w10 ⟨rfl, hb⟩; refine ⟨_, rfl, ?_⟩; have n0_ := Aside0.mk (blk_below (g := gb101) (o := .cells #[.int .i64 a0_0, .slice A0_1 l0_1.length c0_1] 24 (0, 0)) (by (with_reducible repeat (first | refine blk_drewN ?_ _ | refine blk_drew ?_ | refine blk_alloc ?_ _)); exact BK101.out) hb); have n1_ := Aside0.mk (below_step (by repeat (first | (with_reducible first | exact HB.out | apply below_alloc | apply pw_below_drewN | apply below_drew1 | refine below_set ?_ GE101.out) | exact HB.out)) hb); clear BK101; clear HB; have BK101 := n0_; have HB := n1_; clear n0_ n1_; (try clear hb); (try clear hb2); (try clear hk); (try clear hi)))
      go_meet
      case rel => exact ⟨_, (true), (by first | rfl | (simp; done) | (simp [*]; done)), H', ⟨by first | omega | exact Nat.le_refl _⟩, ⟨by (with_reducible repeat (first | refine blk_drewN ?_ _ | refine blk_drew ?_ | refine blk_alloc ?_ _)); exact BK101.out⟩, ⟨by repeat (first | (with_reducible first | exact HB.out | apply below_alloc | apply pw_below_drewN | apply below_drew1 | refine below_set ?_ GE101.out) | exact HB.out)⟩⟩
  case rest =>
    clear HC3
    try clear p2
    try clear c3
    try clear c4
    try clear c6
    try clear hcz7_0
    try clear hcz7_1
    try clear hcz9_0
    try clear hcz9_1
    try clear hfz7_0
    try clear hfz7_1
    try clear hfz9_0
    try clear hfz9_1
    obtain ⟨kq, x8_2, rfl, HA, HJ2, BK101, HB⟩ := hcut
    cases kq with
    | zero => exact absurd HA.out (by simp [slab_Vacant.j0])
    | succ kj2 =>
      have H := HA.out
      clear HA
      simp only [slab_Vacant.j0] at H
      by_cases c11 : x8_2 = true
      · subst c11
        have H1 : (some (0, 1)) = some (r1, r2) := by rw [if_pos rfl] at H; exact H
        clear H
        have H := H1
        clear H1
        simp only [Option.some.injEq, Prod.mk.injEq] at H
        obtain ⟨rfl, rfl⟩ := H
        go_wp2
        go_ret2
        exact ⟨by first | rfl | (simp [errW_none, errW_some] <;> rfl) | (simp [*, errW_none, errW_some] <;> rfl), by repeat (first | (with_reducible first | exact HB.out | apply below_alloc | apply pw_below_drewN | apply below_drew1 | refine below_set ?_ GE101.out) | exact HB.out)⟩
      · replace c11 := Bool.eq_false_iff.mpr c11
        subst c11
        have H1 : (if a1 > 200 then (some (0, 5)) else ((slices_IndexVacant.f l0_1).bind fun t103 => (if t103 < 0 then (slab_Vacant.j1 kj2 a1 (l0_1.length : Int) a0_0 l0_1) else (slab_Vacant.j1 kj2 a1 t103 a0_0 l0_1)))) = some (r1, r2) := by rw [if_neg (show ¬ (false = true) by decide)] at H; exact H
        clear H
        have H := H1
        clear H1
        by_cases c12 : a1 > 200
        · rw [if_pos c12] at H
          have c12b0 : decide (200 < a1) = true := decide_eq_true c12
          clear c12
          simp only [Option.some.injEq, Prod.mk.injEq] at H
          obtain ⟨rfl, rfl⟩ := H
          go_wp2
          go_ret2
          exact ⟨by first | rfl | (simp [errW_none, errW_some] <;> rfl) | (simp [*, errW_none, errW_some] <;> rfl), by repeat (first | (with_reducible first | exact HB.out | apply below_alloc | apply pw_below_drewN | apply below_drew1 | refine below_set ?_ GE101.out) | exact HB.out)⟩
        · rw [if_neg c12] at H
          have c12b0 : decide (200 < a1) = false := decide_eq_false c12
          clear c12
          replace H := Option.bind_eq_some_iff.mp H
          obtain ⟨t103, A130, H⟩ := H
          replace H : (if t103 < 0 then (slab_Vacant.j1 kj2 a1 (l0_1.length : Int) a0_0 l0_1) else (slab_Vacant.j1 kj2 a1 t103 a0_0 l0_1)) = some (r1, r2) := H
          have A13 := Aside0.mk A130
          clear A130
          have HC14 := Aside0.mk H
          clear H
          have hcz15_0 : wc.cell? ⟨gb101, 0, none⟩ = some (.int .i64 a0_0) := (blk_cell BK101.out 0).trans rfl
          have hcz15_1 : wc.cell? ⟨gb101, 1, none⟩ = some (.slice A0_1 l0_1.length c0_1) := (blk_cell BK101.out 1).trans rfl
          have hfz15_0 := blk_frozen BK101.out 0
          have hfz15_1 := blk_frozen BK101.out 1
          go_upto_if 23 with (first | ((with_reducible refine gate_callee (f := 83) rfl ?_); refine goesL_ (some 21) rfl rfl Try.func83 (by kernel_rfl) rfl #[.slice A0_1 l0_1.length c0_1, .func (.func 84) #[] #[]] rfl (by (try simp only [List.map_toArray, List.map_cons, List.map_nil]); first | done | rfl | (simp only [List.length_drop, List.length_take]; rfl)) ?_; (with_reducible refine (slices_IndexVacant.calls _ _ l0_1 t103 _ ?side1 ?side2 A13.out).mono ?_); (case side1 => repeat (first | exact (Kd.C_below HR0_1.out HB.out) | (with_reducible refine Kd.C_alloc ?_ _) | (with_reducible refine Kd.C_drewN ?_ _) | (with_reducible refine Kd.C_drew ?_))); (case side2 => exact HC0_1.out); rintro e w16 ⟨rfl, hb⟩; refine ⟨_, rfl, ?_⟩; have n0_ := Aside0.mk (blk_below (g := gb101) (o := .cells #[.int .i64 a0_0, .slice A0_1 l0_1.length c0_1] 24 (0, 0)) (by (with_reducible repeat (first | refine blk_drewN ?_ _ | refine blk_drew ?_ | refine blk_alloc ?_ _)); exact BK101.out) hb); have n1_ := Aside0.mk (below_step (by repeat (first | (with_reducible first | exact HB.out | apply below_alloc | apply pw_below_drewN | apply below_drew1 | refine below_set ?_ GE101.out) | exact HB.out)) hb); clear BK101; clear HB; have BK101 := n0_; have HB := n1_; clear n0_ n1_; (try clear hb); (try clear hb2); (try clear hk); (try clear hi)))
          (try simp only [Act.put, List.setIfInBounds_toArray, List.set_cons_zero, List.set_cons_succ])
          go_cut [6] (fun v6 wc => ∃ (kq : Nat) (x6_13 : Int), v6 = .int .i64 x6_13 ∧ Aside0 (slab_Vacant.j1 kq a1 x6_13 a0_0 l0_1 = some (r1, r2)) ∧ Aside0 (kq ≤ kj2) ∧ Aside0 (wc.heap[gb101]? = some (.cells #[.int .i64 a0_0, (.slice A0_1 l0_1.length c0_1)] 24 (0, 0))) ∧ Aside0 (Below w.heap.size w wc))
          case first =>
            have H := HC14.out
            clear HC14
            by_cases c17 : t103 < 0
            · rw [if_pos c17] at H
              have c17b0 : decide (t103 < 0) = true := decide_eq_true c17
              clear c17
              (first | rw [c17b0] | (simp only [i64_w, i32_w]; rw [c17b0]) | skip)
              have H' := Aside0.mk H
              clear H
              have hcz18_0 : w16.cell? ⟨gb101, 0, none⟩ = some (.int .i64 a0_0) := (blk_cell BK101.out 0).trans rfl
              have hcz18_1 : w16.cell? ⟨gb101, 1, none⟩ = some (.slice A0_1 l0_1.length c0_1) := (blk_cell BK101.out 1).trans rfl
              have hfz18_0 := blk_frozen BK101.out 0
              have hfz18_1 := blk_frozen BK101.out 1
              go_wp2
              go_meet
              case rel => exact ⟨_, ((l0_1.length : Int)), (by first | rfl | (simp; done) | (simp [*]; done)), H', ⟨by have := HJ2.out; first | omega | exact Nat.le_refl _⟩, ⟨by (with_reducible repeat (first | refine blk_drewN ?_ _ | refine blk_drew ?_ | refine blk_alloc ?_ _)); exact BK101.out⟩, ⟨by repeat (first | (with_reducible first | exact HB.out | apply below_alloc | apply pw_below_drewN | apply below_drew1 | refine below_set ?_ GE101.out) | exact HB.out)⟩⟩
            · rw [if_neg c17] at H
              have c17b0 : decide (t103 < 0) = false := decide_eq_false c17
              clear c17
              (first | rw [c17b0] | (simp only [i64_w, i32_w]; rw [c17b0]) | skip)
              have H' := Aside0.mk H
              clear H
              go_wp2
              go_meet
              case rel => exact ⟨_, (t103), (by first | rfl | (simp; done) | (simp [*]; done)), H', ⟨by have := HJ2.out; first | omega | exact Nat.le_refl _⟩, ⟨by (with_reducible repeat (first | refine blk_drewN ?_ _ | refine blk_drew ?_ | refine blk_alloc ?_ _)); exact BK101.out⟩, ⟨by repeat (first | (with_reducible first | exact HB.out | apply below_alloc | apply pw_below_drewN | apply below_drew1 | refine below_set ?_ GE101.out) | exact HB.out)⟩⟩
          case rest =>
            clear HC14
            try clear c1
            try clear p2
            try clear c3
            try clear c4
            try clear c6
            try clear c8
            try clear c11
            try clear c12
            try clear c12b0
            try clear c17
            try clear c17b0
            try clear hcz15_0
            try clear hcz15_1
            try clear hcz18_0
            try clear hcz18_1
            try clear hcz7_0
            try clear hcz7_1
            try clear hcz9_0
            try clear hcz9_1
            try clear hfz15_0
            try clear hfz15_1
            try clear hfz18_0
            try clear hfz18_1
            try clear hfz7_0
            try clear hfz7_1
            try clear hfz9_0
            try clear hfz9_1
            try clear p2
            obtain ⟨kq, x6_13, rfl, HA, HJ13, BK101, HB⟩ := hcut
            cases kq with
            | zero => exact absurd HA.out (by simp [slab_Vacant.j1])
            | succ kj13 =>
              have H := HA.out
              clear HA
              simp only [slab_Vacant.j1] at H
              by_cases c19 : x6_13 = (l0_1.length : Int)
              · rw [if_pos c19] at H
                have c19b0 : (x6_13 == (l0_1.length : Int)) = true := beq_iff_eq.mpr c19
                have c19b1 : (x6_13 != (l0_1.length : Int)) = false := bne_eq_false_iff_eq.mpr c19
                clear c19
                by_cases c20 : x6_13 ≥ 32
                · rw [if_pos c20] at H
                  have c20b0 : decide (32 ≤ x6_13) = true := decide_eq_true c20
                  clear c20
                  simp only [Option.some.injEq, Prod.mk.injEq] at H
                  obtain ⟨rfl, rfl⟩ := H
                  have hcz21_0 : wc.cell? ⟨gb101, 0, none⟩ = some (.int .i64 a0_0) := (blk_cell BK101.out 0).trans rfl
                  have hcz21_1 : wc.cell? ⟨gb101, 1, none⟩ = some (.slice A0_1 l0_1.length c0_1) := (blk_cell BK101.out 1).trans rfl
                  have hfz21_0 := blk_frozen BK101.out 0
                  have hfz21_1 := blk_frozen BK101.out 1
                  go_wp2
                  go_ret2
                  exact ⟨by first | rfl | (simp [errW_none, errW_some] <;> rfl) | (simp [*, errW_none, errW_some] <;> rfl), by repeat (first | (with_reducible first | exact HB.out | apply below_alloc | apply pw_below_drewN | apply below_drew1 | refine below_set ?_ GE101.out) | exact HB.out)⟩
                · rw [if_neg c20] at H
                  have c20b0 : decide (32 ≤ x6_13) = false := decide_eq_false c20
                  clear c20
                  replace H := Option.bind_eq_some_iff.mp H
                  obtain ⟨t104, A220, H⟩ := H
                  replace H : (if (wrap64 (t104 + (wrap64 (a1 + 1)))) > 240 then (some (0, 22)) else (some (x6_13, 0))) = some (r1, r2) := H
                  have A22 := Aside0.mk A220
                  clear A220
                  by_cases c23 : (wrap64 (t104 + (wrap64 (a1 + 1)))) > 240
                  · rw [if_pos c23] at H
                    have c23b0 : decide (240 < (wrap64 (t104 + (wrap64 (a1 + 1))))) = true := decide_eq_true c23
                    clear c23
                    simp only [Option.some.injEq, Prod.mk.injEq] at H
                    obtain ⟨rfl, rfl⟩ := H
                    have hcz24_0 : wc.cell? ⟨gb101, 0, none⟩ = some (.int .i64 a0_0) := (blk_cell BK101.out 0).trans rfl
                    have hcz24_1 : wc.cell? ⟨gb101, 1, none⟩ = some (.slice A0_1 l0_1.length c0_1) := (blk_cell BK101.out 1).trans rfl
                    have hfz24_0 := blk_frozen BK101.out 0
                    have hfz24_1 := blk_frozen BK101.out 1
                    go_wp2_with (first | (go_at_call 81; (with_reducible refine (slabSize0.calls _ _ l0_1 t104 _ ?side1 ?side2 A22.out).mono ?_); (case side1 => repeat (first | exact (Kd.C_below HR0_1.out HB.out) | (with_reducible refine Kd.C_alloc ?_ _) | (with_reducible refine Kd.C_drewN ?_ _) | (with_reducible refine Kd.C_drew ?_))); (case side2 => exact HC0_1.out); rintro e w25 ⟨rfl, hb⟩; have n0_ := Aside0.mk (blk_below (g := gb101) (o := .cells #[.int .i64 a0_0, .slice A0_1 l0_1.length c0_1] 24 (0, 0)) (by (with_reducible repeat (first | refine blk_drewN ?_ _ | refine blk_drew ?_ | refine blk_alloc ?_ _)); exact BK101.out) hb); have n1_ := Aside0.mk (below_step (by repeat (first | (with_reducible first | exact HB.out | apply below_alloc | apply pw_below_drewN | apply below_drew1 | refine below_set ?_ GE101.out) | exact HB.out)) hb); clear BK101; clear HB; have BK101 := n0_; have HB := n1_; clear n0_ n1_; (try clear hb); (try clear hb2); (try clear hk); (try clear hi)))
                    go_ret2
                    exact ⟨by first | rfl | (simp [errW_none, errW_some] <;> rfl) | (simp [*, errW_none, errW_some] <;> rfl), by repeat (first | (with_reducible first | exact HB.out | apply below_alloc | apply pw_below_drewN | apply below_drew1 | refine below_set ?_ GE101.out) | exact HB.out)⟩
                  · rw [if_neg c23] at H
                    have c23b0 : decide (240 < (wrap64 (t104 + (wrap64 (a1 + 1))))) = false := decide_eq_false c23
                    clear c23
                    simp only [Option.some.injEq, Prod.mk.injEq] at H
                    obtain ⟨rfl, rfl⟩ := H
                    have hcz26_0 : wc.cell? ⟨gb101, 0, none⟩ = some (.int .i64 a0_0) := (blk_cell BK101.out 0).trans rfl
                    have hcz26_1 : wc.cell? ⟨gb101, 1, none⟩ = some (.slice A0_1 l0_1.length c0_1) := (blk_cell BK101.out 1).trans rfl
                    have hfz26_0 := blk_frozen BK101.out 0
                    have hfz26_1 := blk_frozen BK101.out 1
                    go_wp2_with (first | (go_at_call 81; (with_reducible refine (slabSize0.calls _ _ l0_1 t104 _ ?side1 ?side2 A22.out).mono ?_); (case side1 => repeat (first | exact (Kd.C_below HR0_1.out HB.out) | (with_reducible refine Kd.C_alloc ?_ _) | (with_reducible refine Kd.C_drewN ?_ _) | (with_reducible refine Kd.C_drew ?_))); (case side2 => exact HC0_1.out); rintro e w27 ⟨rfl, hb⟩; have n0_ := Aside0.mk (blk_below (g := gb101) (o := .cells #[.int .i64 a0_0, .slice A0_1 l0_1.length c0_1] 24 (0, 0)) (by (with_reducible repeat (first | refine blk_drewN ?_ _ | refine blk_drew ?_ | refine blk_alloc ?_ _)); exact BK101.out) hb); have n1_ := Aside0.mk (below_step (by repeat (first | (with_reducible first | exact HB.out | apply below_alloc | apply pw_below_drewN | apply below_drew1 | refine below_set ?_ GE101.out) | exact HB.out)) hb); clear BK101; clear HB; have BK101 := n0_; have HB := n1_; clear n0_ n1_; (try clear hb); (try clear hb2); (try clear hk); (try clear hi)))
                    go_ret2
                    exact ⟨by first | rfl | (simp [errW_none, errW_some] <;> rfl) | (simp [*, errW_none, errW_some] <;> rfl), by repeat (first | (with_reducible first | exact HB.out | apply below_alloc | apply pw_below_drewN | apply below_drew1 | refine below_set ?_ GE101.out) | exact HB.out)⟩
              · rw [if_neg c19] at H
                have c19b0 : (x6_13 == (l0_1.length : Int)) = false := beq_eq_false_iff_ne.mpr c19
                have c19b1 : (x6_13 != (l0_1.length : Int)) = true := bne_iff_ne.mpr c19
                by_cases c28 : x6_13 ≥ 32
                · rw [if_pos c28] at H
                  have c28b0 : decide (32 ≤ x6_13) = true := decide_eq_true c28
                  clear c28
                  simp only [Option.some.injEq, Prod.mk.injEq] at H
                  obtain ⟨rfl, rfl⟩ := H
                  have hcz29_0 : wc.cell? ⟨gb101, 0, none⟩ = some (.int .i64 a0_0) := (blk_cell BK101.out 0).trans rfl
                  have hcz29_1 : wc.cell? ⟨gb101, 1, none⟩ = some (.slice A0_1 l0_1.length c0_1) := (blk_cell BK101.out 1).trans rfl
                  have hfz29_0 := blk_frozen BK101.out 0
                  have hfz29_1 := blk_frozen BK101.out 1
                  go_wp2
                  go_ret2
                  exact ⟨by first | rfl | (simp [errW_none, errW_some] <;> rfl) | (simp [*, errW_none, errW_some] <;> rfl), by repeat (first | (with_reducible first | exact HB.out | apply below_alloc | apply pw_below_drewN | apply below_drew1 | refine below_set ?_ GE101.out) | exact HB.out)⟩
                · rw [if_neg c28] at H
                  have c28b0 : decide (32 ≤ x6_13) = false := decide_eq_false c28
                  clear c28
                  replace H := Option.bind_eq_some_iff.mp H
                  obtain ⟨t105, A300, H⟩ := H
                  replace H : (if (wrap64 (t105 + a1)) > 240 then (some (0, 22)) else (some (x6_13, 0))) = some (r1, r2) := H
                  have A30 := Aside0.mk A300
                  clear A300
                  by_cases c31 : (wrap64 (t105 + a1)) > 240
                  · rw [if_pos c31] at H
                    have c31b0 : decide (240 < (wrap64 (t105 + a1))) = true := decide_eq_true c31
                    clear c31
                    simp only [Option.some.injEq, Prod.mk.injEq] at H
                    obtain ⟨rfl, rfl⟩ := H
                    have hcz32_0 : wc.cell? ⟨gb101, 0, none⟩ = some (.int .i64 a0_0) := (blk_cell BK101.out 0).trans rfl
                    have hcz32_1 : wc.cell? ⟨gb101, 1, none⟩ = some (.slice A0_1 l0_1.length c0_1) := (blk_cell BK101.out 1).trans rfl
                    have hfz32_0 := blk_frozen BK101.out 0
                    have hfz32_1 := blk_frozen BK101.out 1
                    go_wp2_with (first | (go_at_call 81; (with_reducible refine (slabSize0.calls _ _ l0_1 t105 _ ?side1 ?side2 A30.out).mono ?_); (case side1 => repeat (first | exact (Kd.C_below HR0_1.out HB.out) | (with_reducible refine Kd.C_alloc ?_ _) | (with_reducible refine Kd.C_drewN ?_ _) | (with_reducible refine Kd.C_drew ?_))); (case side2 => exact HC0_1.out); rintro e w33 ⟨rfl, hb⟩; have n0_ := Aside0.mk (blk_below (g := gb101) (o := .cells #[.int .i64 a0_0, .slice A0_1 l0_1.length c0_1] 24 (0, 0)) (by (with_reducible repeat (first | refine blk_drewN ?_ _ | refine blk_drew ?_ | refine blk_alloc ?_ _)); exact BK101.out) hb); have n1_ := Aside0.mk (below_step (by repeat (first | (with_reducible first | exact HB.out | apply below_alloc | apply pw_below_drewN | apply below_drew1 | refine below_set ?_ GE101.out) | exact HB.out)) hb); clear BK101; clear HB; have BK101 := n0_; have HB := n1_; clear n0_ n1_; (try clear hb); (try clear hb2); (try clear hk); (try clear hi)))
                    go_ret2
                    exact ⟨by first | rfl | (simp [errW_none, errW_some] <;> rfl) | (simp [*, errW_none, errW_some] <;> rfl), by repeat (first | (with_reducible first | exact HB.out | apply below_alloc | apply pw_below_drewN | apply below_drew1 | refine below_set ?_ GE101.out) | exact HB.out)⟩
                  · rw [if_neg c31] at H
                    have c31b0 : decide (240 < (wrap64 (t105 + a1))) = false := decide_eq_false c31
                    clear c31
                    simp only [Option.some.injEq, Prod.mk.injEq] at H
                    obtain ⟨rfl, rfl⟩ := H
                    have hcz34_0 : wc.cell? ⟨gb101, 0, none⟩ = some (.int .i64 a0_0) := (blk_cell BK101.out 0).trans rfl
                    have hcz34_1 : wc.cell? ⟨gb101, 1, none⟩ = some (.slice A0_1 l0_1.length c0_1) := (blk_cell BK101.out 1).trans rfl
                    have hfz34_0 := blk_frozen BK101.out 0
                    have hfz34_1 := blk_frozen BK101.out 1
                    go_wp2_with (first | (go_at_call 81; (with_reducible refine (slabSize0.calls _ _ l0_1 t105 _ ?side1 ?side2 A30.out).mono ?_); (case side1 => repeat (first | exact (Kd.C_below HR0_1.out HB.out) | (with_reducible refine Kd.C_alloc ?_ _) | (with_reducible refine Kd.C_drewN ?_ _) | (with_reducible refine Kd.C_drew ?_))); (case side2 => exact HC0_1.out); rintro e w35 ⟨rfl, hb⟩; have n0_ := Aside0.mk (blk_below (g := gb101) (o := .cells #[.int .i64 a0_0, .slice A0_1 l0_1.length c0_1] 24 (0, 0)) (by (with_reducible repeat (first | refine blk_drewN ?_ _ | refine blk_drew ?_ | refine blk_alloc ?_ _)); exact BK101.out) hb); have n1_ := Aside0.mk (below_step (by repeat (first | (with_reducible first | exact HB.out | apply below_alloc | apply pw_below_drewN | apply below_drew1 | refine below_set ?_ GE101.out) | exact HB.out)) hb); clear BK101; clear HB; have BK101 := n0_; have HB := n1_; clear n0_ n1_; (try clear hb); (try clear hb2); (try clear hk); (try clear hi)))
                    go_ret2
                    exact ⟨by first | rfl | (simp [errW_none, errW_some] <;> rfl) | (simp [*, errW_none, errW_some] <;> rfl), by repeat (first | (with_reducible first | exact HB.out | apply below_alloc | apply pw_below_drewN | apply below_drew1 | refine below_set ?_ GE101.out) | exact HB.out)⟩

end Go.Proofs.Ytfjmnaobfbmllaa.M

namespace Go.Proofs.Ytfjmnaobfbmllaa.M
open Go.RowKit Go.Proofs.YtfjmnaobfbmllaaW.PrintWords Go.Proofs.YtfjmnaobfbmllaaW.PrintLast Go.Proofs.YtfjmnaobfbmllaaW.PrintMore
set_option linter.unusedVariables false
set_option linter.unusedSimpArgs false

theorem z33_eq : z33 = ⟨false, ⟨#[]⟩⟩ := rfl
theorem rd_slot (l : List S33) (i : Int) : rd_T33 l i = slotL l i.toNat := rfl
theorem at_pure (a : Int) (l : List S33) (i : Int) : slab_At.f a l i = some ((atP a l i).f0, (atP a l i).f1) := by
  unfold slab_At.f slabGood.f atP
  rw [Option.bind_some]
  cases goodP a l with
  | false => rw [if_neg (by simp), if_neg (by simp)]; rfl
  | true =>
    rw [if_pos rfl]
    by_cases h0 : i < 0
    · rw [if_pos h0, if_neg (by omega)]; rfl
    · have hc : true = true ∧ 0 ≤ i := ⟨rfl, by omega⟩
      rw [if_neg h0, if_pos hc]
      by_cases h1 : i ≥ (l.length : Int)
      · rw [if_pos h1, slot_ge l _ (by omega)]; rfl
      · rw [if_neg h1, if_pos (by omega), if_pos (by omega)]; rfl
/-- How many bytes a good image needs. -/
def sizeP (a : Int) (l : List S33) : Int := if goodP a l = true then (rawSize l : Int) else 0
theorem size0_good {a : Int} {l : List S33} (h : goodP a l = true) : slabSize0.f l = some (rawSize l : Int) := by
  have := (good_facts a l h).2.2.2.2.2
  unfold rawSize at this
  unfold slabSize0.f
  rw [if_pos (by omega)]
theorem size_at (a : Int) (l : List S33) : slab_Size.f a l = some (sizeP a l) := by
  unfold slab_Size.f slabGood.f sizeP
  rw [Option.bind_some]
  by_cases h : goodP a l = true
  · rw [if_pos h, if_pos h, size0_good h]; rfl
  · rw [if_neg h, if_neg h]
/-! ### great -/
def greatP (l : List S33) : Bool := decide (100 < l.length) || l.any fun x => decide (4096 < x.f1.size)
theorem great_loop (a : Int) (l : List S33) (hl : l.length ≤ 100) (d : Nat) : ∀ (k i : Nat), i + d = l.length → d < k →
    seneschallaw03_great.l0 k i a l = some ((l.drop i).any fun x => decide (4096 < x.f1.size)) := by
  induction d with
  | zero =>
    intro k i hi hk
    obtain ⟨k, rfl⟩ : ∃ m, k = m + 1 := ⟨k - 1, by omega⟩
    simp only [seneschallaw03_great.l0]
    rw [if_neg (by omega), List.drop_of_length_le (by omega)]; rfl
  | succ d ih =>
    intro k i hi hk
    obtain ⟨k, rfl⟩ : ∃ m, k = m + 1 := ⟨k - 1, by omega⟩
    have hlt : i < l.length := by omega
    simp only [seneschallaw03_great.l0]
    rw [if_pos (by omega), if_pos (by omega), rd33 l i hlt, List.drop_eq_getElem_cons hlt, List.any_cons, w64 ((i : Int) + 1) (by omega) (by omega)]
    have := ih k (i + 1) (by omega) (by omega)
    rw [show ((i + 1 : Nat) : Int) = (i : Int) + 1 by omega] at this
    by_cases h : ((l[i].f1).size : Int) > 4096
    · rw [if_pos h, decide_eq_true (by omega)]; rfl
    · rw [if_neg h, decide_eq_false (by omega), this]; rfl
theorem great_pure (a : Int) (l : List S33) (k : Nat) (hk : 101 < k) : seneschallaw03_great.f k a l = some (greatP l) := by
  unfold seneschallaw03_great.f greatP
  by_cases h : (l.length : Int) > 100
  · rw [if_pos h, decide_eq_true (by omega)]; rfl
  · rw [if_neg h, decide_eq_false (by omega)]
    have := great_loop a l (by omega) l.length k 0 (by omega) (by omega)
    simpa using this
/-! ### vacant -/
/-- The first slot that isn't used. -/
def vk (l : List S33) : Nat := l.findIdx vacS
theorem vk_le (l : List S33) : vk l ≤ l.length := List.findIdx_le_length
theorem vk_before (l : List S33) (i : Nat) (h : i < vk l) : (slotL l i).f0 = true := by
  have hi : i < l.length := Nat.lt_of_lt_of_le h (vk_le l)
  rw [slot_lt l i hi]
  have := List.not_of_lt_findIdx h
  unfold vacS at this
  simpa using this
theorem vk_at (l : List S33) : (slotL l (vk l)).f0 = false := by
  by_cases h : vk l < l.length
  · rw [slot_lt l _ h]
    have := List.findIdx_getElem (p := vacS) (w := h)
    have h2 : vacS l[vk l] = true := this
    unfold vacS at h2
    simpa using h2
  · rw [slot_ge l _ (by omega)]; rfl
theorem idx_vk (l : List S33) : idxOf vacS l = if vk l < l.length then (vk l : Int) else -1 := by
  by_cases h : vk l < l.length
  · rw [if_pos h]
    refine idxOf_hit vacS l (vk l) h (List.findIdx_getElem (w := h)) fun j hj => ?_
    have := vk_before l j hj
    rw [slot_lt l j (by omega)] at this
    unfold vacS; simp [this]
  · rw [if_neg h]
    refine idxOf_miss vacS l fun j hj => ?_
    have := vk_before l j (by omega)
    rw [slot_lt l j (by omega)] at this
    unfold vacS; simp [this]
def vacP (a : Int) (l : List S33) (n : Int) : Int × Int :=
  if goodP a l = false ∨ n < 0 then (0, 1) else if 200 < n then (0, 5)
  else if 32 ≤ vk l ∨ 240 < rawSize l + n.toNat + (if vk l = l.length then 1 else 0) then (0, 22) else (vk l, 0)
theorem vacP_good {a : Int} {l : List S33} {n : Int} (hg : goodP a l = true) (h0 : ¬ n < 0) : vacP a l n = if 200 < n then (0, 5) else if 32 ≤ vk l ∨ 240 < rawSize l + n.toNat + (if vk l = l.length then 1 else 0) then (0, 22) else ((vk l : Int), 0) := by
  unfold vacP
  rw [if_neg]
  rw [hg]; rintro (h | h)
  · cases h
  · exact h0 h
theorem vacP_bad {a : Int} {l : List S33} {n : Int} (h : goodP a l = false ∨ n < 0) : vacP a l n = (0, 1) := by
  unfold vacP
  rw [if_pos h]
theorem vac_j1 (a : Int) (l : List S33) (hg : goodP a l = true) (n : Int) (h0 : 0 ≤ n) (h1 : n ≤ 200) (k v : Nat) (hv : v ≤ l.length) :
    slab_Vacant.j1 (k + 1) n v a l = some (if 32 ≤ v ∨ 240 < rawSize l + n.toNat + (if v = l.length then 1 else 0) then (0, 22) else ((v : Int), 0)) := by
  have hsz := (good_facts a l hg).2.2.2.2.2
  have hlen := (good_facts a l hg).2.2.1
  simp only [slab_Vacant.j1]
  rw [size0_good hg, Option.bind_some, Option.bind_some, w64 (n + 1) (by omega) (by omega), w64 _ (by omega) (by omega), w64 _ (by omega) (by omega)]
  by_cases e : (v : Int) = l.length
  · have e2 : v = l.length := by omega
    rw [if_pos e, if_pos e2]
    by_cases h32 : (v : Int) ≥ 32
    · have hc : 32 ≤ v ∨ 240 < rawSize l + n.toNat + 1 := .inl (by omega)
      rw [if_pos h32, if_pos hc]
    · rw [if_neg h32]
      by_cases hb : (rawSize l : Int) + (n + 1) > 240
      · have hc : 32 ≤ v ∨ 240 < rawSize l + n.toNat + 1 := .inr (by omega)
        rw [if_pos hb, if_pos hc]
      · have hc : ¬ (32 ≤ v ∨ 240 < rawSize l + n.toNat + 1) := by omega
        rw [if_neg hb, if_neg hc]
  · have e2 : ¬ v = l.length := by omega
    rw [if_neg e, if_neg e2]
    by_cases h32 : (v : Int) ≥ 32
    · have hc : 32 ≤ v ∨ 240 < rawSize l + n.toNat + 0 := .inl (by omega)
      rw [if_pos h32, if_pos hc]
    · rw [if_neg h32]
      by_cases hb : (rawSize l : Int) + n > 240
      · have hc : 32 ≤ v ∨ 240 < rawSize l + n.toNat + 0 := .inr (by omega)
        rw [if_pos hb, if_pos hc]
      · have hc : ¬ (32 ≤ v ∨ 240 < rawSize l + n.toNat + 0) := by omega
        rw [if_neg hb, if_neg hc]
theorem vac_pure (a : Int) (l : List S33) (n : Int) (k : Nat) (hk : 4 < k) : slab_Vacant.f k a l n = some (vacP a l n) := by
  obtain ⟨k, rfl⟩ : ∃ m, k = m + 2 := ⟨k - 2, by omega⟩
  unfold slab_Vacant.f slabGood.f
  rw [Option.bind_some]
  cases hg : goodP a l with
  | false => rw [if_neg (by simp), vacP_bad (.inl hg)]; simp [slab_Vacant.j0]
  | true =>
    rw [if_pos rfl]
    simp only [slab_Vacant.j0]
    by_cases h0 : n < 0
    · rw [decide_eq_true h0, if_pos rfl, vacP_bad (.inr h0)]
    · rw [decide_eq_false h0, if_neg Bool.false_ne_true, vacP_good hg h0]
      by_cases h1 : n > 200
      · rw [if_pos h1, if_pos h1]
      · have h1' : ¬ 200 < n := h1
        rw [if_neg h1, if_neg h1']
        unfold slices_IndexVacant.f
        rw [Option.bind_some, idx_vk]
        have hv := vk_le l
        have hj := vac_j1 a l hg n (by omega) (by omega) k (vk l) hv
        by_cases hlt : vk l < l.length
        · have hc : ¬ ((vk l : Nat) : Int) < 0 := by omega
          rw [if_pos hlt, if_neg hc, hj]
        · have hc : (-1 : Int) < 0 := by omega
          rw [if_neg hlt, if_pos hc, show (l.length : Int) = ((vk l : Nat) : Int) by omega, hj]
theorem put_sum_vacant (a : Int) (l : List S33) (x : S33) (hg : goodP a l = true) (hx : x.f0 = true) : rawSize (putL l (vk l) x) = rawSize l + x.f1.size + (if vk l = l.length then 1 else 0) := by
  obtain ⟨_, _, _, hf, hl, _⟩ := (good_iff a l).mp hg
  have h := put_sum l (vk l) x hl hx
  have hz := (slot_fine l hf (vk l)).1 (vk_at l)
  rw [hz] at h
  have hv := vk_le l
  have e0 : z33.f1.size = 0 := rfl
  rw [e0] at h
  unfold rawSize
  by_cases e : vk l = l.length
  · rw [if_pos e]; omega
  · rw [if_neg e]; omega
theorem zeros_fine (n : Nat) (h : n ≤ 200) : fineS ⟨true, strOfNums (List.replicate n 0)⟩ := ⟨fun e => Bool.noConfusion e, Nat.le_trans (Nat.le_of_eq (strOfNums_size (List.replicate n 0))) (by simp; omega)⟩
/-! ### contracts in plain words -/
def slabAt.f (a : Int) (l : List S33) (i : Int) : Option (Bool × ByteArray) := some ((atP a l i).f0, (atP a l i).f1)
theorem slabAt.calls (a : Int) (A : Option Addr) (c : Nat) (l : List S33) (i : Int) (r1 : Bool) (r2 : ByteArray) (w : World) (hr : Kd.C k33 w A l.length l) (hc : l.length ≤ c) (h : slabAt.f a l i = some (r1, r2)) :
    Calls Try.prog 39 #[.agg #[.int .i64 a, .slice A l.length c], .int .i64 i] w fun e w' => e = .returned (.agg #[.bool r1, .string r2]) ∧ Below w.heap.size w w' :=
  slab_At.calls a A c l i r1 r2 w hr hc (by rw [at_pure]; exact h)
def slabSz.f (a : Int) (l : List S33) : Option Int := some (sizeP a l)
theorem slabSz.calls (a : Int) (A : Option Addr) (c : Nat) (l : List S33) (r : Int) (w : World) (hr : Kd.C k33 w A l.length l) (hc : l.length ≤ c) (h : slabSz.f a l = some r) :
    Calls Try.prog 36 #[.agg #[.int .i64 a, .slice A l.length c]] w fun e w' => e = .returned (.int .i64 r) ∧ Below w.heap.size w w' :=
  slab_Size.calls a A c l r w hr hc (by rw [size_at]; exact h)
def great3.f (a : Int) (l : List S33) : Option Bool := some (greatP l)
theorem great3.calls (a : Int) (A : Option Addr) (c : Nat) (l : List S33) (r : Bool) (w : World) (hr : Kd.C k33 w A l.length l) (hc : l.length ≤ c) (h : great3.f a l = some r) :
    Calls Try.prog 31 #[.agg #[.int .i64 a, .slice A l.length c]] w fun e w' => e = .returned (.bool r) ∧ Below w.heap.size w w' :=
  seneschallaw03_great.calls 102 a A c l r w hr hc (by rw [great_pure a l 102 (by omega)]; exact h)
def slabVac.f (a : Int) (l : List S33) (n : Int) : Option (Int × Int) := some (vacP a l n)
theorem slabVac.calls (a : Int) (A : Option Addr) (c : Nat) (l : List S33) (n : Int) (r1 r2 : Int) (w : World) (hr : Kd.C k33 w A l.length l) (hc : l.length ≤ c) (h : slabVac.f a l n = some (r1, r2)) :
    Calls Try.prog 43 #[.agg #[.int .i64 a, .slice A l.length c], .int .i64 n] w fun e w' => e = .returned (.tuple #[.int .i64 r1, .int .i64 r2]) ∧ Below w.heap.size w w' :=
  slab_Vacant.calls 41 a A c l n r1 r2 w hr hc (by rw [vac_pure a l n 41 (by omega)]; exact h)
end Go.Proofs.Ytfjmnaobfbmllaa.M

namespace Go.Proofs.Ytfjmnaobfbmllaa.M
open Go.RowKit Go.Proofs.YtfjmnaobfbmllaaW.PrintWords Go.Proofs.YtfjmnaobfbmllaaW.PrintLast Go.Proofs.YtfjmnaobfbmllaaW.PrintMore
attribute [local go_sem] max2_int min2_int max_two min_two max_three min_three max_four min_four   -- for this text's walks alone
set_option linter.unusedVariables false
set_option linter.unusedSimpArgs false

attribute [local go_sem high] eqA33
/-! ### seneschalref03_Same: function 42 -/
mutual
def seneschalref03_Same.j0 : Nat → Bool → Int → List (S33) → Int → List (S33) → Option (Bool)
  | 0, _, _, _, _, _ => none
  | k + 1, x19, x102000, x102001, x103000, x103001 => if x19 = true then (some false) else (seneschalref03_Same.l0 k 0 x102000 x102001 x103000 x103001)
def seneschalref03_Same.l0 : Nat → Int → Int → List (S33) → Int → List (S33) → Option (Bool)
  | 0, _, _, _, _, _ => none
  | k + 1, x5, x102000, x102001, x103000, x103001 => if x5 < (x102001.length : Int) then (if 0 ≤ x5 then (if x5 < (x103001.length : Int) then (if (!(((rd_T33 x102001 x5).f0) == ((rd_T33 x103001 x5).f0)) || (!((((rd_T33 x102001 x5).f1).toList) == (((rd_T33 x103001 x5).f1).toList)))) = true then (some false) else (seneschalref03_Same.l0 k (wrap64 (x5 + 1)) x102000 x102001 x103000 x103001)) else (none)) else (none)) else (some true)
end
def seneschalref03_Same.f (k : Nat) (a0_0 : Int) (l0_1 : List (S33)) (a1_0 : Int) (l1_1 : List (S33)) : Option (Bool) := if a0_0 = a1_0 then (seneschalref03_Same.j0 k ((l0_1.length : Int) != (l1_1.length : Int)) a0_0 l0_1 a1_0 l1_1) else (seneschalref03_Same.j0 k true a0_0 l0_1 a1_0 l1_1)
set_option maxHeartbeats 8000000 in
set_option maxRecDepth 100000 in
theorem seneschalref03_Same.calls (k : Nat) (a0_0 : Int) (A0_1 : Option Addr) (c0_1 : Nat) (l0_1 : List (S33)) (a1_0 : Int) (A1_1 : Option Addr) (c1_1 : Nat) (l1_1 : List (S33)) (r : Bool) (w : World) (hr0_1 : Kd.C k33 w A0_1 l0_1.length l0_1) (hc0_1 : l0_1.length ≤ c0_1) (hr1_1 : Kd.C k33 w A1_1 l1_1.length l1_1) (hc1_1 : l1_1.length ≤ c1_1) (h : seneschalref03_Same.f k a0_0 l0_1 a1_0 l1_1 = some r) :
    Calls Try.prog 42 #[.agg #[.int .i64 a0_0, .slice A0_1 l0_1.length c0_1], .agg #[.int .i64 a1_0, .slice A1_1 l1_1.length c1_1]] w fun e w' => e = .returned (.bool r) ∧ Below w.heap.size w w' := by
  have hu24 := Try.underlying24
  have hu33 := Try.underlying33
  have HR0_1 := Aside0.mk hr0_1
  have HC0_1 := Aside0.mk hc0_1
  clear hr0_1 hc0_1
  have HR1_1 := Aside0.mk hr1_1
  have HC1_1 := Aside0.mk hc1_1
  clear hr1_1 hc1_1
  have HB := Aside0.mk (Below.refl w.heap.size w)
  have H : (if a0_0 = a1_0 then (seneschalref03_Same.j0 k ((l0_1.length : Int) != (l1_1.length : Int)) a0_0 l0_1 a1_0 l1_1) else (seneschalref03_Same.j0 k true a0_0 l0_1 a1_0 l1_1)) = some r := h
  clear h
  have HC3 := Aside0.mk H
  clear H
  go_enter Try.func42, Try.ntmps42
  go_upto_region 1 with (first | ((with_reducible refine gate_dst (N := 2) rfl ?_); (try (refine gate_guard (by rfl) ?_; dsimp only)); refine box_event ?hg (N := 2) ?hd (cs := #[.int .i64 a0_0, .slice A0_1 l0_1.length c0_1]) (t := 24) ?hr ?_; (case hd => rfl); (case hg => rfl); (case hr => first | (go_simp; done) | (go_simp; rfl)); intro gb101 hg w4 hbox hb; have n0_ := Aside0.mk (below_step (by repeat (first | (with_reducible first | exact HB.out | apply below_alloc | apply pw_below_drewN | apply below_drew1) | exact HB.out)) hb); have n1_ := Aside0.mk (hbox); have n2_ := Aside0.mk ((by rw [hg]; exact (below_size (by repeat (first | (with_reducible first | exact HB.out | apply below_alloc | apply pw_below_drewN | apply below_drew1) | exact HB.out))) : w.heap.size ≤ gb101)); have n3_ := Aside0.mk ((by rw [hg]; exact (below_size (by repeat (first | (with_reducible first | exact HB.out | apply below_alloc | apply pw_below_drewN | apply below_drew1) | exact HB.out))) : w.heap.size ≤ gb101)); clear HB; have HB := n0_; have BK101 := n1_; have GW101 := n2_; have GE101 := n3_; clear n0_ n1_ n2_ n3_; clear hb hbox hg) | ((with_reducible refine gate_dst (N := 3) rfl ?_); (try (refine gate_guard (by rfl) ?_; dsimp only)); refine box_event ?hg (N := 3) ?hd (cs := #[.int .i64 a1_0, .slice A1_1 l1_1.length c1_1]) (t := 24) ?hr ?_; (case hd => rfl); (case hg => rfl); (case hr => first | (go_simp; done) | (go_simp; rfl)); intro gb102 hg w5 hbox hb; have n0_ := Aside0.mk (blk_below (g := gb101) (o := .cells #[.int .i64 a0_0, .slice A0_1 l0_1.length c0_1] 24 (0, 0)) (by (with_reducible repeat (first | refine blk_drewN ?_ _ | refine blk_drew ?_ | refine blk_alloc ?_ _)); exact BK101.out) hb); have n1_ := Aside0.mk (below_step (by repeat (first | (with_reducible first | exact HB.out | apply below_alloc | apply pw_below_drewN | apply below_drew1 | refine below_set ?_ GE101.out) | exact HB.out)) hb); have n2_ := Aside0.mk (hbox); have n3_ := Aside0.mk ((by rw [hg]; exact (below_size (by repeat (first | (with_reducible first | exact HB.out | apply below_alloc | apply pw_below_drewN | apply below_drew1 | refine below_set ?_ GE101.out) | exact HB.out))) : w.heap.size ≤ gb102)); have n4_ := Aside0.mk ((by rw [hg]; exact (below_size (by repeat (first | (with_reducible first | exact HB.out | apply below_alloc | apply pw_below_drewN | apply below_drew1 | refine below_set ?_ GE101.out) | exact HB.out))) : w.heap.size ≤ gb102)); have n5_ := Aside0.mk ((by rw [hg]; exact Nat.ne_of_lt (blk_lt (g := gb101) (o := .cells #[.int .i64 a0_0, .slice A0_1 l0_1.length c0_1] 24 (0, 0)) (by (with_reducible repeat (first | refine blk_drewN ?_ _ | refine blk_drew ?_ | refine blk_alloc ?_ _)); exact BK101.out)) : gb101 ≠ gb102)); have n6_ := Aside0.mk ((by rw [hg]; exact Nat.ne_of_gt (blk_lt (g := gb101) (o := .cells #[.int .i64 a0_0, .slice A0_1 l0_1.length c0_1] 24 (0, 0)) (by (with_reducible repeat (first | refine blk_drewN ?_ _ | refine blk_drew ?_ | refine blk_alloc ?_ _)); exact BK101.out)) : gb102 ≠ gb101)); clear BK101; clear HB; have BK101 := n0_; have HB := n1_; have BK102 := n2_; have GW102 := n3_; have GE102 := n4_; have NB101_102 := n5_; have NB102_101 := n6_; clear n0_ n1_ n2_ n3_ n4_ n5_ n6_; clear hb hbox hg))
  repeat (go_quiet (first | ((with_reducible refine gate_dst (N := 2) rfl ?_); (try (refine gate_guard (by rfl) ?_; dsimp only)); refine box_event ?hg (N := 2) ?hd (cs := #[.int .i64 a0_0, .slice A0_1 l0_1.length c0_1]) (t := 24) ?hr ?_; (case hd => rfl); (case hg => rfl); (case hr => first | (go_simp; done) | (go_simp; rfl)); intro gb101 hg w4 hbox hb; have n0_ := Aside0.mk (below_step (by repeat (first | (with_reducible first | exact HB.out | apply below_alloc | apply pw_below_drewN | apply below_drew1) | exact HB.out)) hb); have n1_ := Aside0.mk (hbox); have n2_ := Aside0.mk ((by rw [hg]; exact (below_size (by repeat (first | (with_reducible first | exact HB.out | apply below_alloc | apply pw_below_drewN | apply below_drew1) | exact HB.out))) : w.heap.size ≤ gb101)); have n3_ := Aside0.mk ((by rw [hg]; exact (below_size (by repeat (first | (with_reducible first | exact HB.out | apply below_alloc | apply pw_below_drewN | apply below_drew1) | exact HB.out))) : w.heap.size ≤ gb101)); clear HB; have HB := n0_; have BK101 := n1_; have GW101 := n2_; have GE101 := n3_; clear n0_ n1_ n2_ n3_; clear hb hbox hg) | ((with_reducible refine gate_dst (N := 3) rfl ?_); (try (refine gate_guard (by rfl) ?_; dsimp only)); refine box_event ?hg (N := 3) ?hd (cs := #[.int .i64 a1_0, .slice A1_1 l1_1.length c1_1]) (t := 24) ?hr ?_; (case hd => rfl); (case hg => rfl); (case hr => first | (go_simp; done) | (go_simp; rfl)); intro gb102 hg w5 hbox hb; have n0_ := Aside0.mk (blk_below (g := gb101) (o := .cells #[.int .i64 a0_0, .slice A0_1 l0_1.length c0_1] 24 (0, 0)) (by (with_reducible repeat (first | refine blk_drewN ?_ _ | refine blk_drew ?_ | refine blk_alloc ?_ _)); exact BK101.out) hb); have n1_ := Aside0.mk (below_step (by repeat (first | (with_reducible first | exact HB.out | apply below_alloc | apply pw_below_drewN | apply below_drew1 | refine below_set ?_ GE101.out) | exact HB.out)) hb); have n2_ := Aside0.mk (hbox); have n3_ := Aside0.mk ((by rw [hg]; exact (below_size (by repeat (first | (with_reducible first | exact HB.out | apply below_alloc | apply pw_below_drewN | apply below_drew1 | refine below_set ?_ GE101.out) | exact HB.out))) : w.heap.size ≤ gb102)); have n4_ := Aside0.mk ((by rw [hg]; exact (below_size (by repeat (first | (with_reducible first | exact HB.out | apply below_alloc | apply pw_below_drewN | apply below_drew1 | refine below_set ?_ GE101.out) | exact HB.out))) : w.heap.size ≤ gb102)); have n5_ := Aside0.mk ((by rw [hg]; exact Nat.ne_of_lt (blk_lt (g := gb101) (o := .cells #[.int .i64 a0_0, .slice A0_1 l0_1.length c0_1] 24 (0, 0)) (by (with_reducible repeat (first | refine blk_drewN ?_ _ | refine blk_drew ?_ | refine blk_alloc ?_ _)); exact BK101.out)) : gb101 ≠ gb102)); have n6_ := Aside0.mk ((by rw [hg]; exact Nat.ne_of_gt (blk_lt (g := gb101) (o := .cells #[.int .i64 a0_0, .slice A0_1 l0_1.length c0_1] 24 (0, 0)) (by (with_reducible repeat (first | refine blk_drewN ?_ _ | refine blk_drew ?_ | refine blk_alloc ?_ _)); exact BK101.out)) : gb102 ≠ gb101)); clear BK101; clear HB; have BK101 := n0_; have HB := n1_; have BK102 := n2_; have GW102 := n3_; have GE102 := n4_; have NB101_102 := n5_; have NB102_101 := n6_; clear n0_ n1_ n2_ n3_ n4_ n5_ n6_; clear hb hbox hg)); go_upto_region 1 with (first | ((with_reducible refine gate_dst (N := 2) rfl ?_); (try (refine gate_guard (by rfl) ?_; dsimp only)); refine box_event ?hg (N := 2) ?hd (cs := #[.int .i64 a0_0, .slice A0_1 l0_1.length c0_1]) (t := 24) ?hr ?_; (case hd => rfl); (case hg => rfl); (case hr => first | (go_simp; done) | (go_simp; rfl)); intro gb101 hg w4 hbox hb; have n0_ := Aside0.mk (below_step (by repeat (first | (with_reducible first | exact HB.out | apply below_alloc | apply pw_below_drewN | apply below_drew1) | exact HB.out)) hb); have n1_ := Aside0.mk (hbox); have n2_ := Aside0.mk ((by rw [hg]; exact (below_size (by repeat (first | (with_reducible first | exact HB.out | apply below_alloc | apply pw_below_drewN | apply below_drew1) | exact HB.out))) : w.heap.size ≤ gb101)); have n3_ := Aside0.mk ((by rw [hg]; exact (below_size (by repeat (first | (with_reducible first | exact HB.out | apply below_alloc | apply pw_below_drewN | apply below_drew1) | exact HB.out))) : w.heap.size ≤ gb101)); clear HB; have HB := n0_; have BK101 := n1_; have GW101 := n2_; have GE101 := n3_; clear n0_ n1_ n2_ n3_; clear hb hbox hg) | ((with_reducible refine gate_dst (N := 3) rfl ?_); (try (refine gate_guard (by rfl) ?_; dsimp only)); refine box_event ?hg (N := 3) ?hd (cs := #[.int .i64 a1_0, .slice A1_1 l1_1.length c1_1]) (t := 24) ?hr ?_; (case hd => rfl); (case hg => rfl); (case hr => first | (go_simp; done) | (go_simp; rfl)); intro gb102 hg w5 hbox hb; have n0_ := Aside0.mk (blk_below (g := gb101) (o := .cells #[.int .i64 a0_0, .slice A0_1 l0_1.length c0_1] 24 (0, 0)) (by (with_reducible repeat (first | refine blk_drewN ?_ _ | refine blk_drew ?_ | refine blk_alloc ?_ _)); exact BK101.out) hb); have n1_ := Aside0.mk (below_step (by repeat (first | (with_reducible first | exact HB.out | apply below_alloc | apply pw_below_drewN | apply below_drew1 | refine below_set ?_ GE101.out) | exact HB.out)) hb); have n2_ := Aside0.mk (hbox); have n3_ := Aside0.mk ((by rw [hg]; exact (below_size (by repeat (first | (with_reducible first | exact HB.out | apply below_alloc | apply pw_below_drewN | apply below_drew1 | refine below_set ?_ GE101.out) | exact HB.out))) : w.heap.size ≤ gb102)); have n4_ := Aside0.mk ((by rw [hg]; exact (below_size (by repeat (first | (with_reducible first | exact HB.out | apply below_alloc | apply pw_below_drewN | apply below_drew1 | refine below_set ?_ GE101.out) | exact HB.out))) : w.heap.size ≤ gb102)); have n5_ := Aside0.mk ((by rw [hg]; exact Nat.ne_of_lt (blk_lt (g := gb101) (o := .cells #[.int .i64 a0_0, .slice A0_1 l0_1.length c0_1] 24 (0, 0)) (by (with_reducible repeat (first | refine blk_drewN ?_ _ | refine blk_drew ?_ | refine blk_alloc ?_ _)); exact BK101.out)) : gb101 ≠ gb102)); have n6_ := Aside0.mk ((by rw [hg]; exact Nat.ne_of_gt (blk_lt (g := gb101) (o := .cells #[.int .i64 a0_0, .slice A0_1 l0_1.length c0_1] 24 (0, 0)) (by (with_reducible repeat (first | refine blk_drewN ?_ _ | refine blk_drew ?_ | refine blk_alloc ?_ _)); exact BK101.out)) : gb102 ≠ gb101)); clear BK101; clear HB; have BK101 := n0_; have HB := n1_; have BK102 := n2_; have GW102 := n3_; have GE102 := n4_; have NB101_102 := n5_; have NB102_101 := n6_; clear n0_ n1_ n2_ n3_ n4_ n5_ n6_; clear hb hbox hg)))
  (try simp only [Act.put, List.setIfInBounds_toArray, List.set_cons_zero, List.set_cons_succ])
  go_cut [19] (fun v19 wc => ∃ (kq : Nat) (x19_2 : Bool), v19 = .bool x19_2 ∧ Aside0 (seneschalref03_Same.j0 kq x19_2 a0_0 l0_1 a1_0 l1_1 = some r) ∧ Aside0 (kq ≤ k) ∧ Aside0 (wc.heap[gb101]? = some (.cells #[.int .i64 a0_0, (.slice A0_1 l0_1.length c0_1)] 24 (0, 0))) ∧ Aside0 (wc.heap[gb102]? = some (.cells #[.int .i64 a1_0, (.slice A1_1 l1_1.length c1_1)] 24 (0, 0))) ∧ Aside0 (Below w.heap.size w wc))
  case first =>
    have H := HC3.out
    clear HC3
    by_cases c6 : a0_0 = a1_0
    · rw [if_pos c6] at H
      have c6b0 : (a0_0 == a1_0) = true := beq_iff_eq.mpr c6
      have c6b1 : (a0_0 != a1_0) = false := bne_eq_false_iff_eq.mpr c6
      clear c6
      (first | rw [c6b0] | (simp only [i64_w, i32_w]; rw [c6b0]) | skip)
      have H' := Aside0.mk H
      clear H
      have hnb7 := NB101_102.out
      have hnc7 := NB102_101.out
      have hcz8_0 : w5.cell? ⟨gb101, 0, none⟩ = some (.int .i64 a0_0) := (blk_cell BK101.out 0).trans rfl
      have hcz8_1 : w5.cell? ⟨gb101, 1, none⟩ = some (.slice A0_1 l0_1.length c0_1) := (blk_cell BK101.out 1).trans rfl
      have hfz8_0 := blk_frozen BK101.out 0
      have hfz8_1 := blk_frozen BK101.out 1
      have hcz9_0 : w5.cell? ⟨gb102, 0, none⟩ = some (.int .i64 a1_0) := (blk_cell BK102.out 0).trans rfl
      have hcz9_1 : w5.cell? ⟨gb102, 1, none⟩ = some (.slice A1_1 l1_1.length c1_1) := (blk_cell BK102.out 1).trans rfl
      have hfz9_0 := blk_frozen BK102.out 0
      have hfz9_1 := blk_frozen BK102.out 1
      go_wp2
      repeat (go_quiet (fail); try go_wp2)
      go_meet
      case rel => exact ⟨_, (((l0_1.length : Int) != (l1_1.length : Int))), (by first | rfl | (simp; done) | (simp [*]; done)), H', ⟨by first | omega | exact Nat.le_refl _⟩, ⟨by (with_reducible repeat (first | refine blk_drewN ?_ _ | refine blk_drew ?_ | refine blk_alloc ?_ _)); exact BK101.out⟩, ⟨by (with_reducible repeat (first | refine blk_drewN ?_ _ | refine blk_drew ?_ | refine blk_alloc ?_ _)); exact BK102.out⟩, ⟨by repeat (first | (with_reducible first | exact HB.out | apply below_alloc | apply pw_below_drewN | apply below_drew1 | refine below_set ?_ GE101.out | refine below_set ?_ GE102.out) | exact HB.out)⟩⟩
    · rw [if_neg c6] at H
      have c6b0 : (a0_0 == a1_0) = false := beq_eq_false_iff_ne.mpr c6
      have c6b1 : (a0_0 != a1_0) = true := bne_iff_ne.mpr c6
      (first | rw [c6b0] | (simp only [i64_w, i32_w]; rw [c6b0]) | skip)
      have H' := Aside0.mk H
      clear H
      have hnb10 := NB101_102.out
      have hnc10 := NB102_101.out
      have hcz11_0 : w5.cell? ⟨gb101, 0, none⟩ = some (.int .i64 a0_0) := (blk_cell BK101.out 0).trans rfl
      have hcz11_1 : w5.cell? ⟨gb101, 1, none⟩ = some (.slice A0_1 l0_1.length c0_1) := (blk_cell BK101.out 1).trans rfl
      have hfz11_0 := blk_frozen BK101.out 0
      have hfz11_1 := blk_frozen BK101.out 1
      have hcz12_0 : w5.cell? ⟨gb102, 0, none⟩ = some (.int .i64 a1_0) := (blk_cell BK102.out 0).trans rfl
      have hcz12_1 : w5.cell? ⟨gb102, 1, none⟩ = some (.slice A1_1 l1_1.length c1_1) := (blk_cell BK102.out 1).trans rfl
      have hfz12_0 := blk_frozen BK102.out 0
      have hfz12_1 := blk_frozen BK102.out 1
      go_wp2
      repeat (go_quiet (fail); try go_wp2)
      go_meet
      case rel => exact ⟨_, (true), (by first | rfl | (simp; done) | (simp [*]; done)), H', ⟨by first | omega | exact Nat.le_refl _⟩, ⟨by (with_reducible repeat (first | refine blk_drewN ?_ _ | refine blk_drew ?_ | refine blk_alloc ?_ _)); exact BK101.out⟩, ⟨by (with_reducible repeat (first | refine blk_drewN ?_ _ | refine blk_drew ?_ | refine blk_alloc ?_ _)); exact BK102.out⟩, ⟨by repeat (first | (with_reducible first | exact HB.out | apply below_alloc | apply pw_below_drewN | apply below_drew1 | refine below_set ?_ GE101.out | refine below_set ?_ GE102.out) | exact HB.out)⟩⟩
  case rest =>
    clear HC3
    try clear c1
    try clear p2
    try clear c4
    try clear c6
    try clear c6b0
    try clear c6b1
    try clear c7
    try clear c10
    try clear hcz11_0
    try clear hcz11_1
    try clear hcz12_0
    try clear hcz12_1
    try clear hcz8_0
    try clear hcz8_1
    try clear hcz9_0
    try clear hcz9_1
    try clear hfz11_0
    try clear hfz11_1
    try clear hfz12_0
    try clear hfz12_1
    try clear hfz8_0
    try clear hfz8_1
    try clear hfz9_0
    try clear hfz9_1
    obtain ⟨kq, x19_2, rfl, HA, HJ2, BK101, BK102, HB⟩ := hcut
    cases kq with
    | zero => exact absurd HA.out (by simp [seneschalref03_Same.j0])
    | succ kj2 =>
      have H := HA.out
      clear HA
      simp only [seneschalref03_Same.j0] at H
      by_cases c13 : x19_2 = true
      · subst c13
        have H1 : (some false) = some r := by rw [if_pos rfl] at H; exact H
        clear H
        have H := H1
        clear H1
        obtain rfl := Option.some.inj H
        go_wp2
        repeat (go_quiet (fail); try go_wp2)
        go_ret
        exact ⟨by first | rfl | (simp [errW_none, errW_some] <;> rfl) | (simp [*, errW_none, errW_some] <;> rfl), by repeat (first | (with_reducible first | exact HB.out | apply below_alloc | apply pw_below_drewN | apply below_drew1 | refine below_set ?_ GE101.out | refine below_set ?_ GE102.out) | exact HB.out)⟩
      · replace c13 := Bool.eq_false_iff.mpr c13
        subst c13
        have H1 : (seneschalref03_Same.l0 kj2 0 a0_0 l0_1 a1_0 l1_1) = some r := by rw [if_neg (show ¬ (false = true) by decide)] at H; exact H
        clear H
        have H := H1
        clear H1
        have H' := Aside0.mk H
        clear H
        go_wp2
        repeat (go_quiet (fail); try go_wp2)
        go_loopg [5] kj2 (fun kq v5 w' => ∃ (x5_2 : Int), v5 = .int .i64 x5_2 ∧ Aside0 (seneschalref03_Same.l0 kq x5_2 a0_0 l0_1 a1_0 l1_1 = some r) ∧ Aside0 (kq ≤ kj2) ∧ Aside0 (w'.heap[gb101]? = some (.cells #[.int .i64 a0_0, (.slice A0_1 l0_1.length c0_1)] 24 (0, 0))) ∧ Aside0 (w'.heap[gb102]? = some (.cells #[.int .i64 a1_0, (.slice A1_1 l1_1.length c1_1)] 24 (0, 0))) ∧ Aside0 (Below w.heap.size w w'))
        case atStart => exact ⟨(0), (by first | rfl | (simp; done) | (simp [*]; done)), H', ⟨Nat.le_refl _⟩, ⟨by (with_reducible repeat (first | refine blk_drewN ?_ _ | refine blk_drew ?_ | refine blk_alloc ?_ _)); exact BK101.out⟩, ⟨by (with_reducible repeat (first | refine blk_drewN ?_ _ | refine blk_drew ?_ | refine blk_alloc ?_ _)); exact BK102.out⟩, ⟨by repeat (first | (with_reducible first | exact HB.out | apply below_alloc | apply pw_below_drewN | apply below_drew1 | refine below_set ?_ GE101.out | refine below_set ?_ GE102.out) | exact HB.out)⟩⟩
        case round =>
          clear H'
          try clear c1
          try clear p2
          try clear c4
          try clear c6
          try clear c6b0
          try clear c6b1
          try clear c7
          try clear c10
          try clear c13
          try clear hcz11_0
          try clear hcz11_1
          try clear hcz12_0
          try clear hcz12_1
          try clear hcz8_0
          try clear hcz8_1
          try clear hcz9_0
          try clear hcz9_1
          try clear hfz11_0
          try clear hfz11_1
          try clear hfz12_0
          try clear hfz12_1
          try clear hfz8_0
          try clear hfz8_1
          try clear hfz9_0
          try clear hfz9_1
          try clear p2
          obtain ⟨x5_2, rfl, HA, HK2, BK101, BK102, HB⟩ := hrel
          cases gk with
          | zero => exact absurd HA.out (by simp [seneschalref03_Same.l0])
          | succ k2 =>
            have H := HA.out
            clear HA
            simp only [seneschalref03_Same.l0] at H
            by_cases c14 : x5_2 < (l0_1.length : Int)
            · rw [if_pos c14] at H
              have c14b0 : decide (x5_2 < (l0_1.length : Int)) = true := decide_eq_true c14
              clear c14
              by_cases c15 : 0 ≤ x5_2
              · rw [if_pos c15] at H
                have c15b0 : decide (0 ≤ x5_2) = true := decide_eq_true c15
                clear c15
                by_cases c16 : x5_2 < (l1_1.length : Int)
                · rw [if_pos c16] at H
                  have c16b0 : decide (x5_2 < (l1_1.length : Int)) = true := decide_eq_true c16
                  clear c16
                  by_cases c17 : (!(((rd_T33 l0_1 x5_2).f0) == ((rd_T33 l1_1 x5_2).f0)) || (!((((rd_T33 l0_1 x5_2).f1).toList) == (((rd_T33 l1_1 x5_2).f1).toList)))) = true
                  · rw [if_pos c17] at H
                    have c17b0 : (!(((rd_T33 l0_1 x5_2).f0) == ((rd_T33 l1_1 x5_2).f0)) || (!((((rd_T33 l0_1 x5_2).f1).toList) == (((rd_T33 l1_1 x5_2).f1).toList)))) = true := c17
                    clear c17
                    obtain rfl := Option.some.inj H
                    have hnb18 := NB101_102.out
                    have hnc18 := NB102_101.out
                    have hcz19_0 : wr.cell? ⟨gb101, 0, none⟩ = some (.int .i64 a0_0) := (blk_cell BK101.out 0).trans rfl
                    have hcz19_1 : wr.cell? ⟨gb101, 1, none⟩ = some (.slice A0_1 l0_1.length c0_1) := (blk_cell BK101.out 1).trans rfl
                    have hfz19_0 := blk_frozen BK101.out 0
                    have hfz19_1 := blk_frozen BK101.out 1
                    have p103 : 0 ≤ (x5_2 : Int) := of_decide_eq_true (by first | (with_reducible assumption) | assumption)
                    have q103 : x5_2 < (l0_1.length : Int) := of_decide_eq_true (by first | (with_reducible assumption) | assumption)
                    obtain ⟨ad103, e103, hx103_0, hx103_1⟩ := at_T33 HR0_1.out x5_2 p103 q103
                    cases e103
                    replace hx103_0 := (HB.out.cell (World.block_lt_of_cell? w _ hx103_0)).trans hx103_0
                    replace hx103_1 := (HB.out.cell (World.block_lt_of_cell? w _ hx103_1)).trans hx103_1
                    replace p103 := eq_true p103
                    replace q103 := eq_true q103
                    have hcz20_0 : wr.cell? ⟨gb102, 0, none⟩ = some (.int .i64 a1_0) := (blk_cell BK102.out 0).trans rfl
                    have hcz20_1 : wr.cell? ⟨gb102, 1, none⟩ = some (.slice A1_1 l1_1.length c1_1) := (blk_cell BK102.out 1).trans rfl
                    have hfz20_0 := blk_frozen BK102.out 0
                    have hfz20_1 := blk_frozen BK102.out 1
                    have p104 : 0 ≤ (x5_2 : Int) := of_decide_eq_true (by first | (with_reducible assumption) | assumption)
                    have q104 : x5_2 < (l1_1.length : Int) := of_decide_eq_true (by first | (with_reducible assumption) | assumption)
                    obtain ⟨ad104, e104, hx104_0, hx104_1⟩ := at_T33 HR1_1.out x5_2 p104 q104
                    cases e104
                    replace hx104_0 := (HB.out.cell (World.block_lt_of_cell? w _ hx104_0)).trans hx104_0
                    replace hx104_1 := (HB.out.cell (World.block_lt_of_cell? w _ hx104_1)).trans hx104_1
                    replace p104 := eq_true p104
                    replace q104 := eq_true q104
                    go_wp2
                    repeat (go_quiet (fail); try go_wp2)
                    go_ret
                    exact ⟨by first | rfl | (simp [errW_none, errW_some] <;> rfl) | (simp [*, errW_none, errW_some] <;> rfl), by repeat (first | (with_reducible first | exact HB.out | apply below_alloc | apply pw_below_drewN | apply below_drew1 | refine below_set ?_ GE101.out | refine below_set ?_ GE102.out) | exact HB.out)⟩
                  · rw [if_neg c17] at H
                    have c17b0 : (!(((rd_T33 l0_1 x5_2).f0) == ((rd_T33 l1_1 x5_2).f0)) || (!((((rd_T33 l0_1 x5_2).f1).toList) == (((rd_T33 l1_1 x5_2).f1).toList)))) = false := by simpa using c17
                    clear c17
                    have H' := Aside0.mk H
                    clear H
                    have hnb21 := NB101_102.out
                    have hnc21 := NB102_101.out
                    have hcz22_0 : wr.cell? ⟨gb101, 0, none⟩ = some (.int .i64 a0_0) := (blk_cell BK101.out 0).trans rfl
                    have hcz22_1 : wr.cell? ⟨gb101, 1, none⟩ = some (.slice A0_1 l0_1.length c0_1) := (blk_cell BK101.out 1).trans rfl
                    have hfz22_0 := blk_frozen BK101.out 0
                    have hfz22_1 := blk_frozen BK101.out 1
                    have p103 : 0 ≤ (x5_2 : Int) := of_decide_eq_true (by first | (with_reducible assumption) | assumption)
                    have q103 : x5_2 < (l0_1.length : Int) := of_decide_eq_true (by first | (with_reducible assumption) | assumption)
                    obtain ⟨ad103, e103, hx103_0, hx103_1⟩ := at_T33 HR0_1.out x5_2 p103 q103
                    cases e103
                    replace hx103_0 := (HB.out.cell (World.block_lt_of_cell? w _ hx103_0)).trans hx103_0
                    replace hx103_1 := (HB.out.cell (World.block_lt_of_cell? w _ hx103_1)).trans hx103_1
                    replace p103 := eq_true p103
                    replace q103 := eq_true q103
                    have hcz23_0 : wr.cell? ⟨gb102, 0, none⟩ = some (.int .i64 a1_0) := (blk_cell BK102.out 0).trans rfl
                    have hcz23_1 : wr.cell? ⟨gb102, 1, none⟩ = some (.slice A1_1 l1_1.length c1_1) := (blk_cell BK102.out 1).trans rfl
                    have hfz23_0 := blk_frozen BK102.out 0
                    have hfz23_1 := blk_frozen BK102.out 1
                    have p104 : 0 ≤ (x5_2 : Int) := of_decide_eq_true (by first | (with_reducible assumption) | assumption)
                    have q104 : x5_2 < (l1_1.length : Int) := of_decide_eq_true (by first | (with_reducible assumption) | assumption)
                    obtain ⟨ad104, e104, hx104_0, hx104_1⟩ := at_T33 HR1_1.out x5_2 p104 q104
                    cases e104
                    replace hx104_0 := (HB.out.cell (World.block_lt_of_cell? w _ hx104_0)).trans hx104_0
                    replace hx104_1 := (HB.out.cell (World.block_lt_of_cell? w _ hx104_1)).trans hx104_1
                    replace p104 := eq_true p104
                    replace q104 := eq_true q104
                    go_wp2
                    repeat (go_quiet (fail); try go_wp2)
                    go_roundg k2
                    case measure => have := HJ2.out; have := HK2.out; omega
                    case rel => exact ⟨(wrap64 (x5_2 + 1)), (by first | rfl | (simp; done) | (simp [*]; done)), H', ⟨by have := HJ2.out; have := HK2.out; omega⟩, ⟨by (with_reducible repeat (first | refine blk_drewN ?_ _ | refine blk_drew ?_ | refine blk_alloc ?_ _)); exact BK101.out⟩, ⟨by (with_reducible repeat (first | refine blk_drewN ?_ _ | refine blk_drew ?_ | refine blk_alloc ?_ _)); exact BK102.out⟩, ⟨by repeat (first | (with_reducible first | exact HB.out | apply below_alloc | apply pw_below_drewN | apply below_drew1 | refine below_set ?_ GE101.out | refine below_set ?_ GE102.out) | exact HB.out)⟩⟩
                · rw [if_neg c16] at H
                  exact absurd H (by simp)
              · rw [if_neg c15] at H
                exact absurd H (by simp)
            · rw [if_neg c14] at H
              have c14b0 : decide (x5_2 < (l0_1.length : Int)) = false := decide_eq_false c14
              clear c14
              obtain rfl := Option.some.inj H
              have hnb24 := NB101_102.out
              have hnc24 := NB102_101.out
              have hcz25_0 : wr.cell? ⟨gb101, 0, none⟩ = some (.int .i64 a0_0) := (blk_cell BK101.out 0).trans rfl
              have hcz25_1 : wr.cell? ⟨gb101, 1, none⟩ = some (.slice A0_1 l0_1.length c0_1) := (blk_cell BK101.out 1).trans rfl
              have hfz25_0 := blk_frozen BK101.out 0
              have hfz25_1 := blk_frozen BK101.out 1
              go_wp2
              repeat (go_quiet (fail); try go_wp2)
              go_ret
              exact ⟨by first | rfl | (simp [errW_none, errW_some] <;> rfl) | (simp [*, errW_none, errW_some] <;> rfl), by repeat (first | (with_reducible first | exact HB.out | apply below_alloc | apply pw_below_drewN | apply below_drew1 | refine below_set ?_ GE101.out | refine below_set ?_ GE102.out) | exact HB.out)⟩

end Go.Proofs.Ytfjmnaobfbmllaa.M

namespace Go.Proofs.Ytfjmnaobfbmllaa.M
open Go.RowKit Go.Proofs.YtfjmnaobfbmllaaW.PrintWords Go.Proofs.YtfjmnaobfbmllaaW.PrintLast Go.Proofs.YtfjmnaobfbmllaaW.PrintMore
set_option linter.unusedVariables false
set_option linter.unusedSimpArgs false

/-! ### same -/
def sameP (a : Int) (l : List S33) (b : Int) (m : List S33) : Bool := decide (a = b ∧ l = m)
theorem same_loop (a b : Int) (l m : List S33) (he : l.length = m.length) (hl : l.length ≤ 4611686018427387904) (d : Nat) : ∀ (k i : Nat), i + d = l.length → d < k →
    seneschalref03_Same.l0 k i a l b m = some (decide (l.drop i = m.drop i)) := by
  induction d with
  | zero =>
    intro k i hi hk
    obtain ⟨k, rfl⟩ : ∃ m, k = m + 1 := ⟨k - 1, by omega⟩
    simp only [seneschalref03_Same.l0]
    rw [if_neg (by omega), List.drop_of_length_le (by omega), List.drop_of_length_le (by omega)]; rfl
  | succ d ih =>
    intro k i hi hk
    obtain ⟨k, rfl⟩ : ∃ m, k = m + 1 := ⟨k - 1, by omega⟩
    have hlt : i < l.length := by omega
    simp only [seneschalref03_Same.l0]
    have := ih k (i + 1) (by omega) (by omega)
    rw [show ((i + 1 : Nat) : Int) = (i : Int) + 1 by omega] at this
    have hm : i < m.length := by omega
    have c1 : (i : Int) < (l.length : Int) := by omega
    have c2 : (0 : Int) ≤ (i : Int) := by omega
    have c3 : (i : Int) < (m.length : Int) := by omega
    rw [if_pos c1, if_pos c2, if_pos c3, rd33 l i hlt, rd33 m i hm, w64 ((i : Int) + 1) (by omega) (by omega), this,
      List.drop_eq_getElem_cons hlt, List.drop_eq_getElem_cons hm]
    have hs := s33_ne l[i] m[i]
    by_cases h : l[i] = m[i]
    · rw [if_neg (fun e => hs.mp e h)]
      exact congrArg some (decide_eq_decide.mpr ⟨fun e => by rw [h, e], fun e => (List.cons.inj e).2⟩)
    · rw [if_pos (hs.mpr h), decide_eq_false (fun e => h (List.cons.inj e).1)]
theorem same_pure (a b : Int) (l m : List S33) (k : Nat) (hl : l.length ≤ 4611686018427387904) (hk : l.length + 1 < k) : seneschalref03_Same.f k a l b m = some (sameP a l b m) := by
  obtain ⟨k, rfl⟩ : ∃ m, k = m + 1 := ⟨k - 1, by omega⟩
  unfold seneschalref03_Same.f sameP
  simp only [seneschalref03_Same.j0]
  by_cases h : a = b
  · rw [if_pos h]
    by_cases h2 : l.length = m.length
    · rw [if_neg (by simp; omega)]
      have := same_loop a b l m h2 hl l.length k 0 (by omega) (by omega)
      simpa [h] using this
    · rw [if_pos (by simp; omega)]
      have : l ≠ m := fun e => h2 (by rw [e])
      simp [this]
  · rw [if_neg h]; simp [h]
/-- Whether two images are the same (asked of short ones). -/
def refSame.f (a : Int) (l : List S33) (b : Int) (m : List S33) : Option Bool := if l.length ≤ 4611686018427387904 then some (sameP a l b m) else none
theorem refSame.calls (a : Int) (A : Option Addr) (c : Nat) (l : List S33) (b : Int) (B : Option Addr) (d : Nat) (m : List S33) (r : Bool) (w : World) (hr : Kd.C k33 w A l.length l) (hc : l.length ≤ c) (hr2 : Kd.C k33 w B m.length m) (hd : m.length ≤ d) (h : refSame.f a l b m = some r) :
    Calls Try.prog 42 #[.agg #[.int .i64 a, .slice A l.length c], .agg #[.int .i64 b, .slice B m.length d]] w fun e w' => e = .returned (.bool r) ∧ Below w.heap.size w w' := by
  unfold refSame.f at h
  split at h
  · rename_i hl
    exact seneschalref03_Same.calls (l.length + 2) a A c l b B d m r w hr hc hr2 hd (by rw [same_pure a b l m _ hl (by omega)]; exact h)
  · cases h
end Go.Proofs.Ytfjmnaobfbmllaa.M

namespace Go.Proofs.Ytfjmnaobfbmllaa.M
open Go.RowKit Go.Proofs.YtfjmnaobfbmllaaW.PrintWords Go.Proofs.YtfjmnaobfbmllaaW.PrintLast Go.Proofs.YtfjmnaobfbmllaaW.PrintMore
def va1 : List S33 := [z33, ⟨true, ⟨#[97, 98]⟩⟩]
theorem v30_1 : slabPut.f 0 [] 1 true ⟨#[97, 98]⟩ = some (0, va1, 0) := by decide +kernel
theorem v30_2 : slab_Encode.f 0 va1 = some (strOfNums (padL (encL 0 va1)), 0) := by decide +kernel
theorem v30_3 : slabPut.f 0 va1 1 false ⟨#[]⟩ = some (0, [], 0) := by decide +kernel
theorem v30_4 : slabVac.f 0 va1 5 = some (0, 0) := by decide +kernel
theorem v30_24 : slabSz.f 0 va1 = some 13 := by decide +kernel
end Go.Proofs.Ytfjmnaobfbmllaa.M

namespace Go.Proofs.Ytfjmnaobfbmllaa.M
open Go.RowKit Go.Proofs.YtfjmnaobfbmllaaW.PrintWords Go.Proofs.YtfjmnaobfbmllaaW.PrintLast Go.Proofs.YtfjmnaobfbmllaaW.PrintMore
attribute [local go_sem] max2_int min2_int max_two min_two max_three min_three max_four min_four   -- for this text's walks alone
set_option linter.unusedVariables false
set_option linter.unusedSimpArgs false

/-! ### seneschallaw03_awake: function 30 -/
def seneschallaw03_awake.f  : Option (Bool) := (slabPut.f 0 ([] : List (S33)) 1 true (⟨#[97, 98]⟩ : ByteArray)).bind fun bt101 => ((slab_Encode.f bt101.1 bt101.2.1).bind fun bt107 => ((slabPut.f bt101.1 bt101.2.1 1 false (⟨#[]⟩ : ByteArray)).bind fun bt109 => ((slabVac.f bt101.1 bt101.2.1 5).bind fun bt115 => (if bt101.2.2 = 0 then (if (bt101.2.1.length : Int) = 2 then (if 0 < (bt101.2.1.length : Int) then (if ((rd_T33 bt101.2.1 0).f0 = true) then (some false) else ((slabSz.f bt101.1 bt101.2.1).bind fun t118 => (if t118 = 13 then (if bt107.2 = 0 then (if (bt107.1.size : Int) = 240 then (if 8 ≤ 13 then (if 13 ≤ (bt107.1.size : Int) then (if (bt107.1.extract 8 13).toList = ([2, 255, 2, 97, 98] : List UInt8) then (if bt109.2.2 = 0 then (if (bt109.2.1.length : Int) = 0 then (if bt115.1 = 0 then (if bt115.2 = 0 then ((slabGood.f bt109.1 bt109.2.1).bind fun t119 => (some t119)) else (some false)) else (some false)) else (some false)) else (some false)) else (some false)) else (none)) else (none)) else (some false)) else (some false)) else (some false)))) else (none)) else (some false)) else (some false)))))
set_option maxHeartbeats 8000000 in
set_option maxRecDepth 100000 in
theorem seneschallaw03_awake.calls  (r : Bool) (w : World) (h : seneschallaw03_awake.f  = some r) :
    Calls Try.prog 30 #[] w fun e w' => e = .returned (.bool r) ∧ Below w.heap.size w w' := by
  have hu24 := Try.underlying24
  have hu33 := Try.underlying33
  have HB := Aside0.mk (Below.refl w.heap.size w)
  have H : ((slabPut.f 0 ([] : List (S33)) 1 true (⟨#[97, 98]⟩ : ByteArray)).bind fun bt101 => ((slab_Encode.f bt101.1 bt101.2.1).bind fun bt107 => ((slabPut.f bt101.1 bt101.2.1 1 false (⟨#[]⟩ : ByteArray)).bind fun bt109 => ((slabVac.f bt101.1 bt101.2.1 5).bind fun bt115 => (if bt101.2.2 = 0 then (if (bt101.2.1.length : Int) = 2 then (if 0 < (bt101.2.1.length : Int) then (if ((rd_T33 bt101.2.1 0).f0 = true) then (some false) else ((slabSz.f bt101.1 bt101.2.1).bind fun t118 => (if t118 = 13 then (if bt107.2 = 0 then (if (bt107.1.size : Int) = 240 then (if 8 ≤ 13 then (if 13 ≤ (bt107.1.size : Int) then (if (bt107.1.extract 8 13).toList = ([2, 255, 2, 97, 98] : List UInt8) then (if bt109.2.2 = 0 then (if (bt109.2.1.length : Int) = 0 then (if bt115.1 = 0 then (if bt115.2 = 0 then ((slabGood.f bt109.1 bt109.2.1).bind fun t119 => (some t119)) else (some false)) else (some false)) else (some false)) else (some false)) else (some false)) else (none)) else (none)) else (some false)) else (some false)) else (some false)))) else (none)) else (some false)) else (some false)))))) = some r := h
  clear h
  replace H := Option.bind_eq_some_iff.mp H
  obtain ⟨⟨t101, t102, t105⟩, A10, H⟩ := H
  replace H : ((slab_Encode.f t101 t102).bind fun bt107 => ((slabPut.f t101 t102 1 false (⟨#[]⟩ : ByteArray)).bind fun bt109 => ((slabVac.f t101 t102 5).bind fun bt115 => (if t105 = 0 then (if (t102.length : Int) = 2 then (if 0 < (t102.length : Int) then (if ((rd_T33 t102 0).f0 = true) then (some false) else ((slabSz.f t101 t102).bind fun t118 => (if t118 = 13 then (if bt107.2 = 0 then (if (bt107.1.size : Int) = 240 then (if 8 ≤ 13 then (if 13 ≤ (bt107.1.size : Int) then (if (bt107.1.extract 8 13).toList = ([2, 255, 2, 97, 98] : List UInt8) then (if bt109.2.2 = 0 then (if (bt109.2.1.length : Int) = 0 then (if bt115.1 = 0 then (if bt115.2 = 0 then ((slabGood.f bt109.1 bt109.2.1).bind fun t119 => (some t119)) else (some false)) else (some false)) else (some false)) else (some false)) else (some false)) else (none)) else (none)) else (some false)) else (some false)) else (some false)))) else (none)) else (some false)) else (some false))))) = some r := H
  have A1 := Aside0.mk A10
  clear A10
  replace H := Option.bind_eq_some_iff.mp H
  obtain ⟨⟨t107, t108⟩, A20, H⟩ := H
  replace H : ((slabPut.f t101 t102 1 false (⟨#[]⟩ : ByteArray)).bind fun bt109 => ((slabVac.f t101 t102 5).bind fun bt115 => (if t105 = 0 then (if (t102.length : Int) = 2 then (if 0 < (t102.length : Int) then (if ((rd_T33 t102 0).f0 = true) then (some false) else ((slabSz.f t101 t102).bind fun t118 => (if t118 = 13 then (if t108 = 0 then (if (t107.size : Int) = 240 then (if 8 ≤ 13 then (if 13 ≤ (t107.size : Int) then (if (t107.extract 8 13).toList = ([2, 255, 2, 97, 98] : List UInt8) then (if bt109.2.2 = 0 then (if (bt109.2.1.length : Int) = 0 then (if bt115.1 = 0 then (if bt115.2 = 0 then ((slabGood.f bt109.1 bt109.2.1).bind fun t119 => (some t119)) else (some false)) else (some false)) else (some false)) else (some false)) else (some false)) else (none)) else (none)) else (some false)) else (some false)) else (some false)))) else (none)) else (some false)) else (some false)))) = some r := H
  have A2 := Aside0.mk A20
  clear A20
  replace H := Option.bind_eq_some_iff.mp H
  obtain ⟨⟨t109, t110, t113⟩, A30, H⟩ := H
  replace H : ((slabVac.f t101 t102 5).bind fun bt115 => (if t105 = 0 then (if (t102.length : Int) = 2 then (if 0 < (t102.length : Int) then (if ((rd_T33 t102 0).f0 = true) then (some false) else ((slabSz.f t101 t102).bind fun t118 => (if t118 = 13 then (if t108 = 0 then (if (t107.size : Int) = 240 then (if 8 ≤ 13 then (if 13 ≤ (t107.size : Int) then (if (t107.extract 8 13).toList = ([2, 255, 2, 97, 98] : List UInt8) then (if t113 = 0 then (if (t110.length : Int) = 0 then (if bt115.1 = 0 then (if bt115.2 = 0 then ((slabGood.f t109 t110).bind fun t119 => (some t119)) else (some false)) else (some false)) else (some false)) else (some false)) else (some false)) else (none)) else (none)) else (some false)) else (some false)) else (some false)))) else (none)) else (some false)) else (some false))) = some r := H
  have A3 := Aside0.mk A30
  clear A30
  replace H := Option.bind_eq_some_iff.mp H
  obtain ⟨⟨t115, t116⟩, A40, H⟩ := H
  replace H : (if t105 = 0 then (if (t102.length : Int) = 2 then (if 0 < (t102.length : Int) then (if ((rd_T33 t102 0).f0 = true) then (some false) else ((slabSz.f t101 t102).bind fun t118 => (if t118 = 13 then (if t108 = 0 then (if (t107.size : Int) = 240 then (if 8 ≤ 13 then (if 13 ≤ (t107.size : Int) then (if (t107.extract 8 13).toList = ([2, 255, 2, 97, 98] : List UInt8) then (if t113 = 0 then (if (t110.length : Int) = 0 then (if t115 = 0 then (if t116 = 0 then ((slabGood.f t109 t110).bind fun t119 => (some t119)) else (some false)) else (some false)) else (some false)) else (some false)) else (some false)) else (none)) else (none)) else (some false)) else (some false)) else (some false)))) else (none)) else (some false)) else (some false)) = some r := H
  have A4 := Aside0.mk A40
  clear A40
  by_cases c5 : t105 = 0
  · rw [if_pos c5] at H
    have c5b0 : (t105 == 0) = true := beq_iff_eq.mpr c5
    have c5b1 : (t105 != 0) = false := bne_eq_false_iff_eq.mpr c5
    clear c5
    by_cases c6 : (t102.length : Int) = 2
    · rw [if_pos c6] at H
      have c6b0 : ((t102.length : Int) == 2) = true := beq_iff_eq.mpr c6
      have c6b1 : ((t102.length : Int) != 2) = false := bne_eq_false_iff_eq.mpr c6
      clear c6
      by_cases c7 : 0 < (t102.length : Int)
      · rw [if_pos c7] at H
        have c7b0 : decide (0 < (t102.length : Int)) = true := decide_eq_true c7
        have c7b1 : decide (0 < t102.length) = true := decide_eq_true (by omega)
        clear c7
        obtain ⟨bq8, hbq8⟩ : ∃ b_ : Bool, b_ = ((rd_T33 t102 0).f0) := ⟨_, rfl⟩
        replace H : (if (bq8 = true) then (some false) else ((slabSz.f t101 t102).bind fun t118 => (if t118 = 13 then (if t108 = 0 then (if (t107.size : Int) = 240 then (if 8 ≤ 13 then (if 13 ≤ (t107.size : Int) then (if (t107.extract 8 13).toList = ([2, 255, 2, 97, 98] : List UInt8) then (if t113 = 0 then (if (t110.length : Int) = 0 then (if t115 = 0 then (if t116 = 0 then ((slabGood.f t109 t110).bind fun t119 => (some t119)) else (some false)) else (some false)) else (some false)) else (some false)) else (some false)) else (none)) else (none)) else (some false)) else (some false)) else (some false)))) = some r := by rw [← hbq8] at H; exact H
        have Nbq8 := Aside0.mk hbq8
        clear hbq8
        by_cases c9 : (bq8 = true)
        · exfalso; subst c9; have q_ := Option.some.inj (A1.out.symm.trans v30_1); simp only [Prod.mk.injEq] at q_; obtain ⟨rfl, rfl, rfl⟩ := q_; have q_ := Option.some.inj (A2.out.symm.trans v30_2); simp only [Prod.mk.injEq] at q_; obtain ⟨rfl, rfl⟩ := q_; have q_ := Option.some.inj (A3.out.symm.trans v30_3); simp only [Prod.mk.injEq] at q_; obtain ⟨rfl, rfl, rfl⟩ := q_; have q_ := Option.some.inj (A4.out.symm.trans v30_4); simp only [Prod.mk.injEq] at q_; obtain ⟨rfl, rfl⟩ := q_; exact absurd Nbq8.out (by decide +kernel)
        · replace c9 := Bool.eq_false_iff.mpr c9
          subst c9
          have H1 : ((slabSz.f t101 t102).bind fun t118 => (if t118 = 13 then (if t108 = 0 then (if (t107.size : Int) = 240 then (if 8 ≤ 13 then (if 13 ≤ (t107.size : Int) then (if (t107.extract 8 13).toList = ([2, 255, 2, 97, 98] : List UInt8) then (if t113 = 0 then (if (t110.length : Int) = 0 then (if t115 = 0 then (if t116 = 0 then ((slabGood.f t109 t110).bind fun t119 => (some t119)) else (some false)) else (some false)) else (some false)) else (some false)) else (some false)) else (none)) else (none)) else (some false)) else (some false)) else (some false))) = some r := by rw [if_neg (show ¬ (false = true) by decide)] at H; exact H
          clear H
          have H := H1
          clear H1
          replace H := Option.bind_eq_some_iff.mp H
          obtain ⟨t118, A240, H⟩ := H
          replace H : (if t118 = 13 then (if t108 = 0 then (if (t107.size : Int) = 240 then (if 8 ≤ 13 then (if 13 ≤ (t107.size : Int) then (if (t107.extract 8 13).toList = ([2, 255, 2, 97, 98] : List UInt8) then (if t113 = 0 then (if (t110.length : Int) = 0 then (if t115 = 0 then (if t116 = 0 then ((slabGood.f t109 t110).bind fun t119 => (some t119)) else (some false)) else (some false)) else (some false)) else (some false)) else (some false)) else (none)) else (none)) else (some false)) else (some false)) else (some false)) = some r := H
          have A24 := Aside0.mk A240
          clear A240
          by_cases c25 : t118 = 13
          · rw [if_pos c25] at H
            have c25b0 : (t118 == 13) = true := beq_iff_eq.mpr c25
            have c25b1 : (t118 != 13) = false := bne_eq_false_iff_eq.mpr c25
            clear c25
            by_cases c26 : t108 = 0
            · rw [if_pos c26] at H
              have c26b0 : (t108 == 0) = true := beq_iff_eq.mpr c26
              have c26b1 : (t108 != 0) = false := bne_eq_false_iff_eq.mpr c26
              clear c26
              by_cases c27 : (t107.size : Int) = 240
              · rw [if_pos c27] at H
                have c27b0 : ((t107.size : Int) == 240) = true := beq_iff_eq.mpr c27
                have c27b1 : ((t107.size : Int) != 240) = false := bne_eq_false_iff_eq.mpr c27
                clear c27
                by_cases c28 : 8 ≤ 13
                · rw [if_pos c28] at H
                  have c28b0 := eq_true c28
                  have c28b1 : decide (8 ≤ 13) = true := decide_eq_true c28
                  clear c28
                  by_cases c29 : 13 ≤ (t107.size : Int)
                  · rw [if_pos c29] at H
                    have c29b0 := eq_true c29
                    have c29b1 : decide (13 ≤ (t107.size : Int)) = true := decide_eq_true c29
                    clear c29
                    by_cases c30 : (t107.extract 8 13).toList = ([2, 255, 2, 97, 98] : List UInt8)
                    · rw [if_pos c30] at H
                      have c30b0 : ((t107.extract 8 13).toList == ([2, 255, 2, 97, 98] : List UInt8)) = true := beq_iff_eq.mpr c30
                      have c30b1 : ((t107.extract 8 13).toList != ([2, 255, 2, 97, 98] : List UInt8)) = false := bne_eq_false_iff_eq.mpr c30
                      clear c30
                      by_cases c31 : t113 = 0
                      · rw [if_pos c31] at H
                        have c31b0 : (t113 == 0) = true := beq_iff_eq.mpr c31
                        have c31b1 : (t113 != 0) = false := bne_eq_false_iff_eq.mpr c31
                        clear c31
                        by_cases c32 : (t110.length : Int) = 0
                        · rw [if_pos c32] at H
                          have c32b0 : ((t110.length : Int) == 0) = true := beq_iff_eq.mpr c32
                          have c32b1 : ((t110.length : Int) != 0) = false := bne_eq_false_iff_eq.mpr c32
                          clear c32
                          by_cases c33 : t115 = 0
                          · rw [if_pos c33] at H
                            have c33b0 : (t115 == 0) = true := beq_iff_eq.mpr c33
                            have c33b1 : (t115 != 0) = false := bne_eq_false_iff_eq.mpr c33
                            clear c33
                            by_cases c34 : t116 = 0
                            · rw [if_pos c34] at H
                              have c34b0 : (t116 == 0) = true := beq_iff_eq.mpr c34
                              have c34b1 : (t116 != 0) = false := bne_eq_false_iff_eq.mpr c34
                              clear c34
                              replace H := Option.bind_eq_some_iff.mp H
                              obtain ⟨t119, A350, H⟩ := H
                              replace H : (some t119) = some r := H
                              have A35 := Aside0.mk A350
                              clear A350
                              obtain rfl := Option.some.inj H
                              go_enter Try.func30, Try.ntmps30
                              go_wp2_with (first | ((with_reducible refine gate_callee (f := 38) rfl ?_); refine goesL_ (some 12) rfl rfl Try.func38 (by kernel_rfl) rfl #[.agg #[.int .i64 0, .slice none 0 0], .int .i64 1, .agg #[.bool true, .string (⟨#[97, 98]⟩ : ByteArray)]] rfl (by (try simp only [List.map_toArray, List.map_cons, List.map_nil]); first | done | rfl | (simp only [List.length_drop, List.length_take]; rfl)) ?_; (refine (slabPut.calls 0 _ _ ([] : List (S33)) 1 true (⟨#[97, 98]⟩ : ByteArray) t101 t102 t105 _ ?side1 ?side2 A1.out).mono ?_); (case side1 => exact Kd.C_nil _ _); (case side2 => exact Nat.le_refl _); rintro e w36 ⟨v103, rfl, ho0, hb⟩; refine ⟨_, rfl, ?_⟩; have n0_ := Aside0.mk (Kd.R_lower ho0 (below_size (by repeat (first | (with_reducible first | exact HB.out | apply below_alloc | apply pw_below_drewN | apply below_drew1) | exact HB.out)))); have n1_ := Aside0.mk (below_step (by repeat (first | (with_reducible first | exact HB.out | apply below_alloc | apply pw_below_drewN | apply below_drew1) | exact HB.out)) hb); clear HB; have HO104 := n0_; have HB := n1_; clear n0_ n1_; (try clear hb); (try clear hb2); (try clear hk); (try clear hi); (try clear ho0)) | ((with_reducible refine gate_dst (N := 1) rfl ?_); (try (refine gate_guard (by rfl) ?_; dsimp only)); refine box_event ?hg (N := 1) ?hd (cs := #[.int .i64 0, .slice none 0 0]) (t := 24) ?hr ?_; (case hd => rfl); (case hg => rfl); (case hr => first | (go_simp; done) | (go_simp; rfl)); intro gb106 hg w37 hbox hb; have n0_ := Aside0.mk (Kd.R_below (by (with_reducible repeat (first | apply Kd.R_alloc | apply Kd.R_drewN | apply Kd.R_drew)); exact HO104.out) hb); have n1_ := Aside0.mk (below_step (by repeat (first | (with_reducible first | exact HB.out | apply below_alloc | apply pw_below_drewN | apply below_drew1) | exact HB.out)) hb); have n2_ := Aside0.mk (hbox); have n3_ := Aside0.mk ((by rw [hg]; exact (below_size (by repeat (first | (with_reducible first | exact HB.out | apply below_alloc | apply pw_below_drewN | apply below_drew1) | exact HB.out))) : w.heap.size ≤ gb106)); have n4_ := Aside0.mk ((by rw [hg]; exact (below_size (by repeat (first | (with_reducible first | exact HB.out | apply below_alloc | apply pw_below_drewN | apply below_drew1) | exact HB.out))) : w.heap.size ≤ gb106)); clear HO104; clear HB; have HO104 := n0_; have HB := n1_; have BK106 := n2_; have GW106 := n3_; have GE106 := n4_; clear n0_ n1_ n2_ n3_ n4_; clear hb hbox hg; have hcz38_0 : w37.cell? ⟨gb106, 0, none⟩ = some (.int .i64 0) := (blk_cell BK106.out 0).trans rfl; have hcz38_1 : w37.cell? ⟨gb106, 1, none⟩ = some (.slice none 0 0) := (blk_cell BK106.out 1).trans rfl; have hfz38_0 := blk_frozen BK106.out 0; have hfz38_1 := blk_frozen BK106.out 1; obtain ⟨Ao39, co39, eo39⟩ := Kd.R_slice HO104.out; subst eo39) | ((with_reducible refine gate_callee (f := 32) rfl ?_); refine goesL_ (some 17) rfl rfl Try.func32 (by kernel_rfl) rfl #[.agg #[.int .i64 t101, .slice Ao39 t102.length co39]] rfl (by (try simp only [List.map_toArray, List.map_cons, List.map_nil]); first | done | rfl | (simp only [List.length_drop, List.length_take]; rfl)) ?_; (with_reducible refine (slab_Encode.calls t101 _ _ t102 t107 t108 _ ?side1 ?side2 A2.out).mono ?_); (case side1 => refine (Kd.R_reads' (e := 33) (base := w.heap.size) (ok := fun k_ => True) (n := t102.length) (c := co39) ?_).2.2; exact (by (with_reducible repeat (first | apply Kd.R_alloc | apply Kd.R_drewN | apply Kd.R_drew)); exact (Kd.R_mono (Kd.R_far (p := ⟨gb106, 1, none⟩) (Kd.R_far (p := ⟨gb106, 0, none⟩) (Kd.R_types HO104.out BK106.out (by decide)) (fun _ hk => hk.2) (.int .i64 t101)) (fun _ hk => hk.2) (.slice Ao39 t102.length co39)) (fun _ h_ => h_.1)))); (case side2 => exact (Kd.R_reads' HO104.out).2.1); rintro e w40 ⟨rfl, hb⟩; refine ⟨_, rfl, ?_⟩; have n0_ := Aside0.mk (Kd.R_below (by (with_reducible repeat (first | apply Kd.R_alloc | apply Kd.R_drewN | apply Kd.R_drew)); exact (Kd.R_mono (Kd.R_far (p := ⟨gb106, 1, none⟩) (Kd.R_far (p := ⟨gb106, 0, none⟩) (Kd.R_types HO104.out BK106.out (by decide)) (fun _ hk => hk.2) (.int .i64 t101)) (fun _ hk => hk.2) (.slice Ao39 t102.length co39)) (fun _ h_ => h_.1))) hb); have n1_ := Aside0.mk (blk_below (g := gb106) (o := .cells #[.int .i64 t101, .slice Ao39 t102.length co39] 24 (0, 0)) (by (with_reducible repeat (first | refine blk_drewN ?_ _ | refine blk_drew ?_ | refine blk_alloc ?_ _)); refine blk_put (cs := #[.int .i64 t101, .slice none 0 0]) ?_ 1 _ rfl; (with_reducible repeat (first | refine blk_drewN ?_ _ | refine blk_drew ?_ | refine blk_alloc ?_ _)); refine blk_put (cs := #[.int .i64 0, .slice none 0 0]) ?_ 0 _ rfl; (with_reducible repeat (first | refine blk_drewN ?_ _ | refine blk_drew ?_ | refine blk_alloc ?_ _)); exact BK106.out) hb); have n2_ := Aside0.mk (below_step (by repeat (first | (with_reducible first | exact HB.out | apply below_alloc | apply pw_below_drewN | apply below_drew1 | refine below_set ?_ GE106.out) | exact HB.out)) hb); clear HO104; clear BK106; clear HB; have HO104 := n0_; have BK106 := n1_; have HB := n2_; clear n0_ n1_ n2_; (try clear hb); (try clear hb2); (try clear hk); (try clear hi); have hcz41_0 : w40.cell? ⟨gb106, 0, none⟩ = some (.int .i64 t101) := (blk_cell BK106.out 0).trans rfl; have hcz41_1 : w40.cell? ⟨gb106, 1, none⟩ = some (.slice Ao39 t102.length co39) := (blk_cell BK106.out 1).trans rfl; have hfz41_0 := blk_frozen BK106.out 0; have hfz41_1 := blk_frozen BK106.out 1) | ((with_reducible refine gate_callee (f := 38) rfl ?_); refine goesL_ (some 23) rfl rfl Try.func38 (by kernel_rfl) rfl #[.agg #[.int .i64 t101, .slice Ao39 t102.length co39], .int .i64 1, .agg #[.bool false, .string (⟨#[]⟩ : ByteArray)]] rfl (by (try simp only [List.map_toArray, List.map_cons, List.map_nil]); first | done | rfl | (simp only [List.length_drop, List.length_take]; rfl)) ?_; (with_reducible refine (slabPut.calls t101 _ _ t102 1 false (⟨#[]⟩ : ByteArray) t109 t110 t113 _ ?side1 ?side2 A3.out).mono ?_); (case side1 => repeat (first | exact (Kd.R_reads' HO104.out).2.2 | (with_reducible refine Kd.C_alloc ?_ _) | (with_reducible refine Kd.C_drewN ?_ _) | (with_reducible refine Kd.C_drew ?_))); (case side2 => exact (Kd.R_reads' HO104.out).2.1); rintro e w42 ⟨v111, rfl, ho0, hb⟩; refine ⟨_, rfl, ?_⟩; have n0_ := Aside0.mk (Kd.R_elder' (by (with_reducible repeat (first | apply Kd.R_alloc | apply Kd.R_drewN | apply Kd.R_drew)); exact HO104.out) (Kd.R_base ho0) hb); have n1_ := Aside0.mk (Kd.R_lower (Kd.R_new' ho0 (Kd.R_lt (by (with_reducible repeat (first | apply Kd.R_alloc | apply Kd.R_drewN | apply Kd.R_drew)); exact HO104.out))) (below_size (by repeat (first | (with_reducible first | exact HB.out | apply below_alloc | apply pw_below_drewN | apply below_drew1 | refine below_set ?_ GE106.out) | exact HB.out)))); have n2_ := Aside0.mk (blk_below (g := gb106) (o := .cells #[.int .i64 t101, .slice Ao39 t102.length co39] 24 (0, 0)) (by (with_reducible repeat (first | refine blk_drewN ?_ _ | refine blk_drew ?_ | refine blk_alloc ?_ _)); exact BK106.out) hb); have n3_ := Aside0.mk (below_step (by repeat (first | (with_reducible first | exact HB.out | apply below_alloc | apply pw_below_drewN | apply below_drew1 | refine below_set ?_ GE106.out) | exact HB.out)) hb); clear HO104; clear BK106; clear HB; have HO104 := n0_; have HO112 := n1_; have BK106 := n2_; have HB := n3_; clear n0_ n1_ n2_ n3_; (try clear hb); (try clear hb2); (try clear hk); (try clear hi); (try clear ho0)) | ((with_reducible refine gate_dst (N := 5) rfl ?_); (try (refine gate_guard (by rfl) ?_; dsimp only)); refine box_event ?hg (N := 5) ?hd (cs := #[.int .i64 0, .slice none 0 0]) (t := 24) ?hr ?_; (case hd => rfl); (case hg => rfl); (case hr => first | (go_simp; done) | (go_simp; rfl)); intro gb114 hg w43 hbox hb; have n0_ := Aside0.mk (Kd.R_below (by (with_reducible repeat (first | apply Kd.R_alloc | apply Kd.R_drewN | apply Kd.R_drew)); exact HO104.out) hb); have n1_ := Aside0.mk (Kd.R_below (by (with_reducible repeat (first | apply Kd.R_alloc | apply Kd.R_drewN | apply Kd.R_drew)); exact HO112.out) hb); have n2_ := Aside0.mk (blk_below (g := gb106) (o := .cells #[.int .i64 t101, .slice Ao39 t102.length co39] 24 (0, 0)) (by (with_reducible repeat (first | refine blk_drewN ?_ _ | refine blk_drew ?_ | refine blk_alloc ?_ _)); exact BK106.out) hb); have n3_ := Aside0.mk (below_step (by repeat (first | (with_reducible first | exact HB.out | apply below_alloc | apply pw_below_drewN | apply below_drew1 | refine below_set ?_ GE106.out) | exact HB.out)) hb); have n4_ := Aside0.mk (hbox); have n5_ := Aside0.mk ((by rw [hg]; exact (below_size (by repeat (first | (with_reducible first | exact HB.out | apply below_alloc | apply pw_below_drewN | apply below_drew1 | refine below_set ?_ GE106.out) | exact HB.out))) : w.heap.size ≤ gb114)); have n6_ := Aside0.mk ((by rw [hg]; exact (below_size (by repeat (first | (with_reducible first | exact HB.out | apply below_alloc | apply pw_below_drewN | apply below_drew1 | refine below_set ?_ GE106.out) | exact HB.out))) : w.heap.size ≤ gb114)); have n7_ := Aside0.mk ((by rw [hg]; exact Nat.ne_of_lt (blk_lt (g := gb106) (o := .cells #[.int .i64 t101, .slice Ao39 t102.length co39] 24 (0, 0)) (by (with_reducible repeat (first | refine blk_drewN ?_ _ | refine blk_drew ?_ | refine blk_alloc ?_ _)); exact BK106.out)) : gb106 ≠ gb114)); have n8_ := Aside0.mk ((by rw [hg]; exact Nat.ne_of_gt (blk_lt (g := gb106) (o := .cells #[.int .i64 t101, .slice Ao39 t102.length co39] 24 (0, 0)) (by (with_reducible repeat (first | refine blk_drewN ?_ _ | refine blk_drew ?_ | refine blk_alloc ?_ _)); exact BK106.out)) : gb114 ≠ gb106)); clear HO104; clear HO112; clear BK106; clear HB; have HO104 := n0_; have HO112 := n1_; have BK106 := n2_; have HB := n3_; have BK114 := n4_; have GW114 := n5_; have GE114 := n6_; have NB106_114 := n7_; have NB114_106 := n8_; clear n0_ n1_ n2_ n3_ n4_ n5_ n6_ n7_ n8_; clear hb hbox hg; have hnb44 := NB114_106.out; have hnc44 := NB106_114.out; have hcz45_0 : w43.cell? ⟨gb114, 0, none⟩ = some (.int .i64 0) := (blk_cell BK114.out 0).trans rfl; have hcz45_1 : w43.cell? ⟨gb114, 1, none⟩ = some (.slice none 0 0) := (blk_cell BK114.out 1).trans rfl; have hfz45_0 := blk_frozen BK114.out 0; have hfz45_1 := blk_frozen BK114.out 1; obtain ⟨Ao46, co46, eo46⟩ := Kd.R_slice HO112.out; subst eo46; have hcz47_0 : w43.cell? ⟨gb106, 0, none⟩ = some (.int .i64 t101) := (blk_cell BK106.out 0).trans rfl; have hcz47_1 : w43.cell? ⟨gb106, 1, none⟩ = some (.slice Ao39 t102.length co39) := (blk_cell BK106.out 1).trans rfl; have hfz47_0 := blk_frozen BK106.out 0; have hfz47_1 := blk_frozen BK106.out 1) | ((with_reducible refine gate_callee (f := 43) rfl ?_); refine goesL_ (some 28) rfl rfl Try.func43 (by kernel_rfl) rfl #[.agg #[.int .i64 t101, .slice Ao39 t102.length co39], .int .i64 5] rfl (by (try simp only [List.map_toArray, List.map_cons, List.map_nil]); first | done | rfl | (simp only [List.length_drop, List.length_take]; rfl)) ?_; (with_reducible refine (slabVac.calls t101 _ _ t102 5 t115 t116 _ ?side1 ?side2 A4.out).mono ?_); (case side1 => refine (Kd.R_reads' (e := 33) (base := w.heap.size) (ok := fun k_ => (True ∧ some k_ ≠ (.slice Ao46 t110.length co46 : Value).ownBlock)) (n := t102.length) (c := co39) ?_).2.2; exact (by (with_reducible repeat (first | apply Kd.R_alloc | apply Kd.R_drewN | apply Kd.R_drew)); exact (Kd.R_mono (Kd.R_far (p := ⟨gb114, 1, none⟩) (Kd.R_far (p := ⟨gb114, 0, none⟩) (Kd.R_types HO104.out BK114.out (by decide)) (fun _ hk => hk.2) (.int .i64 t109)) (fun _ hk => hk.2) (.slice Ao46 t110.length co46)) (fun _ h_ => h_.1)))); (case side2 => exact (Kd.R_reads' HO104.out).2.1); rintro e w48 ⟨rfl, hb⟩; refine ⟨_, rfl, ?_⟩; have n0_ := Aside0.mk (Kd.R_below (by (with_reducible repeat (first | apply Kd.R_alloc | apply Kd.R_drewN | apply Kd.R_drew)); exact (Kd.R_mono (Kd.R_far (p := ⟨gb114, 1, none⟩) (Kd.R_far (p := ⟨gb114, 0, none⟩) (Kd.R_types HO104.out BK114.out (by decide)) (fun _ hk => hk.2) (.int .i64 t109)) (fun _ hk => hk.2) (.slice Ao46 t110.length co46)) (fun _ h_ => h_.1))) hb); have n1_ := Aside0.mk (Kd.R_below (by (with_reducible repeat (first | apply Kd.R_alloc | apply Kd.R_drewN | apply Kd.R_drew)); exact (Kd.R_mono (Kd.R_far (p := ⟨gb114, 1, none⟩) (Kd.R_far (p := ⟨gb114, 0, none⟩) (Kd.R_types HO112.out BK114.out (by decide)) (fun _ hk => hk.2) (.int .i64 t109)) (fun _ hk => hk.2) (.slice Ao46 t110.length co46)) (fun _ h_ => h_.1))) hb); have n2_ := Aside0.mk (blk_below (g := gb106) (o := .cells #[.int .i64 t101, .slice Ao39 t102.length co39] 24 (0, 0)) (by (with_reducible repeat (first | refine blk_drewN ?_ _ | refine blk_drew ?_ | refine blk_alloc ?_ _)); refine blk_far ?_ NB106_114.out _; (with_reducible repeat (first | refine blk_drewN ?_ _ | refine blk_drew ?_ | refine blk_alloc ?_ _)); refine blk_far ?_ NB106_114.out _; (with_reducible repeat (first | refine blk_drewN ?_ _ | refine blk_drew ?_ | refine blk_alloc ?_ _)); exact BK106.out) hb); have n3_ := Aside0.mk (blk_below (g := gb114) (o := .cells #[.int .i64 t109, .slice Ao46 t110.length co46] 24 (0, 0)) (by (with_reducible repeat (first | refine blk_drewN ?_ _ | refine blk_drew ?_ | refine blk_alloc ?_ _)); refine blk_put (cs := #[.int .i64 t109, .slice none 0 0]) ?_ 1 _ rfl; (with_reducible repeat (first | refine blk_drewN ?_ _ | refine blk_drew ?_ | refine blk_alloc ?_ _)); refine blk_put (cs := #[.int .i64 0, .slice none 0 0]) ?_ 0 _ rfl; (with_reducible repeat (first | refine blk_drewN ?_ _ | refine blk_drew ?_ | refine blk_alloc ?_ _)); exact BK114.out) hb); have n4_ := Aside0.mk (below_step (by repeat (first | (with_reducible first | exact HB.out | apply below_alloc | apply pw_below_drewN | apply below_drew1 | refine below_set ?_ GE106.out | refine below_set ?_ GE114.out) | exact HB.out)) hb); clear HO104; clear HO112; clear BK106; clear BK114; clear HB; have HO104 := n0_; have HO112 := n1_; have BK106 := n2_; have BK114 := n3_; have HB := n4_; clear n0_ n1_ n2_ n3_ n4_; (try clear hb); (try clear hb2); (try clear hk); (try clear hi); have hcz49_0 : w48.cell? ⟨gb106, 0, none⟩ = some (.int .i64 t101) := (blk_cell BK106.out 0).trans rfl; have hcz49_1 : w48.cell? ⟨gb106, 1, none⟩ = some (.slice Ao39 t102.length co39) := (blk_cell BK106.out 1).trans rfl; have hfz49_0 := blk_frozen BK106.out 0; have hfz49_1 := blk_frozen BK106.out 1; have p117 : 0 ≤ (0 : Int) := (by omega); have q117 : 0 < (t102.length : Int) := of_decide_eq_true (by first | (with_reducible assumption) | assumption); obtain ⟨ad117, e117, hx117_0, hx117_1⟩ := at_T33 (Kd.R_reads' HO104.out).2.2 0 p117 q117; (try rw [← Nbq8.out] at hx117_0); cases e117; have qi117 : (0 < t102.length) = True := eq_true (by omega); (try rw [show ((0 : Int)).toNat = 0 from rfl] at hx117_0); (try rw [show 0 * 2 = 0 from rfl] at hx117_0); (try rw [Addr.add_zero'] at hx117_0); (try rw [show ((0 : Int)).toNat = 0 from rfl] at hx117_1); (try rw [show 0 * 2 = 0 from rfl] at hx117_1); (try rw [Addr.add_zero'] at hx117_1); replace p117 := eq_true p117; replace q117 := eq_true q117) | (go_at_call 36; (with_reducible refine (slabSz.calls t101 _ _ t102 t118 _ ?side1 ?side2 A24.out).mono ?_); (case side1 => repeat (first | exact (Kd.R_reads' HO104.out).2.2 | (with_reducible refine Kd.C_alloc ?_ _) | (with_reducible refine Kd.C_drewN ?_ _) | (with_reducible refine Kd.C_drew ?_))); (case side2 => exact (Kd.R_reads' HO104.out).2.1); rintro e w50 ⟨rfl, hb⟩; have n0_ := Aside0.mk (Kd.R_below (by (with_reducible repeat (first | apply Kd.R_alloc | apply Kd.R_drewN | apply Kd.R_drew)); exact HO104.out) hb); have n1_ := Aside0.mk (Kd.R_below (by (with_reducible repeat (first | apply Kd.R_alloc | apply Kd.R_drewN | apply Kd.R_drew)); exact HO112.out) hb); have n2_ := Aside0.mk (blk_below (g := gb106) (o := .cells #[.int .i64 t101, .slice (some ad117) t102.length co39] 24 (0, 0)) (by (with_reducible repeat (first | refine blk_drewN ?_ _ | refine blk_drew ?_ | refine blk_alloc ?_ _)); exact BK106.out) hb); have n3_ := Aside0.mk (blk_below (g := gb114) (o := .cells #[.int .i64 t109, .slice Ao46 t110.length co46] 24 (0, 0)) (by (with_reducible repeat (first | refine blk_drewN ?_ _ | refine blk_drew ?_ | refine blk_alloc ?_ _)); exact BK114.out) hb); have n4_ := Aside0.mk (below_step (by repeat (first | (with_reducible first | exact HB.out | apply below_alloc | apply pw_below_drewN | apply below_drew1 | refine below_set ?_ GE106.out | refine below_set ?_ GE114.out) | exact HB.out)) hb); clear HO104; clear HO112; clear BK106; clear BK114; clear HB; have HO104 := n0_; have HO112 := n1_; have BK106 := n2_; have BK114 := n3_; have HB := n4_; clear n0_ n1_ n2_ n3_ n4_; (try clear hb); (try clear hb2); (try clear hk); (try clear hi); have hcz51_0 : w50.cell? ⟨gb114, 0, none⟩ = some (.int .i64 t109) := (blk_cell BK114.out 0).trans rfl; have hcz51_1 : w50.cell? ⟨gb114, 1, none⟩ = some (.slice Ao46 t110.length co46) := (blk_cell BK114.out 1).trans rfl; have hfz51_0 := blk_frozen BK114.out 0; have hfz51_1 := blk_frozen BK114.out 1) | (go_at_call 34; (with_reducible refine (slabGood.calls t109 _ _ t110 t119 _ ?side1 ?side2 A35.out).mono ?_); (case side1 => repeat (first | exact (Kd.R_reads' HO112.out).2.2 | (with_reducible refine Kd.C_alloc ?_ _) | (with_reducible refine Kd.C_drewN ?_ _) | (with_reducible refine Kd.C_drew ?_))); (case side2 => exact (Kd.R_reads' HO112.out).2.1); rintro e w52 ⟨rfl, hb⟩; have n0_ := Aside0.mk (Kd.R_below (by (with_reducible repeat (first | apply Kd.R_alloc | apply Kd.R_drewN | apply Kd.R_drew)); exact HO104.out) hb); have n1_ := Aside0.mk (Kd.R_below (by (with_reducible repeat (first | apply Kd.R_alloc | apply Kd.R_drewN | apply Kd.R_drew)); exact HO112.out) hb); have n2_ := Aside0.mk (blk_below (g := gb106) (o := .cells #[.int .i64 t101, .slice (some ad117) t102.length co39] 24 (0, 0)) (by (with_reducible repeat (first | refine blk_drewN ?_ _ | refine blk_drew ?_ | refine blk_alloc ?_ _)); exact BK106.out) hb); have n3_ := Aside0.mk (blk_below (g := gb114) (o := .cells #[.int .i64 t109, .slice Ao46 t110.length co46] 24 (0, 0)) (by (with_reducible repeat (first | refine blk_drewN ?_ _ | refine blk_drew ?_ | refine blk_alloc ?_ _)); exact BK114.out) hb); have n4_ := Aside0.mk (below_step (by repeat (first | (with_reducible first | exact HB.out | apply below_alloc | apply pw_below_drewN | apply below_drew1 | refine below_set ?_ GE106.out | refine below_set ?_ GE114.out) | exact HB.out)) hb); clear HO104; clear HO112; clear BK106; clear BK114; clear HB; have HO104 := n0_; have HO112 := n1_; have BK106 := n2_; have BK114 := n3_; have HB := n4_; clear n0_ n1_ n2_ n3_ n4_; (try clear hb); (try clear hb2); (try clear hk); (try clear hi)))
                              go_ret
                              exact ⟨by first | rfl | (simp [errW_none, errW_some] <;> rfl) | (simp [*, errW_none, errW_some] <;> rfl), by repeat (first | (with_reducible first | exact HB.out | apply below_alloc | apply pw_below_drewN | apply below_drew1 | refine below_set ?_ GE106.out | refine below_set ?_ GE114.out) | exact HB.out)⟩
                            · exfalso; have q_ := Option.some.inj (A1.out.symm.trans v30_1); simp only [Prod.mk.injEq] at q_; obtain ⟨rfl, rfl, rfl⟩ := q_; have q_ := Option.some.inj (A2.out.symm.trans v30_2); simp only [Prod.mk.injEq] at q_; obtain ⟨rfl, rfl⟩ := q_; have q_ := Option.some.inj (A3.out.symm.trans v30_3); simp only [Prod.mk.injEq] at q_; obtain ⟨rfl, rfl, rfl⟩ := q_; have q_ := Option.some.inj (A4.out.symm.trans v30_4); simp only [Prod.mk.injEq] at q_; obtain ⟨rfl, rfl⟩ := q_; have q_ := Option.some.inj (A24.out.symm.trans v30_24); subst q_; exact c34 (by decide +kernel)
                          · exfalso; have q_ := Option.some.inj (A1.out.symm.trans v30_1); simp only [Prod.mk.injEq] at q_; obtain ⟨rfl, rfl, rfl⟩ := q_; have q_ := Option.some.inj (A2.out.symm.trans v30_2); simp only [Prod.mk.injEq] at q_; obtain ⟨rfl, rfl⟩ := q_; have q_ := Option.some.inj (A3.out.symm.trans v30_3); simp only [Prod.mk.injEq] at q_; obtain ⟨rfl, rfl, rfl⟩ := q_; have q_ := Option.some.inj (A4.out.symm.trans v30_4); simp only [Prod.mk.injEq] at q_; obtain ⟨rfl, rfl⟩ := q_; have q_ := Option.some.inj (A24.out.symm.trans v30_24); subst q_; exact c33 (by decide +kernel)
                        · exfalso; have q_ := Option.some.inj (A1.out.symm.trans v30_1); simp only [Prod.mk.injEq] at q_; obtain ⟨rfl, rfl, rfl⟩ := q_; have q_ := Option.some.inj (A2.out.symm.trans v30_2); simp only [Prod.mk.injEq] at q_; obtain ⟨rfl, rfl⟩ := q_; have q_ := Option.some.inj (A3.out.symm.trans v30_3); simp only [Prod.mk.injEq] at q_; obtain ⟨rfl, rfl, rfl⟩ := q_; have q_ := Option.some.inj (A4.out.symm.trans v30_4); simp only [Prod.mk.injEq] at q_; obtain ⟨rfl, rfl⟩ := q_; have q_ := Option.some.inj (A24.out.symm.trans v30_24); subst q_; exact c32 (by decide +kernel)
                      · exfalso; have q_ := Option.some.inj (A1.out.symm.trans v30_1); simp only [Prod.mk.injEq] at q_; obtain ⟨rfl, rfl, rfl⟩ := q_; have q_ := Option.some.inj (A2.out.symm.trans v30_2); simp only [Prod.mk.injEq] at q_; obtain ⟨rfl, rfl⟩ := q_; have q_ := Option.some.inj (A3.out.symm.trans v30_3); simp only [Prod.mk.injEq] at q_; obtain ⟨rfl, rfl, rfl⟩ := q_; have q_ := Option.some.inj (A4.out.symm.trans v30_4); simp only [Prod.mk.injEq] at q_; obtain ⟨rfl, rfl⟩ := q_; have q_ := Option.some.inj (A24.out.symm.trans v30_24); subst q_; exact c31 (by decide +kernel)
                    · exfalso; have q_ := Option.some.inj (A1.out.symm.trans v30_1); simp only [Prod.mk.injEq] at q_; obtain ⟨rfl, rfl, rfl⟩ := q_; have q_ := Option.some.inj (A2.out.symm.trans v30_2); simp only [Prod.mk.injEq] at q_; obtain ⟨rfl, rfl⟩ := q_; have q_ := Option.some.inj (A3.out.symm.trans v30_3); simp only [Prod.mk.injEq] at q_; obtain ⟨rfl, rfl, rfl⟩ := q_; have q_ := Option.some.inj (A4.out.symm.trans v30_4); simp only [Prod.mk.injEq] at q_; obtain ⟨rfl, rfl⟩ := q_; have q_ := Option.some.inj (A24.out.symm.trans v30_24); subst q_; exact c30 (by decide +kernel)
                  · exfalso; have q_ := Option.some.inj (A1.out.symm.trans v30_1); simp only [Prod.mk.injEq] at q_; obtain ⟨rfl, rfl, rfl⟩ := q_; have q_ := Option.some.inj (A2.out.symm.trans v30_2); simp only [Prod.mk.injEq] at q_; obtain ⟨rfl, rfl⟩ := q_; have q_ := Option.some.inj (A3.out.symm.trans v30_3); simp only [Prod.mk.injEq] at q_; obtain ⟨rfl, rfl, rfl⟩ := q_; have q_ := Option.some.inj (A4.out.symm.trans v30_4); simp only [Prod.mk.injEq] at q_; obtain ⟨rfl, rfl⟩ := q_; have q_ := Option.some.inj (A24.out.symm.trans v30_24); subst q_; exact c29 (by decide +kernel)
                · exfalso; have q_ := Option.some.inj (A1.out.symm.trans v30_1); simp only [Prod.mk.injEq] at q_; obtain ⟨rfl, rfl, rfl⟩ := q_; have q_ := Option.some.inj (A2.out.symm.trans v30_2); simp only [Prod.mk.injEq] at q_; obtain ⟨rfl, rfl⟩ := q_; have q_ := Option.some.inj (A3.out.symm.trans v30_3); simp only [Prod.mk.injEq] at q_; obtain ⟨rfl, rfl, rfl⟩ := q_; have q_ := Option.some.inj (A4.out.symm.trans v30_4); simp only [Prod.mk.injEq] at q_; obtain ⟨rfl, rfl⟩ := q_; have q_ := Option.some.inj (A24.out.symm.trans v30_24); subst q_; exact c28 (by decide +kernel)
              · exfalso; have q_ := Option.some.inj (A1.out.symm.trans v30_1); simp only [Prod.mk.injEq] at q_; obtain ⟨rfl, rfl, rfl⟩ := q_; have q_ := Option.some.inj (A2.out.symm.trans v30_2); simp only [Prod.mk.injEq] at q_; obtain ⟨rfl, rfl⟩ := q_; have q_ := Option.some.inj (A3.out.symm.trans v30_3); simp only [Prod.mk.injEq] at q_; obtain ⟨rfl, rfl, rfl⟩ := q_; have q_ := Option.some.inj (A4.out.symm.trans v30_4); simp only [Prod.mk.injEq] at q_; obtain ⟨rfl, rfl⟩ := q_; have q_ := Option.some.inj (A24.out.symm.trans v30_24); subst q_; exact c27 (by decide +kernel)
            · exfalso; have q_ := Option.some.inj (A1.out.symm.trans v30_1); simp only [Prod.mk.injEq] at q_; obtain ⟨rfl, rfl, rfl⟩ := q_; have q_ := Option.some.inj (A2.out.symm.trans v30_2); simp only [Prod.mk.injEq] at q_; obtain ⟨rfl, rfl⟩ := q_; have q_ := Option.some.inj (A3.out.symm.trans v30_3); simp only [Prod.mk.injEq] at q_; obtain ⟨rfl, rfl, rfl⟩ := q_; have q_ := Option.some.inj (A4.out.symm.trans v30_4); simp only [Prod.mk.injEq] at q_; obtain ⟨rfl, rfl⟩ := q_; have q_ := Option.some.inj (A24.out.symm.trans v30_24); subst q_; exact c26 (by decide +kernel)
          · exfalso; have q_ := Option.some.inj (A1.out.symm.trans v30_1); simp only [Prod.mk.injEq] at q_; obtain ⟨rfl, rfl, rfl⟩ := q_; have q_ := Option.some.inj (A2.out.symm.trans v30_2); simp only [Prod.mk.injEq] at q_; obtain ⟨rfl, rfl⟩ := q_; have q_ := Option.some.inj (A3.out.symm.trans v30_3); simp only [Prod.mk.injEq] at q_; obtain ⟨rfl, rfl, rfl⟩ := q_; have q_ := Option.some.inj (A4.out.symm.trans v30_4); simp only [Prod.mk.injEq] at q_; obtain ⟨rfl, rfl⟩ := q_; have q_ := Option.some.inj (A24.out.symm.trans v30_24); subst q_; exact c25 (by decide +kernel)
      · exfalso; have q_ := Option.some.inj (A1.out.symm.trans v30_1); simp only [Prod.mk.injEq] at q_; obtain ⟨rfl, rfl, rfl⟩ := q_; have q_ := Option.some.inj (A2.out.symm.trans v30_2); simp only [Prod.mk.injEq] at q_; obtain ⟨rfl, rfl⟩ := q_; have q_ := Option.some.inj (A3.out.symm.trans v30_3); simp only [Prod.mk.injEq] at q_; obtain ⟨rfl, rfl, rfl⟩ := q_; have q_ := Option.some.inj (A4.out.symm.trans v30_4); simp only [Prod.mk.injEq] at q_; obtain ⟨rfl, rfl⟩ := q_; exact c7 (by decide +kernel)
    · exfalso; have q_ := Option.some.inj (A1.out.symm.trans v30_1); simp only [Prod.mk.injEq] at q_; obtain ⟨rfl, rfl, rfl⟩ := q_; have q_ := Option.some.inj (A2.out.symm.trans v30_2); simp only [Prod.mk.injEq] at q_; obtain ⟨rfl, rfl⟩ := q_; have q_ := Option.some.inj (A3.out.symm.trans v30_3); simp only [Prod.mk.injEq] at q_; obtain ⟨rfl, rfl, rfl⟩ := q_; have q_ := Option.some.inj (A4.out.symm.trans v30_4); simp only [Prod.mk.injEq] at q_; obtain ⟨rfl, rfl⟩ := q_; exact c6 (by decide +kernel)
  · exfalso; have q_ := Option.some.inj (A1.out.symm.trans v30_1); simp only [Prod.mk.injEq] at q_; obtain ⟨rfl, rfl, rfl⟩ := q_; have q_ := Option.some.inj (A2.out.symm.trans v30_2); simp only [Prod.mk.injEq] at q_; obtain ⟨rfl, rfl⟩ := q_; have q_ := Option.some.inj (A3.out.symm.trans v30_3); simp only [Prod.mk.injEq] at q_; obtain ⟨rfl, rfl, rfl⟩ := q_; have q_ := Option.some.inj (A4.out.symm.trans v30_4); simp only [Prod.mk.injEq] at q_; obtain ⟨rfl, rfl⟩ := q_; exact c5 (by decide +kernel)
end Go.Proofs.Ytfjmnaobfbmllaa.M

namespace Go.Proofs.Ytfjmnaobfbmllaa.M
open Go.RowKit Go.Proofs.YtfjmnaobfbmllaaW.PrintWords Go.Proofs.YtfjmnaobfbmllaaW.PrintLast Go.Proofs.YtfjmnaobfbmllaaW.PrintMore
theorem awake3_pure : seneschallaw03_awake.f = some true := by decide +kernel
def awake3.f : Option Bool := some true
theorem awake3.calls (r : Bool) (w : World) (h : awake3.f = some r) : Calls Try.prog 30 #[] w fun e w' => e = .returned (.bool r) ∧ Below w.heap.size w w' :=
  seneschallaw03_awake.calls r w (by rw [awake3_pure]; exact h)
end Go.Proofs.Ytfjmnaobfbmllaa.M
