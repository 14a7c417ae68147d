/- The law SlabReads: it returns true for every input, and its arguments read as they did. No condition. Part 2 of 4. -/
import Derived.Laws.BitsAllLaws
import Derived.Test.YtfjmnaobfbmllaaSlabReadsA0
namespace Go.Proofs.Ytfjmnaobfbmllaa.M
open Go.RowKit Go.Proofs.YtfjmnaobfbmllaaW.PrintWords Go.Proofs.YtfjmnaobfbmllaaW.PrintLast Go.Proofs.YtfjmnaobfbmllaaW.PrintMore
attribute [local go_sem] max2_int min2_int max_two min_two max_three min_three max_four min_four   -- for this text's walks alone
set_option linter.unusedVariables false
set_option linter.unusedSimpArgs false

/-! ### high_Put: function 78 -/
def high_Put.l0 : Nat → Int → Int → List Int → Int → Int → Option (ByteArray)
  | 0, _, _, _, _, _ => none
  | k + 1, x0, x1, x5, x9, x10 => if x10 < x9 then (if 0 ≤ (wrap64 (8 * x10)) then (if 0 ≤ (wrap64 ((wrap64 (x1 - 1)) - x10)) then (if (wrap64 ((wrap64 (x1 - 1)) - x10)) < (x5.length : Int) then (high_Put.l0 k x0 x1 (x5.set ((wrap64 ((wrap64 (x1 - 1)) - x10)) : Int).toNat ((shr .u64 x0 (wrap64 (8 * x10))) % 256)) x9 (wrap64 (x10 + 1))) else (none)) else (none)) else (none)) else (some (strOfNums x5))
def high_Put.f (k : Nat) (a0 : Int) (a1 : Int) : Option (ByteArray) := if 0 ≤ a1 then (if (a1 : Int).toNat ≤ 281474976710656 then (high_Put.l0 k a0 a1 (List.replicate (a1 : Int).toNat 0) a1 0) else (none)) else (none)
set_option maxHeartbeats 8000000 in
set_option maxRecDepth 100000 in
theorem high_Put.calls (k : Nat) (a0 : Int) (a1 : Int) (r : ByteArray) (w : World) (h : high_Put.f k a0 a1 = some r) :
    Calls Try.prog 78 #[.int .u64 a0, .int .i64 a1] w fun e w' => e = .returned (.string r) ∧ Below w.heap.size w w' := by
  have HB := Aside0.mk (Below.refl w.heap.size w)
  have H : (if 0 ≤ a1 then (if (a1 : Int).toNat ≤ 281474976710656 then (high_Put.l0 k a0 a1 (List.replicate (a1 : Int).toNat 0) a1 0) else (none)) else (none)) = some r := h
  clear h
  by_cases c3 : 0 ≤ a1
  · rw [if_pos c3] at H
    have c3b0 := eq_true c3
    have c3b1 : decide (0 ≤ a1) = true := decide_eq_true c3
    clear c3
    by_cases c4 : (a1 : Int).toNat ≤ 281474976710656
    · rw [if_pos c4] at H
      have c4b0 := eq_true c4
      have c4b1 : decide ((a1 : Int).toNat ≤ 281474976710656) = true := decide_eq_true c4
      clear c4
      obtain ⟨y101, hy101⟩ : ∃ y_ : List Int, y_ = (List.replicate (a1 : Int).toNat 0) := ⟨_, rfl⟩
      replace H : (high_Put.l0 k a0 a1 y101 a1 0) = some r := by first | (rw [hy101]; with_reducible exact H) | (have H2_ := (Option.bind_some _ _).symm.trans H; rw [hy101]; with_reducible exact H2_) | (have H2_ := (Option.bind_some _ _).symm.trans H; with_reducible exact H2_) | with_reducible exact H | (rw [hy101]; exact H) | exact H
      have Ny101 := Aside0.mk hy101
      clear hy101
      have H' := Aside0.mk H
      clear H
      go_enter Try.func78, Try.ntmps78
      go_wp2_with (first | ((with_reducible refine gate_dst (N := 8) rfl ?_); refine Kd.R_make (Kd.int .u8) _ 5 rfl (N := 8) rfl 36 _ _ rfl a1 rfl rfl Try.underlying36 (.int .u8 0) 1 info5 rfl (by decide) (by omega) 0 (ok := fun _ => True) (okp := fun _ => True) rfl (fun _ hk => hk) trivial (of_decide_eq_true (by first | (with_reducible assumption) | assumption)) (Nat.le_trans (Nat.mul_le_mul_right _ (of_decide_eq_true (by first | (with_reducible assumption) | assumption) : a1.toNat ≤ 281474976710656)) (by omega)) (Below.refl _ _) (Nat.le_refl _) ?_; intro v102 w5 ho6 hb hg_ hnew_; clear hg_ hnew_; (first | rw [← Ny101.out] at ho6 | (simp only [Int.reduceToNat] at ho6; rw [← Ny101.out] at ho6)); have n0_ := Aside0.mk (Kd.R_lower ho6 (below_size (by repeat (first | (with_reducible first | exact HB.out | apply below_alloc | apply pw_below_drewN | apply below_drew1) | exact HB.out)))); have n1_ := Aside0.mk (below_step (by repeat (first | (with_reducible first | exact HB.out | apply below_alloc | apply pw_below_drewN | apply below_drew1) | exact HB.out)) hb); clear HB; have HO103 := n0_; have HB := n1_; clear n0_ n1_; clear hb ho6))
      go_loopg [10] k (fun kq v10 w' => ∃ (x5_1 : List Int) (x10_1 : Int), v10 = .int .i64 x10_1 ∧ Aside0 (high_Put.l0 kq a0 a1 x5_1 a1 x10_1 = some r) ∧ Aside0 (kq ≤ k) ∧ Aside0 (Kd.R (Kd.int .u8) 5 w' w.heap.size (fun _ => True) v102 x5_1) ∧ Aside0 (Below w.heap.size w w'))
      case atStart => exact ⟨(y101), (0), (by first | rfl | (simp; done) | (simp [*]; done)), H', ⟨Nat.le_refl _⟩, ⟨by (with_reducible repeat (first | apply Kd.R_alloc | apply Kd.R_drewN | apply Kd.R_drew)); exact HO103.out⟩, ⟨by repeat (first | (with_reducible first | exact HB.out | apply below_alloc | apply pw_below_drewN | apply below_drew1) | exact HB.out)⟩⟩
      case round =>
        clear H'
        try clear p2
        try clear c3
        try clear c3b0
        try clear c3b1
        try clear c4
        try clear c4b0
        try clear c4b1
        obtain ⟨x5_1, x10_1, rfl, HA, HK1, HO_5, HB⟩ := hrel
        cases gk with
        | zero => exact absurd HA.out (by simp [high_Put.l0])
        | succ k1 =>
          have H := HA.out
          clear HA
          simp only [high_Put.l0] at H
          by_cases c7 : x10_1 < a1
          · rw [if_pos c7] at H
            have c7b0 : decide (x10_1 < a1) = true := decide_eq_true c7
            clear c7
            obtain ⟨ji8, hji8⟩ : ∃ j_ : Int, (wrap64 (8 * x10_1)) = j_ := ⟨_, rfl⟩
            replace H : (if 0 ≤ (ji8) then (if 0 ≤ (wrap64 ((wrap64 (a1 - 1)) - x10_1)) then (if (wrap64 ((wrap64 (a1 - 1)) - x10_1)) < (x5_1.length : Int) then (high_Put.l0 k1 a0 a1 (x5_1.set ((wrap64 ((wrap64 (a1 - 1)) - x10_1)) : Int).toNat ((shr .u64 a0 (ji8)) % 256)) a1 (wrap64 (x10_1 + 1))) else (none)) else (none)) else (none)) = some r := by first | (rw [hji8] at H; exact H) | (simp only [hji8] at H ⊢; exact H)
            have hji8w : (IntKind.i64.wrap (8 * x10_1)) = ji8 := (i64_w _).trans hji8
            by_cases c9 : 0 ≤ (ji8)
            · rw [if_pos c9] at H
              have c9b0 := eq_true c9
              have c9b1 : decide (0 ≤ (ji8)) = true := decide_eq_true c9
              clear c9
              obtain ⟨ji10, hji10⟩ : ∃ j_ : Int, (shr .u64 a0 (ji8)) = j_ := ⟨_, rfl⟩
              replace H : (if 0 ≤ (wrap64 ((wrap64 (a1 - 1)) - x10_1)) then (if (wrap64 ((wrap64 (a1 - 1)) - x10_1)) < (x5_1.length : Int) then (high_Put.l0 k1 a0 a1 (x5_1.set ((wrap64 ((wrap64 (a1 - 1)) - x10_1)) : Int).toNat ((ji10) % 256)) a1 (wrap64 (x10_1 + 1))) else (none)) else (none)) = some r := by first | (rw [hji10] at H; exact H) | (simp only [hji10] at H ⊢; exact H)
              have hji10_ : (a0 / 2 ^ min (ji8).toNat 64) = ji10 := hji10
              have hji10z : (ji8) ≤ 64 → (a0 / 2 ^ (ji8).toNat) = ji10 := shr_small hji10
              obtain ⟨ji11, hji11⟩ : ∃ j_ : Int, (wrap64 ((wrap64 (a1 - 1)) - x10_1)) = j_ := ⟨_, rfl⟩
              replace H : (if 0 ≤ (ji11) then (if (ji11) < (x5_1.length : Int) then (high_Put.l0 k1 a0 a1 (x5_1.set ((ji11) : Int).toNat ((ji10) % 256)) a1 (wrap64 (x10_1 + 1))) else (none)) else (none)) = some r := by first | (rw [hji11] at H; exact H) | (simp only [hji11] at H ⊢; exact H)
              have hji11w : (IntKind.i64.wrap ((wrap64 (a1 - 1)) - x10_1)) = ji11 := (i64_w _).trans hji11
              by_cases c12 : 0 ≤ (ji11)
              · rw [if_pos c12] at H
                have c12b0 : decide (0 ≤ (ji11)) = true := decide_eq_true c12
                clear c12
                by_cases c13 : (ji11) < (x5_1.length : Int)
                · rw [if_pos c13] at H
                  have c13b0 : decide ((ji11) < (x5_1.length : Int)) = true := decide_eq_true c13
                  clear c13
                  obtain ⟨y104, hy104⟩ : ∃ y_ : List Int, y_ = (x5_1.set ((ji11) : Int).toNat ((ji10) % 256)) := ⟨_, rfl⟩
                  replace H : (high_Put.l0 k1 a0 a1 y104 a1 (wrap64 (x10_1 + 1))) = some r := by first | (rw [hy104]; with_reducible exact H) | (have H2_ := (Option.bind_some _ _).symm.trans H; rw [hy104]; with_reducible exact H2_) | (have H2_ := (Option.bind_some _ _).symm.trans H; with_reducible exact H2_) | with_reducible exact H | (rw [hy104]; exact H) | exact H
                  have Ny104 := Aside0.mk hy104
                  clear hy104
                  have H' := Aside0.mk H
                  clear H
                  have p14 : 0 ≤ ((ji11) : Int) := of_decide_eq_true (by first | (with_reducible assumption) | assumption)
                  have q14 : ((ji11) : Int) < ((x5_1.length : Int) : Int) := of_decide_eq_true (by first | (with_reducible assumption) | assumption)
                  obtain ⟨go14, co14, eo14, gb14, gl14, cl14, HG14⟩ := Kd.R_form HO_5.out (by omega)
                  (first | cases eo14 | (injection eo14 with ea_ en_ ec_; (first | subst ea_ | (injection ea_ with ea_; subst ea_)); subst ec_; clear en_))
                  have GB14 := Aside0.mk gb14
                  have GG14 := Aside0.mk HG14
                  clear gb14 gl14 HG14
                  obtain ⟨hx14_0, hf14_0⟩ := Kd.R_celln 0 HO_5.out ((ji11) : Int) p14 q14
                  replace p14 := eq_true p14
                  replace q14 := eq_true q14
                  have HP15 := Kd.R_putg HO_5.out ((ji11) : Int) ((ji10) % 256)
                  go_wp2_with (first | ((with_reducible refine gate_store (t := 5) (p := 23) rfl ?_); refine store_event (t := 5) (p := 23) (v := ?vo_w16) (w1 := (wr.setCell ⟨go14, ((ji11) : Int).toNat, none⟩ (.int .u8 ((ji10) % 256)))) ?hg ?ho ?hn ?hr ?_; (case ho => rfl); (case hg => rfl); (case hn => rfl); (case hr => first | (go_simp; done) | (go_simp; rfl)); intro w16 hw; have hg : wr.grownBy w16 (some go14) := (by rw [hw]; exact HP15.2); have hp_ : Kd.R (Kd.int .u8) 5 w16 w.heap.size (fun _ => True) (.slice (some ⟨go14, 0, none⟩) x5_1.length co14) y104 := (by rw [hw, Ny104.out]; exact HP15.1); clear HP15; have n0_ := Aside0.mk (hp_); have n1_ := Aside0.mk ((by rw [hw]; exact below_set (HB.out) GB14.out : Below w.heap.size w w16)); clear HO_5; clear HB; have HO_5 := n0_; have HB := n1_; clear n0_ n1_; clear hg hw hp_))
                  go_roundg k1
                  case measure => have := HK1.out; omega
                  case rel => exact ⟨(y104), (wrap64 (x10_1 + 1)), (by first | rfl | (simp; done) | (simp [*]; done)), H', ⟨by have := HK1.out; omega⟩, ⟨by (with_reducible repeat (first | apply Kd.R_alloc | apply Kd.R_drewN | apply Kd.R_drew)); exact HO_5.out⟩, ⟨by repeat (first | (with_reducible first | exact HB.out | apply below_alloc | apply pw_below_drewN | apply below_drew1) | exact HB.out)⟩⟩
                · rw [if_neg c13] at H
                  exact absurd H (by simp)
              · rw [if_neg c12] at H
                exact absurd H (by simp)
            · rw [if_neg c9] at H
              exact absurd H (by simp)
          · rw [if_neg c7] at H
            have c7b0 : decide (x10_1 < a1) = false := decide_eq_false c7
            clear c7
            obtain rfl := Option.some.inj H
            have hcv17 := own_string (P := Try.prog) Try.underlying36 Try.underlying5 Try.underlying9 (Kd.own_of_R HO_5.out)
            go_wp2
            go_ret
            exact ⟨by first | rfl | (simp [errW_none, errW_some] <;> rfl) | (simp [*, errW_none, errW_some] <;> rfl), by repeat (first | (with_reducible first | exact HB.out | apply below_alloc | apply pw_below_drewN | apply below_drew1) | exact HB.out)⟩
    · rw [if_neg c4] at H
      exact absurd H (by simp)
  · rw [if_neg c3] at H
    exact absurd H (by simp)

end Go.Proofs.Ytfjmnaobfbmllaa.M

namespace Go.Proofs.Ytfjmnaobfbmllaa.M
open Go.RowKit Go.Proofs.YtfjmnaobfbmllaaW.PrintWords Go.Proofs.YtfjmnaobfbmllaaW.PrintLast Go.Proofs.YtfjmnaobfbmllaaW.PrintMore
set_option linter.unusedVariables false
set_option linter.unusedSimpArgs false

/-- n bytes of a number, the highest first. -/
def hiL (n : Nat) (a : Int) : List Int := (List.range n).map fun i => a / 2 ^ (8 * (n - 1 - i)) % 256
theorem hiL_length (n : Nat) (a : Int) : (hiL n a).length = n := by simp [hiL]
def hiP (n i : Nat) (a : Int) : List Int := (List.range n).map fun j => if n ≤ j + i then a / 2 ^ (8 * (n - 1 - j)) % 256 else 0
theorem hiP_set (n i : Nat) (a : Int) (h : i < n) : (hiP n i a).set (n - 1 - i) (a / 2 ^ (8 * i) % 256) = hiP n (i + 1) a := by
  apply List.ext_getElem
  · simp [hiP]
  intro j h1 h2
  simp only [hiP, List.length_set, List.length_map, List.length_range] at h1
  simp only [hiP, List.getElem_set, List.getElem_map, List.getElem_range]
  by_cases e : n - 1 - i = j
  · subst e
    rw [if_pos rfl, if_pos (by omega), show n - 1 - (n - 1 - i) = i by omega]
  · rw [if_neg e]
    by_cases e2 : n ≤ j + i
    · rw [if_pos e2, if_pos (by omega)]
    · rw [if_neg e2, if_neg (by omega)]
theorem put_loop (n : Nat) (hn : n ≤ 8) (a : Int) (d : Nat) : ∀ (k i : Nat), i + d = n → d < k → high_Put.l0 k a n (hiP n i a) n i = some (strOfNums (hiL n a)) := by
  induction d with
  | zero =>
    intro k i hi hk
    obtain ⟨k, rfl⟩ : ∃ m, k = m + 1 := ⟨k - 1, by omega⟩
    simp only [high_Put.l0]
    rw [if_neg (by omega)]
    congr 2
    unfold hiP hiL
    apply List.map_congr_left
    intro j _
    rw [if_pos (by omega)]
  | succ d ih =>
    intro k i hi hk
    obtain ⟨k, rfl⟩ : ∃ m, k = m + 1 := ⟨k - 1, by omega⟩
    simp only [high_Put.l0]
    have hlen : (hiP n i a).length = n := by simp [hiP]
    rw [if_pos (by omega), w64 (8 * (i : Int)) (by omega) (by omega), if_pos (by omega), w64 ((n : Int) - 1) (by omega) (by omega), w64 ((n : Int) - 1 - i) (by omega) (by omega), if_pos (by omega), if_pos (by rw [hlen]; omega),
      w64 ((i : Int) + 1) (by omega) (by omega)]
    have e1 : ((n : Int) - 1 - i).toNat = n - 1 - i := by omega
    have e2 : shr .u64 a (8 * (i : Int)) = a / 2 ^ (8 * i) := by
      unfold shr
      rw [Nat.min_eq_left (by show (8 * (i : Int)).toNat ≤ 64; omega)]
      congr 2
    rw [e1, e2, hiP_set n i a (by omega)]
    have := ih k (i + 1) (by omega) (by omega)
    rwa [show ((i + 1 : Nat) : Int) = (i : Int) + 1 by omega] at this
theorem put_pure (n : Nat) (hn : n ≤ 8) (a : Int) (k : Nat) (hk : 8 < k) : high_Put.f k a n = some (strOfNums (hiL n a)) := by
  unfold high_Put.f
  rw [if_pos (by omega), if_pos (by omega)]
  have e : List.replicate ((n : Int).toNat) (0 : Int) = hiP n 0 a := by
    apply List.ext_getElem
    · simp [hiP]
    intro j h1 h2
    simp only [hiP, List.getElem_map, List.getElem_range, List.getElem_replicate]
    simp at h1
    rw [if_neg (by omega)]
  rw [e]
  exact put_loop n hn a n k 0 (by omega) (by omega)
def highPut.f (a n : Int) : Option ByteArray := if 0 ≤ n ∧ n ≤ 8 then some (strOfNums (hiL n.toNat a)) else none
theorem highPut.calls (a n : Int) (r : ByteArray) (w : World) (h : highPut.f a n = some r) :
    Calls Try.prog 78 #[.int .u64 a, .int .i64 n] w fun e w' => e = .returned (.string r) ∧ Below w.heap.size w w' := by
  unfold highPut.f at h
  split at h
  · rename_i hn
    obtain ⟨m, rfl⟩ := Int.eq_ofNat_of_zero_le hn.1
    exact high_Put.calls 9 a m r w (by rw [put_pure m (by omega) a 9 (by omega)]; simpa using h)
  · cases h
end Go.Proofs.Ytfjmnaobfbmllaa.M

namespace Go.Proofs.Ytfjmnaobfbmllaa.M
open Go.RowKit Go.Proofs.YtfjmnaobfbmllaaW.PrintWords Go.Proofs.YtfjmnaobfbmllaaW.PrintLast Go.Proofs.YtfjmnaobfbmllaaW.PrintMore
set_option linter.unusedVariables false
set_option linter.unusedSimpArgs false

/-- A slot's bytes on a page. -/
def slotB (x : S33) : List Int := if x.f0 then (x.f1.size : Int) :: bytesOf x.f1 else [255]
def slotsB (l : List S33) : List Int := l.flatMap slotB
/-- An image's bytes, ahead of the zeros behind them. -/
def encL (a : Int) (l : List S33) : List Int := hiL 8 a ++ (l.length : Int) :: slotsB l
theorem slotB_length (x : S33) (h : oddS x = false) : (slotB x).length = 1 + x.f1.size := by
  unfold slotB
  by_cases hu : x.f0 = true
  · rw [if_pos hu, List.length_cons, bytesOf_length]; omega
  · rw [if_neg hu]
    unfold oddS at h
    simp [hu] at h
    have h2 := h.1
    have : x.f1.toList.length = 0 := by rw [h2]; rfl
    rw [ByteArray.toList_eq] at this
    simp at this ⊢
    have e : x.f1.size = x.f1.data.size := rfl
    omega

theorem slotsB_take (l : List S33) (i : Nat) (h : i < l.length) : slotsB (l.take (i + 1)) = slotsB (l.take i) ++ slotB l[i] := by
  unfold slotsB
  rw [List.take_succ_eq_append_getElem h, List.flatMap_append]
  simp
theorem slotsB_length (l : List S33) (h : l.any oddS = false) (i : Nat) (hi : i ≤ l.length) : (slotsB (l.take i)).length + sumS (l.drop i) = sumS l := by
  induction i with
  | zero => simp [slotsB]
  | succ i ih =>
    have hlt : i < l.length := by omega
    have h1 := ih (by omega)
    rw [slotsB_take l i hlt, List.length_append, slotB_length _ (by
      rw [List.any_eq_false] at h
      simpa using h l[i] (List.getElem_mem hlt))]
    have := sumS_drop l i hlt
    omega
theorem made_nums (n : Nat) : madeCells #[.int .u8 0] n = (nums .u8 (List.replicate n 0)).toArray := by
  apply Array.ext
  · simp [madeCells, nums]
  intro i h1 h2
  simp [madeCells, nums, Nat.mod_one]
theorem make240 (W : World) : (Instr.makeSlice 36 (.int .i64 0) (.int .i64 240)).run Try.prog W = .ok (.slice (some ⟨W.heap.size, 0, none⟩) 0 240) (W.alloc (.cells (nums .u8 (padL [])).toArray 5)) := by
  obtain ⟨i0, hi, hzz⟩ := Option.map_eq_some_iff.1 info5
  simp only [Prod.mk.injEq] at hzz
  obtain ⟨hz0, hz1, hz2⟩ := hzz
  have h := run_make (P := Try.prog) W 36 5 i0 _ Try.underlying36 hi hz0 .i64 .i64 0 240 (by omega) (by omega) (by rw [hz2]; omega) (by omega)
  have e : madeCells (Value.int .u8 0).cells (Int.toNat 240 * i0.size) = (nums .u8 (padL [])).toArray := by
    rw [hz1]
    exact made_nums 240
  rw [h, e]
  rfl
theorem strOfNums_size (xs : List Int) : (strOfNums xs).size = xs.length := by
  simp [strOfNums, ByteArray.size]
theorem bytesOf_strOfNums (xs : List Int) (h : ∀ x ∈ xs, 0 ≤ x ∧ x ≤ 255) : bytesOf (strOfNums xs) = xs := by
  unfold bytesOf strOfNums
  simp only [List.map_map]
  conv => rhs; rw [← List.map_id xs]
  apply List.map_congr_left
  intro x hx
  have := h x hx
  simp
  omega
theorem hiL_range (n : Nat) (a : Int) : ∀ x ∈ hiL n a, 0 ≤ x ∧ x ≤ 255 := by
  intro x hx
  simp only [hiL, List.mem_map] at hx
  obtain ⟨i, _, rfl⟩ := hx
  omega
def slab_Encode.f (a : Int) (l : List S33) : Option (ByteArray × Int) := if goodP a l = true then some (strOfNums (padL (encL a l)), 0) else some ((⟨#[]⟩ : ByteArray), 1)

set_option maxHeartbeats 4000000 in
set_option maxRecDepth 100000 in
theorem slab_Encode.good (a : Int) (A : Option Addr) (c : Nat) (l : List S33) (w : World) (hr : Kd.C k33 w A l.length l) (hc : l.length ≤ c) (hg : goodP a l = true) :
    Calls Try.prog 32 #[.agg #[.int .i64 a, .slice A l.length c]] w fun e w' => e = .returned (.tuple #[.string (strOfNums (padL (encL a l))), .int .i64 0]) ∧ Below w.heap.size w w' := by
  have hu24 := Try.underlying24
  have hu33 := Try.underlying33
  have hcg : slabGood.f a l = some true := by unfold slabGood.f; rw [hg]
  unfold goodP at hg
  simp only [Bool.and_eq_true, decide_eq_true_eq, Bool.not_eq_true'] at hg
  obtain ⟨⟨⟨⟨⟨ha0, ha1⟩, hl32⟩, hodd⟩, hlast⟩, h240⟩ := hg
  have HR := Aside0.mk hr
  have HC := Aside0.mk hc
  have HG := Aside0.mk hcg
  have HO := Aside0.mk hodd
  have HS := Aside0.mk h240
  clear hr hc hcg hodd hlast h240
  have HB := Aside0.mk (Below.refl w.heap.size w)
  have HHP : Aside0 (highPut.f a 8 = some (strOfNums (hiL 8 a))) := ⟨by unfold highPut.f; rw [if_pos (by omega)]; rfl⟩
  have hwr0 : IntKind.u64.wrap a = a := by rw [IntKind.wrap_u64]; omega
  have HWR := Aside0.mk hwr0
  clear hwr0
  go_enter Try.func32, Try.ntmps32
  go_wp2_with (first | ((with_reducible refine gate_dst (N := 1) rfl ?_); (try (refine gate_guard (by rfl) ?_; dsimp only)); refine box_event ?hg (N := 1) ?hd (cs := #[.int .i64 a, .slice A l.length c]) (t := 24) ?hr ?_; (case hd => rfl); (case hg => rfl); (case hr => first | (go_simp; done) | (go_simp; rfl)); intro g1 hg1 w5 hbox hb; have HBK := Aside0.mk hbox; have n1_ := Aside0.mk (below_step HB.out hb); have HG1 := Aside0.mk (by rw [hg1]; exact HB.out.size : w.heap.size ≤ g1); clear HB; have HB := n1_; clear n1_ hbox hb hg1; have hc0 : w5.cell? ⟨g1, 0, none⟩ = some (.int .i64 a) := (blk_cell HBK.out 0).trans rfl; have hc1 : w5.cell? ⟨g1, 1, none⟩ = some (.slice A l.length c) := (blk_cell HBK.out 1).trans rfl) | ((with_reducible refine gate_callee (f := 34) rfl ?_); refine goesL_ (some 8) rfl rfl Try.func34 (by kernel_rfl) rfl #[.agg #[.int .i64 a, .slice A l.length c]] rfl (by (try simp only [List.map_toArray, List.map_cons, List.map_nil]); first | done | rfl) ?_; (with_reducible refine (slabGood.calls a _ _ l true _ ?side1 ?side2 HG.out).mono ?_); (case side1 => exact Kd.C_below HR.out HB.out); (case side2 => exact HC.out); rintro e w6 ⟨rfl, hb⟩; refine ⟨_, rfl, ?_⟩; have n0_ := Aside0.mk (blk_below (g := g1) HBK.out hb); have n1_ := Aside0.mk (below_step HB.out hb); clear HB HBK hc0 hc1 hb; have HBK := n0_; have HB := n1_; clear n0_ n1_))
  have n0_ := Aside0.mk (blk_drew HBK.out)
  have n1_ := Aside0.mk (below_drew1 HB.out)
  clear HBK HB
  have HBK := n0_
  have HB := n1_
  clear n0_ n1_
  refine start_ (n := 7) (S := fun w' => w'.cell? ⟨g1, 0, none⟩ = some (.int .i64 a)) (ds := []) #[false, false, false, false, false, false, false] (by kernel_rfl) rfl rfl ((blk_cell HBK.out 0).trans rfl) (fun hHeld => ?_)
  generalize w6.drew = w7 at HBK HB hHeld ⊢
  refine pure_ (i := 1) (N := some 11) (v := ?_) (a' := ?_) #[false, true, false, false, false, false, false] rfl rfl (by kernel_rfl) (fun _ _ _ h => h) (Or.inl ⟨by rfl, ?_⟩) ?_ ?_
  rotate_left
  · intro w'
    go_simp
    with_reducible rfl
  rotate_left
  · simp only [Act.put, List.setIfInBounds_toArray, List.set_cons_zero, List.set_cons_succ, i64_w, i32_w]
    rfl
  refine take_ (i := 2) (N := some 12) (v := ?_) (a' := ?_) #[false, true, true, false, false, false, false] rfl rfl (by kernel_rfl) (fun _ _ _ h => h) (Or.inl ⟨by rfl, ?_⟩) hHeld ?_ ?_
  rotate_left
  · intro w' s0
    go_simp
    with_reducible rfl
  rotate_left
  · simp only [Act.put, List.setIfInBounds_toArray, List.set_cons_zero, List.set_cons_succ, i64_w, i32_w]
    rfl
  refine pure_ (i := 3) (N := some 13) (v := ?_) (a' := ?_) #[false, true, true, true, false, false, false] rfl rfl (by kernel_rfl) (fun _ _ _ h => h) (Or.inl ⟨by rfl, ?_⟩) ?_ ?_
  rotate_left
  · intro w'
    go_simp
    with_reducible rfl
  rotate_left
  · simp only [Act.put, List.setIfInBounds_toArray, List.set_cons_zero, List.set_cons_succ, i64_w, i32_w]
    rfl
  rw [HWR.out]
  refine join_ (σ := Nat) 2 #[true, true, true, true, true, false, false] (fun s_ => [(10, .slice (some ⟨s_, 0, none⟩) 0 240), (14, .string (strOfNums (hiL 8 a)))]) (fun (s_ : Nat) w' => w'.cell? ⟨g1, 0, none⟩ = some (.int .i64 a) ∧ Buf w' s_ [] ∧ w'.heap[g1]? = some (.cells #[.int .i64 a, .slice A l.length c] 24 (0, 0)) ∧ w.heap.size ≤ s_ ∧ s_ ≠ g1 ∧ Below w.heap.size w w') ?_ ?_
  rotate_left
  · intro hCont
    refine two_ (i := 0) (j := 4) (Ni := some 10) (Nj := some 14) #[true, true, true, true, false, false, false] #[false, true, true, true, true, false, false] rfl rfl rfl rfl (by kernel_rfl) (by decide) (by decide) (fun K hK => ?_) (fun K hK => ?_)
    · skip
      have hma2 := make240 w7
      refine value_ (w1 := ?_) (v := ?_) (by rfl) rfl ?_ ?_
      rotate_left 2
      · go_simp
        constructor
        · rfl
        · rfl
      clear hma2
      have hsz := blk_lt HBK.out
      have hbW : Below w.heap.size w w7 := HB.out
      obtain ⟨g2, hg2⟩ : ∃ g_, g_ = w7.heap.size := ⟨_, rfl⟩
      have hBf : Aside0 (Buf (w7.alloc (.cells (nums .u8 (padL [])).toArray 5)) g2 []) := ⟨⟨by simp, by rw [hg2]; exact blk_new w7 _⟩⟩
      have n0_ := Aside0.mk (blk_alloc HBK.out (.cells (nums .u8 (padL [])).toArray 5))
      have n1_ := Aside0.mk (below_alloc HB.out (.cells (nums .u8 (padL [])).toArray 5))
      have HG2 := Aside0.mk (by rw [hg2]; exact hbW.size : w.heap.size ≤ g2)
      have HN2 := Aside0.mk (by rw [hg2]; omega : g2 ≠ g1)
      rw [← hg2]
      clear hg2 hsz hbW HBK HB
      generalize w7.alloc (.cells (nums .u8 (padL [])).toArray 5) = w8 at hBf n0_ n1_ ⊢
      have HBK := n0_
      have HB := n1_
      clear n0_ n1_
      refine hK.out _ _ ((blk_cell HBK.out 0).trans rfl) (fun hHeld => ?_)
      clear hK K
      refine norm_ (a' := ?_) ?_ ?_
      rotate_left
      · show Act.put _ (some 10) _ = _
        simp only [Act.put, List.setIfInBounds_toArray, List.set_cons_zero, List.set_cons_succ, i64_w, i32_w]
        rfl
      refine one_ (i := 4) (N := some 14) #[true, true, true, true, true, false, false] rfl rfl (by kernel_rfl) (by decide) (fun K hK => ?_)
      refine goes_ Try.func78 (by kernel_rfl) rfl #[.int .u64 a, .int .i64 8] (by rfl) rfl rfl (by (try simp only [List.map_toArray, List.map_cons, List.map_nil]); first | done | rfl) ?_
      with_reducible refine (highPut.calls a 8 _ _ HHP.out).mono ?_
      rintro e w9 ⟨rfl, hb⟩
      refine ⟨_, rfl, ?_⟩
      have hBf2 := Aside0.mk (Buf.below hBf.out hb)
      clear hBf
      have hBf := hBf2
      clear hBf2
      have n0_ := Aside0.mk (blk_below HBK.out hb)
      have n1_ := Aside0.mk (below_step HB.out hb)
      clear HBK HB hb
      have HBK := n0_
      have HB := n1_
      clear n0_ n1_
      refine hK.out _ _ ((blk_cell HBK.out 0).trans rfl) (fun hHeld => ?_)
      clear hK K
      exact norm_ (by simp only [putAll, Act.put, List.setIfInBounds_toArray, List.set_cons_zero, List.set_cons_succ]) (hCont g2 _ ⟨hHeld, hBf.out, HBK.out, HG2.out, HN2.out, HB.out⟩)

    · skip
      refine goes_ Try.func78 (by kernel_rfl) rfl #[.int .u64 a, .int .i64 8] (by rfl) rfl rfl (by (try simp only [List.map_toArray, List.map_cons, List.map_nil]); first | done | rfl) ?_
      with_reducible refine (highPut.calls a 8 _ _ HHP.out).mono ?_
      rintro e w8 ⟨rfl, hb⟩
      refine ⟨_, rfl, ?_⟩
      have n0_ := Aside0.mk (blk_below HBK.out hb)
      have n1_ := Aside0.mk (below_step HB.out hb)
      clear HBK HB hb
      have HBK := n0_
      have HB := n1_
      clear n0_ n1_
      refine hK.out _ _ ((blk_cell HBK.out 0).trans rfl) (fun hHeld => ?_)
      clear hK K
      refine norm_ (a' := ?_) ?_ ?_
      rotate_left
      · show Act.put _ (some 14) _ = _
        simp only [Act.put, List.setIfInBounds_toArray, List.set_cons_zero, List.set_cons_succ, i64_w, i32_w]
        rfl
      refine one_ (i := 0) (N := some 10) #[true, true, true, true, true, false, false] rfl rfl (by kernel_rfl) (by decide) (fun K hK => ?_)
      have hma2 := make240 w8
      refine value_ (w1 := ?_) (v := ?_) (by rfl) rfl ?_ ?_
      rotate_left 2
      · go_simp
        constructor
        · rfl
        · rfl
      clear hma2
      have hsz := blk_lt HBK.out
      have hbW : Below w.heap.size w w8 := HB.out
      obtain ⟨g2, hg2⟩ : ∃ g_, g_ = w8.heap.size := ⟨_, rfl⟩
      have hBf : Aside0 (Buf (w8.alloc (.cells (nums .u8 (padL [])).toArray 5)) g2 []) := ⟨⟨by simp, by rw [hg2]; exact blk_new w8 _⟩⟩
      have n0_ := Aside0.mk (blk_alloc HBK.out (.cells (nums .u8 (padL [])).toArray 5))
      have n1_ := Aside0.mk (below_alloc HB.out (.cells (nums .u8 (padL [])).toArray 5))
      have HG2 := Aside0.mk (by rw [hg2]; exact hbW.size : w.heap.size ≤ g2)
      have HN2 := Aside0.mk (by rw [hg2]; omega : g2 ≠ g1)
      rw [← hg2]
      clear hg2 hsz hbW HBK HB
      generalize w8.alloc (.cells (nums .u8 (padL [])).toArray 5) = w9 at hBf n0_ n1_ ⊢
      have HBK := n0_
      have HB := n1_
      clear n0_ n1_
      refine hK.out _ _ ((blk_cell HBK.out 0).trans rfl) (fun hHeld => ?_)
      clear hK K
      exact norm_ (by simp only [putAll, Act.put, List.setIfInBounds_toArray, List.set_cons_zero, List.set_cons_succ]) (hCont g2 _ ⟨hHeld, hBf.out, HBK.out, HG2.out, HN2.out, HB.out⟩)

  clear hHeld HBK HB
  rintro g2 w9 ⟨hHeld, h1_, h2_, h3_, h4_, h5_⟩
  have hBf := Aside0.mk h1_
  have HBK := Aside0.mk h2_
  have HG2 := Aside0.mk h3_
  have HN2 := Aside0.mk h4_
  have HB := Aside0.mk h5_
  clear h1_ h2_ h3_ h4_ h5_
  refine norm_ (a' := ?_) ?_ ?_
  rotate_left
  · simp only [putAll, Act.put, List.setIfInBounds_toArray, List.set_cons_zero, List.set_cons_succ]
    rfl
  refine one_ (i := 5) (N := some 15) #[true, true, true, true, true, true, false] rfl rfl (by kernel_rfl) (by decide) (fun K hK => ?_)
  refine step_buf_str (by rfl) (N := 15) rfl _ _ rfl rfl rfl hBf.out rfl (by rw [strOfNums_size, hiL_length]; simp) ?_
  intro w10 hb10 hg10
  rw [List.nil_append, bytesOf_strOfNums _ (hiL_range 8 a), strOfNums_size, hiL_length] at *
  have n0_ := Aside0.mk (blk_grown HBK.out hg10 (by simpa using fun e_ => HN2.out e_.symm))
  have n1_ := Aside0.mk (pw_below_grown HB.out (some g2) HB.out.size hg10 (fun k_ e_ => by cases e_; exact HG2.out))
  have n2_ := Aside0.mk hb10
  clear HBK HB hBf hb10 hg10
  have HBK := n0_
  have HB := n1_
  have hBf := n2_
  clear n0_ n1_ n2_
  refine hK.out _ _ ((blk_cell HBK.out 0).trans rfl) (fun hHeld => ?_)
  clear hK K
  refine norm_ (a' := ?_) ?_ ?_
  rotate_left
  · show Act.put _ (some 15) _ = _
    simp only [Act.put, List.setIfInBounds_toArray, List.set_cons_zero, List.set_cons_succ, i64_w, i32_w]
    rfl
  refine pure_ (i := 6) (N := some 4) (v := ?_) (a' := ?_) #[true, true, true, true, true, true, true] rfl rfl (by kernel_rfl) (fun _ _ _ h => h) (Or.inl ⟨by rfl, ?_⟩) ?_ ?_
  rotate_left
  · intro w'
    go_simp
    with_reducible rfl
  rotate_left
  · simp only [Act.put, List.setIfInBounds_toArray, List.set_cons_zero, List.set_cons_succ, i64_w, i32_w]
    rfl
  refine done_ (by kernel_rfl) ?_
  clear hHeld
  have hc0 : w10.cell? ⟨g1, 0, none⟩ = some (.int .i64 a) := (blk_cell HBK.out 0).trans rfl
  have hc1 : w10.cell? ⟨g1, 1, none⟩ = some (.slice A l.length c) := (blk_cell HBK.out 1).trans rfl
  go_wp2_with (first | ((with_reducible refine gate_dst (N := 22) rfl ?_); refine buf_append1 rfl (N := 22) rfl _ _ rfl (g := g2) (bs := hiL 8 a) (y := (l.length : Int)) rfl rfl hBf.out (by rw [hiL_length]) (by rw [hiL_length]; omega) ?_; intro w12 hbw hgw; have n0_ := Aside0.mk (blk_grown (blk_alloc HBK.out _) hgw (by simpa using fun e_ => HN2.out e_.symm)); have n1_ := Aside0.mk (pw_below_grown (below_alloc HB.out _) (some g2) (Below.size (below_alloc HB.out _)) hgw (fun k_ e_ => by cases e_; exact HG2.out)); have n2_ := Aside0.mk hbw; clear HBK HB hBf hbw hgw hc0 hc1; have HBK := n0_; have HB := n1_; have hBf := n2_; clear n0_ n1_ n2_; have hc0 : w12.cell? ⟨g1, 0, none⟩ = some (.int .i64 a) := (blk_cell HBK.out 0).trans rfl; have hc1 : w12.cell? ⟨g1, 1, none⟩ = some (.slice A l.length c) := (blk_cell HBK.out 1).trans rfl))
  go_loopg [4, 26] l.length (fun gg v4 v26 wr => ∃ k n : Nat, k ≤ l.length ∧ l.length - k ≤ gg ∧ v26 = .int .i64 k ∧ v4 = .slice (some ⟨g2, 0, none⟩) n 240 ∧ Aside0 (n = (hiL 8 a ++ (l.length : Int) :: slotsB (l.take k)).length) ∧ Aside0 (Buf wr g2 (hiL 8 a ++ (l.length : Int) :: slotsB (l.take k))) ∧ Aside0 (wr.heap[g1]? = some (.cells #[.int .i64 a, .slice A l.length c] 24 (0, 0))) ∧ Aside0 (Below w.heap.size w wr))
  case atStart => exact ⟨0, 9, Nat.zero_le _, by omega, rfl, rfl, ⟨by simp [hiL_length, slotsB]⟩, ⟨by simpa [slotsB] using hBf.out⟩, HBK, HB⟩
  case round =>
    clear hc0 hc1 hBf HBK HB
    obtain ⟨k, n, hk, hgk, rfl, rfl, hN0, hBf0, HBK, HB⟩ := hrel
    by_cases hlt : k < l.length
    · have p0 : 0 ≤ (k : Int) := by omega
      have q0 : (k : Int) < (l.length : Int) := by omega
      obtain ⟨ad, e0, hx0, hx1⟩ := at_T33 HR.out (k : Int) p0 q0
      cases e0
      replace hx0 := (HB.out.cell (World.block_lt_of_cell? w _ hx0)).trans hx0
      replace hx1 := (HB.out.cell (World.block_lt_of_cell? w _ hx1)).trans hx1
      rw [Int.toNat_natCast, rd33 l k hlt] at hx0 hx1
      have hoddx : oddS l[k] = false := by
        have h_ := HO.out
        rw [List.any_eq_false] at h_
        simpa using h_ l[k] (List.getElem_mem hlt)
      have hlen0 := slotsB_length l HO.out k hk
      have hsd := sumS_drop l k hlt
      have hraw := HS.out
      unfold rawSize at hraw
      have HL : Aside0 (n + 1 + l[k].f1.size ≤ 240) := ⟨by have h_ := hN0.out; simp only [List.length_append, List.length_cons, hiL_length] at h_; omega⟩
      have HE : Aside0 (slotsB (l.take (k + 1)) = slotsB (l.take k) ++ slotB l[k]) := ⟨slotsB_take l k hlt⟩
      clear hlen0 hsd hraw
      have hsz : l[k].f1.size ≤ 200 := by
        unfold oddS at hoddx; simp at hoddx; omega
      generalize l[k] = x at hx0 hx1 hoddx HL HE hsz
      obtain ⟨bs, hbs⟩ : ∃ b_, b_ = hiL 8 a ++ (l.length : Int) :: slotsB (l.take k) := ⟨_, rfl⟩
      have hN := hN0
      have hBf := hBf0
      rw [← hbs] at hN hBf
      clear hN0 hBf0
      have HL2 := HL
      rw [hN.out] at HL2
      clear HL
      have HL := HL2
      clear HL2
      have HBS := Aside0.mk hbs
      clear hbs
      cases hu : x.f0 with
      | true =>
        rw [hu] at hx0
        have HU := Aside0.mk hu
        have HES : Aside0 (hiL 8 a ++ (l.length : Int) :: slotsB (l.take (k + 1)) = (bs ++ [(x.f1.size : Int)]) ++ bytesOf x.f1) := ⟨by rw [HE.out, HBS.out]; simp [slotB, hu]⟩
        clear hu hoddx HE
        go_wp2_with (first | ((with_reducible refine gate_dst (N := 6) rfl ?_); refine box_event ?hg (N := 6) ?hd (cs := #[.bool false, .string (⟨#[]⟩ : ByteArray)]) (t := 33) ?hr ?_; (case hd => rfl); (case hg => rfl); (case hr => first | (go_simp; done) | (go_simp; rfl)); intro g3 hg3 w13 hbox hb; have HN3 := Aside0.mk (by rw [hg3]; exact Nat.ne_of_lt (blk_lt hBf.out.2) : g2 ≠ g3); have HN4 := Aside0.mk (by rw [hg3]; exact Nat.ne_of_lt (blk_lt HBK.out) : g1 ≠ g3); have HG3 := Aside0.mk (by rw [hg3]; exact HB.out.size : w.heap.size ≤ g3); have n0_ := Aside0.mk (blk_below HBK.out hb); have n1_ := Aside0.mk (below_step HB.out hb); have n2_ := Aside0.mk (Buf.below hBf.out hb); have HBX := Aside0.mk hbox; clear HBK HB hBf hb hbox hg3; have HBK := n0_; have HB := n1_; have hBf := n2_; clear n0_ n1_ n2_; have hz0 : w13.cell? ⟨g3, 0, none⟩ = some (.bool false) := (blk_cell HBX.out 0).trans rfl; have hz1 : w13.cell? ⟨g3, 1, none⟩ = some (.string (⟨#[]⟩ : ByteArray)) := (blk_cell HBX.out 1).trans rfl; have hf0 := blk_frozen HBX.out 0; have hf1 := blk_frozen HBX.out 1) | ((with_reducible refine gate_store (t := 33) (p := 6) rfl ?_); refine store_event (t := 33) (p := 6) (v := ?vo) (w1 := ((w13.setCell ⟨g3, 0, none⟩ (.bool true)).setCell ⟨g3, 1, none⟩ (.string x.f1))) ?hg ?ho ?hn ?hr ?_; (case ho => rfl); (case hg => rfl); (case hn => rfl); (case hr => first | (go_simp; done) | (go_simp; rfl)); intro w14 hw; have n0_ := Aside0.mk ((congrArg (fun W_ => W_.heap[g1]?) hw).trans (blk_far (p := ⟨g3, _, none⟩) (blk_far (p := ⟨g3, _, none⟩) HBK.out HN4.out _) HN4.out _)); have n1_ : Aside0 (Below w.heap.size w w14) := ⟨by rw [hw]; exact below_set (below_set HB.out HG3.out) HG3.out⟩; have n2_ : Aside0 (Buf w14 g2 bs) := ⟨⟨hBf.out.1, by rw [hw]; exact blk_far (p := ⟨g3, _, none⟩) (blk_far (p := ⟨g3, _, none⟩) hBf.out.2 HN3.out _) HN3.out _⟩⟩; have n3_ : Aside0 (w14.heap[g3]? = some (.cells #[.bool true, .string x.f1] 33 (0, 0))) := ⟨by rw [hw]; exact blk_set (blk_set HBX.out 0 _) 1 _⟩; clear HBK HB hBf HBX hz0 hz1 hf0 hf1 hw; have HBK := n0_; have HB := n1_; have hBf := n2_; have HBX := n3_; clear n0_ n1_ n2_ n3_; have hz0 : w14.cell? ⟨g3, 0, none⟩ = some (.bool true) := (blk_cell HBX.out 0).trans rfl; have hz1 : w14.cell? ⟨g3, 1, none⟩ = some (.string x.f1) := (blk_cell HBX.out 1).trans rfl) | ((with_reducible refine gate_dst (N := 42) rfl ?_); refine buf_append1 rfl (N := 42) rfl _ _ rfl (g := g2) (bs := bs) (y := (x.f1.size : Int)) rfl rfl hBf.out hN.out (by have h1_ := HL.out; omega) ?_; intro w15 hbw hgw; have n0_ := Aside0.mk (blk_grown (blk_alloc HBK.out _) hgw (by simpa using fun e_ => HN2.out e_.symm)); have n1_ := Aside0.mk (pw_below_grown (below_alloc HB.out _) (some g2) (Below.size (below_alloc HB.out _)) hgw (fun k_ e_ => by cases e_; exact HG2.out)); have n2_ := Aside0.mk hbw; have n3_ := Aside0.mk (blk_grown (blk_alloc HBX.out _) hgw (by simpa using fun e_ => HN3.out e_.symm)); clear HBK HB hBf HBX hbw hgw hz0 hz1; have HBK := n0_; have HB := n1_; have hBf := n2_; have HBX := n3_; clear n0_ n1_ n2_ n3_; have hz1 : w15.cell? ⟨g3, 1, none⟩ = some (.string x.f1) := (blk_cell HBX.out 1).trans rfl) | ((with_reducible refine gate_dst (N := 46) rfl ?_); refine buf_append_str rfl (N := 46) rfl _ _ rfl (g := g2) (bs := bs ++ [(x.f1.size : Int)]) (y := x.f1) rfl rfl hBf.out (by rw [List.length_append, ← hN.out]; rfl) (by have h1_ := HL.out; rw [List.length_append, List.length_singleton]; omega) ?_; intro w16 hbw hgw; have n0_ := Aside0.mk (blk_grown (HBK.out) hgw (by simpa using fun e_ => HN2.out e_.symm)); have n1_ := Aside0.mk (pw_below_grown (HB.out) (some g2) (Below.size (HB.out)) hgw (fun k_ e_ => by cases e_; exact HG2.out)); have n2_ := Aside0.mk hbw; clear HBK HB hBf HBX hbw hgw hz1; have HBK := n0_; have HB := n1_; have hBf := n2_; clear n0_ n1_ n2_))
        go_roundg (l.length - (k + 1))
        case measure => omega
        case rel => exact ⟨k + 1, _, by omega, by omega, by go_num, rfl, ⟨by rw [HES.out, hN.out]; simp [bytesOf_length]; omega⟩, ⟨by rw [HES.out]; exact hBf.out⟩, HBK, HB⟩
      | false =>
        rw [hu] at hx0
        have HU := Aside0.mk hu
        have HES : Aside0 (hiL 8 a ++ (l.length : Int) :: slotsB (l.take (k + 1)) = bs ++ [255]) := ⟨by rw [HE.out, HBS.out]; simp [slotB, hu]⟩
        clear hu hoddx HE
        go_wp2_with (first | ((with_reducible refine gate_dst (N := 6) rfl ?_); refine box_event ?hg (N := 6) ?hd (cs := #[.bool false, .string (⟨#[]⟩ : ByteArray)]) (t := 33) ?hr ?_; (case hd => rfl); (case hg => rfl); (case hr => first | (go_simp; done) | (go_simp; rfl)); intro g3 hg3 w13 hbox hb; have HN3 := Aside0.mk (by rw [hg3]; exact Nat.ne_of_lt (blk_lt hBf.out.2) : g2 ≠ g3); have HN4 := Aside0.mk (by rw [hg3]; exact Nat.ne_of_lt (blk_lt HBK.out) : g1 ≠ g3); have HG3 := Aside0.mk (by rw [hg3]; exact HB.out.size : w.heap.size ≤ g3); have n0_ := Aside0.mk (blk_below HBK.out hb); have n1_ := Aside0.mk (below_step HB.out hb); have n2_ := Aside0.mk (Buf.below hBf.out hb); have HBX := Aside0.mk hbox; clear HBK HB hBf hb hbox hg3; have HBK := n0_; have HB := n1_; have hBf := n2_; clear n0_ n1_ n2_; have hz0 : w13.cell? ⟨g3, 0, none⟩ = some (.bool false) := (blk_cell HBX.out 0).trans rfl; have hz1 : w13.cell? ⟨g3, 1, none⟩ = some (.string (⟨#[]⟩ : ByteArray)) := (blk_cell HBX.out 1).trans rfl; have hf0 := blk_frozen HBX.out 0; have hf1 := blk_frozen HBX.out 1) | ((with_reducible refine gate_store (t := 33) (p := 6) rfl ?_); refine store_event (t := 33) (p := 6) (v := ?vo) (w1 := ((w13.setCell ⟨g3, 0, none⟩ (.bool false)).setCell ⟨g3, 1, none⟩ (.string x.f1))) ?hg ?ho ?hn ?hr ?_; (case ho => rfl); (case hg => rfl); (case hn => rfl); (case hr => first | (go_simp; done) | (go_simp; rfl)); intro w14 hw; have n0_ := Aside0.mk ((congrArg (fun W_ => W_.heap[g1]?) hw).trans (blk_far (p := ⟨g3, _, none⟩) (blk_far (p := ⟨g3, _, none⟩) HBK.out HN4.out _) HN4.out _)); have n1_ : Aside0 (Below w.heap.size w w14) := ⟨by rw [hw]; exact below_set (below_set HB.out HG3.out) HG3.out⟩; have n2_ : Aside0 (Buf w14 g2 bs) := ⟨⟨hBf.out.1, by rw [hw]; exact blk_far (p := ⟨g3, _, none⟩) (blk_far (p := ⟨g3, _, none⟩) hBf.out.2 HN3.out _) HN3.out _⟩⟩; have n3_ : Aside0 (w14.heap[g3]? = some (.cells #[.bool false, .string x.f1] 33 (0, 0))) := ⟨by rw [hw]; exact blk_set (blk_set HBX.out 0 _) 1 _⟩; clear HBK HB hBf HBX hz0 hz1 hf0 hf1 hw; have HBK := n0_; have HB := n1_; have hBf := n2_; have HBX := n3_; clear n0_ n1_ n2_ n3_; have hz0 : w14.cell? ⟨g3, 0, none⟩ = some (.bool false) := (blk_cell HBX.out 0).trans rfl; have hz1 : w14.cell? ⟨g3, 1, none⟩ = some (.string x.f1) := (blk_cell HBX.out 1).trans rfl) | ((with_reducible refine gate_dst (N := 35) rfl ?_); refine buf_append1 rfl (N := 35) rfl _ _ rfl (g := g2) (bs := bs) (y := 255) rfl rfl hBf.out hN.out (by have h1_ := HL.out; omega) ?_; intro w15 hbw hgw; have n0_ := Aside0.mk (blk_grown (blk_alloc HBK.out _) hgw (by simpa using fun e_ => HN2.out e_.symm)); have n1_ := Aside0.mk (pw_below_grown (below_alloc HB.out _) (some g2) (Below.size (below_alloc HB.out _)) hgw (fun k_ e_ => by cases e_; exact HG2.out)); have n2_ := Aside0.mk hbw; have n3_ := Aside0.mk (blk_grown (blk_alloc HBX.out _) hgw (by simpa using fun e_ => HN3.out e_.symm)); clear HBK HB hBf HBX hbw hgw hz0 hz1; have HBK := n0_; have HB := n1_; have hBf := n2_; have HBX := n3_; clear n0_ n1_ n2_ n3_; have hz1 : w15.cell? ⟨g3, 1, none⟩ = some (.string x.f1) := (blk_cell HBX.out 1).trans rfl))
        go_roundg (l.length - (k + 1))
        case measure => omega
        case rel => exact ⟨k + 1, _, by omega, by omega, by go_num, rfl, ⟨by rw [HES.out, hN.out]; simp⟩, ⟨by rw [HES.out]; exact hBf.out⟩, HBK, HB⟩
    · have hltz : ¬ (k : Int) < (l.length : Int) := by omega
      obtain rfl : k = l.length := by omega
      have HFT : Aside0 (hiL 8 a ++ (l.length : Int) :: slotsB (l.take l.length) = encL a l) := ⟨by rw [List.take_length]; rfl⟩
      have hn240 : n ≤ 240 := by rw [hN0.out]; exact hBf0.out.1
      have hBf := hBf0
      rw [HFT.out] at hBf
      clear hBf0 hN0
      have hsl := fun (W_ : World) => buf_slice W_ (g := g2) hn240
      have htx := buf_text hBf.out
      go_wp2
      go_ret2
      exact ⟨rfl, HB.out⟩

set_option maxHeartbeats 4000000 in
set_option maxRecDepth 100000 in
theorem slab_Encode.bad (a : Int) (A : Option Addr) (c : Nat) (l : List S33) (w : World) (hr : Kd.C k33 w A l.length l) (hc : l.length ≤ c) (hg : goodP a l = false) :
    Calls Try.prog 32 #[.agg #[.int .i64 a, .slice A l.length c]] w fun e w' => e = .returned (.tuple #[.string (⟨#[]⟩ : ByteArray), .int .i64 1]) ∧ Below w.heap.size w w' := by
  have hu24 := Try.underlying24
  have HG : Aside0 (slabGood.f a l = some false) := ⟨by unfold slabGood.f; rw [hg]⟩
  have HR := Aside0.mk hr
  have HC := Aside0.mk hc
  clear hr hc hg
  have HB := Aside0.mk (Below.refl w.heap.size w)
  go_enter Try.func32, Try.ntmps32
  go_wp2_with (first | ((with_reducible refine gate_dst (N := 1) rfl ?_); (try (refine gate_guard (by rfl) ?_; dsimp only)); refine box_event ?hg (N := 1) ?hd (cs := #[.int .i64 a, .slice A l.length c]) (t := 24) ?hr ?_; (case hd => rfl); (case hg => rfl); (case hr => first | (go_simp; done) | (go_simp; rfl)); intro g1 hg1 w5 hbox hb; have HBK := Aside0.mk hbox; have n1_ := Aside0.mk (below_step HB.out hb); have HG1 := Aside0.mk (by rw [hg1]; exact HB.out.size : w.heap.size ≤ g1); clear HB; have HB := n1_; clear n1_ hbox hb hg1; have hc0 : w5.cell? ⟨g1, 0, none⟩ = some (.int .i64 a) := (blk_cell HBK.out 0).trans rfl; have hc1 : w5.cell? ⟨g1, 1, none⟩ = some (.slice A l.length c) := (blk_cell HBK.out 1).trans rfl) | ((with_reducible refine gate_callee (f := 34) rfl ?_); refine goesL_ (some 8) rfl rfl Try.func34 (by kernel_rfl) rfl #[.agg #[.int .i64 a, .slice A l.length c]] rfl (by (try simp only [List.map_toArray, List.map_cons, List.map_nil]); first | done | rfl) ?_; (with_reducible refine (slabGood.calls a _ _ l false _ ?side1 ?side2 HG.out).mono ?_); (case side1 => exact Kd.C_below HR.out HB.out); (case side2 => exact HC.out); rintro e w6 ⟨rfl, hb⟩; refine ⟨_, rfl, ?_⟩; have n0_ := Aside0.mk (blk_below (g := g1) HBK.out hb); have n1_ := Aside0.mk (below_step HB.out hb); clear HB HBK hc0 hc1 hb; have HBK := n0_; have HB := n1_; clear n0_ n1_))
  go_ret2
  exact ⟨rfl, HB.out⟩
theorem slab_Encode.calls (a : Int) (A : Option Addr) (c : Nat) (l : List S33) (r1 : ByteArray) (r2 : Int) (w : World) (hr : Kd.C k33 w A l.length l) (hc : l.length ≤ c) (h : slab_Encode.f a l = some (r1, r2)) :
    Calls Try.prog 32 #[.agg #[.int .i64 a, .slice A l.length c]] w fun e w' => e = .returned (.tuple #[.string r1, .int .i64 r2]) ∧ Below w.heap.size w w' := by
  unfold slab_Encode.f at h
  cases hg : goodP a l with
  | true =>
    rw [hg] at h
    simp at h
    obtain ⟨rfl, rfl⟩ := h
    exact slab_Encode.good a A c l w hr hc hg
  | false =>
    rw [hg] at h
    simp at h
    obtain ⟨rfl, rfl⟩ := h
    exact slab_Encode.bad a A c l w hr hc hg
end Go.Proofs.Ytfjmnaobfbmllaa.M

namespace Go.Proofs.Ytfjmnaobfbmllaa.M
open Go.RowKit Go.Proofs.YtfjmnaobfbmllaaW.PrintWords Go.Proofs.YtfjmnaobfbmllaaW.PrintLast Go.Proofs.YtfjmnaobfbmllaaW.PrintMore
set_option linter.unusedVariables false
set_option linter.unusedSimpArgs false

theorem ba_inj {x y : ByteArray} : x.toList = y.toList ↔ x = y := by
  constructor
  · intro h
    rw [ByteArray.toList_eq, ByteArray.toList_eq] at h
    cases x; cases y
    congr
    exact Array.toList_inj.mp h
  · rintro rfl; rfl
theorem ba_beq (x y : ByteArray) : (x.toList == y.toList) = decide (x = y) := by
  rw [Bool.eq_iff_iff]; simp [ba_inj]
theorem ba_nil (x : ByteArray) : x.toList = [] ↔ x = ⟨#[]⟩ := by
  rw [← ba_inj (y := ⟨#[]⟩)]; simp [ByteArray.toList_eq]
theorem s33_ext (x y : S33) : x = y ↔ x.f0 = y.f0 ∧ x.f1 = y.f1 := by cases x; cases y; simp
instance decS33 : DecidableEq S33 := fun x y => decidable_of_iff (x.f0 = y.f0 ∧ x.f1 = y.f1) (s33_ext x y).symm
theorem s33_beq (x y : S33) : (x.f0 == y.f0 && (x.f1.toList == y.f1.toList)) = decide (x = y) := by
  rw [Bool.eq_iff_iff]; simp [ba_inj, s33_ext]
theorem s33_ne (x y : S33) : ((!(x.f0 == y.f0) || (!(x.f1.toList == y.f1.toList))) = true) ↔ x ≠ y := by
  have := s33_beq x y
  rw [← Bool.not_and, this]; simp

/-! ### an image's slot -/
def slotL (l : List S33) (i : Nat) : S33 := l.getD i z33
def atP (a : Int) (l : List S33) (i : Int) : S33 := if goodP a l = true ∧ 0 ≤ i then slotL l i.toNat else z33
theorem slot_lt (l : List S33) (i : Nat) (h : i < l.length) : slotL l i = l[i] := by
  simp [slotL, List.getD_eq_getElem?_getD, List.getElem?_eq_getElem h]
theorem slot_ge (l : List S33) (i : Nat) (h : l.length ≤ i) : slotL l i = z33 := by
  simp [slotL, List.getD_eq_getElem?_getD, List.getElem?_eq_none h]
/-- A slot that can be. -/
def fineS (x : S33) : Prop := (x.f0 = false → x = z33) ∧ x.f1.size ≤ 200
theorem odd_fine (x : S33) : oddS x = false ↔ fineS x := by
  unfold oddS fineS
  rw [Bool.or_eq_false_iff, Bool.and_eq_false_iff, decide_eq_false_iff_not, Nat.not_lt]
  refine and_congr ?_ Iff.rfl
  rw [s33_ext]
  cases hx : x.f0 with
  | true => simp
  | false => simp [z33, ba_nil]
theorem fine_z : fineS z33 := ⟨fun _ => rfl, by simp [z33, ByteArray.size]⟩
theorem any_fine (l : List S33) : l.any oddS = false ↔ ∀ x ∈ l, fineS x := by
  rw [List.any_eq_false]
  exact forall_congr' fun x => imp_congr_right fun _ => by rw [← odd_fine]; simp
theorem slot_fine (l : List S33) (h : ∀ x ∈ l, fineS x) (i : Nat) : fineS (slotL l i) := by
  by_cases hi : i < l.length
  · rw [slot_lt l i hi]; exact h _ (List.getElem_mem hi)
  · rw [slot_ge l i (by omega)]; exact fine_z

/-! ### canonical images -/
theorem slot_trim (xs : List S33) (h : ∀ x ∈ xs, fineS x) (i : Nat) : slotL (trimS xs) i = slotL xs i := by
  have H : ∀ n (xs : List S33), xs.length = n → (∀ x ∈ xs, fineS x) → slotL (trimS xs) i = slotL xs i := by
    intro n
    induction n with
    | zero => intro xs h _; rw [List.eq_nil_of_length_eq_zero h]; rfl
    | succ n ih =>
      intro xs h hf
      obtain ⟨ys, y, rfl, _, _, hl⟩ := snoc_of xs (by omega)
      cases hy : y.f0 with
      | true => rw [trim_snoc_used ys y hy]
      | false =>
        rw [trim_snoc_free ys y hy, ih ys (by omega) (fun x hx => hf x (by simp [hx]))]
        have hz := (hf y (by simp)).1 hy
        subst hz
        by_cases hi : i < ys.length
        · rw [slot_lt _ _ hi, slot_lt _ _ (by simp; omega), List.getElem_append_left hi]
        · rw [slot_ge _ _ (by omega)]
          by_cases hi2 : i = ys.length
          · subst hi2; rw [slot_lt _ _ (by simp)]; simp
          · rw [slot_ge _ _ (by simp; omega)]
  exact H _ xs rfl h
theorem lastUsed_get (l : List S33) (h : lastUsed l = true) (hl : 0 < l.length) : (slotL l (l.length - 1)).f0 = true := by
  rw [slot_lt l _ (by omega), ← last33 l hl]; exact h
theorem canon (l m : List S33) (hl : lastUsed l = true) (hm : lastUsed m = true) (h : ∀ i, slotL l i = slotL m i) : l = m := by
  have key : ∀ (l m : List S33), lastUsed l = true → (∀ i, slotL l i = slotL m i) → l.length ≤ m.length := by
    intro l m hl h
    rcases Nat.lt_or_ge m.length l.length with hlt | hge
    · have h1 := lastUsed_get l hl (by omega)
      rw [h, slot_ge m _ (by omega)] at h1
      cases h1
    · exact hge
  have e : l.length = m.length := Nat.le_antisymm (key l m hl h) (key m l hm (fun i => (h i).symm))
  refine List.ext_getElem e fun i h1 h2 => ?_
  have := h i
  rwa [slot_lt l i h1, slot_lt m i h2] at this

/-! ### puts -/
theorem ext_len (l : List S33) (n : Nat) : (extS l n).length = max l.length n := by unfold extS; simp; omega
theorem slot_ext (l : List S33) (n i : Nat) : slotL (extS l n) i = slotL l i := by
  unfold extS
  by_cases hi : i < l.length
  · rw [slot_lt _ _ (by simp; omega), slot_lt _ _ hi, List.getElem_append_left hi]
  · rw [slot_ge l i (by omega)]
    by_cases hi2 : i < (l ++ List.replicate (n - l.length) z33).length
    · rw [slot_lt _ _ hi2, List.getElem_append_right (by omega)]; simp
    · rw [slot_ge _ _ (by omega)]
theorem slot_set (l : List S33) (s i : Nat) (x : S33) (h : s < l.length) : slotL (l.set s x) i = if i = s then x else slotL l i := by
  unfold slotL
  rw [List.getD_eq_getElem?_getD, List.getElem?_set]
  by_cases e : s = i
  · subst e; simp [h]
  · rw [if_neg e, if_neg (fun he => e he.symm), List.getD_eq_getElem?_getD]
theorem ext_fine (l : List S33) (n : Nat) (h : ∀ x ∈ l, fineS x) : ∀ x ∈ extS l n, fineS x := by
  intro x hx
  unfold extS at hx
  rw [List.mem_append, List.mem_replicate] at hx
  rcases hx with hx | hx
  · exact h x hx
  · rw [hx.2]; exact fine_z
theorem set_fine (l : List S33) (s : Nat) (x : S33) (h : ∀ y ∈ l, fineS y) (hx : fineS x) : ∀ y ∈ l.set s x, fineS y := by
  intro y hy
  rcases List.mem_or_eq_of_mem_set hy with hy | rfl
  · exact h y hy
  · exact hx
theorem put_fine (l : List S33) (s : Nat) (x : S33) (h : ∀ y ∈ l, fineS y) (hx : fineS x) : ∀ y ∈ putL l s x, fineS y := fun y hy => set_fine _ _ _ (ext_fine l _ h) hx y (trim_sub _ y hy)
theorem put_slot (l : List S33) (s i : Nat) (x : S33) (h : ∀ y ∈ l, fineS y) (hx : fineS x) : slotL (putL l s x) i = if i = s then x else slotL l i := by
  unfold putL
  rw [slot_trim _ (set_fine _ _ _ (ext_fine l _ h) hx), slot_set _ _ _ _ (by rw [ext_len]; omega), slot_ext]
theorem put_len (l : List S33) (s : Nat) (x : S33) : (putL l s x).length ≤ max l.length (s + 1) := by
  unfold putL
  refine Nat.le_trans (trim_length _) ?_
  rw [List.length_set, ext_len]; omega
theorem put_last (l : List S33) (s : Nat) (x : S33) : lastUsed (putL l s x) = true := trim_last _
theorem put_put (l : List S33) (s : Nat) (x y : S33) (h : ∀ y ∈ l, fineS y) (hx : fineS x) (hy : fineS y) (hl : lastUsed l = true) (he : y = slotL l s) : putL (putL l s x) s y = l := by
  refine canon _ _ (put_last _ _ _) hl fun i => ?_
  rw [put_slot _ _ _ _ (put_fine l s x h hx) hy, put_slot _ _ _ _ h hx]
  by_cases e : i = s
  · rw [if_pos e, he, e]
  · rw [if_neg e, if_neg e]

theorem trim_id (xs : List S33) (h : lastUsed xs = true) : trimS xs = xs := by
  rcases List.eq_nil_or_concat xs with rfl | ⟨ys, y, rfl⟩
  · rfl
  · rw [List.concat_eq_append] at h ⊢
    exact trim_snoc_used ys y (by simpa [lastUsed] using h)
/-- What is put, used, leaves nothing to trim. -/
theorem put_used (l : List S33) (s : Nat) (x : S33) (hl : lastUsed l = true) (hx : x.f0 = true) : putL l s x = (extS l (s + 1)).set s x := by
  unfold putL
  refine trim_id _ ?_
  have hs : s < (extS l (s + 1)).length := by rw [ext_len]; omega
  have hp : 0 < ((extS l (s + 1)).set s x).length := by rw [List.length_set]; omega
  rw [last33 _ hp]
  have e : ((extS l (s + 1)).set s x)[((extS l (s + 1)).set s x).length - 1] = slotL ((extS l (s + 1)).set s x) (((extS l (s + 1)).set s x).length - 1) := (slot_lt _ _ (by omega)).symm
  rw [e, slot_set _ _ _ _ hs, List.length_set, ext_len, slot_ext]
  split
  · exact hx
  · rename_i hne
    have : max l.length (s + 1) - 1 = l.length - 1 := by omega
    rw [this]
    exact lastUsed_get l hl (by omega)
theorem sumS_append (l m : List S33) : sumS (l ++ m) = sumS l + sumS m := by
  induction l with
  | nil => simp [sumS]
  | cons x l ih => simp only [List.cons_append, sumS, ih]; omega
theorem sumS_zeros (n : Nat) : sumS (List.replicate n z33) = n := by
  induction n with
  | zero => rfl
  | succ n ih => rw [List.replicate_succ]; show 1 + 0 + sumS (List.replicate n z33) = n + 1; omega
theorem sumS_set (l : List S33) (s : Nat) (x : S33) (h : s < l.length) : sumS (l.set s x) + l[s].f1.size = sumS l + x.f1.size := by
  induction l generalizing s with
  | nil => simp at h
  | cons y l ih =>
    cases s with
    | zero => simp [sumS]; omega
    | succ s =>
      have := ih s (by simpa using h)
      simp only [List.set_cons_succ, sumS, List.getElem_cons_succ]
      omega
theorem sumS_ext (l : List S33) (n : Nat) : sumS (extS l n) = sumS l + (n - l.length) := by
  unfold extS; rw [sumS_append, sumS_zeros]
theorem put_sum (l : List S33) (s : Nat) (x : S33) (hl : lastUsed l = true) (hx : x.f0 = true) : sumS (putL l s x) + (slotL l s).f1.size = sumS l + (s + 1 - l.length) + x.f1.size := by
  have hs : s < (extS l (s + 1)).length := by rw [ext_len]; omega
  have := sumS_set (extS l (s + 1)) s x hs
  rw [sumS_ext] at this
  rw [put_used l s x hl hx, ← slot_ext l (s + 1) s, slot_lt _ _ hs]
  exact this
theorem good_iff (a : Int) (l : List S33) : goodP a l = true ↔ 0 ≤ a ∧ a ≤ 1099511627776 ∧ l.length ≤ 32 ∧ (∀ x ∈ l, fineS x) ∧ lastUsed l = true ∧ rawSize l ≤ 240 := by
  unfold goodP
  rw [← any_fine]
  simp [and_assoc]
theorem put_len32 (l : List S33) (s : Nat) (x : S33) (hl : l.length ≤ 32) (hs : s < 32) : (putL l s x).length ≤ 32 := by
  have := put_len l s x; omega
theorem bad_fine (x : S33) (hb : badS x = false) (hs : x.f1.size ≤ 200) : fineS x := by
  rw [← odd_fine]; unfold oddS; unfold badS at hb; rw [hb]; simp; omega
theorem fine_bad (x : S33) (h : fineS x) : badS x = false := by
  rw [← odd_fine] at h; unfold oddS at h; unfold badS; simp only [Bool.or_eq_false_iff] at h; exact h.1
/-- What a put that is done tells. -/
theorem put_ok {a : Int} {l : List S33} {s : Int} {x : S33} {q : Int × List S33 × Int} (h : putP a l s x = q) (h0 : q.2.2 = 0) :
    goodP a l = true ∧ 0 ≤ s ∧ s < 32 ∧ fineS x ∧ rawSize (putL l s.toNat x) ≤ 240 ∧ q = (a, putL l s.toNat x, 0) := by
  unfold putP at h
  split at h
  · subst h; cases h0
  · rename_i hn
    split at h
    · subst h; cases h0
    · split at h
      · subst h; cases h0
      · rename_i h2 h3
        simp only [not_or] at hn
        have hb : badS x = false := by simpa using hn.2.2.2
        exact ⟨by simpa using hn.1, by omega, by omega, bad_fine x hb (by omega), by omega, h.symm⟩
theorem put_done {a : Int} {l : List S33} {s : Nat} {x : S33} (hg : goodP a l = true) (hs : s < 32) (hx : fineS x) :
    putP a l s x = if 240 < rawSize (putL l s x) then (0, [], 22) else (a, putL l s x, 0) := by
  rw [putP_ok a l s x hg (by omega) (fine_bad x hx), if_neg (by have := hx.2; omega)]
  rfl
theorem put_good {a : Int} {l : List S33} {s : Nat} {x : S33} (hg : goodP a l = true) (hs : s < 32) (hx : fineS x) (h : rawSize (putL l s x) ≤ 240) : goodP a (putL l s x) = true := by
  rw [good_iff] at hg ⊢
  exact ⟨hg.1, hg.2.1, put_len32 l s x hg.2.2.1 hs, put_fine l s x hg.2.2.2.1 hx, put_last l s x, h⟩
theorem put_fail {a : Int} {l : List S33} {s : Int} {x : S33} {q : Int × List S33 × Int} (h : putP a l s x = q) (h0 : q.2.2 ≠ 0) : q.1 = 0 ∧ q.2.1 = [] := by
  unfold putP at h
  split at h
  · subst h; exact ⟨rfl, rfl⟩
  · split at h
    · subst h; exact ⟨rfl, rfl⟩
    · split at h
      · subst h; exact ⟨rfl, rfl⟩
      · subst h; exact absurd rfl h0
end Go.Proofs.Ytfjmnaobfbmllaa.M

namespace Go.Proofs.Ytfjmnaobfbmllaa.M
open Go.RowKit Go.Proofs.YtfjmnaobfbmllaaW.PrintWords Go.Proofs.YtfjmnaobfbmllaaW.PrintLast Go.Proofs.YtfjmnaobfbmllaaW.PrintMore
set_option linter.unusedVariables false
set_option linter.unusedSimpArgs false

/-- The number of bytes, the highest first. -/
def getN (bs : List Int) : Int := bs.foldl (fun n b => n * 256 + b) 0
theorem getN_snoc (bs : List Int) (b : Int) : getN (bs ++ [b]) = getN bs * 256 + b := by simp [getN]
theorem getN_take (bs : List Int) (h : ∀ b ∈ bs, 0 ≤ b ∧ b ≤ 255) (i : Nat) (hi : i ≤ bs.length) : 0 ≤ getN (bs.take i) ∧ getN (bs.take i) < 256 ^ i := by
  induction i with
  | zero => simp [getN]
  | succ i ih =>
    have hlt : i < bs.length := by omega
    rw [List.take_succ_eq_append_getElem hlt, getN_snoc]
    have h1 := ih (by omega)
    have h2 := h bs[i] (List.getElem_mem hlt)
    rw [Int.pow_succ]
    omega
theorem bytesOf_range (s : ByteArray) : ∀ b ∈ bytesOf s, 0 ≤ b ∧ b ≤ 255 := by
  intro b hb
  simp only [bytesOf, List.mem_map] at hb
  obtain ⟨x, _, rfl⟩ := hb
  have := x.toNat_lt
  omega
theorem or_low (n b : Nat) (hb : b < 256) : (n * 256) ||| b = n * 256 + b := by
  have := Nat.two_pow_add_eq_or_of_lt (i := 8) (b := b) hb n
  rw [show n * 256 = 2 ^ 8 * n by omega]
  exact this.symm
theorem or_u64 (n b : Int) (h0 : 0 ≤ n) (h1 : n < 72057594037927936) (h2 : 0 ≤ b) (h3 : b ≤ 255) : Go.bits .or .u64 (n * 256) b = n * 256 + b := by
  rw [u64_or _ _ (by omega) (by omega) (by omega) (by omega)]
  obtain ⟨m, rfl⟩ := Int.eq_ofNat_of_zero_le h0
  obtain ⟨c, rfl⟩ := Int.eq_ofNat_of_zero_le h2
  have := or_low m c (by omega)
  rw [show ((m : Int) * 256).toNat = m * 256 by omega, Int.toNat_natCast, this]
  omega
def high_Get.f (s : ByteArray) : Option Int := if s.size ≤ 8 then some (getN (bytesOf s)) else none
set_option maxHeartbeats 2000000 in
theorem high_Get.small (s : ByteArray) (w : World) (hs : s.size ≤ 8) :
    Calls Try.prog 86 #[.string s] w fun e w' => e = .returned (.int .u64 (getN (bytesOf s))) ∧ Below w.heap.size w w' := by
  have kb := fun (W : World) => print_bytes (P := Try.prog) 9 36 5 Try.underlying9 Try.underlying36 Try.underlying5 s W
  have hrd := bytes_reads w 5 s (by omega)
  have hbl := bytes_below (Below.refl w.heap.size w) (Nat.le_refl _) 5 s
  have hlen := bytesOf_length s
  have HRD := Aside0.mk hrd
  have HBL := Aside0.mk hbl
  have HLN := Aside0.mk hlen
  clear hrd hbl hlen
  go_enter Try.func86, Try.ntmps86
  go_wp2
  generalize Lib.bytesWorld w 5 s = w1 at HRD HBL ⊢
  clear kb
  go_loopg [3, 9] s.size (fun gg v3 v9 wr => ∃ k : Nat, k ≤ s.size ∧ s.size - k ≤ gg ∧ v9 = .int .i64 k ∧ v3 = .int .u64 (getN ((bytesOf s).take k)) ∧ Aside0 (wr = w1))
  case atStart => exact ⟨0, Nat.zero_le _, by omega, rfl, rfl, ⟨rfl⟩⟩
  case round =>
    obtain ⟨k, hk, hg, rfl, rfl, HW⟩ := hrel
    obtain rfl := HW.out
    by_cases hlt : k < s.size
    · have q0 : (k : Int) < (s.size : Int) := by omega
      obtain ⟨ad, e0, hx0⟩ := HRD.out.at_ (k : Int) (by omega) q0
      cases e0
      rw [Int.toNat_natCast, add_plain] at hx0
      have hkl : k < (bytesOf s).length := by rw [HLN.out]; exact hlt
      have hrdk : rd (bytesOf s) (k : Int) = (bytesOf s)[k] := by simp [rd, List.getD_eq_getElem?_getD, List.getElem?_eq_getElem hkl]
      rw [hrdk] at hx0
      have hr1 := bytesOf_range s _ (List.getElem_mem hkl)
      have hn1 := getN_take (bytesOf s) (bytesOf_range s) k (by omega)
      have hpow : (256 : Int) ^ k ≤ 72057594037927936 := by
        have : k ≤ 7 := by omega
        have h8 : 256 ^ k ≤ 256 ^ 7 := Nat.pow_le_pow_right (by omega) this
        have e7 : (256 : Nat) ^ 7 = 72057594037927936 := by decide
        have e : (256 : Int) ^ k = ((256 ^ k : Nat) : Int) := by simp
        rw [e]
        omega
      have hn2 : getN ((bytesOf s).take k) < 72057594037927936 := by omega
      have hn0 := hn1.1
      clear hpow hn1
      have hor := or_u64 (getN ((bytesOf s).take k)) ((bytesOf s)[k]) hn0 hn2 hr1.1 hr1.2
      have HSN : Aside0 (getN ((bytesOf s).take (k + 1)) = getN ((bytesOf s).take k) * 256 + (bytesOf s)[k]) := ⟨by rw [List.take_succ_eq_append_getElem hkl, getN_snoc]⟩
      have hr10 := hr1.1
      have hr11 := hr1.2
      clear hr1 hrdk
      generalize (bytesOf s)[k] = b at hx0 hor HSN hr10 hr11
      generalize getN ((bytesOf s).take k) = n at hor HSN hn0 hn2 ⊢
      go_wp2
      go_roundg (s.size - (k + 1))
      case measure => omega
      case rel => exact ⟨k + 1, by omega, by omega, by go_num, by rw [HSN.out], ⟨rfl⟩⟩
    · have hltz : ¬ (k : Int) < (s.size : Int) := by omega
      have HT : Aside0 (getN ((bytesOf s).take k) = getN (bytesOf s)) := ⟨by rw [List.take_of_length_le (by rw [HLN.out]; omega)]⟩
      go_wp2
      go_ret
      exact ⟨by rw [← HT.out]; rfl, HBL.out⟩
theorem high_Get.calls (s : ByteArray) (r : Int) (w : World) (h : high_Get.f s = some r) :
    Calls Try.prog 86 #[.string s] w fun e w' => e = .returned (.int .u64 r) ∧ Below w.heap.size w w' := by
  unfold high_Get.f at h
  split at h
  · rename_i hs
    obtain rfl := Option.some.inj h
    exact high_Get.small s w hs
  · cases h
end Go.Proofs.Ytfjmnaobfbmllaa.M

namespace Go.Proofs.Ytfjmnaobfbmllaa.M
open Go.RowKit Go.Proofs.YtfjmnaobfbmllaaW.PrintWords Go.Proofs.YtfjmnaobfbmllaaW.PrintLast Go.Proofs.YtfjmnaobfbmllaaW.PrintMore
set_option linter.unusedVariables false
set_option linter.unusedSimpArgs false

theorem bt_get (s : ByteArray) (i : Nat) (h : i < s.size) : bt s i = (bytesOf s)[i]'(by rw [bytesOf_length]; exact h) := by
  rw [← rd_bytesOf]
  unfold rd
  rw [Int.toNat_natCast, List.getD_eq_getElem?_getD, List.getElem?_eq_getElem (by rw [bytesOf_length]; exact h)]
  rfl
theorem str_bytes (s : ByteArray) : strOfNums (bytesOf s) = s := by
  cases s with
  | mk d =>
    unfold strOfNums bytesOf
    congr 1
    apply Array.toList_inj.mp
    simp only [List.map_map, List.toList_toArray]
    conv => rhs; rw [← List.map_id d.toList]
    apply List.map_congr_left
    intro x _
    simp
theorem bytes_inj {s t : ByteArray} (h : bytesOf s = bytesOf t) : s = t := by rw [← str_bytes s, h, str_bytes]
theorem bytes_extract (s : ByteArray) (i j : Nat) : bytesOf (s.extract i j) = ((bytesOf s).drop i).take (j - i) := by
  unfold bytesOf
  simp [ByteArray.data_extract, Array.toList_extract, List.map_drop, List.map_take, List.extract]
theorem bytes_drop (s : ByteArray) (i : Nat) : bytesOf (s.extract i s.size) = (bytesOf s).drop i := by
  rw [bytes_extract, List.take_of_length_le (by rw [List.length_drop, bytesOf_length]; omega)]
theorem bytes_nil : bytesOf ⟨#[]⟩ = [] := rfl
theorem drop_step (s : ByteArray) (i : Nat) (h : i < s.size) : (bytesOf s).drop i = bt s i :: (bytesOf s).drop (i + 1) := by
  rw [List.drop_eq_getElem_cons (by rw [bytesOf_length]; exact h), bt_get s i h]
/-! ### eight bytes -/
theorem hiL_succ (n : Nat) (a : Int) : hiL (n + 1) a = hiL n (a / 256) ++ [a % 256] := by
  unfold hiL
  rw [List.range_succ, List.map_append]
  congr 1
  · apply List.map_congr_left
    intro i hi
    rw [List.mem_range] at hi
    have e : 8 * (n + 1 - 1 - i) = 8 + 8 * (n - 1 - i) := by omega
    rw [e, Int.pow_add, ← Int.ediv_ediv_of_nonneg (by decide)]
    rfl
  · simp
theorem hiL_getN (bs : List Int) : ∀ n, bs.length = n → (∀ b ∈ bs, 0 ≤ b ∧ b ≤ 255) → hiL n (getN bs) = bs := by
  intro n
  induction n generalizing bs with
  | zero => intro h _; rw [List.eq_nil_of_length_eq_zero h]; rfl
  | succ n ih =>
    intro h hr
    rcases List.eq_nil_or_concat bs with rfl | ⟨ys, y, rfl⟩
    · simp at h
    · rw [List.concat_eq_append] at h hr ⊢
      have hy := hr y (by simp)
      rw [hiL_succ, getN_snoc, show (getN ys * 256 + y) / 256 = getN ys by omega, show (getN ys * 256 + y) % 256 = y by omega,
        ih ys (by simpa using h) (fun b hb => hr b (by simp [hb]))]
theorem getN_hiL (n : Nat) (a : Int) : getN (hiL n a) = a % 256 ^ n := by
  induction n generalizing a with
  | zero => simp [hiL, getN, Int.emod_one]
  | succ n ih =>
    rw [hiL_succ, getN_snoc, ih, Int.pow_succ]
    have hM : (0 : Int) < 256 ^ n := Int.pow_pos (by decide)
    generalize (256 : Int) ^ n = M at *
    have h1 := Int.emod_add_mul_ediv (a / 256) M
    have h2 := Int.emod_nonneg (a / 256) (by omega : M ≠ 0)
    have h3 := Int.emod_lt_of_pos (a / 256) hM
    generalize a / 256 % M = t at *
    generalize a / 256 / M = k at *
    have e : a = (t * 256 + a % 256) + M * 256 * k := by
      rw [Int.mul_assoc, Int.mul_comm 256 k, ← Int.mul_assoc]; omega
    have h4 : a % (M * 256) = (t * 256 + a % 256 + M * 256 * k) % (M * 256) := congrArg (· % (M * 256)) e
    rw [h4, Int.add_mul_emod_self_left]
    exact (Int.emod_eq_of_lt (by omega) (by omega)).symm
end Go.Proofs.Ytfjmnaobfbmllaa.M

namespace Go.Proofs.Ytfjmnaobfbmllaa.M
open Go.RowKit Go.Proofs.YtfjmnaobfbmllaaW.PrintWords Go.Proofs.YtfjmnaobfbmllaaW.PrintLast Go.Proofs.YtfjmnaobfbmllaaW.PrintMore
attribute [local go_sem] max2_int min2_int max_two min_two max_three min_three max_four min_four   -- for this text's walks alone
set_option linter.unusedVariables false
set_option linter.unusedSimpArgs false

/-! ### seneschalref03_Encode: function 33 -/
set_option maxRecDepth 100000
mutual
def seneschalref03_Encode.l0 : Nat → List Int → Int → Int → List (S33) → Option (ByteArray × Int)
  | 0, _, _, _, _ => none
  | k + 1, x4, x5, x102000, x102001 => if x5 ≥ 0 then (if 0 ≤ x5 then (if x4.length < 140737488355328 then (seneschalref03_Encode.l0 k (x4 ++ [(shr .i64 x102000 x5) % 256]) (wrap64 (x5 - 8)) x102000 x102001) else (none)) else (none)) else (if x4.length < 140737488355328 then (seneschalref03_Encode.l1 k (x4 ++ [((x102001.length : Int)) % 256]) 0 x102000 x102001) else (none))
def seneschalref03_Encode.l1 : Nat → List Int → Int → Int → List (S33) → Option (ByteArray × Int)
  | 0, _, _, _, _ => none
  | k + 1, x4, x6, x102000, x102001 => if x6 < (x102001.length : Int) then (if 0 ≤ x6 then (if ((rd_T33 x102001 x6).f0 = true) then (if x4.length < 140737488355328 then (seneschalref03_Encode.l2 k (x4 ++ [((((rd_T33 x102001 x6).f1).size : Int)) % 256]) x6 0 x102000 x102001) else (none)) else (if x4.length < 140737488355328 then (seneschalref03_Encode.l1 k (x4 ++ [255]) (wrap64 (x6 + 1)) x102000 x102001) else (none))) else (none)) else (seneschalref03_Encode.l3 k x4)
def seneschalref03_Encode.l2 : Nat → List Int → Int → Int → Int → List (S33) → Option (ByteArray × Int)
  | 0, _, _, _, _, _ => none
  | k + 1, x4, x6, x7, x102000, x102001 => if 0 ≤ x6 then (if x6 < (x102001.length : Int) then (if x7 < (((rd_T33 x102001 x6).f1).size : Int) then (if 0 ≤ x7 then (if x4.length < 140737488355328 then (seneschalref03_Encode.l2 k (x4 ++ [bt ((rd_T33 x102001 x6).f1) x7]) x6 (wrap64 (x7 + 1)) x102000 x102001) else (none)) else (none)) else (seneschalref03_Encode.l1 k x4 (wrap64 (x6 + 1)) x102000 x102001)) else (none)) else (none)
def seneschalref03_Encode.l3 : Nat → List Int → Option (ByteArray × Int)
  | 0, _ => none
  | k + 1, x4 => if (x4.length : Int) < 240 then (if x4.length < 140737488355328 then (seneschalref03_Encode.l3 k (x4 ++ [0])) else (none)) else (some (strOfNums x4, 0))
end
def seneschalref03_Encode.f (k : Nat) (a0_0 : Int) (l0_1 : List (S33)) : Option (ByteArray × Int) := (refGood3.f a0_0 l0_1).bind fun t102 => (if t102 = true then (seneschalref03_Encode.l0 k (([] : List Int)) 56 a0_0 l0_1) else (some ((⟨#[]⟩ : ByteArray), 1)))
set_option maxHeartbeats 8000000 in
set_option maxRecDepth 100000 in
theorem seneschalref03_Encode.calls (k : Nat) (a0_0 : Int) (A0_1 : Option Addr) (c0_1 : Nat) (l0_1 : List (S33)) (r1 : ByteArray) (r2 : Int) (w : World) (hr0_1 : Kd.C k33 w A0_1 l0_1.length l0_1) (hc0_1 : l0_1.length ≤ c0_1) (h : seneschalref03_Encode.f k a0_0 l0_1 = some (r1, r2)) :
    Calls Try.prog 33 #[.agg #[.int .i64 a0_0, .slice A0_1 l0_1.length c0_1]] w fun e w' => e = .returned (.tuple #[.string r1, .int .i64 r2]) ∧ Below w.heap.size w w' := by
  have hu24 := Try.underlying24
  have HR0_1 := Aside0.mk hr0_1
  have HC0_1 := Aside0.mk hc0_1
  clear hr0_1 hc0_1
  have HB := Aside0.mk (Below.refl w.heap.size w)
  have H : ((refGood3.f a0_0 l0_1).bind fun t102 => (if t102 = true then (seneschalref03_Encode.l0 k (([] : List Int)) 56 a0_0 l0_1) else (some ((⟨#[]⟩ : ByteArray), 1)))) = some (r1, r2) := h
  clear h
  replace H := Option.bind_eq_some_iff.mp H
  obtain ⟨t102, A20, H⟩ := H
  replace H : (if t102 = true then (seneschalref03_Encode.l0 k (([] : List Int)) 56 a0_0 l0_1) else (some ((⟨#[]⟩ : ByteArray), 1))) = some (r1, r2) := H
  have A2 := Aside0.mk A20
  clear A20
  by_cases c3 : t102 = true
  · subst c3
    have H1 : (seneschalref03_Encode.l0 k (([] : List Int)) 56 a0_0 l0_1) = some (r1, r2) := by rw [if_pos rfl] at H; exact H
    clear H
    have H := H1
    clear H1
    obtain ⟨y103, hy103⟩ : ∃ y_ : List Int, y_ = (([] : List Int)) := ⟨_, rfl⟩
    replace H : (seneschalref03_Encode.l0 k y103 56 a0_0 l0_1) = some (r1, r2) := by first | (rw [hy103]; with_reducible exact H) | (have H2_ := (Option.bind_some _ _).symm.trans H; rw [hy103]; with_reducible exact H2_) | (have H2_ := (Option.bind_some _ _).symm.trans H; with_reducible exact H2_) | with_reducible exact H | (rw [hy103]; exact H) | exact H
    have Ny103 := Aside0.mk hy103
    clear hy103
    have H' := Aside0.mk H
    clear H
    go_enter Try.func33, Try.ntmps33
    go_wp2_with (first | ((with_reducible refine gate_dst (N := 1) rfl ?_); refine box_event ?hg (N := 1) ?hd (cs := #[.int .i64 a0_0, .slice A0_1 l0_1.length c0_1]) (t := 24) ?hr ?_; (case hd => rfl); (case hg => rfl); (case hr => first | (go_simp; done) | (go_simp; rfl)); intro gb101 hg w4 hbox hb; have n0_ := Aside0.mk (below_step (by repeat (first | (with_reducible first | exact HB.out | apply below_alloc | apply pw_below_drewN | apply below_drew1) | exact HB.out)) hb); have n1_ := Aside0.mk (hbox); have n2_ := Aside0.mk ((by rw [hg]; exact (below_size (by repeat (first | (with_reducible first | exact HB.out | apply below_alloc | apply pw_below_drewN | apply below_drew1) | exact HB.out))) : w.heap.size ≤ gb101)); have n3_ := Aside0.mk ((by rw [hg]; exact (below_size (by repeat (first | (with_reducible first | exact HB.out | apply below_alloc | apply pw_below_drewN | apply below_drew1) | exact HB.out))) : w.heap.size ≤ gb101)); clear HB; have HB := n0_; have BK101 := n1_; have GW101 := n2_; have GE101 := n3_; clear n0_ n1_ n2_ n3_; clear hb hbox hg; have hcz5_0 : w4.cell? ⟨gb101, 0, none⟩ = some (.int .i64 a0_0) := (blk_cell BK101.out 0).trans rfl; have hcz5_1 : w4.cell? ⟨gb101, 1, none⟩ = some (.slice A0_1 l0_1.length c0_1) := (blk_cell BK101.out 1).trans rfl; have hfz5_0 := blk_frozen BK101.out 0; have hfz5_1 := blk_frozen BK101.out 1) | ((with_reducible refine gate_callee (f := 35) rfl ?_); refine goesL_ (some 9) rfl rfl Try.func35 (by kernel_rfl) rfl #[.agg #[.int .i64 a0_0, .slice A0_1 l0_1.length c0_1]] rfl (by (try simp only [List.map_toArray, List.map_cons, List.map_nil]); first | done | rfl | (simp only [List.length_drop, List.length_take]; rfl)) ?_; (with_reducible refine (refGood3.calls a0_0 _ _ l0_1 true _ ?side1 ?side2 A2.out).mono ?_); (case side1 => repeat (first | exact (Kd.C_below HR0_1.out HB.out) | (with_reducible refine Kd.C_alloc ?_ _) | (with_reducible refine Kd.C_drewN ?_ _) | (with_reducible refine Kd.C_drew ?_))); (case side2 => exact HC0_1.out); rintro e w6 ⟨rfl, hb⟩; refine ⟨_, rfl, ?_⟩; have n0_ := Aside0.mk (blk_below (g := gb101) (o := .cells #[.int .i64 a0_0, .slice A0_1 l0_1.length c0_1] 24 (0, 0)) (by (with_reducible repeat (first | refine blk_drewN ?_ _ | refine blk_drew ?_ | refine blk_alloc ?_ _)); exact BK101.out) hb); have n1_ := Aside0.mk (below_step (by repeat (first | (with_reducible first | exact HB.out | apply below_alloc | apply pw_below_drewN | apply below_drew1 | refine below_set ?_ GE101.out) | exact HB.out)) hb); clear BK101; clear HB; have BK101 := n0_; have HB := n1_; clear n0_ n1_; (try clear hb); (try clear hb2); (try clear hk); (try clear hi)) | ((with_reducible refine gate_dst (N := 11) rfl ?_); refine Kd.R_lit (Kd.int .u8) _ 5 ?hg (N := 11) ?hd (xs := ([] : List Int)) (inner := []) (ok := fun _ => True) (okp := fun _ => True) ?hr ?hp (fun _ hk => hk) trivial (Below.refl _ _) (Nat.le_refl _) (by simp) ?_; (case hd => rfl); (case hg => rfl); (case hr => first | (go_simp; done) | (go_simp; rfl)); (case hp => exact (Reps.none _ _)); intro v104 w7 ho8 hb hg_ hnew_; clear hg_ hnew_; (first | rw [← Ny103.out] at ho8 | (simp only [Int.reduceToNat] at ho8; rw [← Ny103.out] at ho8)); have n0_ := Aside0.mk (Kd.R_lower ho8 (below_size (by repeat (first | (with_reducible first | exact HB.out | apply below_alloc | apply pw_below_drewN | apply below_drew1 | refine below_set ?_ GE101.out) | exact HB.out)))); have n1_ := Aside0.mk (blk_below (g := gb101) (o := .cells #[.int .i64 a0_0, .slice A0_1 l0_1.length c0_1] 24 (0, 0)) (by (with_reducible repeat (first | refine blk_drewN ?_ _ | refine blk_drew ?_ | refine blk_alloc ?_ _)); exact BK101.out) hb); have n2_ := Aside0.mk (below_step (by repeat (first | (with_reducible first | exact HB.out | apply below_alloc | apply pw_below_drewN | apply below_drew1 | refine below_set ?_ GE101.out) | exact HB.out)) hb); clear BK101; clear HB; have HO105 := n0_; have BK101 := n1_; have HB := n2_; clear n0_ n1_ n2_; clear hb ho8))
    go_loopg [4, 5] k (fun kq v4 v5 w' => ∃ (x4_1 : List Int) (x5_1 : Int), v5 = .int .i64 x5_1 ∧ Aside0 (seneschalref03_Encode.l0 kq x4_1 x5_1 a0_0 l0_1 = some (r1, r2)) ∧ Aside0 (kq ≤ k) ∧ Aside0 (Kd.R (Kd.int .u8) 5 w' w.heap.size (fun _ => True) v4 x4_1) ∧ Aside0 (w'.heap[gb101]? = some (.cells #[.int .i64 a0_0, (.slice A0_1 l0_1.length c0_1)] 24 (0, 0))) ∧ Aside0 (Below w.heap.size w w'))
    case atStart => exact ⟨(y103), (56), (by first | rfl | (simp; done) | (simp [*]; done)), H', ⟨Nat.le_refl _⟩, ⟨by (with_reducible repeat (first | apply Kd.R_alloc | apply Kd.R_drewN | apply Kd.R_drew)); exact HO105.out⟩, ⟨by (with_reducible repeat (first | refine blk_drewN ?_ _ | refine blk_drew ?_ | refine blk_alloc ?_ _)); exact BK101.out⟩, ⟨by repeat (first | (with_reducible first | exact HB.out | apply below_alloc | apply pw_below_drewN | apply below_drew1 | refine below_set ?_ GE101.out) | exact HB.out)⟩⟩
    case round =>
      clear H'
      try clear p2
      try clear c3
      try clear hcz5_0
      try clear hcz5_1
      try clear hfz5_0
      try clear hfz5_1
      obtain ⟨x4_1, x5_1, rfl, HA, HK1, HO_4, BK101, HB⟩ := hrel
      cases gk with
      | zero => exact absurd HA.out (by simp [seneschalref03_Encode.l0])
      | succ k1 =>
        have H := HA.out
        clear HA
        simp only [seneschalref03_Encode.l0] at H
        by_cases c9 : x5_1 ≥ 0
        · rw [if_pos c9] at H
          have c9b0 : decide (0 ≤ x5_1) = true := decide_eq_true c9
          clear c9
          by_cases c10 : 0 ≤ x5_1
          · rw [if_pos c10] at H
            have c10b0 := eq_true c10
            have c10b1 : decide (0 ≤ x5_1) = true := decide_eq_true c10
            clear c10
            obtain ⟨ji11, hji11⟩ : ∃ j_ : Int, (shr .i64 a0_0 x5_1) = j_ := ⟨_, rfl⟩
            replace H : (if x4_1.length < 140737488355328 then (seneschalref03_Encode.l0 k1 (x4_1 ++ [(ji11) % 256]) (wrap64 (x5_1 - 8)) a0_0 l0_1) else (none)) = some (r1, r2) := by first | (rw [hji11] at H; exact H) | (simp only [hji11] at H ⊢; exact H)
            have hji11_ : (a0_0 / 2 ^ min x5_1.toNat 64) = ji11 := hji11
            have hji11z : x5_1 ≤ 64 → (a0_0 / 2 ^ x5_1.toNat) = ji11 := shr_small hji11
            by_cases c12 : x4_1.length < 140737488355328
            · rw [if_pos c12] at H
              have LMc12 := Aside0.mk c12
              clear c12
              obtain ⟨y106, hy106⟩ : ∃ y_ : List Int, y_ = (x4_1 ++ [(ji11) % 256]) := ⟨_, rfl⟩
              replace H : (seneschalref03_Encode.l0 k1 y106 (wrap64 (x5_1 - 8)) a0_0 l0_1) = some (r1, r2) := by first | (rw [hy106]; with_reducible exact H) | (have H2_ := (Option.bind_some _ _).symm.trans H; rw [hy106]; with_reducible exact H2_) | (have H2_ := (Option.bind_some _ _).symm.trans H; with_reducible exact H2_) | with_reducible exact H | (rw [hy106]; exact H) | exact H
              have Ny106 := Aside0.mk hy106
              clear hy106
              have H' := Aside0.mk H
              clear H
              have hcz13_0 : wr.cell? ⟨gb101, 0, none⟩ = some (.int .i64 a0_0) := (blk_cell BK101.out 0).trans rfl
              have hcz13_1 : wr.cell? ⟨gb101, 1, none⟩ = some (.slice A0_1 l0_1.length c0_1) := (blk_cell BK101.out 1).trans rfl
              have hfz13_0 := blk_frozen BK101.out 0
              have hfz13_1 := blk_frozen BK101.out 1
              go_wp2_with (first | ((with_reducible refine gate_builtin (b := .append) (xs := #[.tmp 16, .tmp 22]) rfl ?_); at_builtin; refine Kd.R_append (Kd.int .u8) (w0 := w) w.heap.size rfl (.tmp 16) (.tmp 22) 36 5 (.int .u8 0) 1 rfl Try.underlying36 info5 rfl (by decide) (by omega) u4 x4_1 ((ji11) % 256) [.int .u8 ((ji11) % 256)] (fun _ => True) (fun _ => False) rfl rfl ?aP (fun _ hk => hk.elim) ?aF ?aO ?aB ?aS ?aL ?_; (case aP => exact rfl); (case aB => exact (by repeat (first | (with_reducible first | exact HB.out | apply below_alloc | apply pw_below_drewN | apply below_drew1 | refine below_set ?_ GE101.out) | exact HB.out))); (case aF => exact (fun _ _ => trivial)); (case aO => exact (by (with_reducible repeat (first | apply Kd.R_alloc | apply Kd.R_drewN | apply Kd.R_drew)); exact HO_4.out)); (case aS => exact (below_size (by repeat (first | (with_reducible first | exact HB.out | apply below_alloc | apply pw_below_drewN | apply below_drew1 | refine below_set ?_ GE101.out) | exact HB.out)))); (case aL => have := LMc12.out; omega); intro v107 w14 ho hb hg hat; rw [← Ny106.out] at ho; have n0_ := Aside0.mk (blk_grown (g := gb101) (o := .cells #[.int .i64 a0_0, .slice A0_1 l0_1.length c0_1] 24 (0, 0)) (by (with_reducible repeat (first | refine blk_drewN ?_ _ | refine blk_drew ?_ | refine blk_alloc ?_ _)); exact BK101.out) hg (Kd.R_ne HO_4.out BK101.out (by decide))); have n1_ := Aside0.mk (hb); have n2_ := Aside0.mk (ho); clear BK101; clear HB; clear HO_4; have BK101 := n0_; have HB := n1_; have HO108 := n2_; clear n0_ n1_ n2_; clear ho hb hg hat))
              go_roundg k1
              case measure => have := HK1.out; omega
              case rel => exact ⟨(y106), (wrap64 (x5_1 - 8)), (by first | rfl | (simp; done) | (simp [*]; done)), H', ⟨by have := HK1.out; omega⟩, ⟨by (with_reducible repeat (first | apply Kd.R_alloc | apply Kd.R_drewN | apply Kd.R_drew)); exact HO108.out⟩, ⟨by (with_reducible repeat (first | refine blk_drewN ?_ _ | refine blk_drew ?_ | refine blk_alloc ?_ _)); exact BK101.out⟩, ⟨by repeat (first | (with_reducible first | exact HB.out | apply below_alloc | apply pw_below_drewN | apply below_drew1 | refine below_set ?_ GE101.out) | exact HB.out)⟩⟩
            · rw [if_neg c12] at H
              exact absurd H (by simp)
          · rw [if_neg c10] at H
            exact absurd H (by simp)
        · rw [if_neg c9] at H
          have c9b0 : decide (0 ≤ x5_1) = false := decide_eq_false c9
          clear c9
          by_cases c15 : x4_1.length < 140737488355328
          · rw [if_pos c15] at H
            have LMc15 := Aside0.mk c15
            clear c15
            obtain ⟨y109, hy109⟩ : ∃ y_ : List Int, y_ = (x4_1 ++ [((l0_1.length : Int)) % 256]) := ⟨_, rfl⟩
            replace H : (seneschalref03_Encode.l1 k1 y109 0 a0_0 l0_1) = some (r1, r2) := by first | (rw [hy109]; with_reducible exact H) | (have H2_ := (Option.bind_some _ _).symm.trans H; rw [hy109]; with_reducible exact H2_) | (have H2_ := (Option.bind_some _ _).symm.trans H; with_reducible exact H2_) | with_reducible exact H | (rw [hy109]; exact H) | exact H
            have Ny109 := Aside0.mk hy109
            clear hy109
            have H' := Aside0.mk H
            clear H
            have hcz16_0 : wr.cell? ⟨gb101, 0, none⟩ = some (.int .i64 a0_0) := (blk_cell BK101.out 0).trans rfl
            have hcz16_1 : wr.cell? ⟨gb101, 1, none⟩ = some (.slice A0_1 l0_1.length c0_1) := (blk_cell BK101.out 1).trans rfl
            have hfz16_0 := blk_frozen BK101.out 0
            have hfz16_1 := blk_frozen BK101.out 1
            go_wp2_with (first | ((with_reducible refine gate_builtin (b := .append) (xs := #[.tmp 24, .tmp 29]) rfl ?_); at_builtin; refine Kd.R_append (Kd.int .u8) (w0 := w) w.heap.size rfl (.tmp 24) (.tmp 29) 36 5 (.int .u8 0) 1 rfl Try.underlying36 info5 rfl (by decide) (by omega) u4 x4_1 (((l0_1.length : Int)) % 256) [.int .u8 (((l0_1.length : Int)) % 256)] (fun _ => True) (fun _ => False) rfl rfl ?aP (fun _ hk => hk.elim) ?aF ?aO ?aB ?aS ?aL ?_; (case aP => exact rfl); (case aB => exact (by repeat (first | (with_reducible first | exact HB.out | apply below_alloc | apply pw_below_drewN | apply below_drew1 | refine below_set ?_ GE101.out) | exact HB.out))); (case aF => exact (fun _ _ => trivial)); (case aO => exact (by (with_reducible repeat (first | apply Kd.R_alloc | apply Kd.R_drewN | apply Kd.R_drew)); exact HO_4.out)); (case aS => exact (below_size (by repeat (first | (with_reducible first | exact HB.out | apply below_alloc | apply pw_below_drewN | apply below_drew1 | refine below_set ?_ GE101.out) | exact HB.out)))); (case aL => have := LMc15.out; omega); intro v110 w17 ho hb hg hat; rw [← Ny109.out] at ho; have n0_ := Aside0.mk (blk_grown (g := gb101) (o := .cells #[.int .i64 a0_0, .slice A0_1 l0_1.length c0_1] 24 (0, 0)) (by (with_reducible repeat (first | refine blk_drewN ?_ _ | refine blk_drew ?_ | refine blk_alloc ?_ _)); exact BK101.out) hg (Kd.R_ne HO_4.out BK101.out (by decide))); have n1_ := Aside0.mk (hb); have n2_ := Aside0.mk (ho); clear BK101; clear HB; clear HO_4; have BK101 := n0_; have HB := n1_; have HO111 := n2_; clear n0_ n1_ n2_; clear ho hb hg hat))
            go_loopg [4, 6] k1 (fun kq v4 v6 w' => ∃ (x4_2 : List Int) (x6_2 : Int), v6 = .int .i64 x6_2 ∧ Aside0 (seneschalref03_Encode.l1 kq x4_2 x6_2 a0_0 l0_1 = some (r1, r2)) ∧ Aside0 (kq ≤ k1) ∧ Aside0 (Kd.R (Kd.int .u8) 5 w' w.heap.size (fun _ => True) v4 x4_2) ∧ Aside0 (w'.heap[gb101]? = some (.cells #[.int .i64 a0_0, (.slice A0_1 l0_1.length c0_1)] 24 (0, 0))) ∧ Aside0 (Below w.heap.size w w'))
            case atStart => exact ⟨(y109), (0), (by first | rfl | (simp; done) | (simp [*]; done)), H', ⟨Nat.le_refl _⟩, ⟨by (with_reducible repeat (first | apply Kd.R_alloc | apply Kd.R_drewN | apply Kd.R_drew)); exact HO111.out⟩, ⟨by (with_reducible repeat (first | refine blk_drewN ?_ _ | refine blk_drew ?_ | refine blk_alloc ?_ _)); exact BK101.out⟩, ⟨by repeat (first | (with_reducible first | exact HB.out | apply below_alloc | apply pw_below_drewN | apply below_drew1 | refine below_set ?_ GE101.out) | exact HB.out)⟩⟩
            case round =>
              clear H'
              try clear c1
              try clear p2
              try clear c3
              try clear p6
              try clear c9
              try clear c9b0
              try clear c10
              try clear c10b0
              try clear c10b1
              try clear c12
              try clear c15
              try clear hcz13_0
              try clear hcz13_1
              try clear hcz16_0
              try clear hcz16_1
              try clear hcz5_0
              try clear hcz5_1
              try clear hfz13_0
              try clear hfz13_1
              try clear hfz16_0
              try clear hfz16_1
              try clear hfz5_0
              try clear hfz5_1
              try clear p2
              obtain ⟨x4_2, x6_2, rfl, HA, HK2, HO_4, BK101, HB⟩ := hrel
              cases gk with
              | zero => exact absurd HA.out (by simp [seneschalref03_Encode.l1])
              | succ k2 =>
                have H := HA.out
                clear HA
                simp only [seneschalref03_Encode.l1] at H
                by_cases c18 : x6_2 < (l0_1.length : Int)
                · rw [if_pos c18] at H
                  have c18b0 : decide (x6_2 < (l0_1.length : Int)) = true := decide_eq_true c18
                  clear c18
                  by_cases c19 : 0 ≤ x6_2
                  · rw [if_pos c19] at H
                    have c19b0 : decide (0 ≤ x6_2) = true := decide_eq_true c19
                    clear c19
                    obtain ⟨bq20, hbq20⟩ : ∃ b_ : Bool, b_ = ((rd_T33 l0_1 x6_2).f0) := ⟨_, rfl⟩
                    replace H : (if (bq20 = true) then (if x4_2.length < 140737488355328 then (seneschalref03_Encode.l2 k2 (x4_2 ++ [((((rd_T33 l0_1 x6_2).f1).size : Int)) % 256]) x6_2 0 a0_0 l0_1) else (none)) else (if x4_2.length < 140737488355328 then (seneschalref03_Encode.l1 k2 (x4_2 ++ [255]) (wrap64 (x6_2 + 1)) a0_0 l0_1) else (none))) = some (r1, r2) := by rw [← hbq20] at H; exact H
                    have Nbq20 := Aside0.mk hbq20
                    clear hbq20
                    by_cases c21 : (bq20 = true)
                    · subst c21
                      have H1 : (if x4_2.length < 140737488355328 then (seneschalref03_Encode.l2 k2 (x4_2 ++ [((((rd_T33 l0_1 x6_2).f1).size : Int)) % 256]) x6_2 0 a0_0 l0_1) else (none)) = some (r1, r2) := by rw [if_pos rfl] at H; exact H
                      clear H
                      have H := H1
                      clear H1
                      by_cases c22 : x4_2.length < 140737488355328
                      · rw [if_pos c22] at H
                        have LMc22 := Aside0.mk c22
                        clear c22
                        obtain ⟨y117, hy117⟩ : ∃ y_ : List Int, y_ = (x4_2 ++ [((((rd_T33 l0_1 x6_2).f1).size : Int)) % 256]) := ⟨_, rfl⟩
                        replace H : (seneschalref03_Encode.l2 k2 y117 x6_2 0 a0_0 l0_1) = some (r1, r2) := by first | (rw [hy117]; with_reducible exact H) | (have H2_ := (Option.bind_some _ _).symm.trans H; rw [hy117]; with_reducible exact H2_) | (have H2_ := (Option.bind_some _ _).symm.trans H; with_reducible exact H2_) | with_reducible exact H | (rw [hy117]; exact H) | exact H
                        have Ny117 := Aside0.mk hy117
                        clear hy117
                        have H' := Aside0.mk H
                        clear H
                        have hcz23_0 : wr.cell? ⟨gb101, 0, none⟩ = some (.int .i64 a0_0) := (blk_cell BK101.out 0).trans rfl
                        have hcz23_1 : wr.cell? ⟨gb101, 1, none⟩ = some (.slice A0_1 l0_1.length c0_1) := (blk_cell BK101.out 1).trans rfl
                        have hfz23_0 := blk_frozen BK101.out 0
                        have hfz23_1 := blk_frozen BK101.out 1
                        have p112 : 0 ≤ (x6_2 : Int) := of_decide_eq_true (by first | (with_reducible assumption) | assumption)
                        have q112 : x6_2 < (l0_1.length : Int) := of_decide_eq_true (by first | (with_reducible assumption) | assumption)
                        obtain ⟨ad112, e112, hx112_0, hx112_1⟩ := at_T33 HR0_1.out x6_2 p112 q112
                        (try rw [← Nbq20.out] at hx112_0)
                        cases e112
                        replace hx112_0 := (HB.out.cell (World.block_lt_of_cell? w _ hx112_0)).trans hx112_0
                        replace hx112_1 := (HB.out.cell (World.block_lt_of_cell? w _ hx112_1)).trans hx112_1
                        replace p112 := eq_true p112
                        replace q112 := eq_true q112
                        have p116 : 0 ≤ (x6_2 : Int) := of_decide_eq_true (by first | (with_reducible assumption) | assumption)
                        have q116 : x6_2 < (l0_1.length : Int) := of_decide_eq_true (by first | (with_reducible assumption) | assumption)
                        obtain ⟨ad116, e116, hx116_0, hx116_1⟩ := at_T33 HR0_1.out x6_2 p116 q116
                        (try rw [← Nbq20.out] at hx116_0)
                        obtain rfl : ad112 = ad116 := (by injection e116)
                        replace hx116_0 := (HB.out.cell (World.block_lt_of_cell? w _ hx116_0)).trans hx116_0
                        replace hx116_1 := (HB.out.cell (World.block_lt_of_cell? w _ hx116_1)).trans hx116_1
                        replace p116 := eq_true p116
                        replace q116 := eq_true q116
                        go_wp2_with (first | ((with_reducible refine gate_builtin (b := .append) (xs := #[.tmp 48, .tmp 57]) rfl ?_); at_builtin; refine Kd.R_append (Kd.int .u8) (w0 := w) w.heap.size rfl (.tmp 48) (.tmp 57) 36 5 (.int .u8 0) 1 rfl Try.underlying36 info5 rfl (by decide) (by omega) u4 x4_2 (((((rd_T33 l0_1 x6_2).f1).size : Int)) % 256) [.int .u8 (((((rd_T33 l0_1 x6_2).f1).size : Int)) % 256)] (fun _ => True) (fun _ => False) rfl rfl ?aP (fun _ hk => hk.elim) ?aF ?aO ?aB ?aS ?aL ?_; (case aP => exact rfl); (case aB => exact (by repeat (first | (with_reducible first | exact HB.out | apply below_alloc | apply pw_below_drewN | apply below_drew1 | refine below_set ?_ GE101.out) | exact HB.out))); (case aF => exact (fun _ _ => trivial)); (case aO => exact (by (with_reducible repeat (first | apply Kd.R_alloc | apply Kd.R_drewN | apply Kd.R_drew)); exact HO_4.out)); (case aS => exact (below_size (by repeat (first | (with_reducible first | exact HB.out | apply below_alloc | apply pw_below_drewN | apply below_drew1 | refine below_set ?_ GE101.out) | exact HB.out)))); (case aL => have := LMc22.out; omega); intro v118 w24 ho hb hg hat; rw [← Ny117.out] at ho; have n0_ := Aside0.mk (blk_grown (g := gb101) (o := .cells #[.int .i64 a0_0, .slice (some ad112) l0_1.length c0_1] 24 (0, 0)) (by (with_reducible repeat (first | refine blk_drewN ?_ _ | refine blk_drew ?_ | refine blk_alloc ?_ _)); exact BK101.out) hg (Kd.R_ne HO_4.out BK101.out (by decide))); have n1_ := Aside0.mk (hb); have n2_ := Aside0.mk (ho); clear BK101; clear HB; clear HO_4; have BK101 := n0_; have HB := n1_; have HO119 := n2_; clear n0_ n1_ n2_; clear ho hb hg hat))
                        go_loopg [4, 7] k2 (fun kq v4 v7 w' => ∃ (x4_3 : List Int) (x7_3 : Int), v7 = .int .i64 x7_3 ∧ Aside0 (seneschalref03_Encode.l2 kq x4_3 x6_2 x7_3 a0_0 l0_1 = some (r1, r2)) ∧ Aside0 (kq ≤ k2) ∧ Aside0 (Kd.R (Kd.int .u8) 5 w' w.heap.size (fun _ => True) v4 x4_3) ∧ Aside0 (w'.heap[gb101]? = some (.cells #[.int .i64 a0_0, (.slice (some ad112) l0_1.length c0_1)] 24 (0, 0))) ∧ Aside0 (Below w.heap.size w w'))
                        case atStart => exact ⟨(y117), (0), (by first | rfl | (simp; done) | (simp [*]; done)), H', ⟨Nat.le_refl _⟩, ⟨by (with_reducible repeat (first | apply Kd.R_alloc | apply Kd.R_drewN | apply Kd.R_drew)); exact HO119.out⟩, ⟨by (with_reducible repeat (first | refine blk_drewN ?_ _ | refine blk_drew ?_ | refine blk_alloc ?_ _)); exact BK101.out⟩, ⟨by repeat (first | (with_reducible first | exact HB.out | apply below_alloc | apply pw_below_drewN | apply below_drew1 | refine below_set ?_ GE101.out) | exact HB.out)⟩⟩
                        case round =>
                          clear H'
                          try clear c1
                          try clear p1
                          try clear q1
                          try clear hx1
                          try clear c2
                          try clear p2
                          try clear q2
                          try clear c3
                          try clear p6
                          try clear c9
                          try clear c9b0
                          try clear c10
                          try clear c10b0
                          try clear c10b1
                          try clear p11
                          try clear q11
                          try clear hx11
                          try clear c12
                          try clear c15
                          try clear c18
                          try clear c18b0
                          try clear c19
                          try clear c19b0
                          try clear q20
                          try clear c21
                          try clear c22
                          try clear hcz13_0
                          try clear hcz13_1
                          try clear hcz16_0
                          try clear hcz16_1
                          try clear hcz23_0
                          try clear hcz23_1
                          try clear hcz5_0
                          try clear hcz5_1
                          try clear hfz13_0
                          try clear hfz13_1
                          try clear hfz16_0
                          try clear hfz16_1
                          try clear hfz23_0
                          try clear hfz23_1
                          try clear hfz5_0
                          try clear hfz5_1
                          try clear hx112_0
                          try clear hx112_1
                          try clear hx116_0
                          try clear hx116_1
                          try clear p112
                          try clear p116
                          try clear p2
                          try clear p6
                          try clear q112
                          try clear q116
                          obtain ⟨x4_3, x7_3, rfl, HA, HK3, HO_4, BK101, HB⟩ := hrel
                          cases gk with
                          | zero => exact absurd HA.out (by simp [seneschalref03_Encode.l2])
                          | succ k3 =>
                            have H := HA.out
                            clear HA
                            simp only [seneschalref03_Encode.l2] at H
                            by_cases c25 : 0 ≤ x6_2
                            · rw [if_pos c25] at H
                              have c25b0 : decide (0 ≤ x6_2) = true := decide_eq_true c25
                              clear c25
                              by_cases c26 : x6_2 < (l0_1.length : Int)
                              · rw [if_pos c26] at H
                                have c26b0 : decide (x6_2 < (l0_1.length : Int)) = true := decide_eq_true c26
                                clear c26
                                by_cases c27 : x7_3 < (((rd_T33 l0_1 x6_2).f1).size : Int)
                                · rw [if_pos c27] at H
                                  have c27b0 : decide (x7_3 < (((rd_T33 l0_1 x6_2).f1).size : Int)) = true := decide_eq_true c27
                                  clear c27
                                  by_cases c28 : 0 ≤ x7_3
                                  · rw [if_pos c28] at H
                                    have c28b0 : decide (0 ≤ x7_3) = true := decide_eq_true c28
                                    clear c28
                                    by_cases c30 : x4_3.length < 140737488355328
                                    · rw [if_pos c30] at H
                                      have LMc30 := Aside0.mk c30
                                      clear c30
                                      obtain ⟨y122, hy122⟩ : ∃ y_ : List Int, y_ = (x4_3 ++ [bt ((rd_T33 l0_1 x6_2).f1) x7_3]) := ⟨_, rfl⟩
                                      replace H : (seneschalref03_Encode.l2 k3 y122 x6_2 (wrap64 (x7_3 + 1)) a0_0 l0_1) = some (r1, r2) := by first | (rw [hy122]; with_reducible exact H) | (have H2_ := (Option.bind_some _ _).symm.trans H; rw [hy122]; with_reducible exact H2_) | (have H2_ := (Option.bind_some _ _).symm.trans H; with_reducible exact H2_) | with_reducible exact H | (rw [hy122]; exact H) | exact H
                                      have Ny122 := Aside0.mk hy122
                                      clear hy122
                                      have H' := Aside0.mk H
                                      clear H
                                      have hcz31_0 : wr.cell? ⟨gb101, 0, none⟩ = some (.int .i64 a0_0) := (blk_cell BK101.out 0).trans rfl
                                      have hcz31_1 : wr.cell? ⟨gb101, 1, none⟩ = some (.slice (some ad112) l0_1.length c0_1) := (blk_cell BK101.out 1).trans rfl
                                      have hfz31_0 := blk_frozen BK101.out 0
                                      have hfz31_1 := blk_frozen BK101.out 1
                                      have p120 : 0 ≤ (x6_2 : Int) := of_decide_eq_true (by first | (with_reducible assumption) | assumption)
                                      have q120 : x6_2 < (l0_1.length : Int) := of_decide_eq_true (by first | (with_reducible assumption) | assumption)
                                      obtain ⟨ad120, e120, hx120_0, hx120_1⟩ := at_T33 HR0_1.out x6_2 p120 q120
                                      (try rw [← Nbq20.out] at hx120_0)
                                      obtain rfl : ad112 = ad120 := (by injection e120)
                                      replace hx120_0 := (HB.out.cell (World.block_lt_of_cell? w _ hx120_0)).trans hx120_0
                                      replace hx120_1 := (HB.out.cell (World.block_lt_of_cell? w _ hx120_1)).trans hx120_1
                                      replace p120 := eq_true p120
                                      replace q120 := eq_true q120
                                      have p121 : 0 ≤ (x6_2 : Int) := of_decide_eq_true (by first | (with_reducible assumption) | assumption)
                                      have q121 : x6_2 < (l0_1.length : Int) := of_decide_eq_true (by first | (with_reducible assumption) | assumption)
                                      obtain ⟨ad121, e121, hx121_0, hx121_1⟩ := at_T33 HR0_1.out x6_2 p121 q121
                                      (try rw [← Nbq20.out] at hx121_0)
                                      obtain rfl : ad112 = ad121 := (by injection e121)
                                      replace hx121_0 := (HB.out.cell (World.block_lt_of_cell? w _ hx121_0)).trans hx121_0
                                      replace hx121_1 := (HB.out.cell (World.block_lt_of_cell? w _ hx121_1)).trans hx121_1
                                      replace p121 := eq_true p121
                                      replace q121 := eq_true q121
                                      have p29 : 0 ≤ (x7_3 : Int) := of_decide_eq_true (by first | (with_reducible assumption) | assumption)
                                      have q29 : x7_3 < (((rd_T33 l0_1 x6_2).f1).size : Int) := of_decide_eq_true (by first | (with_reducible assumption) | assumption)
                                      have hx29 := bt_at ((rd_T33 l0_1 x6_2).f1) x7_3
                                      replace p29 := eq_true p29
                                      replace q29 := eq_true q29
                                      go_wp2_with (first | ((with_reducible refine gate_builtin (b := .append) (xs := #[.tmp 70, .tmp 79]) rfl ?_); at_builtin; refine Kd.R_append (Kd.int .u8) (w0 := w) w.heap.size rfl (.tmp 70) (.tmp 79) 36 5 (.int .u8 0) 1 rfl Try.underlying36 info5 rfl (by decide) (by omega) u4 x4_3 (bt ((rd_T33 l0_1 x6_2).f1) x7_3) [.int .u8 (bt ((rd_T33 l0_1 x6_2).f1) x7_3)] (fun _ => True) (fun _ => False) rfl rfl ?aP (fun _ hk => hk.elim) ?aF ?aO ?aB ?aS ?aL ?_; (case aP => exact rfl); (case aB => exact (by repeat (first | (with_reducible first | exact HB.out | apply below_alloc | apply pw_below_drewN | apply below_drew1 | refine below_set ?_ GE101.out) | exact HB.out))); (case aF => exact (fun _ _ => trivial)); (case aO => exact (by (with_reducible repeat (first | apply Kd.R_alloc | apply Kd.R_drewN | apply Kd.R_drew)); exact HO_4.out)); (case aS => exact (below_size (by repeat (first | (with_reducible first | exact HB.out | apply below_alloc | apply pw_below_drewN | apply below_drew1 | refine below_set ?_ GE101.out) | exact HB.out)))); (case aL => have := LMc30.out; omega); intro v123 w32 ho hb hg hat; rw [← Ny122.out] at ho; have n0_ := Aside0.mk (blk_grown (g := gb101) (o := .cells #[.int .i64 a0_0, .slice (some ad112) l0_1.length c0_1] 24 (0, 0)) (by (with_reducible repeat (first | refine blk_drewN ?_ _ | refine blk_drew ?_ | refine blk_alloc ?_ _)); exact BK101.out) hg (Kd.R_ne HO_4.out BK101.out (by decide))); have n1_ := Aside0.mk (hb); have n2_ := Aside0.mk (ho); clear BK101; clear HB; clear HO_4; have BK101 := n0_; have HB := n1_; have HO124 := n2_; clear n0_ n1_ n2_; clear ho hb hg hat))
                                      go_roundg k3
                                      case measure => have := HK1.out; have := HK2.out; have := HK3.out; omega
                                      case rel => exact ⟨(y122), (wrap64 (x7_3 + 1)), (by first | rfl | (simp; done) | (simp [*]; done)), H', ⟨by have := HK1.out; have := HK2.out; have := HK3.out; omega⟩, ⟨by (with_reducible repeat (first | apply Kd.R_alloc | apply Kd.R_drewN | apply Kd.R_drew)); exact HO124.out⟩, ⟨by (with_reducible repeat (first | refine blk_drewN ?_ _ | refine blk_drew ?_ | refine blk_alloc ?_ _)); exact BK101.out⟩, ⟨by repeat (first | (with_reducible first | exact HB.out | apply below_alloc | apply pw_below_drewN | apply below_drew1 | refine below_set ?_ GE101.out) | exact HB.out)⟩⟩
                                    · rw [if_neg c30] at H
                                      exact absurd H (by simp)
                                  · rw [if_neg c28] at H
                                    exact absurd H (by simp)
                                · rw [if_neg c27] at H
                                  have c27b0 : decide (x7_3 < (((rd_T33 l0_1 x6_2).f1).size : Int)) = false := decide_eq_false c27
                                  clear c27
                                  have H' := Aside0.mk H
                                  clear H
                                  have hcz33_0 : wr.cell? ⟨gb101, 0, none⟩ = some (.int .i64 a0_0) := (blk_cell BK101.out 0).trans rfl
                                  have hcz33_1 : wr.cell? ⟨gb101, 1, none⟩ = some (.slice (some ad112) l0_1.length c0_1) := (blk_cell BK101.out 1).trans rfl
                                  have hfz33_0 := blk_frozen BK101.out 0
                                  have hfz33_1 := blk_frozen BK101.out 1
                                  have p120 : 0 ≤ (x6_2 : Int) := of_decide_eq_true (by first | (with_reducible assumption) | assumption)
                                  have q120 : x6_2 < (l0_1.length : Int) := of_decide_eq_true (by first | (with_reducible assumption) | assumption)
                                  obtain ⟨ad120, e120, hx120_0, hx120_1⟩ := at_T33 HR0_1.out x6_2 p120 q120
                                  (try rw [← Nbq20.out] at hx120_0)
                                  obtain rfl : ad112 = ad120 := (by injection e120)
                                  replace hx120_0 := (HB.out.cell (World.block_lt_of_cell? w _ hx120_0)).trans hx120_0
                                  replace hx120_1 := (HB.out.cell (World.block_lt_of_cell? w _ hx120_1)).trans hx120_1
                                  replace p120 := eq_true p120
                                  replace q120 := eq_true q120
                                  go_wp2
                                  go_roundg k3
                                  case measure => have := HK1.out; have := HK2.out; have := HK3.out; omega
                                  case rel => exact ⟨(x4_3), (wrap64 (x6_2 + 1)), (by first | rfl | (simp; done) | (simp [*]; done)), H', ⟨by have := HK1.out; have := HK2.out; have := HK3.out; omega⟩, ⟨by (with_reducible repeat (first | apply Kd.R_alloc | apply Kd.R_drewN | apply Kd.R_drew)); exact HO_4.out⟩, ⟨by (with_reducible repeat (first | refine blk_drewN ?_ _ | refine blk_drew ?_ | refine blk_alloc ?_ _)); exact BK101.out⟩, ⟨by repeat (first | (with_reducible first | exact HB.out | apply below_alloc | apply pw_below_drewN | apply below_drew1 | refine below_set ?_ GE101.out) | exact HB.out)⟩⟩
                              · rw [if_neg c26] at H
                                exact absurd H (by simp)
                            · rw [if_neg c25] at H
                              exact absurd H (by simp)
                      · rw [if_neg c22] at H
                        exact absurd H (by simp)
                    · replace c21 := Bool.eq_false_iff.mpr c21
                      subst c21
                      have H1 : (if x4_2.length < 140737488355328 then (seneschalref03_Encode.l1 k2 (x4_2 ++ [255]) (wrap64 (x6_2 + 1)) a0_0 l0_1) else (none)) = some (r1, r2) := by rw [if_neg (show ¬ (false = true) by decide)] at H; exact H
                      clear H
                      have H := H1
                      clear H1
                      by_cases c34 : x4_2.length < 140737488355328
                      · rw [if_pos c34] at H
                        have LMc34 := Aside0.mk c34
                        clear c34
                        obtain ⟨y113, hy113⟩ : ∃ y_ : List Int, y_ = (x4_2 ++ [255]) := ⟨_, rfl⟩
                        replace H : (seneschalref03_Encode.l1 k2 y113 (wrap64 (x6_2 + 1)) a0_0 l0_1) = some (r1, r2) := by first | (rw [hy113]; with_reducible exact H) | (have H2_ := (Option.bind_some _ _).symm.trans H; rw [hy113]; with_reducible exact H2_) | (have H2_ := (Option.bind_some _ _).symm.trans H; with_reducible exact H2_) | with_reducible exact H | (rw [hy113]; exact H) | exact H
                        have Ny113 := Aside0.mk hy113
                        clear hy113
                        have H' := Aside0.mk H
                        clear H
                        have hcz35_0 : wr.cell? ⟨gb101, 0, none⟩ = some (.int .i64 a0_0) := (blk_cell BK101.out 0).trans rfl
                        have hcz35_1 : wr.cell? ⟨gb101, 1, none⟩ = some (.slice A0_1 l0_1.length c0_1) := (blk_cell BK101.out 1).trans rfl
                        have hfz35_0 := blk_frozen BK101.out 0
                        have hfz35_1 := blk_frozen BK101.out 1
                        have p112 : 0 ≤ (x6_2 : Int) := of_decide_eq_true (by first | (with_reducible assumption) | assumption)
                        have q112 : x6_2 < (l0_1.length : Int) := of_decide_eq_true (by first | (with_reducible assumption) | assumption)
                        obtain ⟨ad112, e112, hx112_0, hx112_1⟩ := at_T33 HR0_1.out x6_2 p112 q112
                        (try rw [← Nbq20.out] at hx112_0)
                        cases e112
                        replace hx112_0 := (HB.out.cell (World.block_lt_of_cell? w _ hx112_0)).trans hx112_0
                        replace hx112_1 := (HB.out.cell (World.block_lt_of_cell? w _ hx112_1)).trans hx112_1
                        replace p112 := eq_true p112
                        replace q112 := eq_true q112
                        go_wp2_with (first | ((with_reducible refine gate_builtin (b := .append) (xs := #[.tmp 45, .tmp 46]) rfl ?_); at_builtin; refine Kd.R_append (Kd.int .u8) (w0 := w) w.heap.size rfl (.tmp 45) (.tmp 46) 36 5 (.int .u8 0) 1 rfl Try.underlying36 info5 rfl (by decide) (by omega) u4 x4_2 255 [.int .u8 255] (fun _ => True) (fun _ => False) rfl rfl ?aP (fun _ hk => hk.elim) ?aF ?aO ?aB ?aS ?aL ?_; (case aP => exact rfl); (case aB => exact (by repeat (first | (with_reducible first | exact HB.out | apply below_alloc | apply pw_below_drewN | apply below_drew1 | refine below_set ?_ GE101.out) | exact HB.out))); (case aF => exact (fun _ _ => trivial)); (case aO => exact (by (with_reducible repeat (first | apply Kd.R_alloc | apply Kd.R_drewN | apply Kd.R_drew)); exact HO_4.out)); (case aS => exact (below_size (by repeat (first | (with_reducible first | exact HB.out | apply below_alloc | apply pw_below_drewN | apply below_drew1 | refine below_set ?_ GE101.out) | exact HB.out)))); (case aL => have := LMc34.out; omega); intro v114 w36 ho hb hg hat; rw [← Ny113.out] at ho; have n0_ := Aside0.mk (blk_grown (g := gb101) (o := .cells #[.int .i64 a0_0, .slice (some ad112) l0_1.length c0_1] 24 (0, 0)) (by (with_reducible repeat (first | refine blk_drewN ?_ _ | refine blk_drew ?_ | refine blk_alloc ?_ _)); exact BK101.out) hg (Kd.R_ne HO_4.out BK101.out (by decide))); have n1_ := Aside0.mk (hb); have n2_ := Aside0.mk (ho); clear BK101; clear HB; clear HO_4; have BK101 := n0_; have HB := n1_; have HO115 := n2_; clear n0_ n1_ n2_; clear ho hb hg hat))
                        go_roundg k2
                        case measure => have := HK1.out; have := HK2.out; omega
                        case rel => exact ⟨(y113), (wrap64 (x6_2 + 1)), (by first | rfl | (simp; done) | (simp [*]; done)), H', ⟨by have := HK1.out; have := HK2.out; omega⟩, ⟨by (with_reducible repeat (first | apply Kd.R_alloc | apply Kd.R_drewN | apply Kd.R_drew)); exact HO115.out⟩, ⟨by (with_reducible repeat (first | refine blk_drewN ?_ _ | refine blk_drew ?_ | refine blk_alloc ?_ _)); exact BK101.out⟩, ⟨by repeat (first | (with_reducible first | exact HB.out | apply below_alloc | apply pw_below_drewN | apply below_drew1 | refine below_set ?_ GE101.out) | exact HB.out)⟩⟩
                      · rw [if_neg c34] at H
                        exact absurd H (by simp)
                  · rw [if_neg c19] at H
                    exact absurd H (by simp)
                · rw [if_neg c18] at H
                  have c18b0 : decide (x6_2 < (l0_1.length : Int)) = false := decide_eq_false c18
                  clear c18
                  have H' := Aside0.mk H
                  clear H
                  have hcz37_0 : wr.cell? ⟨gb101, 0, none⟩ = some (.int .i64 a0_0) := (blk_cell BK101.out 0).trans rfl
                  have hcz37_1 : wr.cell? ⟨gb101, 1, none⟩ = some (.slice A0_1 l0_1.length c0_1) := (blk_cell BK101.out 1).trans rfl
                  have hfz37_0 := blk_frozen BK101.out 0
                  have hfz37_1 := blk_frozen BK101.out 1
                  go_wp2
                  go_loopg [4] k2 (fun kq v4 w' => ∃ (x4_3 : List Int), Aside0 (seneschalref03_Encode.l3 kq x4_3 = some (r1, r2)) ∧ Aside0 (kq ≤ k2) ∧ Aside0 (Kd.R (Kd.int .u8) 5 w' w.heap.size (fun _ => True) v4 x4_3) ∧ Aside0 (w'.heap[gb101]? = some (.cells #[.int .i64 a0_0, (.slice A0_1 l0_1.length c0_1)] 24 (0, 0))) ∧ Aside0 (Below w.heap.size w w'))
                  case atStart => exact ⟨(x4_2), H', ⟨Nat.le_refl _⟩, ⟨by (with_reducible repeat (first | apply Kd.R_alloc | apply Kd.R_drewN | apply Kd.R_drew)); exact HO_4.out⟩, ⟨by (with_reducible repeat (first | refine blk_drewN ?_ _ | refine blk_drew ?_ | refine blk_alloc ?_ _)); exact BK101.out⟩, ⟨by repeat (first | (with_reducible first | exact HB.out | apply below_alloc | apply pw_below_drewN | apply below_drew1 | refine below_set ?_ GE101.out) | exact HB.out)⟩⟩
                  case round =>
                    clear H'
                    try clear c1
                    try clear p1
                    try clear q1
                    try clear hx1
                    try clear c2
                    try clear p2
                    try clear q2
                    try clear hx2
                    try clear c3
                    try clear p6
                    try clear c9
                    try clear c9b0
                    try clear c10
                    try clear c10b0
                    try clear c10b1
                    try clear p11
                    try clear q11
                    try clear hx11
                    try clear c12
                    try clear p12
                    try clear q12
                    try clear hx12
                    try clear c15
                    try clear c18
                    try clear c18b0
                    try clear c19
                    try clear c19b0
                    try clear q20
                    try clear c21
                    try clear c22
                    try clear c25
                    try clear c25b0
                    try clear c26
                    try clear c26b0
                    try clear c27
                    try clear c27b0
                    try clear c28
                    try clear c28b0
                    try clear p29
                    try clear q29
                    try clear hx29
                    try clear c30
                    try clear c33
                    try clear c34
                    try clear c35
                    try clear hcz13_0
                    try clear hcz13_1
                    try clear hcz16_0
                    try clear hcz16_1
                    try clear hcz23_0
                    try clear hcz23_1
                    try clear hcz31_0
                    try clear hcz31_1
                    try clear hcz33_0
                    try clear hcz33_1
                    try clear hcz35_0
                    try clear hcz35_1
                    try clear hcz37_0
                    try clear hcz37_1
                    try clear hcz5_0
                    try clear hcz5_1
                    try clear hfz13_0
                    try clear hfz13_1
                    try clear hfz16_0
                    try clear hfz16_1
                    try clear hfz23_0
                    try clear hfz23_1
                    try clear hfz31_0
                    try clear hfz31_1
                    try clear hfz33_0
                    try clear hfz33_1
                    try clear hfz35_0
                    try clear hfz35_1
                    try clear hfz37_0
                    try clear hfz37_1
                    try clear hfz5_0
                    try clear hfz5_1
                    try clear hx112_0
                    try clear hx112_1
                    try clear hx116_0
                    try clear hx116_1
                    try clear hx120_0
                    try clear hx120_1
                    try clear hx121_0
                    try clear hx121_1
                    try clear p1
                    try clear p11
                    try clear p112
                    try clear p116
                    try clear p120
                    try clear p121
                    try clear p2
                    try clear p29
                    try clear p6
                    try clear q1
                    try clear q11
                    try clear q112
                    try clear q116
                    try clear q120
                    try clear q121
                    try clear q2
                    try clear q20
                    try clear q29
                    obtain ⟨x4_3, HA, HK3, HO_4, BK101, HB⟩ := hrel
                    cases gk with
                    | zero => exact absurd HA.out (by simp [seneschalref03_Encode.l3])
                    | succ k3 =>
                      have H := HA.out
                      clear HA
                      simp only [seneschalref03_Encode.l3] at H
                      by_cases c38 : (x4_3.length : Int) < 240
                      · rw [if_pos c38] at H
                        have c38b0 : decide ((x4_3.length : Int) < 240) = true := decide_eq_true c38
                        have c38b1 : decide (x4_3.length < 240) = true := decide_eq_true (by omega)
                        clear c38
                        by_cases c39 : x4_3.length < 140737488355328
                        · rw [if_pos c39] at H
                          have LMc39 := Aside0.mk c39
                          clear c39
                          obtain ⟨y125, hy125⟩ : ∃ y_ : List Int, y_ = (x4_3 ++ [0]) := ⟨_, rfl⟩
                          replace H : (seneschalref03_Encode.l3 k3 y125) = some (r1, r2) := by first | (rw [hy125]; with_reducible exact H) | (have H2_ := (Option.bind_some _ _).symm.trans H; rw [hy125]; with_reducible exact H2_) | (have H2_ := (Option.bind_some _ _).symm.trans H; with_reducible exact H2_) | with_reducible exact H | (rw [hy125]; exact H) | exact H
                          have Ny125 := Aside0.mk hy125
                          clear hy125
                          have H' := Aside0.mk H
                          clear H
                          obtain ⟨Ao40, co40, eo40⟩ := Kd.R_slice HO_4.out
                          subst eo40
                          go_wp2_with (first | ((with_reducible refine gate_builtin (b := .append) (xs := #[.tmp 84, .tmp 85]) rfl ?_); at_builtin; refine Kd.R_append (Kd.int .u8) (w0 := w) w.heap.size rfl (.tmp 84) (.tmp 85) 36 5 (.int .u8 0) 1 rfl Try.underlying36 info5 rfl (by decide) (by omega) (.slice Ao40 x4_3.length co40) x4_3 0 [.int .u8 0] (fun _ => True) (fun _ => False) rfl rfl ?aP (fun _ hk => hk.elim) ?aF ?aO ?aB ?aS ?aL ?_; (case aP => exact rfl); (case aB => exact (by repeat (first | (with_reducible first | exact HB.out | apply below_alloc | apply pw_below_drewN | apply below_drew1 | refine below_set ?_ GE101.out) | exact HB.out))); (case aF => exact (fun _ _ => trivial)); (case aO => exact (by (with_reducible repeat (first | apply Kd.R_alloc | apply Kd.R_drewN | apply Kd.R_drew)); exact HO_4.out)); (case aS => exact (below_size (by repeat (first | (with_reducible first | exact HB.out | apply below_alloc | apply pw_below_drewN | apply below_drew1 | refine below_set ?_ GE101.out) | exact HB.out)))); (case aL => have := LMc39.out; omega); intro v126 w41 ho hb hg hat; rw [← Ny125.out] at ho; have n0_ := Aside0.mk (blk_grown (g := gb101) (o := .cells #[.int .i64 a0_0, .slice A0_1 l0_1.length c0_1] 24 (0, 0)) (by (with_reducible repeat (first | refine blk_drewN ?_ _ | refine blk_drew ?_ | refine blk_alloc ?_ _)); exact BK101.out) hg (Kd.R_ne HO_4.out BK101.out (by decide))); have n1_ := Aside0.mk (hb); have n2_ := Aside0.mk (ho); clear BK101; clear HB; clear HO_4; have BK101 := n0_; have HB := n1_; have HO127 := n2_; clear n0_ n1_ n2_; clear ho hb hg hat))
                          go_roundg k3
                          case measure => have := HK1.out; have := HK2.out; have := HK3.out; omega
                          case rel => exact ⟨(y125), H', ⟨by have := HK1.out; have := HK2.out; have := HK3.out; omega⟩, ⟨by (with_reducible repeat (first | apply Kd.R_alloc | apply Kd.R_drewN | apply Kd.R_drew)); exact HO127.out⟩, ⟨by (with_reducible repeat (first | refine blk_drewN ?_ _ | refine blk_drew ?_ | refine blk_alloc ?_ _)); exact BK101.out⟩, ⟨by repeat (first | (with_reducible first | exact HB.out | apply below_alloc | apply pw_below_drewN | apply below_drew1 | refine below_set ?_ GE101.out) | exact HB.out)⟩⟩
                        · rw [if_neg c39] at H
                          exact absurd H (by simp)
                      · rw [if_neg c38] at H
                        have c38b0 : decide ((x4_3.length : Int) < 240) = false := decide_eq_false c38
                        have c38b1 : decide (x4_3.length < 240) = false := decide_eq_false (by omega)
                        clear c38
                        simp only [Option.some.injEq, Prod.mk.injEq] at H
                        obtain ⟨rfl, rfl⟩ := H
                        obtain ⟨Ao42, co42, eo42⟩ := Kd.R_slice HO_4.out
                        subst eo42
                        have hcv43 := own_string (P := Try.prog) Try.underlying36 Try.underlying5 Try.underlying9 (Kd.own_of_R HO_4.out)
                        go_wp2
                        go_ret2
                        exact ⟨by first | rfl | (simp [errW_none, errW_some] <;> rfl) | (simp [*, errW_none, errW_some] <;> rfl), by repeat (first | (with_reducible first | exact HB.out | apply below_alloc | apply pw_below_drewN | apply below_drew1 | refine below_set ?_ GE101.out) | exact HB.out)⟩
          · rw [if_neg c15] at H
            exact absurd H (by simp)
  · replace c3 := Bool.eq_false_iff.mpr c3
    subst c3
    have H1 : (some ((⟨#[]⟩ : ByteArray), 1)) = some (r1, r2) := by rw [if_neg (show ¬ (false = true) by decide)] at H; exact H
    clear H
    have H := H1
    clear H1
    simp only [Option.some.injEq, Prod.mk.injEq] at H
    obtain ⟨rfl, rfl⟩ := H
    go_enter Try.func33, Try.ntmps33
    go_wp2_with (first | ((with_reducible refine gate_dst (N := 1) rfl ?_); refine box_event ?hg (N := 1) ?hd (cs := #[.int .i64 a0_0, .slice A0_1 l0_1.length c0_1]) (t := 24) ?hr ?_; (case hd => rfl); (case hg => rfl); (case hr => first | (go_simp; done) | (go_simp; rfl)); intro gb101 hg w44 hbox hb; have n0_ := Aside0.mk (below_step (by repeat (first | (with_reducible first | exact HB.out | apply below_alloc | apply pw_below_drewN | apply below_drew1) | exact HB.out)) hb); have n1_ := Aside0.mk (hbox); have n2_ := Aside0.mk ((by rw [hg]; exact (below_size (by repeat (first | (with_reducible first | exact HB.out | apply below_alloc | apply pw_below_drewN | apply below_drew1) | exact HB.out))) : w.heap.size ≤ gb101)); have n3_ := Aside0.mk ((by rw [hg]; exact (below_size (by repeat (first | (with_reducible first | exact HB.out | apply below_alloc | apply pw_below_drewN | apply below_drew1) | exact HB.out))) : w.heap.size ≤ gb101)); clear HB; have HB := n0_; have BK101 := n1_; have GW101 := n2_; have GE101 := n3_; clear n0_ n1_ n2_ n3_; clear hb hbox hg; have hcz45_0 : w44.cell? ⟨gb101, 0, none⟩ = some (.int .i64 a0_0) := (blk_cell BK101.out 0).trans rfl; have hcz45_1 : w44.cell? ⟨gb101, 1, none⟩ = some (.slice A0_1 l0_1.length c0_1) := (blk_cell BK101.out 1).trans rfl; have hfz45_0 := blk_frozen BK101.out 0; have hfz45_1 := blk_frozen BK101.out 1) | ((with_reducible refine gate_callee (f := 35) rfl ?_); refine goesL_ (some 9) rfl rfl Try.func35 (by kernel_rfl) rfl #[.agg #[.int .i64 a0_0, .slice A0_1 l0_1.length c0_1]] rfl (by (try simp only [List.map_toArray, List.map_cons, List.map_nil]); first | done | rfl | (simp only [List.length_drop, List.length_take]; rfl)) ?_; (with_reducible refine (refGood3.calls a0_0 _ _ l0_1 false _ ?side1 ?side2 A2.out).mono ?_); (case side1 => repeat (first | exact (Kd.C_below HR0_1.out HB.out) | (with_reducible refine Kd.C_alloc ?_ _) | (with_reducible refine Kd.C_drewN ?_ _) | (with_reducible refine Kd.C_drew ?_))); (case side2 => exact HC0_1.out); rintro e w46 ⟨rfl, hb⟩; refine ⟨_, rfl, ?_⟩; have n0_ := Aside0.mk (blk_below (g := gb101) (o := .cells #[.int .i64 a0_0, .slice A0_1 l0_1.length c0_1] 24 (0, 0)) (by (with_reducible repeat (first | refine blk_drewN ?_ _ | refine blk_drew ?_ | refine blk_alloc ?_ _)); exact BK101.out) hb); have n1_ := Aside0.mk (below_step (by repeat (first | (with_reducible first | exact HB.out | apply below_alloc | apply pw_below_drewN | apply below_drew1 | refine below_set ?_ GE101.out) | exact HB.out)) hb); clear BK101; clear HB; have BK101 := n0_; have HB := n1_; clear n0_ n1_; (try clear hb); (try clear hb2); (try clear hk); (try clear hi)))
    go_ret2
    exact ⟨by first | rfl | (simp [errW_none, errW_some] <;> rfl) | (simp [*, errW_none, errW_some] <;> rfl), by repeat (first | (with_reducible first | exact HB.out | apply below_alloc | apply pw_below_drewN | apply below_drew1 | refine below_set ?_ GE101.out) | exact HB.out)⟩

end Go.Proofs.Ytfjmnaobfbmllaa.M

namespace Go.Proofs.Ytfjmnaobfbmllaa.M
open Go.RowKit Go.Proofs.YtfjmnaobfbmllaaW.PrintWords Go.Proofs.YtfjmnaobfbmllaaW.PrintLast Go.Proofs.YtfjmnaobfbmllaaW.PrintMore
set_option linter.unusedVariables false
set_option linter.unusedSimpArgs false

def encB (a : Int) (l : List S33) : ByteArray := strOfNums (padL (encL a l))
theorem renc_pad (d : Nat) : ∀ (k : Nat) (acc : List Int), acc.length + d = 240 → d < k → seneschalref03_Encode.l3 k acc = some (strOfNums (padL acc), 0) := by
  induction d with
  | zero =>
    intro k acc h hk
    obtain ⟨k, rfl⟩ : ∃ m, k = m + 1 := ⟨k - 1, by omega⟩
    simp only [seneschalref03_Encode.l3]
    rw [if_neg (by omega)]
    unfold padL
    rw [show 240 - acc.length = 0 by omega]
    simp
  | succ d ih =>
    intro k acc h hk
    obtain ⟨k, rfl⟩ : ∃ m, k = m + 1 := ⟨k - 1, by omega⟩
    simp only [seneschalref03_Encode.l3]
    have c1 : (acc.length : Int) < 240 := by omega
    have c2 : acc.length < 140737488355328 := by omega
    rw [if_pos c1, if_pos c2, ih k _ (by simp; omega) (by omega)]
    unfold padL
    rw [List.append_assoc, List.length_append]
    have : 240 - acc.length = (240 - (acc.length + 1)) + 1 := by omega
    rw [this, List.replicate_succ]
    rfl
theorem slotsB_cons (x : S33) (l : List S33) : slotsB (x :: l) = slotB x ++ slotsB l := by simp [slotsB]
theorem renc_bytes (a : Int) (l : List S33) (hl : l.length ≤ 32) (i : Nat) (hi : i < l.length) (hs : l[i].f1.size ≤ 200) (F : Nat) (rest : List Int)
    (hQ : ∀ k acc, F < k → acc.length + rest.length ≤ 240 → seneschalref03_Encode.l1 k acc ((i : Int) + 1) a l = some (strOfNums (padL (acc ++ rest)), 0)) (e : Nat) :
    ∀ (k j : Nat) (acc : List Int), j + e = l[i].f1.size → F + e + 1 < k → acc.length + e + rest.length ≤ 240 →
    seneschalref03_Encode.l2 k acc i j a l = some (strOfNums (padL (acc ++ ((bytesOf l[i].f1).drop j ++ rest))), 0) := by
  have c1 : (0 : Int) ≤ (i : Int) := by omega
  have c2 : (i : Int) < (l.length : Int) := by omega
  induction e with
  | zero =>
    intro k j acc hj hk hb
    obtain ⟨k, rfl⟩ : ∃ m, k = m + 1 := ⟨k - 1, by omega⟩
    have c3 : ¬ (j : Int) < (l[i].f1.size : Int) := by omega
    simp only [seneschalref03_Encode.l2]
    rw [if_pos c1, if_pos c2, rd33 l i hi, if_neg c3, w64 ((i : Int) + 1) (by omega) (by omega), hQ k acc (by omega) (by omega), List.drop_of_length_le (by rw [bytesOf_length]; omega), List.nil_append]
  | succ e ih =>
    intro k j acc hj hk hb
    obtain ⟨k, rfl⟩ : ∃ m, k = m + 1 := ⟨k - 1, by omega⟩
    have c3 : (j : Int) < (l[i].f1.size : Int) := by omega
    have c4 : (0 : Int) ≤ (j : Int) := by omega
    have c5 : acc.length < 140737488355328 := by omega
    have h := ih k (j + 1) (acc ++ [bt l[i].f1 j]) (by omega) (by omega) (by simp; omega)
    rw [show ((j + 1 : Nat) : Int) = (j : Int) + 1 by omega] at h
    simp only [seneschalref03_Encode.l2]
    rw [if_pos c1, if_pos c2, rd33 l i hi, if_pos c3, if_pos c4, if_pos c5, w64 ((j : Int) + 1) (by omega) (by omega), h, drop_step _ j (by omega), List.append_assoc]
    rfl
theorem renc_slots (a : Int) (l : List S33) (hl : l.length ≤ 32) (hf : ∀ x ∈ l, fineS x) (d : Nat) : ∀ (k i : Nat) (acc : List Int), i + d = l.length → 203 * d + 242 < k → acc.length + (slotsB (l.drop i)).length ≤ 240 →
    seneschalref03_Encode.l1 k acc i a l = some (strOfNums (padL (acc ++ slotsB (l.drop i))), 0) := by
  induction d with
  | zero =>
    intro k i acc hi hk hb
    obtain ⟨k, rfl⟩ : ∃ m, k = m + 1 := ⟨k - 1, by omega⟩
    have c1 : ¬ (i : Int) < (l.length : Int) := by omega
    simp only [seneschalref03_Encode.l1]
    rw [if_neg c1, List.drop_of_length_le (by omega)]
    rw [renc_pad (240 - acc.length) k acc (by omega) (by omega)]
    simp [slotsB]
  | succ d ih =>
    intro k i acc hi hk hb
    obtain ⟨k, rfl⟩ : ∃ m, k = m + 1 := ⟨k - 1, by omega⟩
    have hlt : i < l.length := by omega
    have c1 : (i : Int) < (l.length : Int) := by omega
    have c2 : (0 : Int) ≤ (i : Int) := by omega
    have c3 : acc.length < 140737488355328 := by omega
    have hx := hf l[i] (List.getElem_mem hlt)
    have e1 : ((i + 1 : Nat) : Int) = (i : Int) + 1 := by omega
    rw [List.drop_eq_getElem_cons hlt, slotsB_cons] at hb ⊢
    rw [List.length_append] at hb
    simp only [seneschalref03_Encode.l1]
    rw [if_pos c1, if_pos c2, rd33 l i hlt]
    cases hu : l[i].f0 with
    | false =>
      have hsb : slotB l[i] = [255] := by unfold slotB; simp [hu]
      rw [hsb] at hb ⊢
      have h := ih k (i + 1) (acc ++ [255]) (by omega) (by omega) (by simp at hb ⊢; omega)
      rw [e1] at h
      rw [if_neg Bool.false_ne_true, if_pos c3, w64 ((i : Int) + 1) (by omega) (by omega), h, List.append_assoc]
    | true =>
      have hsb : slotB l[i] = (l[i].f1.size : Int) :: bytesOf l[i].f1 := by unfold slotB; simp [hu]
      rw [hsb] at hb ⊢
      rw [List.length_cons, bytesOf_length] at hb
      have c4 : (l[i].f1.size : Int) % 256 = l[i].f1.size := by have := hx.2; omega
      rw [if_pos rfl, if_pos c3, c4]
      have h := renc_bytes a l hl i hlt hx.2 (203 * d + 242) (slotsB (l.drop (i + 1))) (fun k acc hk hb => by
        have := ih k (i + 1) acc (by omega) hk hb
        rwa [e1] at this) l[i].f1.size k 0 (acc ++ [(l[i].f1.size : Int)]) (by omega) (by have := hx.2; omega) (by simp at hb ⊢; omega)
      rw [Int.natCast_zero, List.drop_zero, List.append_assoc] at h
      exact h
theorem shr8 (a : Int) (i : Nat) (h : i ≤ 7) : shr .i64 a (8 * (i : Int)) = a / 2 ^ (8 * i) := by
  unfold shr
  have e : min (8 * (i : Int)).toNat IntKind.i64.bits = 8 * i := by
    have : IntKind.i64.bits = 64 := rfl
    omega
  rw [e]
theorem renc_head (a : Int) (l : List S33) (F : Nat) (r : Option (ByteArray × Int)) (hQ : ∀ k, F < k → seneschalref03_Encode.l1 k (hiL 8 a ++ [(l.length : Int) % 256]) 0 a l = r) (k : Nat) (hk : F + 9 < k) :
    seneschalref03_Encode.l0 k [] 56 a l = r := by
  have step : ∀ (d : Nat), d ≤ 8 → ∀ k acc, acc.length + d = 8 → F + d + 1 < k → acc = (hiL 8 a).take (8 - d) →
      seneschalref03_Encode.l0 k acc (8 * ((d : Int) - 1)) a l = r := by
    intro d
    induction d with
    | zero =>
      intro _ k acc hb hk he
      obtain ⟨k, rfl⟩ : ∃ m, k = m + 1 := ⟨k - 1, by omega⟩
      have c1 : ¬ (8 * (((0 : Nat) : Int) - 1) ≥ 0) := by omega
      have c2 : acc.length < 140737488355328 := by omega
      simp only [seneschalref03_Encode.l0]
      rw [if_neg c1, if_pos c2, he, Nat.sub_zero, List.take_of_length_le (by rw [hiL_length]; omega)]
      exact hQ k (by omega)
    | succ d ih =>
      intro hd k acc hb hk he
      obtain ⟨k, rfl⟩ : ∃ m, k = m + 1 := ⟨k - 1, by omega⟩
      have e1 : 8 * (((d + 1 : Nat) : Int) - 1) = 8 * (d : Int) := by omega
      have c1 : 8 * (d : Int) ≥ 0 := by omega
      have c2 : acc.length < 140737488355328 := by omega
      simp only [seneschalref03_Encode.l0]
      rw [e1, if_pos c1, if_pos c1, if_pos c2, shr8 a d (by omega), w64 (8 * (d : Int) - 8) (by omega) (by omega), show 8 * (d : Int) - 8 = 8 * ((d : Int) - 1) by omega]
      refine ih (by omega) k _ (by simp; omega) (by omega) ?_
      rw [he]
      have e2 : 8 - d = (8 - (d + 1)) + 1 := by omega
      rw [e2, List.take_succ_eq_append_getElem (by rw [hiL_length]; omega)]
      congr 2
      simp only [hiL, List.getElem_map, List.getElem_range]
      rw [show 8 - 1 - (8 - (d + 1)) = d by omega]
  have := step 8 (by omega) k [] rfl (by omega) rfl
  simpa using this
theorem enc_len {a : Int} {l : List S33} (hg : goodP a l = true) : (encL a l).length = rawSize l := by
  obtain ⟨_, _, _, h4, _, _⟩ := good_facts a l hg
  have := slotsB_length l h4 l.length (by omega)
  rw [List.drop_length, List.take_length] at this
  unfold encL rawSize
  rw [List.length_append, hiL_length, List.length_cons]
  simp only [sumS] at this
  omega
theorem renc_pure (a : Int) (l : List S33) (k : Nat) (hk : 7000 < k) : seneschalref03_Encode.f k a l = slab_Encode.f a l := by
  unfold seneschalref03_Encode.f slab_Encode.f refGood3.f
  rw [Option.bind_some]
  by_cases hg : goodP a l = true
  · rw [if_pos hg, if_pos hg]
    obtain ⟨h1, h2, h3, h4, _, h6⟩ := good_facts a l hg
    have hlen := enc_len hg
    have e : (l.length : Int) % 256 = l.length := by omega
    refine renc_head a l (203 * 32 + 242) _ (fun k hk => ?_) k (by omega)
    rw [e]
    have := renc_slots a l h3 ((any_fine l).mp h4) l.length k 0 (hiL 8 a ++ [(l.length : Int)]) (by omega) (by omega) (by
      unfold encL at hlen
      rw [List.drop_zero]
      simp at hlen ⊢
      omega)
    rw [Int.natCast_zero, List.drop_zero, List.append_assoc] at this
    exact this
  · rw [if_neg hg, if_neg hg]
def refEnc.f (a : Int) (l : List S33) : Option (ByteArray × Int) := slab_Encode.f a l
theorem refEnc.calls (a : Int) (A : Option Addr) (c : Nat) (l : List S33) (r1 : ByteArray) (r2 : Int) (w : World) (hr : Kd.C k33 w A l.length l) (hc : l.length ≤ c) (h : refEnc.f a l = some (r1, r2)) :
    Calls Try.prog 33 #[.agg #[.int .i64 a, .slice A l.length c]] w fun e w' => e = .returned (.tuple #[.string r1, .int .i64 r2]) ∧ Below w.heap.size w w' :=
  seneschalref03_Encode.calls 7001 a A c l r1 r2 w hr hc (by rw [renc_pure a l 7001 (by omega)]; exact h)
end Go.Proofs.Ytfjmnaobfbmllaa.M

namespace Go.Proofs.Ytfjmnaobfbmllaa.M
open Go.RowKit Go.Proofs.YtfjmnaobfbmllaaW.PrintWords Go.Proofs.YtfjmnaobfbmllaaW.PrintLast Go.Proofs.YtfjmnaobfbmllaaW.PrintMore
attribute [local go_sem] max2_int min2_int max_two min_two max_three min_three max_four min_four   -- for this text's walks alone
set_option linter.unusedVariables false
set_option linter.unusedSimpArgs false

/-! ### slab_Decode: function 73 -/
def slab_Decode.l0 : Nat → ByteArray → Int → List (S33) → ByteArray → Int → Int → Option (Int × (List (S33)) × Int)
  | 0, _, _, _, _, _, _ => none
  | k + 1, x0, x4, x5, x6, x21, x22 => if x22 < x21 then (if x6.toList = ([] : List UInt8) then (some (0, ([] : List (S33)), 4)) else (if 0 < (x6.size : Int) then (if 1 ≤ (x6.size : Int) then (if (wrap64 (bt x6 0)) = 255 then (if x5.length < 5864062014805 then (slab_Decode.l0 k x0 x4 (x5 ++ [(⟨false, (⟨#[]⟩ : ByteArray)⟩ : S33)]) (x6.extract 1 x6.size) x21 ((x22 + 1) % 256)) else (none)) else (if (wrap64 (bt x6 0)) > ((x6.extract 1 x6.size).size : Int) then (some (0, ([] : List (S33)), 4)) else (if 0 ≤ (wrap64 (bt x6 0)) then (if (wrap64 (bt x6 0)) ≤ ((x6.extract 1 x6.size).size : Int) then (if x5.length < 5864062014805 then (slab_Decode.l0 k x0 x4 (x5 ++ [(⟨true, (x6.extract 1 x6.size).extract 0 ((wrap64 (bt x6 0)) : Int).toNat⟩ : S33)]) ((x6.extract 1 x6.size).extract ((wrap64 (bt x6 0)) : Int).toNat (x6.extract 1 x6.size).size) x21 ((x22 + 1) % 256)) else (none)) else (none)) else (none)))) else (none)) else (none))) else ((slab_Encode.f (wrap64 (x4)) x5).bind fun bt104 => (if x4 > 1099511627776 then (some (0, ([] : List (S33)), 4)) else (if bt104.2 = 0 then (if bt104.1.toList = x0.toList then (some (wrap64 (x4), x5, 0)) else (some (0, ([] : List (S33)), 4))) else (some (0, ([] : List (S33)), 4)))))
def slab_Decode.f (k : Nat) (a0 : ByteArray) : Option (Int × (List (S33)) × Int) := if (a0.size : Int) = 240 then (if 0 ≤ 8 then (if 8 ≤ (a0.size : Int) then ((high_Get.f (a0.extract 0 8)).bind fun t102 => (if 9 ≤ (a0.size : Int) then (if 8 < (a0.size : Int) then (slab_Decode.l0 k a0 t102 ([] : List (S33)) (a0.extract 9 a0.size) (bt a0 8) 0) else (none)) else (none))) else (none)) else (none)) else (some (0, ([] : List (S33)), 4))
set_option maxHeartbeats 8000000 in
set_option maxRecDepth 100000 in
theorem slab_Decode.calls (k : Nat) (a0 : ByteArray) (r1 : Int) (r2 : List (S33)) (r3 : Int) (w : World) (h : slab_Decode.f k a0 = some (r1, r2, r3)) :
    Calls Try.prog 73 #[.string a0] w fun e w' => ∃ v1_ : Value, e = .returned (.tuple #[.agg #[.int .i64 r1, v1_], .int .i64 r3]) ∧ Kd.R k33 33 w' w.heap.size (fun _ => True) v1_ r2 ∧ Below w.heap.size w w' := by
  have hu24 := Try.underlying24
  have hu33 := Try.underlying33
  have HB := Aside0.mk (Below.refl w.heap.size w)
  have H : (if (a0.size : Int) = 240 then (if 0 ≤ 8 then (if 8 ≤ (a0.size : Int) then ((high_Get.f (a0.extract 0 8)).bind fun t102 => (if 9 ≤ (a0.size : Int) then (if 8 < (a0.size : Int) then (slab_Decode.l0 k a0 t102 ([] : List (S33)) (a0.extract 9 a0.size) (bt a0 8) 0) else (none)) else (none))) else (none)) else (none)) else (some (0, ([] : List (S33)), 4))) = some (r1, r2, r3) := h
  clear h
  by_cases c2 : (a0.size : Int) = 240
  · rw [if_pos c2] at H
    have c2b0 : ((a0.size : Int) == 240) = true := beq_iff_eq.mpr c2
    have c2b1 : ((a0.size : Int) != 240) = false := bne_eq_false_iff_eq.mpr c2
    clear c2
    by_cases c3 : 0 ≤ 8
    · rw [if_pos c3] at H
      have c3b0 := eq_true c3
      have c3b1 : decide (0 ≤ 8) = true := decide_eq_true c3
      clear c3
      by_cases c4 : 8 ≤ (a0.size : Int)
      · rw [if_pos c4] at H
        have c4b0 := eq_true c4
        have c4b1 : decide (8 ≤ (a0.size : Int)) = true := decide_eq_true c4
        clear c4
        replace H := Option.bind_eq_some_iff.mp H
        obtain ⟨t102, A50, H⟩ := H
        replace H : (if 9 ≤ (a0.size : Int) then (if 8 < (a0.size : Int) then (slab_Decode.l0 k a0 t102 ([] : List (S33)) (a0.extract 9 a0.size) (bt a0 8) 0) else (none)) else (none)) = some (r1, r2, r3) := H
        have A5 := Aside0.mk A50
        clear A50
        by_cases c6 : 9 ≤ (a0.size : Int)
        · rw [if_pos c6] at H
          have c6b0 := eq_true c6
          have c6b1 : decide (9 ≤ (a0.size : Int)) = true := decide_eq_true c6
          clear c6
          by_cases c7 : 8 < (a0.size : Int)
          · rw [if_pos c7] at H
            have c7b0 : decide (8 < (a0.size : Int)) = true := decide_eq_true c7
            have c7b1 : decide (8 < a0.size) = true := decide_eq_true (by omega)
            clear c7
            have H' := Aside0.mk H
            clear H
            go_enter Try.func73, Try.ntmps73
            go_wp2_with (first | ((with_reducible refine gate_dst (N := 2) rfl ?_); refine box_event ?hg (N := 2) ?hd (cs := #[.int .i64 0, .slice none 0 0]) (t := 24) ?hr ?_; (case hd => rfl); (case hg => rfl); (case hr => first | (go_simp; done) | (go_simp; rfl)); intro gb101 hg w9 hbox hb; have n0_ := Aside0.mk (below_step (by repeat (first | (with_reducible first | exact HB.out | apply below_alloc | apply pw_below_drewN | apply below_drew1) | exact HB.out)) hb); have n1_ := Aside0.mk (hbox); have n2_ := Aside0.mk ((by rw [hg]; exact (below_size (by repeat (first | (with_reducible first | exact HB.out | apply below_alloc | apply pw_below_drewN | apply below_drew1) | exact HB.out))) : w.heap.size ≤ gb101)); have n3_ := Aside0.mk ((by rw [hg]; exact (below_size (by repeat (first | (with_reducible first | exact HB.out | apply below_alloc | apply pw_below_drewN | apply below_drew1) | exact HB.out))) : w.heap.size ≤ gb101)); clear HB; have HB := n0_; have BK101 := n1_; have GW101 := n2_; have GE101 := n3_; clear n0_ n1_ n2_ n3_; clear hb hbox hg) | ((with_reducible refine gate_callee (f := 86) rfl ?_); refine goesL_ (some 17) rfl rfl Try.func86 (by kernel_rfl) rfl #[.string (a0.extract 0 8)] rfl (by (try simp only [List.map_toArray, List.map_cons, List.map_nil]); first | done | rfl | (simp only [List.length_drop, List.length_take]; rfl)) ?_; (with_reducible refine (high_Get.calls (a0.extract 0 8) t102 _ A5.out).mono ?_); rintro e w10 ⟨rfl, hb⟩; refine ⟨_, rfl, ?_⟩; have n0_ := Aside0.mk (blk_below (g := gb101) (o := .cells #[.int .i64 0, .slice none 0 0] 24 (0, 0)) (by (with_reducible repeat (first | refine blk_drewN ?_ _ | refine blk_drew ?_ | refine blk_alloc ?_ _)); exact BK101.out) hb); have n1_ := Aside0.mk (below_step (by repeat (first | (with_reducible first | exact HB.out | apply below_alloc | apply pw_below_drewN | apply below_drew1 | refine below_set ?_ GE101.out) | exact HB.out)) hb); clear BK101; clear HB; have BK101 := n0_; have HB := n1_; clear n0_ n1_; (try clear hb); (try clear hb2); (try clear hk); (try clear hi); have p8 : 0 ≤ (8 : Int) := (by omega); have q8 : 8 < a0.size := (by have : (8 : Int) < (a0.size : Int) := of_decide_eq_true (by first | (with_reducible assumption) | assumption); omega); have hx8 : ∀ h : 8 < a0.size, ((a0[8]'h).toNat : Int) = bt a0 8 := bt_at a0 8; clear p8; have qi8 : (8 < (a0.size : Int)) = True := eq_true (of_decide_eq_true (by first | (with_reducible assumption) | assumption)); replace q8 := eq_true q8))
            go_loopg [5, 6, 22] k (fun kq v5 v6 v22 w' => ∃ (x5_1 : List (S33)) (x6_1 : ByteArray) (x22_1 : Int) (x102000_1 : Int), v6 = .string x6_1 ∧ v22 = .int .u8 x22_1 ∧ Aside0 (slab_Decode.l0 kq a0 t102 x5_1 x6_1 (bt a0 8) x22_1 = some (r1, r2, r3)) ∧ Aside0 (kq ≤ k) ∧ Aside0 (Kd.R k33 33 w' w.heap.size (fun _ => True) v5 x5_1) ∧ Aside0 (w'.heap[gb101]? = some (.cells #[.int .i64 x102000_1, (.slice none 0 0)] 24 (0, 0))) ∧ Aside0 (Below w.heap.size w w'))
            case atStart => exact ⟨(([] : List (S33))), (a0.extract 9 a0.size), (0), (0), (by first | rfl | (simp; done) | (simp [*]; done)), (by first | rfl | (simp; done) | (simp [*]; done)), H', ⟨Nat.le_refl _⟩, ⟨by first | exact Kd.R_nil _ _ _ _ _ | exact Kd.N_nil _ _ _ _ _ | exact Kd.V_nil _ _ _ _ _ | exact Kd.Q_nil _ _ _ _ _ | exact Kd.S_nil _ _ _ _ _⟩, ⟨by (with_reducible repeat (first | refine blk_drewN ?_ _ | refine blk_drew ?_ | refine blk_alloc ?_ _)); exact BK101.out⟩, ⟨by repeat (first | (with_reducible first | exact HB.out | apply below_alloc | apply pw_below_drewN | apply below_drew1 | refine below_set ?_ GE101.out) | exact HB.out)⟩⟩
            case round =>
              clear H'
              try clear c2
              try clear c2b0
              try clear c2b1
              try clear p2
              try clear c3
              try clear c3b0
              try clear c3b1
              try clear c4
              try clear c4b0
              try clear c4b1
              try clear c6
              try clear c6b0
              try clear c6b1
              try clear c7
              try clear c7b0
              try clear c7b1
              try clear c8
              try clear p8
              try clear q8
              try clear hx8
              try clear qi8
              try clear p8
              try clear q8
              obtain ⟨x5_1, x6_1, x22_1, x102000_1, rfl, rfl, HA, HK1, HO_5, BK101, HB⟩ := hrel
              cases gk with
              | zero => exact absurd HA.out (by simp [slab_Decode.l0])
              | succ k1 =>
                have H := HA.out
                clear HA
                simp only [slab_Decode.l0] at H
                by_cases c11 : x22_1 < (bt a0 8)
                · rw [if_pos c11] at H
                  have c11b0 : decide (x22_1 < (bt a0 8)) = true := decide_eq_true c11
                  clear c11
                  by_cases c12 : x6_1.toList = ([] : List UInt8)
                  · rw [if_pos c12] at H
                    have c12b0 : (x6_1.toList == ([] : List UInt8)) = true := beq_iff_eq.mpr c12
                    have c12b1 : (x6_1.toList != ([] : List UInt8)) = false := bne_eq_false_iff_eq.mpr c12
                    clear c12
                    simp only [Option.some.injEq, Prod.mk.injEq] at H
                    obtain ⟨rfl, rfl, rfl⟩ := H
                    have hcz13_0 : wr.cell? ⟨gb101, 0, none⟩ = some (.int .i64 x102000_1) := (blk_cell BK101.out 0).trans rfl
                    have hcz13_1 : wr.cell? ⟨gb101, 1, none⟩ = some (.slice none 0 0) := (blk_cell BK101.out 1).trans rfl
                    have hfz13_0 := blk_frozen BK101.out 0
                    have hfz13_1 := blk_frozen BK101.out 1
                    go_wp2
                    refine bodyPost_ret (results_ct rfl _ _ gb101 24 #[.int .i64 0, .slice none 0 0] (0, 0) _ rfl (by (with_reducible repeat (first | refine blk_drewN ?_ _ | refine blk_drew ?_ | refine blk_alloc ?_ _)); refine blk_put (cs := #[.int .i64 0, .slice none 0 0]) ?_ 1 _ rfl; (with_reducible repeat (first | refine blk_drewN ?_ _ | refine blk_drew ?_ | refine blk_alloc ?_ _)); refine blk_put (cs := #[.int .i64 x102000_1, .slice none 0 0]) ?_ 0 _ rfl; (with_reducible repeat (first | refine blk_drewN ?_ _ | refine blk_drew ?_ | refine blk_alloc ?_ _)); exact BK101.out) Try.underlying24 rfl (by kernel_rfl)) rfl ?_
                    exact ⟨_, by first | rfl | (simp [errW_none, errW_some] <;> rfl) | (simp [*, errW_none, errW_some] <;> rfl), by first | exact Kd.R_nil _ _ _ _ _ | exact Kd.N_nil _ _ _ _ _ | exact Kd.V_nil _ _ _ _ _ | exact Kd.Q_nil _ _ _ _ _ | exact Kd.S_nil _ _ _ _ _, by repeat (first | (with_reducible first | exact HB.out | apply below_alloc | apply pw_below_drewN | apply below_drew1 | refine below_set ?_ GE101.out) | exact HB.out)⟩
                  · rw [if_neg c12] at H
                    have c12b0 : (x6_1.toList == ([] : List UInt8)) = false := beq_eq_false_iff_ne.mpr c12
                    have c12b1 : (x6_1.toList != ([] : List UInt8)) = true := bne_iff_ne.mpr c12
                    by_cases c14 : 0 < (x6_1.size : Int)
                    · rw [if_pos c14] at H
                      have c14b0 : decide (0 < (x6_1.size : Int)) = true := decide_eq_true c14
                      have c14b1 : decide (0 < x6_1.size) = true := decide_eq_true (by omega)
                      clear c14
                      by_cases c16 : 1 ≤ (x6_1.size : Int)
                      · rw [if_pos c16] at H
                        have c16b0 := eq_true c16
                        have c16b1 : decide (1 ≤ (x6_1.size : Int)) = true := decide_eq_true c16
                        clear c16
                        by_cases c17 : (wrap64 (bt x6_1 0)) = 255
                        · rw [if_pos c17] at H
                          have c17b0 : ((wrap64 (bt x6_1 0)) == 255) = true := beq_iff_eq.mpr c17
                          have c17b1 : ((wrap64 (bt x6_1 0)) != 255) = false := bne_eq_false_iff_eq.mpr c17
                          clear c17
                          by_cases c18 : x5_1.length < 5864062014805
                          · rw [if_pos c18] at H
                            have LMc18 := Aside0.mk c18
                            clear c18
                            obtain ⟨y106, hy106⟩ : ∃ y_ : List (S33), y_ = (x5_1 ++ [(⟨false, (⟨#[]⟩ : ByteArray)⟩ : S33)]) := ⟨_, rfl⟩
                            replace H : (slab_Decode.l0 k1 a0 t102 y106 (x6_1.extract 1 x6_1.size) (bt a0 8) ((x22_1 + 1) % 256)) = some (r1, r2, r3) := by first | (rw [hy106]; with_reducible exact H) | (have H2_ := (Option.bind_some _ _).symm.trans H; rw [hy106]; with_reducible exact H2_) | (have H2_ := (Option.bind_some _ _).symm.trans H; with_reducible exact H2_) | with_reducible exact H | (rw [hy106]; exact H) | exact H
                            have Ny106 := Aside0.mk hy106
                            clear hy106
                            have H' := Aside0.mk H
                            clear H
                            have p15 : 0 ≤ (0 : Int) := (by omega)
                            have q15 : 0 < x6_1.size := (by have : (0 : Int) < (x6_1.size : Int) := of_decide_eq_true (by first | (with_reducible assumption) | assumption); omega)
                            have hx15 : ∀ h : 0 < x6_1.size, ((x6_1[0]'h).toNat : Int) = bt x6_1 0 := bt_at x6_1 0
                            clear p15
                            have qi15 : (0 < (x6_1.size : Int)) = True := eq_true (of_decide_eq_true (by first | (with_reducible assumption) | assumption))
                            replace q15 := eq_true q15
                            go_wp2_with (first | ((with_reducible refine gate_builtin (b := .append) (xs := #[.tmp 35, .tmp 37]) rfl ?_); at_builtin; refine Kd.R_append k33 (w0 := w) w.heap.size rfl (.tmp 35) (.tmp 37) 22 33 (.agg #[(.bool false), (.string ⟨#[]⟩)]) 24 rfl Try.underlying22 info33 rfl (by decide) (by omega) u5 x5_1 (⟨false, (⟨#[]⟩ : ByteArray)⟩ : S33) [.bool false, .string (⟨#[]⟩ : ByteArray)] (fun _ => True) (fun _ => False) rfl rfl ?aP (fun _ hk => hk.elim) ?aF ?aO ?aB ?aS ?aL ?_; (case aP => exact k33_mkM _ _ _ (⟨false, (⟨#[]⟩ : ByteArray)⟩ : S33)); (case aB => exact (by repeat (first | (with_reducible first | exact HB.out | apply below_alloc | apply pw_below_drewN | apply below_drew1 | refine below_set ?_ GE101.out) | exact HB.out))); (case aF => exact (fun _ _ => trivial)); (case aO => exact (by (with_reducible repeat (first | apply Kd.R_alloc | apply Kd.R_drewN | apply Kd.R_drew)); exact HO_5.out)); (case aS => exact (below_size (by repeat (first | (with_reducible first | exact HB.out | apply below_alloc | apply pw_below_drewN | apply below_drew1 | refine below_set ?_ GE101.out) | exact HB.out)))); (case aL => have := LMc18.out; omega); intro v107 w19 ho hb hg hat; rw [← Ny106.out] at ho; have n0_ := Aside0.mk (blk_grown (g := gb101) (o := .cells #[.int .i64 x102000_1, .slice none 0 0] 24 (0, 0)) (by (with_reducible repeat (first | refine blk_drewN ?_ _ | refine blk_drew ?_ | refine blk_alloc ?_ _)); exact BK101.out) hg (Kd.R_ne HO_5.out BK101.out (by decide))); have n1_ := Aside0.mk (hb); have n2_ := Aside0.mk (ho); clear BK101; clear HB; clear HO_5; have BK101 := n0_; have HB := n1_; have HO108 := n2_; clear n0_ n1_ n2_; clear ho hb hg hat))
                            go_roundg k1
                            case measure => have := HK1.out; omega
                            case rel => exact ⟨(y106), (x6_1.extract 1 x6_1.size), ((x22_1 + 1) % 256), (x102000_1), (by first | rfl | (simp; done) | (simp [*]; done)), (by first | rfl | (simp; done) | (simp [*]; done)), H', ⟨by have := HK1.out; omega⟩, ⟨by (with_reducible repeat (first | apply Kd.R_alloc | apply Kd.R_drewN | apply Kd.R_drew)); exact HO108.out⟩, ⟨by (with_reducible repeat (first | refine blk_drewN ?_ _ | refine blk_drew ?_ | refine blk_alloc ?_ _)); exact BK101.out⟩, ⟨by repeat (first | (with_reducible first | exact HB.out | apply below_alloc | apply pw_below_drewN | apply below_drew1 | refine below_set ?_ GE101.out) | exact HB.out)⟩⟩
                          · rw [if_neg c18] at H
                            exact absurd H (by simp)
                        · rw [if_neg c17] at H
                          have c17b0 : ((wrap64 (bt x6_1 0)) == 255) = false := beq_eq_false_iff_ne.mpr c17
                          have c17b1 : ((wrap64 (bt x6_1 0)) != 255) = true := bne_iff_ne.mpr c17
                          by_cases c20 : (wrap64 (bt x6_1 0)) > ((x6_1.extract 1 x6_1.size).size : Int)
                          · rw [if_pos c20] at H
                            have hsz : (x6_1.extract 1 x6_1.size).size = x6_1.size - 1 := (by simp [ByteArray.size_extract]); have c20b0 : decide (((x6_1.extract 1 x6_1.size).size : Int) < (wrap64 (bt x6_1 0))) = true := decide_eq_true c20; have c20b2 : decide (((x6_1.size - 1 : Nat) : Int) < (wrap64 (bt x6_1 0))) = true := (by rw [← hsz]; exact c20b0)
                            clear c20
                            simp only [Option.some.injEq, Prod.mk.injEq] at H
                            obtain ⟨rfl, rfl, rfl⟩ := H
                            have p15 : 0 ≤ (0 : Int) := (by omega)
                            have q15 : 0 < x6_1.size := (by have : (0 : Int) < (x6_1.size : Int) := of_decide_eq_true (by first | (with_reducible assumption) | assumption); omega)
                            have hx15 : ∀ h : 0 < x6_1.size, ((x6_1[0]'h).toNat : Int) = bt x6_1 0 := bt_at x6_1 0
                            clear p15
                            have qi15 : (0 < (x6_1.size : Int)) = True := eq_true (of_decide_eq_true (by first | (with_reducible assumption) | assumption))
                            replace q15 := eq_true q15
                            have hcz21_0 : wr.cell? ⟨gb101, 0, none⟩ = some (.int .i64 x102000_1) := (blk_cell BK101.out 0).trans rfl
                            have hcz21_1 : wr.cell? ⟨gb101, 1, none⟩ = some (.slice none 0 0) := (blk_cell BK101.out 1).trans rfl
                            have hfz21_0 := blk_frozen BK101.out 0
                            have hfz21_1 := blk_frozen BK101.out 1
                            go_wp2
                            refine bodyPost_ret (results_ct rfl _ _ gb101 24 #[.int .i64 0, .slice none 0 0] (0, 0) _ rfl (by (with_reducible repeat (first | refine blk_drewN ?_ _ | refine blk_drew ?_ | refine blk_alloc ?_ _)); refine blk_put (cs := #[.int .i64 0, .slice none 0 0]) ?_ 1 _ rfl; (with_reducible repeat (first | refine blk_drewN ?_ _ | refine blk_drew ?_ | refine blk_alloc ?_ _)); refine blk_put (cs := #[.int .i64 x102000_1, .slice none 0 0]) ?_ 0 _ rfl; (with_reducible repeat (first | refine blk_drewN ?_ _ | refine blk_drew ?_ | refine blk_alloc ?_ _)); exact BK101.out) Try.underlying24 rfl (by kernel_rfl)) rfl ?_
                            exact ⟨_, by first | rfl | (simp [errW_none, errW_some] <;> rfl) | (simp [*, errW_none, errW_some] <;> rfl), by first | exact Kd.R_nil _ _ _ _ _ | exact Kd.N_nil _ _ _ _ _ | exact Kd.V_nil _ _ _ _ _ | exact Kd.Q_nil _ _ _ _ _ | exact Kd.S_nil _ _ _ _ _, by repeat (first | (with_reducible first | exact HB.out | apply below_alloc | apply pw_below_drewN | apply below_drew1 | refine below_set ?_ GE101.out) | exact HB.out)⟩
                          · rw [if_neg c20] at H
                            have hsz : (x6_1.extract 1 x6_1.size).size = x6_1.size - 1 := (by simp [ByteArray.size_extract]); have c20b0 : decide (((x6_1.extract 1 x6_1.size).size : Int) < (wrap64 (bt x6_1 0))) = false := decide_eq_false c20; have c20b2 : decide (((x6_1.size - 1 : Nat) : Int) < (wrap64 (bt x6_1 0))) = false := (by rw [← hsz]; exact c20b0)
                            clear c20
                            obtain ⟨ji22, hji22⟩ : ∃ j_ : Int, (wrap64 (bt x6_1 0)) = j_ := ⟨_, rfl⟩
                            replace H : (if 0 ≤ (ji22) then (if (ji22) ≤ ((x6_1.extract 1 x6_1.size).size : Int) then (if x5_1.length < 5864062014805 then (slab_Decode.l0 k1 a0 t102 (x5_1 ++ [(⟨true, (x6_1.extract 1 x6_1.size).extract 0 ((ji22) : Int).toNat⟩ : S33)]) ((x6_1.extract 1 x6_1.size).extract ((ji22) : Int).toNat (x6_1.extract 1 x6_1.size).size) (bt a0 8) ((x22_1 + 1) % 256)) else (none)) else (none)) else (none)) = some (r1, r2, r3) := by first | (rw [hji22] at H; exact H) | (simp only [hji22] at H ⊢; exact H)
                            (try rw [hji22] at c17b0)
                            (try rw [hji22] at c17b1)
                            (try rw [hji22] at c20b0)
                            have hji22w : (IntKind.i64.wrap (bt x6_1 0)) = ji22 := (i64_w _).trans hji22
                            by_cases c23 : 0 ≤ (ji22)
                            · rw [if_pos c23] at H
                              have c23b0 := eq_true c23
                              have c23b1 : decide (0 ≤ (ji22)) = true := decide_eq_true c23
                              clear c23
                              by_cases c24 : (ji22) ≤ ((x6_1.extract 1 x6_1.size).size : Int)
                              · rw [if_pos c24] at H
                                have c24b0 := eq_true c24
                                have c24b1 : decide ((ji22) ≤ ((x6_1.extract 1 x6_1.size).size : Int)) = true := decide_eq_true c24; have c24b2 : decide ((ji22) ≤ ((x6_1.size - 1 : Nat) : Int)) = true := (by rw [← hsz]; exact c24b1); have c24b3 : (ji22) ≤ ((x6_1.size - 1 : Nat) : Int) := of_decide_eq_true c24b2
                                clear c24
                                by_cases c25 : x5_1.length < 5864062014805
                                · rw [if_pos c25] at H
                                  have LMc25 := Aside0.mk c25
                                  clear c25
                                  obtain ⟨y109, hy109⟩ : ∃ y_ : List (S33), y_ = (x5_1 ++ [(⟨true, (x6_1.extract 1 x6_1.size).extract 0 ((ji22) : Int).toNat⟩ : S33)]) := ⟨_, rfl⟩
                                  replace H : (slab_Decode.l0 k1 a0 t102 y109 ((x6_1.extract 1 x6_1.size).extract ((ji22) : Int).toNat (x6_1.extract 1 x6_1.size).size) (bt a0 8) ((x22_1 + 1) % 256)) = some (r1, r2, r3) := by first | (rw [hy109]; with_reducible exact H) | (have H2_ := (Option.bind_some _ _).symm.trans H; rw [hy109]; with_reducible exact H2_) | (have H2_ := (Option.bind_some _ _).symm.trans H; with_reducible exact H2_) | with_reducible exact H | (rw [hy109]; exact H) | exact H
                                  have Ny109 := Aside0.mk hy109
                                  clear hy109
                                  have c26b0 := eq_true (of_decide_eq_true (by first | (with_reducible assumption) | assumption) : 0 ≤ (ji22))
                                  have c27b0 := eq_true (of_decide_eq_true (by first | (with_reducible assumption) | assumption) : (ji22) ≤ ((x6_1.extract 1 x6_1.size).size : Int))
                                  have H' := Aside0.mk H
                                  clear H
                                  have p15 : 0 ≤ (0 : Int) := (by omega)
                                  have q15 : 0 < x6_1.size := (by have : (0 : Int) < (x6_1.size : Int) := of_decide_eq_true (by first | (with_reducible assumption) | assumption); omega)
                                  have hx15 : ∀ h : 0 < x6_1.size, ((x6_1[0]'h).toNat : Int) = bt x6_1 0 := bt_at x6_1 0
                                  clear p15
                                  have qi15 : (0 < (x6_1.size : Int)) = True := eq_true (of_decide_eq_true (by first | (with_reducible assumption) | assumption))
                                  replace q15 := eq_true q15
                                  go_wp2_with (first | ((with_reducible refine gate_builtin (b := .append) (xs := #[.tmp 45, .tmp 50]) rfl ?_); at_builtin; refine Kd.R_append k33 (w0 := w) w.heap.size rfl (.tmp 45) (.tmp 50) 22 33 (.agg #[(.bool false), (.string ⟨#[]⟩)]) 24 rfl Try.underlying22 info33 rfl (by decide) (by omega) u5 x5_1 (⟨true, (x6_1.extract 1 x6_1.size).extract 0 ((ji22) : Int).toNat⟩ : S33) [.bool true, .string ((x6_1.extract 1 x6_1.size).extract 0 ((ji22) : Int).toNat)] (fun _ => True) (fun _ => False) rfl rfl ?aP (fun _ hk => hk.elim) ?aF ?aO ?aB ?aS ?aL ?_; (case aP => exact k33_mkM _ _ _ (⟨true, (x6_1.extract 1 x6_1.size).extract 0 ((ji22) : Int).toNat⟩ : S33)); (case aB => exact (by repeat (first | (with_reducible first | exact HB.out | apply below_alloc | apply pw_below_drewN | apply below_drew1 | refine below_set ?_ GE101.out) | exact HB.out))); (case aF => exact (fun _ _ => trivial)); (case aO => exact (by (with_reducible repeat (first | apply Kd.R_alloc | apply Kd.R_drewN | apply Kd.R_drew)); exact HO_5.out)); (case aS => exact (below_size (by repeat (first | (with_reducible first | exact HB.out | apply below_alloc | apply pw_below_drewN | apply below_drew1 | refine below_set ?_ GE101.out) | exact HB.out)))); (case aL => have := LMc25.out; omega); intro v110 w28 ho hb hg hat; rw [← Ny109.out] at ho; have n0_ := Aside0.mk (blk_grown (g := gb101) (o := .cells #[.int .i64 x102000_1, .slice none 0 0] 24 (0, 0)) (by (with_reducible repeat (first | refine blk_drewN ?_ _ | refine blk_drew ?_ | refine blk_alloc ?_ _)); exact BK101.out) hg (Kd.R_ne HO_5.out BK101.out (by decide))); have n1_ := Aside0.mk (hb); have n2_ := Aside0.mk (ho); clear BK101; clear HB; clear HO_5; have BK101 := n0_; have HB := n1_; have HO111 := n2_; clear n0_ n1_ n2_; clear ho hb hg hat))
                                  go_roundg k1
                                  case measure => have := HK1.out; omega
                                  case rel => exact ⟨(y109), ((x6_1.extract 1 x6_1.size).extract ((ji22) : Int).toNat (x6_1.extract 1 x6_1.size).size), ((x22_1 + 1) % 256), (x102000_1), (by first | rfl | (simp; done) | (simp only [← hji22] <;> (first | rfl | simp)) | (simp [*]; done)), (by first | rfl | (simp; done) | (simp [*]; done)), H', ⟨by have := HK1.out; omega⟩, ⟨by (with_reducible repeat (first | apply Kd.R_alloc | apply Kd.R_drewN | apply Kd.R_drew)); exact HO111.out⟩, ⟨by (with_reducible repeat (first | refine blk_drewN ?_ _ | refine blk_drew ?_ | refine blk_alloc ?_ _)); exact BK101.out⟩, ⟨by repeat (first | (with_reducible first | exact HB.out | apply below_alloc | apply pw_below_drewN | apply below_drew1 | refine below_set ?_ GE101.out) | exact HB.out)⟩⟩
                                · rw [if_neg c25] at H
                                  exact absurd H (by simp)
                              · rw [if_neg c24] at H
                                exact absurd H (by simp)
                            · rw [if_neg c23] at H
                              exact absurd H (by simp)
                      · rw [if_neg c16] at H
                        exact absurd H (by simp)
                    · rw [if_neg c14] at H
                      exact absurd H (by simp)
                · rw [if_neg c11] at H
                  have c11b0 : decide (x22_1 < (bt a0 8)) = false := decide_eq_false c11
                  clear c11
                  replace H := Option.bind_eq_some_iff.mp H
                  obtain ⟨⟨t104, t105⟩, A290, H⟩ := H
                  replace H : (if t102 > 1099511627776 then (some (0, ([] : List (S33)), 4)) else (if t105 = 0 then (if t104.toList = a0.toList then (some (wrap64 (t102), x5_1, 0)) else (some (0, ([] : List (S33)), 4))) else (some (0, ([] : List (S33)), 4)))) = some (r1, r2, r3) := H
                  have A29 := Aside0.mk A290
                  clear A290
                  by_cases c30 : t102 > 1099511627776
                  · rw [if_pos c30] at H
                    have c30b0 : decide (1099511627776 < t102) = true := decide_eq_true c30
                    clear c30
                    simp only [Option.some.injEq, Prod.mk.injEq] at H
                    obtain ⟨rfl, rfl, rfl⟩ := H
                    obtain ⟨Ao31, co31, eo31⟩ := Kd.R_slice HO_5.out
                    subst eo31
                    go_wp2_with (first | ((with_reducible refine gate_dst (N := 8) rfl ?_); refine box_event ?hg (N := 8) ?hd (cs := #[.int .i64 0, .slice none 0 0]) (t := 24) ?hr ?_; (case hd => rfl); (case hg => rfl); (case hr => first | (go_simp; done) | (go_simp; rfl)); intro gb103 hg w32 hbox hb; have n0_ := Aside0.mk (Kd.R_below (by (with_reducible repeat (first | apply Kd.R_alloc | apply Kd.R_drewN | apply Kd.R_drew)); exact HO_5.out) hb); have n1_ := Aside0.mk (blk_below (g := gb101) (o := .cells #[.int .i64 x102000_1, .slice none 0 0] 24 (0, 0)) (by (with_reducible repeat (first | refine blk_drewN ?_ _ | refine blk_drew ?_ | refine blk_alloc ?_ _)); exact BK101.out) hb); have n2_ := Aside0.mk (below_step (by repeat (first | (with_reducible first | exact HB.out | apply below_alloc | apply pw_below_drewN | apply below_drew1 | refine below_set ?_ GE101.out) | exact HB.out)) hb); have n3_ := Aside0.mk (hbox); have n4_ := Aside0.mk ((by rw [hg]; exact (below_size (by repeat (first | (with_reducible first | exact HB.out | apply below_alloc | apply pw_below_drewN | apply below_drew1 | refine below_set ?_ GE101.out) | exact HB.out))) : w.heap.size ≤ gb103)); have n5_ := Aside0.mk ((by rw [hg]; exact (below_size (by repeat (first | (with_reducible first | exact HB.out | apply below_alloc | apply pw_below_drewN | apply below_drew1 | refine below_set ?_ GE101.out) | exact HB.out))) : w.heap.size ≤ gb103)); have n6_ := Aside0.mk ((by rw [hg]; exact Nat.ne_of_lt (blk_lt (g := gb101) (o := .cells #[.int .i64 x102000_1, .slice none 0 0] 24 (0, 0)) (by (with_reducible repeat (first | refine blk_drewN ?_ _ | refine blk_drew ?_ | refine blk_alloc ?_ _)); exact BK101.out)) : gb101 ≠ gb103)); have n7_ := Aside0.mk ((by rw [hg]; exact Nat.ne_of_gt (blk_lt (g := gb101) (o := .cells #[.int .i64 x102000_1, .slice none 0 0] 24 (0, 0)) (by (with_reducible repeat (first | refine blk_drewN ?_ _ | refine blk_drew ?_ | refine blk_alloc ?_ _)); exact BK101.out)) : gb103 ≠ gb101)); clear HO_5; clear BK101; clear HB; have HO_5 := n0_; have BK101 := n1_; have HB := n2_; have BK103 := n3_; have GW103 := n4_; have GE103 := n5_; have NB101_103 := n6_; have NB103_101 := n7_; clear n0_ n1_ n2_ n3_ n4_ n5_ n6_ n7_; clear hb hbox hg; have hnb33 := NB103_101.out; have hnc33 := NB101_103.out; have hcz34_0 : w32.cell? ⟨gb103, 0, none⟩ = some (.int .i64 0) := (blk_cell BK103.out 0).trans rfl; have hcz34_1 : w32.cell? ⟨gb103, 1, none⟩ = some (.slice none 0 0) := (blk_cell BK103.out 1).trans rfl; have hfz34_0 := blk_frozen BK103.out 0; have hfz34_1 := blk_frozen BK103.out 1) | ((with_reducible refine gate_callee (f := 32) rfl ?_); refine goesL_ (some 62) rfl rfl Try.func32 (by kernel_rfl) rfl #[.agg #[.int .i64 (wrap64 (t102)), .slice Ao31 x5_1.length co31]] rfl (by (try simp only [List.map_toArray, List.map_cons, List.map_nil]); first | done | rfl | (simp only [List.length_drop, List.length_take]; rfl)) ?_; (with_reducible refine (slab_Encode.calls (wrap64 (t102)) _ _ x5_1 t104 t105 _ ?side1 ?side2 A29.out).mono ?_); (case side1 => refine (Kd.R_reads' (e := 33) (base := w.heap.size) (ok := fun k_ => True) (n := x5_1.length) (c := co31) ?_).2.2; exact (by (with_reducible repeat (first | apply Kd.R_alloc | apply Kd.R_drewN | apply Kd.R_drew)); exact (Kd.R_mono (Kd.R_far (p := ⟨gb103, 1, none⟩) (Kd.R_far (p := ⟨gb103, 0, none⟩) (Kd.R_types HO_5.out BK103.out (by decide)) (fun _ hk => hk.2) (.int .i64 (wrap64 (t102)))) (fun _ hk => hk.2) (.slice Ao31 x5_1.length co31)) (fun _ h_ => h_.1)))); (case side2 => exact (Kd.R_reads' HO_5.out).2.1); rintro e w35 ⟨rfl, hb⟩; refine ⟨_, rfl, ?_⟩; have n0_ := Aside0.mk (Kd.R_below (by (with_reducible repeat (first | apply Kd.R_alloc | apply Kd.R_drewN | apply Kd.R_drew)); exact (Kd.R_mono (Kd.R_far (p := ⟨gb103, 1, none⟩) (Kd.R_far (p := ⟨gb103, 0, none⟩) (Kd.R_types HO_5.out BK103.out (by decide)) (fun _ hk => hk.2) (.int .i64 (wrap64 (t102)))) (fun _ hk => hk.2) (.slice Ao31 x5_1.length co31)) (fun _ h_ => h_.1))) hb); have n1_ := Aside0.mk (blk_below (g := gb101) (o := .cells #[.int .i64 x102000_1, .slice none 0 0] 24 (0, 0)) (by (with_reducible repeat (first | refine blk_drewN ?_ _ | refine blk_drew ?_ | refine blk_alloc ?_ _)); refine blk_far ?_ NB101_103.out _; (with_reducible repeat (first | refine blk_drewN ?_ _ | refine blk_drew ?_ | refine blk_alloc ?_ _)); refine blk_far ?_ NB101_103.out _; (with_reducible repeat (first | refine blk_drewN ?_ _ | refine blk_drew ?_ | refine blk_alloc ?_ _)); exact BK101.out) hb); have n2_ := Aside0.mk (blk_below (g := gb103) (o := .cells #[.int .i64 (wrap64 (t102)), .slice Ao31 x5_1.length co31] 24 (0, 0)) (by (with_reducible repeat (first | refine blk_drewN ?_ _ | refine blk_drew ?_ | refine blk_alloc ?_ _)); refine blk_put (cs := #[.int .i64 (wrap64 (t102)), .slice none 0 0]) ?_ 1 _ rfl; (with_reducible repeat (first | refine blk_drewN ?_ _ | refine blk_drew ?_ | refine blk_alloc ?_ _)); refine blk_put (cs := #[.int .i64 0, .slice none 0 0]) ?_ 0 _ rfl; (with_reducible repeat (first | refine blk_drewN ?_ _ | refine blk_drew ?_ | refine blk_alloc ?_ _)); exact BK103.out) hb); have n3_ := Aside0.mk (below_step (by repeat (first | (with_reducible first | exact HB.out | apply below_alloc | apply pw_below_drewN | apply below_drew1 | refine below_set ?_ GE101.out | refine below_set ?_ GE103.out) | exact HB.out)) hb); clear HO_5; clear BK101; clear BK103; clear HB; have HO_5 := n0_; have BK101 := n1_; have BK103 := n2_; have HB := n3_; clear n0_ n1_ n2_ n3_; (try clear hb); (try clear hb2); (try clear hk); (try clear hi); have hcz36_0 : w35.cell? ⟨gb101, 0, none⟩ = some (.int .i64 x102000_1) := (blk_cell BK101.out 0).trans rfl; have hcz36_1 : w35.cell? ⟨gb101, 1, none⟩ = some (.slice none 0 0) := (blk_cell BK101.out 1).trans rfl; have hfz36_0 := blk_frozen BK101.out 0; have hfz36_1 := blk_frozen BK101.out 1))
                    refine bodyPost_ret (results_ct rfl _ _ gb101 24 #[.int .i64 0, .slice none 0 0] (0, 0) _ rfl (by (with_reducible repeat (first | refine blk_drewN ?_ _ | refine blk_drew ?_ | refine blk_alloc ?_ _)); refine blk_put (cs := #[.int .i64 0, .slice none 0 0]) ?_ 1 _ rfl; (with_reducible repeat (first | refine blk_drewN ?_ _ | refine blk_drew ?_ | refine blk_alloc ?_ _)); refine blk_put (cs := #[.int .i64 x102000_1, .slice none 0 0]) ?_ 0 _ rfl; (with_reducible repeat (first | refine blk_drewN ?_ _ | refine blk_drew ?_ | refine blk_alloc ?_ _)); exact BK101.out) Try.underlying24 rfl (by kernel_rfl)) rfl ?_
                    exact ⟨_, by first | rfl | (simp [errW_none, errW_some] <;> rfl) | (simp [*, errW_none, errW_some] <;> rfl), by first | exact Kd.R_nil _ _ _ _ _ | exact Kd.N_nil _ _ _ _ _ | exact Kd.V_nil _ _ _ _ _ | exact Kd.Q_nil _ _ _ _ _ | exact Kd.S_nil _ _ _ _ _, by repeat (first | (with_reducible first | exact HB.out | apply below_alloc | apply pw_below_drewN | apply below_drew1 | refine below_set ?_ GE101.out | refine below_set ?_ GE103.out) | exact HB.out)⟩
                  · rw [if_neg c30] at H
                    have c30b0 : decide (1099511627776 < t102) = false := decide_eq_false c30
                    clear c30
                    by_cases c37 : t105 = 0
                    · rw [if_pos c37] at H
                      have c37b0 : (t105 == 0) = true := beq_iff_eq.mpr c37
                      have c37b1 : (t105 != 0) = false := bne_eq_false_iff_eq.mpr c37
                      clear c37
                      by_cases c38 : t104.toList = a0.toList
                      · rw [if_pos c38] at H
                        have c38b0 : (t104.toList == a0.toList) = true := beq_iff_eq.mpr c38
                        have c38b1 : (t104.toList != a0.toList) = false := bne_eq_false_iff_eq.mpr c38
                        clear c38
                        simp only [Option.some.injEq, Prod.mk.injEq] at H
                        obtain ⟨rfl, rfl, rfl⟩ := H
                        obtain ⟨Ao39, co39, eo39⟩ := Kd.R_slice HO_5.out
                        subst eo39
                        go_wp2_with (first | ((with_reducible refine gate_dst (N := 8) rfl ?_); refine box_event ?hg (N := 8) ?hd (cs := #[.int .i64 0, .slice none 0 0]) (t := 24) ?hr ?_; (case hd => rfl); (case hg => rfl); (case hr => first | (go_simp; done) | (go_simp; rfl)); intro gb103 hg w40 hbox hb; have n0_ := Aside0.mk (Kd.R_below (by (with_reducible repeat (first | apply Kd.R_alloc | apply Kd.R_drewN | apply Kd.R_drew)); exact HO_5.out) hb); have n1_ := Aside0.mk (blk_below (g := gb101) (o := .cells #[.int .i64 x102000_1, .slice none 0 0] 24 (0, 0)) (by (with_reducible repeat (first | refine blk_drewN ?_ _ | refine blk_drew ?_ | refine blk_alloc ?_ _)); exact BK101.out) hb); have n2_ := Aside0.mk (below_step (by repeat (first | (with_reducible first | exact HB.out | apply below_alloc | apply pw_below_drewN | apply below_drew1 | refine below_set ?_ GE101.out) | exact HB.out)) hb); have n3_ := Aside0.mk (hbox); have n4_ := Aside0.mk ((by rw [hg]; exact (below_size (by repeat (first | (with_reducible first | exact HB.out | apply below_alloc | apply pw_below_drewN | apply below_drew1 | refine below_set ?_ GE101.out) | exact HB.out))) : w.heap.size ≤ gb103)); have n5_ := Aside0.mk ((by rw [hg]; exact (below_size (by repeat (first | (with_reducible first | exact HB.out | apply below_alloc | apply pw_below_drewN | apply below_drew1 | refine below_set ?_ GE101.out) | exact HB.out))) : w.heap.size ≤ gb103)); have n6_ := Aside0.mk ((by rw [hg]; exact Nat.ne_of_lt (blk_lt (g := gb101) (o := .cells #[.int .i64 x102000_1, .slice none 0 0] 24 (0, 0)) (by (with_reducible repeat (first | refine blk_drewN ?_ _ | refine blk_drew ?_ | refine blk_alloc ?_ _)); exact BK101.out)) : gb101 ≠ gb103)); have n7_ := Aside0.mk ((by rw [hg]; exact Nat.ne_of_gt (blk_lt (g := gb101) (o := .cells #[.int .i64 x102000_1, .slice none 0 0] 24 (0, 0)) (by (with_reducible repeat (first | refine blk_drewN ?_ _ | refine blk_drew ?_ | refine blk_alloc ?_ _)); exact BK101.out)) : gb103 ≠ gb101)); clear HO_5; clear BK101; clear HB; have HO_5 := n0_; have BK101 := n1_; have HB := n2_; have BK103 := n3_; have GW103 := n4_; have GE103 := n5_; have NB101_103 := n6_; have NB103_101 := n7_; clear n0_ n1_ n2_ n3_ n4_ n5_ n6_ n7_; clear hb hbox hg; have hnb41 := NB103_101.out; have hnc41 := NB101_103.out; have hcz42_0 : w40.cell? ⟨gb103, 0, none⟩ = some (.int .i64 0) := (blk_cell BK103.out 0).trans rfl; have hcz42_1 : w40.cell? ⟨gb103, 1, none⟩ = some (.slice none 0 0) := (blk_cell BK103.out 1).trans rfl; have hfz42_0 := blk_frozen BK103.out 0; have hfz42_1 := blk_frozen BK103.out 1) | ((with_reducible refine gate_callee (f := 32) rfl ?_); refine goesL_ (some 62) rfl rfl Try.func32 (by kernel_rfl) rfl #[.agg #[.int .i64 (wrap64 (t102)), .slice Ao39 x5_1.length co39]] rfl (by (try simp only [List.map_toArray, List.map_cons, List.map_nil]); first | done | rfl | (simp only [List.length_drop, List.length_take]; rfl)) ?_; (with_reducible refine (slab_Encode.calls (wrap64 (t102)) _ _ x5_1 t104 t105 _ ?side1 ?side2 A29.out).mono ?_); (case side1 => refine (Kd.R_reads' (e := 33) (base := w.heap.size) (ok := fun k_ => True) (n := x5_1.length) (c := co39) ?_).2.2; exact (by (with_reducible repeat (first | apply Kd.R_alloc | apply Kd.R_drewN | apply Kd.R_drew)); exact (Kd.R_mono (Kd.R_far (p := ⟨gb103, 1, none⟩) (Kd.R_far (p := ⟨gb103, 0, none⟩) (Kd.R_types HO_5.out BK103.out (by decide)) (fun _ hk => hk.2) (.int .i64 (wrap64 (t102)))) (fun _ hk => hk.2) (.slice Ao39 x5_1.length co39)) (fun _ h_ => h_.1)))); (case side2 => exact (Kd.R_reads' HO_5.out).2.1); rintro e w43 ⟨rfl, hb⟩; refine ⟨_, rfl, ?_⟩; have n0_ := Aside0.mk (Kd.R_below (by (with_reducible repeat (first | apply Kd.R_alloc | apply Kd.R_drewN | apply Kd.R_drew)); exact (Kd.R_mono (Kd.R_far (p := ⟨gb103, 1, none⟩) (Kd.R_far (p := ⟨gb103, 0, none⟩) (Kd.R_types HO_5.out BK103.out (by decide)) (fun _ hk => hk.2) (.int .i64 (wrap64 (t102)))) (fun _ hk => hk.2) (.slice Ao39 x5_1.length co39)) (fun _ h_ => h_.1))) hb); have n1_ := Aside0.mk (blk_below (g := gb101) (o := .cells #[.int .i64 x102000_1, .slice none 0 0] 24 (0, 0)) (by (with_reducible repeat (first | refine blk_drewN ?_ _ | refine blk_drew ?_ | refine blk_alloc ?_ _)); refine blk_far ?_ NB101_103.out _; (with_reducible repeat (first | refine blk_drewN ?_ _ | refine blk_drew ?_ | refine blk_alloc ?_ _)); refine blk_far ?_ NB101_103.out _; (with_reducible repeat (first | refine blk_drewN ?_ _ | refine blk_drew ?_ | refine blk_alloc ?_ _)); exact BK101.out) hb); have n2_ := Aside0.mk (blk_below (g := gb103) (o := .cells #[.int .i64 (wrap64 (t102)), .slice Ao39 x5_1.length co39] 24 (0, 0)) (by (with_reducible repeat (first | refine blk_drewN ?_ _ | refine blk_drew ?_ | refine blk_alloc ?_ _)); refine blk_put (cs := #[.int .i64 (wrap64 (t102)), .slice none 0 0]) ?_ 1 _ rfl; (with_reducible repeat (first | refine blk_drewN ?_ _ | refine blk_drew ?_ | refine blk_alloc ?_ _)); refine blk_put (cs := #[.int .i64 0, .slice none 0 0]) ?_ 0 _ rfl; (with_reducible repeat (first | refine blk_drewN ?_ _ | refine blk_drew ?_ | refine blk_alloc ?_ _)); exact BK103.out) hb); have n3_ := Aside0.mk (below_step (by repeat (first | (with_reducible first | exact HB.out | apply below_alloc | apply pw_below_drewN | apply below_drew1 | refine below_set ?_ GE101.out | refine below_set ?_ GE103.out) | exact HB.out)) hb); clear HO_5; clear BK101; clear BK103; clear HB; have HO_5 := n0_; have BK101 := n1_; have BK103 := n2_; have HB := n3_; clear n0_ n1_ n2_ n3_; (try clear hb); (try clear hb2); (try clear hk); (try clear hi); have hcz44_0 : w43.cell? ⟨gb103, 0, none⟩ = some (.int .i64 (wrap64 (t102))) := (blk_cell BK103.out 0).trans rfl; have hcz44_1 : w43.cell? ⟨gb103, 1, none⟩ = some (.slice Ao39 x5_1.length co39) := (blk_cell BK103.out 1).trans rfl; have hfz44_0 := blk_frozen BK103.out 0; have hfz44_1 := blk_frozen BK103.out 1; have hcz45_0 : w43.cell? ⟨gb101, 0, none⟩ = some (.int .i64 x102000_1) := (blk_cell BK101.out 0).trans rfl; have hcz45_1 : w43.cell? ⟨gb101, 1, none⟩ = some (.slice none 0 0) := (blk_cell BK101.out 1).trans rfl; have hfz45_0 := blk_frozen BK101.out 0; have hfz45_1 := blk_frozen BK101.out 1))
                        refine bodyPost_ret (results_ct rfl _ _ gb101 24 #[.int .i64 (wrap64 (t102)), .slice Ao39 x5_1.length co39] (0, 0) _ rfl (by (with_reducible repeat (first | refine blk_drewN ?_ _ | refine blk_drew ?_ | refine blk_alloc ?_ _)); refine blk_put (cs := #[.int .i64 (wrap64 (t102)), .slice none 0 0]) ?_ 1 _ rfl; (with_reducible repeat (first | refine blk_drewN ?_ _ | refine blk_drew ?_ | refine blk_alloc ?_ _)); refine blk_put (cs := #[.int .i64 x102000_1, .slice none 0 0]) ?_ 0 _ rfl; (with_reducible repeat (first | refine blk_drewN ?_ _ | refine blk_drew ?_ | refine blk_alloc ?_ _)); exact BK101.out) Try.underlying24 rfl (by kernel_rfl)) rfl ?_
                        exact ⟨_, by first | rfl | (simp [errW_none, errW_some] <;> rfl) | (simp [*, errW_none, errW_some] <;> rfl), by (with_reducible repeat (first | apply Kd.R_alloc | apply Kd.R_drewN | apply Kd.R_drew)); exact Kd.R_mono (Kd.R_far (p := ⟨gb101, 1, none⟩) (Kd.R_far (p := ⟨gb101, 0, none⟩) (Kd.R_types HO_5.out BK101.out (by decide)) (fun _ hk => hk.2) (.int .i64 (wrap64 (t102)))) (fun _ hk => hk.2) (.slice Ao39 x5_1.length co39)) (fun _ hk => trivial), by repeat (first | (with_reducible first | exact HB.out | apply below_alloc | apply pw_below_drewN | apply below_drew1 | refine below_set ?_ GE101.out | refine below_set ?_ GE103.out) | exact HB.out)⟩
                      · rw [if_neg c38] at H
                        have c38b0 : (t104.toList == a0.toList) = false := beq_eq_false_iff_ne.mpr c38
                        have c38b1 : (t104.toList != a0.toList) = true := bne_iff_ne.mpr c38
                        simp only [Option.some.injEq, Prod.mk.injEq] at H
                        obtain ⟨rfl, rfl, rfl⟩ := H
                        obtain ⟨Ao46, co46, eo46⟩ := Kd.R_slice HO_5.out
                        subst eo46
                        go_wp2_with (first | ((with_reducible refine gate_dst (N := 8) rfl ?_); refine box_event ?hg (N := 8) ?hd (cs := #[.int .i64 0, .slice none 0 0]) (t := 24) ?hr ?_; (case hd => rfl); (case hg => rfl); (case hr => first | (go_simp; done) | (go_simp; rfl)); intro gb103 hg w47 hbox hb; have n0_ := Aside0.mk (Kd.R_below (by (with_reducible repeat (first | apply Kd.R_alloc | apply Kd.R_drewN | apply Kd.R_drew)); exact HO_5.out) hb); have n1_ := Aside0.mk (blk_below (g := gb101) (o := .cells #[.int .i64 x102000_1, .slice none 0 0] 24 (0, 0)) (by (with_reducible repeat (first | refine blk_drewN ?_ _ | refine blk_drew ?_ | refine blk_alloc ?_ _)); exact BK101.out) hb); have n2_ := Aside0.mk (below_step (by repeat (first | (with_reducible first | exact HB.out | apply below_alloc | apply pw_below_drewN | apply below_drew1 | refine below_set ?_ GE101.out) | exact HB.out)) hb); have n3_ := Aside0.mk (hbox); have n4_ := Aside0.mk ((by rw [hg]; exact (below_size (by repeat (first | (with_reducible first | exact HB.out | apply below_alloc | apply pw_below_drewN | apply below_drew1 | refine below_set ?_ GE101.out) | exact HB.out))) : w.heap.size ≤ gb103)); have n5_ := Aside0.mk ((by rw [hg]; exact (below_size (by repeat (first | (with_reducible first | exact HB.out | apply below_alloc | apply pw_below_drewN | apply below_drew1 | refine below_set ?_ GE101.out) | exact HB.out))) : w.heap.size ≤ gb103)); have n6_ := Aside0.mk ((by rw [hg]; exact Nat.ne_of_lt (blk_lt (g := gb101) (o := .cells #[.int .i64 x102000_1, .slice none 0 0] 24 (0, 0)) (by (with_reducible repeat (first | refine blk_drewN ?_ _ | refine blk_drew ?_ | refine blk_alloc ?_ _)); exact BK101.out)) : gb101 ≠ gb103)); have n7_ := Aside0.mk ((by rw [hg]; exact Nat.ne_of_gt (blk_lt (g := gb101) (o := .cells #[.int .i64 x102000_1, .slice none 0 0] 24 (0, 0)) (by (with_reducible repeat (first | refine blk_drewN ?_ _ | refine blk_drew ?_ | refine blk_alloc ?_ _)); exact BK101.out)) : gb103 ≠ gb101)); clear HO_5; clear BK101; clear HB; have HO_5 := n0_; have BK101 := n1_; have HB := n2_; have BK103 := n3_; have GW103 := n4_; have GE103 := n5_; have NB101_103 := n6_; have NB103_101 := n7_; clear n0_ n1_ n2_ n3_ n4_ n5_ n6_ n7_; clear hb hbox hg; have hnb48 := NB103_101.out; have hnc48 := NB101_103.out; have hcz49_0 : w47.cell? ⟨gb103, 0, none⟩ = some (.int .i64 0) := (blk_cell BK103.out 0).trans rfl; have hcz49_1 : w47.cell? ⟨gb103, 1, none⟩ = some (.slice none 0 0) := (blk_cell BK103.out 1).trans rfl; have hfz49_0 := blk_frozen BK103.out 0; have hfz49_1 := blk_frozen BK103.out 1) | ((with_reducible refine gate_callee (f := 32) rfl ?_); refine goesL_ (some 62) rfl rfl Try.func32 (by kernel_rfl) rfl #[.agg #[.int .i64 (wrap64 (t102)), .slice Ao46 x5_1.length co46]] rfl (by (try simp only [List.map_toArray, List.map_cons, List.map_nil]); first | done | rfl | (simp only [List.length_drop, List.length_take]; rfl)) ?_; (with_reducible refine (slab_Encode.calls (wrap64 (t102)) _ _ x5_1 t104 t105 _ ?side1 ?side2 A29.out).mono ?_); (case side1 => refine (Kd.R_reads' (e := 33) (base := w.heap.size) (ok := fun k_ => True) (n := x5_1.length) (c := co46) ?_).2.2; exact (by (with_reducible repeat (first | apply Kd.R_alloc | apply Kd.R_drewN | apply Kd.R_drew)); exact (Kd.R_mono (Kd.R_far (p := ⟨gb103, 1, none⟩) (Kd.R_far (p := ⟨gb103, 0, none⟩) (Kd.R_types HO_5.out BK103.out (by decide)) (fun _ hk => hk.2) (.int .i64 (wrap64 (t102)))) (fun _ hk => hk.2) (.slice Ao46 x5_1.length co46)) (fun _ h_ => h_.1)))); (case side2 => exact (Kd.R_reads' HO_5.out).2.1); rintro e w50 ⟨rfl, hb⟩; refine ⟨_, rfl, ?_⟩; have n0_ := Aside0.mk (Kd.R_below (by (with_reducible repeat (first | apply Kd.R_alloc | apply Kd.R_drewN | apply Kd.R_drew)); exact (Kd.R_mono (Kd.R_far (p := ⟨gb103, 1, none⟩) (Kd.R_far (p := ⟨gb103, 0, none⟩) (Kd.R_types HO_5.out BK103.out (by decide)) (fun _ hk => hk.2) (.int .i64 (wrap64 (t102)))) (fun _ hk => hk.2) (.slice Ao46 x5_1.length co46)) (fun _ h_ => h_.1))) hb); have n1_ := Aside0.mk (blk_below (g := gb101) (o := .cells #[.int .i64 x102000_1, .slice none 0 0] 24 (0, 0)) (by (with_reducible repeat (first | refine blk_drewN ?_ _ | refine blk_drew ?_ | refine blk_alloc ?_ _)); refine blk_far ?_ NB101_103.out _; (with_reducible repeat (first | refine blk_drewN ?_ _ | refine blk_drew ?_ | refine blk_alloc ?_ _)); refine blk_far ?_ NB101_103.out _; (with_reducible repeat (first | refine blk_drewN ?_ _ | refine blk_drew ?_ | refine blk_alloc ?_ _)); exact BK101.out) hb); have n2_ := Aside0.mk (blk_below (g := gb103) (o := .cells #[.int .i64 (wrap64 (t102)), .slice Ao46 x5_1.length co46] 24 (0, 0)) (by (with_reducible repeat (first | refine blk_drewN ?_ _ | refine blk_drew ?_ | refine blk_alloc ?_ _)); refine blk_put (cs := #[.int .i64 (wrap64 (t102)), .slice none 0 0]) ?_ 1 _ rfl; (with_reducible repeat (first | refine blk_drewN ?_ _ | refine blk_drew ?_ | refine blk_alloc ?_ _)); refine blk_put (cs := #[.int .i64 0, .slice none 0 0]) ?_ 0 _ rfl; (with_reducible repeat (first | refine blk_drewN ?_ _ | refine blk_drew ?_ | refine blk_alloc ?_ _)); exact BK103.out) hb); have n3_ := Aside0.mk (below_step (by repeat (first | (with_reducible first | exact HB.out | apply below_alloc | apply pw_below_drewN | apply below_drew1 | refine below_set ?_ GE101.out | refine below_set ?_ GE103.out) | exact HB.out)) hb); clear HO_5; clear BK101; clear BK103; clear HB; have HO_5 := n0_; have BK101 := n1_; have BK103 := n2_; have HB := n3_; clear n0_ n1_ n2_ n3_; (try clear hb); (try clear hb2); (try clear hk); (try clear hi); have hcz51_0 : w50.cell? ⟨gb101, 0, none⟩ = some (.int .i64 x102000_1) := (blk_cell BK101.out 0).trans rfl; have hcz51_1 : w50.cell? ⟨gb101, 1, none⟩ = some (.slice none 0 0) := (blk_cell BK101.out 1).trans rfl; have hfz51_0 := blk_frozen BK101.out 0; have hfz51_1 := blk_frozen BK101.out 1))
                        refine bodyPost_ret (results_ct rfl _ _ gb101 24 #[.int .i64 0, .slice none 0 0] (0, 0) _ rfl (by (with_reducible repeat (first | refine blk_drewN ?_ _ | refine blk_drew ?_ | refine blk_alloc ?_ _)); refine blk_put (cs := #[.int .i64 0, .slice none 0 0]) ?_ 1 _ rfl; (with_reducible repeat (first | refine blk_drewN ?_ _ | refine blk_drew ?_ | refine blk_alloc ?_ _)); refine blk_put (cs := #[.int .i64 x102000_1, .slice none 0 0]) ?_ 0 _ rfl; (with_reducible repeat (first | refine blk_drewN ?_ _ | refine blk_drew ?_ | refine blk_alloc ?_ _)); exact BK101.out) Try.underlying24 rfl (by kernel_rfl)) rfl ?_
                        exact ⟨_, by first | rfl | (simp [errW_none, errW_some] <;> rfl) | (simp [*, errW_none, errW_some] <;> rfl), by first | exact Kd.R_nil _ _ _ _ _ | exact Kd.N_nil _ _ _ _ _ | exact Kd.V_nil _ _ _ _ _ | exact Kd.Q_nil _ _ _ _ _ | exact Kd.S_nil _ _ _ _ _, by repeat (first | (with_reducible first | exact HB.out | apply below_alloc | apply pw_below_drewN | apply below_drew1 | refine below_set ?_ GE101.out | refine below_set ?_ GE103.out) | exact HB.out)⟩
                    · rw [if_neg c37] at H
                      have c37b0 : (t105 == 0) = false := beq_eq_false_iff_ne.mpr c37
                      have c37b1 : (t105 != 0) = true := bne_iff_ne.mpr c37
                      simp only [Option.some.injEq, Prod.mk.injEq] at H
                      obtain ⟨rfl, rfl, rfl⟩ := H
                      obtain ⟨Ao52, co52, eo52⟩ := Kd.R_slice HO_5.out
                      subst eo52
                      go_wp2_with (first | ((with_reducible refine gate_dst (N := 8) rfl ?_); refine box_event ?hg (N := 8) ?hd (cs := #[.int .i64 0, .slice none 0 0]) (t := 24) ?hr ?_; (case hd => rfl); (case hg => rfl); (case hr => first | (go_simp; done) | (go_simp; rfl)); intro gb103 hg w53 hbox hb; have n0_ := Aside0.mk (Kd.R_below (by (with_reducible repeat (first | apply Kd.R_alloc | apply Kd.R_drewN | apply Kd.R_drew)); exact HO_5.out) hb); have n1_ := Aside0.mk (blk_below (g := gb101) (o := .cells #[.int .i64 x102000_1, .slice none 0 0] 24 (0, 0)) (by (with_reducible repeat (first | refine blk_drewN ?_ _ | refine blk_drew ?_ | refine blk_alloc ?_ _)); exact BK101.out) hb); have n2_ := Aside0.mk (below_step (by repeat (first | (with_reducible first | exact HB.out | apply below_alloc | apply pw_below_drewN | apply below_drew1 | refine below_set ?_ GE101.out) | exact HB.out)) hb); have n3_ := Aside0.mk (hbox); have n4_ := Aside0.mk ((by rw [hg]; exact (below_size (by repeat (first | (with_reducible first | exact HB.out | apply below_alloc | apply pw_below_drewN | apply below_drew1 | refine below_set ?_ GE101.out) | exact HB.out))) : w.heap.size ≤ gb103)); have n5_ := Aside0.mk ((by rw [hg]; exact (below_size (by repeat (first | (with_reducible first | exact HB.out | apply below_alloc | apply pw_below_drewN | apply below_drew1 | refine below_set ?_ GE101.out) | exact HB.out))) : w.heap.size ≤ gb103)); have n6_ := Aside0.mk ((by rw [hg]; exact Nat.ne_of_lt (blk_lt (g := gb101) (o := .cells #[.int .i64 x102000_1, .slice none 0 0] 24 (0, 0)) (by (with_reducible repeat (first | refine blk_drewN ?_ _ | refine blk_drew ?_ | refine blk_alloc ?_ _)); exact BK101.out)) : gb101 ≠ gb103)); have n7_ := Aside0.mk ((by rw [hg]; exact Nat.ne_of_gt (blk_lt (g := gb101) (o := .cells #[.int .i64 x102000_1, .slice none 0 0] 24 (0, 0)) (by (with_reducible repeat (first | refine blk_drewN ?_ _ | refine blk_drew ?_ | refine blk_alloc ?_ _)); exact BK101.out)) : gb103 ≠ gb101)); clear HO_5; clear BK101; clear HB; have HO_5 := n0_; have BK101 := n1_; have HB := n2_; have BK103 := n3_; have GW103 := n4_; have GE103 := n5_; have NB101_103 := n6_; have NB103_101 := n7_; clear n0_ n1_ n2_ n3_ n4_ n5_ n6_ n7_; clear hb hbox hg; have hnb54 := NB103_101.out; have hnc54 := NB101_103.out; have hcz55_0 : w53.cell? ⟨gb103, 0, none⟩ = some (.int .i64 0) := (blk_cell BK103.out 0).trans rfl; have hcz55_1 : w53.cell? ⟨gb103, 1, none⟩ = some (.slice none 0 0) := (blk_cell BK103.out 1).trans rfl; have hfz55_0 := blk_frozen BK103.out 0; have hfz55_1 := blk_frozen BK103.out 1) | ((with_reducible refine gate_callee (f := 32) rfl ?_); refine goesL_ (some 62) rfl rfl Try.func32 (by kernel_rfl) rfl #[.agg #[.int .i64 (wrap64 (t102)), .slice Ao52 x5_1.length co52]] rfl (by (try simp only [List.map_toArray, List.map_cons, List.map_nil]); first | done | rfl | (simp only [List.length_drop, List.length_take]; rfl)) ?_; (with_reducible refine (slab_Encode.calls (wrap64 (t102)) _ _ x5_1 t104 t105 _ ?side1 ?side2 A29.out).mono ?_); (case side1 => refine (Kd.R_reads' (e := 33) (base := w.heap.size) (ok := fun k_ => True) (n := x5_1.length) (c := co52) ?_).2.2; exact (by (with_reducible repeat (first | apply Kd.R_alloc | apply Kd.R_drewN | apply Kd.R_drew)); exact (Kd.R_mono (Kd.R_far (p := ⟨gb103, 1, none⟩) (Kd.R_far (p := ⟨gb103, 0, none⟩) (Kd.R_types HO_5.out BK103.out (by decide)) (fun _ hk => hk.2) (.int .i64 (wrap64 (t102)))) (fun _ hk => hk.2) (.slice Ao52 x5_1.length co52)) (fun _ h_ => h_.1)))); (case side2 => exact (Kd.R_reads' HO_5.out).2.1); rintro e w56 ⟨rfl, hb⟩; refine ⟨_, rfl, ?_⟩; have n0_ := Aside0.mk (Kd.R_below (by (with_reducible repeat (first | apply Kd.R_alloc | apply Kd.R_drewN | apply Kd.R_drew)); exact (Kd.R_mono (Kd.R_far (p := ⟨gb103, 1, none⟩) (Kd.R_far (p := ⟨gb103, 0, none⟩) (Kd.R_types HO_5.out BK103.out (by decide)) (fun _ hk => hk.2) (.int .i64 (wrap64 (t102)))) (fun _ hk => hk.2) (.slice Ao52 x5_1.length co52)) (fun _ h_ => h_.1))) hb); have n1_ := Aside0.mk (blk_below (g := gb101) (o := .cells #[.int .i64 x102000_1, .slice none 0 0] 24 (0, 0)) (by (with_reducible repeat (first | refine blk_drewN ?_ _ | refine blk_drew ?_ | refine blk_alloc ?_ _)); refine blk_far ?_ NB101_103.out _; (with_reducible repeat (first | refine blk_drewN ?_ _ | refine blk_drew ?_ | refine blk_alloc ?_ _)); refine blk_far ?_ NB101_103.out _; (with_reducible repeat (first | refine blk_drewN ?_ _ | refine blk_drew ?_ | refine blk_alloc ?_ _)); exact BK101.out) hb); have n2_ := Aside0.mk (blk_below (g := gb103) (o := .cells #[.int .i64 (wrap64 (t102)), .slice Ao52 x5_1.length co52] 24 (0, 0)) (by (with_reducible repeat (first | refine blk_drewN ?_ _ | refine blk_drew ?_ | refine blk_alloc ?_ _)); refine blk_put (cs := #[.int .i64 (wrap64 (t102)), .slice none 0 0]) ?_ 1 _ rfl; (with_reducible repeat (first | refine blk_drewN ?_ _ | refine blk_drew ?_ | refine blk_alloc ?_ _)); refine blk_put (cs := #[.int .i64 0, .slice none 0 0]) ?_ 0 _ rfl; (with_reducible repeat (first | refine blk_drewN ?_ _ | refine blk_drew ?_ | refine blk_alloc ?_ _)); exact BK103.out) hb); have n3_ := Aside0.mk (below_step (by repeat (first | (with_reducible first | exact HB.out | apply below_alloc | apply pw_below_drewN | apply below_drew1 | refine below_set ?_ GE101.out | refine below_set ?_ GE103.out) | exact HB.out)) hb); clear HO_5; clear BK101; clear BK103; clear HB; have HO_5 := n0_; have BK101 := n1_; have BK103 := n2_; have HB := n3_; clear n0_ n1_ n2_ n3_; (try clear hb); (try clear hb2); (try clear hk); (try clear hi); have hcz57_0 : w56.cell? ⟨gb101, 0, none⟩ = some (.int .i64 x102000_1) := (blk_cell BK101.out 0).trans rfl; have hcz57_1 : w56.cell? ⟨gb101, 1, none⟩ = some (.slice none 0 0) := (blk_cell BK101.out 1).trans rfl; have hfz57_0 := blk_frozen BK101.out 0; have hfz57_1 := blk_frozen BK101.out 1))
                      refine bodyPost_ret (results_ct rfl _ _ gb101 24 #[.int .i64 0, .slice none 0 0] (0, 0) _ rfl (by (with_reducible repeat (first | refine blk_drewN ?_ _ | refine blk_drew ?_ | refine blk_alloc ?_ _)); refine blk_put (cs := #[.int .i64 0, .slice none 0 0]) ?_ 1 _ rfl; (with_reducible repeat (first | refine blk_drewN ?_ _ | refine blk_drew ?_ | refine blk_alloc ?_ _)); refine blk_put (cs := #[.int .i64 x102000_1, .slice none 0 0]) ?_ 0 _ rfl; (with_reducible repeat (first | refine blk_drewN ?_ _ | refine blk_drew ?_ | refine blk_alloc ?_ _)); exact BK101.out) Try.underlying24 rfl (by kernel_rfl)) rfl ?_
                      exact ⟨_, by first | rfl | (simp [errW_none, errW_some] <;> rfl) | (simp [*, errW_none, errW_some] <;> rfl), by first | exact Kd.R_nil _ _ _ _ _ | exact Kd.N_nil _ _ _ _ _ | exact Kd.V_nil _ _ _ _ _ | exact Kd.Q_nil _ _ _ _ _ | exact Kd.S_nil _ _ _ _ _, by repeat (first | (with_reducible first | exact HB.out | apply below_alloc | apply pw_below_drewN | apply below_drew1 | refine below_set ?_ GE101.out | refine below_set ?_ GE103.out) | exact HB.out)⟩
          · rw [if_neg c7] at H
            exact absurd H (by simp)
        · rw [if_neg c6] at H
          exact absurd H (by simp)
      · rw [if_neg c4] at H
        exact absurd H (by simp)
    · rw [if_neg c3] at H
      exact absurd H (by simp)
  · rw [if_neg c2] at H
    have c2b0 : ((a0.size : Int) == 240) = false := beq_eq_false_iff_ne.mpr c2
    have c2b1 : ((a0.size : Int) != 240) = true := bne_iff_ne.mpr c2
    simp only [Option.some.injEq, Prod.mk.injEq] at H
    obtain ⟨rfl, rfl, rfl⟩ := H
    go_enter Try.func73, Try.ntmps73
    go_wp2_with (first | ((with_reducible refine gate_dst (N := 2) rfl ?_); refine box_event ?hg (N := 2) ?hd (cs := #[.int .i64 0, .slice none 0 0]) (t := 24) ?hr ?_; (case hd => rfl); (case hg => rfl); (case hr => first | (go_simp; done) | (go_simp; rfl)); intro gb101 hg w58 hbox hb; have n0_ := Aside0.mk (below_step (by repeat (first | (with_reducible first | exact HB.out | apply below_alloc | apply pw_below_drewN | apply below_drew1) | exact HB.out)) hb); have n1_ := Aside0.mk (hbox); have n2_ := Aside0.mk ((by rw [hg]; exact (below_size (by repeat (first | (with_reducible first | exact HB.out | apply below_alloc | apply pw_below_drewN | apply below_drew1) | exact HB.out))) : w.heap.size ≤ gb101)); have n3_ := Aside0.mk ((by rw [hg]; exact (below_size (by repeat (first | (with_reducible first | exact HB.out | apply below_alloc | apply pw_below_drewN | apply below_drew1) | exact HB.out))) : w.heap.size ≤ gb101)); clear HB; have HB := n0_; have BK101 := n1_; have GW101 := n2_; have GE101 := n3_; clear n0_ n1_ n2_ n3_; clear hb hbox hg; have hcz59_0 : w58.cell? ⟨gb101, 0, none⟩ = some (.int .i64 0) := (blk_cell BK101.out 0).trans rfl; have hcz59_1 : w58.cell? ⟨gb101, 1, none⟩ = some (.slice none 0 0) := (blk_cell BK101.out 1).trans rfl; have hfz59_0 := blk_frozen BK101.out 0; have hfz59_1 := blk_frozen BK101.out 1))
    refine bodyPost_ret (results_ct rfl _ _ gb101 24 #[.int .i64 0, .slice none 0 0] (0, 0) _ rfl (by (with_reducible repeat (first | refine blk_drewN ?_ _ | refine blk_drew ?_ | refine blk_alloc ?_ _)); refine blk_put (cs := #[.int .i64 0, .slice none 0 0]) ?_ 1 _ rfl; (with_reducible repeat (first | refine blk_drewN ?_ _ | refine blk_drew ?_ | refine blk_alloc ?_ _)); refine blk_put (cs := #[.int .i64 0, .slice none 0 0]) ?_ 0 _ rfl; (with_reducible repeat (first | refine blk_drewN ?_ _ | refine blk_drew ?_ | refine blk_alloc ?_ _)); exact BK101.out) Try.underlying24 rfl (by kernel_rfl)) rfl ?_
    exact ⟨_, by first | rfl | (simp [errW_none, errW_some] <;> rfl) | (simp [*, errW_none, errW_some] <;> rfl), by first | exact Kd.R_nil _ _ _ _ _ | exact Kd.N_nil _ _ _ _ _ | exact Kd.V_nil _ _ _ _ _ | exact Kd.Q_nil _ _ _ _ _ | exact Kd.S_nil _ _ _ _ _, by repeat (first | (with_reducible first | exact HB.out | apply below_alloc | apply pw_below_drewN | apply below_drew1 | refine below_set ?_ GE101.out) | exact HB.out)⟩

end Go.Proofs.Ytfjmnaobfbmllaa.M

namespace Go.Proofs.Ytfjmnaobfbmllaa.M
open Go.RowKit Go.Proofs.YtfjmnaobfbmllaaW.PrintWords Go.Proofs.YtfjmnaobfbmllaaW.PrintLast Go.Proofs.YtfjmnaobfbmllaaW.PrintMore
set_option linter.unusedVariables false
set_option linter.unusedSimpArgs false

/-- So many slots off the beginning of bytes, and what stands behind them. -/
def parseB : Nat → List Int → Option (List S33 × List Int)
  | 0, bs => some ([], bs)
  | _ + 1, [] => none
  | n + 1, b :: bs => if b = 255 then (parseB n bs).map (fun r => (z33 :: r.1, r.2)) else if (bs.length : Int) < b then none
      else (parseB n (bs.drop b.toNat)).map (fun r => (⟨true, strOfNums (bs.take b.toNat)⟩ :: r.1, r.2))
theorem parse_enc (l : List S33) (hf : ∀ x ∈ l, fineS x) (rest : List Int) : parseB l.length (slotsB l ++ rest) = some (l, rest) := by
  induction l with
  | nil => rfl
  | cons x l ih =>
    have ih := ih (fun y hy => hf y (by simp [hy]))
    have hx := hf x (by simp)
    rw [slotsB_cons, List.append_assoc, List.length_cons]
    cases hu : x.f0 with
    | false =>
      have hz := hx.1 hu
      have hsb : slotB x = [255] := by unfold slotB; simp [hu]
      rw [hsb]
      show parseB (l.length + 1) (255 :: (slotsB l ++ rest)) = _
      simp only [parseB]
      rw [if_pos trivial, ih, hz]; rfl
    | true =>
      have hsb : slotB x = (x.f1.size : Int) :: bytesOf x.f1 := by unfold slotB; simp [hu]
      rw [hsb]
      show parseB (l.length + 1) ((x.f1.size : Int) :: (bytesOf x.f1 ++ (slotsB l ++ rest))) = _
      have hl := bytesOf_length x.f1
      have c1 : ¬ (x.f1.size : Int) = 255 := by have := hx.2; omega
      have c2 : ¬ (((bytesOf x.f1 ++ (slotsB l ++ rest)).length : Nat) : Int) < (x.f1.size : Int) := by rw [List.length_append]; omega
      simp only [parseB]
      rw [if_neg c1, if_neg c2, Int.toNat_natCast, List.drop_left' hl, List.take_left' hl, ih, str_bytes]
      show some (_ :: l, rest) = _
      rw [← hu]
theorem parse_sound (n : Nat) : ∀ (bs : List Int) (l : List S33) (rest : List Int), (∀ b ∈ bs, 0 ≤ b ∧ b ≤ 255) → parseB n bs = some (l, rest) → l.length = n ∧ bs = slotsB l ++ rest := by
  induction n with
  | zero =>
    intro bs l rest _ h
    simp only [parseB, Option.some.injEq, Prod.mk.injEq] at h
    obtain ⟨rfl, rfl⟩ := h
    exact ⟨rfl, rfl⟩
  | succ n ih =>
    intro bs l rest hr h
    cases bs with
    | nil => cases h
    | cons b bs =>
      simp only [parseB] at h
      have hb := hr b (by simp)
      by_cases c1 : b = 255
      · rw [if_pos c1] at h
        simp only [Option.map_eq_some_iff] at h
        obtain ⟨⟨l2, r2⟩, h2, h3⟩ := h
        obtain ⟨e1, e2⟩ := ih bs l2 r2 (fun b hb => hr b (by simp [hb])) h2
        simp only [Prod.mk.injEq] at h3
        obtain ⟨rfl, rfl⟩ := h3
        refine ⟨by simp [e1], ?_⟩
        rw [slotsB_cons, e2, c1]; rfl
      · rw [if_neg c1] at h
        by_cases c2 : (bs.length : Int) < b
        · rw [if_pos c2] at h; cases h
        · rw [if_neg c2] at h
          simp only [Option.map_eq_some_iff] at h
          obtain ⟨⟨l2, r2⟩, h2, h3⟩ := h
          obtain ⟨e1, e2⟩ := ih _ l2 r2 (fun b hb => hr b (by have := List.mem_of_mem_drop hb; simp [this])) h2
          simp only [Prod.mk.injEq] at h3
          obtain ⟨rfl, rfl⟩ := h3
          refine ⟨by simp [e1], ?_⟩
          have hsb : slotB ⟨true, strOfNums (bs.take b.toNat)⟩ = b :: bs.take b.toNat := by
            unfold slotB
            rw [if_pos rfl, strOfNums_size, bytesOf_strOfNums _ (fun x hx => hr x (by have := List.mem_of_mem_take hx; simp [this])), List.length_take]
            congr 1
            omega
          rw [slotsB_cons, hsb, List.cons_append, List.cons_append, List.append_assoc, ← e2, List.take_append_drop]
/-! ### what bytes hold -/
theorem enc_size {a : Int} {l : List S33} (hg : goodP a l = true) : (encB a l).size = 240 := by
  have := enc_len hg
  have h6 := (good_facts a l hg).2.2.2.2.2
  unfold encB
  rw [strOfNums_size, padL_length _ (by omega)]
theorem encL_range {a : Int} {l : List S33} (hl : l.length ≤ 32) (hf : ∀ x ∈ l, fineS x) : ∀ x ∈ padL (encL a l), 0 ≤ x ∧ x ≤ 255 := by
  intro x hx
  unfold padL encL at hx
  rw [List.mem_append, List.mem_append, List.mem_cons] at hx
  rcases hx with (hx | rfl | hx) | hx
  · exact hiL_range 8 a x hx
  · omega
  · unfold slotsB at hx
    rw [List.mem_flatMap] at hx
    obtain ⟨y, hy, hx⟩ := hx
    unfold slotB at hx
    split at hx
    · rw [List.mem_cons] at hx
      rcases hx with rfl | hx
      · have := (hf y hy).2; omega
      · exact bytesOf_range _ x hx
    · rw [List.mem_singleton] at hx; omega
  · rw [List.mem_replicate] at hx; omega
theorem bytes_enc {a : Int} {l : List S33} (hg : goodP a l = true) : bytesOf (encB a l) = padL (encL a l) := by
  obtain ⟨_, _, h3, h4, _, _⟩ := (good_iff a l).mp hg
  exact bytesOf_strOfNums _ (encL_range h3 h4)
/-- What a decoding must tell. -/
def IsDec (s : ByteArray) (r : Int × List S33 × Int) : Prop :=
  (goodP r.1 r.2.1 = true ∧ encB r.1 r.2.1 = s ∧ r.2.2 = 0) ∨ ((∀ a l, goodP a l = true → encB a l ≠ s) ∧ r = (0, [], 4))

/-! ### slab.Decode -/
/-- What is done behind the slots. -/
def finD (s : ByteArray) (n : Int) (l : List S33) : Option (Int × List S33 × Int) :=
  some (if n > 1099511627776 then (0, [], 4) else if goodP (wrap64 n) l = true ∧ encB (wrap64 n) l = s then (wrap64 n, l, 0) else (0, [], 4))
theorem dec_fin (s : ByteArray) (n : Int) (l : List S33) (rest : ByteArray) (c i : Int) (h : ¬ i < c) (k : Nat) : slab_Decode.l0 (k + 1) s n l rest c i = finD s n l := by
  simp only [slab_Decode.l0]
  rw [if_neg h]
  unfold slab_Encode.f finD
  by_cases hg : goodP (wrap64 n) l = true
  · rw [if_pos hg, Option.bind_some]
    by_cases h1 : n > 1099511627776
    · rw [if_pos h1, if_pos h1]
    · rw [if_neg h1, if_neg h1]
      by_cases h2 : encB (wrap64 n) l = s
      · have h3 : (strOfNums (padL (encL (wrap64 n) l))).toList = s.toList := ba_inj.mpr h2
        rw [if_pos rfl, if_pos h3, if_pos ⟨hg, h2⟩]
      · have h3 : ¬ (strOfNums (padL (encL (wrap64 n) l))).toList = s.toList := fun e => h2 (ba_inj.mp e)
        rw [if_pos rfl, if_neg h3, if_neg (fun e => h2 e.2)]
  · rw [if_neg hg, Option.bind_some]
    by_cases h1 : n > 1099511627776
    · rw [if_pos h1, if_pos h1]
    · rw [if_neg h1, if_neg h1, if_neg (by decide), if_neg (fun e => hg e.1)]
theorem dec_loop (s : ByteArray) (n : Int) (c : Nat) (hc : c ≤ 255) (d : Nat) : ∀ (k i : Nat) (acc : List S33) (rest : ByteArray), i + d = c → d < k → acc.length ≤ i → rest.size ≤ 240 →
    slab_Decode.l0 k s n acc rest c i = match parseB d (bytesOf rest) with
      | none => some (0, [], 4)
      | some (l, _) => finD s n (acc ++ l) := by
  induction d with
  | zero =>
    intro k i acc rest hi hk ha hs
    obtain ⟨k, rfl⟩ : ∃ m, k = m + 1 := ⟨k - 1, by omega⟩
    rw [dec_fin s n acc rest c i (by omega) k]
    simp [parseB]
  | succ d ih =>
    intro k i acc rest hi hk ha hs
    obtain ⟨k, rfl⟩ : ∃ m, k = m + 1 := ⟨k - 1, by omega⟩
    have c1 : (i : Int) < (c : Int) := by omega
    simp only [slab_Decode.l0]
    rw [if_pos c1]
    by_cases he : rest.toList = []
    · rw [if_pos he, (ba_nil rest).mp he, bytes_nil]; rfl
    · have hp : 0 < rest.size := by
        rcases Nat.eq_zero_or_pos rest.size with h | h
        · exact absurd (by rw [ByteArray.toList_eq]; exact List.eq_nil_of_length_eq_zero (by rw [data_length]; exact h)) he
        · exact h
      have c2 : 0 < (rest.size : Int) := by omega
      have c3 : 1 ≤ (rest.size : Int) := by omega
      have hr := bt_range rest 0
      have hw : wrap64 (bt rest 0) = bt rest 0 := w64 _ (by omega) (by omega)
      have hb : bytesOf rest = bt rest 0 :: (bytesOf rest).drop 1 := by
        have := drop_step rest 0 hp
        simpa using this
      have hd : bytesOf (rest.extract 1 rest.size) = (bytesOf rest).drop 1 := bytes_drop rest 1
      have hds : (rest.extract 1 rest.size).size = rest.size - 1 := by simp [ByteArray.size_extract]
      have hi1 : ((i : Int) + 1) % 256 = ((i + 1 : Nat) : Int) := by omega
      have ha2 : acc.length < 5864062014805 := by omega
      rw [if_neg he, if_pos c2, if_pos c3, hw, hi1]
      by_cases h255 : bt rest 0 = 255
      · rw [if_pos h255, if_pos ha2, ih k (i + 1) _ _ (by omega) (by omega) (by simp; omega) (by rw [hds]; omega), hd]
        conv => rhs; rw [hb]
        simp only [parseB]
        rw [if_pos h255]
        cases parseB d (List.drop 1 (bytesOf rest)) with
        | none => rfl
        | some r => simp [z33]
      · rw [if_neg h255]
        conv => rhs; rw [hb]
        simp only [parseB]
        rw [if_neg h255]
        have hlen : ((List.drop 1 (bytesOf rest)).length : Int) = ((rest.extract 1 rest.size).size : Int) := by rw [← hd, bytesOf_length]
        rw [hlen]
        by_cases hbig : bt rest 0 > ((rest.extract 1 rest.size).size : Int)
        · have hbig2 : ((rest.extract 1 rest.size).size : Int) < bt rest 0 := hbig
          rw [if_pos hbig, if_pos hbig2]
        · have hbig2 : ¬ ((rest.extract 1 rest.size).size : Int) < bt rest 0 := hbig
          have c4 : bt rest 0 ≤ ((rest.extract 1 rest.size).size : Int) := by omega
          rw [if_neg hbig, if_neg hbig2, if_pos hr.1, if_pos c4, if_pos ha2]
          have hx : bytesOf ((rest.extract 1 rest.size).extract (bt rest 0).toNat (rest.extract 1 rest.size).size) = ((bytesOf rest).drop 1).drop (bt rest 0).toNat := by rw [bytes_drop, hd]
          have hy : (rest.extract 1 rest.size).extract 0 (bt rest 0).toNat = strOfNums (((bytesOf rest).drop 1).take (bt rest 0).toNat) := by
            rw [← hd]
            apply bytes_inj
            rw [bytes_extract, List.drop_zero, Nat.sub_zero, bytesOf_strOfNums]
            exact fun x hx => bytesOf_range _ x (List.mem_of_mem_take hx)
          rw [ih k (i + 1) _ _ (by omega) (by omega) (by simp; omega) (by simp [ByteArray.size_extract]; omega), hx, hy]
          cases parseB d (List.drop (bt rest 0).toNat (List.drop 1 (bytesOf rest))) with
          | none => rfl
          | some r => simp
theorem dec_size {s : ByteArray} (h : s.size ≠ 240) : IsDec s (0, [], 4) := .inr ⟨fun a l hg he => h (by rw [← he]; exact enc_size hg), rfl⟩
theorem bytes240 {s : ByteArray} (h : s.size = 240) : bytesOf s = (bytesOf s).take 8 ++ bt s 8 :: (bytesOf s).drop 9 := by
  have h1 := List.take_append_drop 8 (bytesOf s)
  rw [drop_step s 8 (by omega)] at h1
  exact h1.symm
theorem enc_parts {a : Int} {l : List S33} (hg : goodP a l = true) : ∃ z, padL (encL a l) = hiL 8 a ++ (l.length : Int) :: (slotsB l ++ List.replicate z 0) := by
  refine ⟨240 - (encL a l).length, ?_⟩
  unfold padL encL
  rw [List.append_assoc, List.cons_append]
theorem split8 {xs ys : List Int} {x y : Int} {l m : List Int} (h : xs ++ x :: l = ys ++ y :: m) (hl : xs.length = ys.length) : xs = ys ∧ x = y ∧ l = m := by
  have := List.append_inj h hl
  exact ⟨this.1, (List.cons.inj this.2).1, (List.cons.inj this.2).2⟩
/-- The parts of bytes that an image has. -/
theorem enc_read {a : Int} {l : List S33} {s : ByteArray} (hg : goodP a l = true) (he : encB a l = s) (hs : s.size = 240) :
    (bytesOf s).take 8 = hiL 8 a ∧ bt s 8 = l.length ∧ (bytesOf s).drop 9 = slotsB l ++ List.replicate (240 - (encL a l).length) 0 := by
  have h1 := bytes240 hs
  have h2 : bytesOf s = hiL 8 a ++ (l.length : Int) :: (slotsB l ++ List.replicate (240 - (encL a l).length) 0) := by
    rw [← he, bytes_enc hg]; unfold padL encL; rw [List.append_assoc, List.cons_append]
  rw [h2] at h1
  have := split8 h1 (by rw [hiL_length, ← h2, List.length_take, bytesOf_length]; omega)
  rw [← h2] at this
  exact ⟨this.1.symm, this.2.1.symm, this.2.2.symm⟩
theorem hi_num {a : Int} (h0 : 0 ≤ a) (h1 : a ≤ 1099511627776) : getN (hiL 8 a) = a := by
  rw [getN_hiL]; exact Int.emod_eq_of_lt h0 (by omega)
theorem dec_pure (s : ByteArray) (k : Nat) (hk : 256 < k) : ∃ r, slab_Decode.f k s = some r ∧ IsDec s r := by
  unfold slab_Decode.f
  by_cases hs : s.size = 240
  · have c0 : (s.size : Int) = 240 := by omega
    have c1 : (8 : Int) ≤ (s.size : Int) := by omega
    have c2 : (9 : Int) ≤ (s.size : Int) := by omega
    have c3 : (8 : Int) < (s.size : Int) := by omega
    have hh : high_Get.f (s.extract 0 8) = some (getN ((bytesOf s).take 8)) := by
      unfold high_Get.f
      rw [if_pos (by simp [ByteArray.size_extract]; omega), bytes_extract, List.drop_zero]
    rw [if_pos c0, if_pos (by decide), if_pos c1, hh, Option.bind_some, if_pos c2, if_pos c3]
    obtain ⟨c, hc⟩ := Int.eq_ofNat_of_zero_le (bt_range s 8).1
    have hc2 := (bt_range s 8).2
    rw [hc]
    have hl := dec_loop s (getN ((bytesOf s).take 8)) c (by omega) c k 0 [] (s.extract 9 s.size) (by omega) (by omega) (by simp) (by simp [ByteArray.size_extract]; omega)
    rw [Int.natCast_zero] at hl
    rw [hl, bytes_drop]
    cases hp : parseB c ((bytesOf s).drop 9) with
    | none =>
      refine ⟨_, rfl, .inr ⟨fun a l hg he => ?_, rfl⟩⟩
      obtain ⟨h1, h2, h3⟩ := enc_read hg he hs
      have := parse_enc l (((good_iff a l).mp hg).2.2.2.1) (List.replicate (240 - (encL a l).length) 0)
      rw [← h3, show l.length = c by omega, hp] at this
      cases this
    | some r =>
      obtain ⟨l, rest⟩ := r
      refine ⟨_, rfl, ?_⟩
      show IsDec s (if _ then _ else if _ then _ else _)
      rw [List.nil_append]
      have full : ∀ a m, goodP a m = true → encB a m = s → getN ((bytesOf s).take 8) = a ∧ m = l := by
        intro a m hg he
        obtain ⟨h1, h2, h3⟩ := enc_read hg he hs
        have := parse_enc m (((good_iff a m).mp hg).2.2.2.1) (List.replicate (240 - (encL a m).length) 0)
        rw [← h3, show m.length = c by omega, hp, Option.some.injEq, Prod.mk.injEq] at this
        have hg2 := (good_iff a m).mp hg
        exact ⟨by rw [h1, hi_num hg2.1 hg2.2.1], this.1.symm⟩
      have hbad : (¬ (goodP (getN ((bytesOf s).take 8)) l = true ∧ encB (getN ((bytesOf s).take 8)) l = s)) → IsDec s (0, [], 4) := fun hn =>
        .inr ⟨fun a m hg he => by
          obtain ⟨e1, e2⟩ := full a m hg he
          exact hn (by rw [e1, ← e2]; exact ⟨hg, he⟩), rfl⟩
      by_cases hbig : getN ((bytesOf s).take 8) > 1099511627776
      · rw [if_pos hbig]
        exact hbad (fun h => by have := ((good_iff _ _).mp h.1).2.1; omega)
      · have h0 := (getN_take (bytesOf s) (bytesOf_range s) 8 (by rw [bytesOf_length]; omega)).1
        rw [if_neg hbig, w64 _ (by omega) (by omega)]
        by_cases hg : goodP (getN ((bytesOf s).take 8)) l = true ∧ encB (getN ((bytesOf s).take 8)) l = s
        · rw [if_pos hg]; exact .inl ⟨hg.1, hg.2, rfl⟩
        · rw [if_neg hg]; exact hbad hg
  · have c0 : ¬ (s.size : Int) = 240 := by omega
    rw [if_neg c0]
    exact ⟨_, rfl, dec_size hs⟩
/-- Unlike images have unlike bytes. -/
theorem enc_inj {a b : Int} {l m : List S33} (hl : goodP a l = true) (hm : goodP b m = true) (h : encB a l = encB b m) : a = b ∧ l = m := by
  obtain ⟨h1, h2, h3⟩ := enc_read hl rfl (enc_size hl)
  obtain ⟨g1, g2, g3⟩ := enc_read hm rfl (enc_size hm)
  have fl := (good_iff a l).mp hl
  have fm := (good_iff b m).mp hm
  rw [← h] at g1 g2 g3
  refine ⟨by rw [← hi_num fl.1 fl.2.1, ← h1, g1, hi_num fm.1 fm.2.1], ?_⟩
  have p1 := parse_enc l fl.2.2.2.1 (List.replicate (240 - (encL a l).length) 0)
  have p2 := parse_enc m fm.2.2.2.1 (List.replicate (240 - (encL b m).length) 0)
  rw [← h3] at p1
  rw [← g3, show m.length = l.length by omega, p1, Option.some.injEq, Prod.mk.injEq] at p2
  exact p2.1
theorem isDec_one {s : ByteArray} {r q : Int × List S33 × Int} (h : IsDec s r) (h2 : IsDec s q) : r = q := by
  obtain ⟨a, l, e⟩ := r
  obtain ⟨b, m, f⟩ := q
  rcases h with ⟨h1, h3, h4⟩ | ⟨h1, h3⟩ <;> rcases h2 with ⟨g1, g3, g4⟩ | ⟨g1, g3⟩
  · have := enc_inj h1 g1 (h3.trans g3.symm)
    simp only at h4 g4 this
    rw [this.1, this.2, h4, g4]
  · exact absurd h3 (g1 _ _ h1)
  · exact absurd g3 (h1 _ _ g1)
  · rw [h3, g3]
def decP (s : ByteArray) : Int × List S33 × Int := (slab_Decode.f 257 s).getD (0, [], 4)
theorem dec_eq (s : ByteArray) : slab_Decode.f 257 s = some (decP s) := by
  obtain ⟨r, h, _⟩ := dec_pure s 257 (by decide)
  unfold decP; rw [h]; rfl
theorem decP_is (s : ByteArray) : IsDec s (decP s) := by
  obtain ⟨r, h, h2⟩ := dec_pure s 257 (by decide)
  unfold decP; rw [h]; exact h2
def slabDec.f (s : ByteArray) : Option (Int × List S33 × Int) := some (decP s)
theorem slabDec.calls (s : ByteArray) (r1 : Int) (r2 : List S33) (r3 : Int) (w : World) (h : slabDec.f s = some (r1, r2, r3)) :
    Calls Try.prog 73 #[.string s] w fun e w' => ∃ v1_ : Value, e = .returned (.tuple #[.agg #[.int .i64 r1, v1_], .int .i64 r3]) ∧ Kd.R k33 33 w' w.heap.size (fun _ => True) v1_ r2 ∧ Below w.heap.size w w' :=
  slab_Decode.calls 257 s r1 r2 r3 w (by rw [dec_eq]; exact h)
end Go.Proofs.Ytfjmnaobfbmllaa.M
