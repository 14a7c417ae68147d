/- The law EntryReads: it returns true for every input, and its arguments read as they did. No condition. Part 1 of 4. -/
import Derived.Test.YtfjmnaobfbmllaaProg
import Derived.Test.YtfjmnaobfbmllaaRows
import Derived.Test.YtfjmnaobfbmllaaUApart
import Derived.Test.YtfjmnaobfbmllaaUEqStruct
import Derived.Test.YtfjmnaobfbmllaaUFoot
import Derived.Test.YtfjmnaobfbmllaaUGuard
import Derived.Test.YtfjmnaobfbmllaaUKept
import Derived.Test.YtfjmnaobfbmllaaULast
import Derived.Test.YtfjmnaobfbmllaaUMore
import Derived.Test.YtfjmnaobfbmllaaUN
import Derived.Test.YtfjmnaobfbmllaaURepsOne
import Derived.Test.YtfjmnaobfbmllaaUShare
import Derived.Test.YtfjmnaobfbmllaaUTab
import Derived.Test.YtfjmnaobfbmllaaUWords
import Derived.ArgAppend
import Derived.Below
import Derived.BigQuiet
import Derived.Carry
import Derived.ChangeArms
import Derived.ChangeMaps
import Derived.ChangeOld
import Derived.Deep.AppendLies
import Derived.Deep.CutBlock
import Derived.Deep.DeepCutAuto
import Derived.Deep.Draws
import Derived.Deep.LoopGhost
import Derived.Deep.OwnRows
import Derived.Deep.QuietTactic
import Derived.Deep.RegionHeld3
import Derived.Deep.Slices
import Derived.KernelRfl
import Derived.Laws.Bits64
import Derived.Laws.Bits64b
import Derived.Laws.BitsAllLaws
import Derived.Laws.BitsLemmas
import Derived.Laws.BytesArg
import Derived.Laws.CopyOwn
import Derived.Laws.IdiomCopy
import Derived.Laws.MakeOwn
import Derived.Laws.OwnMore
import Derived.Laws.Rows
import Derived.Laws.Slices
import Derived.Lib.AppendStr
import Derived.Lib.ConvBytes
import Derived.Maps.AppendAt
import Derived.OpenShut
import Derived.OrdersHeld
import Derived.OwnWalk
import Derived.ProofKit
import Derived.RowKit
import Derived.RowKit3
import Derived.ShutString
import Derived.SizedLaws
import Derived.Tactics
import Derived.WalkKit
import Derived.WideLaws
namespace Go.Proofs.Ytfjmnaobfbmllaa.M
open Go.RowKit Go.Proofs.YtfjmnaobfbmllaaW.PrintWords Go.Proofs.YtfjmnaobfbmllaaW.PrintLast Go.Proofs.YtfjmnaobfbmllaaW.PrintMore
attribute [local go_sem] max2_int min2_int max_two min_two max_three min_three max_four min_four   -- for this text's walks alone
set_option linter.unusedVariables false
set_option linter.unusedSimpArgs false
def errW : Option Int → Value
  | none => .nilIface
  | some c => .iface 0 (.int .i64 c)
theorem errW_none : errW none = .nilIface := rfl
theorem errW_some (c : Int) : errW (some c) = .iface 0 (.int .i64 c) := rfl
theorem info3 : (Try.prog.info? 3).map (fun i => (i.zero, i.size, i.bytes)) = some (some (.int .i64 0), 1, 8) := by kernel_rfl
theorem info5 : (Try.prog.info? 5).map (fun i => (i.zero, i.size, i.bytes)) = some (some (.int .u8 0), 1, 1) := by kernel_rfl
structure S33 where
  f0 : Bool
  f1 : ByteArray
def z33 : S33 := ⟨false, (⟨#[]⟩ : ByteArray)⟩
structure S52 where
  f0 : Int
  f1 : Int
  f2 : Int
structure S65 where
  f0 : Int
  f1 : S52
  f2 : Int
  f3 : Int
  f4 : Int
  f5 : Int
  f6 : S33
  f7 : S33
  f8 : Int
end Go.Proofs.Ytfjmnaobfbmllaa.M
namespace Go.Proofs.Ytfjmnaobfbmllaa.M
open Go.RowKit
set_option maxRecDepth 100000
def ch (l : List Nat) : List Char := l.map Char.ofNat
def words : List (List Nat) := [[104, 97, 114, 110, 101, 115, 115],
  [102, 51, 51, 54, 54, 51, 54, 102, 101, 56, 50, 54, 99, 51, 99, 57, 48, 102, 48, 99, 51, 98, 50, 101, 54, 100, 56, 52, 55, 98, 101, 53, 49, 53, 99, 49, 51, 101, 50, 52, 54, 100, 48, 55, 49, 48, 102, 54, 99, 56, 99, 101, 50, 52, 55, 54, 97, 54, 98, 101, 50, 49, 98, 98],
  [99, 117, 116],
  [97, 116],
  [115, 101, 110, 101, 115, 99, 104, 97, 108, 47, 115, 101, 110, 101, 115, 99, 104, 97, 108, 108, 97, 119, 48, 51, 46, 83, 108, 97, 98, 87, 114, 105, 116, 101, 115],
  [115, 101, 110, 101, 115, 99, 104, 97, 108, 47, 115, 101, 110, 101, 115, 99, 104, 97, 108, 108, 97, 119, 48, 51, 46, 83, 108, 97, 98, 70, 105, 116, 115],
  [115, 101, 110, 101, 115, 99, 104, 97, 108, 47, 115, 101, 110, 101, 115, 99, 104, 97, 108, 108, 97, 119, 48, 51, 46, 83, 108, 97, 98, 80, 117, 116, 115],
  [115, 101, 110, 101, 115, 99, 104, 97, 108, 47, 115, 101, 110, 101, 115, 99, 104, 97, 108, 108, 97, 119, 48, 51, 46, 83, 108, 97, 98, 75, 101, 101, 112, 115],
  [115, 101, 110, 101, 115, 99, 104, 97, 108, 47, 115, 101, 110, 101, 115, 99, 104, 97, 108, 108, 97, 119, 48, 51, 46, 83, 108, 97, 98, 86, 97, 99, 97, 110, 116],
  [115, 101, 110, 101, 115, 99, 104, 97, 108, 47, 115, 101, 110, 101, 115, 99, 104, 97, 108, 108, 97, 119, 48, 51, 46, 83, 108, 97, 98, 77, 97, 112],
  [115, 101, 110, 101, 115, 99, 104, 97, 108, 47, 115, 101, 110, 101, 115, 99, 104, 97, 108, 108, 97, 119, 49, 49, 46, 78, 111, 116, 101, 70, 111, 114, 109, 115],
  [115, 101, 110, 101, 115, 99, 104, 97, 108, 47, 115, 101, 110, 101, 115, 99, 104, 97, 108, 108, 97, 119, 48, 51, 46, 83, 108, 97, 98, 82, 111, 119, 115],
  [115, 101, 110, 101, 115, 99, 104, 97, 108, 47, 115, 101, 110, 101, 115, 99, 104, 97, 108, 108, 97, 119, 48, 52, 46, 69, 110, 116, 114, 121, 87, 114, 105, 116, 101, 115],
  [115, 101, 110, 101, 115, 99, 104, 97, 108, 47, 115, 101, 110, 101, 115, 99, 104, 97, 108, 108, 97, 119, 49, 49, 46, 78, 111, 116, 101, 70, 105, 116, 115],
  [115, 101, 110, 101, 115, 99, 104, 97, 108, 47, 115, 101, 110, 101, 115, 99, 104, 97, 108, 108, 97, 119, 48, 52, 46, 69, 110, 116, 114, 121, 82, 101, 97, 100, 115],
  [115, 101, 110, 101, 115, 99, 104, 97, 108, 47, 115, 101, 110, 101, 115, 99, 104, 97, 108, 108, 97, 119, 48, 52, 46, 69, 110, 116, 114, 121, 66, 97, 99, 107],
  [115, 101, 110, 101, 115, 99, 104, 97, 108, 47, 115, 101, 110, 101, 115, 99, 104, 97, 108, 108, 97, 119, 48, 52, 46, 69, 110, 116, 114, 121, 79, 110, 101],
  [115, 101, 110, 101, 115, 99, 104, 97, 108, 47, 115, 101, 110, 101, 115, 99, 104, 97, 108, 108, 97, 119, 48, 52, 46, 69, 110, 116, 114, 121, 67, 111, 115, 116, 115],
  [115, 101, 110, 101, 115, 99, 104, 97, 108, 47, 115, 101, 110, 101, 115, 99, 104, 97, 108, 108, 97, 119, 48, 52, 46, 69, 110, 116, 114, 121, 82, 111, 119],
  [115, 101, 110, 101, 115, 99, 104, 97, 108, 47, 115, 101, 110, 101, 115, 99, 104, 97, 108, 108, 97, 119, 48, 53, 46, 80, 97, 116, 99, 104, 68, 111, 101, 115],
  [115, 101, 110, 101, 115, 99, 104, 97, 108, 47, 115, 101, 110, 101, 115, 99, 104, 97, 108, 108, 97, 119, 48, 53, 46, 80, 97, 116, 99, 104, 65, 108, 108],
  [115, 101, 110, 101, 115, 99, 104, 97, 108, 47, 115, 101, 110, 101, 115, 99, 104, 97, 108, 108, 97, 119, 48, 53, 46, 80, 97, 116, 99, 104, 79, 110, 99, 101],
  [115, 101, 110, 101, 115, 99, 104, 97, 108, 47, 115, 101, 110, 101, 115, 99, 104, 97, 108, 108, 97, 119, 48, 53, 46, 80, 97, 116, 99, 104, 84, 117, 114, 110, 115],
  [115, 101, 110, 101, 115, 99, 104, 97, 108, 47, 115, 101, 110, 101, 115, 99, 104, 97, 108, 108, 97, 119, 48, 53, 46, 80, 97, 116, 99, 104, 80, 97, 114, 116, 115],
  [115, 101, 110, 101, 115, 99, 104, 97, 108, 47, 115, 101, 110, 101, 115, 99, 104, 97, 108, 108, 97, 119, 48, 53, 46, 80, 97, 116, 99, 104, 65, 112, 97, 114, 116],
  [115, 101, 110, 101, 115, 99, 104, 97, 108, 47, 115, 101, 110, 101, 115, 99, 104, 97, 108, 108, 97, 119, 48, 51, 46, 83, 108, 97, 98, 82, 101, 97, 100, 115],
  [115, 101, 110, 101, 115, 99, 104, 97, 108, 47, 115, 101, 110, 101, 115, 99, 104, 97, 108, 108, 97, 119, 48, 51, 46, 83, 108, 97, 98, 66, 97, 99, 107],
  [115, 101, 110, 101, 115, 99, 104, 97, 108, 47, 115, 101, 110, 101, 115, 99, 104, 97, 108, 108, 97, 119, 49, 49, 46, 78, 111, 116, 101, 87, 114, 105, 116, 101, 115],
  [115, 101, 110, 101, 115, 99, 104, 97, 108, 47, 115, 101, 110, 101, 115, 99, 104, 97, 108, 108, 97, 119, 49, 49, 46, 78, 111, 116, 101, 82, 101, 97, 100, 115],
  [115, 101, 110, 101, 115, 99, 104, 97, 108, 47, 115, 101, 110, 101, 115, 99, 104, 97, 108, 108, 97, 119, 49, 49, 46, 78, 111, 116, 101, 66, 97, 99, 107],
  [115, 101, 110, 101, 115, 99, 104, 97, 108, 47, 115, 101, 110, 101, 115, 99, 104, 97, 108, 108, 97, 119, 49, 49, 46, 78, 111, 116, 101, 84, 101, 108, 108, 115]]
def joined : List (List Nat) → List Nat
  | [] => []
  | [w] => w
  | w :: ws => w ++ 32 :: joined ws
theorem order_is : Try.prog.initOrder = String.ofList (ch (joined words)) := by kernel_rfl
theorem order_list : Try.prog.initOrder.toList = ch (joined words) := by rw [order_is, String.toList_ofList]
theorem signs_word (w : List Nat) (h : w.all (fun n => Char.ofNat n != Char.ofNat 32) = true) (r : List Char) : wordsSigns (ch w ++ Char.ofNat 32 :: r) = ch w :: wordsSigns r := by
  induction w with
  | nil => rfl
  | cons n w ih =>
    rw [List.all_cons, Bool.and_eq_true] at h
    have hn : Char.ofNat n ≠ Char.ofNat 32 := by simpa using h.1
    have := ih h.2
    show wordsSigns (Char.ofNat n :: (ch w ++ Char.ofNat 32 :: r)) = _
    rw [wordsSigns.eq_3 _ _ (fun e => hn e), this]
    rfl
theorem signs_last (w : List Nat) (h : w.all (fun n => Char.ofNat n != Char.ofNat 32) = true) : wordsSigns (ch w) = [ch w] := by
  induction w with
  | nil => rfl
  | cons n w ih =>
    rw [List.all_cons, Bool.and_eq_true] at h
    have hn : Char.ofNat n ≠ Char.ofNat 32 := by simpa using h.1
    have := ih h.2
    show wordsSigns (Char.ofNat n :: ch w) = _
    rw [wordsSigns.eq_3 _ _ (fun e => hn e), this]
    rfl
theorem signs_join : ∀ ws : List (List Nat), ws ≠ [] → ws.all (fun w => w.all (fun n => Char.ofNat n != Char.ofNat 32)) = true → wordsSigns (ch (joined ws)) = ws.map ch
  | [], h, _ => absurd rfl h
  | [w], _, h => by
    have h2 : w.all (fun n => Char.ofNat n != Char.ofNat 32) = true := by simpa using h
    exact signs_last w h2
  | w :: v :: ws, _, h => by
    rw [List.all_cons, Bool.and_eq_true] at h
    have ih := signs_join (v :: ws) (by simp) h.2
    show wordsSigns (ch (w ++ 32 :: joined (v :: ws))) = _
    have e : ch (w ++ 32 :: joined (v :: ws)) = ch w ++ Char.ofNat 32 :: ch (joined (v :: ws)) := by simp [ch]
    rw [e, signs_word w h.1, ih]
    rfl
theorem order_words : wordsSigns Try.prog.initOrder.toList = words.map ch := by
  rw [order_list]
  exact signs_join words (by decide) (by decide +kernel)
theorem behind : behindMainWord (words.map ch) = (words.drop 2).map ch := by kernel_rfl
theorem tail_cut : (words.drop 2).map ch = ch [99, 117, 116] :: (words.drop 3).map ch := by kernel_rfl
theorem cut_is : ch [99, 117, 116] = "cut".toList := by kernel_rfl
theorem head_is : behindMainWord (wordsSigns Try.prog.initOrder.toList) = "cut".toList :: (words.drop 3).map ch := by rw [order_words, behind, tail_cut, cut_is]
theorem make_of (P : Program) (rest : List (List Char)) (h : behindMainWord (wordsSigns P.initOrder.toList) = "cut".toList :: rest) : P.make = some .cut := by
  unfold Program.make
  rw [h]
  simp only
  rw [if_neg (by decide), if_pos (by simp)]
theorem strip_of (rest : List (List Char)) : stripLifts liftWords ("cut".toList :: rest) = ([], "cut".toList :: rest) := by
  have h : ∀ os : List String, os.all (fun o => !("cut".toList == o.toList)) = true → stripLifts os ("cut".toList :: rest) = ([], "cut".toList :: rest) := by
    intro os
    induction os with
    | nil => intro _; rfl
    | cons o os ih =>
      intro h
      rw [List.all_cons, Bool.and_eq_true] at h
      have h1 : ("cut".toList == o.toList) = false := by simpa using h.1
      rw [stripLifts, h1, if_neg Bool.false_ne_true, ih h.2]
  exact h liftWords (by decide +kernel)
theorem lifts_of (P : Program) (rest : List (List Char)) (h : behindMainWord (wordsSigns P.initOrder.toList) = "cut".toList :: rest) : P.liftsFinal = false := by
  unfold Program.liftsFinal Program.headLifts
  rw [h, strip_of]
  simp
theorem enter_of (P : Program) (rest : List (List Char)) (h : behindMainWord (wordsSigns P.initOrder.toList) = "cut".toList :: rest) (h1 : P.laysLater = false) (h2 : P.bearsReflect = false) (h3 : P.doorFits [] = true) : P.mayEnter = true := by
  unfold Program.mayEnter
  rw [h]
  simp only [strip_of, h1, h2, h3]
  simp
theorem lays : Try.prog.laysLater = false := by kernel_rfl
theorem bears : Try.prog.bearsReflect = false := by kernel_rfl
theorem doors : Try.prog.doorFits [] = true := by kernel_rfl
theorem lifts_final : Try.prog.liftsFinal = false := lifts_of Try.prog _ head_is
theorem make_is : Try.prog.make = some .cut := make_of Try.prog _ head_is
theorem may_enter : Try.prog.mayEnter = true := enter_of Try.prog _ head_is lays bears doors
end Go.Proofs.Ytfjmnaobfbmllaa.M
namespace Go.Proofs.Ytfjmnaobfbmllaa.M
open Go.RowKit Go.Proofs.YtfjmnaobfbmllaaW.PrintWords Go.Proofs.YtfjmnaobfbmllaaW.PrintLast Go.Proofs.YtfjmnaobfbmllaaW.PrintMore
theorem cl2 {W : World} {g : Nat} {t : TypeId} {v0 v1 : Value} (h : W.heap[g]? = some (.cells #[v0, v1] t (0, 0))) : W.cell? ⟨g, 0, none⟩ = some v0 ∧ W.cell? ⟨g, 1, none⟩ = some v1 :=
  ⟨(blk_cell h 0).trans rfl, (blk_cell h 1).trans rfl⟩
theorem fr2 {W : World} {g : Nat} {t : TypeId} {cs : Array Value} (h : W.heap[g]? = some (.cells cs t (0, 0))) : W.frozen? ⟨g, 0, none⟩ = false ∧ W.frozen? ⟨g, 1, none⟩ = false :=
  ⟨blk_frozen h 0, blk_frozen h 1⟩
theorem cl3 {W : World} {g : Nat} {t : TypeId} {v0 v1 v2 : Value} (h : W.heap[g]? = some (.cells #[v0, v1, v2] t (0, 0))) : W.cell? ⟨g, 0, none⟩ = some v0 ∧ W.cell? ⟨g, 1, none⟩ = some v1 ∧ W.cell? ⟨g, 2, none⟩ = some v2 :=
  ⟨(blk_cell h 0).trans rfl, (blk_cell h 1).trans rfl, (blk_cell h 2).trans rfl⟩
theorem fr3 {W : World} {g : Nat} {t : TypeId} {cs : Array Value} (h : W.heap[g]? = some (.cells cs t (0, 0))) : W.frozen? ⟨g, 0, none⟩ = false ∧ W.frozen? ⟨g, 1, none⟩ = false ∧ W.frozen? ⟨g, 2, none⟩ = false :=
  ⟨blk_frozen h 0, blk_frozen h 1, blk_frozen h 2⟩
theorem cl13 {W : World} {g : Nat} {t : TypeId} {v0 v1 v2 v3 v4 v5 v6 v7 v8 v9 v10 v11 v12 : Value} (h : W.heap[g]? = some (.cells #[v0, v1, v2, v3, v4, v5, v6, v7, v8, v9, v10, v11, v12] t (0, 0))) : W.cell? ⟨g, 0, none⟩ = some v0 ∧ W.cell? ⟨g, 1, none⟩ = some v1 ∧ W.cell? ⟨g, 2, none⟩ = some v2 ∧ W.cell? ⟨g, 3, none⟩ = some v3 ∧ W.cell? ⟨g, 4, none⟩ = some v4 ∧ W.cell? ⟨g, 5, none⟩ = some v5 ∧ W.cell? ⟨g, 6, none⟩ = some v6 ∧ W.cell? ⟨g, 7, none⟩ = some v7 ∧ W.cell? ⟨g, 8, none⟩ = some v8 ∧ W.cell? ⟨g, 9, none⟩ = some v9 ∧ W.cell? ⟨g, 10, none⟩ = some v10 ∧ W.cell? ⟨g, 11, none⟩ = some v11 ∧ W.cell? ⟨g, 12, none⟩ = some v12 :=
  ⟨(blk_cell h 0).trans rfl, (blk_cell h 1).trans rfl, (blk_cell h 2).trans rfl, (blk_cell h 3).trans rfl, (blk_cell h 4).trans rfl, (blk_cell h 5).trans rfl, (blk_cell h 6).trans rfl, (blk_cell h 7).trans rfl, (blk_cell h 8).trans rfl, (blk_cell h 9).trans rfl, (blk_cell h 10).trans rfl, (blk_cell h 11).trans rfl, (blk_cell h 12).trans rfl⟩
theorem fr13 {W : World} {g : Nat} {t : TypeId} {cs : Array Value} (h : W.heap[g]? = some (.cells cs t (0, 0))) : W.frozen? ⟨g, 0, none⟩ = false ∧ W.frozen? ⟨g, 1, none⟩ = false ∧ W.frozen? ⟨g, 2, none⟩ = false ∧ W.frozen? ⟨g, 3, none⟩ = false ∧ W.frozen? ⟨g, 4, none⟩ = false ∧ W.frozen? ⟨g, 5, none⟩ = false ∧ W.frozen? ⟨g, 6, none⟩ = false ∧ W.frozen? ⟨g, 7, none⟩ = false ∧ W.frozen? ⟨g, 8, none⟩ = false ∧ W.frozen? ⟨g, 9, none⟩ = false ∧ W.frozen? ⟨g, 10, none⟩ = false ∧ W.frozen? ⟨g, 11, none⟩ = false ∧ W.frozen? ⟨g, 12, none⟩ = false :=
  ⟨blk_frozen h 0, blk_frozen h 1, blk_frozen h 2, blk_frozen h 3, blk_frozen h 4, blk_frozen h 5, blk_frozen h 6, blk_frozen h 7, blk_frozen h 8, blk_frozen h 9, blk_frozen h 10, blk_frozen h 11, blk_frozen h 12⟩
theorem far13 {W : World} {g : Nat} {a : Addr} {v v0 v1 v2 v3 v4 v5 v6 v7 v8 v9 v10 v11 v12 : Value} (h : W.cell? a = some v) (hne : a.block ≠ g) : (((((((((((((W.setCell ⟨g, 0, none⟩ v0).setCell ⟨g, 1, none⟩ v1).setCell ⟨g, 2, none⟩ v2).setCell ⟨g, 3, none⟩ v3).setCell ⟨g, 4, none⟩ v4).setCell ⟨g, 5, none⟩ v5).setCell ⟨g, 6, none⟩ v6).setCell ⟨g, 7, none⟩ v7).setCell ⟨g, 8, none⟩ v8).setCell ⟨g, 9, none⟩ v9).setCell ⟨g, 10, none⟩ v10).setCell ⟨g, 11, none⟩ v11).setCell ⟨g, 12, none⟩ v12).cell? a = some v :=
  (cell_far (p := ⟨g, 12, none⟩) hne _).trans ((cell_far (p := ⟨g, 11, none⟩) hne _).trans ((cell_far (p := ⟨g, 10, none⟩) hne _).trans ((cell_far (p := ⟨g, 9, none⟩) hne _).trans ((cell_far (p := ⟨g, 8, none⟩) hne _).trans ((cell_far (p := ⟨g, 7, none⟩) hne _).trans ((cell_far (p := ⟨g, 6, none⟩) hne _).trans ((cell_far (p := ⟨g, 5, none⟩) hne _).trans ((cell_far (p := ⟨g, 4, none⟩) hne _).trans ((cell_far (p := ⟨g, 3, none⟩) hne _).trans ((cell_far (p := ⟨g, 2, none⟩) hne _).trans ((cell_far (p := ⟨g, 1, none⟩) hne _).trans ((cell_far (p := ⟨g, 0, none⟩) hne _).trans (h)))))))))))))
end Go.Proofs.Ytfjmnaobfbmllaa.M
namespace Go.Proofs.Ytfjmnaobfbmllaa.M
open Go.RowKit Go.Proofs.YtfjmnaobfbmllaaW.PrintWords
def oddS (x : S33) : Bool := (!x.f0 && !x.f1.toList.isEmpty) || decide (200 < x.f1.size)
end Go.Proofs.Ytfjmnaobfbmllaa.M
namespace Go.Proofs.Ytfjmnaobfbmllaa.M
open Go.RowKit Go.Proofs.YtfjmnaobfbmllaaW.PrintWords Go.Proofs.YtfjmnaobfbmllaaW.PrintLast Go.Proofs.YtfjmnaobfbmllaaW.PrintMore
set_option linter.unusedVariables false
set_option linter.unusedSimpArgs false
theorem w64 (n : Int) (h0 : -9223372036854775808 ≤ n) (h1 : n ≤ 9223372036854775807) : wrap64 n = n := by unfold wrap64; omega
end Go.Proofs.Ytfjmnaobfbmllaa.M
namespace Go.Proofs.Ytfjmnaobfbmllaa.M
open Go.RowKit Go.Proofs.YtfjmnaobfbmllaaW.PrintWords Go.Proofs.YtfjmnaobfbmllaaW.PrintLast Go.Proofs.YtfjmnaobfbmllaaW.PrintMore
set_option linter.unusedVariables false
set_option linter.unusedSimpArgs false
def padL (bs : List Int) : List Int := bs ++ List.replicate (240 - bs.length) 0
def Buf (w : World) (g : Nat) (bs : List Int) : Prop := bs.length ≤ 240 ∧ w.heap[g]? = some (.cells (nums .u8 (padL bs)).toArray 5 (0, 0))
theorem Buf.grown {w w1 : World} {g : Nat} {bs : List Int} {row : Option Nat} (h : Buf w g bs) (hg : w.grownBy w1 row) (hne : some g ≠ row) : Buf w1 g bs := ⟨h.1, blk_grown h.2 hg hne⟩
theorem Buf.below {w w1 : World} {g : Nat} {bs : List Int} (h : Buf w g bs) (hb : Below w.heap.size w w1) : Buf w1 g bs := ⟨h.1, blk_below h.2 hb⟩
theorem Buf.alloc {w : World} {g : Nat} {bs : List Int} (h : Buf w g bs) (o : Obj) : Buf (w.alloc o) g bs := ⟨h.1, blk_alloc h.2 o⟩
theorem Buf.drewN {w : World} {g : Nat} {bs : List Int} (h : Buf w g bs) (n : Nat) : Buf (w.drewN n) g bs := ⟨h.1, blk_drewN h.2 n⟩
section
variable {ops : Array Oper} {rest : List Oper} {o : Oper} {a : Act} {Q : Exit → Act → World → Prop}
end
end Go.Proofs.Ytfjmnaobfbmllaa.M
namespace Go.Proofs.Ytfjmnaobfbmllaa.M
open Go.RowKit Go.Proofs.YtfjmnaobfbmllaaW.PrintWords Go.Proofs.YtfjmnaobfbmllaaW.PrintLast Go.Proofs.YtfjmnaobfbmllaaW.PrintMore
set_option linter.unusedVariables false
set_option linter.unusedSimpArgs false
theorem strOfNums_size (xs : List Int) : (strOfNums xs).size = xs.length := by
  simp [strOfNums, ByteArray.size]
theorem bytesOf_strOfNums (xs : List Int) (h : ∀ x ∈ xs, 0 ≤ x ∧ x ≤ 255) : bytesOf (strOfNums xs) = xs := by
  unfold bytesOf strOfNums
  simp only [List.map_map]
  conv => rhs; rw [← List.map_id xs]
  apply List.map_congr_left
  intro x hx
  have := h x hx
  simp
  omega
end Go.Proofs.Ytfjmnaobfbmllaa.M
namespace Go.Proofs.Ytfjmnaobfbmllaa.M
open Go.RowKit Go.Proofs.YtfjmnaobfbmllaaW.PrintWords Go.Proofs.YtfjmnaobfbmllaaW.PrintLast Go.Proofs.YtfjmnaobfbmllaaW.PrintMore
set_option linter.unusedVariables false
set_option linter.unusedSimpArgs false
theorem ba_inj {x y : ByteArray} : x.toList = y.toList ↔ x = y := by
  constructor
  · intro h
    rw [ByteArray.toList_eq, ByteArray.toList_eq] at h
    cases x; cases y
    congr
    exact Array.toList_inj.mp h
  · rintro rfl; rfl
theorem ba_nil (x : ByteArray) : x.toList = [] ↔ x = ⟨#[]⟩ := by
  rw [← ba_inj (y := ⟨#[]⟩)]; simp [ByteArray.toList_eq]
theorem s33_ext (x y : S33) : x = y ↔ x.f0 = y.f0 ∧ x.f1 = y.f1 := by cases x; cases y; simp
instance decS33 : DecidableEq S33 := fun x y => decidable_of_iff (x.f0 = y.f0 ∧ x.f1 = y.f1) (s33_ext x y).symm
def fineS (x : S33) : Prop := (x.f0 = false → x = z33) ∧ x.f1.size ≤ 200
theorem odd_fine (x : S33) : oddS x = false ↔ fineS x := by
  unfold oddS fineS
  rw [Bool.or_eq_false_iff, Bool.and_eq_false_iff, decide_eq_false_iff_not, Nat.not_lt]
  refine and_congr ?_ Iff.rfl
  rw [s33_ext]
  cases hx : x.f0 with
  | true => simp
  | false => simp [z33, ba_nil]
theorem fine_z : fineS z33 := ⟨fun _ => rfl, by simp [z33, ByteArray.size]⟩
end Go.Proofs.Ytfjmnaobfbmllaa.M
namespace Go.Proofs.Ytfjmnaobfbmllaa.M
open Go.RowKit Go.Proofs.YtfjmnaobfbmllaaW.PrintWords Go.Proofs.YtfjmnaobfbmllaaW.PrintLast Go.Proofs.YtfjmnaobfbmllaaW.PrintMore
attribute [local go_sem] max2_int min2_int max_two min_two max_three min_three max_four min_four   -- for this text's walks alone
set_option linter.unusedVariables false
set_option linter.unusedSimpArgs false
def entry_within.f (a0 : Int) (a1 : Int) (a2 : Int) : Option (Bool) := if a0 ≥ a1 then (some (decide (a0 ≤ a2))) else (some false)
set_option maxHeartbeats 8000000 in
set_option maxRecDepth 100000 in
theorem entry_within.calls (a0 : Int) (a1 : Int) (a2 : Int) (r : Bool) (w : World) (h : entry_within.f a0 a1 a2 = some r) :
  Calls Try.prog 102 #[.int .i64 a0, .int .i64 a1, .int .i64 a2] w fun e w' => e = .returned (.bool r) ∧ Drawn0 w w' := by
 have H : (if a0 ≥ a1 then (some (decide (a0 ≤ a2))) else (some false)) = some r := h
 clear h
 by_cases c4 : a0 ≥ a1
 ·rw [if_pos c4] at H
  have c4b0 : decide (a1 ≤ a0) = true := decide_eq_true c4
  clear c4
  obtain rfl := Option.some.inj H
  go_enter Try.func102, Try.ntmps102
  go_wp2
  go_ret
  exact ⟨by first | rfl | (simp; done) | (simp [*]; done), by repeat (first | exact Drawn0.refl _ | apply Drawn0.step)⟩
 ·rw [if_neg c4] at H
  have c4b0 : decide (a1 ≤ a0) = false := decide_eq_false c4
  clear c4
  obtain rfl := Option.some.inj H
  go_enter Try.func102, Try.ntmps102
  go_wp2
  go_ret
  exact ⟨by first | rfl | (simp; done) | (simp [*]; done), by repeat (first | exact Drawn0.refl _ | apply Drawn0.step)⟩
end Go.Proofs.Ytfjmnaobfbmllaa.M
namespace Go.Proofs.Ytfjmnaobfbmllaa.M
open Go.RowKit Go.Proofs.YtfjmnaobfbmllaaW.PrintWords Go.Proofs.YtfjmnaobfbmllaaW.PrintLast Go.Proofs.YtfjmnaobfbmllaaW.PrintMore
attribute [local go_sem] max2_int min2_int max_two min_two max_three min_three max_four min_four   -- for this text's walks alone
set_option linter.unusedVariables false
set_option linter.unusedSimpArgs false
def entry_Known.f (a0_0 : Int) (a0_1 : Int) (a0_2 : Int) : Option (Bool) := (entry_within.f a0_0 1 8).bind fun t102 => (if t102 = true then ((entry_within.f a0_1 1 1073741824).bind fun t103 => (if t103 = true then ((entry_within.f a0_2 1 1073741824).bind fun t104 => (some t104)) else (some false))) else (some false))
set_option maxHeartbeats 8000000 in
set_option maxRecDepth 100000 in
theorem entry_Known.calls (a0_0 : Int) (a0_1 : Int) (a0_2 : Int) (r : Bool) (w : World) (h : entry_Known.f a0_0 a0_1 a0_2 = some r) :
  Calls Try.prog 59 #[.agg #[.int .i64 a0_0, .int .i64 a0_1, .int .i64 a0_2]] w fun e w' => e = .returned (.bool r) ∧ Below w.heap.size w w' := by
 have hu52 := Try.underlying52
 have HB := Aside0.mk (Below.refl w.heap.size w)
 have H : ((entry_within.f a0_0 1 8).bind fun t102 => (if t102 = true then ((entry_within.f a0_1 1 1073741824).bind fun t103 => (if t103 = true then ((entry_within.f a0_2 1 1073741824).bind fun t104 => (some t104)) else (some false))) else (some false))) = some r := h
 clear h
 replace H := Option.bind_eq_some_iff.mp H
 obtain ⟨t102, A20, H⟩ := H
 replace H : (if t102 = true then ((entry_within.f a0_1 1 1073741824).bind fun t103 => (if t103 = true then ((entry_within.f a0_2 1 1073741824).bind fun t104 => (some t104)) else (some false))) else (some false)) = some r := H
 have A2 := Aside0.mk A20
 clear A20
 by_cases c3 : t102 = true
 ·subst c3
  have H1 : ((entry_within.f a0_1 1 1073741824).bind fun t103 => (if t103 = true then ((entry_within.f a0_2 1 1073741824).bind fun t104 => (some t104)) else (some false))) = some r := by rw [if_pos rfl] at H; exact H
  clear H
  have H := H1
  clear H1
  replace H := Option.bind_eq_some_iff.mp H
  obtain ⟨t103, A40, H⟩ := H
  replace H : (if t103 = true then ((entry_within.f a0_2 1 1073741824).bind fun t104 => (some t104)) else (some false)) = some r := H
  have A4 := Aside0.mk A40
  clear A40
  by_cases c5 : t103 = true
  ·subst c5
   have H1 : ((entry_within.f a0_2 1 1073741824).bind fun t104 => (some t104)) = some r := by rw [if_pos rfl] at H; exact H
   clear H
   have H := H1
   clear H1
   replace H := Option.bind_eq_some_iff.mp H
   obtain ⟨t104, A60, H⟩ := H
   replace H : (some t104) = some r := H
   have A6 := Aside0.mk A60
   clear A60
   obtain rfl := Option.some.inj H
   go_enter Try.func59, Try.ntmps59
   go_wp2_with (first | ((with_reducible refine gate_dst (N := 1) rfl ?_); refine box_event ?hg (N := 1) ?hd (cs := #[.int .i64 a0_0, .int .i64 a0_1, .int .i64 a0_2]) (t := 52) ?hr ?_; (case hd => rfl); (case hg => rfl); (case hr => first | (go_simp; done) | (go_simp; rfl)); intro gb101 hg w7 hbox hb; have n0_ := Aside0.mk (below_step HB.out hb); have n1_ := Aside0.mk (hbox); have n2_ := Aside0.mk ((by rw [hg]; exact below_size HB.out : w.heap.size ≤ gb101)); have n3_ := Aside0.mk ((by rw [hg]; exact below_size HB.out : w.heap.size ≤ gb101)); clear HB; have HB := n0_; have BK101 := n1_; have GW101 := n2_; have GE101 := n3_; clear n0_ n1_ n2_ n3_; clear hb hbox hg; obtain ⟨hcz8_0, hcz8_1, hcz8_2⟩ := cl3 (W := w7) BK101.out; obtain ⟨hfz8_0, hfz8_1, hfz8_2⟩ := fr3 BK101.out) | ((with_reducible refine gate_callee (f := 102) rfl ?_); refine goesL_ (some 5) rfl rfl Try.func102 (by kernel_rfl) rfl #[.int .i64 a0_0, .int .i64 1, .int .i64 8] rfl (by (try simp only [List.map_toArray, List.map_cons, List.map_nil]); first | done | rfl | (simp only [List.length_drop, List.length_take]; rfl)) ?_; (with_reducible refine (entry_within.calls a0_0 1 8 true _ A2.out).mono ?_); rintro e w' ⟨rfl, ⟨nd, rfl⟩⟩; refine ⟨_, rfl, ?_⟩) | (go_at_call 102; (with_reducible refine (entry_within.calls a0_1 1 1073741824 true _ A4.out).mono ?_); rintro e w' ⟨rfl, ⟨nd, rfl⟩⟩) | (go_at_call 102; (with_reducible refine (entry_within.calls a0_2 1 1073741824 t104 _ A6.out).mono ?_); rintro e w' ⟨rfl, ⟨nd, rfl⟩⟩))
   go_ret
   exact ⟨by first | rfl | (simp [errW_none, errW_some] <;> rfl) | (simp [*, errW_none, errW_some] <;> rfl), by repeat (first | (with_reducible first | exact HB.out | apply below_alloc | apply pw_below_drewN | apply below_drew1 | refine below_set ?_ GE101.out) | exact HB.out)⟩
  ·replace c5 := Bool.eq_false_iff.mpr c5
   subst c5
   have H1 : (some false) = some r := by rw [if_neg (show ¬ (false = true) by decide)] at H; exact H
   clear H
   have H := H1
   clear H1
   obtain rfl := Option.some.inj H
   go_enter Try.func59, Try.ntmps59
   go_wp2_with (first | ((with_reducible refine gate_dst (N := 1) rfl ?_); refine box_event ?hg (N := 1) ?hd (cs := #[.int .i64 a0_0, .int .i64 a0_1, .int .i64 a0_2]) (t := 52) ?hr ?_; (case hd => rfl); (case hg => rfl); (case hr => first | (go_simp; done) | (go_simp; rfl)); intro gb101 hg w9 hbox hb; have n0_ := Aside0.mk (below_step HB.out hb); have n1_ := Aside0.mk (hbox); have n2_ := Aside0.mk ((by rw [hg]; exact below_size HB.out : w.heap.size ≤ gb101)); have n3_ := Aside0.mk ((by rw [hg]; exact below_size HB.out : w.heap.size ≤ gb101)); clear HB; have HB := n0_; have BK101 := n1_; have GW101 := n2_; have GE101 := n3_; clear n0_ n1_ n2_ n3_; clear hb hbox hg; obtain ⟨hcz10_0, hcz10_1, hcz10_2⟩ := cl3 (W := w9) BK101.out; obtain ⟨hfz10_0, hfz10_1, hfz10_2⟩ := fr3 BK101.out) | ((with_reducible refine gate_callee (f := 102) rfl ?_); refine goesL_ (some 5) rfl rfl Try.func102 (by kernel_rfl) rfl #[.int .i64 a0_0, .int .i64 1, .int .i64 8] rfl (by (try simp only [List.map_toArray, List.map_cons, List.map_nil]); first | done | rfl | (simp only [List.length_drop, List.length_take]; rfl)) ?_; (with_reducible refine (entry_within.calls a0_0 1 8 true _ A2.out).mono ?_); rintro e w' ⟨rfl, ⟨nd, rfl⟩⟩; refine ⟨_, rfl, ?_⟩) | (go_at_call 102; (with_reducible refine (entry_within.calls a0_1 1 1073741824 false _ A4.out).mono ?_); rintro e w' ⟨rfl, ⟨nd, rfl⟩⟩))
   go_ret
   exact ⟨by first | rfl | (simp [errW_none, errW_some] <;> rfl) | (simp [*, errW_none, errW_some] <;> rfl), by repeat (first | (with_reducible first | exact HB.out | apply below_alloc | apply pw_below_drewN | apply below_drew1 | refine below_set ?_ GE101.out) | exact HB.out)⟩
 ·replace c3 := Bool.eq_false_iff.mpr c3
  subst c3
  have H1 : (some false) = some r := by rw [if_neg (show ¬ (false = true) by decide)] at H; exact H
  clear H
  have H := H1
  clear H1
  obtain rfl := Option.some.inj H
  go_enter Try.func59, Try.ntmps59
  go_wp2_with (first | ((with_reducible refine gate_dst (N := 1) rfl ?_); refine box_event ?hg (N := 1) ?hd (cs := #[.int .i64 a0_0, .int .i64 a0_1, .int .i64 a0_2]) (t := 52) ?hr ?_; (case hd => rfl); (case hg => rfl); (case hr => first | (go_simp; done) | (go_simp; rfl)); intro gb101 hg w11 hbox hb; have n0_ := Aside0.mk (below_step HB.out hb); have n1_ := Aside0.mk (hbox); have n2_ := Aside0.mk ((by rw [hg]; exact below_size HB.out : w.heap.size ≤ gb101)); have n3_ := Aside0.mk ((by rw [hg]; exact below_size HB.out : w.heap.size ≤ gb101)); clear HB; have HB := n0_; have BK101 := n1_; have GW101 := n2_; have GE101 := n3_; clear n0_ n1_ n2_ n3_; clear hb hbox hg; obtain ⟨hcz12_0, hcz12_1, hcz12_2⟩ := cl3 (W := w11) BK101.out; obtain ⟨hfz12_0, hfz12_1, hfz12_2⟩ := fr3 BK101.out) | ((with_reducible refine gate_callee (f := 102) rfl ?_); refine goesL_ (some 5) rfl rfl Try.func102 (by kernel_rfl) rfl #[.int .i64 a0_0, .int .i64 1, .int .i64 8] rfl (by (try simp only [List.map_toArray, List.map_cons, List.map_nil]); first | done | rfl | (simp only [List.length_drop, List.length_take]; rfl)) ?_; (with_reducible refine (entry_within.calls a0_0 1 8 false _ A2.out).mono ?_); rintro e w' ⟨rfl, ⟨nd, rfl⟩⟩; refine ⟨_, rfl, ?_⟩))
  go_ret
  exact ⟨by first | rfl | (simp [errW_none, errW_some] <;> rfl) | (simp [*, errW_none, errW_some] <;> rfl), by repeat (first | (with_reducible first | exact HB.out | apply below_alloc | apply pw_below_drewN | apply below_drew1 | refine below_set ?_ GE101.out) | exact HB.out)⟩
end Go.Proofs.Ytfjmnaobfbmllaa.M
namespace Go.Proofs.Ytfjmnaobfbmllaa.M
open Go.RowKit Go.Proofs.YtfjmnaobfbmllaaW.PrintWords Go.Proofs.YtfjmnaobfbmllaaW.PrintLast Go.Proofs.YtfjmnaobfbmllaaW.PrintMore
set_option linter.unusedVariables false
set_option linter.unusedSimpArgs false
def KnownP (c e n : Int) : Prop := 1 ≤ c ∧ c ≤ 8 ∧ 1 ≤ e ∧ e ≤ 1073741824 ∧ 1 ≤ n ∧ n ≤ 1073741824
instance decKnown (c e n : Int) : Decidable (KnownP c e n) := by unfold KnownP; infer_instance
theorem within_eq (a lo hi : Int) : entry_within.f a lo hi = some (decide (lo ≤ a ∧ a ≤ hi)) := by
  unfold entry_within.f
  by_cases h : a ≥ lo
  · rw [if_pos h]; congr 1; rw [decide_eq_decide]; omega
  · rw [if_neg h]; congr 1; rw [eq_comm, decide_eq_false_iff_not]; omega
theorem known_eq (c e n : Int) : entry_Known.f c e n = some (decide (KnownP c e n)) := by
  unfold entry_Known.f
  rw [within_eq, within_eq, within_eq, Option.bind_some, Option.bind_some, Option.bind_some]
  by_cases h1 : 1 ≤ c ∧ c ≤ 8
  · rw [decide_eq_true h1, if_pos rfl]
    by_cases h2 : 1 ≤ e ∧ e ≤ 1073741824
    · rw [decide_eq_true h2, if_pos rfl]; congr 1; rw [decide_eq_decide]; unfold KnownP; omega
    · rw [decide_eq_false h2, if_neg Bool.false_ne_true]; congr 1; exact (decide_eq_false (by unfold KnownP; omega)).symm
  · rw [decide_eq_false h1, if_neg Bool.false_ne_true]; congr 1; exact (decide_eq_false (by unfold KnownP; omega)).symm
def entKnown.f (c e n : Int) : Option Bool := some (decide (KnownP c e n))
theorem entKnown.calls (c e n : Int) (r : Bool) (w : World) (h : entKnown.f c e n = some r) : Calls Try.prog 59 #[.agg #[.int .i64 c, .int .i64 e, .int .i64 n]] w fun e w' => e = .returned (.bool r) ∧ Below w.heap.size w w' :=
  entry_Known.calls c e n r w (by rw [known_eq]; exact h)
end Go.Proofs.Ytfjmnaobfbmllaa.M
namespace Go.Proofs.Ytfjmnaobfbmllaa.M
open Go.RowKit Go.Proofs.YtfjmnaobfbmllaaW.PrintWords Go.Proofs.YtfjmnaobfbmllaaW.PrintLast Go.Proofs.YtfjmnaobfbmllaaW.PrintMore
attribute [local go_sem] max2_int min2_int max_two min_two max_three min_three max_four min_four   -- for this text's walks alone
set_option linter.unusedVariables false
set_option linter.unusedSimpArgs false
def entry_isSlot.f (a0_0 : Bool) (a0_1 : ByteArray) : Option (Bool) := if (a0_1.size : Int) ≤ 200 then (if a0_0 = true then (some true) else (some (a0_1.toList == ([] : List UInt8)))) else (some false)
set_option maxHeartbeats 8000000 in
set_option maxRecDepth 100000 in
theorem entry_isSlot.calls (a0_0 : Bool) (a0_1 : ByteArray) (r : Bool) (w : World) (h : entry_isSlot.f a0_0 a0_1 = some r) :
  Calls Try.prog 103 #[.agg #[.bool a0_0, .string a0_1]] w fun e w' => e = .returned (.bool r) ∧ Below w.heap.size w w' := by
 have hu33 := Try.underlying33
 have HB := Aside0.mk (Below.refl w.heap.size w)
 have H : (if (a0_1.size : Int) ≤ 200 then (if a0_0 = true then (some true) else (some (a0_1.toList == ([] : List UInt8)))) else (some false)) = some r := h
 clear h
 by_cases c2 : (a0_1.size : Int) ≤ 200
 ·rw [if_pos c2] at H
  have c2b0 : decide ((a0_1.size : Int) ≤ 200) = true := decide_eq_true c2
  have c2b1 : decide (a0_1.size ≤ 200) = true := decide_eq_true (by omega)
  clear c2
  by_cases c3 : a0_0 = true
  ·subst c3
   have H1 : (some true) = some r := by rw [if_pos rfl] at H; exact H
   clear H
   have H := H1
   clear H1
   obtain rfl := Option.some.inj H
   go_enter Try.func103, Try.ntmps103
   go_wp2_with (first | ((with_reducible refine gate_dst (N := 1) rfl ?_); refine box_event ?hg (N := 1) ?hd (cs := #[.bool true, .string a0_1]) (t := 33) ?hr ?_; (case hd => rfl); (case hg => rfl); (case hr => first | (go_simp; done) | (go_simp; rfl)); intro gb101 hg w4 hbox hb; have n0_ := Aside0.mk (below_step HB.out hb); have n1_ := Aside0.mk (hbox); have n2_ := Aside0.mk ((by rw [hg]; exact below_size HB.out : w.heap.size ≤ gb101)); have n3_ := Aside0.mk ((by rw [hg]; exact below_size HB.out : w.heap.size ≤ gb101)); clear HB; have HB := n0_; have BK101 := n1_; have GW101 := n2_; have GE101 := n3_; clear n0_ n1_ n2_ n3_; clear hb hbox hg; obtain ⟨hcz5_0, hcz5_1⟩ := cl2 (W := w4) BK101.out; obtain ⟨hfz5_0, hfz5_1⟩ := fr2 BK101.out))
   go_ret
   exact ⟨by first | rfl | (simp [errW_none, errW_some] <;> rfl) | (simp [*, errW_none, errW_some] <;> rfl), by repeat (first | (with_reducible first | exact HB.out | apply below_alloc | apply pw_below_drewN | apply below_drew1 | refine below_set ?_ GE101.out) | exact HB.out)⟩
  ·replace c3 := Bool.eq_false_iff.mpr c3
   subst c3
   have H1 : (some (a0_1.toList == ([] : List UInt8))) = some r := by rw [if_neg (show ¬ (false = true) by decide)] at H; exact H
   clear H
   have H := H1
   clear H1
   obtain rfl := Option.some.inj H
   go_enter Try.func103, Try.ntmps103
   go_wp2_with (first | ((with_reducible refine gate_dst (N := 1) rfl ?_); refine box_event ?hg (N := 1) ?hd (cs := #[.bool false, .string a0_1]) (t := 33) ?hr ?_; (case hd => rfl); (case hg => rfl); (case hr => first | (go_simp; done) | (go_simp; rfl)); intro gb101 hg w6 hbox hb; have n0_ := Aside0.mk (below_step HB.out hb); have n1_ := Aside0.mk (hbox); have n2_ := Aside0.mk ((by rw [hg]; exact below_size HB.out : w.heap.size ≤ gb101)); have n3_ := Aside0.mk ((by rw [hg]; exact below_size HB.out : w.heap.size ≤ gb101)); clear HB; have HB := n0_; have BK101 := n1_; have GW101 := n2_; have GE101 := n3_; clear n0_ n1_ n2_ n3_; clear hb hbox hg; obtain ⟨hcz7_0, hcz7_1⟩ := cl2 (W := w6) BK101.out; obtain ⟨hfz7_0, hfz7_1⟩ := fr2 BK101.out))
   go_ret
   exact ⟨by first | rfl | (simp [errW_none, errW_some] <;> rfl) | (simp [*, errW_none, errW_some] <;> rfl), by repeat (first | (with_reducible first | exact HB.out | apply below_alloc | apply pw_below_drewN | apply below_drew1 | refine below_set ?_ GE101.out) | exact HB.out)⟩
 ·rw [if_neg c2] at H
  have c2b0 : decide ((a0_1.size : Int) ≤ 200) = false := decide_eq_false c2
  have c2b1 : decide (a0_1.size ≤ 200) = false := decide_eq_false (by omega)
  clear c2
  obtain rfl := Option.some.inj H
  go_enter Try.func103, Try.ntmps103
  go_wp2_with (first | ((with_reducible refine gate_dst (N := 1) rfl ?_); refine box_event ?hg (N := 1) ?hd (cs := #[.bool a0_0, .string a0_1]) (t := 33) ?hr ?_; (case hd => rfl); (case hg => rfl); (case hr => first | (go_simp; done) | (go_simp; rfl)); intro gb101 hg w8 hbox hb; have n0_ := Aside0.mk (below_step HB.out hb); have n1_ := Aside0.mk (hbox); have n2_ := Aside0.mk ((by rw [hg]; exact below_size HB.out : w.heap.size ≤ gb101)); have n3_ := Aside0.mk ((by rw [hg]; exact below_size HB.out : w.heap.size ≤ gb101)); clear HB; have HB := n0_; have BK101 := n1_; have GW101 := n2_; have GE101 := n3_; clear n0_ n1_ n2_ n3_; clear hb hbox hg; obtain ⟨hcz9_0, hcz9_1⟩ := cl2 (W := w8) BK101.out; obtain ⟨hfz9_0, hfz9_1⟩ := fr2 BK101.out))
  go_ret
  exact ⟨by first | rfl | (simp [errW_none, errW_some] <;> rfl) | (simp [*, errW_none, errW_some] <;> rfl), by repeat (first | (with_reducible first | exact HB.out | apply below_alloc | apply pw_below_drewN | apply below_drew1 | refine below_set ?_ GE101.out) | exact HB.out)⟩
end Go.Proofs.Ytfjmnaobfbmllaa.M
namespace Go.Proofs.Ytfjmnaobfbmllaa.M
open Go.RowKit Go.Proofs.YtfjmnaobfbmllaaW.PrintWords Go.Proofs.YtfjmnaobfbmllaaW.PrintLast Go.Proofs.YtfjmnaobfbmllaaW.PrintMore
attribute [local go_sem] max2_int min2_int max_two min_two max_three min_three max_four min_four   -- for this text's walks alone
set_option linter.unusedVariables false
set_option linter.unusedSimpArgs false
def entry_plain.f (a0_0 : Int) (a0_1 : Int) (a0_2 : Int) (a0_3 : Int) (a0_4 : Int) (a0_5 : Int) (a0_6 : Int) (a0_7 : Int) (a0_8 : Bool) (a0_9 : ByteArray) (a0_10 : Bool) (a0_11 : ByteArray) (a0_12 : Int) : Option (Int × Int × Int × Int × Int × Int × Int × Int × Bool × ByteArray × Bool × ByteArray × Int) := some (a0_0, a0_1, a0_2, a0_3, a0_4, a0_5, 0, 0, false, (⟨#[]⟩ : ByteArray), false, (⟨#[]⟩ : ByteArray), 0)
set_option maxHeartbeats 8000000 in
set_option maxRecDepth 100000 in
theorem entry_plain.calls (a0_0 : Int) (a0_1 : Int) (a0_2 : Int) (a0_3 : Int) (a0_4 : Int) (a0_5 : Int) (a0_6 : Int) (a0_7 : Int) (a0_8 : Bool) (a0_9 : ByteArray) (a0_10 : Bool) (a0_11 : ByteArray) (a0_12 : Int) (r1 : Int) (r2 : Int) (r3 : Int) (r4 : Int) (r5 : Int) (r6 : Int) (r7 : Int) (r8 : Int) (r9 : Bool) (r10 : ByteArray) (r11 : Bool) (r12 : ByteArray) (r13 : Int) (w : World) (h : entry_plain.f a0_0 a0_1 a0_2 a0_3 a0_4 a0_5 a0_6 a0_7 a0_8 a0_9 a0_10 a0_11 a0_12 = some (r1, r2, r3, r4, r5, r6, r7, r8, r9, r10, r11, r12, r13)) :
  Calls Try.prog 104 #[.agg #[.int .i64 a0_0, .int .i64 a0_1, .int .i64 a0_2, .int .i64 a0_3, .int .i64 a0_4, .int .i64 a0_5, .int .i64 a0_6, .int .i64 a0_7, .bool a0_8, .string a0_9, .bool a0_10, .string a0_11, .int .i64 a0_12]] w fun e w' => e = .returned (.agg #[.int .i64 r1, .int .i64 r2, .int .i64 r3, .int .i64 r4, .int .i64 r5, .int .i64 r6, .int .i64 r7, .int .i64 r8, .bool r9, .string r10, .bool r11, .string r12, .int .i64 r13]) ∧ Below w.heap.size w w' := by
 have hu65 := Try.underlying65
 have hu52 := Try.underlying52
 have HB := Aside0.mk (Below.refl w.heap.size w)
 have H : (some (a0_0, a0_1, a0_2, a0_3, a0_4, a0_5, 0, 0, false, (⟨#[]⟩ : ByteArray), false, (⟨#[]⟩ : ByteArray), 0)) = some (r1, r2, r3, r4, r5, r6, r7, r8, r9, r10, r11, r12, r13) := h
 clear h
 simp only [Option.some.injEq, Prod.mk.injEq] at H
 obtain ⟨rfl, rfl, rfl, rfl, rfl, rfl, rfl, rfl, rfl, rfl, rfl, rfl, rfl⟩ := H
 go_enter Try.func104, Try.ntmps104
 go_wp2_with (first | ((with_reducible refine gate_dst (N := 1) rfl ?_); refine box_event ?hg (N := 1) ?hd (cs := #[.int .i64 a0_0, .int .i64 a0_1, .int .i64 a0_2, .int .i64 a0_3, .int .i64 a0_4, .int .i64 a0_5, .int .i64 a0_6, .int .i64 a0_7, .bool a0_8, .string a0_9, .bool a0_10, .string a0_11, .int .i64 a0_12]) (t := 65) ?hr ?_; (case hd => rfl); (case hg => rfl); (case hr => first | (go_simp; done) | (go_simp; rfl)); intro gb101 hg w2 hbox hb; have n0_ := Aside0.mk (below_step HB.out hb); have n1_ := Aside0.mk (hbox); have n2_ := Aside0.mk ((by rw [hg]; exact below_size HB.out : w.heap.size ≤ gb101)); have n3_ := Aside0.mk ((by rw [hg]; exact below_size HB.out : w.heap.size ≤ gb101)); clear HB; have HB := n0_; have BK101 := n1_; have GW101 := n2_; have GE101 := n3_; clear n0_ n1_ n2_ n3_; clear hb hbox hg) | ((with_reducible refine gate_dst (N := 2) rfl ?_); refine box_event ?hg (N := 2) ?hd (cs := #[.int .i64 0, .int .i64 0, .int .i64 0, .int .i64 0, .int .i64 0, .int .i64 0, .int .i64 0, .int .i64 0, .bool false, .string (⟨#[]⟩ : ByteArray), .bool false, .string (⟨#[]⟩ : ByteArray), .int .i64 0]) (t := 65) ?hr ?_; (case hd => rfl); (case hg => rfl); (case hr => first | (go_simp; done) | (go_simp; rfl)); intro gb102 hg w3 hbox hb; have n0_ := Aside0.mk (blk_below BK101.out hb); have n1_ := Aside0.mk (below_step HB.out hb); have n2_ := Aside0.mk (hbox); have n3_ := Aside0.mk ((by rw [hg]; exact below_size HB.out : w.heap.size ≤ gb102)); have n4_ := Aside0.mk ((by rw [hg]; exact below_size HB.out : w.heap.size ≤ gb102)); have n5_ := Aside0.mk ((by rw [hg]; exact Nat.ne_of_lt (blk_lt BK101.out) : gb101 ≠ gb102)); have n6_ := Aside0.mk ((by rw [hg]; exact Nat.ne_of_gt (blk_lt BK101.out) : gb102 ≠ gb101)); clear BK101; clear HB; have BK101 := n0_; have HB := n1_; have BK102 := n2_; have GW102 := n3_; have GE102 := n4_; have NB101_102 := n5_; have NB102_101 := n6_; clear n0_ n1_ n2_ n3_ n4_ n5_ n6_; clear hb hbox hg; have hnb4 := NB101_102.out; have hnc4 := NB102_101.out; obtain ⟨hcz5_0, hcz5_1, hcz5_2, hcz5_3, hcz5_4, hcz5_5, hcz5_6, hcz5_7, hcz5_8, hcz5_9, hcz5_10, hcz5_11, hcz5_12⟩ := cl13 (W := w3) BK101.out; obtain ⟨hfz5_0, hfz5_1, hfz5_2, hfz5_3, hfz5_4, hfz5_5, hfz5_6, hfz5_7, hfz5_8, hfz5_9, hfz5_10, hfz5_11, hfz5_12⟩ := fr13 BK101.out; obtain ⟨hcz6_0, hcz6_1, hcz6_2, hcz6_3, hcz6_4, hcz6_5, hcz6_6, hcz6_7, hcz6_8, hcz6_9, hcz6_10, hcz6_11, hcz6_12⟩ := cl13 (W := w3) BK102.out; obtain ⟨hfz6_0, hfz6_1, hfz6_2, hfz6_3, hfz6_4, hfz6_5, hfz6_6, hfz6_7, hfz6_8, hfz6_9, hfz6_10, hfz6_11, hfz6_12⟩ := fr13 BK102.out))
 refine bodyPost_ret (results_cell_row rfl _ _ gb102 65 #[.int .i64 a0_0, .int .i64 a0_1, .int .i64 a0_2, .int .i64 a0_3, .int .i64 a0_4, .int .i64 a0_5, .int .i64 0, .int .i64 0, .bool false, .string (⟨#[]⟩ : ByteArray), .bool false, .string (⟨#[]⟩ : ByteArray), .int .i64 0] (0, 0) _ rfl (by (with_reducible repeat (first | refine blk_drewN ?_ _ | refine blk_drew ?_ | refine blk_alloc ?_ _)); refine blk_put (cs := #[.int .i64 a0_0, .int .i64 a0_1, .int .i64 a0_2, .int .i64 a0_3, .int .i64 a0_4, .int .i64 a0_5, .int .i64 0, .int .i64 0, .bool false, .string (⟨#[]⟩ : ByteArray), .bool false, .string (⟨#[]⟩ : ByteArray), .int .i64 0]) ?_ 12 _ rfl; refine blk_put (cs := #[.int .i64 a0_0, .int .i64 a0_1, .int .i64 a0_2, .int .i64 a0_3, .int .i64 a0_4, .int .i64 a0_5, .int .i64 0, .int .i64 0, .bool false, .string (⟨#[]⟩ : ByteArray), .bool false, .string (⟨#[]⟩ : ByteArray), .int .i64 0]) ?_ 11 _ rfl; refine blk_put (cs := #[.int .i64 a0_0, .int .i64 a0_1, .int .i64 a0_2, .int .i64 a0_3, .int .i64 a0_4, .int .i64 a0_5, .int .i64 0, .int .i64 0, .bool false, .string (⟨#[]⟩ : ByteArray), .bool false, .string (⟨#[]⟩ : ByteArray), .int .i64 0]) ?_ 10 _ rfl; refine blk_put (cs := #[.int .i64 a0_0, .int .i64 a0_1, .int .i64 a0_2, .int .i64 a0_3, .int .i64 a0_4, .int .i64 a0_5, .int .i64 0, .int .i64 0, .bool false, .string (⟨#[]⟩ : ByteArray), .bool false, .string (⟨#[]⟩ : ByteArray), .int .i64 0]) ?_ 9 _ rfl; refine blk_put (cs := #[.int .i64 a0_0, .int .i64 a0_1, .int .i64 a0_2, .int .i64 a0_3, .int .i64 a0_4, .int .i64 a0_5, .int .i64 0, .int .i64 0, .bool false, .string (⟨#[]⟩ : ByteArray), .bool false, .string (⟨#[]⟩ : ByteArray), .int .i64 0]) ?_ 8 _ rfl; refine blk_put (cs := #[.int .i64 a0_0, .int .i64 a0_1, .int .i64 a0_2, .int .i64 a0_3, .int .i64 a0_4, .int .i64 a0_5, .int .i64 0, .int .i64 0, .bool false, .string (⟨#[]⟩ : ByteArray), .bool false, .string (⟨#[]⟩ : ByteArray), .int .i64 0]) ?_ 7 _ rfl; refine blk_put (cs := #[.int .i64 a0_0, .int .i64 a0_1, .int .i64 a0_2, .int .i64 a0_3, .int .i64 a0_4, .int .i64 a0_5, .int .i64 0, .int .i64 0, .bool false, .string (⟨#[]⟩ : ByteArray), .bool false, .string (⟨#[]⟩ : ByteArray), .int .i64 0]) ?_ 6 _ rfl; refine blk_put (cs := #[.int .i64 a0_0, .int .i64 a0_1, .int .i64 a0_2, .int .i64 a0_3, .int .i64 a0_4, .int .i64 0, .int .i64 0, .int .i64 0, .bool false, .string (⟨#[]⟩ : ByteArray), .bool false, .string (⟨#[]⟩ : ByteArray), .int .i64 0]) ?_ 5 _ rfl; refine blk_put (cs := #[.int .i64 a0_0, .int .i64 a0_1, .int .i64 a0_2, .int .i64 a0_3, .int .i64 0, .int .i64 0, .int .i64 0, .int .i64 0, .bool false, .string (⟨#[]⟩ : ByteArray), .bool false, .string (⟨#[]⟩ : ByteArray), .int .i64 0]) ?_ 4 _ rfl; refine blk_put (cs := #[.int .i64 a0_0, .int .i64 a0_1, .int .i64 a0_2, .int .i64 0, .int .i64 0, .int .i64 0, .int .i64 0, .int .i64 0, .bool false, .string (⟨#[]⟩ : ByteArray), .bool false, .string (⟨#[]⟩ : ByteArray), .int .i64 0]) ?_ 3 _ rfl; refine blk_put (cs := #[.int .i64 a0_0, .int .i64 a0_1, .int .i64 0, .int .i64 0, .int .i64 0, .int .i64 0, .int .i64 0, .int .i64 0, .bool false, .string (⟨#[]⟩ : ByteArray), .bool false, .string (⟨#[]⟩ : ByteArray), .int .i64 0]) ?_ 2 _ rfl; refine blk_put (cs := #[.int .i64 a0_0, .int .i64 0, .int .i64 0, .int .i64 0, .int .i64 0, .int .i64 0, .int .i64 0, .int .i64 0, .bool false, .string (⟨#[]⟩ : ByteArray), .bool false, .string (⟨#[]⟩ : ByteArray), .int .i64 0]) ?_ 1 _ rfl; refine blk_put (cs := #[.int .i64 0, .int .i64 0, .int .i64 0, .int .i64 0, .int .i64 0, .int .i64 0, .int .i64 0, .int .i64 0, .bool false, .string (⟨#[]⟩ : ByteArray), .bool false, .string (⟨#[]⟩ : ByteArray), .int .i64 0]) ?_ 0 _ rfl; (with_reducible repeat (first | refine blk_drewN ?_ _ | refine blk_drew ?_ | refine blk_alloc ?_ _)); exact BK102.out) Try.underlying65 rfl (by kernel_rfl)) rfl ?_
 exact ⟨by first | rfl | (simp [errW_none, errW_some] <;> rfl) | (simp [*, errW_none, errW_some] <;> rfl), by repeat (first | (with_reducible first | exact HB.out | apply below_alloc | apply pw_below_drewN | apply below_drew1 | refine below_set ?_ GE101.out | refine below_set ?_ GE102.out) | exact HB.out)⟩
end Go.Proofs.Ytfjmnaobfbmllaa.M
namespace Go.Proofs.Ytfjmnaobfbmllaa.M
open Go.RowKit Go.Proofs.YtfjmnaobfbmllaaW.PrintWords Go.Proofs.YtfjmnaobfbmllaaW.PrintLast Go.Proofs.YtfjmnaobfbmllaaW.PrintMore
attribute [local go_sem] max2_int min2_int max_two min_two max_three min_three max_four min_four   -- for this text's walks alone
set_option linter.unusedVariables false
set_option linter.unusedSimpArgs false
theorem eqA33 (d : Nat) (w : World) (x0 y0 : Bool) (x1 y1 : ByteArray) :
    (Op.equalIn (d + 2) 33 (.agg #[.bool x0, .string x1]) (.agg #[.bool y0, .string y1])).run Try.prog w = .ok (x0 == y0 && (x1.toList == y1.toList)) w := by
  refine eqA_of Try.underlying33 (by kernel_rfl) ?_
  refine eqf_cons (by rfl) (by go_simp; rfl) (by go_simp; rfl) (by go_simp) ?_
  exact eqf_last (by rfl) (by go_simp; rfl) (by go_simp; rfl) (by go_simp)
end Go.Proofs.Ytfjmnaobfbmllaa.M
namespace Go.Proofs.Ytfjmnaobfbmllaa.M
open Go.RowKit Go.Proofs.YtfjmnaobfbmllaaW.PrintWords Go.Proofs.YtfjmnaobfbmllaaW.PrintLast Go.Proofs.YtfjmnaobfbmllaaW.PrintMore
attribute [local go_sem] max2_int min2_int max_two min_two max_three min_three max_four min_four   -- for this text's walks alone
set_option linter.unusedVariables false
set_option linter.unusedSimpArgs false
theorem eqA52 (d : Nat) (w : World) (x0 y0 : Int) (x1 y1 : Int) (x2 y2 : Int) :
    (Op.equalIn (d + 2) 52 (.agg #[.int .i64 x0, .int .i64 x1, .int .i64 x2]) (.agg #[.int .i64 y0, .int .i64 y1, .int .i64 y2])).run Try.prog w = .ok (x0 == y0 && (x1 == y1 && (x2 == y2))) w := by
  refine eqA_of Try.underlying52 (by kernel_rfl) ?_
  refine eqf_cons (by rfl) (by go_simp; rfl) (by go_simp; rfl) (by go_simp) ?_
  refine eqf_cons (by rfl) (by go_simp; rfl) (by go_simp; rfl) (by go_simp) ?_
  exact eqf_last (by rfl) (by go_simp; rfl) (by go_simp; rfl) (by go_simp)
end Go.Proofs.Ytfjmnaobfbmllaa.M
namespace Go.Proofs.Ytfjmnaobfbmllaa.M
open Go.RowKit Go.Proofs.YtfjmnaobfbmllaaW.PrintWords Go.Proofs.YtfjmnaobfbmllaaW.PrintLast Go.Proofs.YtfjmnaobfbmllaaW.PrintMore
attribute [local go_sem] max2_int min2_int max_two min_two max_three min_three max_four min_four   -- for this text's walks alone
set_option linter.unusedVariables false
set_option linter.unusedSimpArgs false
theorem eqA65 (d : Nat) (w : World) (x0 y0 : Int) (x1 y1 : Int) (x2 y2 : Int) (x3 y3 : Int) (x4 y4 : Int) (x5 y5 : Int) (x6 y6 : Int) (x7 y7 : Int) (x8 y8 : Bool) (x9 y9 : ByteArray) (x10 y10 : Bool) (x11 y11 : ByteArray) (x12 y12 : Int) :
    (Op.equalIn (d + 3) 65 (.agg #[.int .i64 x0, .int .i64 x1, .int .i64 x2, .int .i64 x3, .int .i64 x4, .int .i64 x5, .int .i64 x6, .int .i64 x7, .bool x8, .string x9, .bool x10, .string x11, .int .i64 x12]) (.agg #[.int .i64 y0, .int .i64 y1, .int .i64 y2, .int .i64 y3, .int .i64 y4, .int .i64 y5, .int .i64 y6, .int .i64 y7, .bool y8, .string y9, .bool y10, .string y11, .int .i64 y12])).run Try.prog w = .ok (x0 == y0 && ((x1 == y1 && (x2 == y2 && (x3 == y3))) && (x4 == y4 && (x5 == y5 && (x6 == y6 && (x7 == y7 && ((x8 == y8 && (x9.toList == y9.toList)) && ((x10 == y10 && (x11.toList == y11.toList)) && (x12 == y12))))))))) w := by
  refine eqA_of Try.underlying65 (by kernel_rfl) ?_
  refine eqf_cons (by rfl) (by go_simp; rfl) (by go_simp; rfl) (by go_simp) ?_
  refine eqf_cons (by rfl) (by go_simp) (by go_simp) (eqA52 (d + 0) w _ _ _ _ _ _) ?_
  refine eqf_cons (by rfl) (by go_simp; rfl) (by go_simp; rfl) (by go_simp) ?_
  refine eqf_cons (by rfl) (by go_simp; rfl) (by go_simp; rfl) (by go_simp) ?_
  refine eqf_cons (by rfl) (by go_simp; rfl) (by go_simp; rfl) (by go_simp) ?_
  refine eqf_cons (by rfl) (by go_simp; rfl) (by go_simp; rfl) (by go_simp) ?_
  refine eqf_cons (by rfl) (by go_simp) (by go_simp) (eqA33 (d + 0) w _ _ _ _) ?_
  refine eqf_cons (by rfl) (by go_simp) (by go_simp) (eqA33 (d + 0) w _ _ _ _) ?_
  exact eqf_last (by rfl) (by go_simp; rfl) (by go_simp; rfl) (by go_simp)
end Go.Proofs.Ytfjmnaobfbmllaa.M
namespace Go.Proofs.Ytfjmnaobfbmllaa.M
open Go.RowKit Go.Proofs.YtfjmnaobfbmllaaW.PrintWords Go.Proofs.YtfjmnaobfbmllaaW.PrintLast Go.Proofs.YtfjmnaobfbmllaaW.PrintMore
attribute [local go_sem] max2_int min2_int max_two min_two max_three min_three max_four min_four   -- for this text's walks alone
set_option linter.unusedVariables false
set_option linter.unusedSimpArgs false
attribute [local go_sem high] eqA65
mutual
def entry_Good.j0 : Nat → Bool → Int → Int → Int → Int → Int → Int → Int → Int → Bool → ByteArray → Bool → ByteArray → Int → Option (Bool)
 | 0, _, _, _, _, _, _, _, _, _, _, _, _, _, _ => none
 | k + 1, x22, x102000, x102001, x102002, x102003, x102004, x102005, x102006, x102007, x102008, x102009, x102010, x102011, x102012 => if x22 = true then (some false) else ((entry_within.f x102006 0 1023).bind fun t105 => (if t105 = true then ((entry_within.f x102007 0 31).bind fun t106 => (if t106 = true then ((entry_isSlot.f x102008 x102009).bind fun t107 => (if t107 = true then ((entry_isSlot.f x102010 x102011).bind fun t108 => (entry_Good.j1 k t108 x102000 x102001 x102002 x102003 x102004 x102005 x102006 x102007 x102008 x102009 x102010 x102011 x102012)) else (entry_Good.j1 k false x102000 x102001 x102002 x102003 x102004 x102005 x102006 x102007 x102008 x102009 x102010 x102011 x102012))) else (entry_Good.j1 k false x102000 x102001 x102002 x102003 x102004 x102005 x102006 x102007 x102008 x102009 x102010 x102011 x102012))) else (entry_Good.j1 k false x102000 x102001 x102002 x102003 x102004 x102005 x102006 x102007 x102008 x102009 x102010 x102011 x102012)))
def entry_Good.j1 : Nat → Bool → Int → Int → Int → Int → Int → Int → Int → Int → Bool → ByteArray → Bool → ByteArray → Int → Option (Bool)
 | 0, _, _, _, _, _, _, _, _, _, _, _, _, _, _ => none
 | k + 1, x3, x102000, x102001, x102002, x102003, x102004, x102005, x102006, x102007, x102008, x102009, x102010, x102011, x102012 => if x102000 = 1 then (if x3 = true then (some (x102012 == 0)) else (some false)) else (if x102000 = 2 then (if x3 = true then ((entry_within.f x102012 0 x102005).bind fun t109 => (some t109)) else (some false)) else (if x102000 = 3 then ((entry_plain.f x102000 x102001 x102002 x102003 x102004 x102005 x102006 x102007 x102008 x102009 x102010 x102011 x102012).bind fun bt110 => (some (x102000 == bt110.1 && ((x102001 == bt110.2.1 && (x102002 == bt110.2.2.1 && (x102003 == bt110.2.2.2.1))) && (x102004 == bt110.2.2.2.2.1 && (x102005 == bt110.2.2.2.2.2.1 && (x102006 == bt110.2.2.2.2.2.2.1 && (x102007 == bt110.2.2.2.2.2.2.2.1 && ((x102008 == bt110.2.2.2.2.2.2.2.2.1 && (x102009.toList == bt110.2.2.2.2.2.2.2.2.2.1.toList)) && ((x102010 == bt110.2.2.2.2.2.2.2.2.2.2.1 && (x102011.toList == bt110.2.2.2.2.2.2.2.2.2.2.2.1.toList)) && (x102012 == bt110.2.2.2.2.2.2.2.2.2.2.2.2))))))))))) else (if x102000 = 4 then ((entry_plain.f x102000 x102001 x102002 x102003 x102004 x102005 x102006 x102007 x102008 x102009 x102010 x102011 x102012).bind fun bt123 => (some (x102000 == bt123.1 && ((x102001 == bt123.2.1 && (x102002 == bt123.2.2.1 && (x102003 == bt123.2.2.2.1))) && (x102004 == bt123.2.2.2.2.1 && (x102005 == bt123.2.2.2.2.2.1 && (x102006 == bt123.2.2.2.2.2.2.1 && (x102007 == bt123.2.2.2.2.2.2.2.1 && ((x102008 == bt123.2.2.2.2.2.2.2.2.1 && (x102009.toList == bt123.2.2.2.2.2.2.2.2.2.1.toList)) && ((x102010 == bt123.2.2.2.2.2.2.2.2.2.2.1 && (x102011.toList == bt123.2.2.2.2.2.2.2.2.2.2.2.1.toList)) && (x102012 == bt123.2.2.2.2.2.2.2.2.2.2.2.2))))))))))) else (some false))))
end
def entry_Good.f (k : Nat) (a0_0 : Int) (a0_1 : Int) (a0_2 : Int) (a0_3 : Int) (a0_4 : Int) (a0_5 : Int) (a0_6 : Int) (a0_7 : Int) (a0_8 : Bool) (a0_9 : ByteArray) (a0_10 : Bool) (a0_11 : ByteArray) (a0_12 : Int) : Option (Bool) := (entKnown.f a0_1 a0_2 a0_3).bind fun t102 => (if t102 = true then ((entry_within.f a0_4 1 1099511627776).bind fun t103 => (if t103 = true then ((entry_within.f a0_5 0 (wrap64 (a0_4 - 1))).bind fun t104 => (entry_Good.j0 k (!t104) a0_0 a0_1 a0_2 a0_3 a0_4 a0_5 a0_6 a0_7 a0_8 a0_9 a0_10 a0_11 a0_12)) else (entry_Good.j0 k true a0_0 a0_1 a0_2 a0_3 a0_4 a0_5 a0_6 a0_7 a0_8 a0_9 a0_10 a0_11 a0_12))) else (entry_Good.j0 k true a0_0 a0_1 a0_2 a0_3 a0_4 a0_5 a0_6 a0_7 a0_8 a0_9 a0_10 a0_11 a0_12))
set_option maxHeartbeats 8000000 in
set_option maxRecDepth 100000 in
theorem entry_Good.calls (k : Nat) (a0_0 : Int) (a0_1 : Int) (a0_2 : Int) (a0_3 : Int) (a0_4 : Int) (a0_5 : Int) (a0_6 : Int) (a0_7 : Int) (a0_8 : Bool) (a0_9 : ByteArray) (a0_10 : Bool) (a0_11 : ByteArray) (a0_12 : Int) (r : Bool) (w : World) (h : entry_Good.f k a0_0 a0_1 a0_2 a0_3 a0_4 a0_5 a0_6 a0_7 a0_8 a0_9 a0_10 a0_11 a0_12 = some r) :
  Calls Try.prog 55 #[.agg #[.int .i64 a0_0, .int .i64 a0_1, .int .i64 a0_2, .int .i64 a0_3, .int .i64 a0_4, .int .i64 a0_5, .int .i64 a0_6, .int .i64 a0_7, .bool a0_8, .string a0_9, .bool a0_10, .string a0_11, .int .i64 a0_12]] w fun e w' => e = .returned (.bool r) ∧ Below w.heap.size w w' := by
 have hu65 := Try.underlying65
 have hu52 := Try.underlying52
 have hu33 := Try.underlying33
 have HB := Aside0.mk (Below.refl w.heap.size w)
 have H : ((entKnown.f a0_1 a0_2 a0_3).bind fun t102 => (if t102 = true then ((entry_within.f a0_4 1 1099511627776).bind fun t103 => (if t103 = true then ((entry_within.f a0_5 0 (wrap64 (a0_4 - 1))).bind fun t104 => (entry_Good.j0 k (!t104) a0_0 a0_1 a0_2 a0_3 a0_4 a0_5 a0_6 a0_7 a0_8 a0_9 a0_10 a0_11 a0_12)) else (entry_Good.j0 k true a0_0 a0_1 a0_2 a0_3 a0_4 a0_5 a0_6 a0_7 a0_8 a0_9 a0_10 a0_11 a0_12))) else (entry_Good.j0 k true a0_0 a0_1 a0_2 a0_3 a0_4 a0_5 a0_6 a0_7 a0_8 a0_9 a0_10 a0_11 a0_12))) = some r := h
 clear h
 have HC2 := Aside0.mk H
 clear H
 go_enter Try.func55, Try.ntmps55
 go_upto_region 1 with (first | ((with_reducible refine gate_dst (N := 1) rfl ?_); refine box_event ?hg (N := 1) ?hd (cs := #[.int .i64 a0_0, .int .i64 a0_1, .int .i64 a0_2, .int .i64 a0_3, .int .i64 a0_4, .int .i64 a0_5, .int .i64 a0_6, .int .i64 a0_7, .bool a0_8, .string a0_9, .bool a0_10, .string a0_11, .int .i64 a0_12]) (t := 65) ?hr ?_; (case hd => rfl); (case hg => rfl); (case hr => first | (go_simp; done) | (go_simp; rfl)); intro gb101 hg w3 hbox hb; have n0_ := Aside0.mk (below_step (by repeat (first | (with_reducible first | exact HB.out | apply below_alloc | apply pw_below_drewN | apply below_drew1) | exact HB.out)) hb); have n1_ := Aside0.mk (hbox); have n2_ := Aside0.mk ((by rw [hg]; exact (below_size (by repeat (first | (with_reducible first | exact HB.out | apply below_alloc | apply pw_below_drewN | apply below_drew1) | exact HB.out))) : w.heap.size ≤ gb101)); have n3_ := Aside0.mk ((by rw [hg]; exact (below_size (by repeat (first | (with_reducible first | exact HB.out | apply below_alloc | apply pw_below_drewN | apply below_drew1) | exact HB.out))) : w.heap.size ≤ gb101)); clear HB; have HB := n0_; have BK101 := n1_; have GW101 := n2_; have GE101 := n3_; clear n0_ n1_ n2_ n3_; clear hb hbox hg))
 (try simp only [Act.put, List.setIfInBounds_toArray, List.set_cons_zero, List.set_cons_succ])
 go_cut [22] (fun v22 wc => ∃ (kq : Nat) (x22_1 : Bool), v22 = .bool x22_1 ∧ Aside0 (entry_Good.j0 kq x22_1 a0_0 a0_1 a0_2 a0_3 a0_4 a0_5 a0_6 a0_7 a0_8 a0_9 a0_10 a0_11 a0_12 = some r) ∧ Aside0 (kq ≤ k) ∧ Aside0 (wc.heap[gb101]? = some (.cells #[.int .i64 a0_0, .int .i64 a0_1, .int .i64 a0_2, .int .i64 a0_3, .int .i64 a0_4, .int .i64 a0_5, .int .i64 a0_6, .int .i64 a0_7, .bool a0_8, .string a0_9, .bool a0_10, .string a0_11, .int .i64 a0_12] 65 (0, 0))) ∧ Aside0 (Below w.heap.size w wc))
 case first =>
  have H := HC2.out
  clear HC2
  replace H := Option.bind_eq_some_iff.mp H
  obtain ⟨t102, A40, H⟩ := H
  replace H : (if t102 = true then ((entry_within.f a0_4 1 1099511627776).bind fun t103 => (if t103 = true then ((entry_within.f a0_5 0 (wrap64 (a0_4 - 1))).bind fun t104 => (entry_Good.j0 k (!t104) a0_0 a0_1 a0_2 a0_3 a0_4 a0_5 a0_6 a0_7 a0_8 a0_9 a0_10 a0_11 a0_12)) else (entry_Good.j0 k true a0_0 a0_1 a0_2 a0_3 a0_4 a0_5 a0_6 a0_7 a0_8 a0_9 a0_10 a0_11 a0_12))) else (entry_Good.j0 k true a0_0 a0_1 a0_2 a0_3 a0_4 a0_5 a0_6 a0_7 a0_8 a0_9 a0_10 a0_11 a0_12)) = some r := H
  have A4 := Aside0.mk A40
  clear A40
  by_cases c5 : t102 = true
  ·subst c5
   have H1 : ((entry_within.f a0_4 1 1099511627776).bind fun t103 => (if t103 = true then ((entry_within.f a0_5 0 (wrap64 (a0_4 - 1))).bind fun t104 => (entry_Good.j0 k (!t104) a0_0 a0_1 a0_2 a0_3 a0_4 a0_5 a0_6 a0_7 a0_8 a0_9 a0_10 a0_11 a0_12)) else (entry_Good.j0 k true a0_0 a0_1 a0_2 a0_3 a0_4 a0_5 a0_6 a0_7 a0_8 a0_9 a0_10 a0_11 a0_12))) = some r := by rw [if_pos rfl] at H; exact H
   clear H
   have H := H1
   clear H1
   replace H := Option.bind_eq_some_iff.mp H
   obtain ⟨t103, A60, H⟩ := H
   replace H : (if t103 = true then ((entry_within.f a0_5 0 (wrap64 (a0_4 - 1))).bind fun t104 => (entry_Good.j0 k (!t104) a0_0 a0_1 a0_2 a0_3 a0_4 a0_5 a0_6 a0_7 a0_8 a0_9 a0_10 a0_11 a0_12)) else (entry_Good.j0 k true a0_0 a0_1 a0_2 a0_3 a0_4 a0_5 a0_6 a0_7 a0_8 a0_9 a0_10 a0_11 a0_12)) = some r := H
   have A6 := Aside0.mk A60
   clear A60
   by_cases c7 : t103 = true
   ·subst c7
    have H1 : ((entry_within.f a0_5 0 (wrap64 (a0_4 - 1))).bind fun t104 => (entry_Good.j0 k (!t104) a0_0 a0_1 a0_2 a0_3 a0_4 a0_5 a0_6 a0_7 a0_8 a0_9 a0_10 a0_11 a0_12)) = some r := by rw [if_pos rfl] at H; exact H
    clear H
    have H := H1
    clear H1
    replace H := Option.bind_eq_some_iff.mp H
    obtain ⟨t104, A80, H⟩ := H
    replace H : (entry_Good.j0 k (!t104) a0_0 a0_1 a0_2 a0_3 a0_4 a0_5 a0_6 a0_7 a0_8 a0_9 a0_10 a0_11 a0_12) = some r := H
    have A8 := Aside0.mk A80
    clear A80
    have H' := Aside0.mk H
    clear H
    obtain ⟨hcz9_0, hcz9_1, hcz9_2, hcz9_3, hcz9_4, hcz9_5, hcz9_6, hcz9_7, hcz9_8, hcz9_9, hcz9_10, hcz9_11, hcz9_12⟩ := cl13 (W := w3) BK101.out
    obtain ⟨hfz9_0, hfz9_1, hfz9_2, hfz9_3, hfz9_4, hfz9_5, hfz9_6, hfz9_7, hfz9_8, hfz9_9, hfz9_10, hfz9_11, hfz9_12⟩ := fr13 BK101.out
    go_wp2_with (first | ((with_reducible refine gate_callee (f := 59) rfl ?_); refine goesL_ (some 6) rfl rfl Try.func59 (by kernel_rfl) rfl #[.agg #[.int .i64 a0_1, .int .i64 a0_2, .int .i64 a0_3]] rfl (by (try simp only [List.map_toArray, List.map_cons, List.map_nil]); first | done | rfl | (simp only [List.length_drop, List.length_take]; rfl)) ?_; (with_reducible refine (entKnown.calls a0_1 a0_2 a0_3 true _ A4.out).mono ?_); rintro e w10 ⟨rfl, hb⟩; refine ⟨_, rfl, ?_⟩; have n0_ := Aside0.mk (blk_below (g := gb101) (o := .cells #[.int .i64 a0_0, .int .i64 a0_1, .int .i64 a0_2, .int .i64 a0_3, .int .i64 a0_4, .int .i64 a0_5, .int .i64 a0_6, .int .i64 a0_7, .bool a0_8, .string a0_9, .bool a0_10, .string a0_11, .int .i64 a0_12] 65 (0, 0)) (by (with_reducible repeat (first | refine blk_drewN ?_ _ | refine blk_drew ?_ | refine blk_alloc ?_ _)); exact BK101.out) hb); have n1_ := Aside0.mk (below_step (by repeat (first | (with_reducible first | exact HB.out | apply below_alloc | apply pw_below_drewN | apply below_drew1 | refine below_set ?_ GE101.out) | exact HB.out)) hb); clear BK101; clear HB; have BK101 := n0_; have HB := n1_; clear n0_ n1_; (try clear hb); (try clear hb2); (try clear hk); (try clear hi); obtain ⟨hcz11_0, hcz11_1, hcz11_2, hcz11_3, hcz11_4, hcz11_5, hcz11_6, hcz11_7, hcz11_8, hcz11_9, hcz11_10, hcz11_11, hcz11_12⟩ := cl13 (W := w10) BK101.out; obtain ⟨hfz11_0, hfz11_1, hfz11_2, hfz11_3, hfz11_4, hfz11_5, hfz11_6, hfz11_7, hfz11_8, hfz11_9, hfz11_10, hfz11_11, hfz11_12⟩ := fr13 BK101.out) | (go_at_call 102; (with_reducible refine (entry_within.calls a0_4 1 1099511627776 true _ A6.out).mono ?_); rintro e w' ⟨rfl, ⟨nd, rfl⟩⟩) | (go_at_call 102; (with_reducible refine (entry_within.calls a0_5 0 (wrap64 (a0_4 - 1)) t104 _ A8.out).mono ?_); rintro e w' ⟨rfl, ⟨nd, rfl⟩⟩))
    go_meet
    case rel => exact ⟨_, (!t104), (by first | rfl | (simp; done) | (simp [*]; done)), H', ⟨by first | omega | exact Nat.le_refl _⟩, ⟨by (with_reducible repeat (first | refine blk_drewN ?_ _ | refine blk_drew ?_ | refine blk_alloc ?_ _)); exact BK101.out⟩, ⟨by repeat (first | (with_reducible first | exact HB.out | apply below_alloc | apply pw_below_drewN | apply below_drew1 | refine below_set ?_ GE101.out) | exact HB.out)⟩⟩
   ·replace c7 := Bool.eq_false_iff.mpr c7
    subst c7
    have H1 : (entry_Good.j0 k true a0_0 a0_1 a0_2 a0_3 a0_4 a0_5 a0_6 a0_7 a0_8 a0_9 a0_10 a0_11 a0_12) = some r := by rw [if_neg (show ¬ (false = true) by decide)] at H; exact H
    clear H
    have H := H1
    clear H1
    have H' := Aside0.mk H
    clear H
    obtain ⟨hcz12_0, hcz12_1, hcz12_2, hcz12_3, hcz12_4, hcz12_5, hcz12_6, hcz12_7, hcz12_8, hcz12_9, hcz12_10, hcz12_11, hcz12_12⟩ := cl13 (W := w3) BK101.out
    obtain ⟨hfz12_0, hfz12_1, hfz12_2, hfz12_3, hfz12_4, hfz12_5, hfz12_6, hfz12_7, hfz12_8, hfz12_9, hfz12_10, hfz12_11, hfz12_12⟩ := fr13 BK101.out
    go_wp2_with (first | ((with_reducible refine gate_callee (f := 59) rfl ?_); refine goesL_ (some 6) rfl rfl Try.func59 (by kernel_rfl) rfl #[.agg #[.int .i64 a0_1, .int .i64 a0_2, .int .i64 a0_3]] rfl (by (try simp only [List.map_toArray, List.map_cons, List.map_nil]); first | done | rfl | (simp only [List.length_drop, List.length_take]; rfl)) ?_; (with_reducible refine (entKnown.calls a0_1 a0_2 a0_3 true _ A4.out).mono ?_); rintro e w13 ⟨rfl, hb⟩; refine ⟨_, rfl, ?_⟩; have n0_ := Aside0.mk (blk_below (g := gb101) (o := .cells #[.int .i64 a0_0, .int .i64 a0_1, .int .i64 a0_2, .int .i64 a0_3, .int .i64 a0_4, .int .i64 a0_5, .int .i64 a0_6, .int .i64 a0_7, .bool a0_8, .string a0_9, .bool a0_10, .string a0_11, .int .i64 a0_12] 65 (0, 0)) (by (with_reducible repeat (first | refine blk_drewN ?_ _ | refine blk_drew ?_ | refine blk_alloc ?_ _)); exact BK101.out) hb); have n1_ := Aside0.mk (below_step (by repeat (first | (with_reducible first | exact HB.out | apply below_alloc | apply pw_below_drewN | apply below_drew1 | refine below_set ?_ GE101.out) | exact HB.out)) hb); clear BK101; clear HB; have BK101 := n0_; have HB := n1_; clear n0_ n1_; (try clear hb); (try clear hb2); (try clear hk); (try clear hi); obtain ⟨hcz14_0, hcz14_1, hcz14_2, hcz14_3, hcz14_4, hcz14_5, hcz14_6, hcz14_7, hcz14_8, hcz14_9, hcz14_10, hcz14_11, hcz14_12⟩ := cl13 (W := w13) BK101.out; obtain ⟨hfz14_0, hfz14_1, hfz14_2, hfz14_3, hfz14_4, hfz14_5, hfz14_6, hfz14_7, hfz14_8, hfz14_9, hfz14_10, hfz14_11, hfz14_12⟩ := fr13 BK101.out) | (go_at_call 102; (with_reducible refine (entry_within.calls a0_4 1 1099511627776 false _ A6.out).mono ?_); rintro e w' ⟨rfl, ⟨nd, rfl⟩⟩))
    go_meet
    case rel => exact ⟨_, (true), (by first | rfl | (simp; done) | (simp [*]; done)), H', ⟨by first | omega | exact Nat.le_refl _⟩, ⟨by (with_reducible repeat (first | refine blk_drewN ?_ _ | refine blk_drew ?_ | refine blk_alloc ?_ _)); exact BK101.out⟩, ⟨by repeat (first | (with_reducible first | exact HB.out | apply below_alloc | apply pw_below_drewN | apply below_drew1 | refine below_set ?_ GE101.out) | exact HB.out)⟩⟩
  ·replace c5 := Bool.eq_false_iff.mpr c5
   subst c5
   have H1 : (entry_Good.j0 k true a0_0 a0_1 a0_2 a0_3 a0_4 a0_5 a0_6 a0_7 a0_8 a0_9 a0_10 a0_11 a0_12) = some r := by rw [if_neg (show ¬ (false = true) by decide)] at H; exact H
   clear H
   have H := H1
   clear H1
   have H' := Aside0.mk H
   clear H
   obtain ⟨hcz15_0, hcz15_1, hcz15_2, hcz15_3, hcz15_4, hcz15_5, hcz15_6, hcz15_7, hcz15_8, hcz15_9, hcz15_10, hcz15_11, hcz15_12⟩ := cl13 (W := w3) BK101.out
   obtain ⟨hfz15_0, hfz15_1, hfz15_2, hfz15_3, hfz15_4, hfz15_5, hfz15_6, hfz15_7, hfz15_8, hfz15_9, hfz15_10, hfz15_11, hfz15_12⟩ := fr13 BK101.out
   go_wp2_with (first | ((with_reducible refine gate_callee (f := 59) rfl ?_); refine goesL_ (some 6) rfl rfl Try.func59 (by kernel_rfl) rfl #[.agg #[.int .i64 a0_1, .int .i64 a0_2, .int .i64 a0_3]] rfl (by (try simp only [List.map_toArray, List.map_cons, List.map_nil]); first | done | rfl | (simp only [List.length_drop, List.length_take]; rfl)) ?_; (with_reducible refine (entKnown.calls a0_1 a0_2 a0_3 false _ A4.out).mono ?_); rintro e w16 ⟨rfl, hb⟩; refine ⟨_, rfl, ?_⟩; have n0_ := Aside0.mk (blk_below (g := gb101) (o := .cells #[.int .i64 a0_0, .int .i64 a0_1, .int .i64 a0_2, .int .i64 a0_3, .int .i64 a0_4, .int .i64 a0_5, .int .i64 a0_6, .int .i64 a0_7, .bool a0_8, .string a0_9, .bool a0_10, .string a0_11, .int .i64 a0_12] 65 (0, 0)) (by (with_reducible repeat (first | refine blk_drewN ?_ _ | refine blk_drew ?_ | refine blk_alloc ?_ _)); exact BK101.out) hb); have n1_ := Aside0.mk (below_step (by repeat (first | (with_reducible first | exact HB.out | apply below_alloc | apply pw_below_drewN | apply below_drew1 | refine below_set ?_ GE101.out) | exact HB.out)) hb); clear BK101; clear HB; have BK101 := n0_; have HB := n1_; clear n0_ n1_; (try clear hb); (try clear hb2); (try clear hk); (try clear hi)))
   go_meet
   case rel => exact ⟨_, (true), (by first | rfl | (simp; done) | (simp [*]; done)), H', ⟨by first | omega | exact Nat.le_refl _⟩, ⟨by (with_reducible repeat (first | refine blk_drewN ?_ _ | refine blk_drew ?_ | refine blk_alloc ?_ _)); exact BK101.out⟩, ⟨by repeat (first | (with_reducible first | exact HB.out | apply below_alloc | apply pw_below_drewN | apply below_drew1 | refine below_set ?_ GE101.out) | exact HB.out)⟩⟩
 case rest =>
  clear HC2
  try clear p2
  try clear c5
  try clear p6
  try clear c7
  try clear hcz11_0
  try clear hcz11_1
  try clear hcz11_10
  try clear hcz11_11
  try clear hcz11_12
  try clear hcz11_2
  try clear hcz11_3
  try clear hcz11_4
  try clear hcz11_5
  try clear hcz11_6
  try clear hcz11_7
  try clear hcz11_8
  try clear hcz11_9
  try clear hcz12_0
  try clear hcz12_1
  try clear hcz12_10
  try clear hcz12_11
  try clear hcz12_12
  try clear hcz12_2
  try clear hcz12_3
  try clear hcz12_4
  try clear hcz12_5
  try clear hcz12_6
  try clear hcz12_7
  try clear hcz12_8
  try clear hcz12_9
  try clear hcz14_0
  try clear hcz14_1
  try clear hcz14_10
  try clear hcz14_11
  try clear hcz14_12
  try clear hcz14_2
  try clear hcz14_3
  try clear hcz14_4
  try clear hcz14_5
  try clear hcz14_6
  try clear hcz14_7
  try clear hcz14_8
  try clear hcz14_9
  try clear hcz15_0
  try clear hcz15_1
  try clear hcz15_10
  try clear hcz15_11
  try clear hcz15_12
  try clear hcz15_2
  try clear hcz15_3
  try clear hcz15_4
  try clear hcz15_5
  try clear hcz15_6
  try clear hcz15_7
  try clear hcz15_8
  try clear hcz15_9
  try clear hcz9_0
  try clear hcz9_1
  try clear hcz9_10
  try clear hcz9_11
  try clear hcz9_12
  try clear hcz9_2
  try clear hcz9_3
  try clear hcz9_4
  try clear hcz9_5
  try clear hcz9_6
  try clear hcz9_7
  try clear hcz9_8
  try clear hcz9_9
  try clear hfz11_0
  try clear hfz11_1
  try clear hfz11_10
  try clear hfz11_11
  try clear hfz11_12
  try clear hfz11_2
  try clear hfz11_3
  try clear hfz11_4
  try clear hfz11_5
  try clear hfz11_6
  try clear hfz11_7
  try clear hfz11_8
  try clear hfz11_9
  try clear hfz12_0
  try clear hfz12_1
  try clear hfz12_10
  try clear hfz12_11
  try clear hfz12_12
  try clear hfz12_2
  try clear hfz12_3
  try clear hfz12_4
  try clear hfz12_5
  try clear hfz12_6
  try clear hfz12_7
  try clear hfz12_8
  try clear hfz12_9
  try clear hfz14_0
  try clear hfz14_1
  try clear hfz14_10
  try clear hfz14_11
  try clear hfz14_12
  try clear hfz14_2
  try clear hfz14_3
  try clear hfz14_4
  try clear hfz14_5
  try clear hfz14_6
  try clear hfz14_7
  try clear hfz14_8
  try clear hfz14_9
  try clear hfz15_0
  try clear hfz15_1
  try clear hfz15_10
  try clear hfz15_11
  try clear hfz15_12
  try clear hfz15_2
  try clear hfz15_3
  try clear hfz15_4
  try clear hfz15_5
  try clear hfz15_6
  try clear hfz15_7
  try clear hfz15_8
  try clear hfz15_9
  try clear hfz9_0
  try clear hfz9_1
  try clear hfz9_10
  try clear hfz9_11
  try clear hfz9_12
  try clear hfz9_2
  try clear hfz9_3
  try clear hfz9_4
  try clear hfz9_5
  try clear hfz9_6
  try clear hfz9_7
  try clear hfz9_8
  try clear hfz9_9
  obtain ⟨kq, x22_1, rfl, HA, HJ1, BK101, HB⟩ := hcut
  cases kq with
  | zero => exact absurd HA.out (by simp [entry_Good.j0])
  | succ kj1 =>
   have H := HA.out
   clear HA
   simp only [entry_Good.j0] at H
   by_cases c17 : x22_1 = true
   ·subst c17
    have H1 : (some false) = some r := by rw [if_pos rfl] at H; exact H
    clear H
    have H := H1
    clear H1
    obtain rfl := Option.some.inj H
    go_wp2
    go_ret
    exact ⟨by first | rfl | (simp [errW_none, errW_some] <;> rfl) | (simp [*, errW_none, errW_some] <;> rfl), by repeat (first | (with_reducible first | exact HB.out | apply below_alloc | apply pw_below_drewN | apply below_drew1 | refine below_set ?_ GE101.out) | exact HB.out)⟩
   ·replace c17 := Bool.eq_false_iff.mpr c17
    subst c17
    have H1 : ((entry_within.f a0_6 0 1023).bind fun t105 => (if t105 = true then ((entry_within.f a0_7 0 31).bind fun t106 => (if t106 = true then ((entry_isSlot.f a0_8 a0_9).bind fun t107 => (if t107 = true then ((entry_isSlot.f a0_10 a0_11).bind fun t108 => (entry_Good.j1 kj1 t108 a0_0 a0_1 a0_2 a0_3 a0_4 a0_5 a0_6 a0_7 a0_8 a0_9 a0_10 a0_11 a0_12)) else (entry_Good.j1 kj1 false a0_0 a0_1 a0_2 a0_3 a0_4 a0_5 a0_6 a0_7 a0_8 a0_9 a0_10 a0_11 a0_12))) else (entry_Good.j1 kj1 false a0_0 a0_1 a0_2 a0_3 a0_4 a0_5 a0_6 a0_7 a0_8 a0_9 a0_10 a0_11 a0_12))) else (entry_Good.j1 kj1 false a0_0 a0_1 a0_2 a0_3 a0_4 a0_5 a0_6 a0_7 a0_8 a0_9 a0_10 a0_11 a0_12))) = some r := by rw [if_neg (show ¬ (false = true) by decide)] at H; exact H
    clear H
    have H := H1
    clear H1
    have HC18 := Aside0.mk H
    clear H
    go_upto_region 3 with (fail)
    go_cut [3] (fun v3 wc => ∃ (kq : Nat) (x3_17 : Bool), v3 = .bool x3_17 ∧ Aside0 (entry_Good.j1 kq x3_17 a0_0 a0_1 a0_2 a0_3 a0_4 a0_5 a0_6 a0_7 a0_8 a0_9 a0_10 a0_11 a0_12 = some r) ∧ Aside0 (kq ≤ kj1) ∧ Aside0 (wc.heap[gb101]? = some (.cells #[.int .i64 a0_0, .int .i64 a0_1, .int .i64 a0_2, .int .i64 a0_3, .int .i64 a0_4, .int .i64 a0_5, .int .i64 a0_6, .int .i64 a0_7, .bool a0_8, .string a0_9, .bool a0_10, .string a0_11, .int .i64 a0_12] 65 (0, 0))) ∧ Aside0 (Below w.heap.size w wc))
    case first =>
     have H := HC18.out
     clear HC18
     replace H := Option.bind_eq_some_iff.mp H
     obtain ⟨t105, A190, H⟩ := H
     replace H : (if t105 = true then ((entry_within.f a0_7 0 31).bind fun t106 => (if t106 = true then ((entry_isSlot.f a0_8 a0_9).bind fun t107 => (if t107 = true then ((entry_isSlot.f a0_10 a0_11).bind fun t108 => (entry_Good.j1 kj1 t108 a0_0 a0_1 a0_2 a0_3 a0_4 a0_5 a0_6 a0_7 a0_8 a0_9 a0_10 a0_11 a0_12)) else (entry_Good.j1 kj1 false a0_0 a0_1 a0_2 a0_3 a0_4 a0_5 a0_6 a0_7 a0_8 a0_9 a0_10 a0_11 a0_12))) else (entry_Good.j1 kj1 false a0_0 a0_1 a0_2 a0_3 a0_4 a0_5 a0_6 a0_7 a0_8 a0_9 a0_10 a0_11 a0_12))) else (entry_Good.j1 kj1 false a0_0 a0_1 a0_2 a0_3 a0_4 a0_5 a0_6 a0_7 a0_8 a0_9 a0_10 a0_11 a0_12)) = some r := H
     have A19 := Aside0.mk A190
     clear A190
     by_cases c20 : t105 = true
     ·subst c20
      have H1 : ((entry_within.f a0_7 0 31).bind fun t106 => (if t106 = true then ((entry_isSlot.f a0_8 a0_9).bind fun t107 => (if t107 = true then ((entry_isSlot.f a0_10 a0_11).bind fun t108 => (entry_Good.j1 kj1 t108 a0_0 a0_1 a0_2 a0_3 a0_4 a0_5 a0_6 a0_7 a0_8 a0_9 a0_10 a0_11 a0_12)) else (entry_Good.j1 kj1 false a0_0 a0_1 a0_2 a0_3 a0_4 a0_5 a0_6 a0_7 a0_8 a0_9 a0_10 a0_11 a0_12))) else (entry_Good.j1 kj1 false a0_0 a0_1 a0_2 a0_3 a0_4 a0_5 a0_6 a0_7 a0_8 a0_9 a0_10 a0_11 a0_12))) = some r := by rw [if_pos rfl] at H; exact H
      clear H
      have H := H1
      clear H1
      replace H := Option.bind_eq_some_iff.mp H
      obtain ⟨t106, A210, H⟩ := H
      replace H : (if t106 = true then ((entry_isSlot.f a0_8 a0_9).bind fun t107 => (if t107 = true then ((entry_isSlot.f a0_10 a0_11).bind fun t108 => (entry_Good.j1 kj1 t108 a0_0 a0_1 a0_2 a0_3 a0_4 a0_5 a0_6 a0_7 a0_8 a0_9 a0_10 a0_11 a0_12)) else (entry_Good.j1 kj1 false a0_0 a0_1 a0_2 a0_3 a0_4 a0_5 a0_6 a0_7 a0_8 a0_9 a0_10 a0_11 a0_12))) else (entry_Good.j1 kj1 false a0_0 a0_1 a0_2 a0_3 a0_4 a0_5 a0_6 a0_7 a0_8 a0_9 a0_10 a0_11 a0_12)) = some r := H
      have A21 := Aside0.mk A210
      clear A210
      by_cases c22 : t106 = true
      ·subst c22
       have H1 : ((entry_isSlot.f a0_8 a0_9).bind fun t107 => (if t107 = true then ((entry_isSlot.f a0_10 a0_11).bind fun t108 => (entry_Good.j1 kj1 t108 a0_0 a0_1 a0_2 a0_3 a0_4 a0_5 a0_6 a0_7 a0_8 a0_9 a0_10 a0_11 a0_12)) else (entry_Good.j1 kj1 false a0_0 a0_1 a0_2 a0_3 a0_4 a0_5 a0_6 a0_7 a0_8 a0_9 a0_10 a0_11 a0_12))) = some r := by rw [if_pos rfl] at H; exact H
       clear H
       have H := H1
       clear H1
       replace H := Option.bind_eq_some_iff.mp H
       obtain ⟨t107, A230, H⟩ := H
       replace H : (if t107 = true then ((entry_isSlot.f a0_10 a0_11).bind fun t108 => (entry_Good.j1 kj1 t108 a0_0 a0_1 a0_2 a0_3 a0_4 a0_5 a0_6 a0_7 a0_8 a0_9 a0_10 a0_11 a0_12)) else (entry_Good.j1 kj1 false a0_0 a0_1 a0_2 a0_3 a0_4 a0_5 a0_6 a0_7 a0_8 a0_9 a0_10 a0_11 a0_12)) = some r := H
       have A23 := Aside0.mk A230
       clear A230
       by_cases c24 : t107 = true
       ·subst c24
        have H1 : ((entry_isSlot.f a0_10 a0_11).bind fun t108 => (entry_Good.j1 kj1 t108 a0_0 a0_1 a0_2 a0_3 a0_4 a0_5 a0_6 a0_7 a0_8 a0_9 a0_10 a0_11 a0_12)) = some r := by rw [if_pos rfl] at H; exact H
        clear H
        have H := H1
        clear H1
        replace H := Option.bind_eq_some_iff.mp H
        obtain ⟨t108, A250, H⟩ := H
        replace H : (entry_Good.j1 kj1 t108 a0_0 a0_1 a0_2 a0_3 a0_4 a0_5 a0_6 a0_7 a0_8 a0_9 a0_10 a0_11 a0_12) = some r := H
        have A25 := Aside0.mk A250
        clear A250
        have H' := Aside0.mk H
        clear H
        obtain ⟨hcz26_0, hcz26_1, hcz26_2, hcz26_3, hcz26_4, hcz26_5, hcz26_6, hcz26_7, hcz26_8, hcz26_9, hcz26_10, hcz26_11, hcz26_12⟩ := cl13 (W := wc) BK101.out
        obtain ⟨hfz26_0, hfz26_1, hfz26_2, hfz26_3, hfz26_4, hfz26_5, hfz26_6, hfz26_7, hfz26_8, hfz26_9, hfz26_10, hfz26_11, hfz26_12⟩ := fr13 BK101.out
        go_wp2_with (first | ((with_reducible refine gate_callee (f := 102) rfl ?_); refine goesL_ (some 25) rfl rfl Try.func102 (by kernel_rfl) rfl #[.int .i64 a0_6, .int .i64 0, .int .i64 1023] rfl (by (try simp only [List.map_toArray, List.map_cons, List.map_nil]); first | done | rfl | (simp only [List.length_drop, List.length_take]; rfl)) ?_; (with_reducible refine (entry_within.calls a0_6 0 1023 true _ A19.out).mono ?_); rintro e w' ⟨rfl, ⟨nd, rfl⟩⟩; refine ⟨_, rfl, ?_⟩) | (go_at_call 102; (with_reducible refine (entry_within.calls a0_7 0 31 true _ A21.out).mono ?_); rintro e w' ⟨rfl, ⟨nd, rfl⟩⟩) | (go_at_call 103; (with_reducible refine (entry_isSlot.calls a0_8 a0_9 true _ A23.out).mono ?_); rintro e w27 ⟨rfl, hb⟩; have n0_ := Aside0.mk (blk_below (g := gb101) (o := .cells #[.int .i64 a0_0, .int .i64 a0_1, .int .i64 a0_2, .int .i64 a0_3, .int .i64 a0_4, .int .i64 a0_5, .int .i64 a0_6, .int .i64 a0_7, .bool a0_8, .string a0_9, .bool a0_10, .string a0_11, .int .i64 a0_12] 65 (0, 0)) (by (with_reducible repeat (first | refine blk_drewN ?_ _ | refine blk_drew ?_ | refine blk_alloc ?_ _)); exact BK101.out) hb); have n1_ := Aside0.mk (below_step (by repeat (first | (with_reducible first | exact HB.out | apply below_alloc | apply pw_below_drewN | apply below_drew1 | refine below_set ?_ GE101.out) | exact HB.out)) hb); clear BK101; clear HB; have BK101 := n0_; have HB := n1_; clear n0_ n1_; (try clear hb); (try clear hb2); (try clear hk); (try clear hi); obtain ⟨hcz28_0, hcz28_1, hcz28_2, hcz28_3, hcz28_4, hcz28_5, hcz28_6, hcz28_7, hcz28_8, hcz28_9, hcz28_10, hcz28_11, hcz28_12⟩ := cl13 (W := w27) BK101.out; obtain ⟨hfz28_0, hfz28_1, hfz28_2, hfz28_3, hfz28_4, hfz28_5, hfz28_6, hfz28_7, hfz28_8, hfz28_9, hfz28_10, hfz28_11, hfz28_12⟩ := fr13 BK101.out) | (go_at_call 103; (with_reducible refine (entry_isSlot.calls a0_10 a0_11 t108 _ A25.out).mono ?_); rintro e w29 ⟨rfl, hb⟩; have n0_ := Aside0.mk (blk_below (g := gb101) (o := .cells #[.int .i64 a0_0, .int .i64 a0_1, .int .i64 a0_2, .int .i64 a0_3, .int .i64 a0_4, .int .i64 a0_5, .int .i64 a0_6, .int .i64 a0_7, .bool a0_8, .string a0_9, .bool a0_10, .string a0_11, .int .i64 a0_12] 65 (0, 0)) (by (with_reducible repeat (first | refine blk_drewN ?_ _ | refine blk_drew ?_ | refine blk_alloc ?_ _)); exact BK101.out) hb); have n1_ := Aside0.mk (below_step (by repeat (first | (with_reducible first | exact HB.out | apply below_alloc | apply pw_below_drewN | apply below_drew1 | refine below_set ?_ GE101.out) | exact HB.out)) hb); clear BK101; clear HB; have BK101 := n0_; have HB := n1_; clear n0_ n1_; (try clear hb); (try clear hb2); (try clear hk); (try clear hi)))
        go_meet
        case rel => exact ⟨_, (t108), (by first | rfl | (simp; done) | (simp [*]; done)), H', ⟨by have := HJ1.out; first | omega | exact Nat.le_refl _⟩, ⟨by (with_reducible repeat (first | refine blk_drewN ?_ _ | refine blk_drew ?_ | refine blk_alloc ?_ _)); exact BK101.out⟩, ⟨by repeat (first | (with_reducible first | exact HB.out | apply below_alloc | apply pw_below_drewN | apply below_drew1 | refine below_set ?_ GE101.out) | exact HB.out)⟩⟩
       ·replace c24 := Bool.eq_false_iff.mpr c24
        subst c24
        have H1 : (entry_Good.j1 kj1 false a0_0 a0_1 a0_2 a0_3 a0_4 a0_5 a0_6 a0_7 a0_8 a0_9 a0_10 a0_11 a0_12) = some r := by rw [if_neg (show ¬ (false = true) by decide)] at H; exact H
        clear H
        have H := H1
        clear H1
        have H' := Aside0.mk H
        clear H
        obtain ⟨hcz30_0, hcz30_1, hcz30_2, hcz30_3, hcz30_4, hcz30_5, hcz30_6, hcz30_7, hcz30_8, hcz30_9, hcz30_10, hcz30_11, hcz30_12⟩ := cl13 (W := wc) BK101.out
        obtain ⟨hfz30_0, hfz30_1, hfz30_2, hfz30_3, hfz30_4, hfz30_5, hfz30_6, hfz30_7, hfz30_8, hfz30_9, hfz30_10, hfz30_11, hfz30_12⟩ := fr13 BK101.out
        go_wp2_with (first | ((with_reducible refine gate_callee (f := 102) rfl ?_); refine goesL_ (some 25) rfl rfl Try.func102 (by kernel_rfl) rfl #[.int .i64 a0_6, .int .i64 0, .int .i64 1023] rfl (by (try simp only [List.map_toArray, List.map_cons, List.map_nil]); first | done | rfl | (simp only [List.length_drop, List.length_take]; rfl)) ?_; (with_reducible refine (entry_within.calls a0_6 0 1023 true _ A19.out).mono ?_); rintro e w' ⟨rfl, ⟨nd, rfl⟩⟩; refine ⟨_, rfl, ?_⟩) | (go_at_call 102; (with_reducible refine (entry_within.calls a0_7 0 31 true _ A21.out).mono ?_); rintro e w' ⟨rfl, ⟨nd, rfl⟩⟩) | (go_at_call 103; (with_reducible refine (entry_isSlot.calls a0_8 a0_9 false _ A23.out).mono ?_); rintro e w31 ⟨rfl, hb⟩; have n0_ := Aside0.mk (blk_below (g := gb101) (o := .cells #[.int .i64 a0_0, .int .i64 a0_1, .int .i64 a0_2, .int .i64 a0_3, .int .i64 a0_4, .int .i64 a0_5, .int .i64 a0_6, .int .i64 a0_7, .bool a0_8, .string a0_9, .bool a0_10, .string a0_11, .int .i64 a0_12] 65 (0, 0)) (by (with_reducible repeat (first | refine blk_drewN ?_ _ | refine blk_drew ?_ | refine blk_alloc ?_ _)); exact BK101.out) hb); have n1_ := Aside0.mk (below_step (by repeat (first | (with_reducible first | exact HB.out | apply below_alloc | apply pw_below_drewN | apply below_drew1 | refine below_set ?_ GE101.out) | exact HB.out)) hb); clear BK101; clear HB; have BK101 := n0_; have HB := n1_; clear n0_ n1_; (try clear hb); (try clear hb2); (try clear hk); (try clear hi)))
        go_meet
        case rel => exact ⟨_, (false), (by first | rfl | (simp; done) | (simp [*]; done)), H', ⟨by have := HJ1.out; first | omega | exact Nat.le_refl _⟩, ⟨by (with_reducible repeat (first | refine blk_drewN ?_ _ | refine blk_drew ?_ | refine blk_alloc ?_ _)); exact BK101.out⟩, ⟨by repeat (first | (with_reducible first | exact HB.out | apply below_alloc | apply pw_below_drewN | apply below_drew1 | refine below_set ?_ GE101.out) | exact HB.out)⟩⟩
      ·replace c22 := Bool.eq_false_iff.mpr c22
       subst c22
       have H1 : (entry_Good.j1 kj1 false a0_0 a0_1 a0_2 a0_3 a0_4 a0_5 a0_6 a0_7 a0_8 a0_9 a0_10 a0_11 a0_12) = some r := by rw [if_neg (show ¬ (false = true) by decide)] at H; exact H
       clear H
       have H := H1
       clear H1
       have H' := Aside0.mk H
       clear H
       obtain ⟨hcz32_0, hcz32_1, hcz32_2, hcz32_3, hcz32_4, hcz32_5, hcz32_6, hcz32_7, hcz32_8, hcz32_9, hcz32_10, hcz32_11, hcz32_12⟩ := cl13 (W := wc) BK101.out
       obtain ⟨hfz32_0, hfz32_1, hfz32_2, hfz32_3, hfz32_4, hfz32_5, hfz32_6, hfz32_7, hfz32_8, hfz32_9, hfz32_10, hfz32_11, hfz32_12⟩ := fr13 BK101.out
       go_wp2_with (first | ((with_reducible refine gate_callee (f := 102) rfl ?_); refine goesL_ (some 25) rfl rfl Try.func102 (by kernel_rfl) rfl #[.int .i64 a0_6, .int .i64 0, .int .i64 1023] rfl (by (try simp only [List.map_toArray, List.map_cons, List.map_nil]); first | done | rfl | (simp only [List.length_drop, List.length_take]; rfl)) ?_; (with_reducible refine (entry_within.calls a0_6 0 1023 true _ A19.out).mono ?_); rintro e w' ⟨rfl, ⟨nd, rfl⟩⟩; refine ⟨_, rfl, ?_⟩) | (go_at_call 102; (with_reducible refine (entry_within.calls a0_7 0 31 false _ A21.out).mono ?_); rintro e w' ⟨rfl, ⟨nd, rfl⟩⟩))
       go_meet
       case rel => exact ⟨_, (false), (by first | rfl | (simp; done) | (simp [*]; done)), H', ⟨by have := HJ1.out; first | omega | exact Nat.le_refl _⟩, ⟨by (with_reducible repeat (first | refine blk_drewN ?_ _ | refine blk_drew ?_ | refine blk_alloc ?_ _)); exact BK101.out⟩, ⟨by repeat (first | (with_reducible first | exact HB.out | apply below_alloc | apply pw_below_drewN | apply below_drew1 | refine below_set ?_ GE101.out) | exact HB.out)⟩⟩
     ·replace c20 := Bool.eq_false_iff.mpr c20
      subst c20
      have H1 : (entry_Good.j1 kj1 false a0_0 a0_1 a0_2 a0_3 a0_4 a0_5 a0_6 a0_7 a0_8 a0_9 a0_10 a0_11 a0_12) = some r := by rw [if_neg (show ¬ (false = true) by decide)] at H; exact H
      clear H
      have H := H1
      clear H1
      have H' := Aside0.mk H
      clear H
      obtain ⟨hcz33_0, hcz33_1, hcz33_2, hcz33_3, hcz33_4, hcz33_5, hcz33_6, hcz33_7, hcz33_8, hcz33_9, hcz33_10, hcz33_11, hcz33_12⟩ := cl13 (W := wc) BK101.out
      obtain ⟨hfz33_0, hfz33_1, hfz33_2, hfz33_3, hfz33_4, hfz33_5, hfz33_6, hfz33_7, hfz33_8, hfz33_9, hfz33_10, hfz33_11, hfz33_12⟩ := fr13 BK101.out
      go_wp2_with (first | ((with_reducible refine gate_callee (f := 102) rfl ?_); refine goesL_ (some 25) rfl rfl Try.func102 (by kernel_rfl) rfl #[.int .i64 a0_6, .int .i64 0, .int .i64 1023] rfl (by (try simp only [List.map_toArray, List.map_cons, List.map_nil]); first | done | rfl | (simp only [List.length_drop, List.length_take]; rfl)) ?_; (with_reducible refine (entry_within.calls a0_6 0 1023 false _ A19.out).mono ?_); rintro e w' ⟨rfl, ⟨nd, rfl⟩⟩; refine ⟨_, rfl, ?_⟩))
      go_meet
      case rel => exact ⟨_, (false), (by first | rfl | (simp; done) | (simp [*]; done)), H', ⟨by have := HJ1.out; first | omega | exact Nat.le_refl _⟩, ⟨by (with_reducible repeat (first | refine blk_drewN ?_ _ | refine blk_drew ?_ | refine blk_alloc ?_ _)); exact BK101.out⟩, ⟨by repeat (first | (with_reducible first | exact HB.out | apply below_alloc | apply pw_below_drewN | apply below_drew1 | refine below_set ?_ GE101.out) | exact HB.out)⟩⟩
    case rest =>
     clear HC18
     try clear c1
     try clear c2
     try clear p2
     try clear c5
     try clear p6
     try clear c7
     try clear c10
     try clear c17
     try clear c20
     try clear c22
     try clear c24
     try clear hcz11_0
     try clear hcz11_1
     try clear hcz11_10
     try clear hcz11_11
     try clear hcz11_12
     try clear hcz11_2
     try clear hcz11_3
     try clear hcz11_4
     try clear hcz11_5
     try clear hcz11_6
     try clear hcz11_7
     try clear hcz11_8
     try clear hcz11_9
     try clear hcz12_0
     try clear hcz12_1
     try clear hcz12_10
     try clear hcz12_11
     try clear hcz12_12
     try clear hcz12_2
     try clear hcz12_3
     try clear hcz12_4
     try clear hcz12_5
     try clear hcz12_6
     try clear hcz12_7
     try clear hcz12_8
     try clear hcz12_9
     try clear hcz14_0
     try clear hcz14_1
     try clear hcz14_10
     try clear hcz14_11
     try clear hcz14_12
     try clear hcz14_2
     try clear hcz14_3
     try clear hcz14_4
     try clear hcz14_5
     try clear hcz14_6
     try clear hcz14_7
     try clear hcz14_8
     try clear hcz14_9
     try clear hcz15_0
     try clear hcz15_1
     try clear hcz15_10
     try clear hcz15_11
     try clear hcz15_12
     try clear hcz15_2
     try clear hcz15_3
     try clear hcz15_4
     try clear hcz15_5
     try clear hcz15_6
     try clear hcz15_7
     try clear hcz15_8
     try clear hcz15_9
     try clear hcz26_0
     try clear hcz26_1
     try clear hcz26_10
     try clear hcz26_11
     try clear hcz26_12
     try clear hcz26_2
     try clear hcz26_3
     try clear hcz26_4
     try clear hcz26_5
     try clear hcz26_6
     try clear hcz26_7
     try clear hcz26_8
     try clear hcz26_9
     try clear hcz28_0
     try clear hcz28_1
     try clear hcz28_10
     try clear hcz28_11
     try clear hcz28_12
     try clear hcz28_2
     try clear hcz28_3
     try clear hcz28_4
     try clear hcz28_5
     try clear hcz28_6
     try clear hcz28_7
     try clear hcz28_8
     try clear hcz28_9
     try clear hcz30_0
     try clear hcz30_1
     try clear hcz30_10
     try clear hcz30_11
     try clear hcz30_12
     try clear hcz30_2
     try clear hcz30_3
     try clear hcz30_4
     try clear hcz30_5
     try clear hcz30_6
     try clear hcz30_7
     try clear hcz30_8
     try clear hcz30_9
     try clear hcz32_0
     try clear hcz32_1
     try clear hcz32_10
     try clear hcz32_11
     try clear hcz32_12
     try clear hcz32_2
     try clear hcz32_3
     try clear hcz32_4
     try clear hcz32_5
     try clear hcz32_6
     try clear hcz32_7
     try clear hcz32_8
     try clear hcz32_9
     try clear hcz33_0
     try clear hcz33_1
     try clear hcz33_10
     try clear hcz33_11
     try clear hcz33_12
     try clear hcz33_2
     try clear hcz33_3
     try clear hcz33_4
     try clear hcz33_5
     try clear hcz33_6
     try clear hcz33_7
     try clear hcz33_8
     try clear hcz33_9
     try clear hcz9_0
     try clear hcz9_1
     try clear hcz9_10
     try clear hcz9_11
     try clear hcz9_12
     try clear hcz9_2
     try clear hcz9_3
     try clear hcz9_4
     try clear hcz9_5
     try clear hcz9_6
     try clear hcz9_7
     try clear hcz9_8
     try clear hcz9_9
     try clear hfz11_0
     try clear hfz11_1
     try clear hfz11_10
     try clear hfz11_11
     try clear hfz11_12
     try clear hfz11_2
     try clear hfz11_3
     try clear hfz11_4
     try clear hfz11_5
     try clear hfz11_6
     try clear hfz11_7
     try clear hfz11_8
     try clear hfz11_9
     try clear hfz12_0
     try clear hfz12_1
     try clear hfz12_10
     try clear hfz12_11
     try clear hfz12_12
     try clear hfz12_2
     try clear hfz12_3
     try clear hfz12_4
     try clear hfz12_5
     try clear hfz12_6
     try clear hfz12_7
     try clear hfz12_8
     try clear hfz12_9
     try clear hfz14_0
     try clear hfz14_1
     try clear hfz14_10
     try clear hfz14_11
     try clear hfz14_12
     try clear hfz14_2
     try clear hfz14_3
     try clear hfz14_4
     try clear hfz14_5
     try clear hfz14_6
     try clear hfz14_7
     try clear hfz14_8
     try clear hfz14_9
     try clear hfz15_0
     try clear hfz15_1
     try clear hfz15_10
     try clear hfz15_11
     try clear hfz15_12
     try clear hfz15_2
     try clear hfz15_3
     try clear hfz15_4
     try clear hfz15_5
     try clear hfz15_6
     try clear hfz15_7
     try clear hfz15_8
     try clear hfz15_9
     try clear hfz26_0
     try clear hfz26_1
     try clear hfz26_10
     try clear hfz26_11
     try clear hfz26_12
     try clear hfz26_2
     try clear hfz26_3
     try clear hfz26_4
     try clear hfz26_5
     try clear hfz26_6
     try clear hfz26_7
     try clear hfz26_8
     try clear hfz26_9
     try clear hfz28_0
     try clear hfz28_1
     try clear hfz28_10
     try clear hfz28_11
     try clear hfz28_12
     try clear hfz28_2
     try clear hfz28_3
     try clear hfz28_4
     try clear hfz28_5
     try clear hfz28_6
     try clear hfz28_7
     try clear hfz28_8
     try clear hfz28_9
     try clear hfz30_0
     try clear hfz30_1
     try clear hfz30_10
     try clear hfz30_11
     try clear hfz30_12
     try clear hfz30_2
     try clear hfz30_3
     try clear hfz30_4
     try clear hfz30_5
     try clear hfz30_6
     try clear hfz30_7
     try clear hfz30_8
     try clear hfz30_9
     try clear hfz32_0
     try clear hfz32_1
     try clear hfz32_10
     try clear hfz32_11
     try clear hfz32_12
     try clear hfz32_2
     try clear hfz32_3
     try clear hfz32_4
     try clear hfz32_5
     try clear hfz32_6
     try clear hfz32_7
     try clear hfz32_8
     try clear hfz32_9
     try clear hfz33_0
     try clear hfz33_1
     try clear hfz33_10
     try clear hfz33_11
     try clear hfz33_12
     try clear hfz33_2
     try clear hfz33_3
     try clear hfz33_4
     try clear hfz33_5
     try clear hfz33_6
     try clear hfz33_7
     try clear hfz33_8
     try clear hfz33_9
     try clear hfz9_0
     try clear hfz9_1
     try clear hfz9_10
     try clear hfz9_11
     try clear hfz9_12
     try clear hfz9_2
     try clear hfz9_3
     try clear hfz9_4
     try clear hfz9_5
     try clear hfz9_6
     try clear hfz9_7
     try clear hfz9_8
     try clear hfz9_9
     try clear p2
     try clear p6
     obtain ⟨kq, x3_17, rfl, HA, HJ17, BK101, HB⟩ := hcut
     cases kq with
     | zero => exact absurd HA.out (by simp [entry_Good.j1])
     | succ kj17 =>
      have H := HA.out
      clear HA
      simp only [entry_Good.j1] at H
      by_cases c34 : a0_0 = 1
      ·rw [if_pos c34] at H
       have c34b0 : (a0_0 == 1) = true := beq_iff_eq.mpr c34
       have c34b1 : (a0_0 != 1) = false := bne_eq_false_iff_eq.mpr c34
       clear c34
       by_cases c35 : x3_17 = true
       ·subst c35
        have H1 : (some (a0_12 == 0)) = some r := by rw [if_pos rfl] at H; exact H
        clear H
        have H := H1
        clear H1
        obtain rfl := Option.some.inj H
        obtain ⟨hcz36_0, hcz36_1, hcz36_2, hcz36_3, hcz36_4, hcz36_5, hcz36_6, hcz36_7, hcz36_8, hcz36_9, hcz36_10, hcz36_11, hcz36_12⟩ := cl13 (W := wc) BK101.out
        obtain ⟨hfz36_0, hfz36_1, hfz36_2, hfz36_3, hfz36_4, hfz36_5, hfz36_6, hfz36_7, hfz36_8, hfz36_9, hfz36_10, hfz36_11, hfz36_12⟩ := fr13 BK101.out
        go_wp2
        go_ret
        exact ⟨by first | rfl | (simp [errW_none, errW_some] <;> rfl) | (simp [*, errW_none, errW_some] <;> rfl), by repeat (first | (with_reducible first | exact HB.out | apply below_alloc | apply pw_below_drewN | apply below_drew1 | refine below_set ?_ GE101.out) | exact HB.out)⟩
       ·replace c35 := Bool.eq_false_iff.mpr c35
        subst c35
        have H1 : (some false) = some r := by rw [if_neg (show ¬ (false = true) by decide)] at H; exact H
        clear H
        have H := H1
        clear H1
        obtain rfl := Option.some.inj H
        obtain ⟨hcz37_0, hcz37_1, hcz37_2, hcz37_3, hcz37_4, hcz37_5, hcz37_6, hcz37_7, hcz37_8, hcz37_9, hcz37_10, hcz37_11, hcz37_12⟩ := cl13 (W := wc) BK101.out
        obtain ⟨hfz37_0, hfz37_1, hfz37_2, hfz37_3, hfz37_4, hfz37_5, hfz37_6, hfz37_7, hfz37_8, hfz37_9, hfz37_10, hfz37_11, hfz37_12⟩ := fr13 BK101.out
        go_wp2
        go_ret
        exact ⟨by first | rfl | (simp [errW_none, errW_some] <;> rfl) | (simp [*, errW_none, errW_some] <;> rfl), by repeat (first | (with_reducible first | exact HB.out | apply below_alloc | apply pw_below_drewN | apply below_drew1 | refine below_set ?_ GE101.out) | exact HB.out)⟩
      ·rw [if_neg c34] at H
       have c34b0 : (a0_0 == 1) = false := beq_eq_false_iff_ne.mpr c34
       have c34b1 : (a0_0 != 1) = true := bne_iff_ne.mpr c34
       by_cases c38 : a0_0 = 2
       ·rw [if_pos c38] at H
        have c38b0 : (a0_0 == 2) = true := beq_iff_eq.mpr c38
        have c38b1 : (a0_0 != 2) = false := bne_eq_false_iff_eq.mpr c38
        clear c38
        by_cases c39 : x3_17 = true
        ·subst c39
         have H1 : ((entry_within.f a0_12 0 a0_5).bind fun t109 => (some t109)) = some r := by rw [if_pos rfl] at H; exact H
         clear H
         have H := H1
         clear H1
         replace H := Option.bind_eq_some_iff.mp H
         obtain ⟨t109, A400, H⟩ := H
         replace H : (some t109) = some r := H
         have A40 := Aside0.mk A400
         clear A400
         obtain rfl := Option.some.inj H
         obtain ⟨hcz41_0, hcz41_1, hcz41_2, hcz41_3, hcz41_4, hcz41_5, hcz41_6, hcz41_7, hcz41_8, hcz41_9, hcz41_10, hcz41_11, hcz41_12⟩ := cl13 (W := wc) BK101.out
         obtain ⟨hfz41_0, hfz41_1, hfz41_2, hfz41_3, hfz41_4, hfz41_5, hfz41_6, hfz41_7, hfz41_8, hfz41_9, hfz41_10, hfz41_11, hfz41_12⟩ := fr13 BK101.out
         go_wp2_with (first | (go_at_call 102; (with_reducible refine (entry_within.calls a0_12 0 a0_5 t109 _ A40.out).mono ?_); rintro e w' ⟨rfl, ⟨nd, rfl⟩⟩))
         go_ret
         exact ⟨by first | rfl | (simp [errW_none, errW_some] <;> rfl) | (simp [*, errW_none, errW_some] <;> rfl), by repeat (first | (with_reducible first | exact HB.out | apply below_alloc | apply pw_below_drewN | apply below_drew1 | refine below_set ?_ GE101.out) | exact HB.out)⟩
        ·replace c39 := Bool.eq_false_iff.mpr c39
         subst c39
         have H1 : (some false) = some r := by rw [if_neg (show ¬ (false = true) by decide)] at H; exact H
         clear H
         have H := H1
         clear H1
         obtain rfl := Option.some.inj H
         obtain ⟨hcz42_0, hcz42_1, hcz42_2, hcz42_3, hcz42_4, hcz42_5, hcz42_6, hcz42_7, hcz42_8, hcz42_9, hcz42_10, hcz42_11, hcz42_12⟩ := cl13 (W := wc) BK101.out
         obtain ⟨hfz42_0, hfz42_1, hfz42_2, hfz42_3, hfz42_4, hfz42_5, hfz42_6, hfz42_7, hfz42_8, hfz42_9, hfz42_10, hfz42_11, hfz42_12⟩ := fr13 BK101.out
         go_wp2
         go_ret
         exact ⟨by first | rfl | (simp [errW_none, errW_some] <;> rfl) | (simp [*, errW_none, errW_some] <;> rfl), by repeat (first | (with_reducible first | exact HB.out | apply below_alloc | apply pw_below_drewN | apply below_drew1 | refine below_set ?_ GE101.out) | exact HB.out)⟩
       ·rw [if_neg c38] at H
        have c38b0 : (a0_0 == 2) = false := beq_eq_false_iff_ne.mpr c38
        have c38b1 : (a0_0 != 2) = true := bne_iff_ne.mpr c38
        by_cases c43 : a0_0 = 3
        ·rw [if_pos c43] at H
         have c43b0 : (a0_0 == 3) = true := beq_iff_eq.mpr c43
         have c43b1 : (a0_0 != 3) = false := bne_eq_false_iff_eq.mpr c43
         clear c43
         replace H := Option.bind_eq_some_iff.mp H
         obtain ⟨⟨t110, t111, t112, t113, t114, t115, t116, t117, t118, t119, t120, t121, t122⟩, A440, H⟩ := H
         replace H : (some (a0_0 == t110 && ((a0_1 == t111 && (a0_2 == t112 && (a0_3 == t113))) && (a0_4 == t114 && (a0_5 == t115 && (a0_6 == t116 && (a0_7 == t117 && ((a0_8 == t118 && (a0_9.toList == t119.toList)) && ((a0_10 == t120 && (a0_11.toList == t121.toList)) && (a0_12 == t122)))))))))) = some r := H
         have A44 := Aside0.mk A440
         clear A440
         obtain rfl := Option.some.inj H
         obtain ⟨hcz45_0, hcz45_1, hcz45_2, hcz45_3, hcz45_4, hcz45_5, hcz45_6, hcz45_7, hcz45_8, hcz45_9, hcz45_10, hcz45_11, hcz45_12⟩ := cl13 (W := wc) BK101.out
         obtain ⟨hfz45_0, hfz45_1, hfz45_2, hfz45_3, hfz45_4, hfz45_5, hfz45_6, hfz45_7, hfz45_8, hfz45_9, hfz45_10, hfz45_11, hfz45_12⟩ := fr13 BK101.out
         try go_wp2
         have n0_ := Aside0.mk (blk_drew BK101.out)
         have n1_ := Aside0.mk (below_drew1 HB.out)
         clear BK101
         clear HB
         have BK101 := n0_
         have HB := n1_
         clear n0_ n1_
         refine start_ (n := 5) (S := fun w' => w'.cell? ⟨gb101, 0, none⟩ = some (.int .i64 a0_0) ∧ w'.cell? ⟨gb101, 1, none⟩ = some (.int .i64 a0_1) ∧ w'.cell? ⟨gb101, 2, none⟩ = some (.int .i64 a0_2) ∧ w'.cell? ⟨gb101, 3, none⟩ = some (.int .i64 a0_3) ∧ w'.cell? ⟨gb101, 4, none⟩ = some (.int .i64 a0_4) ∧ w'.cell? ⟨gb101, 5, none⟩ = some (.int .i64 a0_5) ∧ w'.cell? ⟨gb101, 6, none⟩ = some (.int .i64 a0_6) ∧ w'.cell? ⟨gb101, 7, none⟩ = some (.int .i64 a0_7) ∧ w'.cell? ⟨gb101, 8, none⟩ = some (.bool a0_8) ∧ w'.cell? ⟨gb101, 9, none⟩ = some (.string a0_9) ∧ w'.cell? ⟨gb101, 10, none⟩ = some (.bool a0_10) ∧ w'.cell? ⟨gb101, 11, none⟩ = some (.string a0_11) ∧ w'.cell? ⟨gb101, 12, none⟩ = some (.int .i64 a0_12)) (ds := []) #[false, false, false, false, false] (by kernel_rfl) rfl rfl ⟨(blk_cell BK101.out 0).trans rfl, (blk_cell BK101.out 1).trans rfl, (blk_cell BK101.out 2).trans rfl, (blk_cell BK101.out 3).trans rfl, (blk_cell BK101.out 4).trans rfl, (blk_cell BK101.out 5).trans rfl, (blk_cell BK101.out 6).trans rfl, (blk_cell BK101.out 7).trans rfl, (blk_cell BK101.out 8).trans rfl, (blk_cell BK101.out 9).trans rfl, (blk_cell BK101.out 10).trans rfl, (blk_cell BK101.out 11).trans rfl, (blk_cell BK101.out 12).trans rfl⟩ (fun hHeld => ?_)
         generalize wc.drew = w46 at BK101 HB hHeld ⊢
         refine take_ (i := 0) (N := some 64) (v := ?_) (a' := ?_) #[true, false, false, false, false] rfl rfl (by kernel_rfl) (fun _ _ _ h => h) (Or.inl ⟨by rfl, ?_⟩) hHeld ?_ ?_
         rotate_left
         ·rintro w' ⟨s0, s1, s2, s3, s4, s5, s6, s7, s8, s9, s10, s11, s12⟩
          go_simp
          with_reducible rfl
         rotate_left
         ·simp only [Act.put, List.setIfInBounds_toArray, List.set_cons_zero, List.set_cons_succ, i64_w, i32_w]
          rfl
         refine take_ (i := 1) (N := some 65) (v := ?_) (a' := ?_) #[true, true, false, false, false] rfl rfl (by kernel_rfl) (fun _ _ _ h => h) (Or.inl ⟨by rfl, ?_⟩) hHeld ?_ ?_
         rotate_left
         ·rintro w' ⟨s0, s1, s2, s3, s4, s5, s6, s7, s8, s9, s10, s11, s12⟩
          go_simp
          with_reducible rfl
         rotate_left
         ·simp only [Act.put, List.setIfInBounds_toArray, List.set_cons_zero, List.set_cons_succ, i64_w, i32_w]
          rfl
         refine one_ (i := 2) (N := some 66) #[true, true, true, false, false] rfl rfl (by kernel_rfl) (by decide) (fun K hK => ?_)
         refine goes_ Try.func104 (by kernel_rfl) rfl #[.agg #[.int .i64 a0_0, .int .i64 a0_1, .int .i64 a0_2, .int .i64 a0_3, .int .i64 a0_4, .int .i64 a0_5, .int .i64 a0_6, .int .i64 a0_7, .bool a0_8, .string a0_9, .bool a0_10, .string a0_11, .int .i64 a0_12]] (by rfl) rfl rfl (by (try simp only [List.map_toArray, List.map_cons, List.map_nil]); first | done | rfl | (simp only [List.length_drop, List.length_take]; rfl)) ?_
         with_reducible refine (entry_plain.calls a0_0 a0_1 a0_2 a0_3 a0_4 a0_5 a0_6 a0_7 a0_8 a0_9 a0_10 a0_11 a0_12 t110 t111 t112 t113 t114 t115 t116 t117 t118 t119 t120 t121 t122 _ A44.out).mono ?_
         rintro e w47 ⟨rfl, hb⟩
         refine ⟨_, rfl, ?_⟩
         have n0_ := Aside0.mk (blk_below (g := gb101) (o := .cells #[.int .i64 a0_0, .int .i64 a0_1, .int .i64 a0_2, .int .i64 a0_3, .int .i64 a0_4, .int .i64 a0_5, .int .i64 a0_6, .int .i64 a0_7, .bool a0_8, .string a0_9, .bool a0_10, .string a0_11, .int .i64 a0_12] 65 (0, 0)) (by (with_reducible repeat (first | refine blk_drewN ?_ _ | refine blk_drew ?_ | refine blk_alloc ?_ _)); exact BK101.out) hb)
         have n1_ := Aside0.mk (below_step (by repeat (first | (with_reducible first | exact HB.out | apply below_alloc | apply pw_below_drewN | apply below_drew1 | refine below_set ?_ GE101.out) | exact HB.out)) hb)
         clear BK101
         clear HB
         have BK101 := n0_
         have HB := n1_
         clear n0_ n1_
         (try clear hb)
         (try clear hb2)
         (try clear hk)
         (try clear hi)
         refine hK.out _ _ ⟨(blk_cell BK101.out 0).trans rfl, (blk_cell BK101.out 1).trans rfl, (blk_cell BK101.out 2).trans rfl, (blk_cell BK101.out 3).trans rfl, (blk_cell BK101.out 4).trans rfl, (blk_cell BK101.out 5).trans rfl, (blk_cell BK101.out 6).trans rfl, (blk_cell BK101.out 7).trans rfl, (blk_cell BK101.out 8).trans rfl, (blk_cell BK101.out 9).trans rfl, (blk_cell BK101.out 10).trans rfl, (blk_cell BK101.out 11).trans rfl, (blk_cell BK101.out 12).trans rfl⟩ (fun hHeld => ?_)
         clear hK K
         refine norm_ (a' := ?_) ?_ ?_
         rotate_left
         ·show Act.put _ (some 66) _ = _
          simp only [Act.put, List.setIfInBounds_toArray, List.set_cons_zero, List.set_cons_succ, i64_w, i32_w]
          rfl
         refine pure_ (i := 3) (N := some 67) (v := ?_) (a' := ?_) #[true, true, true, true, false] rfl rfl (by kernel_rfl) (fun _ _ _ h => h) (Or.inl ⟨by rfl, ?_⟩) ?_ ?_
         rotate_left
         ·intro w'
          go_simp
          with_reducible rfl
         rotate_left
         ·simp only [Act.put, List.setIfInBounds_toArray, List.set_cons_zero, List.set_cons_succ, i64_w, i32_w]
          rfl
         refine pure_ (i := 4) (N := some 2) (v := ?_) (a' := ?_) #[true, true, true, true, true] rfl rfl (by kernel_rfl) (fun _ _ _ h => h) (Or.inl ⟨by rfl, ?_⟩) ?_ ?_
         rotate_left
         ·intro w'
          go_simp
          with_reducible rfl
         rotate_left
         ·simp only [Act.put, List.setIfInBounds_toArray, List.set_cons_zero, List.set_cons_succ, i64_w, i32_w]
          rfl
         refine done_ (by kernel_rfl) ?_
         try go_wp2
         go_ret
         exact ⟨by first | rfl | (simp [errW_none, errW_some] <;> rfl) | (simp [*, errW_none, errW_some] <;> rfl), by repeat (first | (with_reducible first | exact HB.out | apply below_alloc | apply pw_below_drewN | apply below_drew1 | refine below_set ?_ GE101.out) | exact HB.out)⟩
        ·rw [if_neg c43] at H
         have c43b0 : (a0_0 == 3) = false := beq_eq_false_iff_ne.mpr c43
         have c43b1 : (a0_0 != 3) = true := bne_iff_ne.mpr c43
         by_cases c48 : a0_0 = 4
         ·rw [if_pos c48] at H
          have c48b0 : (a0_0 == 4) = true := beq_iff_eq.mpr c48
          have c48b1 : (a0_0 != 4) = false := bne_eq_false_iff_eq.mpr c48
          clear c48
          replace H := Option.bind_eq_some_iff.mp H
          obtain ⟨⟨t123, t124, t125, t126, t127, t128, t129, t130, t131, t132, t133, t134, t135⟩, A490, H⟩ := H
          replace H : (some (a0_0 == t123 && ((a0_1 == t124 && (a0_2 == t125 && (a0_3 == t126))) && (a0_4 == t127 && (a0_5 == t128 && (a0_6 == t129 && (a0_7 == t130 && ((a0_8 == t131 && (a0_9.toList == t132.toList)) && ((a0_10 == t133 && (a0_11.toList == t134.toList)) && (a0_12 == t135)))))))))) = some r := H
          have A49 := Aside0.mk A490
          clear A490
          obtain rfl := Option.some.inj H
          obtain ⟨hcz50_0, hcz50_1, hcz50_2, hcz50_3, hcz50_4, hcz50_5, hcz50_6, hcz50_7, hcz50_8, hcz50_9, hcz50_10, hcz50_11, hcz50_12⟩ := cl13 (W := wc) BK101.out
          obtain ⟨hfz50_0, hfz50_1, hfz50_2, hfz50_3, hfz50_4, hfz50_5, hfz50_6, hfz50_7, hfz50_8, hfz50_9, hfz50_10, hfz50_11, hfz50_12⟩ := fr13 BK101.out
          try go_wp2
          have n0_ := Aside0.mk (blk_drew BK101.out)
          have n1_ := Aside0.mk (below_drew1 HB.out)
          clear BK101
          clear HB
          have BK101 := n0_
          have HB := n1_
          clear n0_ n1_
          refine start_ (n := 5) (S := fun w' => w'.cell? ⟨gb101, 0, none⟩ = some (.int .i64 a0_0) ∧ w'.cell? ⟨gb101, 1, none⟩ = some (.int .i64 a0_1) ∧ w'.cell? ⟨gb101, 2, none⟩ = some (.int .i64 a0_2) ∧ w'.cell? ⟨gb101, 3, none⟩ = some (.int .i64 a0_3) ∧ w'.cell? ⟨gb101, 4, none⟩ = some (.int .i64 a0_4) ∧ w'.cell? ⟨gb101, 5, none⟩ = some (.int .i64 a0_5) ∧ w'.cell? ⟨gb101, 6, none⟩ = some (.int .i64 a0_6) ∧ w'.cell? ⟨gb101, 7, none⟩ = some (.int .i64 a0_7) ∧ w'.cell? ⟨gb101, 8, none⟩ = some (.bool a0_8) ∧ w'.cell? ⟨gb101, 9, none⟩ = some (.string a0_9) ∧ w'.cell? ⟨gb101, 10, none⟩ = some (.bool a0_10) ∧ w'.cell? ⟨gb101, 11, none⟩ = some (.string a0_11) ∧ w'.cell? ⟨gb101, 12, none⟩ = some (.int .i64 a0_12)) (ds := []) #[false, false, false, false, false] (by kernel_rfl) rfl rfl ⟨(blk_cell BK101.out 0).trans rfl, (blk_cell BK101.out 1).trans rfl, (blk_cell BK101.out 2).trans rfl, (blk_cell BK101.out 3).trans rfl, (blk_cell BK101.out 4).trans rfl, (blk_cell BK101.out 5).trans rfl, (blk_cell BK101.out 6).trans rfl, (blk_cell BK101.out 7).trans rfl, (blk_cell BK101.out 8).trans rfl, (blk_cell BK101.out 9).trans rfl, (blk_cell BK101.out 10).trans rfl, (blk_cell BK101.out 11).trans rfl, (blk_cell BK101.out 12).trans rfl⟩ (fun hHeld => ?_)
          generalize wc.drew = w51 at BK101 HB hHeld ⊢
          refine take_ (i := 0) (N := some 64) (v := ?_) (a' := ?_) #[true, false, false, false, false] rfl rfl (by kernel_rfl) (fun _ _ _ h => h) (Or.inl ⟨by rfl, ?_⟩) hHeld ?_ ?_
          rotate_left
          ·rintro w' ⟨s0, s1, s2, s3, s4, s5, s6, s7, s8, s9, s10, s11, s12⟩
           go_simp
           with_reducible rfl
          rotate_left
          ·simp only [Act.put, List.setIfInBounds_toArray, List.set_cons_zero, List.set_cons_succ, i64_w, i32_w]
           rfl
          refine take_ (i := 1) (N := some 65) (v := ?_) (a' := ?_) #[true, true, false, false, false] rfl rfl (by kernel_rfl) (fun _ _ _ h => h) (Or.inl ⟨by rfl, ?_⟩) hHeld ?_ ?_
          rotate_left
          ·rintro w' ⟨s0, s1, s2, s3, s4, s5, s6, s7, s8, s9, s10, s11, s12⟩
           go_simp
           with_reducible rfl
          rotate_left
          ·simp only [Act.put, List.setIfInBounds_toArray, List.set_cons_zero, List.set_cons_succ, i64_w, i32_w]
           rfl
          refine one_ (i := 2) (N := some 66) #[true, true, true, false, false] rfl rfl (by kernel_rfl) (by decide) (fun K hK => ?_)
          refine goes_ Try.func104 (by kernel_rfl) rfl #[.agg #[.int .i64 a0_0, .int .i64 a0_1, .int .i64 a0_2, .int .i64 a0_3, .int .i64 a0_4, .int .i64 a0_5, .int .i64 a0_6, .int .i64 a0_7, .bool a0_8, .string a0_9, .bool a0_10, .string a0_11, .int .i64 a0_12]] (by rfl) rfl rfl (by (try simp only [List.map_toArray, List.map_cons, List.map_nil]); first | done | rfl | (simp only [List.length_drop, List.length_take]; rfl)) ?_
          with_reducible refine (entry_plain.calls a0_0 a0_1 a0_2 a0_3 a0_4 a0_5 a0_6 a0_7 a0_8 a0_9 a0_10 a0_11 a0_12 t123 t124 t125 t126 t127 t128 t129 t130 t131 t132 t133 t134 t135 _ A49.out).mono ?_
          rintro e w52 ⟨rfl, hb⟩
          refine ⟨_, rfl, ?_⟩
          have n0_ := Aside0.mk (blk_below (g := gb101) (o := .cells #[.int .i64 a0_0, .int .i64 a0_1, .int .i64 a0_2, .int .i64 a0_3, .int .i64 a0_4, .int .i64 a0_5, .int .i64 a0_6, .int .i64 a0_7, .bool a0_8, .string a0_9, .bool a0_10, .string a0_11, .int .i64 a0_12] 65 (0, 0)) (by (with_reducible repeat (first | refine blk_drewN ?_ _ | refine blk_drew ?_ | refine blk_alloc ?_ _)); exact BK101.out) hb)
          have n1_ := Aside0.mk (below_step (by repeat (first | (with_reducible first | exact HB.out | apply below_alloc | apply pw_below_drewN | apply below_drew1 | refine below_set ?_ GE101.out) | exact HB.out)) hb)
          clear BK101
          clear HB
          have BK101 := n0_
          have HB := n1_
          clear n0_ n1_
          (try clear hb)
          (try clear hb2)
          (try clear hk)
          (try clear hi)
          refine hK.out _ _ ⟨(blk_cell BK101.out 0).trans rfl, (blk_cell BK101.out 1).trans rfl, (blk_cell BK101.out 2).trans rfl, (blk_cell BK101.out 3).trans rfl, (blk_cell BK101.out 4).trans rfl, (blk_cell BK101.out 5).trans rfl, (blk_cell BK101.out 6).trans rfl, (blk_cell BK101.out 7).trans rfl, (blk_cell BK101.out 8).trans rfl, (blk_cell BK101.out 9).trans rfl, (blk_cell BK101.out 10).trans rfl, (blk_cell BK101.out 11).trans rfl, (blk_cell BK101.out 12).trans rfl⟩ (fun hHeld => ?_)
          clear hK K
          refine norm_ (a' := ?_) ?_ ?_
          rotate_left
          ·show Act.put _ (some 66) _ = _
           simp only [Act.put, List.setIfInBounds_toArray, List.set_cons_zero, List.set_cons_succ, i64_w, i32_w]
           rfl
          refine pure_ (i := 3) (N := some 67) (v := ?_) (a' := ?_) #[true, true, true, true, false] rfl rfl (by kernel_rfl) (fun _ _ _ h => h) (Or.inl ⟨by rfl, ?_⟩) ?_ ?_
          rotate_left
          ·intro w'
           go_simp
           with_reducible rfl
          rotate_left
          ·simp only [Act.put, List.setIfInBounds_toArray, List.set_cons_zero, List.set_cons_succ, i64_w, i32_w]
           rfl
          refine pure_ (i := 4) (N := some 2) (v := ?_) (a' := ?_) #[true, true, true, true, true] rfl rfl (by kernel_rfl) (fun _ _ _ h => h) (Or.inl ⟨by rfl, ?_⟩) ?_ ?_
          rotate_left
          ·intro w'
           go_simp
           with_reducible rfl
          rotate_left
          ·simp only [Act.put, List.setIfInBounds_toArray, List.set_cons_zero, List.set_cons_succ, i64_w, i32_w]
           rfl
          refine done_ (by kernel_rfl) ?_
          try go_wp2
          go_ret
          exact ⟨by first | rfl | (simp [errW_none, errW_some] <;> rfl) | (simp [*, errW_none, errW_some] <;> rfl), by repeat (first | (with_reducible first | exact HB.out | apply below_alloc | apply pw_below_drewN | apply below_drew1 | refine below_set ?_ GE101.out) | exact HB.out)⟩
         ·rw [if_neg c48] at H
          have c48b0 : (a0_0 == 4) = false := beq_eq_false_iff_ne.mpr c48
          have c48b1 : (a0_0 != 4) = true := bne_iff_ne.mpr c48
          obtain rfl := Option.some.inj H
          obtain ⟨hcz53_0, hcz53_1, hcz53_2, hcz53_3, hcz53_4, hcz53_5, hcz53_6, hcz53_7, hcz53_8, hcz53_9, hcz53_10, hcz53_11, hcz53_12⟩ := cl13 (W := wc) BK101.out
          obtain ⟨hfz53_0, hfz53_1, hfz53_2, hfz53_3, hfz53_4, hfz53_5, hfz53_6, hfz53_7, hfz53_8, hfz53_9, hfz53_10, hfz53_11, hfz53_12⟩ := fr13 BK101.out
          go_wp2
          go_ret
          exact ⟨by first | rfl | (simp [errW_none, errW_some] <;> rfl) | (simp [*, errW_none, errW_some] <;> rfl), by repeat (first | (with_reducible first | exact HB.out | apply below_alloc | apply pw_below_drewN | apply below_drew1 | refine below_set ?_ GE101.out) | exact HB.out)⟩
end Go.Proofs.Ytfjmnaobfbmllaa.M
namespace Go.Proofs.Ytfjmnaobfbmllaa.M
open Go.RowKit Go.Proofs.YtfjmnaobfbmllaaW.PrintWords Go.Proofs.YtfjmnaobfbmllaaW.PrintLast Go.Proofs.YtfjmnaobfbmllaaW.PrintMore
set_option linter.unusedVariables false
set_option linter.unusedSimpArgs false
def Chg (p s : Int) (x y : S33) : Prop := (0 ≤ p ∧ p ≤ 1023) ∧ (0 ≤ s ∧ s ≤ 31) ∧ oddS x = false ∧ oddS y = false
instance decChg (p s : Int) (x y : S33) : Decidable (Chg p s x y) := by unfold Chg; infer_instance
def KindE (k prev p s : Int) (x y : S33) (next : Int) : Prop :=
  (k = 1 ∧ Chg p s x y ∧ next = 0) ∨ (k = 2 ∧ Chg p s x y ∧ 0 ≤ next ∧ next ≤ prev) ∨ ((k = 3 ∨ k = 4) ∧ p = 0 ∧ s = 0 ∧ next = 0 ∧ x = z33 ∧ y = z33)
instance decKind (k prev p s : Int) (x y : S33) (next : Int) : Decidable (KindE k prev p s x y next) := by unfold KindE; infer_instance
def GoodE (x : S65) : Prop := KnownP x.f1.f0 x.f1.f1 x.f1.f2 ∧ (1 ≤ x.f2 ∧ x.f2 ≤ 1099511627776) ∧ (0 ≤ x.f3 ∧ x.f3 < x.f2) ∧ KindE x.f0 x.f3 x.f4 x.f5 x.f6 x.f7 x.f8
instance decGood (x : S65) : Decidable (GoodE x) := by unfold GoodE; infer_instance
def mkE (k c e n lsn prev p s : Int) (u : Bool) (d : ByteArray) (u2 : Bool) (d2 : ByteArray) (next : Int) : S65 := ⟨k, ⟨c, e, n⟩, lsn, prev, p, s, ⟨u, d⟩, ⟨u2, d2⟩, next⟩
theorem isSlot_eq (u : Bool) (d : ByteArray) : entry_isSlot.f u d = some (decide (oddS ⟨u, d⟩ = false)) := by
  unfold entry_isSlot.f oddS
  by_cases h : (d.size : Int) ≤ 200
  · rw [if_pos h, decide_eq_false (show ¬ 200 < d.size by omega)]
    cases u with
    | true => rw [if_pos rfl]; simp
    | false =>
      rw [if_neg Bool.false_ne_true]
      cases hd : d.toList <;> simp [hd]
  · rw [if_neg h, decide_eq_true (show 200 < d.size by omega)]; simp
theorem good_j1 (q : Nat) (b : Bool) (k c e n lsn prev p s : Int) (u : Bool) (d : ByteArray) (u2 : Bool) (d2 : ByteArray) (next : Int) (hb : b = decide (Chg p s ⟨u, d⟩ ⟨u2, d2⟩)) :
    entry_Good.j1 (q + 1) b k c e n lsn prev p s u d u2 d2 next = some (decide (KindE k prev p s ⟨u, d⟩ ⟨u2, d2⟩ next)) := by
  subst hb
  simp only [entry_Good.j1]
  by_cases h1 : k = 1
  · rw [if_pos h1]
    by_cases hc : Chg p s ⟨u, d⟩ ⟨u2, d2⟩
    · rw [decide_eq_true hc, if_pos rfl]; congr 1; rw [Bool.eq_iff_iff]; simp [KindE, hc, h1]
    · rw [decide_eq_false hc, if_neg Bool.false_ne_true]; congr 1; rw [Bool.eq_iff_iff]; simp [KindE, hc, h1]
  rw [if_neg h1]
  by_cases h2 : k = 2
  · rw [if_pos h2]
    by_cases hc : Chg p s ⟨u, d⟩ ⟨u2, d2⟩
    · rw [decide_eq_true hc, if_pos rfl, within_eq, Option.bind_some]; congr 1; rw [Bool.eq_iff_iff]; simp [KindE, hc, h2]
    · rw [decide_eq_false hc, if_neg Bool.false_ne_true]; congr 1; rw [Bool.eq_iff_iff]; simp [KindE, hc, h2]
  rw [if_neg h2]
  by_cases h3 : k = 3
  · rw [if_pos h3]
    unfold entry_plain.f
    rw [Option.bind_some]; congr 1; rw [Bool.eq_iff_iff]; simp [KindE, h3, s33_ext, z33, ba_nil, ba_inj, and_assoc]
    intro _ _
    constructor
    · rintro ⟨a3, a4, a5, a6, a7⟩; exact ⟨a7, a3, a4, a5, a6⟩
    · rintro ⟨a7, a3, a4, a5, a6⟩; exact ⟨a3, a4, a5, a6, a7⟩
  rw [if_neg h3]
  by_cases h4 : k = 4
  · rw [if_pos h4]
    unfold entry_plain.f
    rw [Option.bind_some]; congr 1; rw [Bool.eq_iff_iff]; simp [KindE, h4, s33_ext, z33, ba_nil, ba_inj, and_assoc]
    intro _ _
    constructor
    · rintro ⟨a3, a4, a5, a6, a7⟩; exact ⟨a7, a3, a4, a5, a6⟩
    · rintro ⟨a7, a3, a4, a5, a6⟩; exact ⟨a3, a4, a5, a6, a7⟩
  rw [if_neg h4]; congr 1; exact (decide_eq_false (by unfold KindE; omega)).symm
theorem good_j0 (q : Nat) (k c e n lsn prev p s : Int) (u : Bool) (d : ByteArray) (u2 : Bool) (d2 : ByteArray) (next : Int) :
    entry_Good.j0 (q + 2) false k c e n lsn prev p s u d u2 d2 next = some (decide (KindE k prev p s ⟨u, d⟩ ⟨u2, d2⟩ next)) := by
  simp only [entry_Good.j0]
  rw [if_neg Bool.false_ne_true, within_eq, within_eq, isSlot_eq, isSlot_eq, Option.bind_some, Option.bind_some, Option.bind_some, Option.bind_some]
  by_cases h1 : 0 ≤ p ∧ p ≤ 1023
  · rw [decide_eq_true h1, if_pos rfl]
    by_cases h2 : 0 ≤ s ∧ s ≤ 31
    · rw [decide_eq_true h2, if_pos rfl]
      by_cases h3 : oddS ⟨u, d⟩ = false
      · rw [decide_eq_true h3, if_pos rfl]
        refine good_j1 q _ k c e n lsn prev p s u d u2 d2 next ?_
        exact decide_eq_decide.mpr ⟨fun h => ⟨h1, h2, h3, h⟩, fun h => h.2.2.2⟩
      · rw [decide_eq_false h3, if_neg Bool.false_ne_true]
        refine good_j1 q _ k c e n lsn prev p s u d u2 d2 next ?_
        exact (decide_eq_false (fun h => h3 h.2.2.1)).symm
    · rw [decide_eq_false h2, if_neg Bool.false_ne_true]
      refine good_j1 q _ k c e n lsn prev p s u d u2 d2 next ?_
      exact (decide_eq_false (fun h => h2 h.2.1)).symm
  · rw [decide_eq_false h1, if_neg Bool.false_ne_true]
    refine good_j1 q _ k c e n lsn prev p s u d u2 d2 next ?_
    exact (decide_eq_false (fun h => h1 h.1)).symm
theorem goodE_pure (k c e n lsn prev p s : Int) (u : Bool) (d : ByteArray) (u2 : Bool) (d2 : ByteArray) (next : Int) :
    entry_Good.f 2 k c e n lsn prev p s u d u2 d2 next = some (decide (GoodE (mkE k c e n lsn prev p s u d u2 d2 next))) := by
  have hbad : entry_Good.j0 2 true k c e n lsn prev p s u d u2 d2 next = some false := by simp only [entry_Good.j0]; exact if_pos trivial
  unfold entry_Good.f
  rw [show entKnown.f c e n = some (decide (KnownP c e n)) from rfl, within_eq, Option.bind_some, Option.bind_some]
  by_cases h1 : KnownP c e n
  · rw [decide_eq_true h1, if_pos rfl]
    by_cases h2 : 1 ≤ lsn ∧ lsn ≤ 1099511627776
    · rw [decide_eq_true h2, if_pos rfl, w64 (lsn - 1) (by omega) (by omega), within_eq, Option.bind_some]
      by_cases h3 : 0 ≤ prev ∧ prev ≤ lsn - 1
      · rw [decide_eq_true h3, Bool.not_true, good_j0 0]
        congr 1
        exact decide_eq_decide.mpr ⟨fun h => ⟨h1, h2, ⟨h3.1, by show prev < lsn; omega⟩, h⟩, fun h => h.2.2.2⟩
      · rw [decide_eq_false h3, Bool.not_false, hbad]
        congr 1
        exact (decide_eq_false (fun h => by have h5 : 0 ≤ prev ∧ prev < lsn := h.2.2.1; omega)).symm
    · rw [decide_eq_false h2, if_neg Bool.false_ne_true, hbad]
      congr 1
      exact (decide_eq_false (fun h => h2 h.2.1)).symm
  · rw [decide_eq_false h1, if_neg Bool.false_ne_true, hbad]
    congr 1
    exact (decide_eq_false (fun h => h1 h.1)).symm
def entGood.f (k c e n lsn prev p s : Int) (u : Bool) (d : ByteArray) (u2 : Bool) (d2 : ByteArray) (next : Int) : Option Bool := some (decide (GoodE (mkE k c e n lsn prev p s u d u2 d2 next)))
theorem entGood.calls (k c e n lsn prev p s : Int) (u : Bool) (d : ByteArray) (u2 : Bool) (d2 : ByteArray) (next : Int) (r : Bool) (w : World) (h : entGood.f k c e n lsn prev p s u d u2 d2 next = some r) :
    Calls Try.prog 55 #[.agg #[.int .i64 k, .int .i64 c, .int .i64 e, .int .i64 n, .int .i64 lsn, .int .i64 prev, .int .i64 p, .int .i64 s, .bool u, .string d, .bool u2, .string d2, .int .i64 next]] w fun e w' => e = .returned (.bool r) ∧ Below w.heap.size w w' :=
  entry_Good.calls 2 k c e n lsn prev p s u d u2 d2 next r w (by rw [goodE_pure]; exact h)
end Go.Proofs.Ytfjmnaobfbmllaa.M
namespace Go.Proofs.Ytfjmnaobfbmllaa.M
open Go.RowKit Go.Proofs.YtfjmnaobfbmllaaW.PrintWords Go.Proofs.YtfjmnaobfbmllaaW.PrintLast Go.Proofs.YtfjmnaobfbmllaaW.PrintMore
set_option linter.unusedVariables false
set_option linter.unusedSimpArgs false
def getN (bs : List Int) : Int := bs.foldl (fun n b => n * 256 + b) 0
theorem getN_snoc (bs : List Int) (b : Int) : getN (bs ++ [b]) = getN bs * 256 + b := by simp [getN]
theorem getN_take (bs : List Int) (h : ∀ b ∈ bs, 0 ≤ b ∧ b ≤ 255) (i : Nat) (hi : i ≤ bs.length) : 0 ≤ getN (bs.take i) ∧ getN (bs.take i) < 256 ^ i := by
  induction i with
  | zero => simp [getN]
  | succ i ih =>
    have hlt : i < bs.length := by omega
    rw [List.take_succ_eq_append_getElem hlt, getN_snoc]
    have h1 := ih (by omega)
    have h2 := h bs[i] (List.getElem_mem hlt)
    rw [Int.pow_succ]
    omega
theorem bytesOf_range (s : ByteArray) : ∀ b ∈ bytesOf s, 0 ≤ b ∧ b ≤ 255 := by
  intro b hb
  simp only [bytesOf, List.mem_map] at hb
  obtain ⟨x, _, rfl⟩ := hb
  have := x.toNat_lt
  omega
theorem or_low (n b : Nat) (hb : b < 256) : (n * 256) ||| b = n * 256 + b := by
  have := Nat.two_pow_add_eq_or_of_lt (i := 8) (b := b) hb n
  rw [show n * 256 = 2 ^ 8 * n by omega]
  exact this.symm
theorem or_u64 (n b : Int) (h0 : 0 ≤ n) (h1 : n < 72057594037927936) (h2 : 0 ≤ b) (h3 : b ≤ 255) : Go.bits .or .u64 (n * 256) b = n * 256 + b := by
  rw [u64_or _ _ (by omega) (by omega) (by omega) (by omega)]
  obtain ⟨m, rfl⟩ := Int.eq_ofNat_of_zero_le h0
  obtain ⟨c, rfl⟩ := Int.eq_ofNat_of_zero_le h2
  have := or_low m c (by omega)
  rw [show ((m : Int) * 256).toNat = m * 256 by omega, Int.toNat_natCast, this]
  omega
set_option maxHeartbeats 2000000 in
theorem high_Get.small (s : ByteArray) (w : World) (hs : s.size ≤ 8) :
    Calls Try.prog 86 #[.string s] w fun e w' => e = .returned (.int .u64 (getN (bytesOf s))) ∧ Below w.heap.size w w' := by
  have kb := fun (W : World) => print_bytes (P := Try.prog) 9 36 5 Try.underlying9 Try.underlying36 Try.underlying5 s W
  have hrd := bytes_reads w 5 s (by omega)
  have hbl := bytes_below (Below.refl w.heap.size w) (Nat.le_refl _) 5 s
  have hlen := bytesOf_length s
  have HRD := Aside0.mk hrd
  have HBL := Aside0.mk hbl
  have HLN := Aside0.mk hlen
  clear hrd hbl hlen
  go_enter Try.func86, Try.ntmps86
  go_wp2
  generalize Lib.bytesWorld w 5 s = w1 at HRD HBL ⊢
  clear kb
  go_loopg [3, 9] s.size (fun gg v3 v9 wr => ∃ k : Nat, k ≤ s.size ∧ s.size - k ≤ gg ∧ v9 = .int .i64 k ∧ v3 = .int .u64 (getN ((bytesOf s).take k)) ∧ Aside0 (wr = w1))
  case atStart => exact ⟨0, Nat.zero_le _, by omega, rfl, rfl, ⟨rfl⟩⟩
  case round =>
    obtain ⟨k, hk, hg, rfl, rfl, HW⟩ := hrel
    obtain rfl := HW.out
    by_cases hlt : k < s.size
    · have q0 : (k : Int) < (s.size : Int) := by omega
      obtain ⟨ad, e0, hx0⟩ := HRD.out.at_ (k : Int) (by omega) q0
      cases e0
      rw [Int.toNat_natCast, add_plain] at hx0
      have hkl : k < (bytesOf s).length := by rw [HLN.out]; exact hlt
      have hrdk : rd (bytesOf s) (k : Int) = (bytesOf s)[k] := by simp [rd, List.getD_eq_getElem?_getD, List.getElem?_eq_getElem hkl]
      rw [hrdk] at hx0
      have hr1 := bytesOf_range s _ (List.getElem_mem hkl)
      have hn1 := getN_take (bytesOf s) (bytesOf_range s) k (by omega)
      have hpow : (256 : Int) ^ k ≤ 72057594037927936 := by
        have : k ≤ 7 := by omega
        have h8 : 256 ^ k ≤ 256 ^ 7 := Nat.pow_le_pow_right (by omega) this
        have e7 : (256 : Nat) ^ 7 = 72057594037927936 := by decide
        have e : (256 : Int) ^ k = ((256 ^ k : Nat) : Int) := by simp
        rw [e]
        omega
      have hn2 : getN ((bytesOf s).take k) < 72057594037927936 := by omega
      have hn0 := hn1.1
      clear hpow hn1
      have hor := or_u64 (getN ((bytesOf s).take k)) ((bytesOf s)[k]) hn0 hn2 hr1.1 hr1.2
      have HSN : Aside0 (getN ((bytesOf s).take (k + 1)) = getN ((bytesOf s).take k) * 256 + (bytesOf s)[k]) := ⟨by rw [List.take_succ_eq_append_getElem hkl, getN_snoc]⟩
      have hr10 := hr1.1
      have hr11 := hr1.2
      clear hr1 hrdk
      generalize (bytesOf s)[k] = b at hx0 hor HSN hr10 hr11
      generalize getN ((bytesOf s).take k) = n at hor HSN hn0 hn2 ⊢
      go_wp2
      go_roundg (s.size - (k + 1))
      case measure => omega
      case rel => exact ⟨k + 1, by omega, by omega, by go_num, by rw [HSN.out], ⟨rfl⟩⟩
    · have hltz : ¬ (k : Int) < (s.size : Int) := by omega
      have HT : Aside0 (getN ((bytesOf s).take k) = getN (bytesOf s)) := ⟨by rw [List.take_of_length_le (by rw [HLN.out]; omega)]⟩
      go_wp2
      go_ret
      exact ⟨by rw [← HT.out]; rfl, HBL.out⟩
end Go.Proofs.Ytfjmnaobfbmllaa.M
namespace Go.Proofs.Ytfjmnaobfbmllaa.M
open Go.RowKit Go.Proofs.YtfjmnaobfbmllaaW.PrintWords Go.Proofs.YtfjmnaobfbmllaaW.PrintLast Go.Proofs.YtfjmnaobfbmllaaW.PrintMore
set_option linter.unusedVariables false
set_option linter.unusedSimpArgs false
theorem bt_get (s : ByteArray) (i : Nat) (h : i < s.size) : bt s i = (bytesOf s)[i]'(by rw [bytesOf_length]; exact h) := by
  rw [← rd_bytesOf]
  unfold rd
  rw [Int.toNat_natCast, List.getD_eq_getElem?_getD, List.getElem?_eq_getElem (by rw [bytesOf_length]; exact h)]
  rfl
theorem str_bytes (s : ByteArray) : strOfNums (bytesOf s) = s := by
  cases s with
  | mk d =>
    unfold strOfNums bytesOf
    congr 1
    apply Array.toList_inj.mp
    simp only [List.map_map, List.toList_toArray]
    conv => rhs; rw [← List.map_id d.toList]
    apply List.map_congr_left
    intro x _
    simp
theorem bytes_inj {s t : ByteArray} (h : bytesOf s = bytesOf t) : s = t := by rw [← str_bytes s, h, str_bytes]
theorem bytes_extract (s : ByteArray) (i j : Nat) : bytesOf (s.extract i j) = ((bytesOf s).drop i).take (j - i) := by
  unfold bytesOf
  simp [ByteArray.data_extract, Array.toList_extract, List.map_drop, List.map_take, List.extract]
theorem bytes_drop (s : ByteArray) (i : Nat) : bytesOf (s.extract i s.size) = (bytesOf s).drop i := by
  rw [bytes_extract, List.take_of_length_le (by rw [List.length_drop, bytesOf_length]; omega)]
theorem drop_step (s : ByteArray) (i : Nat) (h : i < s.size) : (bytesOf s).drop i = bt s i :: (bytesOf s).drop (i + 1) := by
  rw [List.drop_eq_getElem_cons (by rw [bytesOf_length]; exact h), bt_get s i h]
end Go.Proofs.Ytfjmnaobfbmllaa.M
namespace Go.Proofs.Ytfjmnaobfbmllaa.M
open Go.RowKit Go.Proofs.YtfjmnaobfbmllaaW.PrintWords Go.Proofs.YtfjmnaobfbmllaaW.PrintLast Go.Proofs.YtfjmnaobfbmllaaW.PrintMore
set_option linter.unusedVariables false
set_option linter.unusedSimpArgs false
def varF : Nat → Nat → List Int
  | 0, u => [(u : Int)]
  | k + 1, u => if u < 128 then [(u : Int)] else ((u % 128 + 128 : Nat) : Int) :: varF k (u / 128)
def foldI (n : Int) : Nat := if n < 0 then 2 * (-(n + 1)).toNat + 1 else 2 * n.toNat
def unfoldI (u : Nat) : Int := if u % 2 = 1 then -((u / 2 : Nat) : Int) - 1 else ((u / 2 : Nat) : Int)
def intB (n : Int) : List Int := varF 10 (foldI n)
theorem fold_unfold (u : Nat) : foldI (unfoldI u) = u := by
  unfold unfoldI foldI
  split <;> split <;> omega
def takeV : Nat → Nat → List Int → Option (Nat × List Int)
  | _, _, [] => none
  | i, u, b :: bs => if 10 ≤ i then none else if b < 128 then (if (i = 9 ∧ 1 < b) ∨ (0 < i ∧ b = 0) then none else some (u + b.toNat * 2 ^ (7 * i), bs))
      else if i = 9 then none else takeV (i + 1) (u + (b - 128).toNat * 2 ^ (7 * i)) bs
theorem varF_range (k : Nat) : ∀ u, u < 128 * 128 ^ k → ∀ b ∈ varF k u, 0 ≤ b ∧ b ≤ 255 := by
  induction k with
  | zero =>
    intro u h b hb
    simp only [varF, List.mem_singleton] at hb
    subst hb; simp at h; omega
  | succ k ih =>
    intro u h b hb
    unfold varF at hb
    split at hb
    · rw [List.mem_singleton] at hb; subst hb; omega
    · rw [List.mem_cons] at hb
      rcases hb with rfl | hb
      · omega
      · exact ih (u / 128) (by rw [Nat.pow_succ] at h; omega) b hb
theorem varF_len (k u : Nat) : 1 ≤ (varF k u).length ∧ (varF k u).length ≤ k + 1 := by
  induction k generalizing u with
  | zero => simp [varF]
  | succ k ih =>
    unfold varF
    split
    · simp
    · have := ih (u / 128); simp; omega
theorem pow7 (i : Nat) : 2 ^ (7 * (i + 1)) = 128 * 2 ^ (7 * i) := by
  rw [show 7 * (i + 1) = 7 + 7 * i by omega, Nat.pow_add]
theorem take_sound (bs : List Int) (hr : ∀ b ∈ bs, 0 ≤ b ∧ b ≤ 255) : ∀ (i u w : Nat) (rest : List Int), takeV i u bs = some (w, rest) →
    ∃ v, bs = varF (9 - i) v ++ rest ∧ w = u + v * 2 ^ (7 * i) ∧ (i ≤ 9 ∧ (0 < i → 0 < v) ∧ v * 2 ^ (7 * i) < 2 ^ 64) := by
  induction bs with
  | nil => intro i u w rest h; cases h
  | cons b bs ih =>
    intro i u w rest h
    have hb := hr b (by simp)
    simp only [takeV] at h
    by_cases h10 : 10 ≤ i
    · rw [if_pos h10] at h; cases h
    rw [if_neg h10] at h
    have hp : 2 ^ (7 * i) ≤ 2 ^ (7 * 9) := Nat.pow_le_pow_right (by decide) (by omega)
    by_cases h128 : b < 128
    · rw [if_pos h128] at h
      by_cases hc : (i = 9 ∧ 1 < b) ∨ (0 < i ∧ b = 0)
      · rw [if_pos hc] at h; cases h
      · rw [if_neg hc, Option.some.injEq, Prod.mk.injEq] at h
        obtain ⟨rfl, rfl⟩ := h
        refine ⟨b.toNat, ?_, rfl, by omega, fun hi => by omega, ?_⟩
        · have e : varF (9 - i) b.toNat = [b] := by
            cases h9 : 9 - i with
            | zero => simp only [varF]; congr 1; omega
            | succ k => unfold varF; rw [if_pos (by omega)]; congr 1; omega
          rw [e]; rfl
        · by_cases h9 : i = 9
          · subst h9
            have : b.toNat ≤ 1 := by omega
            have h3 := Nat.mul_le_mul_right (2 ^ (7 * 9)) this
            have e : (2 : Nat) ^ 64 = 2 * 2 ^ (7 * 9) := by decide
            have := Nat.two_pow_pos (7 * 9)
            omega
          · have hp2 : 2 ^ (7 * i) ≤ 2 ^ (7 * 8) := Nat.pow_le_pow_right (by decide) (by omega)
            have h3 := Nat.mul_le_mul (show b.toNat ≤ 127 by omega) hp2
            have e : (2 : Nat) ^ 64 = 256 * 2 ^ (7 * 8) := by decide
            have := Nat.two_pow_pos (7 * 8)
            omega
    · rw [if_neg h128] at h
      by_cases h9 : i = 9
      · rw [if_pos h9] at h; cases h
      rw [if_neg h9] at h
      obtain ⟨v, e1, e2, e3, e4, e5⟩ := ih (fun b hb => hr b (by simp [hb])) (i + 1) _ w rest h
      have hv := e4 (by omega)
      refine ⟨(b - 128).toNat + 128 * v, ?_, ?_, by omega, fun _ => by omega, ?_⟩
      · have e : 9 - i = (9 - (i + 1)) + 1 := by omega
        rw [e]
        unfold varF
        rw [if_neg (by omega), show ((b - 128).toNat + 128 * v) / 128 = v by omega, show ((((b - 128).toNat + 128 * v) % 128 + 128 : Nat) : Int) = b by omega, e1]
        rfl
      · rw [e2, pow7, Nat.add_mul, Nat.add_assoc, ← Nat.mul_assoc, Nat.mul_comm v 128]
      · rw [pow7] at e5
        have h1 : (b - 128).toNat + 128 * v < 128 * (v + 1) := by omega
        have e : (2 : Nat) ^ 64 = 128 * 2 ^ (7 * i) * 2 ^ (57 - 7 * i) := by
          rw [show 128 * 2 ^ (7 * i) = 2 ^ (7 + 7 * i) by rw [Nat.pow_add], ← Nat.pow_add, show 7 + 7 * i + (57 - 7 * i) = 64 by omega]
        have h2 : v < 2 ^ (57 - 7 * i) := by
          rw [e, Nat.mul_comm] at e5
          exact Nat.lt_of_mul_lt_mul_left e5
        have h3 : ((b - 128).toNat + 128 * v) * 2 ^ (7 * i) < (128 * (v + 1)) * 2 ^ (7 * i) := Nat.mul_lt_mul_of_pos_right h1 (Nat.two_pow_pos _)
        refine Nat.lt_of_lt_of_le h3 ?_
        rw [e, Nat.mul_assoc, Nat.mul_comm (v + 1), ← Nat.mul_assoc]
        exact Nat.mul_le_mul_left _ h2
end Go.Proofs.Ytfjmnaobfbmllaa.M
namespace Go.Proofs.Ytfjmnaobfbmllaa.M
open Go.RowKit Go.Proofs.YtfjmnaobfbmllaaW.PrintWords Go.Proofs.YtfjmnaobfbmllaaW.PrintLast Go.Proofs.YtfjmnaobfbmllaaW.PrintMore
attribute [local go_sem] max2_int min2_int max_two min_two max_three min_three max_four min_four   -- for this text's walks alone
set_option linter.unusedVariables false
set_option linter.unusedSimpArgs false
def nib_Int.l0 : Nat → Int → List Int → Option (ByteArray)
 | 0, _, _ => none
 | k + 1, x3, x4 => if x3 ≥ 128 then (if x4.length < 140737488355328 then (nib_Int.l0 k (x3 / 128) (x4 ++ [Go.bits .or .u8 ((x3) % 256) 128])) else (none)) else (if x4.length < 140737488355328 then (some (strOfNums (x4 ++ [(x3) % 256]))) else (none))
def nib_Int.f (k : Nat) (a0 : Int) : Option (ByteArray) := nib_Int.l0 k (Go.bits .xor .u64 (IntKind.u64.wrap ((IntKind.u64.wrap (a0)) * 2)) (IntKind.u64.wrap (a0 / 9223372036854775808))) ([] : List Int)
set_option maxHeartbeats 8000000 in
set_option maxRecDepth 100000 in
theorem nib_Int.calls (k : Nat) (a0 : Int) (r : ByteArray) (w : World) (h : nib_Int.f k a0 = some r) :
  Calls Try.prog 98 #[.int .i64 a0] w fun e w' => e = .returned (.string r) ∧ Below w.heap.size w w' := by
 have HB := Aside0.mk (Below.refl w.heap.size w)
 have H : (nib_Int.l0 k (Go.bits .xor .u64 (IntKind.u64.wrap ((IntKind.u64.wrap (a0)) * 2)) (IntKind.u64.wrap (a0 / 9223372036854775808))) ([] : List Int)) = some r := h
 clear h
 have H' := Aside0.mk H
 clear H
 go_enter Try.func98, Try.ntmps98
 go_wp2
 go_loopg [3, 4] k (fun kq v3 v4 w' => ∃ (x3_1 : Int) (x4_1 : List Int), v3 = .int .u64 x3_1 ∧ Aside0 (nib_Int.l0 kq x3_1 x4_1 = some r) ∧ Aside0 (kq ≤ k) ∧ Aside0 (Kd.R (Kd.int .u8) 5 w' w.heap.size (fun _ => True) v4 x4_1) ∧ Aside0 (Below w.heap.size w w'))
 case atStart => exact ⟨(Go.bits .xor .u64 (IntKind.u64.wrap ((IntKind.u64.wrap (a0)) * 2)) (IntKind.u64.wrap (a0 / 9223372036854775808))), (([] : List Int)), (by first | rfl | (simp; done) | (simp [*]; done)), H', ⟨Nat.le_refl _⟩, ⟨by first | exact Kd.R_nil _ _ _ _ _ | exact Kd.N_nil _ _ _ _ _ | exact Kd.V_nil _ _ _ _ _ | exact Kd.Q_nil _ _ _ _ _ | exact Kd.S_nil _ _ _ _ _⟩, ⟨by repeat (first | (with_reducible first | exact HB.out | apply below_alloc | apply pw_below_drewN | apply below_drew1) | exact HB.out)⟩⟩
 case round =>
  clear H'
  obtain ⟨x3_1, x4_1, rfl, HA, HK1, HO_4, HB⟩ := hrel
  cases gk with
  | zero => exact absurd HA.out (by simp [nib_Int.l0])
  | succ k1 =>
   have H := HA.out
   clear HA
   simp only [nib_Int.l0] at H
   by_cases c2 : x3_1 ≥ 128
   ·rw [if_pos c2] at H
    have c2b0 : decide (128 ≤ x3_1) = true := decide_eq_true c2
    clear c2
    by_cases c3 : x4_1.length < 140737488355328
    ·rw [if_pos c3] at H
     have LMc3 := Aside0.mk c3
     clear c3
     obtain ⟨y101, hy101⟩ : ∃ y_ : List Int, y_ = (x4_1 ++ [Go.bits .or .u8 ((x3_1) % 256) 128]) := ⟨_, rfl⟩
     replace H : (nib_Int.l0 k1 (x3_1 / 128) y101) = some r := by first | (rw [hy101]; with_reducible exact H) | (have H2_ := (Option.bind_some _ _).symm.trans H; rw [hy101]; with_reducible exact H2_) | (have H2_ := (Option.bind_some _ _).symm.trans H; with_reducible exact H2_) | with_reducible exact H | (rw [hy101]; exact H) | exact H
     have Ny101 := Aside0.mk hy101
     clear hy101
     have H' := Aside0.mk H
     clear H
     go_wp2_with (first | ((with_reducible refine gate_builtin (b := .append) (xs := #[.tmp 16, .tmp 20]) rfl ?_); at_builtin; refine Kd.R_append (Kd.int .u8) (w0 := w) w.heap.size rfl (.tmp 16) (.tmp 20) 36 5 (.int .u8 0) 1 rfl Try.underlying36 info5 rfl (by decide) (by omega) u4 x4_1 (Go.bits .or .u8 ((x3_1) % 256) 128) [.int .u8 (Go.bits .or .u8 ((x3_1) % 256) 128)] (fun _ => True) (fun _ => False) rfl rfl ?aP (fun _ hk => hk.elim) ?aF ?aO ?aB ?aS ?aL ?_; (case aP => exact rfl); (case aB => exact (by repeat (first | (with_reducible first | exact HB.out | apply below_alloc | apply pw_below_drewN | apply below_drew1) | exact HB.out))); (case aF => exact (fun _ _ => trivial)); (case aO => exact (by (with_reducible repeat (first | apply Kd.R_alloc | apply Kd.R_drewN | apply Kd.R_drew)); exact HO_4.out)); (case aS => exact below_size HB.out); (case aL => have := LMc3.out; omega); intro v102 w4 ho hb hg hat; rw [← Ny101.out] at ho; have n0_ := Aside0.mk (hb); have n1_ := Aside0.mk (ho); clear HB; clear HO_4; have HB := n0_; have HO103 := n1_; clear n0_ n1_; clear ho hb hg hat))
     go_roundg k1
     case measure => have := HK1.out; omega
     case rel => exact ⟨(x3_1 / 128), (y101), (by first | rfl | (simp; done) | (simp [*]; done)), H', ⟨by have := HK1.out; omega⟩, ⟨by (with_reducible repeat (first | apply Kd.R_alloc | apply Kd.R_drewN | apply Kd.R_drew)); exact HO103.out⟩, ⟨by repeat (first | (with_reducible first | exact HB.out | apply below_alloc | apply pw_below_drewN | apply below_drew1) | exact HB.out)⟩⟩
    ·rw [if_neg c3] at H
     exact absurd H (by simp)
   ·rw [if_neg c2] at H
    have c2b0 : decide (128 ≤ x3_1) = false := decide_eq_false c2
    clear c2
    by_cases c5 : x4_1.length < 140737488355328
    ·rw [if_pos c5] at H
     have LMc5 := Aside0.mk c5
     clear c5
     obtain ⟨y104, hy104⟩ : ∃ y_ : List Int, y_ = (x4_1 ++ [(x3_1) % 256]) := ⟨_, rfl⟩
     replace H : (some (strOfNums y104)) = some r := by first | (rw [hy104]; with_reducible exact H) | (have H2_ := (Option.bind_some _ _).symm.trans H; rw [hy104]; with_reducible exact H2_) | (have H2_ := (Option.bind_some _ _).symm.trans H; with_reducible exact H2_) | with_reducible exact H | (rw [hy104]; exact H) | exact H
     have Ny104 := Aside0.mk hy104
     clear hy104
     obtain rfl := Option.some.inj H
     go_wp2_with (first | ((with_reducible refine gate_builtin (b := .append) (xs := #[.tmp 22, .tmp 25]) rfl ?_); at_builtin; refine Kd.R_append (Kd.int .u8) (w0 := w) w.heap.size rfl (.tmp 22) (.tmp 25) 36 5 (.int .u8 0) 1 rfl Try.underlying36 info5 rfl (by decide) (by omega) u4 x4_1 ((x3_1) % 256) [.int .u8 ((x3_1) % 256)] (fun _ => True) (fun _ => False) rfl rfl ?aP (fun _ hk => hk.elim) ?aF ?aO ?aB ?aS ?aL ?_; (case aP => exact rfl); (case aB => exact (by repeat (first | (with_reducible first | exact HB.out | apply below_alloc | apply pw_below_drewN | apply below_drew1) | exact HB.out))); (case aF => exact (fun _ _ => trivial)); (case aO => exact (by (with_reducible repeat (first | apply Kd.R_alloc | apply Kd.R_drewN | apply Kd.R_drew)); exact HO_4.out)); (case aS => exact below_size HB.out); (case aL => have := LMc5.out; omega); intro v105 w6 ho hb hg hat; rw [← Ny104.out] at ho; have n0_ := Aside0.mk (hb); have n1_ := Aside0.mk (ho); clear HB; clear HO_4; have HB := n0_; have HO106 := n1_; clear n0_ n1_; clear ho hb hg hat; have hcv7 := own_string (P := Try.prog) Try.underlying36 Try.underlying5 Try.underlying9 (Kd.own_of_R HO106.out)))
     go_ret
     exact ⟨by first | rfl | (simp [errW_none, errW_some] <;> rfl) | (simp [*, errW_none, errW_some] <;> rfl), by repeat (first | (with_reducible first | exact HB.out | apply below_alloc | apply pw_below_drewN | apply below_drew1) | exact HB.out)⟩
    ·rw [if_neg c5] at H
     exact absurd H (by simp)
end Go.Proofs.Ytfjmnaobfbmllaa.M
namespace Go.Proofs.Ytfjmnaobfbmllaa.M
open Go.RowKit Go.Proofs.YtfjmnaobfbmllaaW.PrintWords Go.Proofs.YtfjmnaobfbmllaaW.PrintLast Go.Proofs.YtfjmnaobfbmllaaW.PrintMore
attribute [local go_sem] max2_int min2_int max_two min_two max_three min_three max_four min_four   -- for this text's walks alone
set_option linter.unusedVariables false
set_option linter.unusedSimpArgs false
mutual
def nib_TakeInt.l0 : Nat → ByteArray → Int → Int → Int → Option (Int × ByteArray × Bool)
 | 0, _, _, _, _ => none
 | k + 1, x0, x5, x10, x11 => if x11 < x10 then (if 0 ≤ x11 then (if x11 < (x0.size : Int) then (if 0 ≤ (wrap64 (7 * x11)) then (if x11 = 9 then (if (bt x0 x11) > 1 then (nib_TakeInt.j1 k x0 (Go.bits .or .u64 x5 (shl .u64 (IntKind.u64.wrap (Go.bits .andNot .u8 (bt x0 x11) 128)) (wrap64 (7 * x11)))) x11 (bt x0 x11) x10 x11 true) else (if x11 > 0 then (nib_TakeInt.j1 k x0 (Go.bits .or .u64 x5 (shl .u64 (IntKind.u64.wrap (Go.bits .andNot .u8 (bt x0 x11) 128)) (wrap64 (7 * x11)))) x11 (bt x0 x11) x10 x11 ((bt x0 x11) == 0)) else (nib_TakeInt.j1 k x0 (Go.bits .or .u64 x5 (shl .u64 (IntKind.u64.wrap (Go.bits .andNot .u8 (bt x0 x11) 128)) (wrap64 (7 * x11)))) x11 (bt x0 x11) x10 x11 false))) else (if x11 > 0 then (nib_TakeInt.j1 k x0 (Go.bits .or .u64 x5 (shl .u64 (IntKind.u64.wrap (Go.bits .andNot .u8 (bt x0 x11) 128)) (wrap64 (7 * x11)))) x11 (bt x0 x11) x10 x11 ((bt x0 x11) == 0)) else (nib_TakeInt.j1 k x0 (Go.bits .or .u64 x5 (shl .u64 (IntKind.u64.wrap (Go.bits .andNot .u8 (bt x0 x11) 128)) (wrap64 (7 * x11)))) x11 (bt x0 x11) x10 x11 false))) else (none)) else (none)) else (none)) else (some (0, (⟨#[]⟩ : ByteArray), false))
def nib_TakeInt.j1 : Nat → ByteArray → Int → Int → Int → Int → Int → Bool → Option (Int × ByteArray × Bool)
 | 0, _, _, _, _, _, _, _ => none
 | k + 1, x0, x5, x6, x7, x10, x11, x25 => if x25 = true then (some (0, (⟨#[]⟩ : ByteArray), false)) else (if x7 < 128 then (if 0 ≤ (wrap64 (x6 + 1)) then (if (wrap64 (x6 + 1)) ≤ (x0.size : Int) then (some (Go.bits .xor .i64 (wrap64 (x5 / 2)) (wrap64 (-(wrap64 (Go.bits .and .u64 x5 1)))), x0.extract ((wrap64 (x6 + 1)) : Int).toNat x0.size, true)) else (none)) else (none)) else (nib_TakeInt.l0 k x0 x5 x10 (wrap64 (x11 + 1))))
end
def nib_TakeInt.f (k : Nat) (a0 : ByteArray) : Option (Int × ByteArray × Bool) := nib_TakeInt.l0 k a0 0 (mn (a0.size : Int) 10) 0
set_option maxHeartbeats 8000000 in
set_option maxRecDepth 100000 in
theorem nib_TakeInt.calls (k : Nat) (a0 : ByteArray) (r1 : Int) (r2 : ByteArray) (r3 : Bool) (w : World) (h : nib_TakeInt.f k a0 = some (r1, r2, r3)) :
  Calls Try.prog 120 #[.string a0] w fun e w' => e = .returned (.tuple #[.int .i64 r1, .string r2, .bool r3]) ∧ Below w.heap.size w w' := by
 have HB := Aside0.mk (Below.refl w.heap.size w)
 have H : (nib_TakeInt.l0 k a0 0 (mn (a0.size : Int) 10) 0) = some (r1, r2, r3) := h
 clear h
 obtain ⟨ji2, hji2⟩ : ∃ j_ : Int, (mn (a0.size : Int) 10) = j_ := ⟨_, rfl⟩
 replace H : (nib_TakeInt.l0 k a0 0 ji2 0) = some (r1, r2, r3) := by first | (rw [hji2] at H; exact H) | (simp only [hji2] at H ⊢; exact H)
 (try (have hji2h : ji2 ≤ 10 := by (rw [← hji2]; unfold mn; (repeat' split) <;> omega)))
 (try (have hji2g : ji2 ≤ 64 := by omega))
 (try (have hji2l : 0 ≤ ji2 := by (rw [← hji2]; unfold mn; (repeat' split) <;> omega)))
 (try (have hji2m : 0 ≤ ji2 := by omega))
 have hji2_ : (if 10 < (a0.size : Int) then 10 else (a0.size : Int)) = ji2 := hji2
 have H' := Aside0.mk H
 clear H
 go_enter Try.func120, Try.ntmps120
 go_wp2
 repeat (go_quiet (fail); try go_wp2)
 go_loopg [5, 11] k (fun kq v5 v11 w' => ∃ (x5_1 : Int) (x11_1 : Int), v5 = .int .u64 x5_1 ∧ v11 = .int .i64 x11_1 ∧ Aside0 (nib_TakeInt.l0 kq a0 x5_1 ji2 x11_1 = some (r1, r2, r3)) ∧ Aside0 (kq ≤ k) ∧ Aside0 (Below w.heap.size w w'))
 case atStart => exact ⟨(0), (0), (by first | rfl | (simp; done) | (simp [*]; done)), (by first | rfl | (simp; done) | (simp [*]; done)), H', ⟨Nat.le_refl _⟩, ⟨by repeat (first | (with_reducible first | exact HB.out | apply below_alloc | apply pw_below_drewN | apply below_drew1) | exact HB.out)⟩⟩
 case round =>
  clear H'
  try clear c1
  try clear p2
  obtain ⟨x5_1, x11_1, rfl, rfl, HA, HK1, HB⟩ := hrel
  cases gk with
  | zero => exact absurd HA.out (by simp [nib_TakeInt.l0])
  | succ k1 =>
   have H := HA.out
   clear HA
   simp only [nib_TakeInt.l0] at H
   by_cases c3 : x11_1 < ji2
   ·rw [if_pos c3] at H
    have c3b0 : decide (x11_1 < ji2) = true := decide_eq_true c3
    clear c3
    by_cases c4 : 0 ≤ x11_1
    ·rw [if_pos c4] at H
     have c4b0 : decide (0 ≤ x11_1) = true := decide_eq_true c4
     clear c4
     by_cases c5 : x11_1 < (a0.size : Int)
     ·rw [if_pos c5] at H
      have c5b0 : decide (x11_1 < (a0.size : Int)) = true := decide_eq_true c5
      clear c5
      obtain ⟨ji7, hji7⟩ : ∃ j_ : Int, (wrap64 (7 * x11_1)) = j_ := ⟨_, rfl⟩
      replace H : (if 0 ≤ (ji7) then (if x11_1 = 9 then (if (bt a0 x11_1) > 1 then (nib_TakeInt.j1 k1 a0 (Go.bits .or .u64 x5_1 (shl .u64 (IntKind.u64.wrap (Go.bits .andNot .u8 (bt a0 x11_1) 128)) (ji7))) x11_1 (bt a0 x11_1) ji2 x11_1 true) else (if x11_1 > 0 then (nib_TakeInt.j1 k1 a0 (Go.bits .or .u64 x5_1 (shl .u64 (IntKind.u64.wrap (Go.bits .andNot .u8 (bt a0 x11_1) 128)) (ji7))) x11_1 (bt a0 x11_1) ji2 x11_1 ((bt a0 x11_1) == 0)) else (nib_TakeInt.j1 k1 a0 (Go.bits .or .u64 x5_1 (shl .u64 (IntKind.u64.wrap (Go.bits .andNot .u8 (bt a0 x11_1) 128)) (ji7))) x11_1 (bt a0 x11_1) ji2 x11_1 false))) else (if x11_1 > 0 then (nib_TakeInt.j1 k1 a0 (Go.bits .or .u64 x5_1 (shl .u64 (IntKind.u64.wrap (Go.bits .andNot .u8 (bt a0 x11_1) 128)) (ji7))) x11_1 (bt a0 x11_1) ji2 x11_1 ((bt a0 x11_1) == 0)) else (nib_TakeInt.j1 k1 a0 (Go.bits .or .u64 x5_1 (shl .u64 (IntKind.u64.wrap (Go.bits .andNot .u8 (bt a0 x11_1) 128)) (ji7))) x11_1 (bt a0 x11_1) ji2 x11_1 false))) else (none)) = some (r1, r2, r3) := by first | (rw [hji7] at H; exact H) | (simp only [hji7] at H ⊢; exact H)
      have hji7w : (IntKind.i64.wrap (7 * x11_1)) = ji7 := (i64_w _).trans hji7
      by_cases c8 : 0 ≤ (ji7)
      ·rw [if_pos c8] at H
       have c8b0 := eq_true c8
       have c8b1 : decide (0 ≤ (ji7)) = true := decide_eq_true c8
       clear c8
       obtain ⟨ji9, hji9⟩ : ∃ j_ : Int, (shl .u64 (IntKind.u64.wrap (Go.bits .andNot .u8 (bt a0 x11_1) 128)) (ji7)) = j_ := ⟨_, rfl⟩
       replace H : (if x11_1 = 9 then (if (bt a0 x11_1) > 1 then (nib_TakeInt.j1 k1 a0 (Go.bits .or .u64 x5_1 (ji9)) x11_1 (bt a0 x11_1) ji2 x11_1 true) else (if x11_1 > 0 then (nib_TakeInt.j1 k1 a0 (Go.bits .or .u64 x5_1 (ji9)) x11_1 (bt a0 x11_1) ji2 x11_1 ((bt a0 x11_1) == 0)) else (nib_TakeInt.j1 k1 a0 (Go.bits .or .u64 x5_1 (ji9)) x11_1 (bt a0 x11_1) ji2 x11_1 false))) else (if x11_1 > 0 then (nib_TakeInt.j1 k1 a0 (Go.bits .or .u64 x5_1 (ji9)) x11_1 (bt a0 x11_1) ji2 x11_1 ((bt a0 x11_1) == 0)) else (nib_TakeInt.j1 k1 a0 (Go.bits .or .u64 x5_1 (ji9)) x11_1 (bt a0 x11_1) ji2 x11_1 false))) = some (r1, r2, r3) := by first | (rw [hji9] at H; exact H) | (simp only [hji9] at H ⊢; exact H)
       have hji9_ : (IntKind.u64.wrap ((IntKind.u64.wrap (Go.bits .andNot .u8 (bt a0 x11_1) 128)) * 2 ^ min (ji7).toNat 64)) = ji9 := hji9
       have hji9z : (ji7) ≤ 64 → (IntKind.u64.wrap ((IntKind.u64.wrap (Go.bits .andNot .u8 (bt a0 x11_1) 128)) * 2 ^ (ji7).toNat)) = ji9 := shl_small hji9
       have HC10 := Aside0.mk H
       clear H
       have p6 : 0 ≤ (x11_1 : Int) := of_decide_eq_true (by first | (with_reducible assumption) | assumption)
       have q6 : x11_1 < (a0.size : Int) := of_decide_eq_true (by first | (with_reducible assumption) | assumption)
       have hx6 := bt_at a0 x11_1
       replace p6 := eq_true p6
       replace q6 := eq_true q6
       go_upto_region 7 with (fail)
       repeat (go_quiet (fail); go_upto_region 7 with (fail))
       go_cut [25] (fun v25 wc => ∃ (kq : Nat) (x25_9 : Bool), v25 = .bool x25_9 ∧ Aside0 (nib_TakeInt.j1 kq a0 (Go.bits .or .u64 x5_1 (ji9)) x11_1 (bt a0 x11_1) ji2 x11_1 x25_9 = some (r1, r2, r3)) ∧ Aside0 (kq ≤ k1) ∧ Aside0 (Below w.heap.size w wc))
       case first =>
        have H := HC10.out
        clear HC10
        by_cases c11 : x11_1 = 9
        ·rw [if_pos c11] at H
         have c11b0 : (x11_1 == 9) = true := beq_iff_eq.mpr c11
         have c11b1 : (x11_1 != 9) = false := bne_eq_false_iff_eq.mpr c11
         clear c11
         (first | rw [c11b0] | (simp only [i64_w, i32_w]; rw [c11b0]) | skip)
         by_cases c12 : (bt a0 x11_1) > 1
         ·rw [if_pos c12] at H
          have c12b0 : decide (1 < (bt a0 x11_1)) = true := decide_eq_true c12
          clear c12
          have H' := Aside0.mk H
          clear H
          go_wp2
          repeat (go_quiet (fail); try go_wp2)
          go_meet
          case rel => exact ⟨_, (true), (by first | rfl | (simp; done) | (simp [*]; done)), H', ⟨by have := HK1.out; first | omega | exact Nat.le_refl _⟩, ⟨by repeat (first | (with_reducible first | exact HB.out | apply below_alloc | apply pw_below_drewN | apply below_drew1) | exact HB.out)⟩⟩
         ·rw [if_neg c12] at H
          have c12b0 : decide (1 < (bt a0 x11_1)) = false := decide_eq_false c12
          clear c12
          by_cases c13 : x11_1 > 0
          ·rw [if_pos c13] at H
           have c13b0 : decide (0 < x11_1) = true := decide_eq_true c13
           clear c13
           have H' := Aside0.mk H
           clear H
           go_wp2
           repeat (go_quiet (fail); try go_wp2)
           go_meet
           case rel => exact ⟨_, (((bt a0 x11_1) == 0)), (by first | rfl | (simp; done) | (simp [*]; done)), H', ⟨by have := HK1.out; first | omega | exact Nat.le_refl _⟩, ⟨by repeat (first | (with_reducible first | exact HB.out | apply below_alloc | apply pw_below_drewN | apply below_drew1) | exact HB.out)⟩⟩
          ·rw [if_neg c13] at H
           have c13b0 : decide (0 < x11_1) = false := decide_eq_false c13
           clear c13
           have H' := Aside0.mk H
           clear H
           go_wp2
           repeat (go_quiet (fail); try go_wp2)
           go_meet
           case rel => exact ⟨_, (false), (by first | rfl | (simp; done) | (simp [*]; done)), H', ⟨by have := HK1.out; first | omega | exact Nat.le_refl _⟩, ⟨by repeat (first | (with_reducible first | exact HB.out | apply below_alloc | apply pw_below_drewN | apply below_drew1) | exact HB.out)⟩⟩
        ·rw [if_neg c11] at H
         have c11b0 : (x11_1 == 9) = false := beq_eq_false_iff_ne.mpr c11
         have c11b1 : (x11_1 != 9) = true := bne_iff_ne.mpr c11
         (first | rw [c11b0] | (simp only [i64_w, i32_w]; rw [c11b0]) | skip)
         by_cases c14 : x11_1 > 0
         ·rw [if_pos c14] at H
          have c14b0 : decide (0 < x11_1) = true := decide_eq_true c14
          clear c14
          have H' := Aside0.mk H
          clear H
          go_wp2
          repeat (go_quiet (fail); try go_wp2)
          go_meet
          case rel => exact ⟨_, (((bt a0 x11_1) == 0)), (by first | rfl | (simp; done) | (simp [*]; done)), H', ⟨by have := HK1.out; first | omega | exact Nat.le_refl _⟩, ⟨by repeat (first | (with_reducible first | exact HB.out | apply below_alloc | apply pw_below_drewN | apply below_drew1) | exact HB.out)⟩⟩
         ·rw [if_neg c14] at H
          have c14b0 : decide (0 < x11_1) = false := decide_eq_false c14
          clear c14
          have H' := Aside0.mk H
          clear H
          go_wp2
          repeat (go_quiet (fail); try go_wp2)
          go_meet
          case rel => exact ⟨_, (false), (by first | rfl | (simp; done) | (simp [*]; done)), H', ⟨by have := HK1.out; first | omega | exact Nat.le_refl _⟩, ⟨by repeat (first | (with_reducible first | exact HB.out | apply below_alloc | apply pw_below_drewN | apply below_drew1) | exact HB.out)⟩⟩
       case rest =>
        clear HC10
        try clear c1
        try clear p2
        try clear c3
        try clear c3b0
        try clear c4
        try clear c4b0
        try clear c5
        try clear c5b0
        try clear p6
        try clear q6
        try clear hx6
        try clear c8
        try clear c8b0
        try clear c8b1
        try clear c11
        try clear c11b0
        try clear c11b1
        try clear c12
        try clear c12b0
        try clear c13
        try clear c13b0
        try clear c14
        try clear c14b0
        try clear p2
        try clear p6
        try clear q6
        obtain ⟨kq, x25_9, rfl, HA, HJ9, HB⟩ := hcut
        cases kq with
        | zero => exact absurd HA.out (by simp [nib_TakeInt.j1])
        | succ kj9 =>
         have H := HA.out
         clear HA
         simp only [nib_TakeInt.j1] at H
         by_cases c15 : x25_9 = true
         ·subst c15
          have H1 : (some (0, (⟨#[]⟩ : ByteArray), false)) = some (r1, r2, r3) := by rw [if_pos rfl] at H; exact H
          clear H
          have H := H1
          clear H1
          simp only [Option.some.injEq, Prod.mk.injEq] at H
          obtain ⟨rfl, rfl, rfl⟩ := H
          go_wp2
          repeat (go_quiet (fail); try go_wp2)
          go_ret3
          exact ⟨by first | rfl | (simp [errW_none, errW_some] <;> rfl) | (simp only [← hji2, ← hji7, ← hji9]; first | rfl | (simp [errW_none, errW_some] <;> rfl)) | (simp [*, errW_none, errW_some] <;> rfl), by repeat (first | (with_reducible first | exact HB.out | apply below_alloc | apply pw_below_drewN | apply below_drew1) | exact HB.out)⟩
         ·replace c15 := Bool.eq_false_iff.mpr c15
          subst c15
          have H1 : (if (bt a0 x11_1) < 128 then (if 0 ≤ (wrap64 (x11_1 + 1)) then (if (wrap64 (x11_1 + 1)) ≤ (a0.size : Int) then (some (Go.bits .xor .i64 (wrap64 ((Go.bits .or .u64 x5_1 (ji9)) / 2)) (wrap64 (-(wrap64 (Go.bits .and .u64 (Go.bits .or .u64 x5_1 (ji9)) 1)))), a0.extract ((wrap64 (x11_1 + 1)) : Int).toNat a0.size, true)) else (none)) else (none)) else (nib_TakeInt.l0 kj9 a0 (Go.bits .or .u64 x5_1 (ji9)) ji2 (wrap64 (x11_1 + 1)))) = some (r1, r2, r3) := by rw [if_neg (show ¬ (false = true) by decide)] at H; exact H
          clear H
          have H := H1
          clear H1
          by_cases c16 : (bt a0 x11_1) < 128
          ·rw [if_pos c16] at H
           have c16b0 : decide ((bt a0 x11_1) < 128) = true := decide_eq_true c16
           clear c16
           obtain ⟨ji17, hji17⟩ : ∃ j_ : Int, (wrap64 (x11_1 + 1)) = j_ := ⟨_, rfl⟩
           replace H : (if 0 ≤ (ji17) then (if (ji17) ≤ (a0.size : Int) then (some (Go.bits .xor .i64 (wrap64 ((Go.bits .or .u64 x5_1 (ji9)) / 2)) (wrap64 (-(wrap64 (Go.bits .and .u64 (Go.bits .or .u64 x5_1 (ji9)) 1)))), a0.extract ((ji17) : Int).toNat a0.size, true)) else (none)) else (none)) = some (r1, r2, r3) := by first | (rw [hji17] at H; exact H) | (simp only [hji17] at H ⊢; exact H)
           have hji17w : (IntKind.i64.wrap (x11_1 + 1)) = ji17 := (i64_w _).trans hji17
           by_cases c18 : 0 ≤ (ji17)
           ·rw [if_pos c18] at H
            have c18b0 := eq_true c18
            have c18b1 : decide (0 ≤ (ji17)) = true := decide_eq_true c18
            clear c18
            by_cases c19 : (ji17) ≤ (a0.size : Int)
            ·rw [if_pos c19] at H
             have c19b0 := eq_true c19
             have c19b1 : decide ((ji17) ≤ (a0.size : Int)) = true := decide_eq_true c19
             clear c19
             simp only [Option.some.injEq, Prod.mk.injEq] at H
             obtain ⟨rfl, rfl, rfl⟩ := H
             go_wp2
             repeat (go_quiet (fail); try go_wp2)
             go_ret3
             exact ⟨by first | rfl | (simp [errW_none, errW_some] <;> rfl) | (simp only [← hji2, ← hji7, ← hji9, ← hji17]; first | rfl | (simp [errW_none, errW_some] <;> rfl)) | (simp [*, errW_none, errW_some] <;> rfl), by repeat (first | (with_reducible first | exact HB.out | apply below_alloc | apply pw_below_drewN | apply below_drew1) | exact HB.out)⟩
            ·rw [if_neg c19] at H
             exact absurd H (by simp)
           ·rw [if_neg c18] at H
            exact absurd H (by simp)
          ·rw [if_neg c16] at H
           have c16b0 : decide ((bt a0 x11_1) < 128) = false := decide_eq_false c16
           clear c16
           have H' := Aside0.mk H
           clear H
           go_wp2
           repeat (go_quiet (fail); try go_wp2)
           go_roundg kj9
           case measure => have := HK1.out; have := HJ9.out; omega
           case rel => exact ⟨((Go.bits .or .u64 x5_1 (ji9))), (wrap64 (x11_1 + 1)), (by first | rfl | (simp; done) | (simp only [← hji9] <;> (first | rfl | simp)) | (simp [*]; done)), (by first | rfl | (simp; done) | (simp [*]; done)), H', ⟨by have := HK1.out; have := HJ9.out; omega⟩, ⟨by repeat (first | (with_reducible first | exact HB.out | apply below_alloc | apply pw_below_drewN | apply below_drew1) | exact HB.out)⟩⟩
      ·rw [if_neg c8] at H
       exact absurd H (by simp)
     ·rw [if_neg c5] at H
      exact absurd H (by simp)
    ·rw [if_neg c4] at H
     exact absurd H (by simp)
   ·rw [if_neg c3] at H
    have c3b0 : decide (x11_1 < ji2) = false := decide_eq_false c3
    clear c3
    simp only [Option.some.injEq, Prod.mk.injEq] at H
    obtain ⟨rfl, rfl, rfl⟩ := H
    go_wp2
    repeat (go_quiet (fail); try go_wp2)
    go_ret3
    exact ⟨by first | rfl | (simp [errW_none, errW_some] <;> rfl) | (simp only [← hji2]; first | rfl | (simp [errW_none, errW_some] <;> rfl)) | (simp [*, errW_none, errW_some] <;> rfl), by repeat (first | (with_reducible first | exact HB.out | apply below_alloc | apply pw_below_drewN | apply below_drew1) | exact HB.out)⟩
end Go.Proofs.Ytfjmnaobfbmllaa.M
namespace Go.Proofs.Ytfjmnaobfbmllaa.M
open Go.RowKit Go.Proofs.YtfjmnaobfbmllaaW.PrintWords Go.Proofs.YtfjmnaobfbmllaaW.PrintLast Go.Proofs.YtfjmnaobfbmllaaW.PrintMore
set_option linter.unusedVariables false
set_option linter.unusedSimpArgs false
theorem u8_or (b : Nat) (h : b < 256) : Go.bits .or .u8 (b : Int) 128 = ((b % 128 + 128 : Nat) : Int) := by
  have : ∀ n : Fin 256, Go.bits .or .u8 (n.val : Int) 128 = ((n.val % 128 + 128 : Nat) : Int) := by decide +kernel
  exact this ⟨b, h⟩
theorem u8_clear (b : Nat) (h : b < 256) : Go.bits .andNot .u8 (b : Int) 128 = ((b % 128 : Nat) : Int) := by
  have : ∀ n : Fin 256, Go.bits .andNot .u8 (n.val : Int) 128 = ((n.val % 128 : Nat) : Int) := by decide +kernel
  exact this ⟨b, h⟩
theorem wu64 (n : Int) (h0 : 0 ≤ n) (h1 : n < 18446744073709551616) : IntKind.u64.wrap n = n := by rw [IntKind.wrap_u64]; omega
theorem nib_l0 (f : Nat) : ∀ (k u : Nat) (acc : List Int), u < 128 * 128 ^ f → f < k → acc.length + f ≤ 100 → nib_Int.l0 k u acc = some (strOfNums (acc ++ varF f u)) := by
  induction f with
  | zero =>
    intro k u acc hu hk hb
    obtain ⟨k, rfl⟩ : ∃ m, k = m + 1 := ⟨k - 1, by omega⟩
    have hu : u < 128 := by simpa using hu
    have c1 : ¬ (u : Int) ≥ 128 := by omega
    have c2 : acc.length < 140737488355328 := by omega
    simp only [nib_Int.l0, varF]
    rw [if_neg c1, if_pos c2, show (u : Int) % 256 = u by omega]
  | succ f ih =>
    intro k u acc hu hk hb
    obtain ⟨k, rfl⟩ : ∃ m, k = m + 1 := ⟨k - 1, by omega⟩
    have c2 : acc.length < 140737488355328 := by omega
    simp only [nib_Int.l0]
    unfold varF
    by_cases h : u < 128
    · have c1 : ¬ (u : Int) ≥ 128 := by omega
      rw [if_neg c1, if_pos c2, if_pos h, show (u : Int) % 256 = u by omega]
    · have c1 : (u : Int) ≥ 128 := by omega
      rw [if_pos c1, if_pos c2, if_neg h, show (u : Int) % 256 = ((u % 256 : Nat) : Int) by omega, u8_or (u % 256) (by omega), show (u : Int) / 128 = ((u / 128 : Nat) : Int) by omega,
        ih k (u / 128) _ (by rw [Nat.pow_succ] at hu; omega) (by omega) (by simp; omega), List.append_assoc, show u % 256 % 128 = u % 128 by omega]
      rfl
theorem foldI_nat (n : Nat) : foldI (n : Int) = 2 * n := by
  unfold foldI
  rw [if_neg (by omega), Int.toNat_natCast]
theorem nib_pure (n : Nat) (hn : n ≤ 4611686018427387904) (k : Nat) (hk : 11 < k) : nib_Int.f k n = some (strOfNums (intB n)) := by
  unfold nib_Int.f intB
  have e0 : (n : Int) / 9223372036854775808 = 0 := by omega
  have e1 : Go.bits .xor .u64 ((2 * n : Nat) : Int) ((0 : Nat) : Int) = ((2 * n : Nat) : Int) := by
    rw [bits_xor_u64_nat _ _ (by omega) (by omega), Nat.xor_zero]
  rw [e0, wu64 (n : Int) (by omega) (by omega), wu64 0 (by omega) (by omega), wu64 ((n : Int) * 2) (by omega) (by omega), show (n : Int) * 2 = ((2 * n : Nat) : Int) by omega,
    show (0 : Int) = ((0 : Nat) : Int) from rfl, e1, nib_l0 10 k (2 * n) [] (by
      have : (128 : Nat) ^ 10 = 1180591620717411303424 := by decide
      omega) (by omega) (by simp), foldI_nat]
  rfl
def takeR (s : ByteArray) : Int × ByteArray × Bool := match takeV 0 0 (bytesOf s) with
  | none => (0, ⟨#[]⟩, false)
  | some (u, rest) => (unfoldI u, strOfNums rest, true)
def takeX : Option (Nat × List Int) → Int × ByteArray × Bool
  | none => (0, ⟨#[]⟩, false)
  | some (u, rest) => (unfoldI u, strOfNums rest, true)
theorem takeR_eq (s : ByteArray) : takeR s = takeX (takeV 0 0 (bytesOf s)) := by
  unfold takeR takeX; rfl
theorem extract_drop (s : ByteArray) (i : Nat) : s.extract i s.size = strOfNums ((bytesOf s).drop i) := by
  rw [← bytes_drop, str_bytes]
theorem i64_xor_zero (n : Nat) (h : n < 9223372036854775808) : Go.bits .xor .i64 (n : Int) 0 = (n : Int) := by
  show IntKind.i64.wrap ((BitVec.ofInt 64 (n : Int) ^^^ BitVec.ofInt 64 0).toNat : Int) = _
  have e : BitVec.ofInt 64 0 = 0#64 := by decide
  rw [e, BitVec.xor_zero, BitVec.ofInt_natCast, BitVec.toNat_ofNat, Nat.mod_eq_of_lt (by omega), IntKind.wrap_i64]
  omega
theorem i64_xor_ones (n : Nat) (h : n < 9223372036854775808) : Go.bits .xor .i64 (n : Int) (-1) = -(n : Int) - 1 := by
  show IntKind.i64.wrap ((BitVec.ofInt 64 (n : Int) ^^^ BitVec.ofInt 64 (-1)).toNat : Int) = _
  have e : BitVec.ofInt 64 (-1) = BitVec.allOnes 64 := by decide
  rw [e, BitVec.xor_allOnes, BitVec.toNat_not, BitVec.ofInt_natCast, BitVec.toNat_ofNat, Nat.mod_eq_of_lt (by omega), IntKind.wrap_i64]
  omega
theorem nib_unfold (u : Nat) (hu : u < 18446744073709551616) : Go.bits .xor .i64 (wrap64 ((u : Int) / 2)) (wrap64 (-(wrap64 (Go.bits .and .u64 (u : Int) 1)))) = unfoldI u := by
  have e1 : Go.bits .and .u64 (u : Int) 1 = ((u % 2 : Nat) : Int) := by
    have := bits_and_u64_nat u 1 hu (by decide)
    rw [Nat.and_one_is_mod] at this
    exact this
  rw [e1, w64 ((u : Int) / 2) (by omega) (by omega), w64 ((u % 2 : Nat) : Int) (by omega) (by omega), w64 (-((u % 2 : Nat) : Int)) (by omega) (by omega), show (u : Int) / 2 = ((u / 2 : Nat) : Int) by omega]
  unfold unfoldI
  by_cases h : u % 2 = 1
  · rw [if_pos h, h]
    exact i64_xor_ones (u / 2) (by omega)
  · rw [if_neg h, show u % 2 = 0 by omega]
    exact i64_xor_zero (u / 2) (by omega)
theorem pow_le_56 (i : Nat) (h : i ≤ 8) : 2 ^ (7 * i) ≤ 72057594037927936 := by
  have := Nat.pow_le_pow_right (show 0 < 2 by decide) (show 7 * i ≤ 56 by omega)
  exact this
theorem shl_nat (m i : Nat) (hi : i ≤ 9) : shl .u64 (m : Int) ((7 * i : Nat) : Int) = IntKind.u64.wrap ((m * 2 ^ (7 * i) : Nat) : Int) := by
  unfold shl
  have e : min (((7 * i : Nat) : Int)).toNat IntKind.u64.bits = 7 * i := by
    have : IntKind.u64.bits = 64 := rfl
    rw [Int.toNat_natCast, this]; omega
  rw [e]
  simp
theorem nib_or (u m i : Nat) (hi : i ≤ 9) (hu : u < 2 ^ (7 * i)) (hm : m * 2 ^ (7 * i) < 18446744073709551616) :
    Go.bits .or .u64 (u : Int) (shl .u64 (m : Int) ((7 * i : Nat) : Int)) = ((u + m * 2 ^ (7 * i) : Nat) : Int) := by
  have hp : 2 ^ (7 * i) ≤ 2 ^ (7 * 9) := Nat.pow_le_pow_right (by decide) (by omega)
  have h9 : (2 : Nat) ^ (7 * 9) = 9223372036854775808 := by decide
  rw [shl_nat m i hi, wu64 _ (by omega) (by omega), bits_or_u64_nat u _ (by omega) hm, Nat.or_comm, Nat.mul_comm m, ← Nat.two_pow_add_eq_or_of_lt hu m, Nat.add_comm]
theorem nib_fin (k : Nat) (s : ByteArray) (u i : Nat) (b x : Int) (hi : i < s.size) (h9 : i ≤ 9) (hu : u < 18446744073709551616) (hb : b < 128) :
    nib_TakeInt.j1 (k + 1) s u i b x i false = some (unfoldI u, strOfNums ((bytesOf s).drop (i + 1)), true) := by
  have hw : wrap64 ((i : Int) + 1) = ((i + 1 : Nat) : Int) := by rw [w64 _ (by omega) (by omega)]; omega
  have c1 : (0 : Int) ≤ ((i + 1 : Nat) : Int) := by omega
  have c2 : ((i + 1 : Nat) : Int) ≤ (s.size : Int) := by omega
  simp only [nib_TakeInt.j1]
  rw [if_neg Bool.false_ne_true, if_pos hb, hw, if_pos c1, if_pos c2, nib_unfold u hu, Int.toNat_natCast, extract_drop]
theorem nib_bad (k : Nat) (s : ByteArray) (u : Int) (i b x y : Int) : nib_TakeInt.j1 (k + 1) s u i b x y true = some (0, ⟨#[]⟩, false) := by
  simp only [nib_TakeInt.j1]
  exact if_pos trivial
theorem take_nil (i u : Nat) : takeV i u [] = none := by cases i <;> rfl
theorem nibtake_loop (s : ByteArray) (d : Nat) : ∀ (k i u : Nat), i + d = min s.size 10 → 2 * d + 1 < k → u < 2 ^ (7 * i) →
    nib_TakeInt.l0 k s u ((min s.size 10 : Nat) : Int) i = some (takeX (takeV i u ((bytesOf s).drop i))) := by
  induction d with
  | zero =>
    intro k i u hi hk hu
    obtain ⟨k, rfl⟩ : ∃ m, k = m + 1 := ⟨k - 1, by omega⟩
    have c1 : ¬ (i : Int) < ((min s.size 10 : Nat) : Int) := by omega
    simp only [nib_TakeInt.l0]
    rw [if_neg c1]
    by_cases h10 : i = 10
    · subst h10
      cases (bytesOf s).drop 10 with
      | nil => rfl
      | cons b bs => simp only [takeV]; rw [if_pos (by decide)]; rfl
    · rw [List.drop_of_length_le (by rw [bytesOf_length]; omega), take_nil]; rfl
  | succ d ih =>
    intro k i u hi hk hu
    obtain ⟨k, rfl⟩ : ∃ m, k = m + 2 := ⟨k - 2, by omega⟩
    have hlt : i < s.size := by omega
    have h9 : i ≤ 9 := by omega
    have g1 : i + 1 + d = min s.size 10 := by omega
    have g2 : 2 * d + 1 < k := by omega
    have c1 : (i : Int) < ((min s.size 10 : Nat) : Int) := by omega
    have c2 : (0 : Int) ≤ (i : Int) := by omega
    have c3 : (i : Int) < (s.size : Int) := by omega
    have e7 : wrap64 (7 * (i : Int)) = ((7 * i : Nat) : Int) := by rw [w64 _ (by omega) (by omega)]; omega
    have c4 : (0 : Int) ≤ ((7 * i : Nat) : Int) := by omega
    obtain ⟨b, hb⟩ := Int.eq_ofNat_of_zero_le (bt_range s i).1
    have hb2 := (bt_range s i).2
    have hpos := Nat.two_pow_pos (7 * i)
    simp only [nib_TakeInt.l0]
    rw [if_pos c1, if_pos c2, if_pos c3, e7, if_pos c4, drop_step s i hlt, hb]
    rw [hb] at hb2
    clear hb e7
    rw [u8_clear b (by omega), wu64 ((b % 128 : Nat) : Int) (by omega) (by omega)]
    have hX : takeX none = (0, ⟨#[]⟩, false) := rfl
    by_cases h91 : i = 9 ∧ 1 < b
    · have d1 : (i : Int) = 9 := by omega
      have d2 : (b : Int) > 1 := by omega
      have hR : takeV i u ((b : Int) :: (bytesOf s).drop (i + 1)) = none := by
        simp only [takeV]
        rw [if_neg (by omega)]
        by_cases hb1 : (b : Int) < 128
        · rw [if_pos hb1, if_pos (Or.inl ⟨h91.1, d2⟩)]
        · rw [if_neg hb1, if_pos h91.1]
      rw [if_pos d1, if_pos d2, nib_bad, hR, hX]
    · have hm : b % 128 * 2 ^ (7 * i) < 18446744073709551616 := by
        by_cases h9' : i = 9
        · have hb1 : b % 128 ≤ 1 := by omega
          have := Nat.mul_le_mul_right (2 ^ (7 * i)) hb1
          have e : 2 ^ (7 * i) = 9223372036854775808 := by subst h9'; decide
          omega
        · have := Nat.mul_le_mul (show b % 128 ≤ 127 by omega) (pow_le_56 i (by omega))
          omega
      rw [nib_or u (b % 128) i h9 hu hm]
      have hu2 : u + b % 128 * 2 ^ (7 * i) < 2 ^ (7 * (i + 1)) := by
        rw [pow7]
        have := Nat.mul_le_mul_right (2 ^ (7 * i)) (show b % 128 ≤ 127 by omega)
        omega
      have hu3 : u + b % 128 * 2 ^ (7 * i) < 18446744073709551616 := by
        by_cases h9' : i = 9
        · have hb1 : b % 128 ≤ 1 := by omega
          have := Nat.mul_le_mul_right (2 ^ (7 * i)) hb1
          have e : 2 ^ (7 * i) = 9223372036854775808 := by subst h9'; decide
          omega
        · have h1 := pow_le_56 i (by omega)
          have := Nat.mul_le_mul (show b % 128 ≤ 127 by omega) h1
          omega
      have hL : (if (i : Int) = 9 then if (b : Int) > 1 then nib_TakeInt.j1 (k + 1) s ((u + b % 128 * 2 ^ (7 * i) : Nat) : Int) i b ((min s.size 10 : Nat) : Int) i true else if (i : Int) > 0 then nib_TakeInt.j1 (k + 1) s ((u + b % 128 * 2 ^ (7 * i) : Nat) : Int) i b ((min s.size 10 : Nat) : Int) i ((b : Int) == 0) else nib_TakeInt.j1 (k + 1) s ((u + b % 128 * 2 ^ (7 * i) : Nat) : Int) i b ((min s.size 10 : Nat) : Int) i false
          else if (i : Int) > 0 then nib_TakeInt.j1 (k + 1) s ((u + b % 128 * 2 ^ (7 * i) : Nat) : Int) i b ((min s.size 10 : Nat) : Int) i ((b : Int) == 0) else nib_TakeInt.j1 (k + 1) s ((u + b % 128 * 2 ^ (7 * i) : Nat) : Int) i b ((min s.size 10 : Nat) : Int) i false)
          = nib_TakeInt.j1 (k + 1) s ((u + b % 128 * 2 ^ (7 * i) : Nat) : Int) i b ((min s.size 10 : Nat) : Int) i (decide (0 < i ∧ b = 0)) := by
        have hin : (if (i : Int) > 0 then nib_TakeInt.j1 (k + 1) s ((u + b % 128 * 2 ^ (7 * i) : Nat) : Int) i b ((min s.size 10 : Nat) : Int) i ((b : Int) == 0) else nib_TakeInt.j1 (k + 1) s ((u + b % 128 * 2 ^ (7 * i) : Nat) : Int) i b ((min s.size 10 : Nat) : Int) i false)
          = nib_TakeInt.j1 (k + 1) s ((u + b % 128 * 2 ^ (7 * i) : Nat) : Int) i b ((min s.size 10 : Nat) : Int) i (decide (0 < i ∧ b = 0)) := by
          by_cases h0 : 0 < i
          · rw [if_pos (show (i : Int) > 0 by omega)]
            congr 1
            rw [Bool.eq_iff_iff]; simp; omega
          · rw [if_neg (show ¬ (i : Int) > 0 by omega)]
            congr 1
            rw [Bool.eq_iff_iff]; simp; omega
        rw [hin]
        by_cases h9' : (i : Int) = 9
        · rw [if_pos h9', if_neg (show ¬ (b : Int) > 1 by omega)]
        · rw [if_neg h9']
      rw [hL]
      by_cases hz : 0 < i ∧ b = 0
      · have hR : takeV i u ((b : Int) :: (bytesOf s).drop (i + 1)) = none := by
          simp only [takeV]
          rw [if_neg (by omega), if_pos (by omega), if_pos (Or.inr ⟨hz.1, by omega⟩)]
        rw [decide_eq_true hz, nib_bad, hR, hX]
      · rw [decide_eq_false hz]
        by_cases hb1 : (b : Int) < 128
        · have hR : takeV i u ((b : Int) :: (bytesOf s).drop (i + 1)) = some (u + b % 128 * 2 ^ (7 * i), (bytesOf s).drop (i + 1)) := by
            simp only [takeV]
            rw [if_neg (by omega), if_pos hb1, if_neg (by omega), Int.toNat_natCast, show b % 128 = b by omega]
          rw [nib_fin k s _ i b _ hlt h9 hu3 hb1, hR]; rfl
        · have h9' : ¬ i = 9 := by omega
          have hR : takeV i u ((b : Int) :: (bytesOf s).drop (i + 1)) = takeV (i + 1) (u + b % 128 * 2 ^ (7 * i)) ((bytesOf s).drop (i + 1)) := by
            simp only [takeV]
            rw [if_neg (by omega), if_neg hb1, if_neg h9', show ((b : Int) - 128).toNat = b % 128 by omega]
          have hw : wrap64 ((i : Int) + 1) = ((i + 1 : Nat) : Int) := by rw [w64 _ (by omega) (by omega)]; omega
          simp only [nib_TakeInt.j1]
          rw [if_neg Bool.false_ne_true, if_neg hb1, hw, hR]
          exact ih k (i + 1) _ g1 g2 hu2
theorem nibtake_pure (s : ByteArray) (k : Nat) (hk : 30 < k) : nib_TakeInt.f k s = some (takeR s) := by
  unfold nib_TakeInt.f
  have hm : mn (s.size : Int) 10 = ((min s.size 10 : Nat) : Int) := by unfold mn; split <;> omega
  have h0 : 0 < 2 ^ (7 * 0) := Nat.two_pow_pos _
  have h1 : 2 * min s.size 10 + 1 < k := by omega
  have := nibtake_loop s (min s.size 10) k 0 0 (Nat.zero_add _) h1 h0
  rw [Int.natCast_zero, List.drop_zero] at this
  rw [hm, takeR_eq]
  exact this
end Go.Proofs.Ytfjmnaobfbmllaa.M
namespace Go.Proofs.Ytfjmnaobfbmllaa.M
open Go.RowKit Go.Proofs.YtfjmnaobfbmllaaW.PrintWords Go.Proofs.YtfjmnaobfbmllaaW.PrintLast Go.Proofs.YtfjmnaobfbmllaaW.PrintMore
set_option linter.unusedVariables false
set_option linter.unusedSimpArgs false
theorem intB_len (n : Int) : 1 ≤ (intB n).length ∧ (intB n).length ≤ 11 := varF_len 10 _
theorem bytes_append (s t : ByteArray) : bytesOf (s ++ t) = bytesOf s ++ bytesOf t := by
  unfold bytesOf
  rw [ByteArray.data_append, Array.toList_append, List.map_append]
theorem str_append (xs : List Int) (s : ByteArray) (h : ∀ x ∈ xs, 0 ≤ x ∧ x ≤ 255) : strOfNums xs ++ s = strOfNums (xs ++ bytesOf s) := by
  apply bytes_inj
  rw [bytes_append, bytesOf_strOfNums xs h, bytesOf_strOfNums]
  intro x hx
  rw [List.mem_append] at hx
  rcases hx with hx | hx
  · exact h x hx
  · exact bytesOf_range s x hx
theorem str_app2 (xs ys : List Int) (h : ∀ x ∈ xs, 0 ≤ x ∧ x ≤ 255) (h2 : ∀ x ∈ ys, 0 ≤ x ∧ x ≤ 255) : strOfNums xs ++ strOfNums ys = strOfNums (xs ++ ys) := by
  rw [str_append xs _ h, bytesOf_strOfNums ys h2]
theorem intB_range (n : Nat) (hn : n ≤ 4611686018427387904) : ∀ b ∈ intB n, 0 ≤ b ∧ b ≤ 255 := by
  unfold intB
  rw [foldI_nat]
  refine varF_range 10 _ ?_
  have : (128 : Nat) ^ 10 = 1180591620717411303424 := by decide
  omega
def strB (s : ByteArray) : List Int := intB s.size ++ bytesOf s
theorem strB_range (s : ByteArray) (hs : s.size ≤ 4611686018427387904) : ∀ b ∈ strB s, 0 ≤ b ∧ b ≤ 255 := by
  intro b hb
  unfold strB at hb
  rw [List.mem_append] at hb
  rcases hb with hb | hb
  · exact intB_range _ hs b hb
  · exact bytesOf_range s b hb
theorem strB_len (s : ByteArray) : (strB s).length ≤ 11 + s.size := by
  unfold strB
  rw [List.length_append, bytesOf_length]
  have := (intB_len s.size).2
  omega
def nibInt.f (n : Int) : Option ByteArray := if 0 ≤ n ∧ n ≤ 4611686018427387904 then some (strOfNums (intB n)) else none
theorem nibInt.calls (n : Int) (r : ByteArray) (w : World) (h : nibInt.f n = some r) : Calls Try.prog 98 #[.int .i64 n] w fun e w' => e = .returned (.string r) ∧ Below w.heap.size w w' := by
  unfold nibInt.f at h
  split at h
  · rename_i hn
    obtain ⟨m, rfl⟩ := Int.eq_ofNat_of_zero_le hn.1
    exact nib_Int.calls 12 m r w (by rw [nib_pure m (by omega) 12 (by omega)]; exact h)
  · cases h
def nibTake.f (s : ByteArray) : Option (Int × ByteArray × Bool) := some (takeR s)
theorem nibTake.calls (s : ByteArray) (r1 : Int) (r2 : ByteArray) (r3 : Bool) (w : World) (h : nibTake.f s = some (r1, r2, r3)) :
    Calls Try.prog 120 #[.string s] w fun e w' => e = .returned (.tuple #[.int .i64 r1, .string r2, .bool r3]) ∧ Below w.heap.size w w' :=
  nib_TakeInt.calls 31 s r1 r2 r3 w (by rw [nibtake_pure s 31 (by omega)]; exact h)
def textR (m : Int) (t : Int × ByteArray × Bool) : ByteArray × ByteArray × Bool :=
  if t.2.2 = true ∧ 0 ≤ t.1 ∧ t.1 ≤ m ∧ t.1 ≤ t.2.1.size then (t.2.1.extract 0 t.1.toNat, t.2.1.extract t.1.toNat t.2.1.size, true) else (⟨#[]⟩, ⟨#[]⟩, false)
end Go.Proofs.Ytfjmnaobfbmllaa.M
namespace Go.Proofs.Ytfjmnaobfbmllaa.M
open Go.RowKit Go.Proofs.YtfjmnaobfbmllaaW.PrintWords Go.Proofs.YtfjmnaobfbmllaaW.PrintLast Go.Proofs.YtfjmnaobfbmllaaW.PrintMore
set_option linter.unusedVariables false
set_option linter.unusedSimpArgs false
def slotE (x : S33) : List Int := if x.f0 then intB 1 ++ strB x.f1 else intB 0
def numsE (x : S65) : List Int := [x.f0, x.f1.f0, x.f1.f1, x.f1.f2, x.f2, x.f3] ++ (if x.f0 = 1 ∨ x.f0 = 2 then [x.f4, x.f5, x.f8] else [])
def tailE (x : S65) : List Int := if x.f0 = 1 ∨ x.f0 = 2 then slotE x.f6 ++ slotE x.f7 else []
def encE (x : S65) : List Int := (numsE x).flatMap intB ++ tailE x
def small (n : Int) : Prop := 0 ≤ n ∧ n ≤ 4611686018427387904
theorem nums_small {x : S65} (h : GoodE x) : ∀ n ∈ numsE x, small n := by
  obtain ⟨h1, h2, h3, h4⟩ := h
  unfold KnownP at h1
  intro n hn
  unfold numsE at hn
  unfold small
  rw [List.mem_append] at hn
  rcases hn with hn | hn
  · simp only [List.mem_cons, List.not_mem_nil, or_false] at hn
    have hk : 1 ≤ x.f0 ∧ x.f0 ≤ 4 := by rcases h4 with h | h | h <;> omega
    rcases hn with rfl | rfl | rfl | rfl | rfl | rfl <;> omega
  · split at hn
    · simp only [List.mem_cons, List.not_mem_nil, or_false] at hn
      rcases h4 with h | h | h
      · have := h.2.1.1; have := h.2.1.2.1
        rcases hn with rfl | rfl | rfl <;> omega
      · have := h.2.1.1; have := h.2.1.2.1
        rcases hn with rfl | rfl | rfl <;> omega
      · omega
    · cases hn
theorem intB_small {n : Int} (h : small n) : (∀ b ∈ intB n, 0 ≤ b ∧ b ≤ 255) := by
  obtain ⟨m, rfl⟩ := Int.eq_ofNat_of_zero_le h.1
  have := h.2
  exact intB_range m (by omega)
theorem flat_small (l : List Int) (h : ∀ n ∈ l, small n) : ∀ b ∈ l.flatMap intB, 0 ≤ b ∧ b ≤ 255 := by
  intro b hb
  rw [List.mem_flatMap] at hb
  obtain ⟨n, hn, hb⟩ := hb
  exact intB_small (h n hn) b hb
theorem flat_len (l : List Int) : (l.flatMap intB).length ≤ 11 * l.length := by
  induction l with
  | nil => simp
  | cons n l ih =>
    rw [List.flatMap_cons, List.length_append, List.length_cons]
    have := (intB_len n).2
    omega
theorem slotE_range (x : S33) (h : x.f1.size ≤ 200) : ∀ b ∈ slotE x, 0 ≤ b ∧ b ≤ 255 := by
  intro b hb
  unfold slotE at hb
  split at hb
  · rw [List.mem_append] at hb
    rcases hb with hb | hb
    · exact intB_range 1 (by decide) b hb
    · exact strB_range x.f1 (by omega) b hb
  · exact intB_range 0 (by decide) b hb
theorem slotE_len (x : S33) (h : x.f1.size ≤ 200) : (slotE x).length ≤ 222 := by
  unfold slotE
  split
  · rw [List.length_append]
    have := (intB_len 1).2; have := strB_len x.f1; omega
  · have := (intB_len 0).2; omega
theorem good_slots {x : S65} (h : GoodE x) : x.f6.f1.size ≤ 200 ∧ x.f7.f1.size ≤ 200 := by
  rcases h.2.2.2 with h | h | h
  · exact ⟨((odd_fine _).mp h.2.1.2.2.1).2, ((odd_fine _).mp h.2.1.2.2.2).2⟩
  · exact ⟨((odd_fine _).mp h.2.1.2.2.1).2, ((odd_fine _).mp h.2.1.2.2.2).2⟩
  · rw [h.2.2.2.2.1, h.2.2.2.2.2]; exact ⟨fine_z.2, fine_z.2⟩
theorem encE_len {x : S65} (h : GoodE x) : (encE x).length ≤ 600 := by
  unfold encE tailE
  rw [List.length_append]
  have h1 := flat_len (numsE x)
  have h2 : (numsE x).length ≤ 9 := by unfold numsE; split <;> simp
  have := slotE_len _ (good_slots h).1
  have := slotE_len _ (good_slots h).2
  split
  · rw [List.length_append]; omega
  · rw [List.length_nil]; omega
def encX (x : S65) : ByteArray × Int := if GoodE x then (strOfNums (encE x), 0) else (⟨#[]⟩, 1)
end Go.Proofs.Ytfjmnaobfbmllaa.M
namespace Go.Proofs.Ytfjmnaobfbmllaa.M
open Go.RowKit Go.Proofs.YtfjmnaobfbmllaaW.PrintWords Go.Proofs.YtfjmnaobfbmllaaW.PrintLast Go.Proofs.YtfjmnaobfbmllaaW.PrintMore
set_option linter.unusedVariables false
set_option linter.unusedSimpArgs false
theorem varF_more (k : Nat) : ∀ v, v < 128 * 128 ^ k → varF (k + 1) v = varF k v := by
  induction k with
  | zero => intro v h; unfold varF; rw [if_pos (by simpa using h)]
  | succ k ih =>
    intro v h
    have h2 : v / 128 < 128 * 128 ^ k := by rw [Nat.pow_succ] at h; omega
    have := ih (v / 128) h2
    rw [show varF (k + 1 + 1) v = (if v < 128 then [(v : Int)] else ((v % 128 + 128 : Nat) : Int) :: varF (k + 1) (v / 128)) from rfl, this]
    rfl
theorem varF9 (v : Nat) (h : v < 2 ^ 64) : varF 10 v = varF 9 v := by
  refine varF_more 9 v ?_
  have e1 : (2 : Nat) ^ 64 = 18446744073709551616 := by decide
  have e2 : (128 : Nat) ^ 9 = 9223372036854775808 := by decide
  rw [e1] at h
  rw [e2]
  omega
def takeI (bs : List Int) : Option (Int × List Int) := (takeV 0 0 bs).map fun r => (unfoldI r.1, r.2)
theorem takeI_sound (bs : List Int) (hr : ∀ b ∈ bs, 0 ≤ b ∧ b ≤ 255) (n : Int) (rest : List Int) (h : takeI bs = some (n, rest)) : bs = intB n ++ rest := by
  unfold takeI at h
  rw [Option.map_eq_some_iff] at h
  obtain ⟨⟨w, r⟩, h1, h2⟩ := h
  simp only [Prod.mk.injEq] at h2
  obtain ⟨rfl, rfl⟩ := h2
  obtain ⟨v, e1, e2, _, _, e3⟩ := take_sound bs hr 0 0 w r h1
  rw [Nat.mul_zero, Nat.pow_zero, Nat.mul_one] at e2 e3
  rw [Nat.zero_add] at e2
  subst e2
  unfold intB
  rw [fold_unfold, varF9 _ e3]
  exact e1
def takeT (bs : List Int) : Option (ByteArray × List Int) := (takeI bs).bind fun r => if 0 ≤ r.1 ∧ r.1 ≤ 200 ∧ r.1 ≤ r.2.length then some (strOfNums (r.2.take r.1.toNat), r.2.drop r.1.toNat) else none
def takeS (bs : List Int) : Option (S33 × List Int) := (takeI bs).bind fun r => if r.1 = 0 then some (z33, r.2) else if r.1 = 1 then (takeT r.2).map (fun q => (⟨true, q.1⟩, q.2)) else none
theorem rest_range {xs rest bs : List Int} (h : bs = xs ++ rest) (hr : ∀ b ∈ bs, 0 ≤ b ∧ b ≤ 255) : ∀ b ∈ rest, 0 ≤ b ∧ b ≤ 255 := fun b hb => hr b (by rw [h]; simp [hb])
theorem takeT_sound (bs : List Int) (hr : ∀ b ∈ bs, 0 ≤ b ∧ b ≤ 255) (s : ByteArray) (rest : List Int) (h : takeT bs = some (s, rest)) : bs = strB s ++ rest ∧ s.size ≤ 200 := by
  unfold takeT at h
  rw [Option.bind_eq_some_iff] at h
  obtain ⟨⟨n, r⟩, h1, h2⟩ := h
  have e := takeI_sound bs hr n r h1
  have hr2 := rest_range e hr
  simp only at h2
  split at h2
  · rename_i hc
    simp only [Option.some.injEq, Prod.mk.injEq] at h2
    obtain ⟨rfl, rfl⟩ := h2
    have hl : (strOfNums (r.take n.toNat)).size = n.toNat := by rw [strOfNums_size, List.length_take]; omega
    refine ⟨?_, by rw [hl]; omega⟩
    unfold strB
    rw [hl, bytesOf_strOfNums _ (fun b hb => hr2 b (List.mem_of_mem_take hb)), List.append_assoc, List.take_append_drop, show ((n.toNat : Nat) : Int) = n by omega]
    exact e
  · cases h2
theorem takeS_sound (bs : List Int) (hr : ∀ b ∈ bs, 0 ≤ b ∧ b ≤ 255) (x : S33) (rest : List Int) (h : takeS bs = some (x, rest)) : bs = slotE x ++ rest := by
  unfold takeS at h
  rw [Option.bind_eq_some_iff] at h
  obtain ⟨⟨n, r⟩, h1, h2⟩ := h
  have e := takeI_sound bs hr n r h1
  simp only at h2
  split at h2
  · rename_i hc
    simp only [Option.some.injEq, Prod.mk.injEq] at h2
    obtain ⟨rfl, rfl⟩ := h2
    rw [e, hc]; rfl
  · split at h2
    · rename_i _ hc
      rw [Option.map_eq_some_iff] at h2
      obtain ⟨⟨s, q⟩, h3, h4⟩ := h2
      simp only [Prod.mk.injEq] at h4
      obtain ⟨rfl, rfl⟩ := h4
      have e2 := (takeT_sound r (rest_range e hr) s q h3).1
      rw [e, hc, e2]
      show _ = (intB 1 ++ strB s) ++ q
      rw [List.append_assoc]
    · cases h2
def takeNs : Nat → List Int → Option (List Int × List Int)
  | 0, bs => some ([], bs)
  | k + 1, bs => (takeI bs).bind fun r => (takeNs k r.2).map fun q => (r.1 :: q.1, q.2)
theorem takeNs_sound (k : Nat) : ∀ (bs : List Int), (∀ b ∈ bs, 0 ≤ b ∧ b ≤ 255) → ∀ l rest, takeNs k bs = some (l, rest) → l.length = k ∧ bs = l.flatMap intB ++ rest := by
  induction k with
  | zero =>
    intro bs _ l rest h
    simp only [takeNs, Option.some.injEq, Prod.mk.injEq] at h
    obtain ⟨rfl, rfl⟩ := h
    exact ⟨rfl, rfl⟩
  | succ k ih =>
    intro bs hr l rest h
    unfold takeNs at h
    rw [Option.bind_eq_some_iff] at h
    obtain ⟨⟨n, r⟩, h1, h2⟩ := h
    have e := takeI_sound bs hr n r h1
    rw [Option.map_eq_some_iff] at h2
    obtain ⟨⟨l2, q⟩, h3, h4⟩ := h2
    simp only [Prod.mk.injEq] at h4
    obtain ⟨rfl, rfl⟩ := h4
    obtain ⟨i1, i2⟩ := ih r (rest_range e hr) l2 q h3
    refine ⟨by simp [i1], ?_⟩
    rw [List.flatMap_cons, List.append_assoc, ← i2]
    exact e
def parseE (bs : List Int) : Option (S65 × List Int) := (takeNs 6 bs).bind fun r =>
  if rd r.1 0 = 1 ∨ rd r.1 0 = 2 then (takeNs 3 r.2).bind fun q => (takeS q.2).bind fun a => (takeS a.2).map fun b =>
    (⟨rd r.1 0, ⟨rd r.1 1, rd r.1 2, rd r.1 3⟩, rd r.1 4, rd r.1 5, rd q.1 0, rd q.1 1, a.1, b.1, rd q.1 2⟩, b.2)
  else some (⟨rd r.1 0, ⟨rd r.1 1, rd r.1 2, rd r.1 3⟩, rd r.1 4, rd r.1 5, 0, 0, z33, z33, 0⟩, r.2)
end Go.Proofs.Ytfjmnaobfbmllaa.M
namespace Go.Proofs.Ytfjmnaobfbmllaa.M
open Go.RowKit Go.Proofs.YtfjmnaobfbmllaaW.PrintWords Go.Proofs.YtfjmnaobfbmllaaW.PrintLast Go.Proofs.YtfjmnaobfbmllaaW.PrintMore
set_option linter.unusedVariables false
set_option linter.unusedSimpArgs false
def zE : S65 := ⟨0, ⟨0, 0, 0⟩, 0, 0, 0, 0, z33, z33, 0⟩
def decE (s : ByteArray) : S65 × ByteArray × Int := match parseE (bytesOf s) with
  | some (x, rest) => if GoodE x then (x, strOfNums rest, 0) else (zE, ⟨#[]⟩, 4)
  | none => (zE, ⟨#[]⟩, 4)
end Go.Proofs.Ytfjmnaobfbmllaa.M
namespace Go.Proofs.Ytfjmnaobfbmllaa.M
open Go.RowKit Go.Proofs.YtfjmnaobfbmllaaW.PrintWords Go.Proofs.YtfjmnaobfbmllaaW.PrintLast Go.Proofs.YtfjmnaobfbmllaaW.PrintMore
set_option linter.unusedVariables false
set_option linter.unusedSimpArgs false
def tI (r : ByteArray) (b : Bool) : Int × ByteArray × Bool := ((takeR r).1, (takeR r).2.1, b || !(takeR r).2.2)
def tS (r : ByteArray) (b : Bool) : S33 × ByteArray × Bool :=
  if (tI r b).1 = 0 then (z33, (tI r b).2.1, (tI r b).2.2)
  else if (tI r b).1 = 1 then (⟨true, (textR 200 (takeR (tI r b).2.1)).1⟩, (textR 200 (takeR (tI r b).2.1)).2.1, (tI r b).2.2 || !(textR 200 (takeR (tI r b).2.1)).2.2)
  else (z33, (tI r b).2.1, true)
def setF (x : S65) (i : Nat) (n : Int) : S65 := match i with
  | 0 => ⟨n, x.f1, x.f2, x.f3, x.f4, x.f5, x.f6, x.f7, x.f8⟩
  | 1 => ⟨x.f0, ⟨n, x.f1.f1, x.f1.f2⟩, x.f2, x.f3, x.f4, x.f5, x.f6, x.f7, x.f8⟩
  | 2 => ⟨x.f0, ⟨x.f1.f0, n, x.f1.f2⟩, x.f2, x.f3, x.f4, x.f5, x.f6, x.f7, x.f8⟩
  | 3 => ⟨x.f0, ⟨x.f1.f0, x.f1.f1, n⟩, x.f2, x.f3, x.f4, x.f5, x.f6, x.f7, x.f8⟩
  | 4 => ⟨x.f0, x.f1, n, x.f3, x.f4, x.f5, x.f6, x.f7, x.f8⟩
  | 5 => ⟨x.f0, x.f1, x.f2, n, x.f4, x.f5, x.f6, x.f7, x.f8⟩
  | 6 => ⟨x.f0, x.f1, x.f2, x.f3, n, x.f5, x.f6, x.f7, x.f8⟩
  | 7 => ⟨x.f0, x.f1, x.f2, x.f3, x.f4, n, x.f6, x.f7, x.f8⟩
  | _ => ⟨x.f0, x.f1, x.f2, x.f3, x.f4, x.f5, x.f6, x.f7, n⟩
def decRun : Nat → Nat → S65 → ByteArray → Bool → S65 × ByteArray × Bool
  | 0, _, x, r, b => (x, r, b)
  | d + 1, i, x, r, b => decRun d (i + 1) (setF x i (tI r b).1) (tI r b).2.1 (tI r b).2.2
def finE (x : S65) (r : ByteArray) (b : Bool) : S65 × ByteArray × Int := if b = false ∧ GoodE x then (x, r, 0) else (zE, ⟨#[]⟩, 4)
def withS (x : S65) (a b : S33) : S65 := ⟨x.f0, x.f1, x.f2, x.f3, x.f4, x.f5, a, b, x.f8⟩
def decT (q : S65 × ByteArray × Bool) : S65 × ByteArray × Int :=
  if q.1.f0 = 1 ∨ q.1.f0 = 2 then finE (withS q.1 (tS q.2.1 q.2.2).1 (tS (tS q.2.1 q.2.2).2.1 (tS q.2.1 q.2.2).2.2).1) (tS (tS q.2.1 q.2.2).2.1 (tS q.2.1 q.2.2).2.2).2.1 (tS (tS q.2.1 q.2.2).2.1 (tS q.2.1 q.2.2).2.2).2.2
  else finE q.1 q.2.1 q.2.2
def decG (s : ByteArray) : S65 × ByteArray × Int :=
  decT (decRun (if (tI s false).1 = 1 ∨ (tI s false).1 = 2 then 8 else 5) 1 (setF zE 0 (tI s false).1) (tI s false).2.1 (tI s false).2.2)
theorem tI_some {r : ByteArray} {n : Int} {m : List Int} (h : takeI (bytesOf r) = some (n, m)) (b : Bool) : tI r b = (n, strOfNums m, b) := by
  unfold takeI at h
  rw [Option.map_eq_some_iff] at h
  obtain ⟨⟨u, q⟩, h1, h2⟩ := h
  simp only [Prod.mk.injEq] at h2
  obtain ⟨rfl, rfl⟩ := h2
  unfold tI
  rw [takeR_eq, h1]
  show (unfoldI u, strOfNums q, b || !true) = _
  rw [Bool.not_true, Bool.or_false]
theorem tI_none {r : ByteArray} (h : takeI (bytesOf r) = none) (b : Bool) : tI r b = (0, ⟨#[]⟩, true) := by
  unfold takeI at h
  rw [Option.map_eq_none_iff] at h
  unfold tI
  rw [takeR_eq, h]
  show ((0 : Int), (⟨#[]⟩ : ByteArray), b || !false) = _
  rw [Bool.not_false, Bool.or_true]
theorem tI_bad (r : ByteArray) : (tI r true).2.2 = true := by unfold tI; rfl
theorem takeI_range {r : ByteArray} {n : Int} {m : List Int} (h : takeI (bytesOf r) = some (n, m)) : ∀ b ∈ m, 0 ≤ b ∧ b ≤ 255 :=
  rest_range (takeI_sound _ (bytesOf_range r) n m h) (bytesOf_range r)
theorem takeR_some {r : ByteArray} {n : Int} {m : List Int} (h : takeI (bytesOf r) = some (n, m)) : takeR r = (n, strOfNums m, true) := by
  have e := tI_some h false
  unfold tI at e
  simp only [Prod.mk.injEq, Bool.false_or] at e
  rw [← e.1, ← e.2.1]
  have : (takeR r).2.2 = true := by have := e.2.2; revert this; cases (takeR r).2.2 <;> decide
  rw [← this]
theorem takeR_none {r : ByteArray} (h : takeI (bytesOf r) = none) : takeR r = (0, ⟨#[]⟩, false) := by
  unfold takeI at h
  rw [Option.map_eq_none_iff] at h
  rw [takeR_eq, h]; rfl
theorem str_take (m : List Int) (hm : ∀ b ∈ m, 0 ≤ b ∧ b ≤ 255) (n : Nat) : (strOfNums m).extract 0 n = strOfNums (m.take n) := by
  apply bytes_inj
  rw [bytes_extract, bytesOf_strOfNums m hm, bytesOf_strOfNums _ (fun b hb => hm b (List.mem_of_mem_take hb)), List.drop_zero, Nat.sub_zero]
theorem str_drop (m : List Int) (hm : ∀ b ∈ m, 0 ≤ b ∧ b ≤ 255) (n : Nat) : (strOfNums m).extract n (strOfNums m).size = strOfNums (m.drop n) := by
  apply bytes_inj
  rw [bytes_drop, bytesOf_strOfNums m hm, bytesOf_strOfNums _ (fun b hb => hm b (List.mem_of_mem_drop hb))]
theorem textR_eq {r : ByteArray} : textR 200 (takeR r) = match takeT (bytesOf r) with
    | some (s, m) => (s, strOfNums m, true)
    | none => (⟨#[]⟩, ⟨#[]⟩, false) := by
  unfold takeT
  cases h : takeI (bytesOf r) with
  | none => rw [takeR_none h]; rfl
  | some q =>
    obtain ⟨n, m⟩ := q
    rw [takeR_some h, Option.bind_some]
    unfold textR
    simp only
    by_cases hc : 0 ≤ n ∧ n ≤ 200 ∧ n ≤ m.length
    · have hm := takeI_range h
      rw [if_pos hc, if_pos ⟨trivial, hc.1, hc.2.1, by rw [strOfNums_size]; exact hc.2.2⟩, str_take m hm, str_drop m hm]
    · rw [if_neg hc, if_neg (fun hd => hc ⟨hd.2.1, hd.2.2.1, by rw [← strOfNums_size]; exact hd.2.2.2⟩)]
theorem tS_some {r : ByteArray} {x : S33} {m : List Int} (h : takeS (bytesOf r) = some (x, m)) (b : Bool) : tS r b = (x, strOfNums m, b) := by
  unfold takeS at h
  rw [Option.bind_eq_some_iff] at h
  obtain ⟨⟨n, q⟩, h1, h2⟩ := h
  have e := tI_some h1 b
  have hq := takeI_range h1
  unfold tS
  rw [e]
  simp only at h2 ⊢
  split at h2
  · rename_i hc
    rw [if_pos hc]
    cases h2; rfl
  · rename_i hc
    rw [if_neg hc]
    split at h2
    · rename_i hc2
      rw [if_pos hc2, textR_eq, bytesOf_strOfNums q hq]
      rw [Option.map_eq_some_iff] at h2
      obtain ⟨⟨s, t⟩, h3, h4⟩ := h2
      rw [h3]
      simp only [Prod.mk.injEq] at h4
      obtain ⟨rfl, rfl⟩ := h4
      simp
    · cases h2
theorem tS_none {r : ByteArray} (h : takeS (bytesOf r) = none) (b : Bool) : (tS r b).2.2 = true := by
  unfold takeS at h
  unfold tS
  cases h1 : takeI (bytesOf r) with
  | none => rw [tI_none h1]; rfl
  | some q =>
    obtain ⟨n, q⟩ := q
    have hq := takeI_range h1
    rw [h1, Option.bind_some] at h
    rw [tI_some h1]
    simp only at h ⊢
    split at h
    · cases h
    · rename_i hc
      rw [if_neg hc]
      split at h
      · rename_i hc2
        rw [if_pos hc2, textR_eq, bytesOf_strOfNums q hq]
        rw [Option.map_eq_none_iff] at h
        rw [h]; simp
      · rename_i hc2
        rw [if_neg hc2]
theorem tS_bad (r : ByteArray) : (tS r true).2.2 = true := by
  unfold tS
  have h := tI_bad r
  split
  · exact h
  · split
    · simp only [h, Bool.true_or]
    · rfl
def fillE : S65 → Nat → List Int → S65
  | x, _, [] => x
  | x, i, n :: l => fillE (setF x i n) (i + 1) l
theorem run_bad (d : Nat) : ∀ (i : Nat) (x : S65) (r : ByteArray), (decRun d i x r true).2.2 = true := by
  induction d with
  | zero => intro i x r; rfl
  | succ d ih => intro i x r; simp only [decRun]; rw [tI_bad]; exact ih _ _ _
theorem run_none (d : Nat) : ∀ (i : Nat) (x : S65) (r : ByteArray) (b : Bool), takeNs d (bytesOf r) = none → (decRun d i x r b).2.2 = true := by
  induction d with
  | zero => intro i x r b h; cases h
  | succ d ih =>
    intro i x r b h
    simp only [decRun]
    cases h1 : takeI (bytesOf r) with
    | none => rw [tI_none h1]; exact run_bad _ _ _ _
    | some q =>
      obtain ⟨n, q⟩ := q
      unfold takeNs at h
      rw [h1, Option.bind_some, Option.map_eq_none_iff] at h
      rw [tI_some h1]
      exact ih _ _ _ _ (by rw [bytesOf_strOfNums q (takeI_range h1)]; exact h)
theorem run_some (d : Nat) : ∀ (i : Nat) (x : S65) (r : ByteArray) (b : Bool) (l m : List Int), takeNs d (bytesOf r) = some (l, m) → decRun d i x r b = (fillE x i l, strOfNums m, b) := by
  induction d with
  | zero =>
    intro i x r b l m h
    simp only [takeNs, Option.some.injEq, Prod.mk.injEq] at h
    obtain ⟨rfl, rfl⟩ := h
    simp only [decRun, fillE, str_bytes]
  | succ d ih =>
    intro i x r b l m h
    unfold takeNs at h
    rw [Option.bind_eq_some_iff] at h
    obtain ⟨⟨n, q⟩, h1, h2⟩ := h
    rw [Option.map_eq_some_iff] at h2
    obtain ⟨⟨l2, q2⟩, h3, h4⟩ := h2
    simp only [Prod.mk.injEq] at h4
    obtain ⟨rfl, rfl⟩ := h4
    simp only [decRun, fillE]
    rw [tI_some h1]
    exact ih _ _ _ _ _ _ (by rw [bytesOf_strOfNums q (takeI_range h1)]; exact h3)
theorem fin_bad (x : S65) (r : ByteArray) : finE x r true = (zE, ⟨#[]⟩, 4) := by
  unfold finE; rw [if_neg (fun h => by cases h.1)]
theorem decT_bad {q : S65 × ByteArray × Bool} (h : q.2.2 = true) : decT q = (zE, ⟨#[]⟩, 4) := by
  unfold decT
  rw [h, tS_bad, tS_bad, fin_bad, fin_bad, ite_self]
theorem takeNs_add (a b : Nat) : ∀ bs, takeNs (a + b) bs = (takeNs a bs).bind fun r => (takeNs b r.2).map fun q => (r.1 ++ q.1, q.2) := by
  induction a with
  | zero => intro bs; simp only [takeNs, Nat.zero_add, Option.bind_some, List.nil_append]; cases takeNs b bs <;> rfl
  | succ a ih =>
    intro bs
    rw [Nat.succ_add]
    simp only [takeNs]
    cases takeI bs with
    | none => rfl
    | some r =>
      simp only [Option.bind_some]
      rw [ih]
      cases takeNs a r.2 with
      | none => rfl
      | some q =>
        simp only [Option.bind_some, Option.map_some]
        cases takeNs b q.2 <;> rfl
theorem list5 {l : List Int} (h : l.length = 5) : ∃ a b c d e, l = [a, b, c, d, e] := by
  match l, h with
  | [a, b, c, d, e], _ => exact ⟨a, b, c, d, e, rfl⟩
theorem list3 {l : List Int} (h : l.length = 3) : ∃ a b c, l = [a, b, c] := by
  match l, h with
  | [a, b, c], _ => exact ⟨a, b, c, rfl⟩
theorem decG_eq (s : ByteArray) : decG s = decE s := by
  unfold decG decE parseE
  have e6 : takeNs 6 (bytesOf s) = (takeI (bytesOf s)).bind fun r => (takeNs 5 r.2).map fun q => (r.1 :: q.1, q.2) := rfl
  rw [e6]
  cases h1 : takeI (bytesOf s) with
  | none => rw [tI_none h1, Option.bind_none, decT_bad (run_bad _ _ _ _)]; rfl
  | some r =>
    obtain ⟨k, m⟩ := r
    have hm := takeI_range h1
    have hb := bytesOf_strOfNums m hm
    rw [tI_some h1, Option.bind_some]
    simp only
    have ek : (setF zE 0 k).f0 = k := rfl
    by_cases hk : k = 1 ∨ k = 2
    · rw [if_pos hk]
      have h8 := takeNs_add 5 3 m
      rw [show 5 + 3 = 8 from rfl] at h8
      cases h5 : takeNs 5 m with
      | none =>
        rw [h5, Option.bind_none] at h8
        rw [decT_bad (run_none 8 1 _ _ _ (by rw [hb]; exact h8))]; rfl
      | some q =>
        obtain ⟨l, q⟩ := q
        obtain ⟨hl, e5⟩ := takeNs_sound 5 m hm l q h5
        obtain ⟨a1, a2, a3, a4, a5, rfl⟩ := list5 hl
        have hq := rest_range e5 hm
        rw [h5, Option.bind_some] at h8
        simp only [Option.map_some, Option.bind_some] at h8 ⊢
        rw [if_pos (show rd (k :: [a1, a2, a3, a4, a5]) 0 = 1 ∨ rd (k :: [a1, a2, a3, a4, a5]) 0 = 2 from hk)]
        cases h3 : takeNs 3 q with
        | none =>
          rw [h3, Option.map_none] at h8
          rw [decT_bad (run_none 8 1 _ _ _ (by rw [hb]; exact h8))]; rfl
        | some p =>
          obtain ⟨l2, p⟩ := p
          obtain ⟨hl2, e3⟩ := takeNs_sound 3 q hq l2 p h3
          obtain ⟨b1, b2, b3, rfl⟩ := list3 hl2
          have hp := rest_range e3 hq
          have hbp := bytesOf_strOfNums p hp
          rw [h3, Option.map_some] at h8
          rw [run_some 8 1 _ _ _ _ _ (by rw [hb]; exact h8)]
          simp only [Option.bind_some]
          have ex : fillE (setF zE 0 k) 1 ([a1, a2, a3, a4, a5] ++ [b1, b2, b3]) = ⟨k, ⟨a1, a2, a3⟩, a4, a5, b1, b2, z33, z33, b3⟩ := rfl
          rw [ex]
          unfold decT
          simp only
          rw [if_pos hk]
          cases hs : takeS p with
          | none =>
            have t := tS_none (r := strOfNums p) (by rw [hbp]; exact hs) false
            rw [t, tS_bad, fin_bad]; rfl
          | some u =>
            obtain ⟨x1, u⟩ := u
            have hu := rest_range (takeS_sound p hp x1 u hs) hp
            have hbu := bytesOf_strOfNums u hu
            rw [tS_some (r := strOfNums p) (by rw [hbp]; exact hs) false]
            simp only [Option.bind_some]
            cases hs2 : takeS u with
            | none =>
              have t := tS_none (r := strOfNums u) (by rw [hbu]; exact hs2) false
              rw [t, fin_bad]; rfl
            | some v =>
              obtain ⟨x2, v⟩ := v
              rw [tS_some (r := strOfNums u) (by rw [hbu]; exact hs2) false]
              simp only [Option.map_some]
              unfold finE
              have ex2 : withS ⟨k, ⟨a1, a2, a3⟩, a4, a5, b1, b2, z33, z33, b3⟩ x1 x2 = ⟨k, ⟨a1, a2, a3⟩, a4, a5, b1, b2, x1, x2, b3⟩ := rfl
              rw [ex2]
              by_cases hg : GoodE ⟨k, ⟨a1, a2, a3⟩, a4, a5, b1, b2, x1, x2, b3⟩
              · rw [if_pos ⟨rfl, hg⟩]; exact (if_pos hg).symm
              · rw [if_neg (fun h => hg h.2)]; exact (if_neg hg).symm
    · rw [if_neg hk]
      cases h5 : takeNs 5 m with
      | none =>
        rw [decT_bad (run_none 5 1 _ _ _ (by rw [hb]; exact h5))]; rfl
      | some q =>
        obtain ⟨l, q⟩ := q
        obtain ⟨hl, e5⟩ := takeNs_sound 5 m hm l q h5
        obtain ⟨a1, a2, a3, a4, a5, rfl⟩ := list5 hl
        rw [run_some 5 1 _ _ _ _ _ (by rw [hb]; exact h5)]
        simp only [Option.map_some, Option.bind_some]
        rw [if_neg (show ¬ (rd (k :: [a1, a2, a3, a4, a5]) 0 = 1 ∨ rd (k :: [a1, a2, a3, a4, a5]) 0 = 2) from hk)]
        have ex : fillE (setF zE 0 k) 1 [a1, a2, a3, a4, a5] = ⟨k, ⟨a1, a2, a3⟩, a4, a5, 0, 0, z33, z33, 0⟩ := rfl
        rw [ex]
        unfold decT
        simp only
        rw [if_neg hk]
        unfold finE
        by_cases hg : GoodE ⟨k, ⟨a1, a2, a3⟩, a4, a5, 0, 0, z33, z33, 0⟩
        · rw [if_pos ⟨rfl, hg⟩]; exact (if_pos hg).symm
        · rw [if_neg (fun h => hg h.2)]; exact (if_neg hg).symm
end Go.Proofs.Ytfjmnaobfbmllaa.M
namespace Go.Proofs.Ytfjmnaobfbmllaa.M
open Go.RowKit Go.Proofs.YtfjmnaobfbmllaaW.PrintWords Go.Proofs.YtfjmnaobfbmllaaW.PrintLast Go.Proofs.YtfjmnaobfbmllaaW.PrintMore
set_option linter.unusedVariables false
set_option linter.unusedSimpArgs false
def fieldPs (g : Nat) : Array Value := #[.pointer (some ⟨g, 0, none⟩), .pointer (some ⟨g, 1, none⟩), .pointer (some ⟨g, 2, none⟩), .pointer (some ⟨g, 3, none⟩), .pointer (some ⟨g, 4, none⟩), .pointer (some ⟨g, 5, none⟩), .pointer (some ⟨g, 6, none⟩), .pointer (some ⟨g, 7, none⟩), .pointer (some ⟨g, 12, none⟩)]
set_option maxHeartbeats 8000000 in
set_option maxRecDepth 100000 in
theorem entry_fields.calls (g : Nat) (k : Int) (r : Array Value) (w : World) (hb : w.heap[g]? = some (.cells r 65 (0, 0))) (h0 : w.cell? ⟨g, 0, none⟩ = some (.int .i64 k)) :
    Calls Try.prog 97 #[.pointer (some ⟨g, 0, none⟩)] w fun e w' => ∃ h : Nat, e = .returned (.slice (some ⟨h, 0, none⟩) (if k = 1 ∨ k = 2 then 9 else 6) 9) ∧ w'.heap[h]? = some (.cells (fieldPs g) 119 (0, 0)) ∧ w.heap.size ≤ h ∧ Below w.heap.size w w' := by
  have hu65 := Try.underlying65
  have hu52 := Try.underlying52
  have hu116 := Try.underlying116
  have HBK := Aside0.mk hb
  have HC0 := Aside0.mk h0
  have HB := Aside0.mk (Below.refl w.heap.size w)
  clear hb h0
  go_enter Try.func97, Try.ntmps97
  go_wp2
  refine start_ (n := 32) (S := fun _ => True) (ds := []) #[false, false, false, false, false, false, false, false, false, false, false, false, false, false, false, false, false, false, false, false, false, false, false, false, false, false, false, false, false, false, false, false] (by kernel_rfl) rfl rfl trivial (fun hHeld => ?_)
  have n0_ := Aside0.mk (blk_drew HBK.out)
  have n1_ := Aside0.mk (below_drew1 HB.out)
  have n2_ : Aside0 (w.drew.cell? ⟨g, 0, none⟩ = some (.int .i64 k)) := ⟨HC0.out⟩
  clear HBK HB HC0
  have HBK := n0_
  have HB := n1_
  have HC0 := n2_
  clear n0_ n1_ n2_
  generalize w.drew = w1 at HBK HB HC0 hHeld ⊢
  refine pure_ (i := 0) (N := some 4) (v := ?_) (a' := ?_) #[true, false, false, false, false, false, false, false, false, false, false, false, false, false, false, false, false, false, false, false, false, false, false, false, false, false, false, false, false, false, false, false] rfl rfl (by kernel_rfl) (fun _ _ _ h => h) (Or.inl ⟨by rfl, ?_⟩) ?_ ?_
  rotate_left
  · intro w'
    go_simp
    with_reducible rfl
  rotate_left
  · simp only [Act.put, List.setIfInBounds_toArray, List.set_cons_zero, List.set_cons_succ]
    rfl
  refine pure_ (i := 1) (N := some 5) (v := ?_) (a' := ?_) #[true, true, false, false, false, false, false, false, false, false, false, false, false, false, false, false, false, false, false, false, false, false, false, false, false, false, false, false, false, false, false, false] rfl rfl (by kernel_rfl) (fun _ _ _ h => h) (Or.inl ⟨by rfl, ?_⟩) ?_ ?_
  rotate_left
  · intro w'
    go_simp
    with_reducible rfl
  rotate_left
  · simp only [Act.put, List.setIfInBounds_toArray, List.set_cons_zero, List.set_cons_succ]
    rfl
  refine pure_ (i := 2) (N := some 6) (v := ?_) (a' := ?_) #[true, true, true, false, false, false, false, false, false, false, false, false, false, false, false, false, false, false, false, false, false, false, false, false, false, false, false, false, false, false, false, false] rfl rfl (by kernel_rfl) (fun _ _ _ h => h) (Or.inl ⟨by rfl, ?_⟩) ?_ ?_
  rotate_left
  · intro w'
    go_simp
    with_reducible rfl
  rotate_left
  · simp only [Act.put, List.setIfInBounds_toArray, List.set_cons_zero, List.set_cons_succ]
    rfl
  refine pure_ (i := 3) (N := some 7) (v := ?_) (a' := ?_) #[true, true, true, true, false, false, false, false, false, false, false, false, false, false, false, false, false, false, false, false, false, false, false, false, false, false, false, false, false, false, false, false] rfl rfl (by kernel_rfl) (fun _ _ _ h => h) (Or.inl ⟨by rfl, ?_⟩) ?_ ?_
  rotate_left
  · intro w'
    go_simp
    with_reducible rfl
  rotate_left
  · simp only [Act.put, List.setIfInBounds_toArray, List.set_cons_zero, List.set_cons_succ]
    rfl
  refine pure_ (i := 4) (N := some 8) (v := ?_) (a' := ?_) #[true, true, true, true, true, false, false, false, false, false, false, false, false, false, false, false, false, false, false, false, false, false, false, false, false, false, false, false, false, false, false, false] rfl rfl (by kernel_rfl) (fun _ _ _ h => h) (Or.inl ⟨by rfl, ?_⟩) ?_ ?_
  rotate_left
  · intro w'
    go_simp
    with_reducible rfl
  rotate_left
  · simp only [Act.put, List.setIfInBounds_toArray, List.set_cons_zero, List.set_cons_succ]
    rfl
  refine pure_ (i := 5) (N := some 9) (v := ?_) (a' := ?_) #[true, true, true, true, true, true, false, false, false, false, false, false, false, false, false, false, false, false, false, false, false, false, false, false, false, false, false, false, false, false, false, false] rfl rfl (by kernel_rfl) (fun _ _ _ h => h) (Or.inl ⟨by rfl, ?_⟩) ?_ ?_
  rotate_left
  · intro w'
    go_simp
    with_reducible rfl
  rotate_left
  · simp only [Act.put, List.setIfInBounds_toArray, List.set_cons_zero, List.set_cons_succ]
    rfl
  refine pure_ (i := 6) (N := some 10) (v := ?_) (a' := ?_) #[true, true, true, true, true, true, true, false, false, false, false, false, false, false, false, false, false, false, false, false, false, false, false, false, false, false, false, false, false, false, false, false] rfl rfl (by kernel_rfl) (fun _ _ _ h => h) (Or.inl ⟨by rfl, ?_⟩) ?_ ?_
  rotate_left
  · intro w'
    go_simp
    with_reducible rfl
  rotate_left
  · simp only [Act.put, List.setIfInBounds_toArray, List.set_cons_zero, List.set_cons_succ]
    rfl
  refine pure_ (i := 7) (N := some 11) (v := ?_) (a' := ?_) #[true, true, true, true, true, true, true, true, false, false, false, false, false, false, false, false, false, false, false, false, false, false, false, false, false, false, false, false, false, false, false, false] rfl rfl (by kernel_rfl) (fun _ _ _ h => h) (Or.inl ⟨by rfl, ?_⟩) ?_ ?_
  rotate_left
  · intro w'
    go_simp
    with_reducible rfl
  rotate_left
  · simp only [Act.put, List.setIfInBounds_toArray, List.set_cons_zero, List.set_cons_succ]
    rfl
  refine pure_ (i := 8) (N := some 12) (v := ?_) (a' := ?_) #[true, true, true, true, true, true, true, true, true, false, false, false, false, false, false, false, false, false, false, false, false, false, false, false, false, false, false, false, false, false, false, false] rfl rfl (by kernel_rfl) (fun _ _ _ h => h) (Or.inl ⟨by rfl, ?_⟩) ?_ ?_
  rotate_left
  · intro w'
    go_simp
    with_reducible rfl
  rotate_left
  · simp only [Act.put, List.setIfInBounds_toArray, List.set_cons_zero, List.set_cons_succ]
    rfl
  refine pure_ (i := 9) (N := some 13) (v := ?_) (a' := ?_) #[true, true, true, true, true, true, true, true, true, true, false, false, false, false, false, false, false, false, false, false, false, false, false, false, false, false, false, false, false, false, false, false] rfl rfl (by kernel_rfl) (fun _ _ _ h => h) (Or.inl ⟨by rfl, ?_⟩) ?_ ?_
  rotate_left
  · intro w'
    go_simp
    with_reducible rfl
  rotate_left
  · simp only [Act.put, List.setIfInBounds_toArray, List.set_cons_zero, List.set_cons_succ]
    rfl
  refine pure_ (i := 10) (N := some 14) (v := ?_) (a' := ?_) #[true, true, true, true, true, true, true, true, true, true, true, false, false, false, false, false, false, false, false, false, false, false, false, false, false, false, false, false, false, false, false, false] rfl rfl (by kernel_rfl) (fun _ _ _ h => h) (Or.inl ⟨by rfl, ?_⟩) ?_ ?_
  rotate_left
  · intro w'
    go_simp
    with_reducible rfl
  rotate_left
  · simp only [Act.put, List.setIfInBounds_toArray, List.set_cons_zero, List.set_cons_succ]
    rfl
  refine pure_ (i := 11) (N := some 15) (v := ?_) (a' := ?_) #[true, true, true, true, true, true, true, true, true, true, true, true, false, false, false, false, false, false, false, false, false, false, false, false, false, false, false, false, false, false, false, false] rfl rfl (by kernel_rfl) (fun _ _ _ h => h) (Or.inl ⟨by rfl, ?_⟩) ?_ ?_
  rotate_left
  · intro w'
    go_simp
    with_reducible rfl
  rotate_left
  · simp only [Act.put, List.setIfInBounds_toArray, List.set_cons_zero, List.set_cons_succ]
    rfl
  refine pure_ (i := 12) (N := some 16) (v := ?_) (a' := ?_) #[true, true, true, true, true, true, true, true, true, true, true, true, true, false, false, false, false, false, false, false, false, false, false, false, false, false, false, false, false, false, false, false] rfl rfl (by kernel_rfl) (fun _ _ _ h => h) (Or.inl ⟨by rfl, ?_⟩) ?_ ?_
  rotate_left
  · intro w'
    go_simp
    with_reducible rfl
  rotate_left
  · simp only [Act.put, List.setIfInBounds_toArray, List.set_cons_zero, List.set_cons_succ]
    rfl
  refine pure_ (i := 13) (N := some 17) (v := ?_) (a' := ?_) #[true, true, true, true, true, true, true, true, true, true, true, true, true, true, false, false, false, false, false, false, false, false, false, false, false, false, false, false, false, false, false, false] rfl rfl (by kernel_rfl) (fun _ _ _ h => h) (Or.inl ⟨by rfl, ?_⟩) ?_ ?_
  rotate_left
  · intro w'
    go_simp
    with_reducible rfl
  rotate_left
  · simp only [Act.put, List.setIfInBounds_toArray, List.set_cons_zero, List.set_cons_succ]
    rfl
  refine pure_ (i := 14) (N := some 18) (v := ?_) (a' := ?_) #[true, true, true, true, true, true, true, true, true, true, true, true, true, true, true, false, false, false, false, false, false, false, false, false, false, false, false, false, false, false, false, false] rfl rfl (by kernel_rfl) (fun _ _ _ h => h) (Or.inl ⟨by rfl, ?_⟩) ?_ ?_
  rotate_left
  · intro w'
    go_simp
    with_reducible rfl
  rotate_left
  · simp only [Act.put, List.setIfInBounds_toArray, List.set_cons_zero, List.set_cons_succ]
    rfl
  refine pure_ (i := 15) (N := some 19) (v := ?_) (a' := ?_) #[true, true, true, true, true, true, true, true, true, true, true, true, true, true, true, true, false, false, false, false, false, false, false, false, false, false, false, false, false, false, false, false] rfl rfl (by kernel_rfl) (fun _ _ _ h => h) (Or.inl ⟨by rfl, ?_⟩) ?_ ?_
  rotate_left
  · intro w'
    go_simp
    with_reducible rfl
  rotate_left
  · simp only [Act.put, List.setIfInBounds_toArray, List.set_cons_zero, List.set_cons_succ]
    rfl
  refine pure_ (i := 16) (N := some 20) (v := ?_) (a' := ?_) #[true, true, true, true, true, true, true, true, true, true, true, true, true, true, true, true, true, false, false, false, false, false, false, false, false, false, false, false, false, false, false, false] rfl rfl (by kernel_rfl) (fun _ _ _ h => h) (Or.inl ⟨by rfl, ?_⟩) ?_ ?_
  rotate_left
  · intro w'
    go_simp
    with_reducible rfl
  rotate_left
  · simp only [Act.put, List.setIfInBounds_toArray, List.set_cons_zero, List.set_cons_succ]
    rfl
  refine pure_ (i := 17) (N := some 21) (v := ?_) (a' := ?_) #[true, true, true, true, true, true, true, true, true, true, true, true, true, true, true, true, true, true, false, false, false, false, false, false, false, false, false, false, false, false, false, false] rfl rfl (by kernel_rfl) (fun _ _ _ h => h) (Or.inl ⟨by rfl, ?_⟩) ?_ ?_
  rotate_left
  · intro w'
    go_simp
    with_reducible rfl
  rotate_left
  · simp only [Act.put, List.setIfInBounds_toArray, List.set_cons_zero, List.set_cons_succ]
    rfl
  refine pure_ (i := 18) (N := some 22) (v := ?_) (a' := ?_) #[true, true, true, true, true, true, true, true, true, true, true, true, true, true, true, true, true, true, true, false, false, false, false, false, false, false, false, false, false, false, false, false] rfl rfl (by kernel_rfl) (fun _ _ _ h => h) (Or.inl ⟨by rfl, ?_⟩) ?_ ?_
  rotate_left
  · intro w'
    go_simp
    with_reducible rfl
  rotate_left
  · simp only [Act.put, List.setIfInBounds_toArray, List.set_cons_zero, List.set_cons_succ]
    rfl
  refine pure_ (i := 19) (N := some 23) (v := ?_) (a' := ?_) #[true, true, true, true, true, true, true, true, true, true, true, true, true, true, true, true, true, true, true, true, false, false, false, false, false, false, false, false, false, false, false, false] rfl rfl (by kernel_rfl) (fun _ _ _ h => h) (Or.inl ⟨by rfl, ?_⟩) ?_ ?_
  rotate_left
  · intro w'
    go_simp
    with_reducible rfl
  rotate_left
  · simp only [Act.put, List.setIfInBounds_toArray, List.set_cons_zero, List.set_cons_succ]
    rfl
  refine pure_ (i := 20) (N := some 24) (v := ?_) (a' := ?_) #[true, true, true, true, true, true, true, true, true, true, true, true, true, true, true, true, true, true, true, true, true, false, false, false, false, false, false, false, false, false, false, false] rfl rfl (by kernel_rfl) (fun _ _ _ h => h) (Or.inl ⟨by rfl, ?_⟩) ?_ ?_
  rotate_left
  · intro w'
    go_simp
    with_reducible rfl
  rotate_left
  · simp only [Act.put, List.setIfInBounds_toArray, List.set_cons_zero, List.set_cons_succ]
    rfl
  refine pure_ (i := 21) (N := some 25) (v := ?_) (a' := ?_) #[true, true, true, true, true, true, true, true, true, true, true, true, true, true, true, true, true, true, true, true, true, true, false, false, false, false, false, false, false, false, false, false] rfl rfl (by kernel_rfl) (fun _ _ _ h => h) (Or.inl ⟨by rfl, ?_⟩) ?_ ?_
  rotate_left
  · intro w'
    go_simp
    with_reducible rfl
  rotate_left
  · simp only [Act.put, List.setIfInBounds_toArray, List.set_cons_zero, List.set_cons_succ]
    rfl
  refine pure_ (i := 22) (N := some 26) (v := ?_) (a' := ?_) #[true, true, true, true, true, true, true, true, true, true, true, true, true, true, true, true, true, true, true, true, true, true, true, false, false, false, false, false, false, false, false, false] rfl rfl (by kernel_rfl) (fun _ _ _ h => h) (Or.inl ⟨by rfl, ?_⟩) ?_ ?_
  rotate_left
  · intro w'
    go_simp
    with_reducible rfl
  rotate_left
  · simp only [Act.put, List.setIfInBounds_toArray, List.set_cons_zero, List.set_cons_succ]
    rfl
  refine pure_ (i := 23) (N := some 27) (v := ?_) (a' := ?_) #[true, true, true, true, true, true, true, true, true, true, true, true, true, true, true, true, true, true, true, true, true, true, true, true, false, false, false, false, false, false, false, false] rfl rfl (by kernel_rfl) (fun _ _ _ h => h) (Or.inl ⟨by rfl, ?_⟩) ?_ ?_
  rotate_left
  · intro w'
    go_simp
    with_reducible rfl
  rotate_left
  · simp only [Act.put, List.setIfInBounds_toArray, List.set_cons_zero, List.set_cons_succ]
    rfl
  refine pure_ (i := 24) (N := some 28) (v := ?_) (a' := ?_) #[true, true, true, true, true, true, true, true, true, true, true, true, true, true, true, true, true, true, true, true, true, true, true, true, true, false, false, false, false, false, false, false] rfl rfl (by kernel_rfl) (fun _ _ _ h => h) (Or.inl ⟨by rfl, ?_⟩) ?_ ?_
  rotate_left
  · intro w'
    go_simp
    with_reducible rfl
  rotate_left
  · simp only [Act.put, List.setIfInBounds_toArray, List.set_cons_zero, List.set_cons_succ]
    rfl
  refine pure_ (i := 25) (N := some 29) (v := ?_) (a' := ?_) #[true, true, true, true, true, true, true, true, true, true, true, true, true, true, true, true, true, true, true, true, true, true, true, true, true, true, false, false, false, false, false, false] rfl rfl (by kernel_rfl) (fun _ _ _ h => h) (Or.inl ⟨by rfl, ?_⟩) ?_ ?_
  rotate_left
  · intro w'
    go_simp
    with_reducible rfl
  rotate_left
  · simp only [Act.put, List.setIfInBounds_toArray, List.set_cons_zero, List.set_cons_succ]
    rfl
  refine pure_ (i := 26) (N := some 30) (v := ?_) (a' := ?_) #[true, true, true, true, true, true, true, true, true, true, true, true, true, true, true, true, true, true, true, true, true, true, true, true, true, true, true, false, false, false, false, false] rfl rfl (by kernel_rfl) (fun _ _ _ h => h) (Or.inl ⟨by rfl, ?_⟩) ?_ ?_
  rotate_left
  · intro w'
    go_simp
    with_reducible rfl
  rotate_left
  · simp only [Act.put, List.setIfInBounds_toArray, List.set_cons_zero, List.set_cons_succ]
    rfl
  refine pure_ (i := 27) (N := some 31) (v := ?_) (a' := ?_) #[true, true, true, true, true, true, true, true, true, true, true, true, true, true, true, true, true, true, true, true, true, true, true, true, true, true, true, true, false, false, false, false] rfl rfl (by kernel_rfl) (fun _ _ _ h => h) (Or.inl ⟨by rfl, ?_⟩) ?_ ?_
  rotate_left
  · intro w'
    go_simp
    with_reducible rfl
  rotate_left
  · simp only [Act.put, List.setIfInBounds_toArray, List.set_cons_zero, List.set_cons_succ]
    rfl
  refine pure_ (i := 28) (N := some 32) (v := ?_) (a' := ?_) #[true, true, true, true, true, true, true, true, true, true, true, true, true, true, true, true, true, true, true, true, true, true, true, true, true, true, true, true, true, false, false, false] rfl rfl (by kernel_rfl) (fun _ _ _ h => h) (Or.inl ⟨by rfl, ?_⟩) ?_ ?_
  rotate_left
  · intro w'
    go_simp
    with_reducible rfl
  rotate_left
  · simp only [Act.put, List.setIfInBounds_toArray, List.set_cons_zero, List.set_cons_succ]
    rfl
  refine pure_ (i := 29) (N := some 33) (v := ?_) (a' := ?_) #[true, true, true, true, true, true, true, true, true, true, true, true, true, true, true, true, true, true, true, true, true, true, true, true, true, true, true, true, true, true, false, false] rfl rfl (by kernel_rfl) (fun _ _ _ h => h) (Or.inl ⟨by rfl, ?_⟩) ?_ ?_
  rotate_left
  · intro w'
    go_simp
    with_reducible rfl
  rotate_left
  · simp only [Act.put, List.setIfInBounds_toArray, List.set_cons_zero, List.set_cons_succ]
    rfl
  refine one_ (i := 30) (N := some 34) #[true, true, true, true, true, true, true, true, true, true, true, true, true, true, true, true, true, true, true, true, true, true, true, true, true, true, true, true, true, true, true, false] rfl rfl (by kernel_rfl) (by decide) (fun K hK => ?_)
  refine value_ (w1 := ?_) (v := ?_) (by rfl) rfl ?_ ?_
  rotate_left 2
  · go_simp
    constructor
    · rfl
    · rfl
  refine hK.out _ _ trivial (fun hHeld2 => ?_)
  clear hK K
  refine norm_ (a' := ?_) ?_ ?_
  rotate_left
  · show Act.put _ (some 34) _ = _
    simp only [Act.put, List.setIfInBounds_toArray, List.set_cons_zero, List.set_cons_succ]
    rfl
  have n0_ := Aside0.mk (blk_alloc HBK.out (.cells (fieldPs g) 119))
  have n1_ := Aside0.mk (below_alloc HB.out (.cells (fieldPs g) 119))
  have n3_ : Aside0 ((w1.alloc (.cells (fieldPs g) 119)).heap[w1.heap.size]? = some (.cells (fieldPs g) 119 (0, 0))) := ⟨blk_new w1 _⟩
  have n2_ := Aside0.mk (HB.out.size : w.heap.size ≤ w1.heap.size)
  have n4_ : Aside0 ((w1.alloc (.cells (fieldPs g) 119)).cell? ⟨g, 0, none⟩ = some (.int .i64 k)) := ⟨by rw [World.cell?_alloc_lt _ _ _ (blk_lt HBK.out)]; exact HC0.out⟩
  refine pure_ (i := 31) (N := some 3) (v := ?_) (a' := ?_) #[true, true, true, true, true, true, true, true, true, true, true, true, true, true, true, true, true, true, true, true, true, true, true, true, true, true, true, true, true, true, true, true] rfl rfl (by kernel_rfl) (fun _ _ _ h => h) (Or.inl ⟨by rfl, ?_⟩) ?_ ?_
  rotate_left
  · intro w'
    go_simp
    with_reducible rfl
  rotate_left
  · simp only [Act.put, List.setIfInBounds_toArray, List.set_cons_zero, List.set_cons_succ]
    rfl
  refine done_ (by kernel_rfl) ?_
  have e_ : w1.alloc (.cells #[.pointer (some ⟨g, 0, none⟩), .pointer (some ⟨g, 1, none⟩), .pointer (some ⟨g, 2, none⟩), .pointer (some ⟨g, 3, none⟩), .pointer (some ⟨g, 4, none⟩), .pointer (some ⟨g, 5, none⟩), .pointer (some ⟨g, 6, none⟩), .pointer (some ⟨g, 7, none⟩), .pointer (some ⟨g, 12, none⟩)] 119) = w1.alloc (.cells (fieldPs g) 119) := rfl
  first | rw [e_] | skip
  clear HBK HB HC0 e_ hHeld hHeld2
  generalize w1.alloc (.cells (fieldPs g) 119) = w2 at n0_ n1_ n3_ n4_ ⊢
  generalize w1.heap.size = h at n2_ n3_ ⊢
  have hc0 := n4_.out
  by_cases k1 : k = 1
  · subst k1
    go_wp2
    go_ret
    exact ⟨h, rfl, n3_.out, n2_.out, n1_.out⟩
  · by_cases k2 : k = 2
    · subst k2
      go_wp2
      go_ret
      exact ⟨h, rfl, n3_.out, n2_.out, n1_.out⟩
    · have q1 : (k == 1) = false := beq_eq_false_iff_ne.mpr k1
      have q2 : (k == 2) = false := beq_eq_false_iff_ne.mpr k2
      have q3 : (k != 1) = true := bne_iff_ne.mpr k1
      have q4 : (k != 2) = true := bne_iff_ne.mpr k2
      go_wp2
      go_ret
      exact ⟨_, rfl, n3_.out, n2_.out, n1_.out⟩
end Go.Proofs.Ytfjmnaobfbmllaa.M
namespace Go.Proofs.Ytfjmnaobfbmllaa.M
open Go.RowKit Go.Proofs.YtfjmnaobfbmllaaW.PrintWords Go.Proofs.YtfjmnaobfbmllaaW.PrintLast Go.Proofs.YtfjmnaobfbmllaaW.PrintMore
attribute [local go_sem] max2_int min2_int max_two min_two max_three min_three max_four min_four   -- for this text's walks alone
set_option linter.unusedVariables false
set_option linter.unusedSimpArgs false
def IsS127 (w0 W : World) (g : Nat) (f0 : ByteArray) (f1 : Bool) : Prop := W.heap[g]? = some (.cells #[.string f0, .bool f1] 127 (0, 0)) ∧ w0.heap.size ≤ g
theorem IsS127.grown {w0 W : World} {g : Nat} {f0 : ByteArray} {f1 : Bool} {W1 : World} {row : Option Nat} (h : IsS127 w0 W g f0 f1) (hw : W.grownBy W1 row) (hne : some g ≠ row) : IsS127 w0 W1 g f0 f1 := by
 obtain ⟨hb, hg⟩ := h
 exact ⟨blk_grown hb hw hne, hg⟩
theorem IsS127.kept {w0 W : World} {g : Nat} {f0 : ByteArray} {f1 : Bool} {W1 : World} {S : Nat → Prop} (h : IsS127 w0 W g f0 f1) (hk : Kept W W1 S) (hne : ¬ S g) : IsS127 w0 W1 g f0 f1 := by
 obtain ⟨hb, hg⟩ := h
 exact ⟨blk_kept hb hk hne, hg⟩
theorem IsS127.below {w0 W : World} {g : Nat} {f0 : ByteArray} {f1 : Bool} {W1 : World} (h : IsS127 w0 W g f0 f1) (hw : Below W.heap.size W W1) : IsS127 w0 W1 g f0 f1 := h.grown (grown_of_below hw none) (by simp)
theorem IsS127.alloc {w0 W : World} {g : Nat} {f0 : ByteArray} {f1 : Bool} (h : IsS127 w0 W g f0 f1) (o : Obj) : IsS127 w0 (W.alloc o) g f0 f1 := h.below (below_alloc (Below.refl _ _) o)
theorem IsS127.drewN {w0 W : World} {g : Nat} {f0 : ByteArray} {f1 : Bool} (h : IsS127 w0 W g f0 f1) (m : Nat) : IsS127 w0 (W.drewN m) g f0 f1 := h
theorem IsS127.drew {w0 W : World} {g : Nat} {f0 : ByteArray} {f1 : Bool} (h : IsS127 w0 W g f0 f1) : IsS127 w0 W.drew g f0 f1 := h
theorem IsS127.at_ {w0 W : World} {g : Nat} {f0 : ByteArray} {f1 : Bool} {w' : World} {m : Nat} (hq : W.drewN m = w') (h : IsS127 w0 W g f0 f1) : IsS127 w0 w' g f0 f1 := by subst hq; exact IsS127.drewN h m
theorem IsS127.apart {w0 W : World} {g : Nat} {f0 : ByteArray} {f1 : Bool} {α : Type} {d : Kd α} {e : Nat} {base : Nat} {ok : Nat → Prop} {v : Value} {xs : List α} (h : IsS127 w0 W g f0 f1) (ho : d.R e W base ok v xs) (ht : ∀ q, q ∈ e :: d.E → q ≠ 127) : d.R e W base (fun k => ok k ∧ k ≠ g) v xs := by
 obtain ⟨hb, hg⟩ := h
 exact Kd.R_types ho hb ht
theorem IsS127.own_ne {w0 W : World} {g : Nat} {f0 : ByteArray} {f1 : Bool} {α : Type} {d : Kd α} {e : Nat} {base : Nat} {ok : Nat → Prop} {v : Value} {xs : List α} (h : IsS127 w0 W g f0 f1) (ho : d.R e W base ok v xs) (ht : e ≠ 127) : some g ≠ v.ownBlock := by
 obtain ⟨hb, hg⟩ := h
 exact Kd.R_ne ho hb ht
theorem IsS127.lt {w0 W : World} {g : Nat} {f0 : ByteArray} {f1 : Bool} (h : IsS127 w0 W g f0 f1) : g < W.heap.size := by
 obtain ⟨hb, hg⟩ := h
 exact blk_lt hb
theorem IsS127.ge {w0 W : World} {g : Nat} {f0 : ByteArray} {f1 : Bool} (h : IsS127 w0 W g f0 f1) : w0.heap.size ≤ g := by
 obtain ⟨hb, hg⟩ := h
 exact hg
theorem IsS127.far {w0 W : World} {g : Nat} {f0 : ByteArray} {f1 : Bool} {p : Addr} (h : IsS127 w0 W g f0 f1) (hne : g ≠ p.block) (u : Value) : IsS127 w0 (W.setCell p u) g f0 f1 := by
 obtain ⟨hb, hg⟩ := h
 exact ⟨blk_far hb hne u, hg⟩
theorem cellS127_0 {W : World} {g : Nat} {f0 : ByteArray} {f1 : Bool} (h : W.heap[g]? = some (.cells #[.string f0, .bool f1] 127 (0, 0))) : W.cell? ⟨g, 0, none⟩ = some (.string f0) := (blk_cell h 0).trans rfl
theorem IsS127.set_0 {w0 W : World} {g : Nat} {f0 : ByteArray} {f1 : Bool} (h : IsS127 w0 W g f0 f1) (x : ByteArray) : IsS127 w0 (W.setCell ⟨g, 0, none⟩ (.string x)) g x f1 := by
 obtain ⟨hb, hg⟩ := h
 exact ⟨by simpa using blk_set hb 0 (.string x), hg⟩
theorem cellS127_1 {W : World} {g : Nat} {f0 : ByteArray} {f1 : Bool} (h : W.heap[g]? = some (.cells #[.string f0, .bool f1] 127 (0, 0))) : W.cell? ⟨g, 1, none⟩ = some (.bool f1) := (blk_cell h 1).trans rfl
theorem IsS127.set_1 {w0 W : World} {g : Nat} {f0 : ByteArray} {f1 : Bool} (h : IsS127 w0 W g f0 f1) (x : Bool) : IsS127 w0 (W.setCell ⟨g, 1, none⟩ (.bool x)) g f0 x := by
 obtain ⟨hb, hg⟩ := h
 exact ⟨by simpa using blk_set hb 1 (.bool x), hg⟩
def entry_taker_int.f (s0_0 : ByteArray) (s0_1 : Bool) : Option (Int × ByteArray × Bool) := (nibTake.f s0_0).bind fun bt101 => (if s0_1 = true then (some (bt101.1, bt101.2.1, true)) else (some (bt101.1, bt101.2.1, !bt101.2.2)))
set_option maxHeartbeats 8000000 in
set_option maxRecDepth 100000 in
theorem entry_taker_int.calls (g : Nat) (s0_0 : ByteArray) (s0_1 : Bool) (r1 : Int) (r2 : ByteArray) (r3 : Bool) (w0 w : World) (hI : IsS127 w0 w g s0_0 s0_1) (hB : Below w0.heap.size w0 w) (h : entry_taker_int.f s0_0 s0_1 = some (r1, r2, r3)) :
  Calls Try.prog 107 #[.pointer (some ⟨g, 0, none⟩)] w fun e w' => e = .returned (.int .i64 r1) ∧ IsS127 w0 w' g r2 r3 ∧ Below w0.heap.size w0 w' ∧ KeepBut w w' g none := by
 have HI0 := Aside0.mk hI
 have HK := Aside0.mk (KeepBut.refl w g none)
 have HL := Aside0.mk hB.size
 clear hI
 have HW0 := Aside0.mk hB.size
 have HB := Aside0.mk hB
 clear hB
 have H : ((nibTake.f s0_0).bind fun bt101 => (if s0_1 = true then (some (bt101.1, bt101.2.1, true)) else (some (bt101.1, bt101.2.1, !bt101.2.2)))) = some (r1, r2, r3) := h
 clear h
 replace H := Option.bind_eq_some_iff.mp H
 obtain ⟨⟨t101, t102, t103⟩, A20, H⟩ := H
 replace H : (if s0_1 = true then (some (t101, t102, true)) else (some (t101, t102, !t103))) = some (r1, r2, r3) := H
 have A2 := Aside0.mk A20
 clear A20
 by_cases c3 : s0_1 = true
 ·subst c3
  have H1 : (some (t101, t102, true)) = some (r1, r2, r3) := by rw [if_pos rfl] at H; exact H
  clear H
  have H := H1
  clear H1
  simp only [Option.some.injEq, Prod.mk.injEq] at H
  obtain ⟨rfl, rfl, rfl⟩ := H
  obtain ⟨HGz4, hgz4⟩ := HI0.out
  have hcz4_0 := cellS127_0 HGz4
  have hcz4_1 := cellS127_1 HGz4
  obtain ⟨hfz4_0, hfz4_1⟩ := fr2 HGz4
  clear HGz4 hgz4
  go_enter Try.func107, Try.ntmps107
  go_wp2_with (first | ((with_reducible refine gate_callee (f := 120) rfl ?_); refine goesL_ (some 11) rfl rfl Try.func120 (by kernel_rfl) rfl #[.string s0_0] rfl (by (try simp only [List.map_toArray, List.map_cons, List.map_nil]); first | done | rfl | (simp only [List.length_drop, List.length_take]; rfl)) ?_; (with_reducible refine (nibTake.calls s0_0 t101 t102 t103 _ A2.out).mono ?_); rintro e w5 ⟨rfl, hb⟩; refine ⟨_, rfl, ?_⟩; have n0_ := Aside0.mk (IsS127.below (by repeat (first | (with_reducible first | exact HI0.out | apply IsS127.alloc | apply IsS127.drewN | apply IsS127.drew | apply IsS127.set_0 | apply IsS127.set_1) | exact HI0.out)) hb); have n1_ := Aside0.mk (KeepBut.trans (by repeat (first | (with_reducible first | exact HK.out | apply KeepBut.set_ | apply keep_drewN | apply keep_drew | apply keep_alloc) | exact HK.out)) (KeepBut.of_below hb g none) (.inl rfl)); have n2_ := Aside0.mk (below_step (by repeat (first | (with_reducible first | exact HB.out | apply below_alloc | apply pw_below_drewN | apply below_drew1 | refine below_set ?_ (IsS127.ge HI0.out)) | exact HB.out)) hb); clear HI0; clear HK; clear HB; have HI0 := n0_; have HK := n1_; have HB := n2_; clear n0_ n1_ n2_; (try clear hb); (try clear hb2); (try clear hk); (try clear hi); obtain ⟨HGz6, hgz6⟩ := HI0.out; have hcz6_0 := cellS127_0 HGz6; have hcz6_1 := cellS127_1 HGz6; obtain ⟨hfz6_0, hfz6_1⟩ := fr2 HGz6; clear HGz6 hgz6))
  go_ret
  exact ⟨by first | rfl | (simp [errW_none, errW_some] <;> rfl) | (simp [*, errW_none, errW_some] <;> rfl), by repeat (first | (with_reducible first | exact HI0.out | apply IsS127.alloc | apply IsS127.drewN | apply IsS127.drew | apply IsS127.set_0 | apply IsS127.set_1) | exact HI0.out), by repeat (first | (with_reducible first | exact HB.out | apply below_alloc | apply pw_below_drewN | apply below_drew1 | refine below_set ?_ (IsS127.ge HI0.out)) | exact HB.out), by repeat (first | (with_reducible first | exact HK.out | apply KeepBut.set_ | apply keep_drewN | apply keep_drew | apply keep_alloc) | exact HK.out)⟩
 ·replace c3 := Bool.eq_false_iff.mpr c3
  subst c3
  have H1 : (some (t101, t102, !t103)) = some (r1, r2, r3) := by rw [if_neg (show ¬ (false = true) by decide)] at H; exact H
  clear H
  have H := H1
  clear H1
  simp only [Option.some.injEq, Prod.mk.injEq] at H
  obtain ⟨rfl, rfl, rfl⟩ := H
  obtain ⟨HGz7, hgz7⟩ := HI0.out
  have hcz7_0 := cellS127_0 HGz7
  have hcz7_1 := cellS127_1 HGz7
  obtain ⟨hfz7_0, hfz7_1⟩ := fr2 HGz7
  clear HGz7 hgz7
  go_enter Try.func107, Try.ntmps107
  go_wp2_with (first | ((with_reducible refine gate_callee (f := 120) rfl ?_); refine goesL_ (some 11) rfl rfl Try.func120 (by kernel_rfl) rfl #[.string s0_0] rfl (by (try simp only [List.map_toArray, List.map_cons, List.map_nil]); first | done | rfl | (simp only [List.length_drop, List.length_take]; rfl)) ?_; (with_reducible refine (nibTake.calls s0_0 t101 t102 t103 _ A2.out).mono ?_); rintro e w8 ⟨rfl, hb⟩; refine ⟨_, rfl, ?_⟩; have n0_ := Aside0.mk (IsS127.below (by repeat (first | (with_reducible first | exact HI0.out | apply IsS127.alloc | apply IsS127.drewN | apply IsS127.drew | apply IsS127.set_0 | apply IsS127.set_1) | exact HI0.out)) hb); have n1_ := Aside0.mk (KeepBut.trans (by repeat (first | (with_reducible first | exact HK.out | apply KeepBut.set_ | apply keep_drewN | apply keep_drew | apply keep_alloc) | exact HK.out)) (KeepBut.of_below hb g none) (.inl rfl)); have n2_ := Aside0.mk (below_step (by repeat (first | (with_reducible first | exact HB.out | apply below_alloc | apply pw_below_drewN | apply below_drew1 | refine below_set ?_ (IsS127.ge HI0.out)) | exact HB.out)) hb); clear HI0; clear HK; clear HB; have HI0 := n0_; have HK := n1_; have HB := n2_; clear n0_ n1_ n2_; (try clear hb); (try clear hb2); (try clear hk); (try clear hi); obtain ⟨HGz9, hgz9⟩ := HI0.out; have hcz9_0 := cellS127_0 HGz9; have hcz9_1 := cellS127_1 HGz9; obtain ⟨hfz9_0, hfz9_1⟩ := fr2 HGz9; clear HGz9 hgz9))
  go_ret
  exact ⟨by first | rfl | (simp [errW_none, errW_some] <;> rfl) | (simp [*, errW_none, errW_some] <;> rfl), by repeat (first | (with_reducible first | exact HI0.out | apply IsS127.alloc | apply IsS127.drewN | apply IsS127.drew | apply IsS127.set_0 | apply IsS127.set_1) | exact HI0.out), by repeat (first | (with_reducible first | exact HB.out | apply below_alloc | apply pw_below_drewN | apply below_drew1 | refine below_set ?_ (IsS127.ge HI0.out)) | exact HB.out), by repeat (first | (with_reducible first | exact HK.out | apply KeepBut.set_ | apply keep_drewN | apply keep_drew | apply keep_alloc) | exact HK.out)⟩
end Go.Proofs.Ytfjmnaobfbmllaa.M
namespace Go.Proofs.Ytfjmnaobfbmllaa.M
open Go.RowKit Go.Proofs.YtfjmnaobfbmllaaW.PrintWords Go.Proofs.YtfjmnaobfbmllaaW.PrintLast Go.Proofs.YtfjmnaobfbmllaaW.PrintMore
attribute [local go_sem] max2_int min2_int max_two min_two max_three min_three max_four min_four   -- for this text's walks alone
set_option linter.unusedVariables false
set_option linter.unusedSimpArgs false
def nib_Str.f (a0 : ByteArray) : Option (ByteArray) := (nibInt.f (a0.size : Int)).bind fun t101 => (if t101.size + a0.size ≤ 9223372036854775807 then (some (t101 ++ a0)) else (none))
set_option maxHeartbeats 8000000 in
set_option maxRecDepth 100000 in
theorem nib_Str.calls (a0 : ByteArray) (r : ByteArray) (w : World) (h : nib_Str.f a0 = some r) :
  Calls Try.prog 122 #[.string a0] w fun e w' => e = .returned (.string r) ∧ Below w.heap.size w w' := by
 have HB := Aside0.mk (Below.refl w.heap.size w)
 have H : ((nibInt.f (a0.size : Int)).bind fun t101 => (if t101.size + a0.size ≤ 9223372036854775807 then (some (t101 ++ a0)) else (none))) = some r := h
 clear h
 replace H := Option.bind_eq_some_iff.mp H
 obtain ⟨t101, A20, H⟩ := H
 replace H : (if t101.size + a0.size ≤ 9223372036854775807 then (some (t101 ++ a0)) else (none)) = some r := H
 have A2 := Aside0.mk A20
 clear A20
 by_cases c3 : t101.size + a0.size ≤ 9223372036854775807
 ·rw [if_pos c3] at H
  have c3b0 := eq_true c3
  have c3b1 : decide (t101.size + a0.size ≤ 9223372036854775807) = true := decide_eq_true c3
  try have c3b2 : (9223372036854775807 < t101.size + a0.size) = False := eq_false (Nat.not_lt.2 c3)
  obtain rfl := Option.some.inj H
  go_enter Try.func122, Try.ntmps122
  go_wp2_with (first | ((with_reducible refine gate_callee (f := 98) rfl ?_); refine goesL_ (some 5) rfl rfl Try.func98 (by kernel_rfl) rfl #[.int .i64 (a0.size : Int)] rfl (by (try simp only [List.map_toArray, List.map_cons, List.map_nil]); first | done | rfl | (simp only [List.length_drop, List.length_take]; rfl)) ?_; (with_reducible refine (nibInt.calls (a0.size : Int) t101 _ A2.out).mono ?_); rintro e w4 ⟨rfl, hb⟩; refine ⟨_, rfl, ?_⟩; have n0_ := Aside0.mk (below_step HB.out hb); clear HB; have HB := n0_; clear n0_; (try clear hb); (try clear hb2); (try clear hk); (try clear hi)))
  go_ret
  exact ⟨by first | rfl | (simp [errW_none, errW_some] <;> rfl) | (simp [*, errW_none, errW_some] <;> rfl), by repeat (first | (with_reducible first | exact HB.out | apply below_alloc | apply pw_below_drewN | apply below_drew1) | exact HB.out)⟩
 ·rw [if_neg c3] at H
  exact absurd H (by simp)
end Go.Proofs.Ytfjmnaobfbmllaa.M
namespace Go.Proofs.Ytfjmnaobfbmllaa.M
open Go.RowKit Go.Proofs.YtfjmnaobfbmllaaW.PrintWords Go.Proofs.YtfjmnaobfbmllaaW.PrintLast Go.Proofs.YtfjmnaobfbmllaaW.PrintMore
attribute [local go_sem] max2_int min2_int max_two min_two max_three min_three max_four min_four   -- for this text's walks alone
set_option linter.unusedVariables false
set_option linter.unusedSimpArgs false
def nib_TakeStr.f (a0 : ByteArray) (a1 : Int) : Option (ByteArray × ByteArray × Bool) := (nibTake.f a0).bind fun bt101 => (if bt101.2.2 = true then (if bt101.1 < 0 then (some ((⟨#[]⟩ : ByteArray), (⟨#[]⟩ : ByteArray), false)) else (if bt101.1 > (mn a1 (bt101.2.1.size : Int)) then (some ((⟨#[]⟩ : ByteArray), (⟨#[]⟩ : ByteArray), false)) else (if 0 ≤ bt101.1 then (if bt101.1 ≤ (bt101.2.1.size : Int) then (some (bt101.2.1.extract 0 (bt101.1 : Int).toNat, bt101.2.1.extract (bt101.1 : Int).toNat bt101.2.1.size, true)) else (none)) else (none)))) else (some ((⟨#[]⟩ : ByteArray), (⟨#[]⟩ : ByteArray), false)))
set_option maxHeartbeats 8000000 in
set_option maxRecDepth 100000 in
theorem nib_TakeStr.calls (a0 : ByteArray) (a1 : Int) (r1 : ByteArray) (r2 : ByteArray) (r3 : Bool) (w : World) (h : nib_TakeStr.f a0 a1 = some (r1, r2, r3)) :
  Calls Try.prog 126 #[.string a0, .int .i64 a1] w fun e w' => e = .returned (.tuple #[.string r1, .string r2, .bool r3]) ∧ Below w.heap.size w w' := by
 have HB := Aside0.mk (Below.refl w.heap.size w)
 have H : ((nibTake.f a0).bind fun bt101 => (if bt101.2.2 = true then (if bt101.1 < 0 then (some ((⟨#[]⟩ : ByteArray), (⟨#[]⟩ : ByteArray), false)) else (if bt101.1 > (mn a1 (bt101.2.1.size : Int)) then (some ((⟨#[]⟩ : ByteArray), (⟨#[]⟩ : ByteArray), false)) else (if 0 ≤ bt101.1 then (if bt101.1 ≤ (bt101.2.1.size : Int) then (some (bt101.2.1.extract 0 (bt101.1 : Int).toNat, bt101.2.1.extract (bt101.1 : Int).toNat bt101.2.1.size, true)) else (none)) else (none)))) else (some ((⟨#[]⟩ : ByteArray), (⟨#[]⟩ : ByteArray), false)))) = some (r1, r2, r3) := h
 clear h
 replace H := Option.bind_eq_some_iff.mp H
 obtain ⟨⟨t101, t102, t103⟩, A30, H⟩ := H
 replace H : (if t103 = true then (if t101 < 0 then (some ((⟨#[]⟩ : ByteArray), (⟨#[]⟩ : ByteArray), false)) else (if t101 > (mn a1 (t102.size : Int)) then (some ((⟨#[]⟩ : ByteArray), (⟨#[]⟩ : ByteArray), false)) else (if 0 ≤ t101 then (if t101 ≤ (t102.size : Int) then (some (t102.extract 0 (t101 : Int).toNat, t102.extract (t101 : Int).toNat t102.size, true)) else (none)) else (none)))) else (some ((⟨#[]⟩ : ByteArray), (⟨#[]⟩ : ByteArray), false))) = some (r1, r2, r3) := H
 have A3 := Aside0.mk A30
 clear A30
 by_cases c4 : t103 = true
 ·subst c4
  have H1 : (if t101 < 0 then (some ((⟨#[]⟩ : ByteArray), (⟨#[]⟩ : ByteArray), false)) else (if t101 > (mn a1 (t102.size : Int)) then (some ((⟨#[]⟩ : ByteArray), (⟨#[]⟩ : ByteArray), false)) else (if 0 ≤ t101 then (if t101 ≤ (t102.size : Int) then (some (t102.extract 0 (t101 : Int).toNat, t102.extract (t101 : Int).toNat t102.size, true)) else (none)) else (none)))) = some (r1, r2, r3) := by rw [if_pos rfl] at H; exact H
  clear H
  have H := H1
  clear H1
  by_cases c5 : t101 < 0
  ·rw [if_pos c5] at H
   have c5b0 : decide (t101 < 0) = true := decide_eq_true c5
   clear c5
   simp only [Option.some.injEq, Prod.mk.injEq] at H
   obtain ⟨rfl, rfl, rfl⟩ := H
   go_enter Try.func126, Try.ntmps126
   go_wp2_with (first | (go_at_call 120; (with_reducible refine (nibTake.calls a0 t101 t102 true _ A3.out).mono ?_); rintro e w6 ⟨rfl, hb⟩; have n0_ := Aside0.mk (below_step HB.out hb); clear HB; have HB := n0_; clear n0_; (try clear hb); (try clear hb2); (try clear hk); (try clear hi)))
   repeat (go_quiet (first | (go_at_call 120; (with_reducible refine (nibTake.calls a0 t101 t102 true _ A3.out).mono ?_); rintro e w6 ⟨rfl, hb⟩; have n0_ := Aside0.mk (below_step HB.out hb); clear HB; have HB := n0_; clear n0_; (try clear hb); (try clear hb2); (try clear hk); (try clear hi))); try go_wp2_with (first | (go_at_call 120; (with_reducible refine (nibTake.calls a0 t101 t102 true _ A3.out).mono ?_); rintro e w6 ⟨rfl, hb⟩; have n0_ := Aside0.mk (below_step HB.out hb); clear HB; have HB := n0_; clear n0_; (try clear hb); (try clear hb2); (try clear hk); (try clear hi))))
   go_ret3
   exact ⟨by first | rfl | (simp [errW_none, errW_some] <;> rfl) | (simp [*, errW_none, errW_some] <;> rfl), by repeat (first | (with_reducible first | exact HB.out | apply below_alloc | apply pw_below_drewN | apply below_drew1) | exact HB.out)⟩
  ·rw [if_neg c5] at H
   have c5b0 : decide (t101 < 0) = false := decide_eq_false c5
   clear c5
   obtain ⟨ji7, hji7⟩ : ∃ j_ : Int, (mn a1 (t102.size : Int)) = j_ := ⟨_, rfl⟩
   replace H : (if t101 > (ji7) then (some ((⟨#[]⟩ : ByteArray), (⟨#[]⟩ : ByteArray), false)) else (if 0 ≤ t101 then (if t101 ≤ (t102.size : Int) then (some (t102.extract 0 (t101 : Int).toNat, t102.extract (t101 : Int).toNat t102.size, true)) else (none)) else (none))) = some (r1, r2, r3) := by first | (rw [hji7] at H; exact H) | (simp only [hji7] at H ⊢; exact H)
   (try rw [hji7] at A3)
   have hji7_ : (if (t102.size : Int) < a1 then (t102.size : Int) else a1) = ji7 := hji7
   by_cases c8 : t101 > (ji7)
   ·rw [if_pos c8] at H
    have c8b0 : decide ((ji7) < t101) = true := decide_eq_true c8
    clear c8
    simp only [Option.some.injEq, Prod.mk.injEq] at H
    obtain ⟨rfl, rfl, rfl⟩ := H
    go_enter Try.func126, Try.ntmps126
    go_wp2_with (first | (go_at_call 120; (with_reducible refine (nibTake.calls a0 t101 t102 true _ A3.out).mono ?_); rintro e w9 ⟨rfl, hb⟩; have n0_ := Aside0.mk (below_step HB.out hb); clear HB; have HB := n0_; clear n0_; (try clear hb); (try clear hb2); (try clear hk); (try clear hi)))
    repeat (go_quiet (first | (go_at_call 120; (with_reducible refine (nibTake.calls a0 t101 t102 true _ A3.out).mono ?_); rintro e w9 ⟨rfl, hb⟩; have n0_ := Aside0.mk (below_step HB.out hb); clear HB; have HB := n0_; clear n0_; (try clear hb); (try clear hb2); (try clear hk); (try clear hi))); try go_wp2_with (first | (go_at_call 120; (with_reducible refine (nibTake.calls a0 t101 t102 true _ A3.out).mono ?_); rintro e w9 ⟨rfl, hb⟩; have n0_ := Aside0.mk (below_step HB.out hb); clear HB; have HB := n0_; clear n0_; (try clear hb); (try clear hb2); (try clear hk); (try clear hi))))
    go_ret3
    exact ⟨by first | rfl | (simp [errW_none, errW_some] <;> rfl) | (simp only [← hji7]; first | rfl | (simp [errW_none, errW_some] <;> rfl)) | (simp [*, errW_none, errW_some] <;> rfl), by repeat (first | (with_reducible first | exact HB.out | apply below_alloc | apply pw_below_drewN | apply below_drew1) | exact HB.out)⟩
   ·rw [if_neg c8] at H
    have c8b0 : decide ((ji7) < t101) = false := decide_eq_false c8
    clear c8
    by_cases c10 : 0 ≤ t101
    ·rw [if_pos c10] at H
     have c10b0 := eq_true c10
     have c10b1 : decide (0 ≤ t101) = true := decide_eq_true c10
     clear c10
     by_cases c11 : t101 ≤ (t102.size : Int)
     ·rw [if_pos c11] at H
      have c11b0 := eq_true c11
      have c11b1 : decide (t101 ≤ (t102.size : Int)) = true := decide_eq_true c11
      clear c11
      have c12b0 := eq_true (of_decide_eq_true (by first | (with_reducible assumption) | assumption) : 0 ≤ t101)
      have c13b0 := eq_true (of_decide_eq_true (by first | (with_reducible assumption) | assumption) : t101 ≤ (t102.size : Int))
      simp only [Option.some.injEq, Prod.mk.injEq] at H
      obtain ⟨rfl, rfl, rfl⟩ := H
      go_enter Try.func126, Try.ntmps126
      go_wp2_with (first | (go_at_call 120; (with_reducible refine (nibTake.calls a0 t101 t102 true _ A3.out).mono ?_); rintro e w14 ⟨rfl, hb⟩; have n0_ := Aside0.mk (below_step HB.out hb); clear HB; have HB := n0_; clear n0_; (try clear hb); (try clear hb2); (try clear hk); (try clear hi)))
      repeat (go_quiet (first | (go_at_call 120; (with_reducible refine (nibTake.calls a0 t101 t102 true _ A3.out).mono ?_); rintro e w14 ⟨rfl, hb⟩; have n0_ := Aside0.mk (below_step HB.out hb); clear HB; have HB := n0_; clear n0_; (try clear hb); (try clear hb2); (try clear hk); (try clear hi))); try go_wp2_with (first | (go_at_call 120; (with_reducible refine (nibTake.calls a0 t101 t102 true _ A3.out).mono ?_); rintro e w14 ⟨rfl, hb⟩; have n0_ := Aside0.mk (below_step HB.out hb); clear HB; have HB := n0_; clear n0_; (try clear hb); (try clear hb2); (try clear hk); (try clear hi))))
      go_ret3
      exact ⟨by first | rfl | (simp [errW_none, errW_some] <;> rfl) | (simp only [← hji7]; first | rfl | (simp [errW_none, errW_some] <;> rfl)) | (simp [*, errW_none, errW_some] <;> rfl), by repeat (first | (with_reducible first | exact HB.out | apply below_alloc | apply pw_below_drewN | apply below_drew1) | exact HB.out)⟩
     ·rw [if_neg c11] at H
      exact absurd H (by simp)
    ·rw [if_neg c10] at H
     exact absurd H (by simp)
 ·replace c4 := Bool.eq_false_iff.mpr c4
  subst c4
  have H1 : (some ((⟨#[]⟩ : ByteArray), (⟨#[]⟩ : ByteArray), false)) = some (r1, r2, r3) := by rw [if_neg (show ¬ (false = true) by decide)] at H; exact H
  clear H
  have H := H1
  clear H1
  simp only [Option.some.injEq, Prod.mk.injEq] at H
  obtain ⟨rfl, rfl, rfl⟩ := H
  go_enter Try.func126, Try.ntmps126
  go_wp2_with (first | (go_at_call 120; (with_reducible refine (nibTake.calls a0 t101 t102 false _ A3.out).mono ?_); rintro e w15 ⟨rfl, hb⟩; have n0_ := Aside0.mk (below_step HB.out hb); clear HB; have HB := n0_; clear n0_; (try clear hb); (try clear hb2); (try clear hk); (try clear hi)))
  repeat (go_quiet (first | (go_at_call 120; (with_reducible refine (nibTake.calls a0 t101 t102 false _ A3.out).mono ?_); rintro e w15 ⟨rfl, hb⟩; have n0_ := Aside0.mk (below_step HB.out hb); clear HB; have HB := n0_; clear n0_; (try clear hb); (try clear hb2); (try clear hk); (try clear hi))); try go_wp2_with (first | (go_at_call 120; (with_reducible refine (nibTake.calls a0 t101 t102 false _ A3.out).mono ?_); rintro e w15 ⟨rfl, hb⟩; have n0_ := Aside0.mk (below_step HB.out hb); clear HB; have HB := n0_; clear n0_; (try clear hb); (try clear hb2); (try clear hk); (try clear hi))))
  go_ret3
  exact ⟨by first | rfl | (simp [errW_none, errW_some] <;> rfl) | (simp [*, errW_none, errW_some] <;> rfl), by repeat (first | (with_reducible first | exact HB.out | apply below_alloc | apply pw_below_drewN | apply below_drew1) | exact HB.out)⟩
end Go.Proofs.Ytfjmnaobfbmllaa.M
namespace Go.Proofs.Ytfjmnaobfbmllaa.M
open Go.RowKit Go.Proofs.YtfjmnaobfbmllaaW.PrintWords Go.Proofs.YtfjmnaobfbmllaaW.PrintLast Go.Proofs.YtfjmnaobfbmllaaW.PrintMore
set_option linter.unusedVariables false
set_option linter.unusedSimpArgs false
def nibStr.f (s : ByteArray) : Option ByteArray := if s.size ≤ 4611686018427387904 then some (strOfNums (strB s)) else none
theorem nibStr.calls (s r : ByteArray) (w : World) (h : nibStr.f s = some r) : Calls Try.prog 122 #[.string s] w fun e w' => e = .returned (.string r) ∧ Below w.heap.size w w' := by
  unfold nibStr.f at h
  split at h
  · rename_i hs
    refine nib_Str.calls s r w ?_
    unfold nib_Str.f nibInt.f
    have := (intB_len s.size).2
    rw [if_pos (show 0 ≤ (s.size : Int) ∧ (s.size : Int) ≤ 4611686018427387904 by omega), Option.bind_some, if_pos (by rw [strOfNums_size]; omega), str_append _ _ (intB_range _ hs)]
    exact h
  · cases h
def nibTakeStr.f (s : ByteArray) (m : Int) : Option (ByteArray × ByteArray × Bool) := some (textR m (takeR s))
theorem nibtext_pure (s : ByteArray) (m : Int) : nib_TakeStr.f s m = some (textR m (takeR s)) := by
  unfold nib_TakeStr.f nibTake.f
  rw [Option.bind_some]
  generalize takeR s = t
  obtain ⟨n, rest, ok⟩ := t
  unfold textR
  simp only
  have hmn : mn m (rest.size : Int) = if m ≤ rest.size then m else rest.size := by unfold mn; split <;> split <;> omega
  cases ok with
  | false => rw [if_neg Bool.false_ne_true, if_neg (by simp)]
  | true =>
    rw [if_pos rfl]
    by_cases h0 : n < 0
    · rw [if_pos h0, if_neg (by omega)]
    · rw [if_neg h0]
      by_cases h1 : n > mn m (rest.size : Int)
      · rw [if_pos h1, if_neg]
        rintro ⟨_, _, h2, h3⟩
        rw [hmn] at h1
        split at h1 <;> omega
      · have h2 : n ≤ m ∧ n ≤ rest.size := by
          rw [hmn] at h1
          split at h1 <;> omega
        rw [if_neg h1, if_pos (show 0 ≤ n by omega), if_pos h2.2, if_pos ⟨rfl, by omega, h2.1, h2.2⟩]
theorem nibTakeStr.calls (s : ByteArray) (m : Int) (r1 r2 : ByteArray) (r3 : Bool) (w : World) (h : nibTakeStr.f s m = some (r1, r2, r3)) :
    Calls Try.prog 126 #[.string s, .int .i64 m] w fun e w' => e = .returned (.tuple #[.string r1, .string r2, .bool r3]) ∧ Below w.heap.size w w' :=
  nib_TakeStr.calls s m r1 r2 r3 w (by rw [nibtext_pure s m]; exact h)
end Go.Proofs.Ytfjmnaobfbmllaa.M
namespace Go.Proofs.Ytfjmnaobfbmllaa.M
open Go.RowKit Go.Proofs.YtfjmnaobfbmllaaW.PrintWords Go.Proofs.YtfjmnaobfbmllaaW.PrintLast Go.Proofs.YtfjmnaobfbmllaaW.PrintMore
attribute [local go_sem] max2_int min2_int max_two min_two max_three min_three max_four min_four   -- for this text's walks alone
set_option linter.unusedVariables false
set_option linter.unusedSimpArgs false
def entry_taker_slot.f (s0_0 : ByteArray) (s0_1 : Bool) : Option (Bool × ByteArray × ByteArray × Bool) := (entry_taker_int.f s0_0 s0_1).bind fun bt102 => (if bt102.1 = 0 then (some (false, (⟨#[]⟩ : ByteArray), bt102.2.1, bt102.2.2)) else (if bt102.1 = 1 then ((nibTakeStr.f bt102.2.1 200).bind fun bt105 => (if bt102.2.2 = true then (some (true, bt105.1, bt105.2.1, true)) else (some (true, bt105.1, bt105.2.1, !bt105.2.2)))) else (some (false, (⟨#[]⟩ : ByteArray), bt102.2.1, true))))
set_option maxHeartbeats 8000000 in
set_option maxRecDepth 100000 in
theorem entry_taker_slot.calls (g : Nat) (s0_0 : ByteArray) (s0_1 : Bool) (r1 : Bool) (r2 : ByteArray) (r3 : ByteArray) (r4 : Bool) (w0 w : World) (hI : IsS127 w0 w g s0_0 s0_1) (hB : Below w0.heap.size w0 w) (h : entry_taker_slot.f s0_0 s0_1 = some (r1, r2, r3, r4)) :
  Calls Try.prog 108 #[.pointer (some ⟨g, 0, none⟩)] w fun e w' => e = .returned (.agg #[.bool r1, .string r2]) ∧ IsS127 w0 w' g r3 r4 ∧ Below w0.heap.size w0 w' ∧ KeepBut w w' g none := by
 have hu33 := Try.underlying33
 have HI0 := Aside0.mk hI
 have HK := Aside0.mk (KeepBut.refl w g none)
 have HL := Aside0.mk hB.size
 clear hI
 have HW0 := Aside0.mk hB.size
 have HB := Aside0.mk hB
 clear hB
 have H : ((entry_taker_int.f s0_0 s0_1).bind fun bt102 => (if bt102.1 = 0 then (some (false, (⟨#[]⟩ : ByteArray), bt102.2.1, bt102.2.2)) else (if bt102.1 = 1 then ((nibTakeStr.f bt102.2.1 200).bind fun bt105 => (if bt102.2.2 = true then (some (true, bt105.1, bt105.2.1, true)) else (some (true, bt105.1, bt105.2.1, !bt105.2.2)))) else (some (false, (⟨#[]⟩ : ByteArray), bt102.2.1, true))))) = some (r1, r2, r3, r4) := h
 clear h
 replace H := Option.bind_eq_some_iff.mp H
 obtain ⟨⟨t102, t103, t104⟩, A20, H⟩ := H
 replace H : (if t102 = 0 then (some (false, (⟨#[]⟩ : ByteArray), t103, t104)) else (if t102 = 1 then ((nibTakeStr.f t103 200).bind fun bt105 => (if t104 = true then (some (true, bt105.1, bt105.2.1, true)) else (some (true, bt105.1, bt105.2.1, !bt105.2.2)))) else (some (false, (⟨#[]⟩ : ByteArray), t103, true)))) = some (r1, r2, r3, r4) := H
 have A2 := Aside0.mk A20
 clear A20
 by_cases c3 : t102 = 0
 ·rw [if_pos c3] at H
  have c3b0 : (t102 == 0) = true := beq_iff_eq.mpr c3
  have c3b1 : (t102 != 0) = false := bne_eq_false_iff_eq.mpr c3
  clear c3
  simp only [Option.some.injEq, Prod.mk.injEq] at H
  obtain ⟨rfl, rfl, rfl, rfl⟩ := H
  go_enter Try.func108, Try.ntmps108
  go_wp2_with (first | ((with_reducible refine gate_dst (N := 2) rfl ?_); refine box_event ?hg (N := 2) ?hd (cs := #[.bool false, .string (⟨#[]⟩ : ByteArray)]) (t := 33) ?hr ?_; (case hd => rfl); (case hg => rfl); (case hr => first | (go_simp; done) | (go_simp; rfl)); intro gb101 hg w4 hbox hb; have n0_ := Aside0.mk (IsS127.below (by repeat (first | (with_reducible first | exact HI0.out | apply IsS127.alloc | apply IsS127.drewN | apply IsS127.drew | apply IsS127.set_0 | apply IsS127.set_1) | exact HI0.out)) hb); have n1_ := Aside0.mk (KeepBut.trans (by repeat (first | (with_reducible first | exact HK.out | apply KeepBut.set_ | apply keep_drewN | apply keep_drew | apply keep_alloc) | exact HK.out)) (KeepBut.of_below hb g none) (.inl rfl)); have n2_ := Aside0.mk (below_step (by repeat (first | (with_reducible first | exact HB.out | apply below_alloc | apply pw_below_drewN | apply below_drew1 | refine below_set ?_ (IsS127.ge HI0.out)) | exact HB.out)) hb); have n3_ := Aside0.mk (hbox); have n4_ := Aside0.mk ((by rw [hg]; exact (keep_size (w := w) (g := g) (row := none) (by repeat (first | (with_reducible first | exact HK.out | apply KeepBut.set_ | apply keep_drewN | apply keep_drew | apply keep_alloc) | exact HK.out))) : w.heap.size ≤ gb101)); have n5_ := Aside0.mk ((Nat.le_trans HW0.out (by rw [hg]; exact (keep_size (w := w) (g := g) (row := none) (by repeat (first | (with_reducible first | exact HK.out | apply KeepBut.set_ | apply keep_drewN | apply keep_drew | apply keep_alloc) | exact HK.out))) : w.heap.size ≤ gb101) : w0.heap.size ≤ gb101)); have n6_ := Aside0.mk ((by rw [hg]; exact Nat.ne_of_lt (IsS127.lt (show IsS127 w0 _ g s0_0 s0_1 from by repeat (first | (with_reducible first | exact HI0.out | apply IsS127.alloc | apply IsS127.drewN | apply IsS127.drew | apply IsS127.set_0 | apply IsS127.set_1) | exact HI0.out))) : g ≠ gb101)); have n7_ := Aside0.mk ((by rw [hg]; exact Nat.ne_of_gt (IsS127.lt (show IsS127 w0 _ g s0_0 s0_1 from by repeat (first | (with_reducible first | exact HI0.out | apply IsS127.alloc | apply IsS127.drewN | apply IsS127.drew | apply IsS127.set_0 | apply IsS127.set_1) | exact HI0.out))) : gb101 ≠ g)); clear HI0; clear HK; clear HB; have HI0 := n0_; have HK := n1_; have HB := n2_; have BK101 := n3_; have GW101 := n4_; have GE101 := n5_; have NB0_101 := n6_; have NB101_0 := n7_; clear n0_ n1_ n2_ n3_ n4_ n5_ n6_ n7_; clear hb hbox hg) | ((with_reducible refine gate_callee (f := 107) rfl ?_); refine goesL_ (some 7) rfl rfl Try.func107 (by kernel_rfl) rfl #[.pointer (some ⟨g, 0, none⟩)] rfl (by (try simp only [List.map_toArray, List.map_cons, List.map_nil]); first | done | rfl | (simp only [List.length_drop, List.length_take]; rfl)) ?_; (with_reducible refine (entry_taker_int.calls g s0_0 s0_1 t102 t103 t104 w0 _ ?side1 ?side2 A2.out).mono ?_); (case side1 => repeat (first | (with_reducible first | exact HI0.out | apply IsS127.alloc | apply IsS127.drewN | apply IsS127.drew | apply IsS127.set_0 | apply IsS127.set_1 | refine IsS127.far ?_ NB0_101.out _) | exact HI0.out)); (case side2 => repeat (first | (with_reducible first | exact HB.out | apply below_alloc | apply pw_below_drewN | apply below_drew1 | refine below_set ?_ (IsS127.ge HI0.out) | refine below_set ?_ GE101.out) | exact HB.out)); rintro e w5 ⟨rfl, hi, hb, hk⟩; refine ⟨_, rfl, ?_⟩; have n0_ := Aside0.mk (KeepBut.blk hk (g' := gb101) (o := .cells #[.bool false, .string (⟨#[]⟩ : ByteArray)] 33 (0, 0)) (by (with_reducible repeat (first | refine blk_drewN ?_ _ | refine blk_drew ?_ | refine blk_alloc ?_ _)); exact BK101.out) NB101_0.out (by simp)); have n1_ := Aside0.mk (KeepBut.trans (by repeat (first | (with_reducible first | exact HK.out | apply KeepBut.set_ | apply keep_drewN | apply keep_drew | apply keep_alloc | refine keep_far ?_ GW101.out _) | exact HK.out)) hk (.inl rfl)); have n2_ := Aside0.mk (hb); have n3_ := Aside0.mk (hi); clear BK101; clear HK; clear HB; clear HI0; have BK101 := n0_; have HK := n1_; have HB := n2_; have HI0 := n3_; clear n0_ n1_ n2_ n3_; (try clear hb); (try clear hb2); (try clear hk); (try clear hi); have hnb6 := NB101_0.out; have hnc6 := NB0_101.out; obtain ⟨hcz7_0, hcz7_1⟩ := cl2 (W := w5) BK101.out; obtain ⟨hfz7_0, hfz7_1⟩ := fr2 BK101.out))
  refine bodyPost_ret (results_cell_row rfl _ _ gb101 33 #[.bool false, .string (⟨#[]⟩ : ByteArray)] (0, 0) _ rfl (by (with_reducible repeat (first | refine blk_drewN ?_ _ | refine blk_drew ?_ | refine blk_alloc ?_ _)); refine blk_put (cs := #[.bool false, .string (⟨#[]⟩ : ByteArray)]) ?_ 1 _ rfl; refine blk_put (cs := #[.bool false, .string (⟨#[]⟩ : ByteArray)]) ?_ 0 _ rfl; (with_reducible repeat (first | refine blk_drewN ?_ _ | refine blk_drew ?_ | refine blk_alloc ?_ _)); exact BK101.out) Try.underlying33 rfl (by kernel_rfl)) rfl ?_
  exact ⟨by first | rfl | (simp [errW_none, errW_some] <;> rfl) | (simp [*, errW_none, errW_some] <;> rfl), by repeat (first | (with_reducible first | exact HI0.out | apply IsS127.alloc | apply IsS127.drewN | apply IsS127.drew | apply IsS127.set_0 | apply IsS127.set_1 | refine IsS127.far ?_ NB0_101.out _) | exact HI0.out), by repeat (first | (with_reducible first | exact HB.out | apply below_alloc | apply pw_below_drewN | apply below_drew1 | refine below_set ?_ (IsS127.ge HI0.out) | refine below_set ?_ GE101.out) | exact HB.out), by repeat (first | (with_reducible first | exact HK.out | apply KeepBut.set_ | apply keep_drewN | apply keep_drew | apply keep_alloc | refine keep_far ?_ GW101.out _) | exact HK.out)⟩
 ·rw [if_neg c3] at H
  have c3b0 : (t102 == 0) = false := beq_eq_false_iff_ne.mpr c3
  have c3b1 : (t102 != 0) = true := bne_iff_ne.mpr c3
  by_cases c8 : t102 = 1
  ·rw [if_pos c8] at H
   have c8b0 : (t102 == 1) = true := beq_iff_eq.mpr c8
   have c8b1 : (t102 != 1) = false := bne_eq_false_iff_eq.mpr c8
   clear c8
   replace H := Option.bind_eq_some_iff.mp H
   obtain ⟨⟨t105, t106, t107⟩, A90, H⟩ := H
   replace H : (if t104 = true then (some (true, t105, t106, true)) else (some (true, t105, t106, !t107))) = some (r1, r2, r3, r4) := H
   have A9 := Aside0.mk A90
   clear A90
   by_cases c10 : t104 = true
   ·subst c10
    have H1 : (some (true, t105, t106, true)) = some (r1, r2, r3, r4) := by rw [if_pos rfl] at H; exact H
    clear H
    have H := H1
    clear H1
    simp only [Option.some.injEq, Prod.mk.injEq] at H
    obtain ⟨rfl, rfl, rfl, rfl⟩ := H
    go_enter Try.func108, Try.ntmps108
    go_wp2_with (first | ((with_reducible refine gate_dst (N := 2) rfl ?_); refine box_event ?hg (N := 2) ?hd (cs := #[.bool false, .string (⟨#[]⟩ : ByteArray)]) (t := 33) ?hr ?_; (case hd => rfl); (case hg => rfl); (case hr => first | (go_simp; done) | (go_simp; rfl)); intro gb101 hg w11 hbox hb; have n0_ := Aside0.mk (IsS127.below (by repeat (first | (with_reducible first | exact HI0.out | apply IsS127.alloc | apply IsS127.drewN | apply IsS127.drew | apply IsS127.set_0 | apply IsS127.set_1) | exact HI0.out)) hb); have n1_ := Aside0.mk (KeepBut.trans (by repeat (first | (with_reducible first | exact HK.out | apply KeepBut.set_ | apply keep_drewN | apply keep_drew | apply keep_alloc) | exact HK.out)) (KeepBut.of_below hb g none) (.inl rfl)); have n2_ := Aside0.mk (below_step (by repeat (first | (with_reducible first | exact HB.out | apply below_alloc | apply pw_below_drewN | apply below_drew1 | refine below_set ?_ (IsS127.ge HI0.out)) | exact HB.out)) hb); have n3_ := Aside0.mk (hbox); have n4_ := Aside0.mk ((by rw [hg]; exact (keep_size (w := w) (g := g) (row := none) (by repeat (first | (with_reducible first | exact HK.out | apply KeepBut.set_ | apply keep_drewN | apply keep_drew | apply keep_alloc) | exact HK.out))) : w.heap.size ≤ gb101)); have n5_ := Aside0.mk ((Nat.le_trans HW0.out (by rw [hg]; exact (keep_size (w := w) (g := g) (row := none) (by repeat (first | (with_reducible first | exact HK.out | apply KeepBut.set_ | apply keep_drewN | apply keep_drew | apply keep_alloc) | exact HK.out))) : w.heap.size ≤ gb101) : w0.heap.size ≤ gb101)); have n6_ := Aside0.mk ((by rw [hg]; exact Nat.ne_of_lt (IsS127.lt (show IsS127 w0 _ g s0_0 s0_1 from by repeat (first | (with_reducible first | exact HI0.out | apply IsS127.alloc | apply IsS127.drewN | apply IsS127.drew | apply IsS127.set_0 | apply IsS127.set_1) | exact HI0.out))) : g ≠ gb101)); have n7_ := Aside0.mk ((by rw [hg]; exact Nat.ne_of_gt (IsS127.lt (show IsS127 w0 _ g s0_0 s0_1 from by repeat (first | (with_reducible first | exact HI0.out | apply IsS127.alloc | apply IsS127.drewN | apply IsS127.drew | apply IsS127.set_0 | apply IsS127.set_1) | exact HI0.out))) : gb101 ≠ g)); clear HI0; clear HK; clear HB; have HI0 := n0_; have HK := n1_; have HB := n2_; have BK101 := n3_; have GW101 := n4_; have GE101 := n5_; have NB0_101 := n6_; have NB101_0 := n7_; clear n0_ n1_ n2_ n3_ n4_ n5_ n6_ n7_; clear hb hbox hg) | ((with_reducible refine gate_callee (f := 107) rfl ?_); refine goesL_ (some 7) rfl rfl Try.func107 (by kernel_rfl) rfl #[.pointer (some ⟨g, 0, none⟩)] rfl (by (try simp only [List.map_toArray, List.map_cons, List.map_nil]); first | done | rfl | (simp only [List.length_drop, List.length_take]; rfl)) ?_; (with_reducible refine (entry_taker_int.calls g s0_0 s0_1 t102 t103 true w0 _ ?side1 ?side2 A2.out).mono ?_); (case side1 => repeat (first | (with_reducible first | exact HI0.out | apply IsS127.alloc | apply IsS127.drewN | apply IsS127.drew | apply IsS127.set_0 | apply IsS127.set_1 | refine IsS127.far ?_ NB0_101.out _) | exact HI0.out)); (case side2 => repeat (first | (with_reducible first | exact HB.out | apply below_alloc | apply pw_below_drewN | apply below_drew1 | refine below_set ?_ (IsS127.ge HI0.out) | refine below_set ?_ GE101.out) | exact HB.out)); rintro e w12 ⟨rfl, hi, hb, hk⟩; refine ⟨_, rfl, ?_⟩; have n0_ := Aside0.mk (KeepBut.blk hk (g' := gb101) (o := .cells #[.bool false, .string (⟨#[]⟩ : ByteArray)] 33 (0, 0)) (by (with_reducible repeat (first | refine blk_drewN ?_ _ | refine blk_drew ?_ | refine blk_alloc ?_ _)); exact BK101.out) NB101_0.out (by simp)); have n1_ := Aside0.mk (KeepBut.trans (by repeat (first | (with_reducible first | exact HK.out | apply KeepBut.set_ | apply keep_drewN | apply keep_drew | apply keep_alloc | refine keep_far ?_ GW101.out _) | exact HK.out)) hk (.inl rfl)); have n2_ := Aside0.mk (hb); have n3_ := Aside0.mk (hi); clear BK101; clear HK; clear HB; clear HI0; have BK101 := n0_; have HK := n1_; have HB := n2_; have HI0 := n3_; clear n0_ n1_ n2_ n3_; (try clear hb); (try clear hb2); (try clear hk); (try clear hi); obtain ⟨HGz13, hgz13⟩ := HI0.out; have hcz13_0 := cellS127_0 HGz13; have hcz13_1 := cellS127_1 HGz13; obtain ⟨hfz13_0, hfz13_1⟩ := fr2 HGz13; clear HGz13 hgz13) | ((with_reducible refine gate_callee (f := 126) rfl ?_); refine goesL_ (some 18) rfl rfl Try.func126 (by kernel_rfl) rfl #[.string t103, .int .i64 200] rfl (by (try simp only [List.map_toArray, List.map_cons, List.map_nil]); first | done | rfl | (simp only [List.length_drop, List.length_take]; rfl)) ?_; (with_reducible refine (nibTakeStr.calls t103 200 t105 t106 t107 _ A9.out).mono ?_); rintro e w14 ⟨rfl, hb⟩; refine ⟨_, rfl, ?_⟩; have n0_ := Aside0.mk (IsS127.below (by repeat (first | (with_reducible first | exact HI0.out | apply IsS127.alloc | apply IsS127.drewN | apply IsS127.drew | apply IsS127.set_0 | apply IsS127.set_1 | refine IsS127.far ?_ NB0_101.out _) | exact HI0.out)) hb); have n1_ := Aside0.mk (blk_below (g := gb101) (o := .cells #[.bool false, .string (⟨#[]⟩ : ByteArray)] 33 (0, 0)) (by (with_reducible repeat (first | refine blk_drewN ?_ _ | refine blk_drew ?_ | refine blk_alloc ?_ _)); exact BK101.out) hb); have n2_ := Aside0.mk (KeepBut.trans (by repeat (first | (with_reducible first | exact HK.out | apply KeepBut.set_ | apply keep_drewN | apply keep_drew | apply keep_alloc | refine keep_far ?_ GW101.out _) | exact HK.out)) (KeepBut.of_below hb g none) (.inl rfl)); have n3_ := Aside0.mk (below_step (by repeat (first | (with_reducible first | exact HB.out | apply below_alloc | apply pw_below_drewN | apply below_drew1 | refine below_set ?_ (IsS127.ge HI0.out) | refine below_set ?_ GE101.out) | exact HB.out)) hb); clear HI0; clear BK101; clear HK; clear HB; have HI0 := n0_; have BK101 := n1_; have HK := n2_; have HB := n3_; clear n0_ n1_ n2_ n3_; (try clear hb); (try clear hb2); (try clear hk); (try clear hi); obtain ⟨HGz15, hgz15⟩ := HI0.out; have hcz15_0 := cellS127_0 HGz15; have hcz15_1 := cellS127_1 HGz15; obtain ⟨hfz15_0, hfz15_1⟩ := fr2 HGz15; clear HGz15 hgz15; have hnb16 := NB101_0.out; have hnc16 := NB0_101.out; obtain ⟨hcz17_0, hcz17_1⟩ := cl2 (W := w14) BK101.out; obtain ⟨hfz17_0, hfz17_1⟩ := fr2 BK101.out))
    refine bodyPost_ret (results_cell_row rfl _ _ gb101 33 #[.bool true, .string t105] (0, 0) _ rfl (by (with_reducible repeat (first | refine blk_drewN ?_ _ | refine blk_drew ?_ | refine blk_alloc ?_ _)); refine blk_put (cs := #[.bool true, .string (⟨#[]⟩ : ByteArray)]) ?_ 1 _ rfl; refine blk_put (cs := #[.bool false, .string (⟨#[]⟩ : ByteArray)]) ?_ 0 _ rfl; refine blk_far ?_ NB101_0.out _; refine blk_far ?_ NB101_0.out _; (with_reducible repeat (first | refine blk_drewN ?_ _ | refine blk_drew ?_ | refine blk_alloc ?_ _)); exact BK101.out) Try.underlying33 rfl (by kernel_rfl)) rfl ?_
    exact ⟨by first | rfl | (simp [errW_none, errW_some] <;> rfl) | (simp [*, errW_none, errW_some] <;> rfl), by repeat (first | (with_reducible first | exact HI0.out | apply IsS127.alloc | apply IsS127.drewN | apply IsS127.drew | apply IsS127.set_0 | apply IsS127.set_1 | refine IsS127.far ?_ NB0_101.out _) | exact HI0.out), by repeat (first | (with_reducible first | exact HB.out | apply below_alloc | apply pw_below_drewN | apply below_drew1 | refine below_set ?_ (IsS127.ge HI0.out) | refine below_set ?_ GE101.out) | exact HB.out), by repeat (first | (with_reducible first | exact HK.out | apply KeepBut.set_ | apply keep_drewN | apply keep_drew | apply keep_alloc | refine keep_far ?_ GW101.out _) | exact HK.out)⟩
   ·replace c10 := Bool.eq_false_iff.mpr c10
    subst c10
    have H1 : (some (true, t105, t106, !t107)) = some (r1, r2, r3, r4) := by rw [if_neg (show ¬ (false = true) by decide)] at H; exact H
    clear H
    have H := H1
    clear H1
    simp only [Option.some.injEq, Prod.mk.injEq] at H
    obtain ⟨rfl, rfl, rfl, rfl⟩ := H
    go_enter Try.func108, Try.ntmps108
    go_wp2_with (first | ((with_reducible refine gate_dst (N := 2) rfl ?_); refine box_event ?hg (N := 2) ?hd (cs := #[.bool false, .string (⟨#[]⟩ : ByteArray)]) (t := 33) ?hr ?_; (case hd => rfl); (case hg => rfl); (case hr => first | (go_simp; done) | (go_simp; rfl)); intro gb101 hg w18 hbox hb; have n0_ := Aside0.mk (IsS127.below (by repeat (first | (with_reducible first | exact HI0.out | apply IsS127.alloc | apply IsS127.drewN | apply IsS127.drew | apply IsS127.set_0 | apply IsS127.set_1) | exact HI0.out)) hb); have n1_ := Aside0.mk (KeepBut.trans (by repeat (first | (with_reducible first | exact HK.out | apply KeepBut.set_ | apply keep_drewN | apply keep_drew | apply keep_alloc) | exact HK.out)) (KeepBut.of_below hb g none) (.inl rfl)); have n2_ := Aside0.mk (below_step (by repeat (first | (with_reducible first | exact HB.out | apply below_alloc | apply pw_below_drewN | apply below_drew1 | refine below_set ?_ (IsS127.ge HI0.out)) | exact HB.out)) hb); have n3_ := Aside0.mk (hbox); have n4_ := Aside0.mk ((by rw [hg]; exact (keep_size (w := w) (g := g) (row := none) (by repeat (first | (with_reducible first | exact HK.out | apply KeepBut.set_ | apply keep_drewN | apply keep_drew | apply keep_alloc) | exact HK.out))) : w.heap.size ≤ gb101)); have n5_ := Aside0.mk ((Nat.le_trans HW0.out (by rw [hg]; exact (keep_size (w := w) (g := g) (row := none) (by repeat (first | (with_reducible first | exact HK.out | apply KeepBut.set_ | apply keep_drewN | apply keep_drew | apply keep_alloc) | exact HK.out))) : w.heap.size ≤ gb101) : w0.heap.size ≤ gb101)); have n6_ := Aside0.mk ((by rw [hg]; exact Nat.ne_of_lt (IsS127.lt (show IsS127 w0 _ g s0_0 s0_1 from by repeat (first | (with_reducible first | exact HI0.out | apply IsS127.alloc | apply IsS127.drewN | apply IsS127.drew | apply IsS127.set_0 | apply IsS127.set_1) | exact HI0.out))) : g ≠ gb101)); have n7_ := Aside0.mk ((by rw [hg]; exact Nat.ne_of_gt (IsS127.lt (show IsS127 w0 _ g s0_0 s0_1 from by repeat (first | (with_reducible first | exact HI0.out | apply IsS127.alloc | apply IsS127.drewN | apply IsS127.drew | apply IsS127.set_0 | apply IsS127.set_1) | exact HI0.out))) : gb101 ≠ g)); clear HI0; clear HK; clear HB; have HI0 := n0_; have HK := n1_; have HB := n2_; have BK101 := n3_; have GW101 := n4_; have GE101 := n5_; have NB0_101 := n6_; have NB101_0 := n7_; clear n0_ n1_ n2_ n3_ n4_ n5_ n6_ n7_; clear hb hbox hg) | ((with_reducible refine gate_callee (f := 107) rfl ?_); refine goesL_ (some 7) rfl rfl Try.func107 (by kernel_rfl) rfl #[.pointer (some ⟨g, 0, none⟩)] rfl (by (try simp only [List.map_toArray, List.map_cons, List.map_nil]); first | done | rfl | (simp only [List.length_drop, List.length_take]; rfl)) ?_; (with_reducible refine (entry_taker_int.calls g s0_0 s0_1 t102 t103 false w0 _ ?side1 ?side2 A2.out).mono ?_); (case side1 => repeat (first | (with_reducible first | exact HI0.out | apply IsS127.alloc | apply IsS127.drewN | apply IsS127.drew | apply IsS127.set_0 | apply IsS127.set_1 | refine IsS127.far ?_ NB0_101.out _) | exact HI0.out)); (case side2 => repeat (first | (with_reducible first | exact HB.out | apply below_alloc | apply pw_below_drewN | apply below_drew1 | refine below_set ?_ (IsS127.ge HI0.out) | refine below_set ?_ GE101.out) | exact HB.out)); rintro e w19 ⟨rfl, hi, hb, hk⟩; refine ⟨_, rfl, ?_⟩; have n0_ := Aside0.mk (KeepBut.blk hk (g' := gb101) (o := .cells #[.bool false, .string (⟨#[]⟩ : ByteArray)] 33 (0, 0)) (by (with_reducible repeat (first | refine blk_drewN ?_ _ | refine blk_drew ?_ | refine blk_alloc ?_ _)); exact BK101.out) NB101_0.out (by simp)); have n1_ := Aside0.mk (KeepBut.trans (by repeat (first | (with_reducible first | exact HK.out | apply KeepBut.set_ | apply keep_drewN | apply keep_drew | apply keep_alloc | refine keep_far ?_ GW101.out _) | exact HK.out)) hk (.inl rfl)); have n2_ := Aside0.mk (hb); have n3_ := Aside0.mk (hi); clear BK101; clear HK; clear HB; clear HI0; have BK101 := n0_; have HK := n1_; have HB := n2_; have HI0 := n3_; clear n0_ n1_ n2_ n3_; (try clear hb); (try clear hb2); (try clear hk); (try clear hi); obtain ⟨HGz20, hgz20⟩ := HI0.out; have hcz20_0 := cellS127_0 HGz20; have hcz20_1 := cellS127_1 HGz20; obtain ⟨hfz20_0, hfz20_1⟩ := fr2 HGz20; clear HGz20 hgz20) | ((with_reducible refine gate_callee (f := 126) rfl ?_); refine goesL_ (some 18) rfl rfl Try.func126 (by kernel_rfl) rfl #[.string t103, .int .i64 200] rfl (by (try simp only [List.map_toArray, List.map_cons, List.map_nil]); first | done | rfl | (simp only [List.length_drop, List.length_take]; rfl)) ?_; (with_reducible refine (nibTakeStr.calls t103 200 t105 t106 t107 _ A9.out).mono ?_); rintro e w21 ⟨rfl, hb⟩; refine ⟨_, rfl, ?_⟩; have n0_ := Aside0.mk (IsS127.below (by repeat (first | (with_reducible first | exact HI0.out | apply IsS127.alloc | apply IsS127.drewN | apply IsS127.drew | apply IsS127.set_0 | apply IsS127.set_1 | refine IsS127.far ?_ NB0_101.out _) | exact HI0.out)) hb); have n1_ := Aside0.mk (blk_below (g := gb101) (o := .cells #[.bool false, .string (⟨#[]⟩ : ByteArray)] 33 (0, 0)) (by (with_reducible repeat (first | refine blk_drewN ?_ _ | refine blk_drew ?_ | refine blk_alloc ?_ _)); exact BK101.out) hb); have n2_ := Aside0.mk (KeepBut.trans (by repeat (first | (with_reducible first | exact HK.out | apply KeepBut.set_ | apply keep_drewN | apply keep_drew | apply keep_alloc | refine keep_far ?_ GW101.out _) | exact HK.out)) (KeepBut.of_below hb g none) (.inl rfl)); have n3_ := Aside0.mk (below_step (by repeat (first | (with_reducible first | exact HB.out | apply below_alloc | apply pw_below_drewN | apply below_drew1 | refine below_set ?_ (IsS127.ge HI0.out) | refine below_set ?_ GE101.out) | exact HB.out)) hb); clear HI0; clear BK101; clear HK; clear HB; have HI0 := n0_; have BK101 := n1_; have HK := n2_; have HB := n3_; clear n0_ n1_ n2_ n3_; (try clear hb); (try clear hb2); (try clear hk); (try clear hi); obtain ⟨HGz22, hgz22⟩ := HI0.out; have hcz22_0 := cellS127_0 HGz22; have hcz22_1 := cellS127_1 HGz22; obtain ⟨hfz22_0, hfz22_1⟩ := fr2 HGz22; clear HGz22 hgz22; have hnb23 := NB101_0.out; have hnc23 := NB0_101.out; obtain ⟨hcz24_0, hcz24_1⟩ := cl2 (W := w21) BK101.out; obtain ⟨hfz24_0, hfz24_1⟩ := fr2 BK101.out))
    refine bodyPost_ret (results_cell_row rfl _ _ gb101 33 #[.bool true, .string t105] (0, 0) _ rfl (by (with_reducible repeat (first | refine blk_drewN ?_ _ | refine blk_drew ?_ | refine blk_alloc ?_ _)); refine blk_put (cs := #[.bool true, .string (⟨#[]⟩ : ByteArray)]) ?_ 1 _ rfl; refine blk_put (cs := #[.bool false, .string (⟨#[]⟩ : ByteArray)]) ?_ 0 _ rfl; refine blk_far ?_ NB101_0.out _; refine blk_far ?_ NB101_0.out _; (with_reducible repeat (first | refine blk_drewN ?_ _ | refine blk_drew ?_ | refine blk_alloc ?_ _)); exact BK101.out) Try.underlying33 rfl (by kernel_rfl)) rfl ?_
    exact ⟨by first | rfl | (simp [errW_none, errW_some] <;> rfl) | (simp [*, errW_none, errW_some] <;> rfl), by repeat (first | (with_reducible first | exact HI0.out | apply IsS127.alloc | apply IsS127.drewN | apply IsS127.drew | apply IsS127.set_0 | apply IsS127.set_1 | refine IsS127.far ?_ NB0_101.out _) | exact HI0.out), by repeat (first | (with_reducible first | exact HB.out | apply below_alloc | apply pw_below_drewN | apply below_drew1 | refine below_set ?_ (IsS127.ge HI0.out) | refine below_set ?_ GE101.out) | exact HB.out), by repeat (first | (with_reducible first | exact HK.out | apply KeepBut.set_ | apply keep_drewN | apply keep_drew | apply keep_alloc | refine keep_far ?_ GW101.out _) | exact HK.out)⟩
  ·rw [if_neg c8] at H
   have c8b0 : (t102 == 1) = false := beq_eq_false_iff_ne.mpr c8
   have c8b1 : (t102 != 1) = true := bne_iff_ne.mpr c8
   simp only [Option.some.injEq, Prod.mk.injEq] at H
   obtain ⟨rfl, rfl, rfl, rfl⟩ := H
   go_enter Try.func108, Try.ntmps108
   go_wp2_with (first | ((with_reducible refine gate_dst (N := 2) rfl ?_); refine box_event ?hg (N := 2) ?hd (cs := #[.bool false, .string (⟨#[]⟩ : ByteArray)]) (t := 33) ?hr ?_; (case hd => rfl); (case hg => rfl); (case hr => first | (go_simp; done) | (go_simp; rfl)); intro gb101 hg w25 hbox hb; have n0_ := Aside0.mk (IsS127.below (by repeat (first | (with_reducible first | exact HI0.out | apply IsS127.alloc | apply IsS127.drewN | apply IsS127.drew | apply IsS127.set_0 | apply IsS127.set_1) | exact HI0.out)) hb); have n1_ := Aside0.mk (KeepBut.trans (by repeat (first | (with_reducible first | exact HK.out | apply KeepBut.set_ | apply keep_drewN | apply keep_drew | apply keep_alloc) | exact HK.out)) (KeepBut.of_below hb g none) (.inl rfl)); have n2_ := Aside0.mk (below_step (by repeat (first | (with_reducible first | exact HB.out | apply below_alloc | apply pw_below_drewN | apply below_drew1 | refine below_set ?_ (IsS127.ge HI0.out)) | exact HB.out)) hb); have n3_ := Aside0.mk (hbox); have n4_ := Aside0.mk ((by rw [hg]; exact (keep_size (w := w) (g := g) (row := none) (by repeat (first | (with_reducible first | exact HK.out | apply KeepBut.set_ | apply keep_drewN | apply keep_drew | apply keep_alloc) | exact HK.out))) : w.heap.size ≤ gb101)); have n5_ := Aside0.mk ((Nat.le_trans HW0.out (by rw [hg]; exact (keep_size (w := w) (g := g) (row := none) (by repeat (first | (with_reducible first | exact HK.out | apply KeepBut.set_ | apply keep_drewN | apply keep_drew | apply keep_alloc) | exact HK.out))) : w.heap.size ≤ gb101) : w0.heap.size ≤ gb101)); have n6_ := Aside0.mk ((by rw [hg]; exact Nat.ne_of_lt (IsS127.lt (show IsS127 w0 _ g s0_0 s0_1 from by repeat (first | (with_reducible first | exact HI0.out | apply IsS127.alloc | apply IsS127.drewN | apply IsS127.drew | apply IsS127.set_0 | apply IsS127.set_1) | exact HI0.out))) : g ≠ gb101)); have n7_ := Aside0.mk ((by rw [hg]; exact Nat.ne_of_gt (IsS127.lt (show IsS127 w0 _ g s0_0 s0_1 from by repeat (first | (with_reducible first | exact HI0.out | apply IsS127.alloc | apply IsS127.drewN | apply IsS127.drew | apply IsS127.set_0 | apply IsS127.set_1) | exact HI0.out))) : gb101 ≠ g)); clear HI0; clear HK; clear HB; have HI0 := n0_; have HK := n1_; have HB := n2_; have BK101 := n3_; have GW101 := n4_; have GE101 := n5_; have NB0_101 := n6_; have NB101_0 := n7_; clear n0_ n1_ n2_ n3_ n4_ n5_ n6_ n7_; clear hb hbox hg) | ((with_reducible refine gate_callee (f := 107) rfl ?_); refine goesL_ (some 7) rfl rfl Try.func107 (by kernel_rfl) rfl #[.pointer (some ⟨g, 0, none⟩)] rfl (by (try simp only [List.map_toArray, List.map_cons, List.map_nil]); first | done | rfl | (simp only [List.length_drop, List.length_take]; rfl)) ?_; (with_reducible refine (entry_taker_int.calls g s0_0 s0_1 t102 t103 t104 w0 _ ?side1 ?side2 A2.out).mono ?_); (case side1 => repeat (first | (with_reducible first | exact HI0.out | apply IsS127.alloc | apply IsS127.drewN | apply IsS127.drew | apply IsS127.set_0 | apply IsS127.set_1 | refine IsS127.far ?_ NB0_101.out _) | exact HI0.out)); (case side2 => repeat (first | (with_reducible first | exact HB.out | apply below_alloc | apply pw_below_drewN | apply below_drew1 | refine below_set ?_ (IsS127.ge HI0.out) | refine below_set ?_ GE101.out) | exact HB.out)); rintro e w26 ⟨rfl, hi, hb, hk⟩; refine ⟨_, rfl, ?_⟩; have n0_ := Aside0.mk (KeepBut.blk hk (g' := gb101) (o := .cells #[.bool false, .string (⟨#[]⟩ : ByteArray)] 33 (0, 0)) (by (with_reducible repeat (first | refine blk_drewN ?_ _ | refine blk_drew ?_ | refine blk_alloc ?_ _)); exact BK101.out) NB101_0.out (by simp)); have n1_ := Aside0.mk (KeepBut.trans (by repeat (first | (with_reducible first | exact HK.out | apply KeepBut.set_ | apply keep_drewN | apply keep_drew | apply keep_alloc | refine keep_far ?_ GW101.out _) | exact HK.out)) hk (.inl rfl)); have n2_ := Aside0.mk (hb); have n3_ := Aside0.mk (hi); clear BK101; clear HK; clear HB; clear HI0; have BK101 := n0_; have HK := n1_; have HB := n2_; have HI0 := n3_; clear n0_ n1_ n2_ n3_; (try clear hb); (try clear hb2); (try clear hk); (try clear hi); obtain ⟨HGz27, hgz27⟩ := HI0.out; have hcz27_0 := cellS127_0 HGz27; have hcz27_1 := cellS127_1 HGz27; obtain ⟨hfz27_0, hfz27_1⟩ := fr2 HGz27; clear HGz27 hgz27; have hnb28 := NB101_0.out; have hnc28 := NB0_101.out; obtain ⟨hcz29_0, hcz29_1⟩ := cl2 (W := w26) BK101.out; obtain ⟨hfz29_0, hfz29_1⟩ := fr2 BK101.out))
   refine bodyPost_ret (results_cell_row rfl _ _ gb101 33 #[.bool false, .string (⟨#[]⟩ : ByteArray)] (0, 0) _ rfl (by (with_reducible repeat (first | refine blk_drewN ?_ _ | refine blk_drew ?_ | refine blk_alloc ?_ _)); refine blk_put (cs := #[.bool false, .string (⟨#[]⟩ : ByteArray)]) ?_ 1 _ rfl; refine blk_put (cs := #[.bool false, .string (⟨#[]⟩ : ByteArray)]) ?_ 0 _ rfl; refine blk_far ?_ NB101_0.out _; (with_reducible repeat (first | refine blk_drewN ?_ _ | refine blk_drew ?_ | refine blk_alloc ?_ _)); exact BK101.out) Try.underlying33 rfl (by kernel_rfl)) rfl ?_
   exact ⟨by first | rfl | (simp [errW_none, errW_some] <;> rfl) | (simp [*, errW_none, errW_some] <;> rfl), by repeat (first | (with_reducible first | exact HI0.out | apply IsS127.alloc | apply IsS127.drewN | apply IsS127.drew | apply IsS127.set_0 | apply IsS127.set_1 | refine IsS127.far ?_ NB0_101.out _) | exact HI0.out), by repeat (first | (with_reducible first | exact HB.out | apply below_alloc | apply pw_below_drewN | apply below_drew1 | refine below_set ?_ (IsS127.ge HI0.out) | refine below_set ?_ GE101.out) | exact HB.out), by repeat (first | (with_reducible first | exact HK.out | apply KeepBut.set_ | apply keep_drewN | apply keep_drew | apply keep_alloc | refine keep_far ?_ GW101.out _) | exact HK.out)⟩
end Go.Proofs.Ytfjmnaobfbmllaa.M
namespace Go.Proofs.Ytfjmnaobfbmllaa.M
open Go.RowKit Go.Proofs.YtfjmnaobfbmllaaW.PrintWords Go.Proofs.YtfjmnaobfbmllaaW.PrintLast Go.Proofs.YtfjmnaobfbmllaaW.PrintMore
set_option linter.unusedVariables false
set_option linter.unusedSimpArgs false
set_option maxHeartbeats 4000000 in
theorem p13 {cs : Array Value} (w : World) (g : Nat) (k c e n lsn prev p s : Int) (u : Bool) (d : ByteArray) (u2 : Bool) (d2 : ByteArray) (next : Int)
    (h : w.heap[g]? = some (.cells cs 65 (0, 0))) (hs : cs.size = 13 := by rfl) :
    ((((((((((((((w.setCell ⟨g, 0, none⟩ (.int .i64 k)).setCell ⟨g, 1, none⟩ (.int .i64 c)).setCell ⟨g, 2, none⟩ (.int .i64 e)).setCell ⟨g, 3, none⟩ (.int .i64 n)).setCell ⟨g, 4, none⟩ (.int .i64 lsn)).setCell ⟨g, 5, none⟩ (.int .i64 prev)).setCell ⟨g, 6, none⟩ (.int .i64 p)).setCell ⟨g, 7, none⟩ (.int .i64 s)).setCell ⟨g, 8, none⟩ (.bool u)).setCell ⟨g, 9, none⟩ (.string d)).setCell ⟨g, 10, none⟩ (.bool u2)).setCell ⟨g, 11, none⟩ (.string d2)).setCell ⟨g, 12, none⟩ (.int .i64 next))).heap[g]? = some (.cells #[.int .i64 k, .int .i64 c, .int .i64 e, .int .i64 n, .int .i64 lsn, .int .i64 prev, .int .i64 p, .int .i64 s, .bool u, .string d, .bool u2, .string d2, .int .i64 next] 65 (0, 0)) ∧ (∀ q o, w.heap[q]? = some o → q ≠ g → ((((((((((((((w.setCell ⟨g, 0, none⟩ (.int .i64 k)).setCell ⟨g, 1, none⟩ (.int .i64 c)).setCell ⟨g, 2, none⟩ (.int .i64 e)).setCell ⟨g, 3, none⟩ (.int .i64 n)).setCell ⟨g, 4, none⟩ (.int .i64 lsn)).setCell ⟨g, 5, none⟩ (.int .i64 prev)).setCell ⟨g, 6, none⟩ (.int .i64 p)).setCell ⟨g, 7, none⟩ (.int .i64 s)).setCell ⟨g, 8, none⟩ (.bool u)).setCell ⟨g, 9, none⟩ (.string d)).setCell ⟨g, 10, none⟩ (.bool u2)).setCell ⟨g, 11, none⟩ (.string d2)).setCell ⟨g, 12, none⟩ (.int .i64 next))).heap[q]? = some o) ∧
      (∀ w0 : World, Below w0.heap.size w0 w → w0.heap.size ≤ g → Below w0.heap.size w0 ((((((((((((((w.setCell ⟨g, 0, none⟩ (.int .i64 k)).setCell ⟨g, 1, none⟩ (.int .i64 c)).setCell ⟨g, 2, none⟩ (.int .i64 e)).setCell ⟨g, 3, none⟩ (.int .i64 n)).setCell ⟨g, 4, none⟩ (.int .i64 lsn)).setCell ⟨g, 5, none⟩ (.int .i64 prev)).setCell ⟨g, 6, none⟩ (.int .i64 p)).setCell ⟨g, 7, none⟩ (.int .i64 s)).setCell ⟨g, 8, none⟩ (.bool u)).setCell ⟨g, 9, none⟩ (.string d)).setCell ⟨g, 10, none⟩ (.bool u2)).setCell ⟨g, 11, none⟩ (.string d2)).setCell ⟨g, 12, none⟩ (.int .i64 next)))) := by
  refine ⟨?_, ?_, ?_⟩
  · obtain ⟨l⟩ := cs
    match l, hs with
    | [_, _, _, _, _, _, _, _, _, _, _, _, _], _ =>
      have h0 := h
      have h1 := blk_set h0 0 (.int .i64 k)
      have h2 := blk_set h1 1 (.int .i64 c)
      have h3 := blk_set h2 2 (.int .i64 e)
      have h4 := blk_set h3 3 (.int .i64 n)
      have h5 := blk_set h4 4 (.int .i64 lsn)
      have h6 := blk_set h5 5 (.int .i64 prev)
      have h7 := blk_set h6 6 (.int .i64 p)
      have h8 := blk_set h7 7 (.int .i64 s)
      have h9 := blk_set h8 8 (.bool u)
      have h10 := blk_set h9 9 (.string d)
      have h11 := blk_set h10 10 (.bool u2)
      have h12 := blk_set h11 11 (.string d2)
      have h13 := blk_set h12 12 (.int .i64 next)
      simp only [List.setIfInBounds_toArray, List.set_cons_zero, List.set_cons_succ] at h13
      exact h13
  · intro q o hq hne
    repeat refine (Below.heap_setCell _ _ _ q hne).trans ?_
    exact hq
  · intro w0 hb hg
    repeat refine below_set ?_ hg
    exact hb
theorem takerInt_eq (r : ByteArray) (b : Bool) : entry_taker_int.f r b = some (tI r b) := by
  unfold entry_taker_int.f nibTake.f tI
  rw [Option.bind_some]
  cases b with
  | true => rw [if_pos rfl]; simp
  | false => rw [if_neg Bool.false_ne_true]; simp
theorem takerSlot_eq (r : ByteArray) (b : Bool) : entry_taker_slot.f r b = some ((tS r b).1.f0, (tS r b).1.f1, (tS r b).2.1, (tS r b).2.2) := by
  unfold entry_taker_slot.f nibTakeStr.f
  rw [takerInt_eq, Option.bind_some]
  unfold tS
  by_cases h0 : (tI r b).1 = 0
  · rw [if_pos h0, if_pos h0]; rfl
  · rw [if_neg h0, if_neg h0]
    by_cases h1 : (tI r b).1 = 1
    · rw [if_pos h1, if_pos h1, Option.bind_some]
      cases hb : (tI r b).2.2 with
      | true => rw [if_pos rfl]; simp
      | false => rw [if_neg Bool.false_ne_true]; simp
    · rw [if_neg h1, if_neg h1]; rfl
def offF (i : Nat) : Nat := if i = 8 then 12 else i
theorem field_ptr (g i : Nat) (h : i ≤ 8) : (fieldPs g)[i]? = some (.pointer (some ⟨g, offF i, none⟩)) := by
  have : i = 0 ∨ i = 1 ∨ i = 2 ∨ i = 3 ∨ i = 4 ∨ i = 5 ∨ i = 6 ∨ i = 7 ∨ i = 8 := by omega
  rcases this with rfl | rfl | rfl | rfl | rfl | rfl | rfl | rfl | rfl <;> rfl
theorem field_set (x : S65) (i : Nat) (n : Int) (h : i ≤ 8) : (#[.int .i64 x.f0, .int .i64 x.f1.f0, .int .i64 x.f1.f1, .int .i64 x.f1.f2, .int .i64 x.f2, .int .i64 x.f3, .int .i64 x.f4, .int .i64 x.f5, .bool x.f6.f0, .string x.f6.f1, .bool x.f7.f0, .string x.f7.f1, .int .i64 x.f8] : Array Value).setIfInBounds (offF i) (.int .i64 n) = #[.int .i64 (setF x i n).f0, .int .i64 (setF x i n).f1.f0, .int .i64 (setF x i n).f1.f1, .int .i64 (setF x i n).f1.f2, .int .i64 (setF x i n).f2, .int .i64 (setF x i n).f3, .int .i64 (setF x i n).f4, .int .i64 (setF x i n).f5, .bool (setF x i n).f6.f0, .string (setF x i n).f6.f1, .bool (setF x i n).f7.f0, .string (setF x i n).f7.f1, .int .i64 (setF x i n).f8] := by
  have : i = 0 ∨ i = 1 ∨ i = 2 ∨ i = 3 ∨ i = 4 ∨ i = 5 ∨ i = 6 ∨ i = 7 ∨ i = 8 := by omega
  rcases this with rfl | rfl | rfl | rfl | rfl | rfl | rfl | rfl | rfl <;> rfl
theorem field_old (x : S65) (i : Nat) (h : i ≤ 8) : ∃ n : Int, (#[.int .i64 x.f0, .int .i64 x.f1.f0, .int .i64 x.f1.f1, .int .i64 x.f1.f2, .int .i64 x.f2, .int .i64 x.f3, .int .i64 x.f4, .int .i64 x.f5, .bool x.f6.f0, .string x.f6.f1, .bool x.f7.f0, .string x.f7.f1, .int .i64 x.f8] : Array Value)[offF i]? = some (.int .i64 n) := by
  have : i = 0 ∨ i = 1 ∨ i = 2 ∨ i = 3 ∨ i = 4 ∨ i = 5 ∨ i = 6 ∨ i = 7 ∨ i = 8 := by omega
  rcases this with rfl | rfl | rfl | rfl | rfl | rfl | rfl | rfl | rfl <;> exact ⟨_, rfl⟩
end Go.Proofs.Ytfjmnaobfbmllaa.M
