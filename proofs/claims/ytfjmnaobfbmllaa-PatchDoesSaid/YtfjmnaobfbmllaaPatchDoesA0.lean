/- The law PatchDoes: it returns true for every input, and its arguments read as they did. No condition. Part 1 of 5. -/
import Derived.Test.YtfjmnaobfbmllaaProg
import Derived.Test.YtfjmnaobfbmllaaRows
import Derived.Test.YtfjmnaobfbmllaaUApart
import Derived.Test.YtfjmnaobfbmllaaUEqStruct
import Derived.Test.YtfjmnaobfbmllaaUFoot
import Derived.Test.YtfjmnaobfbmllaaUGuard
import Derived.Test.YtfjmnaobfbmllaaUKept
import Derived.Test.YtfjmnaobfbmllaaULast
import Derived.Test.YtfjmnaobfbmllaaUMore
import Derived.Test.YtfjmnaobfbmllaaUN
import Derived.Test.YtfjmnaobfbmllaaURepsOne
import Derived.Test.YtfjmnaobfbmllaaUShare
import Derived.Test.YtfjmnaobfbmllaaUTab
import Derived.Test.YtfjmnaobfbmllaaUWords
import Derived.ArgAppend
import Derived.Below
import Derived.BigQuiet
import Derived.Carry
import Derived.ChangeArms
import Derived.ChangeMaps
import Derived.ChangeOld
import Derived.Deep.AppendLies
import Derived.Deep.CutBlock
import Derived.Deep.DeepCutAuto
import Derived.Deep.Draws
import Derived.Deep.LoopGhost
import Derived.Deep.OwnRows
import Derived.Deep.QuietTactic
import Derived.Deep.RegionHeld3
import Derived.Deep.Slices
import Derived.KernelRfl
import Derived.Laws.Bits64
import Derived.Laws.Bits64b
import Derived.Laws.BitsAllLaws
import Derived.Laws.BitsLemmas
import Derived.Laws.BytesArg
import Derived.Laws.CopyOwn
import Derived.Laws.IdiomCopy
import Derived.Laws.MakeOwn
import Derived.Laws.OwnMore
import Derived.Laws.Rows
import Derived.Laws.Slices
import Derived.Lib.AppendStr
import Derived.Lib.ConvBytes
import Derived.Maps.AppendAt
import Derived.OpenShut
import Derived.OrdersHeld
import Derived.OwnWalk
import Derived.ProofKit
import Derived.RowKit
import Derived.RowKit3
import Derived.ShutString
import Derived.SizedLaws
import Derived.Tactics
import Derived.WalkKit
import Derived.WalkSpells
import Derived.WideLaws
namespace Go.Proofs.Ytfjmnaobfbmllaa.M
open Go.RowKit Go.Proofs.YtfjmnaobfbmllaaW.PrintWords Go.Proofs.YtfjmnaobfbmllaaW.PrintLast Go.Proofs.YtfjmnaobfbmllaaW.PrintMore
attribute [local go_sem] max2_int min2_int max_two min_two max_three min_three max_four min_four   -- for this text's walks alone
set_option linter.unusedVariables false
set_option linter.unusedSimpArgs false
def errW : Option Int → Value
  | none => .nilIface
  | some c => .iface 0 (.int .i64 c)
theorem errW_none : errW none = .nilIface := rfl
theorem errW_some (c : Int) : errW (some c) = .iface 0 (.int .i64 c) := rfl
theorem info33 : (Try.prog.info? 33).map (fun i => (i.zero, i.size, i.bytes)) = some (some (.agg #[(.bool false), (.string ⟨#[]⟩)]), 2, 24) := by kernel_rfl
structure S33 where
  f0 : Bool
  f1 : ByteArray
def z33 : S33 := ⟨false, (⟨#[]⟩ : ByteArray)⟩
def k33 : Kd S33 := Kd.iso (Kd.pair Kd.bool Kd.string) (fun x : S33 => (x.f0, x.f1))
theorem k33_heap : Kd.Heap k33 := Kd.heap_iso _ (Kd.heap_pair Kd.heap_bool Kd.heap_string)
theorem k33_open {w : World} {x : S33} {cs : List Value} (h : k33.K w x cs) : cs = [.bool x.f0, .string x.f1] := by
  obtain ⟨_, _, rfl, rfl, rfl⟩ := h
  exact rfl
theorem k33_openM {w : World} {base : Nat} {ok : Nat → Prop} {x : S33} {cs : List Value} (h : k33.M w base ok x cs) : cs = [.bool x.f0, .string x.f1] := by
  obtain ⟨_, _, rfl, rfl, rfl⟩ := h
  exact rfl
theorem k33_mk (w : World) (x : S33)  : k33.K w x [.bool x.f0, .string x.f1] := ⟨[.bool x.f0], [.string x.f1], rfl, rfl, rfl⟩
theorem k33_mkM (w : World) (base : Nat) (ok : Nat → Prop) (x : S33)  : k33.M w base ok x [.bool x.f0, .string x.f1] := ⟨[.bool x.f0], [.string x.f1], rfl, rfl, rfl⟩
def rd_T33 (xs : List S33) (i : Int) : S33 := xs.getD i.toNat z33
theorem at_T33 {w : World} {A : Option Addr} {n : Nat} {xs : List S33} (h : Kd.C k33 w A n xs) (i : Int) (h0 : 0 ≤ i) (h1 : i < n) : ∃ ad , A = some ad ∧ w.cell? (ad.add (i.toNat * 2)) = some (.bool (rd_T33 xs i).f0) ∧ w.cell? ⟨(ad.add (i.toNat * 2)).block, (ad.add (i.toNat * 2)).off + 1, none⟩ = some (.string (rd_T33 xs i).f1) := by
  obtain ⟨ad, c, e, _, hK, hc0⟩ := Kd.C_get h z33 i h0 h1
  have hc : ∀ j u, c[j]? = some u → w.cell? (ad.add (i.toNat * 2 + j)) = some u := hc0
  obtain rfl := k33_open hK
  exact ⟨ad, e, hc 0 _ rfl, by rw [← add_field _ _ 1 (by omega)]; exact hc 1 _ rfl⟩
structure S52 where
  f0 : Int
  f1 : Int
  f2 : Int
def z52 : S52 := ⟨(0 : Int), (0 : Int), (0 : Int)⟩
def k52 : Kd S52 := Kd.iso (Kd.pair (Kd.int .i64) (Kd.pair (Kd.int .i64) (Kd.int .i64))) (fun x : S52 => (x.f0, x.f1, x.f2))
theorem k52_open {w : World} {x : S52} {cs : List Value} (h : k52.K w x cs) : cs = [.int .i64 x.f0, .int .i64 x.f1, .int .i64 x.f2] := by
  obtain ⟨_, _, rfl, rfl, ⟨_, _, rfl, rfl, rfl⟩⟩ := h
  exact rfl
theorem k52_mk (w : World) (x : S52)  : k52.K w x [.int .i64 x.f0, .int .i64 x.f1, .int .i64 x.f2] := ⟨[.int .i64 x.f0], [.int .i64 x.f1, .int .i64 x.f2], rfl, rfl, ⟨[.int .i64 x.f1], [.int .i64 x.f2], rfl, rfl, rfl⟩⟩
theorem k52_mkM (w : World) (base : Nat) (ok : Nat → Prop) (x : S52)  : k52.M w base ok x [.int .i64 x.f0, .int .i64 x.f1, .int .i64 x.f2] := ⟨[.int .i64 x.f0], [.int .i64 x.f1, .int .i64 x.f2], rfl, rfl, ⟨[.int .i64 x.f1], [.int .i64 x.f2], rfl, rfl, rfl⟩⟩
structure S65 where
  f0 : Int
  f1 : S52
  f2 : Int
  f3 : Int
  f4 : Int
  f5 : Int
  f6 : S33
  f7 : S33
  f8 : Int
def z65 : S65 := ⟨(0 : Int), z52, (0 : Int), (0 : Int), (0 : Int), (0 : Int), z33, z33, (0 : Int)⟩
def k65 : Kd S65 := Kd.iso (Kd.pair (Kd.int .i64) (Kd.pair k52 (Kd.pair (Kd.int .i64) (Kd.pair (Kd.int .i64) (Kd.pair (Kd.int .i64) (Kd.pair (Kd.int .i64) (Kd.pair k33 (Kd.pair k33 (Kd.int .i64))))))))) (fun x : S65 => (x.f0, x.f1, x.f2, x.f3, x.f4, x.f5, x.f6, x.f7, x.f8))
theorem k65_open {w : World} {x : S65} {cs : List Value} (h : k65.K w x cs) : cs = [.int .i64 x.f0, .int .i64 x.f1.f0, .int .i64 x.f1.f1, .int .i64 x.f1.f2, .int .i64 x.f2, .int .i64 x.f3, .int .i64 x.f4, .int .i64 x.f5, .bool x.f6.f0, .string x.f6.f1, .bool x.f7.f0, .string x.f7.f1, .int .i64 x.f8] := by
  obtain ⟨_, _, rfl, rfl, ⟨_, _, rfl, s1, ⟨_, _, rfl, rfl, ⟨_, _, rfl, rfl, ⟨_, _, rfl, rfl, ⟨_, _, rfl, rfl, ⟨_, _, rfl, s8, ⟨_, _, rfl, s10, rfl⟩⟩⟩⟩⟩⟩⟩⟩ := h
  obtain rfl := k52_open s1
  obtain rfl := k33_open s8
  obtain rfl := k33_open s10
  exact rfl
theorem k65_mk (w : World) (x : S65)  : k65.K w x [.int .i64 x.f0, .int .i64 x.f1.f0, .int .i64 x.f1.f1, .int .i64 x.f1.f2, .int .i64 x.f2, .int .i64 x.f3, .int .i64 x.f4, .int .i64 x.f5, .bool x.f6.f0, .string x.f6.f1, .bool x.f7.f0, .string x.f7.f1, .int .i64 x.f8] := ⟨[.int .i64 x.f0], [.int .i64 x.f1.f0, .int .i64 x.f1.f1, .int .i64 x.f1.f2, .int .i64 x.f2, .int .i64 x.f3, .int .i64 x.f4, .int .i64 x.f5, .bool x.f6.f0, .string x.f6.f1, .bool x.f7.f0, .string x.f7.f1, .int .i64 x.f8], rfl, rfl, ⟨[.int .i64 x.f1.f0, .int .i64 x.f1.f1, .int .i64 x.f1.f2], [.int .i64 x.f2, .int .i64 x.f3, .int .i64 x.f4, .int .i64 x.f5, .bool x.f6.f0, .string x.f6.f1, .bool x.f7.f0, .string x.f7.f1, .int .i64 x.f8], rfl, (k52_mk w x.f1 ), ⟨[.int .i64 x.f2], [.int .i64 x.f3, .int .i64 x.f4, .int .i64 x.f5, .bool x.f6.f0, .string x.f6.f1, .bool x.f7.f0, .string x.f7.f1, .int .i64 x.f8], rfl, rfl, ⟨[.int .i64 x.f3], [.int .i64 x.f4, .int .i64 x.f5, .bool x.f6.f0, .string x.f6.f1, .bool x.f7.f0, .string x.f7.f1, .int .i64 x.f8], rfl, rfl, ⟨[.int .i64 x.f4], [.int .i64 x.f5, .bool x.f6.f0, .string x.f6.f1, .bool x.f7.f0, .string x.f7.f1, .int .i64 x.f8], rfl, rfl, ⟨[.int .i64 x.f5], [.bool x.f6.f0, .string x.f6.f1, .bool x.f7.f0, .string x.f7.f1, .int .i64 x.f8], rfl, rfl, ⟨[.bool x.f6.f0, .string x.f6.f1], [.bool x.f7.f0, .string x.f7.f1, .int .i64 x.f8], rfl, (k33_mk w x.f6 ), ⟨[.bool x.f7.f0, .string x.f7.f1], [.int .i64 x.f8], rfl, (k33_mk w x.f7 ), rfl⟩⟩⟩⟩⟩⟩⟩⟩
theorem k65_mkM (w : World) (base : Nat) (ok : Nat → Prop) (x : S65)  : k65.M w base ok x [.int .i64 x.f0, .int .i64 x.f1.f0, .int .i64 x.f1.f1, .int .i64 x.f1.f2, .int .i64 x.f2, .int .i64 x.f3, .int .i64 x.f4, .int .i64 x.f5, .bool x.f6.f0, .string x.f6.f1, .bool x.f7.f0, .string x.f7.f1, .int .i64 x.f8] := ⟨[.int .i64 x.f0], [.int .i64 x.f1.f0, .int .i64 x.f1.f1, .int .i64 x.f1.f2, .int .i64 x.f2, .int .i64 x.f3, .int .i64 x.f4, .int .i64 x.f5, .bool x.f6.f0, .string x.f6.f1, .bool x.f7.f0, .string x.f7.f1, .int .i64 x.f8], rfl, rfl, ⟨[.int .i64 x.f1.f0, .int .i64 x.f1.f1, .int .i64 x.f1.f2], [.int .i64 x.f2, .int .i64 x.f3, .int .i64 x.f4, .int .i64 x.f5, .bool x.f6.f0, .string x.f6.f1, .bool x.f7.f0, .string x.f7.f1, .int .i64 x.f8], rfl, (k52_mkM w base ok x.f1 ), ⟨[.int .i64 x.f2], [.int .i64 x.f3, .int .i64 x.f4, .int .i64 x.f5, .bool x.f6.f0, .string x.f6.f1, .bool x.f7.f0, .string x.f7.f1, .int .i64 x.f8], rfl, rfl, ⟨[.int .i64 x.f3], [.int .i64 x.f4, .int .i64 x.f5, .bool x.f6.f0, .string x.f6.f1, .bool x.f7.f0, .string x.f7.f1, .int .i64 x.f8], rfl, rfl, ⟨[.int .i64 x.f4], [.int .i64 x.f5, .bool x.f6.f0, .string x.f6.f1, .bool x.f7.f0, .string x.f7.f1, .int .i64 x.f8], rfl, rfl, ⟨[.int .i64 x.f5], [.bool x.f6.f0, .string x.f6.f1, .bool x.f7.f0, .string x.f7.f1, .int .i64 x.f8], rfl, rfl, ⟨[.bool x.f6.f0, .string x.f6.f1], [.bool x.f7.f0, .string x.f7.f1, .int .i64 x.f8], rfl, (k33_mkM w base ok x.f6 ), ⟨[.bool x.f7.f0, .string x.f7.f1], [.int .i64 x.f8], rfl, (k33_mkM w base ok x.f7 ), rfl⟩⟩⟩⟩⟩⟩⟩⟩
def rd_T65 (xs : List S65) (i : Int) : S65 := xs.getD i.toNat z65
theorem at_T65 {w : World} {A : Option Addr} {n : Nat} {xs : List S65} (h : Kd.C k65 w A n xs) (i : Int) (h0 : 0 ≤ i) (h1 : i < n) : ∃ ad , A = some ad ∧ w.cell? (ad.add (i.toNat * 13)) = some (.int .i64 (rd_T65 xs i).f0) ∧ w.cell? ⟨(ad.add (i.toNat * 13)).block, (ad.add (i.toNat * 13)).off + 1, none⟩ = some (.int .i64 (rd_T65 xs i).f1.f0) ∧ w.cell? ⟨(ad.add (i.toNat * 13)).block, (ad.add (i.toNat * 13)).off + 2, none⟩ = some (.int .i64 (rd_T65 xs i).f1.f1) ∧ w.cell? ⟨(ad.add (i.toNat * 13)).block, (ad.add (i.toNat * 13)).off + 3, none⟩ = some (.int .i64 (rd_T65 xs i).f1.f2) ∧ w.cell? ⟨(ad.add (i.toNat * 13)).block, (ad.add (i.toNat * 13)).off + 4, none⟩ = some (.int .i64 (rd_T65 xs i).f2) ∧ w.cell? ⟨(ad.add (i.toNat * 13)).block, (ad.add (i.toNat * 13)).off + 5, none⟩ = some (.int .i64 (rd_T65 xs i).f3) ∧ w.cell? ⟨(ad.add (i.toNat * 13)).block, (ad.add (i.toNat * 13)).off + 6, none⟩ = some (.int .i64 (rd_T65 xs i).f4) ∧ w.cell? ⟨(ad.add (i.toNat * 13)).block, (ad.add (i.toNat * 13)).off + 7, none⟩ = some (.int .i64 (rd_T65 xs i).f5) ∧ w.cell? ⟨(ad.add (i.toNat * 13)).block, (ad.add (i.toNat * 13)).off + 8, none⟩ = some (.bool (rd_T65 xs i).f6.f0) ∧ w.cell? ⟨(ad.add (i.toNat * 13)).block, (ad.add (i.toNat * 13)).off + 9, none⟩ = some (.string (rd_T65 xs i).f6.f1) ∧ w.cell? ⟨(ad.add (i.toNat * 13)).block, (ad.add (i.toNat * 13)).off + 10, none⟩ = some (.bool (rd_T65 xs i).f7.f0) ∧ w.cell? ⟨(ad.add (i.toNat * 13)).block, (ad.add (i.toNat * 13)).off + 11, none⟩ = some (.string (rd_T65 xs i).f7.f1) ∧ w.cell? ⟨(ad.add (i.toNat * 13)).block, (ad.add (i.toNat * 13)).off + 12, none⟩ = some (.int .i64 (rd_T65 xs i).f8) := by
  obtain ⟨ad, c, e, _, hK, hc0⟩ := Kd.C_get h z65 i h0 h1
  have hc : ∀ j u, c[j]? = some u → w.cell? (ad.add (i.toNat * 13 + j)) = some u := hc0
  obtain rfl := k65_open hK
  exact ⟨ad, e, hc 0 _ rfl, by rw [← add_field _ _ 1 (by omega)]; exact hc 1 _ rfl, by rw [← add_field _ _ 2 (by omega)]; exact hc 2 _ rfl, by rw [← add_field _ _ 3 (by omega)]; exact hc 3 _ rfl, by rw [← add_field _ _ 4 (by omega)]; exact hc 4 _ rfl, by rw [← add_field _ _ 5 (by omega)]; exact hc 5 _ rfl, by rw [← add_field _ _ 6 (by omega)]; exact hc 6 _ rfl, by rw [← add_field _ _ 7 (by omega)]; exact hc 7 _ rfl, by rw [← add_field _ _ 8 (by omega)]; exact hc 8 _ rfl, by rw [← add_field _ _ 9 (by omega)]; exact hc 9 _ rfl, by rw [← add_field _ _ 10 (by omega)]; exact hc 10 _ rfl, by rw [← add_field _ _ 11 (by omega)]; exact hc 11 _ rfl, by rw [← add_field _ _ 12 (by omega)]; exact hc 12 _ rfl⟩
end Go.Proofs.Ytfjmnaobfbmllaa.M
namespace Go.Proofs.Ytfjmnaobfbmllaa.M
open Go.RowKit Go.Proofs.YtfjmnaobfbmllaaW.PrintWords Go.Proofs.YtfjmnaobfbmllaaW.PrintLast Go.Proofs.YtfjmnaobfbmllaaW.PrintMore
set_option linter.unusedVariables false
set_option linter.unusedSimpArgs false
theorem len2 {α : Type} {l : List α} (h : l.length = 2) : ∃ c0 c1, l = [c0, c1] := by
  match l, h with
  | [c0, c1], _ => exact ⟨c0, c1, rfl⟩
theorem len3 {α : Type} {l : List α} (h : l.length = 3) : ∃ c0 c1 c2, l = [c0, c1, c2] := by
  match l, h with
  | [c0, c1, c2], _ => exact ⟨c0, c1, c2, rfl⟩
theorem len13 {α : Type} {l : List α} (h : l.length = 13) : ∃ c0 c1 c2 c3 c4 c5 c6 c7 c8 c9 c10 c11 c12, l = [c0, c1, c2, c3, c4, c5, c6, c7, c8, c9, c10, c11, c12] := by
  match l, h with
  | [c0, c1, c2, c3, c4, c5, c6, c7, c8, c9, c10, c11, c12], _ => exact ⟨c0, c1, c2, c3, c4, c5, c6, c7, c8, c9, c10, c11, c12, rfl⟩
section
variable {H : Type} {enc : TypeId × Value → H} {W : World} {spare : Nat → Bool} {held : Bool} {fuel : Nat} {cs : List Value} {z : DataW H × List MemPlace}
theorem piece {t : TypeId} {fs : Array Field} (ht : Try.prog.underlying t = some (.struct fs)) (h : DataW.trod enc Try.prog W 0 spare held fuel t cs = some z) :
    cs.length = Try.prog.cellsOf t ∧ ∀ (i : Nat) (u : TypeId) (off n : Nat), (fs[i]?).map (fun f => (f.type, f.offset)) = some (u, off) → Try.prog.cellsOf u = n →
      ∃ m y, DataW.trod enc Try.prog W 0 spare held m u ((cs.drop off).take n) = some y := by
  obtain ⟨xs, n, _, _, hl, hlen, hf⟩ := DataW.trod_struct ht h
  refine ⟨hl, fun i u off k hi hk => ?_⟩
  obtain ⟨f, hi2, he⟩ := Option.map_eq_some_iff.mp hi
  simp only [Prod.mk.injEq] at he
  obtain ⟨rfl, rfl⟩ := he
  have hlt : i < xs.length := by rw [hlen]; exact (Array.getElem?_eq_some_iff.mp hi2).1
  rw [← hk]
  exact ⟨n, xs[i], (hf i f hi2).trans (List.getElem?_eq_getElem hlt)⟩
theorem pieceA {t e : TypeId} {n : Nat} (ht : Try.prog.underlying t = some (.array n e)) (h : DataW.trod enc Try.prog W 0 spare held fuel t cs = some z) :
    cs.length = Try.prog.cellsOf t ∧ ∀ (i : Nat), i < n → ∃ m y, DataW.trod enc Try.prog W 0 spare held m e ((cs.drop (i * Try.prog.cellsOf e)).take (Try.prog.cellsOf e)) = some y := by
  obtain ⟨xs, m, _, _, hl, hlen, hf⟩ := DataW.trod_array ht h
  refine ⟨hl, fun i hi => ?_⟩
  have hlt : i < xs.length := by rw [hlen]; exact hi
  exact ⟨m, xs[i], (hf i hi).trans (List.getElem?_eq_getElem hlt)⟩
theorem op_slice {α : Type} (d : Kd α) {t e : TypeId} (ht : Try.prog.underlying t = some (.slice e)) (hsz : Try.prog.cellsOf e = d.sz)
    (hE : ∀ (m : Nat) (cs : List Value) (y : DataW H × List MemPlace), DataW.trod enc Try.prog W 0 spare held m e cs = some y → ∃ x : α, d.K W x cs)
    (h : DataW.trod enc Try.prog W 0 spare held fuel t cs = some z) : ∃ (A : Option Addr) (c : Nat) (l : List α), cs = [.slice A l.length c] ∧ d.C W A l.length l ∧ l.length ≤ c := by
  rcases Go.Deep.open_slice ht h with ⟨rfl, _⟩ | ⟨a, len, cap, m, n, D, Pl, rfl, _, hl, hm, hmm, _, hel⟩
  · exact ⟨none, 0, [], rfl, ⟨rfl, by simp, fun hn => by simp at hn⟩, by simp⟩
  · have hlm : len ≤ m := by rw [hmm]; split <;> omega
    have hx : ∀ i : Fin len, ∃ x : α, ∃ cs' : List Value, d.K W x cs' ∧ ∀ j u, cs'[j]? = some u → W.cell? (a.add (i.val * d.sz + j)) = some u := by
      intro i
      obtain ⟨cs', hc, ht⟩ := hel i.val (by have := i.isLt; omega)
      obtain ⟨x, hx⟩ := hE _ _ _ ht
      refine ⟨x, cs', hx, fun j u hj => ?_⟩
      obtain ⟨_, hlen, hg⟩ := World.cells?_some hc
      have hjl : j < cs'.length := (List.getElem?_eq_some_iff.mp hj).1
      have := hg j (by omega)
      rw [Go.Deep.add_add, hsz, hj] at this
      exact this
    refine ⟨some a, cap, (List.finRange len).map fun i => (hx i).choose, ?_, ⟨rfl, ?_, fun _ => ⟨a, rfl, ?_⟩⟩, by simpa using hl⟩
    · simp
    · simp
      have : maxLen = 9223372036854775807 := rfl
      omega
    · intro j p hj
      have hjl : j < len := by
        have := (List.getElem?_eq_some_iff.mp hj).1
        simpa using this
      have e : p = (hx ⟨j, hjl⟩).choose := by
        rw [List.getElem?_map] at hj
        simp [hjl] at hj
        exact hj.symm
      obtain ⟨cs', h1, h2⟩ := (hx ⟨j, hjl⟩).choose_spec
      subst e
      exact ⟨cs', d.K_len h1, h1, h2⟩
theorem cells3 : Try.prog.cellsOf 3 = 1 := by kernel_rfl
theorem cells4 : Try.prog.cellsOf 4 = 1 := by kernel_rfl
theorem cells9 : Try.prog.cellsOf 9 = 1 := by kernel_rfl
theorem cells22 : Try.prog.cellsOf 22 = 1 := by kernel_rfl
theorem cells24 : Try.prog.cellsOf 24 = 2 := by kernel_rfl
theorem cells33 : Try.prog.cellsOf 33 = 2 := by kernel_rfl
theorem cells52 : Try.prog.cellsOf 52 = 3 := by kernel_rfl
theorem cells65 : Try.prog.cellsOf 65 = 13 := by kernel_rfl
theorem cells76 : Try.prog.cellsOf 76 = 2 := by kernel_rfl
theorem op3 (h : DataW.trod enc Try.prog W 0 spare held fuel 3 cs = some z) : ∃ n, cs = [.int .i64 n] ∧ (Lit.int .i64 n).wf = true := by
  obtain ⟨n, h1, _, h2⟩ := DataW.trod_int Try.underlying3 h
  exact ⟨n, h1, h2⟩
theorem op4 (h : DataW.trod enc Try.prog W 0 spare held fuel 4 cs = some z) : ∃ b, cs = [.bool b] := by
  obtain ⟨n, h1, _⟩ := DataW.trod_bool Try.underlying4 h
  exact ⟨n, h1⟩
theorem op9 (h : DataW.trod enc Try.prog W 0 spare held fuel 9 cs = some z) : ∃ s : ByteArray, cs = [.string s] := by
  obtain ⟨n, h1, _⟩ := DataW.trod_string Try.underlying9 h
  exact ⟨n, h1⟩
theorem op33 (h : DataW.trod enc Try.prog W 0 spare held fuel 33 cs = some z) : ∃ x : S33, k33.K W x cs := by
  obtain ⟨hl, hf⟩ := piece Try.underlying33 h
  rw [cells33] at hl
  obtain ⟨c0, c1, rfl⟩ := len2 hl
  obtain ⟨_, _, h0⟩ := hf 0 4 0 1 rfl cells4
  obtain ⟨_, _, h1⟩ := hf 1 9 1 1 rfl cells9
  obtain ⟨b, e0⟩ := op4 h0
  obtain ⟨s, e1⟩ := op9 h1
  cases e0; cases e1
  exact ⟨⟨b, s⟩, k33_mk W ⟨b, s⟩⟩
theorem op22 (h : DataW.trod enc Try.prog W 0 spare held fuel 22 cs = some z) : ∃ (A : Option Addr) (c : Nat) (l : List S33), cs = [.slice A l.length c] ∧ k33.C W A l.length l ∧ l.length ≤ c :=
  op_slice k33 Try.underlying22 cells33 (fun _ _ _ => op33) h
theorem op24 (h : DataW.trod enc Try.prog W 0 spare held fuel 24 cs = some z) : ∃ (a : Int) (A : Option Addr) (c : Nat) (l : List S33), cs = [.int .i64 a, .slice A l.length c] ∧ (Lit.int .i64 a).wf = true ∧ k33.C W A l.length l ∧ l.length ≤ c := by
  obtain ⟨hl, hf⟩ := piece Try.underlying24 h
  rw [cells24] at hl
  obtain ⟨c0, c1, rfl⟩ := len2 hl
  obtain ⟨_, _, h0⟩ := hf 0 3 0 1 rfl cells3
  obtain ⟨_, _, h1⟩ := hf 1 22 1 1 rfl cells22
  obtain ⟨a, e0, hw⟩ := op3 h0
  obtain ⟨A, c, l, e1, hC, hc⟩ := op22 h1
  cases e0; cases e1
  exact ⟨a, A, c, l, rfl, hw, hC, hc⟩
theorem op52 (h : DataW.trod enc Try.prog W 0 spare held fuel 52 cs = some z) : ∃ x : S52, k52.K W x cs := by
  obtain ⟨hl, hf⟩ := piece Try.underlying52 h
  rw [cells52] at hl
  obtain ⟨c0, c1, c2, rfl⟩ := len3 hl
  obtain ⟨_, _, h0⟩ := hf 0 3 0 1 rfl cells3
  obtain ⟨_, _, h1⟩ := hf 1 3 1 1 rfl cells3
  obtain ⟨_, _, h2⟩ := hf 2 3 2 1 rfl cells3
  obtain ⟨a0, e0, _⟩ := op3 h0
  obtain ⟨a1, e1, _⟩ := op3 h1
  obtain ⟨a2, e2, _⟩ := op3 h2
  cases e0; cases e1; cases e2
  exact ⟨⟨a0, a1, a2⟩, k52_mk W ⟨a0, a1, a2⟩⟩
theorem op65 (h : DataW.trod enc Try.prog W 0 spare held fuel 65 cs = some z) : ∃ x : S65, k65.K W x cs := by
  obtain ⟨hl, hf⟩ := piece Try.underlying65 h
  rw [cells65] at hl
  obtain ⟨c0, c1, c2, c3, c4, c5, c6, c7, c8, c9, c10, c11, c12, rfl⟩ := len13 hl
  obtain ⟨_, _, h0⟩ := hf 0 3 0 1 rfl cells3
  obtain ⟨_, _, h1⟩ := hf 1 52 1 3 rfl cells52
  obtain ⟨_, _, h2⟩ := hf 2 3 4 1 rfl cells3
  obtain ⟨_, _, h3⟩ := hf 3 3 5 1 rfl cells3
  obtain ⟨_, _, h4⟩ := hf 4 3 6 1 rfl cells3
  obtain ⟨_, _, h5⟩ := hf 5 3 7 1 rfl cells3
  obtain ⟨_, _, h6⟩ := hf 6 33 8 2 rfl cells33
  obtain ⟨_, _, h7⟩ := hf 7 33 10 2 rfl cells33
  obtain ⟨_, _, h8⟩ := hf 8 3 12 1 rfl cells3
  obtain ⟨a0, e0, _⟩ := op3 h0
  obtain ⟨x1, K1⟩ := op52 h1
  obtain ⟨a2, e2, _⟩ := op3 h2
  obtain ⟨a3, e3, _⟩ := op3 h3
  obtain ⟨a4, e4, _⟩ := op3 h4
  obtain ⟨a5, e5, _⟩ := op3 h5
  obtain ⟨x6, K6⟩ := op33 h6
  obtain ⟨x7, K7⟩ := op33 h7
  obtain ⟨a8, e8, _⟩ := op3 h8
  have e1 := k52_open K1
  have e6 := k33_open K6
  have e7 := k33_open K7
  cases e0; cases e1; cases e2; cases e3; cases e4; cases e5; cases e6; cases e7; cases e8
  exact ⟨⟨a0, x1, a2, a3, a4, a5, x6, x7, a8⟩, k65_mk W ⟨a0, x1, a2, a3, a4, a5, x6, x7, a8⟩⟩
end
end Go.Proofs.Ytfjmnaobfbmllaa.M
namespace Go.Proofs.Ytfjmnaobfbmllaa.M
open Go.RowKit Go.WideShapes Go.Proofs.YtfjmnaobfbmllaaW.PrintWords Go.Proofs.YtfjmnaobfbmllaaW.PrintLast Go.Proofs.YtfjmnaobfbmllaaW.PrintMore
set_option linter.unusedVariables false
set_option linter.constructorNameAsVariable false
set_option maxRecDepth 100000
section
variable {H : Type} {enc : TypeId × Value → H} {W : World} {spare : Nat → Bool} {held : Bool} {base : Nat} {v : Value} {d : DataW H} {ps : List MemPlace}
theorem okWide_agg {P : Program} {t : TypeId} {fs : Array Field} (hu : P.underlying t = some (.struct fs)) (h : Value.okWide P W .any base t v) : ∃ cs, v = .agg cs := by
  simp only [Value.okWide, hu] at h
  obtain ⟨cs, h, _⟩ := h
  exact ⟨cs, h⟩
theorem okWide_arr {P : Program} {t e : TypeId} {n : Nat} (hu : P.underlying t = some (.array n e)) (h : Value.okWide P W .any base t v) : ∃ cs, v = .agg cs := by
  simp only [Value.okWide, hu] at h
  obtain ⟨cs, h, _⟩ := h
  exact ⟨cs, h⟩
theorem agg_of {cs : Array Value} {l : List Value} (h : (Value.agg cs).cells.toList = l) : Value.agg cs = .agg l.toArray := by
  have : cs.toList = l := h
  rw [← this]
theorem V24 (hv : Value.okWide Try.prog W .any base 24 v) (h : DataW.Trod enc Try.prog W 0 spare held 24 v d ps) :
    ∃ (a : Int) (A : Option Addr) (c : Nat) (l : List S33), v = .agg #[.int .i64 a, .slice A l.length c] ∧ (Lit.int .i64 a).wf = true ∧ k33.C W A l.length l ∧ l.length ≤ c := by
  obtain ⟨cs, rfl⟩ := okWide_agg Try.underlying24 hv
  obtain ⟨m, hm⟩ := h
  obtain ⟨a, A, c, l, e, hw, hC, hc⟩ := op24 hm
  exact ⟨a, A, c, l, agg_of e, hw, hC, hc⟩
theorem V65 (hv : Value.okWide Try.prog W .any base 65 v) (h : DataW.Trod enc Try.prog W 0 spare held 65 v d ps) :
    ∃ x : S65, v = .agg #[.int .i64 x.f0, .int .i64 x.f1.f0, .int .i64 x.f1.f1, .int .i64 x.f1.f2, .int .i64 x.f2, .int .i64 x.f3, .int .i64 x.f4, .int .i64 x.f5, .bool x.f6.f0, .string x.f6.f1, .bool x.f7.f0, .string x.f7.f1, .int .i64 x.f8] := by
  obtain ⟨cs, rfl⟩ := okWide_agg Try.underlying65 hv
  obtain ⟨m, hm⟩ := h
  obtain ⟨x, hx⟩ := op65 hm
  exact ⟨x, agg_of (k65_open hx)⟩
end
end Go.Proofs.Ytfjmnaobfbmllaa.M
namespace Go.Proofs.Ytfjmnaobfbmllaa.M
open Go.RowKit Go.WideShapes Go.Proofs.YtfjmnaobfbmllaaW.PrintWords Go.Proofs.YtfjmnaobfbmllaaW.PrintLast Go.Proofs.YtfjmnaobfbmllaaW.PrintMore
set_option linter.unusedVariables false
set_option linter.constructorNameAsVariable false
set_option maxRecDepth 100000
section
variable {H : Type} {enc : TypeId × Value → H} {W : World} {spare : Nat → Bool} {held : Bool} {base fuel : Nat} {v : Value} {d : DataW H} {ps : List MemPlace} {cs : List Value} {z : DataW H × List MemPlace}
theorem op76 (h : DataW.trod enc Try.prog W 0 spare held fuel 76 cs = some z) : ∃ a b : Int, cs = [.int .i64 a, .int .i64 b] := by
  obtain ⟨hl, hf⟩ := pieceA Try.underlying76 h
  rw [cells76] at hl
  rw [cells3] at hf
  obtain ⟨c0, c1, rfl⟩ := len2 hl
  obtain ⟨_, _, h0⟩ := hf 0 (by decide)
  obtain ⟨_, _, h1⟩ := hf 1 (by decide)
  obtain ⟨a, e0, _⟩ := op3 h0
  obtain ⟨b, e1, _⟩ := op3 h1
  cases e0; cases e1
  exact ⟨a, b, rfl⟩
theorem V76 (hv : Value.okWide Try.prog W .any base 76 v) (h : DataW.Trod enc Try.prog W 0 spare held 76 v d ps) : ∃ a b : Int, v = .agg #[.int .i64 a, .int .i64 b] := by
  obtain ⟨cs, rfl⟩ := okWide_arr Try.underlying76 hv
  obtain ⟨m, hm⟩ := h
  obtain ⟨a, b, e⟩ := op76 hm
  exact ⟨a, b, agg_of e⟩
end
end Go.Proofs.Ytfjmnaobfbmllaa.M
namespace Go.Proofs.Ytfjmnaobfbmllaa.M
open Go.RowKit
set_option maxRecDepth 100000
def ch (l : List Nat) : List Char := l.map Char.ofNat
def words : List (List Nat) := [[104, 97, 114, 110, 101, 115, 115],
  [102, 51, 51, 54, 54, 51, 54, 102, 101, 56, 50, 54, 99, 51, 99, 57, 48, 102, 48, 99, 51, 98, 50, 101, 54, 100, 56, 52, 55, 98, 101, 53, 49, 53, 99, 49, 51, 101, 50, 52, 54, 100, 48, 55, 49, 48, 102, 54, 99, 56, 99, 101, 50, 52, 55, 54, 97, 54, 98, 101, 50, 49, 98, 98],
  [99, 117, 116],
  [97, 116],
  [115, 101, 110, 101, 115, 99, 104, 97, 108, 47, 115, 101, 110, 101, 115, 99, 104, 97, 108, 108, 97, 119, 48, 51, 46, 83, 108, 97, 98, 87, 114, 105, 116, 101, 115],
  [115, 101, 110, 101, 115, 99, 104, 97, 108, 47, 115, 101, 110, 101, 115, 99, 104, 97, 108, 108, 97, 119, 48, 51, 46, 83, 108, 97, 98, 70, 105, 116, 115],
  [115, 101, 110, 101, 115, 99, 104, 97, 108, 47, 115, 101, 110, 101, 115, 99, 104, 97, 108, 108, 97, 119, 48, 51, 46, 83, 108, 97, 98, 80, 117, 116, 115],
  [115, 101, 110, 101, 115, 99, 104, 97, 108, 47, 115, 101, 110, 101, 115, 99, 104, 97, 108, 108, 97, 119, 48, 51, 46, 83, 108, 97, 98, 75, 101, 101, 112, 115],
  [115, 101, 110, 101, 115, 99, 104, 97, 108, 47, 115, 101, 110, 101, 115, 99, 104, 97, 108, 108, 97, 119, 48, 51, 46, 83, 108, 97, 98, 86, 97, 99, 97, 110, 116],
  [115, 101, 110, 101, 115, 99, 104, 97, 108, 47, 115, 101, 110, 101, 115, 99, 104, 97, 108, 108, 97, 119, 48, 51, 46, 83, 108, 97, 98, 77, 97, 112],
  [115, 101, 110, 101, 115, 99, 104, 97, 108, 47, 115, 101, 110, 101, 115, 99, 104, 97, 108, 108, 97, 119, 49, 49, 46, 78, 111, 116, 101, 70, 111, 114, 109, 115],
  [115, 101, 110, 101, 115, 99, 104, 97, 108, 47, 115, 101, 110, 101, 115, 99, 104, 97, 108, 108, 97, 119, 48, 51, 46, 83, 108, 97, 98, 82, 111, 119, 115],
  [115, 101, 110, 101, 115, 99, 104, 97, 108, 47, 115, 101, 110, 101, 115, 99, 104, 97, 108, 108, 97, 119, 48, 52, 46, 69, 110, 116, 114, 121, 87, 114, 105, 116, 101, 115],
  [115, 101, 110, 101, 115, 99, 104, 97, 108, 47, 115, 101, 110, 101, 115, 99, 104, 97, 108, 108, 97, 119, 49, 49, 46, 78, 111, 116, 101, 70, 105, 116, 115],
  [115, 101, 110, 101, 115, 99, 104, 97, 108, 47, 115, 101, 110, 101, 115, 99, 104, 97, 108, 108, 97, 119, 48, 52, 46, 69, 110, 116, 114, 121, 82, 101, 97, 100, 115],
  [115, 101, 110, 101, 115, 99, 104, 97, 108, 47, 115, 101, 110, 101, 115, 99, 104, 97, 108, 108, 97, 119, 48, 52, 46, 69, 110, 116, 114, 121, 66, 97, 99, 107],
  [115, 101, 110, 101, 115, 99, 104, 97, 108, 47, 115, 101, 110, 101, 115, 99, 104, 97, 108, 108, 97, 119, 48, 52, 46, 69, 110, 116, 114, 121, 79, 110, 101],
  [115, 101, 110, 101, 115, 99, 104, 97, 108, 47, 115, 101, 110, 101, 115, 99, 104, 97, 108, 108, 97, 119, 48, 52, 46, 69, 110, 116, 114, 121, 67, 111, 115, 116, 115],
  [115, 101, 110, 101, 115, 99, 104, 97, 108, 47, 115, 101, 110, 101, 115, 99, 104, 97, 108, 108, 97, 119, 48, 52, 46, 69, 110, 116, 114, 121, 82, 111, 119],
  [115, 101, 110, 101, 115, 99, 104, 97, 108, 47, 115, 101, 110, 101, 115, 99, 104, 97, 108, 108, 97, 119, 48, 53, 46, 80, 97, 116, 99, 104, 68, 111, 101, 115],
  [115, 101, 110, 101, 115, 99, 104, 97, 108, 47, 115, 101, 110, 101, 115, 99, 104, 97, 108, 108, 97, 119, 48, 53, 46, 80, 97, 116, 99, 104, 65, 108, 108],
  [115, 101, 110, 101, 115, 99, 104, 97, 108, 47, 115, 101, 110, 101, 115, 99, 104, 97, 108, 108, 97, 119, 48, 53, 46, 80, 97, 116, 99, 104, 79, 110, 99, 101],
  [115, 101, 110, 101, 115, 99, 104, 97, 108, 47, 115, 101, 110, 101, 115, 99, 104, 97, 108, 108, 97, 119, 48, 53, 46, 80, 97, 116, 99, 104, 84, 117, 114, 110, 115],
  [115, 101, 110, 101, 115, 99, 104, 97, 108, 47, 115, 101, 110, 101, 115, 99, 104, 97, 108, 108, 97, 119, 48, 53, 46, 80, 97, 116, 99, 104, 80, 97, 114, 116, 115],
  [115, 101, 110, 101, 115, 99, 104, 97, 108, 47, 115, 101, 110, 101, 115, 99, 104, 97, 108, 108, 97, 119, 48, 53, 46, 80, 97, 116, 99, 104, 65, 112, 97, 114, 116],
  [115, 101, 110, 101, 115, 99, 104, 97, 108, 47, 115, 101, 110, 101, 115, 99, 104, 97, 108, 108, 97, 119, 48, 51, 46, 83, 108, 97, 98, 82, 101, 97, 100, 115],
  [115, 101, 110, 101, 115, 99, 104, 97, 108, 47, 115, 101, 110, 101, 115, 99, 104, 97, 108, 108, 97, 119, 48, 51, 46, 83, 108, 97, 98, 66, 97, 99, 107],
  [115, 101, 110, 101, 115, 99, 104, 97, 108, 47, 115, 101, 110, 101, 115, 99, 104, 97, 108, 108, 97, 119, 49, 49, 46, 78, 111, 116, 101, 87, 114, 105, 116, 101, 115],
  [115, 101, 110, 101, 115, 99, 104, 97, 108, 47, 115, 101, 110, 101, 115, 99, 104, 97, 108, 108, 97, 119, 49, 49, 46, 78, 111, 116, 101, 82, 101, 97, 100, 115],
  [115, 101, 110, 101, 115, 99, 104, 97, 108, 47, 115, 101, 110, 101, 115, 99, 104, 97, 108, 108, 97, 119, 49, 49, 46, 78, 111, 116, 101, 66, 97, 99, 107],
  [115, 101, 110, 101, 115, 99, 104, 97, 108, 47, 115, 101, 110, 101, 115, 99, 104, 97, 108, 108, 97, 119, 49, 49, 46, 78, 111, 116, 101, 84, 101, 108, 108, 115]]
def joined : List (List Nat) → List Nat
  | [] => []
  | [w] => w
  | w :: ws => w ++ 32 :: joined ws
theorem order_is : Try.prog.initOrder = String.ofList (ch (joined words)) := by kernel_rfl
theorem order_list : Try.prog.initOrder.toList = ch (joined words) := by rw [order_is, String.toList_ofList]
theorem signs_word (w : List Nat) (h : w.all (fun n => Char.ofNat n != Char.ofNat 32) = true) (r : List Char) : wordsSigns (ch w ++ Char.ofNat 32 :: r) = ch w :: wordsSigns r := by
  induction w with
  | nil => rfl
  | cons n w ih =>
    rw [List.all_cons, Bool.and_eq_true] at h
    have hn : Char.ofNat n ≠ Char.ofNat 32 := by simpa using h.1
    have := ih h.2
    show wordsSigns (Char.ofNat n :: (ch w ++ Char.ofNat 32 :: r)) = _
    rw [wordsSigns.eq_3 _ _ (fun e => hn e), this]
    rfl
theorem signs_last (w : List Nat) (h : w.all (fun n => Char.ofNat n != Char.ofNat 32) = true) : wordsSigns (ch w) = [ch w] := by
  induction w with
  | nil => rfl
  | cons n w ih =>
    rw [List.all_cons, Bool.and_eq_true] at h
    have hn : Char.ofNat n ≠ Char.ofNat 32 := by simpa using h.1
    have := ih h.2
    show wordsSigns (Char.ofNat n :: ch w) = _
    rw [wordsSigns.eq_3 _ _ (fun e => hn e), this]
    rfl
theorem signs_join : ∀ ws : List (List Nat), ws ≠ [] → ws.all (fun w => w.all (fun n => Char.ofNat n != Char.ofNat 32)) = true → wordsSigns (ch (joined ws)) = ws.map ch
  | [], h, _ => absurd rfl h
  | [w], _, h => by
    have h2 : w.all (fun n => Char.ofNat n != Char.ofNat 32) = true := by simpa using h
    exact signs_last w h2
  | w :: v :: ws, _, h => by
    rw [List.all_cons, Bool.and_eq_true] at h
    have ih := signs_join (v :: ws) (by simp) h.2
    show wordsSigns (ch (w ++ 32 :: joined (v :: ws))) = _
    have e : ch (w ++ 32 :: joined (v :: ws)) = ch w ++ Char.ofNat 32 :: ch (joined (v :: ws)) := by simp [ch]
    rw [e, signs_word w h.1, ih]
    rfl
theorem order_words : wordsSigns Try.prog.initOrder.toList = words.map ch := by
  rw [order_list]
  exact signs_join words (by decide) (by decide +kernel)
theorem behind : behindMainWord (words.map ch) = (words.drop 2).map ch := by kernel_rfl
theorem tail_cut : (words.drop 2).map ch = ch [99, 117, 116] :: (words.drop 3).map ch := by kernel_rfl
theorem cut_is : ch [99, 117, 116] = "cut".toList := by kernel_rfl
theorem head_is : behindMainWord (wordsSigns Try.prog.initOrder.toList) = "cut".toList :: (words.drop 3).map ch := by rw [order_words, behind, tail_cut, cut_is]
theorem make_of (P : Program) (rest : List (List Char)) (h : behindMainWord (wordsSigns P.initOrder.toList) = "cut".toList :: rest) : P.make = some .cut := by
  unfold Program.make
  rw [h]
  simp only
  rw [if_neg (by decide), if_pos (by simp)]
theorem strip_of (rest : List (List Char)) : stripLifts liftWords ("cut".toList :: rest) = ([], "cut".toList :: rest) := by
  have h : ∀ os : List String, os.all (fun o => !("cut".toList == o.toList)) = true → stripLifts os ("cut".toList :: rest) = ([], "cut".toList :: rest) := by
    intro os
    induction os with
    | nil => intro _; rfl
    | cons o os ih =>
      intro h
      rw [List.all_cons, Bool.and_eq_true] at h
      have h1 : ("cut".toList == o.toList) = false := by simpa using h.1
      rw [stripLifts, h1, if_neg Bool.false_ne_true, ih h.2]
  exact h liftWords (by decide +kernel)
theorem lifts_of (P : Program) (rest : List (List Char)) (h : behindMainWord (wordsSigns P.initOrder.toList) = "cut".toList :: rest) : P.liftsFinal = false := by
  unfold Program.liftsFinal Program.headLifts
  rw [h, strip_of]
  simp
theorem enter_of (P : Program) (rest : List (List Char)) (h : behindMainWord (wordsSigns P.initOrder.toList) = "cut".toList :: rest) (h1 : P.laysLater = false) (h2 : P.bearsReflect = false) (h3 : P.doorFits [] = true) : P.mayEnter = true := by
  unfold Program.mayEnter
  rw [h]
  simp only [strip_of, h1, h2, h3]
  simp
theorem lays : Try.prog.laysLater = false := by kernel_rfl
theorem bears : Try.prog.bearsReflect = false := by kernel_rfl
theorem doors : Try.prog.doorFits [] = true := by kernel_rfl
theorem lifts_final : Try.prog.liftsFinal = false := lifts_of Try.prog _ head_is
theorem make_is : Try.prog.make = some .cut := make_of Try.prog _ head_is
theorem may_enter : Try.prog.mayEnter = true := enter_of Try.prog _ head_is lays bears doors
end Go.Proofs.Ytfjmnaobfbmllaa.M
namespace Go.Proofs.Ytfjmnaobfbmllaa.M
open Go.RowKit Go.Proofs.YtfjmnaobfbmllaaW.PrintWords Go.Proofs.YtfjmnaobfbmllaaW.PrintLast Go.Proofs.YtfjmnaobfbmllaaW.PrintMore
theorem cl2 {W : World} {g : Nat} {t : TypeId} {v0 v1 : Value} (h : W.heap[g]? = some (.cells #[v0, v1] t (0, 0))) : W.cell? ⟨g, 0, none⟩ = some v0 ∧ W.cell? ⟨g, 1, none⟩ = some v1 :=
  ⟨(blk_cell h 0).trans rfl, (blk_cell h 1).trans rfl⟩
theorem fr2 {W : World} {g : Nat} {t : TypeId} {cs : Array Value} (h : W.heap[g]? = some (.cells cs t (0, 0))) : W.frozen? ⟨g, 0, none⟩ = false ∧ W.frozen? ⟨g, 1, none⟩ = false :=
  ⟨blk_frozen h 0, blk_frozen h 1⟩
theorem cl3 {W : World} {g : Nat} {t : TypeId} {v0 v1 v2 : Value} (h : W.heap[g]? = some (.cells #[v0, v1, v2] t (0, 0))) : W.cell? ⟨g, 0, none⟩ = some v0 ∧ W.cell? ⟨g, 1, none⟩ = some v1 ∧ W.cell? ⟨g, 2, none⟩ = some v2 :=
  ⟨(blk_cell h 0).trans rfl, (blk_cell h 1).trans rfl, (blk_cell h 2).trans rfl⟩
theorem fr3 {W : World} {g : Nat} {t : TypeId} {cs : Array Value} (h : W.heap[g]? = some (.cells cs t (0, 0))) : W.frozen? ⟨g, 0, none⟩ = false ∧ W.frozen? ⟨g, 1, none⟩ = false ∧ W.frozen? ⟨g, 2, none⟩ = false :=
  ⟨blk_frozen h 0, blk_frozen h 1, blk_frozen h 2⟩
theorem cl13 {W : World} {g : Nat} {t : TypeId} {v0 v1 v2 v3 v4 v5 v6 v7 v8 v9 v10 v11 v12 : Value} (h : W.heap[g]? = some (.cells #[v0, v1, v2, v3, v4, v5, v6, v7, v8, v9, v10, v11, v12] t (0, 0))) : W.cell? ⟨g, 0, none⟩ = some v0 ∧ W.cell? ⟨g, 1, none⟩ = some v1 ∧ W.cell? ⟨g, 2, none⟩ = some v2 ∧ W.cell? ⟨g, 3, none⟩ = some v3 ∧ W.cell? ⟨g, 4, none⟩ = some v4 ∧ W.cell? ⟨g, 5, none⟩ = some v5 ∧ W.cell? ⟨g, 6, none⟩ = some v6 ∧ W.cell? ⟨g, 7, none⟩ = some v7 ∧ W.cell? ⟨g, 8, none⟩ = some v8 ∧ W.cell? ⟨g, 9, none⟩ = some v9 ∧ W.cell? ⟨g, 10, none⟩ = some v10 ∧ W.cell? ⟨g, 11, none⟩ = some v11 ∧ W.cell? ⟨g, 12, none⟩ = some v12 :=
  ⟨(blk_cell h 0).trans rfl, (blk_cell h 1).trans rfl, (blk_cell h 2).trans rfl, (blk_cell h 3).trans rfl, (blk_cell h 4).trans rfl, (blk_cell h 5).trans rfl, (blk_cell h 6).trans rfl, (blk_cell h 7).trans rfl, (blk_cell h 8).trans rfl, (blk_cell h 9).trans rfl, (blk_cell h 10).trans rfl, (blk_cell h 11).trans rfl, (blk_cell h 12).trans rfl⟩
theorem fr13 {W : World} {g : Nat} {t : TypeId} {cs : Array Value} (h : W.heap[g]? = some (.cells cs t (0, 0))) : W.frozen? ⟨g, 0, none⟩ = false ∧ W.frozen? ⟨g, 1, none⟩ = false ∧ W.frozen? ⟨g, 2, none⟩ = false ∧ W.frozen? ⟨g, 3, none⟩ = false ∧ W.frozen? ⟨g, 4, none⟩ = false ∧ W.frozen? ⟨g, 5, none⟩ = false ∧ W.frozen? ⟨g, 6, none⟩ = false ∧ W.frozen? ⟨g, 7, none⟩ = false ∧ W.frozen? ⟨g, 8, none⟩ = false ∧ W.frozen? ⟨g, 9, none⟩ = false ∧ W.frozen? ⟨g, 10, none⟩ = false ∧ W.frozen? ⟨g, 11, none⟩ = false ∧ W.frozen? ⟨g, 12, none⟩ = false :=
  ⟨blk_frozen h 0, blk_frozen h 1, blk_frozen h 2, blk_frozen h 3, blk_frozen h 4, blk_frozen h 5, blk_frozen h 6, blk_frozen h 7, blk_frozen h 8, blk_frozen h 9, blk_frozen h 10, blk_frozen h 11, blk_frozen h 12⟩
end Go.Proofs.Ytfjmnaobfbmllaa.M
namespace Go.Proofs.Ytfjmnaobfbmllaa.M
open Go.RowKit Go.Proofs.YtfjmnaobfbmllaaW.PrintWords Go.Proofs.YtfjmnaobfbmllaaW.PrintLast Go.Proofs.YtfjmnaobfbmllaaW.PrintMore
attribute [local go_sem] max2_int min2_int max_two min_two max_three min_three max_four min_four   -- for this text's walks alone
set_option linter.unusedVariables false
set_option linter.unusedSimpArgs false
theorem eqA33 (d : Nat) (w : World) (x0 y0 : Bool) (x1 y1 : ByteArray) :
    (Op.equalIn (d + 2) 33 (.agg #[.bool x0, .string x1]) (.agg #[.bool y0, .string y1])).run Try.prog w = .ok (x0 == y0 && (x1.toList == y1.toList)) w := by
  refine eqA_of Try.underlying33 (by kernel_rfl) ?_
  refine eqf_cons (by rfl) (by go_simp; rfl) (by go_simp; rfl) (by go_simp) ?_
  exact eqf_last (by rfl) (by go_simp; rfl) (by go_simp; rfl) (by go_simp)
end Go.Proofs.Ytfjmnaobfbmllaa.M
namespace Go.Proofs.Ytfjmnaobfbmllaa.M
open Go.RowKit Go.Proofs.YtfjmnaobfbmllaaW.PrintWords Go.Proofs.YtfjmnaobfbmllaaW.PrintLast Go.Proofs.YtfjmnaobfbmllaaW.PrintMore
attribute [local go_sem] max2_int min2_int max_two min_two max_three min_three max_four min_four   -- for this text's walks alone
set_option linter.unusedVariables false
set_option linter.unusedSimpArgs false
theorem eqA52 (d : Nat) (w : World) (x0 y0 : Int) (x1 y1 : Int) (x2 y2 : Int) :
    (Op.equalIn (d + 2) 52 (.agg #[.int .i64 x0, .int .i64 x1, .int .i64 x2]) (.agg #[.int .i64 y0, .int .i64 y1, .int .i64 y2])).run Try.prog w = .ok (x0 == y0 && (x1 == y1 && (x2 == y2))) w := by
  refine eqA_of Try.underlying52 (by kernel_rfl) ?_
  refine eqf_cons (by rfl) (by go_simp; rfl) (by go_simp; rfl) (by go_simp) ?_
  refine eqf_cons (by rfl) (by go_simp; rfl) (by go_simp; rfl) (by go_simp) ?_
  exact eqf_last (by rfl) (by go_simp; rfl) (by go_simp; rfl) (by go_simp)
end Go.Proofs.Ytfjmnaobfbmllaa.M
namespace Go.Proofs.Ytfjmnaobfbmllaa.M
open Go.RowKit Go.Proofs.YtfjmnaobfbmllaaW.PrintWords Go.Proofs.YtfjmnaobfbmllaaW.PrintLast Go.Proofs.YtfjmnaobfbmllaaW.PrintMore
attribute [local go_sem] max2_int min2_int max_two min_two max_three min_three max_four min_four   -- for this text's walks alone
set_option linter.unusedVariables false
set_option linter.unusedSimpArgs false
theorem eqA65 (d : Nat) (w : World) (x0 y0 : Int) (x1 y1 : Int) (x2 y2 : Int) (x3 y3 : Int) (x4 y4 : Int) (x5 y5 : Int) (x6 y6 : Int) (x7 y7 : Int) (x8 y8 : Bool) (x9 y9 : ByteArray) (x10 y10 : Bool) (x11 y11 : ByteArray) (x12 y12 : Int) :
    (Op.equalIn (d + 3) 65 (.agg #[.int .i64 x0, .int .i64 x1, .int .i64 x2, .int .i64 x3, .int .i64 x4, .int .i64 x5, .int .i64 x6, .int .i64 x7, .bool x8, .string x9, .bool x10, .string x11, .int .i64 x12]) (.agg #[.int .i64 y0, .int .i64 y1, .int .i64 y2, .int .i64 y3, .int .i64 y4, .int .i64 y5, .int .i64 y6, .int .i64 y7, .bool y8, .string y9, .bool y10, .string y11, .int .i64 y12])).run Try.prog w = .ok (x0 == y0 && ((x1 == y1 && (x2 == y2 && (x3 == y3))) && (x4 == y4 && (x5 == y5 && (x6 == y6 && (x7 == y7 && ((x8 == y8 && (x9.toList == y9.toList)) && ((x10 == y10 && (x11.toList == y11.toList)) && (x12 == y12))))))))) w := by
  refine eqA_of Try.underlying65 (by kernel_rfl) ?_
  refine eqf_cons (by rfl) (by go_simp; rfl) (by go_simp; rfl) (by go_simp) ?_
  refine eqf_cons (by rfl) (by go_simp) (by go_simp) (eqA52 (d + 0) w _ _ _ _ _ _) ?_
  refine eqf_cons (by rfl) (by go_simp; rfl) (by go_simp; rfl) (by go_simp) ?_
  refine eqf_cons (by rfl) (by go_simp; rfl) (by go_simp; rfl) (by go_simp) ?_
  refine eqf_cons (by rfl) (by go_simp; rfl) (by go_simp; rfl) (by go_simp) ?_
  refine eqf_cons (by rfl) (by go_simp; rfl) (by go_simp; rfl) (by go_simp) ?_
  refine eqf_cons (by rfl) (by go_simp) (by go_simp) (eqA33 (d + 0) w _ _ _ _) ?_
  refine eqf_cons (by rfl) (by go_simp) (by go_simp) (eqA33 (d + 0) w _ _ _ _) ?_
  exact eqf_last (by rfl) (by go_simp; rfl) (by go_simp; rfl) (by go_simp)
end Go.Proofs.Ytfjmnaobfbmllaa.M
namespace Go.Proofs.Ytfjmnaobfbmllaa.M
open Go.RowKit Go.Proofs.YtfjmnaobfbmllaaW.PrintWords
def oddS (x : S33) : Bool := (!x.f0 && !x.f1.toList.isEmpty) || decide (200 < x.f1.size)
def sumS : List S33 → Nat
  | [] => 0
  | x :: l => 1 + x.f1.size + sumS l
def rawSize (l : List S33) : Nat := 9 + sumS l
def lastUsed (l : List S33) : Bool := match l.getLast? with
  | none => true
  | some x => x.f0
def goodP (lsn : Int) (l : List S33) : Bool := decide (0 ≤ lsn) && decide (lsn ≤ 1099511627776) && decide (l.length ≤ 32) && !l.any oddS && lastUsed l && decide (rawSize l ≤ 240)
def idxOf {α : Type} (p : α → Bool) : List α → Int
  | [] => -1
  | x :: l => if p x then 0 else if idxOf p l < 0 then -1 else idxOf p l + 1
theorem idxOf_nonneg {α : Type} (p : α → Bool) (l : List α) : 0 ≤ idxOf p l ↔ l.any p = true := by
  induction l with
  | nil => simp [idxOf]
  | cons x l ih =>
    rw [List.any_cons]
    cases h : p x with
    | true => simp [idxOf, h]
    | false =>
      rw [Bool.false_or, ← ih]
      by_cases h2 : idxOf p l < 0
      · simp [idxOf, h, h2]
      · simp [idxOf, h, h2]; omega
theorem idxOf_hit {α : Type} (p : α → Bool) (l : List α) (k : Nat) (hk : k < l.length) (hp : p l[k] = true) (hb : ∀ j (h : j < k), p (l[j]'(by omega)) = false) : idxOf p l = k := by
  induction l generalizing k with
  | nil => simp at hk
  | cons x l ih =>
    cases k with
    | zero => simp at hp; simp [idxOf, hp]
    | succ k =>
      have h0 := hb 0 (by omega)
      simp at h0
      have := ih k (by simpa using hk) (by simpa using hp) (fun j h => by have := hb (j + 1) (by omega); simpa using this)
      unfold idxOf
      simp only [h0, Bool.false_eq_true, if_false, this]
      rw [if_neg (by omega)]; omega
theorem idxOf_miss {α : Type} (p : α → Bool) (l : List α) (hb : ∀ j (h : j < l.length), p l[j] = false) : idxOf p l = -1 := by
  have h : ¬ (0 ≤ idxOf p l) := by
    rw [idxOf_nonneg]
    simp only [List.any_eq_true, not_exists, not_and]
    intro x hx
    obtain ⟨j, hj, rfl⟩ := List.getElem_of_mem hx
    simp [hb j hj]
  have h2 : -1 ≤ idxOf p l := by
    clear h hb
    induction l with
    | nil => simp [idxOf]
    | cons x l ih => unfold idxOf; split; omega; split <;> omega
  omega
end Go.Proofs.Ytfjmnaobfbmllaa.M
namespace Go.Proofs.Ytfjmnaobfbmllaa.M
open Go.RowKit Go.Proofs.YtfjmnaobfbmllaaW.PrintWords Go.Proofs.YtfjmnaobfbmllaaW.PrintLast Go.Proofs.YtfjmnaobfbmllaaW.PrintMore
set_option linter.unusedVariables false
set_option linter.unusedSimpArgs false
theorem isEmpty_ne (l : List UInt8) : l.isEmpty = !(l != []) := by cases l <;> rfl
def flat33 (xs : List S33) : List Value := xs.flatMap fun x => [.bool x.f0, .string x.f1]
theorem flat33_cons (x : S33) (xs : List S33) : flat33 (x :: xs) = .bool x.f0 :: .string x.f1 :: flat33 xs := by simp [flat33]
theorem flat33_append (xs ys : List S33) : flat33 (xs ++ ys) = flat33 xs ++ flat33 ys := by simp [flat33]
theorem flat33_length (xs : List S33) : (flat33 xs).length = xs.length * 2 := by
  induction xs with
  | nil => rfl
  | cons x xs ih => rw [flat33_cons]; simp [ih]; omega
theorem flat33_seg (xs : List S33) (j : Nat) (p : S33) (h : xs[j]? = some p) : ((flat33 xs).drop (j * 2)).take 2 = [.bool p.f0, .string p.f1] := by
  induction xs generalizing j with
  | nil => simp at h
  | cons x xs ih =>
    rw [flat33_cons]
    cases j with
    | zero => simp at h; subst h; rfl
    | succ j =>
      have : (j + 1) * 2 = j * 2 + 1 + 1 := by omega
      rw [this, List.drop_succ_cons, List.drop_succ_cons]
      exact ih j (by simpa using h)
theorem flat33_drop (xs : List S33) (j : Nat) : (flat33 xs).drop (j * 2) = flat33 (xs.drop j) := by
  induction xs generalizing j with
  | nil => simp [flat33]
  | cons x xs ih =>
    cases j with
    | zero => rfl
    | succ j =>
      have : (j + 1) * 2 = j * 2 + 1 + 1 := by omega
      rw [this, flat33_cons, List.drop_succ_cons, List.drop_succ_cons, List.drop_succ_cons]
      exact ih j
theorem flat33_one (xs : List S33) : ∀ v ∈ flat33 xs, v.oneCell' = true := by
  intro v hv
  simp only [flat33, List.mem_flatMap] at hv
  obtain ⟨x, _, hv⟩ := hv
  simp at hv
  rcases hv with rfl | rfl <;> rfl
theorem reps33 {R : S33 → List Value → Prop} (hR : ∀ p c, R p c → c = [.bool p.f0, .string p.f1]) (xs : List S33) (cs : List Value) (h : Reps R 2 xs cs) : cs = flat33 xs := by
  induction xs generalizing cs with
  | nil => exact List.eq_nil_of_length_eq_zero (by have := h.1; simpa using this)
  | cons x xs ih =>
    have h0 := hR _ _ (h.2 0 x rfl)
    have hl := h.1
    simp only [List.length_cons] at hl
    match cs, hl, h0, h with
    | a :: b :: cs, hl, h0, h =>
      simp at h0
      obtain ⟨rfl, rfl⟩ := h0
      rw [flat33_cons]
      congr 2
      refine ih cs ⟨by simp at hl; omega, fun j p hp => ?_⟩
      have := h.2 (j + 1) p (by simpa using hp)
      have e : (j + 1) * 2 = j * 2 + 1 + 1 := by omega
      rw [e, List.drop_succ_cons, List.drop_succ_cons] at this
      exact this
    | [], hl, _, _ => simp at hl
    | [a], hl, _, _ => simp at hl; omega
theorem reps33_mk {R : S33 → List Value → Prop} (hR : ∀ p, R p [.bool p.f0, .string p.f1]) (xs : List S33) : Reps R 2 xs (flat33 xs) :=
  ⟨flat33_length xs, fun j p hp => by rw [flat33_seg xs j p hp]; exact hR p⟩
section
variable {w : World} {base : Nat} {ok : Nat → Prop} {v : Value} {xs : List S33} {A : Option Addr} {n : Nat}
theorem R33_own (h : k33.R 33 w base ok v xs) : w.ownsRow base 33 2 v xs.length (flat33 xs) := by
  obtain ⟨_, inner, ho, hr⟩ := h
  rw [← reps33 (fun p c hp => k33_openM hp) xs inner hr]
  exact ho
theorem R33_mk (h0 : ∀ k, v.ownBlock = some k → ok k) (ho : w.ownsRow base 33 2 v xs.length (flat33 xs)) : k33.R 33 w base ok v xs :=
  ⟨h0, flat33 xs, ho, reps33_mk (fun p => k33_mkM _ _ _ p) xs⟩
theorem C33_cells (h : k33.C w A n xs) (h0 : 0 < n) : ∃ ad, A = some ad ∧ ∀ j u, (flat33 xs)[j]? = some u → w.cell? (ad.add j) = some u := by
  obtain ⟨ad, e, hc⟩ := h.2.2 h0
  refine ⟨ad, e, fun j u hu => ?_⟩
  have hj : j < xs.length * 2 := by rw [← flat33_length]; exact (List.getElem?_eq_some_iff.1 hu).1
  have hq : j / 2 < xs.length := by omega
  obtain ⟨c, hs, hk, hcell⟩ := hc (j / 2) _ (List.getElem?_eq_getElem hq)
  obtain rfl := k33_open hk
  have hseg := flat33_seg xs (j / 2) _ (List.getElem?_eq_getElem hq)
  have := hcell (j % 2) u (by
    rw [← hseg, List.getElem?_take, if_pos (by omega), List.getElem?_drop, show j / 2 * 2 + j % 2 = j by omega]; exact hu)
  rwa [show j / 2 * k33.sz + j % 2 = j by show j / 2 * 2 + j % 2 = j; omega] at this
end
def copyIn {α : Type} (xs ys : List α) : List α := ys ++ xs.drop ys.length
theorem copyIn_length {α : Type} (xs ys : List α) (h : ys.length ≤ xs.length) : (copyIn xs ys).length = xs.length := by unfold copyIn; simp; omega
theorem run_copy33 (w : World) (ty : TypeId) (g dLen dCap : Nat) (A : Option Addr) (sLen sCap : Nat) (cur : Array Value) (cs : List Value)
    (hg : w.heap[g]? = some (.cells cur 33 (0, 0))) (hn : sLen ≤ dLen) (hcs : cs.length = sLen * 2)
    (hsrc : 0 < sLen → ∃ ad, A = some ad ∧ ∀ j v, cs[j]? = some v → w.cell? (ad.add j) = some v) (hfit : cs.length ≤ cur.size) (h1 : ∀ v ∈ cs, v.oneCell' = true) :
    (Builtin.copy_ #[22, 22] ty #[.slice (some ⟨g, 0, none⟩) dLen dCap, .slice A sLen sCap]).run Try.prog w =
      .ok (goInt sLen) (w.setRow g (cs ++ cur.toList.drop cs.length).toArray) := by
  have hst := run_storeCells_at Try.prog g 0 33 cs 0 cur w hg (by simpa using hfit) h1
  simp only [Nat.add_zero, List.take_zero, List.nil_append, Nat.zero_add] at hst
  have hmin : Nat.min sLen dLen = sLen := Nat.min_eq_left hn
  have hu := Try.underlying22
  have hi := info33
  cases hq : Try.prog.info? 33 with
  | none => rw [hq] at hi; cases hi
  | some i =>
    rw [hq] at hi
    have hsz : i.size = 2 := by simp at hi; exact hi.2.1
    cases A with
    | none =>
      have h0 : sLen = 0 := by
        rcases Nat.eq_zero_or_pos sLen with h | h
        · exact h
        · obtain ⟨ad, e, _⟩ := hsrc h; cases e
      subst h0
      obtain rfl : cs = [] := List.eq_nil_of_length_eq_zero (by simpa using hcs)
      have hself := setRow_self w g cur 33 (0, 0) hg
      simp [Builtin.copy_, run_underlying hu, Builtin.lenOf, Builtin.firstCells, sizeOf, typeInfo, hq, hsz, storeCells, hself]
    | some ad =>
      have hl : (loadCells ad (sLen * 2)).run Try.prog w = .ok cs.toArray w := by
        rw [← hcs]
        refine run_loadCells_list (P := Try.prog) w ad cs (fun j v hv => ?_)
        have hp : 0 < sLen := by have := (List.getElem?_eq_some_iff.1 hv).1; omega
        obtain ⟨ad', e, hc⟩ := hsrc hp
        cases e
        exact hc j v hv
      simp [Builtin.copy_, run_underlying hu, Builtin.lenOf, Builtin.firstCells, sizeOf, typeInfo, hq, hsz, hmin, hl, hst]
section
variable {ops : Array Oper} {rest : List Oper} {o : Oper} {a : Act} {Q : Exit → Act → World → Prop}
theorem copy33_event {W : World} (hgd : o.guard = none) {N : Tmp} (hd : o.dst = some N) (d s : Operand) (ho : o.op = .call { callee := .builtin .copy, args := #[d, s], argTypes := #[22, 22] })
    {xs ys : List S33} {g n cap c base : Nat} {A : Option Addr} {ok : Nat → Prop} (hdv : a.eval d = .slice (some ⟨g, 0, none⟩) n cap) (hsv : a.eval s = .slice A ys.length c)
    (HR : k33.R 33 W base ok (.slice (some ⟨g, 0, none⟩) n cap) xs) (HC : k33.C W A ys.length ys) (hle : ys.length ≤ xs.length)
    (h : ∀ w1, k33.R 33 w1 base ok (.slice (some ⟨g, 0, none⟩) n cap) (copyIn xs ys) → W.grownBy w1 (some g) → Below base W w1 → wpList Try.prog ops Q rest (a.put o.dst (goInt ys.length)) w1) :
    wpList Try.prog ops Q (o :: rest) a W := by
  obtain rfl := (Kd.R_reads' HR).1
  unfold copyIn at h
  have ho2 := (R33_own HR).2
  rcases ho2 with ⟨hv, _⟩ | ⟨g', cap', cur, hv, hb, hh, hnc, hcm, hcs, ht⟩
  · cases hv
  injection hv with ha _ hc
  injection ha with ha
  injection ha with ha
  subst ha hc
  have hlen : (flat33 ys).length ≤ cur.size := by rw [flat33_length, hcs]; omega
  have hrun := run_copy33 W o.type g xs.length cap A ys.length c cur (flat33 ys) hh hle (flat33_length ys) (fun hp => C33_cells HC hp) hlen (flat33_one ys)
  refine wpList_plain hgd fun K hK => ?_
  unfold Oper.wp
  simp [execOp, ho, resolve, invoke, builtin, hdv, hsv, hrun, Result.andThen]
  refine hK _ _ (h _ ?_ ?_ ?_)
  · refine R33_mk HR.1 ⟨by rw [flat33_length], .inr ⟨g, cap, _, ?_, hb, setRow_heap W g cur _ 33 _ hh, by simp; omega, hcm, ?_, ?_⟩⟩
    · have e : (ys ++ xs.drop ys.length).length = xs.length := by simp; omega
      rw [e]
    · have h3 : cur.toList.length = cap * 2 := by rw [Array.length_toList]; exact hcs
      have e3 : (⟨flat33 ys⟩ : Array Value).size = (flat33 ys).length := rfl
      simp only [List.size_toArray, List.length_append, List.length_drop, Array.size_append]
      simp only [List.size_toArray, List.length_append, List.length_drop] at *
      omega
    · have e : (ys ++ xs.drop ys.length).length = xs.length := by simp; omega
      have e2 : flat33 (ys ++ xs.drop ys.length) = flat33 ys ++ (flat33 xs).drop (flat33 ys).length := by rw [flat33_append, flat33_length ys, flat33_drop]
      rw [e, e2, ← ht]
      show (flat33 ys ++ cur.toList.drop (flat33 ys).length).take (xs.length * 2) = _
      rw [List.take_append, List.take_of_length_le (by rw [flat33_length]; omega), List.drop_take]
  · exact ⟨rfl, rfl, rfl, by simp [World.setRow], fun k _ hk => setRow_other W g k _ (fun e => hk (by rw [e]))⟩
  · exact below_setRow (Below.refl _ _) hb _
end
end Go.Proofs.Ytfjmnaobfbmllaa.M
namespace Go.Proofs.Ytfjmnaobfbmllaa.M
open Go.RowKit Go.Proofs.YtfjmnaobfbmllaaW.PrintWords Go.Proofs.YtfjmnaobfbmllaaW.PrintLast Go.Proofs.YtfjmnaobfbmllaaW.PrintMore
attribute [local go_sem] max2_int min2_int max_two min_two max_three min_three max_four min_four   -- for this text's walks alone
set_option linter.unusedVariables false
set_option linter.unusedSimpArgs false
def slab_size.l0 : Nat → Int → List (S33) → Int → Int → Option (Int)
 | 0, _, _, _, _ => none
 | k + 1, x3, x6, x7, x8 => if x8 < x7 then (if 0 ≤ x8 then (if x8 < (x6.length : Int) then (slab_size.l0 k (wrap64 (x3 + (wrap64 (1 + (((rd_T33 x6 x8).f1).size : Int))))) x6 x7 (wrap64 (x8 + 1))) else (none)) else (none)) else (some x3)
def slab_size.f (k : Nat) (l0 : List (S33)) : Option (Int) := slab_size.l0 k 9 l0 (l0.length : Int) 0
set_option maxHeartbeats 8000000 in
set_option maxRecDepth 100000 in
theorem slab_size.calls (k : Nat) (A0 : Option Addr) (c0 : Nat) (l0 : List (S33)) (r : Int) (w : World) (hr0 : Kd.C k33 w A0 l0.length l0) (hc0 : l0.length ≤ c0) (h : slab_size.f k l0 = some r) :
  Calls Try.prog 81 #[.slice A0 l0.length c0] w fun e w' => e = .returned (.int .i64 r) ∧ Below w.heap.size w w' := by
 have hu33 := Try.underlying33
 have HR0 := Aside0.mk hr0
 have HC0 := Aside0.mk hc0
 clear hr0 hc0
 have HB := Aside0.mk (Below.refl w.heap.size w)
 have H : (slab_size.l0 k 9 l0 (l0.length : Int) 0) = some r := h
 clear h
 have H' := Aside0.mk H
 clear H
 go_enter Try.func81, Try.ntmps81
 go_wp2
 go_loopg [3, 8] k (fun kq v3 v8 w' => ∃ (x3_1 : Int) (x8_1 : Int), v3 = .int .i64 x3_1 ∧ v8 = .int .i64 x8_1 ∧ Aside0 (slab_size.l0 kq x3_1 l0 (l0.length : Int) x8_1 = some r) ∧ Aside0 (kq ≤ k) ∧ Aside0 (Below w.heap.size w w'))
 case atStart => exact ⟨(9), (0), (by first | rfl | (simp; done) | (simp [*]; done)), (by first | rfl | (simp; done) | (simp [*]; done)), H', ⟨Nat.le_refl _⟩, ⟨by repeat (first | (with_reducible first | exact HB.out | apply below_alloc | apply pw_below_drewN | apply below_drew1) | exact HB.out)⟩⟩
 case round =>
  clear H'
  obtain ⟨x3_1, x8_1, rfl, rfl, HA, HK1, HB⟩ := hrel
  cases gk with
  | zero => exact absurd HA.out (by simp [slab_size.l0])
  | succ k1 =>
   have H := HA.out
   clear HA
   simp only [slab_size.l0] at H
   by_cases c2 : x8_1 < (l0.length : Int)
   ·rw [if_pos c2] at H
    have c2b0 : decide (x8_1 < (l0.length : Int)) = true := decide_eq_true c2
    clear c2
    by_cases c3 : 0 ≤ x8_1
    ·rw [if_pos c3] at H
     have c3b0 : decide (0 ≤ x8_1) = true := decide_eq_true c3
     clear c3
     by_cases c4 : x8_1 < (l0.length : Int)
     ·rw [if_pos c4] at H
      have c4b0 : decide (x8_1 < (l0.length : Int)) = true := decide_eq_true c4
      clear c4
      have H' := Aside0.mk H
      clear H
      have p101 : 0 ≤ (x8_1 : Int) := of_decide_eq_true (by first | (with_reducible assumption) | assumption)
      have q101 : x8_1 < (l0.length : Int) := of_decide_eq_true (by first | (with_reducible assumption) | assumption)
      obtain ⟨ad101, e101, hx101_0, hx101_1⟩ := at_T33 HR0.out x8_1 p101 q101
      cases e101
      replace hx101_0 := pw_cell_below HB.out hx101_0
      replace hx101_1 := pw_cell_below HB.out hx101_1
      replace p101 := eq_true p101
      replace q101 := eq_true q101
      go_wp2_with (first | ((with_reducible refine gate_dst (N := 5) rfl ?_); refine box_event ?hg (N := 5) ?hd (cs := #[.bool false, .string (⟨#[]⟩ : ByteArray)]) (t := 33) ?hr ?_; (case hd => rfl); (case hg => rfl); (case hr => first | (go_simp; done) | (go_simp; rfl)); intro gb102 hg w5 hbox hb; have n0_ := Aside0.mk (below_step HB.out hb); have n1_ := Aside0.mk (hbox); have n2_ := Aside0.mk ((by rw [hg]; exact below_size HB.out : w.heap.size ≤ gb102)); have n3_ := Aside0.mk ((by rw [hg]; exact below_size HB.out : w.heap.size ≤ gb102)); clear HB; have HB := n0_; have BK102 := n1_; have GW102 := n2_; have GE102 := n3_; clear n0_ n1_ n2_ n3_; clear hb hbox hg; obtain ⟨hcz6_0, hcz6_1⟩ := cl2 (W := w5) BK102.out; obtain ⟨hfz6_0, hfz6_1⟩ := fr2 BK102.out))
      go_roundg k1
      case measure => have := HK1.out; omega
      case rel => exact ⟨(wrap64 (x3_1 + (wrap64 (1 + (((rd_T33 l0 x8_1).f1).size : Int))))), (wrap64 (x8_1 + 1)), (by first | rfl | (simp; done) | (simp [*]; done)), (by first | rfl | (simp; done) | (simp [*]; done)), H', ⟨by have := HK1.out; omega⟩, ⟨by repeat (first | (with_reducible first | exact HB.out | apply below_alloc | apply pw_below_drewN | apply below_drew1 | refine below_set ?_ GE102.out) | exact HB.out)⟩⟩
     ·rw [if_neg c4] at H
      exact absurd H (by simp)
    ·rw [if_neg c3] at H
     exact absurd H (by simp)
   ·rw [if_neg c2] at H
    have c2b0 : decide (x8_1 < (l0.length : Int)) = false := decide_eq_false c2
    clear c2
    obtain rfl := Option.some.inj H
    go_wp2
    go_ret
    exact ⟨by first | rfl | (simp [errW_none, errW_some] <;> rfl) | (simp [*, errW_none, errW_some] <;> rfl), by repeat (first | (with_reducible first | exact HB.out | apply below_alloc | apply pw_below_drewN | apply below_drew1) | exact HB.out)⟩
end Go.Proofs.Ytfjmnaobfbmllaa.M
namespace Go.Proofs.Ytfjmnaobfbmllaa.M
open Go.RowKit Go.Proofs.YtfjmnaobfbmllaaW.PrintWords Go.Proofs.YtfjmnaobfbmllaaW.PrintLast Go.Proofs.YtfjmnaobfbmllaaW.PrintMore
attribute [local go_sem] max2_int min2_int max_two min_two max_three min_three max_four min_four   -- for this text's walks alone
set_option linter.unusedVariables false
set_option linter.unusedSimpArgs false
def seneschalref03_size.l0 : Nat → Int → Int → Int → List (S33) → Option (Int)
 | 0, _, _, _, _ => none
 | k + 1, x3, x4, x102000, x102001 => if x4 < (x102001.length : Int) then (if x4 < 33 then (if 0 ≤ x4 then (seneschalref03_size.l0 k (wrap64 ((wrap64 (x3 + 1)) + (mn (((rd_T33 x102001 x4).f1).size : Int) 1000))) (wrap64 (x4 + 1)) x102000 x102001) else (none)) else (some x3)) else (some x3)
def seneschalref03_size.f (k : Nat) (a0_0 : Int) (l0_1 : List (S33)) : Option (Int) := seneschalref03_size.l0 k 9 0 a0_0 l0_1
set_option maxHeartbeats 8000000 in
set_option maxRecDepth 100000 in
theorem seneschalref03_size.calls (k : Nat) (a0_0 : Int) (A0_1 : Option Addr) (c0_1 : Nat) (l0_1 : List (S33)) (r : Int) (w : World) (hr0_1 : Kd.C k33 w A0_1 l0_1.length l0_1) (hc0_1 : l0_1.length ≤ c0_1) (h : seneschalref03_size.f k a0_0 l0_1 = some r) :
  Calls Try.prog 82 #[.agg #[.int .i64 a0_0, .slice A0_1 l0_1.length c0_1]] w fun e w' => e = .returned (.int .i64 r) ∧ Below w.heap.size w w' := by
 have hu24 := Try.underlying24
 have HR0_1 := Aside0.mk hr0_1
 have HC0_1 := Aside0.mk hc0_1
 clear hr0_1 hc0_1
 have HB := Aside0.mk (Below.refl w.heap.size w)
 have H : (seneschalref03_size.l0 k 9 0 a0_0 l0_1) = some r := h
 clear h
 have H' := Aside0.mk H
 clear H
 go_enter Try.func82, Try.ntmps82
 go_wp2_with (first | ((with_reducible refine gate_dst (N := 1) rfl ?_); refine box_event ?hg (N := 1) ?hd (cs := #[.int .i64 a0_0, .slice A0_1 l0_1.length c0_1]) (t := 24) ?hr ?_; (case hd => rfl); (case hg => rfl); (case hr => first | (go_simp; done) | (go_simp; rfl)); intro gb101 hg w2 hbox hb; have n0_ := Aside0.mk (below_step HB.out hb); have n1_ := Aside0.mk (hbox); have n2_ := Aside0.mk ((by rw [hg]; exact below_size HB.out : w.heap.size ≤ gb101)); have n3_ := Aside0.mk ((by rw [hg]; exact below_size HB.out : w.heap.size ≤ gb101)); clear HB; have HB := n0_; have BK101 := n1_; have GW101 := n2_; have GE101 := n3_; clear n0_ n1_ n2_ n3_; clear hb hbox hg))
 go_loopg [3, 4] k (fun kq v3 v4 w' => ∃ (x3_1 : Int) (x4_1 : Int), v3 = .int .i64 x3_1 ∧ v4 = .int .i64 x4_1 ∧ Aside0 (seneschalref03_size.l0 kq x3_1 x4_1 a0_0 l0_1 = some r) ∧ Aside0 (kq ≤ k) ∧ Aside0 (w'.heap[gb101]? = some (.cells #[.int .i64 a0_0, (.slice A0_1 l0_1.length c0_1)] 24 (0, 0))) ∧ Aside0 (Below w.heap.size w w'))
 case atStart => exact ⟨(9), (0), (by first | rfl | (simp; done) | (simp [*]; done)), (by first | rfl | (simp; done) | (simp [*]; done)), H', ⟨Nat.le_refl _⟩, ⟨by (with_reducible repeat (first | refine blk_drewN ?_ _ | refine blk_drew ?_ | refine blk_alloc ?_ _)); exact BK101.out⟩, ⟨by repeat (first | (with_reducible first | exact HB.out | apply below_alloc | apply pw_below_drewN | apply below_drew1 | refine below_set ?_ GE101.out) | exact HB.out)⟩⟩
 case round =>
  clear H'
  try clear p2
  obtain ⟨x3_1, x4_1, rfl, rfl, HA, HK1, BK101, HB⟩ := hrel
  cases gk with
  | zero => exact absurd HA.out (by simp [seneschalref03_size.l0])
  | succ k1 =>
   have H := HA.out
   clear HA
   simp only [seneschalref03_size.l0] at H
   by_cases c3 : x4_1 < (l0_1.length : Int)
   ·rw [if_pos c3] at H
    have c3b0 : decide (x4_1 < (l0_1.length : Int)) = true := decide_eq_true c3
    clear c3
    by_cases c4 : x4_1 < 33
    ·rw [if_pos c4] at H
     have c4b0 : decide (x4_1 < 33) = true := decide_eq_true c4
     clear c4
     by_cases c5 : 0 ≤ x4_1
     ·rw [if_pos c5] at H
      have c5b0 : decide (0 ≤ x4_1) = true := decide_eq_true c5
      clear c5
      obtain ⟨ji6, hji6⟩ : ∃ j_ : Int, (mn (((rd_T33 l0_1 x4_1).f1).size : Int) 1000) = j_ := ⟨_, rfl⟩
      replace H : (seneschalref03_size.l0 k1 (wrap64 ((wrap64 (x3_1 + 1)) + (ji6))) (wrap64 (x4_1 + 1)) a0_0 l0_1) = some r := by first | (rw [hji6] at H; exact H) | (simp only [hji6] at H ⊢; exact H)
      have hji6_ : (if 1000 < (((rd_T33 l0_1 x4_1).f1).size : Int) then 1000 else (((rd_T33 l0_1 x4_1).f1).size : Int)) = ji6 := hji6
      have H' := Aside0.mk H
      clear H
      obtain ⟨hcz7_0, hcz7_1⟩ := cl2 (W := wr) BK101.out
      obtain ⟨hfz7_0, hfz7_1⟩ := fr2 BK101.out
      have p102 : 0 ≤ (x4_1 : Int) := of_decide_eq_true (by first | (with_reducible assumption) | assumption)
      have q102 : x4_1 < (l0_1.length : Int) := of_decide_eq_true (by first | (with_reducible assumption) | assumption)
      obtain ⟨ad102, e102, hx102_0, hx102_1⟩ := at_T33 HR0_1.out x4_1 p102 q102
      cases e102
      replace hx102_0 := pw_cell_below HB.out hx102_0
      replace hx102_1 := pw_cell_below HB.out hx102_1
      replace p102 := eq_true p102
      replace q102 := eq_true q102
      go_wp2
      go_roundg k1
      case measure => have := HK1.out; omega
      case rel => exact ⟨(wrap64 ((wrap64 (x3_1 + 1)) + (ji6))), (wrap64 (x4_1 + 1)), (by first | rfl | (simp; done) | (simp only [← hji6] <;> (first | rfl | simp)) | (simp [*]; done)), (by first | rfl | (simp; done) | (simp [*]; done)), H', ⟨by have := HK1.out; omega⟩, ⟨by (with_reducible repeat (first | refine blk_drewN ?_ _ | refine blk_drew ?_ | refine blk_alloc ?_ _)); exact BK101.out⟩, ⟨by repeat (first | (with_reducible first | exact HB.out | apply below_alloc | apply pw_below_drewN | apply below_drew1 | refine below_set ?_ GE101.out) | exact HB.out)⟩⟩
     ·rw [if_neg c5] at H
      exact absurd H (by simp)
    ·rw [if_neg c4] at H
     have c4b0 : decide (x4_1 < 33) = false := decide_eq_false c4
     clear c4
     obtain rfl := Option.some.inj H
     obtain ⟨hcz8_0, hcz8_1⟩ := cl2 (W := wr) BK101.out
     obtain ⟨hfz8_0, hfz8_1⟩ := fr2 BK101.out
     go_wp2
     go_ret
     exact ⟨by first | rfl | (simp [errW_none, errW_some] <;> rfl) | (simp [*, errW_none, errW_some] <;> rfl), by repeat (first | (with_reducible first | exact HB.out | apply below_alloc | apply pw_below_drewN | apply below_drew1 | refine below_set ?_ GE101.out) | exact HB.out)⟩
   ·rw [if_neg c3] at H
    have c3b0 : decide (x4_1 < (l0_1.length : Int)) = false := decide_eq_false c3
    clear c3
    obtain rfl := Option.some.inj H
    obtain ⟨hcz9_0, hcz9_1⟩ := cl2 (W := wr) BK101.out
    obtain ⟨hfz9_0, hfz9_1⟩ := fr2 BK101.out
    go_wp2
    go_ret
    exact ⟨by first | rfl | (simp [errW_none, errW_some] <;> rfl) | (simp [*, errW_none, errW_some] <;> rfl), by repeat (first | (with_reducible first | exact HB.out | apply below_alloc | apply pw_below_drewN | apply below_drew1 | refine below_set ?_ GE101.out) | exact HB.out)⟩
end Go.Proofs.Ytfjmnaobfbmllaa.M
namespace Go.Proofs.Ytfjmnaobfbmllaa.M
open Go.RowKit Go.Proofs.YtfjmnaobfbmllaaW.PrintWords Go.Proofs.YtfjmnaobfbmllaaW.PrintLast Go.Proofs.YtfjmnaobfbmllaaW.PrintMore
set_option linter.unusedVariables false
set_option linter.unusedSimpArgs false
theorem w64 (n : Int) (h0 : -9223372036854775808 ≤ n) (h1 : n ≤ 9223372036854775807) : wrap64 n = n := by unfold wrap64; omega
theorem rd33 (l : List S33) (i : Nat) (h : i < l.length) : rd_T33 l (i : Int) = l[i] := by
  simp [rd_T33, List.getD_eq_getElem?_getD, List.getElem?_eq_getElem h]
theorem sumS_drop (l : List S33) (i : Nat) (h : i < l.length) : sumS (l.drop i) = 1 + l[i].f1.size + sumS (l.drop (i + 1)) := by
  rw [List.drop_eq_getElem_cons h]; rfl
theorem size_loop (l : List S33) (hb : sumS l ≤ 4611686018427387904) (d : Nat) : ∀ (k i acc : Nat), i + d = l.length → d < k → acc + sumS (l.drop i) ≤ 4611686018427387904 + 9 →
    slab_size.l0 k acc l l.length i = some ((acc + sumS (l.drop i) : Nat) : Int) := by
  induction d with
  | zero =>
    intro k i acc hi hk hs
    obtain ⟨k, rfl⟩ : ∃ m, k = m + 1 := ⟨k - 1, by omega⟩
    simp only [slab_size.l0]
    rw [if_neg (by omega), List.drop_of_length_le (by omega)]
    simp [sumS]
  | succ d ih =>
    intro k i acc hi hk hs
    obtain ⟨k, rfl⟩ : ∃ m, k = m + 1 := ⟨k - 1, by omega⟩
    have hlt : i < l.length := by omega
    have hd := sumS_drop l i hlt
    simp only [slab_size.l0]
    rw [if_pos (by omega), if_pos (by omega), if_pos (by omega), rd33 l i hlt]
    have hlen : l.length ≤ 4611686018427387904 := by
      have : ∀ m : List S33, m.length ≤ sumS m := fun m => by induction m with
        | nil => simp [sumS]
        | cons x m ih => simp only [List.length_cons, sumS]; omega
      exact Nat.le_trans (this l) hb
    rw [w64 (1 + (l[i].f1.size : Int)) (by omega) (by omega), w64 (acc + (1 + (l[i].f1.size : Int))) (by omega) (by omega), w64 ((i : Int) + 1) (by omega) (by omega)]
    have := ih k (i + 1) (acc + (1 + l[i].f1.size)) (by omega) (by omega) (by omega)
    rw [show ((acc + (1 + l[i].f1.size) : Nat) : Int) = (acc : Int) + (1 + (l[i].f1.size : Int)) by omega, show ((i + 1 : Nat) : Int) = (i : Int) + 1 by omega] at this
    rw [this, hd]
    congr 1
    omega
theorem size_pure (l : List S33) (hb : sumS l ≤ 4611686018427387904) (k : Nat) (hk : l.length < k) : slab_size.f k l = some (rawSize l : Int) := by
  have := size_loop l hb l.length k 0 9 (by omega) hk (by simp; omega)
  unfold slab_size.f rawSize
  simpa using this
def sumR : List S33 → Nat
  | [] => 0
  | x :: l => 1 + min x.f1.size 1000 + sumR l
theorem sumR_drop (l : List S33) (i : Nat) (h : i < l.length) : sumR (l.drop i) = 1 + min l[i].f1.size 1000 + sumR (l.drop (i + 1)) := by
  rw [List.drop_eq_getElem_cons h]; rfl
theorem rsize_loop (a : Int) (l : List S33) (hl : l.length ≤ 32) (d : Nat) : ∀ (k i acc : Nat), i + d = l.length → d < k → acc + 1001 * d ≤ 100000 →
    seneschalref03_size.l0 k acc i a l = some ((acc + sumR (l.drop i) : Nat) : Int) := by
  induction d with
  | zero =>
    intro k i acc hi hk hs
    obtain ⟨k, rfl⟩ : ∃ m, k = m + 1 := ⟨k - 1, by omega⟩
    simp only [seneschalref03_size.l0]
    rw [if_neg (by omega), List.drop_of_length_le (by omega)]
    simp [sumR]
  | succ d ih =>
    intro k i acc hi hk hs
    obtain ⟨k, rfl⟩ : ∃ m, k = m + 1 := ⟨k - 1, by omega⟩
    have hlt : i < l.length := by omega
    have hd := sumR_drop l i hlt
    simp only [seneschalref03_size.l0]
    rw [if_pos (by omega), if_pos (by omega), if_pos (by omega), rd33 l i hlt]
    have hm : mn (l[i].f1.size : Int) 1000 = ((min l[i].f1.size 1000 : Nat) : Int) := by unfold mn; split <;> omega
    rw [hm, w64 ((acc : Int) + 1) (by omega) (by omega), w64 _ (by omega) (by omega), w64 ((i : Int) + 1) (by omega) (by omega)]
    have := ih k (i + 1) (acc + 1 + min l[i].f1.size 1000) (by omega) (by omega) (by omega)
    rw [show ((acc + 1 + min l[i].f1.size 1000 : Nat) : Int) = (acc : Int) + 1 + ((min l[i].f1.size 1000 : Nat) : Int) by omega, show ((i + 1 : Nat) : Int) = (i : Int) + 1 by omega] at this
    rw [this, hd]
    congr 1
    omega
theorem rsize_pure (a : Int) (l : List S33) (hl : l.length ≤ 32) (k : Nat) (hk : 32 < k) : seneschalref03_size.f k a l = some ((9 + sumR l : Nat) : Int) := by
  have := rsize_loop a l hl l.length k 0 9 (by omega) (by omega) (by omega)
  unfold seneschalref03_size.f
  simpa using this
def slabSize0.f (l : List S33) : Option Int := if sumS l ≤ 4611686018427387904 then some (rawSize l : Int) else none
theorem slabSize0.calls (A : Option Addr) (c : Nat) (l : List S33) (r : Int) (w : World) (hr : Kd.C k33 w A l.length l) (hc : l.length ≤ c) (h : slabSize0.f l = some r) :
    Calls Try.prog 81 #[.slice A l.length c] w fun e w' => e = .returned (.int .i64 r) ∧ Below w.heap.size w w' := by
  unfold slabSize0.f at h
  split at h
  · rename_i hb
    exact slab_size.calls (l.length + 1) A c l r w hr hc (by rw [size_pure l hb _ (by omega)]; exact h)
  · cases h
def refSize0.f (a : Int) (l : List S33) : Option Int := if l.length ≤ 32 then some ((9 + sumR l : Nat) : Int) else none
theorem refSize0.calls (a : Int) (A : Option Addr) (c : Nat) (l : List S33) (r : Int) (w : World) (hr : Kd.C k33 w A l.length l) (hc : l.length ≤ c) (h : refSize0.f a l = some r) :
    Calls Try.prog 82 #[.agg #[.int .i64 a, .slice A l.length c]] w fun e w' => e = .returned (.int .i64 r) ∧ Below w.heap.size w w' := by
  unfold refSize0.f at h
  split at h
  · rename_i hb
    exact seneschalref03_size.calls 40 a A c l r w hr hc (by rw [rsize_pure a l hb 40 (by omega)]; exact h)
  · cases h
end Go.Proofs.Ytfjmnaobfbmllaa.M
namespace Go.Proofs.Ytfjmnaobfbmllaa.M
open Go.RowKit Go.Proofs.YtfjmnaobfbmllaaW.PrintWords Go.Proofs.YtfjmnaobfbmllaaW.PrintLast Go.Proofs.YtfjmnaobfbmllaaW.PrintMore
attribute [local go_sem] max2_int min2_int max_two min_two max_three min_three max_four min_four   -- for this text's walks alone
set_option linter.unusedVariables false
set_option linter.unusedSimpArgs false
def slab_isOdd.f (a0_0 : Bool) (a0_1 : ByteArray) : Option (Bool) := if a0_0 = true then (some (decide ((a0_1.size : Int) > 200))) else (if a0_1.toList = ([] : List UInt8) then (some (decide ((a0_1.size : Int) > 200))) else (some true))
set_option maxHeartbeats 8000000 in
set_option maxRecDepth 100000 in
theorem slab_isOdd.calls (a0_0 : Bool) (a0_1 : ByteArray) (r : Bool) (w : World) (h : slab_isOdd.f a0_0 a0_1 = some r) :
  Calls Try.prog 80 #[.agg #[.bool a0_0, .string a0_1]] w fun e w' => e = .returned (.bool r) ∧ Below w.heap.size w w' := by
 have hu33 := Try.underlying33
 have HB := Aside0.mk (Below.refl w.heap.size w)
 have H : (if a0_0 = true then (some (decide ((a0_1.size : Int) > 200))) else (if a0_1.toList = ([] : List UInt8) then (some (decide ((a0_1.size : Int) > 200))) else (some true))) = some r := h
 clear h
 by_cases c2 : a0_0 = true
 ·subst c2
  have H1 : (some (decide ((a0_1.size : Int) > 200))) = some r := by rw [if_pos rfl] at H; exact H
  clear H
  have H := H1
  clear H1
  obtain rfl := Option.some.inj H
  go_enter Try.func80, Try.ntmps80
  go_wp2_with (first | ((with_reducible refine gate_dst (N := 1) rfl ?_); (try (refine gate_guard (by rfl) ?_; dsimp only)); refine box_event ?hg (N := 1) ?hd (cs := #[.bool true, .string a0_1]) (t := 33) ?hr ?_; (case hd => rfl); (case hg => rfl); (case hr => first | (go_simp; done) | (go_simp; rfl)); intro gb101 hg w3 hbox hb; have n0_ := Aside0.mk (below_step HB.out hb); have n1_ := Aside0.mk (hbox); have n2_ := Aside0.mk ((by rw [hg]; exact below_size HB.out : w.heap.size ≤ gb101)); have n3_ := Aside0.mk ((by rw [hg]; exact below_size HB.out : w.heap.size ≤ gb101)); clear HB; have HB := n0_; have BK101 := n1_; have GW101 := n2_; have GE101 := n3_; clear n0_ n1_ n2_ n3_; clear hb hbox hg; obtain ⟨hcz4_0, hcz4_1⟩ := cl2 (W := w3) BK101.out; obtain ⟨hfz4_0, hfz4_1⟩ := fr2 BK101.out))
  go_ret
  exact ⟨by first | rfl | (simp [errW_none, errW_some] <;> rfl) | (simp [*, errW_none, errW_some] <;> rfl), by repeat (first | (with_reducible first | exact HB.out | apply below_alloc | apply pw_below_drewN | apply below_drew1 | refine below_set ?_ GE101.out) | exact HB.out)⟩
 ·replace c2 := Bool.eq_false_iff.mpr c2
  subst c2
  have H1 : (if a0_1.toList = ([] : List UInt8) then (some (decide ((a0_1.size : Int) > 200))) else (some true)) = some r := by rw [if_neg (show ¬ (false = true) by decide)] at H; exact H
  clear H
  have H := H1
  clear H1
  by_cases c5 : a0_1.toList = ([] : List UInt8)
  ·rw [if_pos c5] at H
   have c5b0 : (a0_1.toList == ([] : List UInt8)) = true := beq_iff_eq.mpr c5
   have c5b1 : (a0_1.toList != ([] : List UInt8)) = false := bne_eq_false_iff_eq.mpr c5
   clear c5
   obtain rfl := Option.some.inj H
   go_enter Try.func80, Try.ntmps80
   go_wp2_with (first | ((with_reducible refine gate_dst (N := 1) rfl ?_); (try (refine gate_guard (by rfl) ?_; dsimp only)); refine box_event ?hg (N := 1) ?hd (cs := #[.bool false, .string a0_1]) (t := 33) ?hr ?_; (case hd => rfl); (case hg => rfl); (case hr => first | (go_simp; done) | (go_simp; rfl)); intro gb101 hg w6 hbox hb; have n0_ := Aside0.mk (below_step HB.out hb); have n1_ := Aside0.mk (hbox); have n2_ := Aside0.mk ((by rw [hg]; exact below_size HB.out : w.heap.size ≤ gb101)); have n3_ := Aside0.mk ((by rw [hg]; exact below_size HB.out : w.heap.size ≤ gb101)); clear HB; have HB := n0_; have BK101 := n1_; have GW101 := n2_; have GE101 := n3_; clear n0_ n1_ n2_ n3_; clear hb hbox hg; obtain ⟨hcz7_0, hcz7_1⟩ := cl2 (W := w6) BK101.out; obtain ⟨hfz7_0, hfz7_1⟩ := fr2 BK101.out))
   go_ret
   exact ⟨by first | rfl | (simp [errW_none, errW_some] <;> rfl) | (simp [*, errW_none, errW_some] <;> rfl), by repeat (first | (with_reducible first | exact HB.out | apply below_alloc | apply pw_below_drewN | apply below_drew1 | refine below_set ?_ GE101.out) | exact HB.out)⟩
  ·rw [if_neg c5] at H
   have c5b0 : (a0_1.toList == ([] : List UInt8)) = false := beq_eq_false_iff_ne.mpr c5
   have c5b1 : (a0_1.toList != ([] : List UInt8)) = true := bne_iff_ne.mpr c5
   obtain rfl := Option.some.inj H
   go_enter Try.func80, Try.ntmps80
   go_wp2_with (first | ((with_reducible refine gate_dst (N := 1) rfl ?_); (try (refine gate_guard (by rfl) ?_; dsimp only)); refine box_event ?hg (N := 1) ?hd (cs := #[.bool false, .string a0_1]) (t := 33) ?hr ?_; (case hd => rfl); (case hg => rfl); (case hr => first | (go_simp; done) | (go_simp; rfl)); intro gb101 hg w8 hbox hb; have n0_ := Aside0.mk (below_step HB.out hb); have n1_ := Aside0.mk (hbox); have n2_ := Aside0.mk ((by rw [hg]; exact below_size HB.out : w.heap.size ≤ gb101)); have n3_ := Aside0.mk ((by rw [hg]; exact below_size HB.out : w.heap.size ≤ gb101)); clear HB; have HB := n0_; have BK101 := n1_; have GW101 := n2_; have GE101 := n3_; clear n0_ n1_ n2_ n3_; clear hb hbox hg; obtain ⟨hcz9_0, hcz9_1⟩ := cl2 (W := w8) BK101.out; obtain ⟨hfz9_0, hfz9_1⟩ := fr2 BK101.out))
   go_ret
   exact ⟨by first | rfl | (simp [errW_none, errW_some] <;> rfl) | (simp [*, errW_none, errW_some] <;> rfl), by repeat (first | (with_reducible first | exact HB.out | apply below_alloc | apply pw_below_drewN | apply below_drew1 | refine below_set ?_ GE101.out) | exact HB.out)⟩
end Go.Proofs.Ytfjmnaobfbmllaa.M
namespace Go.Proofs.Ytfjmnaobfbmllaa.M
open Go.RowKit Go.Proofs.YtfjmnaobfbmllaaW.PrintWords Go.Proofs.YtfjmnaobfbmllaaW.PrintLast Go.Proofs.YtfjmnaobfbmllaaW.PrintMore
set_option linter.unusedVariables false
set_option linter.unusedSimpArgs false
theorem isOdd_any (x : S33) (w : World) : Calls Try.prog 80 #[.agg #[.bool x.f0, .string x.f1]] w fun e w' => e = .returned (.bool (oddS x)) ∧ Below w.heap.size w w' := by
  refine slab_isOdd.calls x.f0 x.f1 _ w ?_
  unfold slab_isOdd.f oddS
  by_cases h : x.f0 = true
  · simp [h]
    constructor <;> intro h <;> omega
  · by_cases h2 : x.f1.toList = []
    · simp [h, h2]
      constructor <;> intro h <;> omega
    · simp [h, h2]
set_option maxHeartbeats 2000000 in
theorem index_odd (A : Option Addr) (c : Nat) (l : List S33) (w : World) (hr : Kd.C k33 w A l.length l) (hc : l.length ≤ c) :
    Calls Try.prog 83 #[.slice A l.length c, .func (.func 80) #[] #[]] w fun e w' => e = .returned (.int .i64 (idxOf oddS l)) ∧ Below w.heap.size w w' := by
  have hu33 := Try.underlying33
  have hmax := Kd.C_max hr
  have HR := Aside0.mk hr
  have HC := Aside0.mk hc
  clear hr hc
  have eg : ∀ args w, (callFunc 80 args).run Try.prog w = .ok (.enter 80 args) w := enters_ Try.func80 (by kernel_rfl) rfl
  go_enter Try.func83, Try.ntmps83
  go_wp2
  go_loopg [5, 8] l.length (fun gg _ s8 wr => ∃ kk : Nat, kk ≤ l.length ∧ l.length - kk ≤ gg ∧ s8 = .int .i64 kk ∧ Aside0 (Below w.heap.size w wr) ∧ Aside0 (∀ j (h : j < l.length), j < kk → oddS l[j] = false))
  case atStart => exact ⟨0, Nat.zero_le _, by omega, rfl, ⟨Below.refl _ w⟩, ⟨fun j _ hj => absurd hj (Nat.not_lt_zero _)⟩⟩
  case round =>
    obtain ⟨kk, hkk, hg, rfl, HB, HA⟩ := hrel
    by_cases hlt : kk < l.length
    · have p0 : 0 ≤ (kk : Int) := by omega
      have q0 : (kk : Int) < (l.length : Int) := by omega
      obtain ⟨ad, e0, hx0, hx1⟩ := at_T33 HR.out (kk : Int) p0 q0
      cases e0
      replace hx0 := (HB.out.cell (World.block_lt_of_cell? w _ hx0)).trans hx0
      replace hx1 := (HB.out.cell (World.block_lt_of_cell? w _ hx1)).trans hx1
      have HX : Aside0 (rd_T33 l (kk : Int) = l[kk]) := ⟨by simp [rd_T33, List.getD_eq_getElem?_getD, List.getElem?_eq_getElem hlt]⟩
      generalize rd_T33 l (kk : Int) = x at hx0 hx1 HX
      have hcall := isOdd_any x wr
      rw [Int.toNat_natCast] at hx0 hx1
      cases hq : oddS x with
      | true =>
        rw [hq] at hcall
        go_wp2_with (go_at_call 80; refine hcall.mono ?_; rintro e w' ⟨rfl, hb'⟩)
        go_ret
        refine ⟨?_, below_then HB.out HB.out.size hb'⟩
        rw [idxOf_hit oddS l kk hlt (by rw [← HX.out]; exact hq) (fun j h => HA.out j (by omega) h)]; rfl
      | false =>
        rw [hq] at hcall
        go_wp2_with (go_at_call 80; refine hcall.mono ?_; rintro e w' ⟨rfl, hb'⟩)
        go_roundg (l.length - (kk + 1))
        case measure => omega
        case rel =>
          refine ⟨kk + 1, by omega, by omega, by go_num, ⟨below_then HB.out HB.out.size hb'⟩, ⟨fun j h hj => ?_⟩⟩
          by_cases e : j = kk
          · subst e
            rw [← HX.out]; exact hq
          · exact HA.out j h (by omega)
    · have hltz : ¬ (kk : Int) < (l.length : Int) := by omega
      go_wp2
      go_ret
      refine ⟨?_, HB.out⟩
      rw [idxOf_miss oddS l (fun j h => HA.out j h (by omega))]; rfl
def slices_ContainsOdd.f (l : List S33) : Option Bool := some (l.any oddS)
set_option maxHeartbeats 2000000 in
theorem slices_ContainsOdd.calls (A : Option Addr) (c : Nat) (l : List S33) (r : Bool) (w : World) (hr : Kd.C k33 w A l.length l) (hc : l.length ≤ c) (h : slices_ContainsOdd.f l = some r) :
    Calls Try.prog 79 #[.slice A l.length c, .func (.func 80) #[] #[]] w fun e w' => e = .returned (.bool r) ∧ Below w.heap.size w w' := by
  obtain rfl := Option.some.inj h
  have hcall := index_odd A c l w hr hc
  have H := idxOf_nonneg oddS l
  generalize idxOf oddS l = i at hcall H
  clear hr hc h
  cases hq : l.any oddS with
  | true =>
    have h0 : 0 ≤ i := H.mpr hq
    clear H
    go_enter Try.func79, Try.ntmps79
    go_wp2_with (go_at_call 83; refine hcall.mono ?_; rintro e w' ⟨rfl, hb'⟩)
    go_ret
    exact ⟨by simp [h0], hb'⟩
  | false =>
    have h0 : ¬ 0 ≤ i := fun h => by rw [H.mp h] at hq; cases hq
    clear H
    go_enter Try.func79, Try.ntmps79
    go_wp2_with (go_at_call 83; refine hcall.mono ?_; rintro e w' ⟨rfl, hb'⟩)
    go_ret
    exact ⟨by simp [h0], hb'⟩
end Go.Proofs.Ytfjmnaobfbmllaa.M
namespace Go.Proofs.Ytfjmnaobfbmllaa.M
open Go.RowKit Go.Proofs.YtfjmnaobfbmllaaW.PrintWords Go.Proofs.YtfjmnaobfbmllaaW.PrintLast Go.Proofs.YtfjmnaobfbmllaaW.PrintMore
attribute [local go_sem] max2_int min2_int max_two min_two max_three min_three max_four min_four   -- for this text's walks alone
set_option linter.unusedVariables false
set_option linter.unusedSimpArgs false
def slab_Good.f (a0_0 : Int) (l0_1 : List (S33)) : Option (Bool) := if a0_0 < 0 then (some false) else (if a0_0 > 1099511627776 then (some false) else (if (l0_1.length : Int) > 32 then (some false) else ((slices_ContainsOdd.f l0_1).bind fun t102 => (if t102 = true then (some false) else (if (l0_1.length : Int) = 0 then ((slabSize0.f l0_1).bind fun t103 => (some (decide (t103 ≤ 240)))) else (if 0 ≤ (wrap64 ((l0_1.length : Int) - 1)) then (if (wrap64 ((l0_1.length : Int) - 1)) < (l0_1.length : Int) then (if (rd_T33 l0_1 (wrap64 ((l0_1.length : Int) - 1))).f0 = true then ((slabSize0.f l0_1).bind fun t105 => (some (decide (t105 ≤ 240)))) else (some false)) else (none)) else (none)))))))
set_option maxHeartbeats 8000000 in
set_option maxRecDepth 100000 in
theorem slab_Good.calls (a0_0 : Int) (A0_1 : Option Addr) (c0_1 : Nat) (l0_1 : List (S33)) (r : Bool) (w : World) (hr0_1 : Kd.C k33 w A0_1 l0_1.length l0_1) (hc0_1 : l0_1.length ≤ c0_1) (h : slab_Good.f a0_0 l0_1 = some r) :
  Calls Try.prog 34 #[.agg #[.int .i64 a0_0, .slice A0_1 l0_1.length c0_1]] w fun e w' => e = .returned (.bool r) ∧ Below w.heap.size w w' := by
 have hu24 := Try.underlying24
 have HR0_1 := Aside0.mk hr0_1
 have HC0_1 := Aside0.mk hc0_1
 clear hr0_1 hc0_1
 have HB := Aside0.mk (Below.refl w.heap.size w)
 have H : (if a0_0 < 0 then (some false) else (if a0_0 > 1099511627776 then (some false) else (if (l0_1.length : Int) > 32 then (some false) else ((slices_ContainsOdd.f l0_1).bind fun t102 => (if t102 = true then (some false) else (if (l0_1.length : Int) = 0 then ((slabSize0.f l0_1).bind fun t103 => (some (decide (t103 ≤ 240)))) else (if 0 ≤ (wrap64 ((l0_1.length : Int) - 1)) then (if (wrap64 ((l0_1.length : Int) - 1)) < (l0_1.length : Int) then (if (rd_T33 l0_1 (wrap64 ((l0_1.length : Int) - 1))).f0 = true then ((slabSize0.f l0_1).bind fun t105 => (some (decide (t105 ≤ 240)))) else (some false)) else (none)) else (none)))))))) = some r := h
 clear h
 by_cases c2 : a0_0 < 0
 ·rw [if_pos c2] at H
  have c2b0 : decide (a0_0 < 0) = true := decide_eq_true c2
  clear c2
  obtain rfl := Option.some.inj H
  go_enter Try.func34, Try.ntmps34
  go_wp2_with (first | ((with_reducible refine gate_dst (N := 1) rfl ?_); (try (refine gate_guard (by rfl) ?_; dsimp only)); refine box_event ?hg (N := 1) ?hd (cs := #[.int .i64 a0_0, .slice A0_1 l0_1.length c0_1]) (t := 24) ?hr ?_; (case hd => rfl); (case hg => rfl); (case hr => first | (go_simp; done) | (go_simp; rfl)); intro gb101 hg w3 hbox hb; have n0_ := Aside0.mk (below_step HB.out hb); have n1_ := Aside0.mk (hbox); have n2_ := Aside0.mk ((by rw [hg]; exact below_size HB.out : w.heap.size ≤ gb101)); have n3_ := Aside0.mk ((by rw [hg]; exact below_size HB.out : w.heap.size ≤ gb101)); clear HB; have HB := n0_; have BK101 := n1_; have GW101 := n2_; have GE101 := n3_; clear n0_ n1_ n2_ n3_; clear hb hbox hg; obtain ⟨hcz4_0, hcz4_1⟩ := cl2 (W := w3) BK101.out; obtain ⟨hfz4_0, hfz4_1⟩ := fr2 BK101.out))
  go_ret
  exact ⟨by first | rfl | (simp [errW_none, errW_some] <;> rfl) | (simp [*, errW_none, errW_some] <;> rfl), by repeat (first | (with_reducible first | exact HB.out | apply below_alloc | apply pw_below_drewN | apply below_drew1 | refine below_set ?_ GE101.out) | exact HB.out)⟩
 ·rw [if_neg c2] at H
  have c2b0 : decide (a0_0 < 0) = false := decide_eq_false c2
  clear c2
  by_cases c5 : a0_0 > 1099511627776
  ·rw [if_pos c5] at H
   have c5b0 : decide (1099511627776 < a0_0) = true := decide_eq_true c5
   clear c5
   obtain rfl := Option.some.inj H
   go_enter Try.func34, Try.ntmps34
   go_wp2_with (first | ((with_reducible refine gate_dst (N := 1) rfl ?_); (try (refine gate_guard (by rfl) ?_; dsimp only)); refine box_event ?hg (N := 1) ?hd (cs := #[.int .i64 a0_0, .slice A0_1 l0_1.length c0_1]) (t := 24) ?hr ?_; (case hd => rfl); (case hg => rfl); (case hr => first | (go_simp; done) | (go_simp; rfl)); intro gb101 hg w6 hbox hb; have n0_ := Aside0.mk (below_step HB.out hb); have n1_ := Aside0.mk (hbox); have n2_ := Aside0.mk ((by rw [hg]; exact below_size HB.out : w.heap.size ≤ gb101)); have n3_ := Aside0.mk ((by rw [hg]; exact below_size HB.out : w.heap.size ≤ gb101)); clear HB; have HB := n0_; have BK101 := n1_; have GW101 := n2_; have GE101 := n3_; clear n0_ n1_ n2_ n3_; clear hb hbox hg; obtain ⟨hcz7_0, hcz7_1⟩ := cl2 (W := w6) BK101.out; obtain ⟨hfz7_0, hfz7_1⟩ := fr2 BK101.out))
   go_ret
   exact ⟨by first | rfl | (simp [errW_none, errW_some] <;> rfl) | (simp [*, errW_none, errW_some] <;> rfl), by repeat (first | (with_reducible first | exact HB.out | apply below_alloc | apply pw_below_drewN | apply below_drew1 | refine below_set ?_ GE101.out) | exact HB.out)⟩
  ·rw [if_neg c5] at H
   have c5b0 : decide (1099511627776 < a0_0) = false := decide_eq_false c5
   clear c5
   by_cases c8 : (l0_1.length : Int) > 32
   ·rw [if_pos c8] at H
    have c8b0 : decide (32 < (l0_1.length : Int)) = true := decide_eq_true c8
    have c8b1 : decide (32 < l0_1.length) = true := decide_eq_true (by omega)
    clear c8
    obtain rfl := Option.some.inj H
    go_enter Try.func34, Try.ntmps34
    go_wp2_with (first | ((with_reducible refine gate_dst (N := 1) rfl ?_); (try (refine gate_guard (by rfl) ?_; dsimp only)); refine box_event ?hg (N := 1) ?hd (cs := #[.int .i64 a0_0, .slice A0_1 l0_1.length c0_1]) (t := 24) ?hr ?_; (case hd => rfl); (case hg => rfl); (case hr => first | (go_simp; done) | (go_simp; rfl)); intro gb101 hg w9 hbox hb; have n0_ := Aside0.mk (below_step HB.out hb); have n1_ := Aside0.mk (hbox); have n2_ := Aside0.mk ((by rw [hg]; exact below_size HB.out : w.heap.size ≤ gb101)); have n3_ := Aside0.mk ((by rw [hg]; exact below_size HB.out : w.heap.size ≤ gb101)); clear HB; have HB := n0_; have BK101 := n1_; have GW101 := n2_; have GE101 := n3_; clear n0_ n1_ n2_ n3_; clear hb hbox hg; obtain ⟨hcz10_0, hcz10_1⟩ := cl2 (W := w9) BK101.out; obtain ⟨hfz10_0, hfz10_1⟩ := fr2 BK101.out))
    go_ret
    exact ⟨by first | rfl | (simp [errW_none, errW_some] <;> rfl) | (simp [*, errW_none, errW_some] <;> rfl), by repeat (first | (with_reducible first | exact HB.out | apply below_alloc | apply pw_below_drewN | apply below_drew1 | refine below_set ?_ GE101.out) | exact HB.out)⟩
   ·rw [if_neg c8] at H
    have c8b0 : decide (32 < (l0_1.length : Int)) = false := decide_eq_false c8
    have c8b1 : decide (32 < l0_1.length) = false := decide_eq_false (by omega)
    clear c8
    replace H := Option.bind_eq_some_iff.mp H
    obtain ⟨t102, A110, H⟩ := H
    replace H : (if t102 = true then (some false) else (if (l0_1.length : Int) = 0 then ((slabSize0.f l0_1).bind fun t103 => (some (decide (t103 ≤ 240)))) else (if 0 ≤ (wrap64 ((l0_1.length : Int) - 1)) then (if (wrap64 ((l0_1.length : Int) - 1)) < (l0_1.length : Int) then (if (rd_T33 l0_1 (wrap64 ((l0_1.length : Int) - 1))).f0 = true then ((slabSize0.f l0_1).bind fun t105 => (some (decide (t105 ≤ 240)))) else (some false)) else (none)) else (none)))) = some r := H
    have A11 := Aside0.mk A110
    clear A110
    by_cases c12 : t102 = true
    ·subst c12
     have H1 : (some false) = some r := by rw [if_pos rfl] at H; exact H
     clear H
     have H := H1
     clear H1
     obtain rfl := Option.some.inj H
     go_enter Try.func34, Try.ntmps34
     go_wp2_with (first | ((with_reducible refine gate_dst (N := 1) rfl ?_); (try (refine gate_guard (by rfl) ?_; dsimp only)); refine box_event ?hg (N := 1) ?hd (cs := #[.int .i64 a0_0, .slice A0_1 l0_1.length c0_1]) (t := 24) ?hr ?_; (case hd => rfl); (case hg => rfl); (case hr => first | (go_simp; done) | (go_simp; rfl)); intro gb101 hg w13 hbox hb; have n0_ := Aside0.mk (below_step HB.out hb); have n1_ := Aside0.mk (hbox); have n2_ := Aside0.mk ((by rw [hg]; exact below_size HB.out : w.heap.size ≤ gb101)); have n3_ := Aside0.mk ((by rw [hg]; exact below_size HB.out : w.heap.size ≤ gb101)); clear HB; have HB := n0_; have BK101 := n1_; have GW101 := n2_; have GE101 := n3_; clear n0_ n1_ n2_ n3_; clear hb hbox hg; obtain ⟨hcz14_0, hcz14_1⟩ := cl2 (W := w13) BK101.out; obtain ⟨hfz14_0, hfz14_1⟩ := fr2 BK101.out) | (go_at_call 79; (with_reducible refine (slices_ContainsOdd.calls _ _ l0_1 true _ ?side1 ?side2 A11.out).mono ?_); (case side1 => repeat (first | exact (Kd.C_below HR0_1.out HB.out) | (with_reducible refine Kd.C_alloc ?_ _) | (with_reducible refine Kd.C_drewN ?_ _) | (with_reducible refine Kd.C_drew ?_))); (case side2 => exact HC0_1.out); rintro e w15 ⟨rfl, hb⟩; have n0_ := Aside0.mk (blk_below BK101.out hb); have n1_ := Aside0.mk (below_step HB.out hb); clear BK101; clear HB; have BK101 := n0_; have HB := n1_; clear n0_ n1_; (try clear hb); (try clear hb2); (try clear hk); (try clear hi)))
     go_ret
     exact ⟨by first | rfl | (simp [errW_none, errW_some] <;> rfl) | (simp [*, errW_none, errW_some] <;> rfl), by repeat (first | (with_reducible first | exact HB.out | apply below_alloc | apply pw_below_drewN | apply below_drew1 | refine below_set ?_ GE101.out) | exact HB.out)⟩
    ·replace c12 := Bool.eq_false_iff.mpr c12
     subst c12
     have H1 : (if (l0_1.length : Int) = 0 then ((slabSize0.f l0_1).bind fun t103 => (some (decide (t103 ≤ 240)))) else (if 0 ≤ (wrap64 ((l0_1.length : Int) - 1)) then (if (wrap64 ((l0_1.length : Int) - 1)) < (l0_1.length : Int) then (if (rd_T33 l0_1 (wrap64 ((l0_1.length : Int) - 1))).f0 = true then ((slabSize0.f l0_1).bind fun t105 => (some (decide (t105 ≤ 240)))) else (some false)) else (none)) else (none))) = some r := by rw [if_neg (show ¬ (false = true) by decide)] at H; exact H
     clear H
     have H := H1
     clear H1
     by_cases c16 : (l0_1.length : Int) = 0
     ·rw [if_pos c16] at H
      have c16b0 : ((l0_1.length : Int) == 0) = true := beq_iff_eq.mpr c16
      have c16b1 : ((l0_1.length : Int) != 0) = false := bne_eq_false_iff_eq.mpr c16
      clear c16
      replace H := Option.bind_eq_some_iff.mp H
      obtain ⟨t103, A170, H⟩ := H
      replace H : (some (decide (t103 ≤ 240))) = some r := H
      have A17 := Aside0.mk A170
      clear A170
      obtain rfl := Option.some.inj H
      go_enter Try.func34, Try.ntmps34
      go_wp2_with (first | ((with_reducible refine gate_dst (N := 1) rfl ?_); (try (refine gate_guard (by rfl) ?_; dsimp only)); refine box_event ?hg (N := 1) ?hd (cs := #[.int .i64 a0_0, .slice A0_1 l0_1.length c0_1]) (t := 24) ?hr ?_; (case hd => rfl); (case hg => rfl); (case hr => first | (go_simp; done) | (go_simp; rfl)); intro gb101 hg w18 hbox hb; have n0_ := Aside0.mk (below_step HB.out hb); have n1_ := Aside0.mk (hbox); have n2_ := Aside0.mk ((by rw [hg]; exact below_size HB.out : w.heap.size ≤ gb101)); have n3_ := Aside0.mk ((by rw [hg]; exact below_size HB.out : w.heap.size ≤ gb101)); clear HB; have HB := n0_; have BK101 := n1_; have GW101 := n2_; have GE101 := n3_; clear n0_ n1_ n2_ n3_; clear hb hbox hg; obtain ⟨hcz19_0, hcz19_1⟩ := cl2 (W := w18) BK101.out; obtain ⟨hfz19_0, hfz19_1⟩ := fr2 BK101.out) | (go_at_call 79; (with_reducible refine (slices_ContainsOdd.calls _ _ l0_1 false _ ?side1 ?side2 A11.out).mono ?_); (case side1 => repeat (first | exact (Kd.C_below HR0_1.out HB.out) | (with_reducible refine Kd.C_alloc ?_ _) | (with_reducible refine Kd.C_drewN ?_ _) | (with_reducible refine Kd.C_drew ?_))); (case side2 => exact HC0_1.out); rintro e w20 ⟨rfl, hb⟩; have n0_ := Aside0.mk (blk_below BK101.out hb); have n1_ := Aside0.mk (below_step HB.out hb); clear BK101; clear HB; have BK101 := n0_; have HB := n1_; clear n0_ n1_; (try clear hb); (try clear hb2); (try clear hk); (try clear hi); obtain ⟨hcz21_0, hcz21_1⟩ := cl2 (W := w20) BK101.out; obtain ⟨hfz21_0, hfz21_1⟩ := fr2 BK101.out) | (go_at_call 81; (with_reducible refine (slabSize0.calls _ _ l0_1 t103 _ ?side1 ?side2 A17.out).mono ?_); (case side1 => repeat (first | exact (Kd.C_below HR0_1.out HB.out) | (with_reducible refine Kd.C_alloc ?_ _) | (with_reducible refine Kd.C_drewN ?_ _) | (with_reducible refine Kd.C_drew ?_))); (case side2 => exact HC0_1.out); rintro e w22 ⟨rfl, hb⟩; have n0_ := Aside0.mk (blk_below BK101.out hb); have n1_ := Aside0.mk (below_step HB.out hb); clear BK101; clear HB; have BK101 := n0_; have HB := n1_; clear n0_ n1_; (try clear hb); (try clear hb2); (try clear hk); (try clear hi)))
      go_ret
      exact ⟨by first | rfl | (simp [errW_none, errW_some] <;> rfl) | (simp [*, errW_none, errW_some] <;> rfl), by repeat (first | (with_reducible first | exact HB.out | apply below_alloc | apply pw_below_drewN | apply below_drew1 | refine below_set ?_ GE101.out) | exact HB.out)⟩
     ·rw [if_neg c16] at H
      have c16b0 : ((l0_1.length : Int) == 0) = false := beq_eq_false_iff_ne.mpr c16
      have c16b1 : ((l0_1.length : Int) != 0) = true := bne_iff_ne.mpr c16
      have c16b2 : ¬ (l0_1 = []) := fun h_ => c16 (by rw [h_]; rfl)
      obtain ⟨ji23, hji23⟩ : ∃ j_ : Int, (wrap64 ((l0_1.length : Int) - 1)) = j_ := ⟨_, rfl⟩
      replace H : (if 0 ≤ (ji23) then (if (ji23) < (l0_1.length : Int) then (if (rd_T33 l0_1 (ji23)).f0 = true then ((slabSize0.f l0_1).bind fun t105 => (some (decide (t105 ≤ 240)))) else (some false)) else (none)) else (none)) = some r := by first | (rw [hji23] at H; exact H) | (simp only [hji23] at H ⊢; exact H)
      (try rw [hji23] at A11)
      have hji23w : (IntKind.i64.wrap ((l0_1.length : Int) - 1)) = ji23 := (i64_w _).trans hji23
      by_cases c24 : 0 ≤ (ji23)
      ·rw [if_pos c24] at H
       have c24b0 : decide (0 ≤ (ji23)) = true := decide_eq_true c24
       clear c24
       by_cases c25 : (ji23) < (l0_1.length : Int)
       ·rw [if_pos c25] at H
        have c25b0 : decide ((ji23) < (l0_1.length : Int)) = true := decide_eq_true c25
        clear c25
        obtain ⟨bq26, hbq26⟩ : ∃ b_ : Bool, b_ = ((rd_T33 l0_1 (ji23)).f0) := ⟨_, rfl⟩
        replace H : (if bq26 = true then ((slabSize0.f l0_1).bind fun t105 => (some (decide (t105 ≤ 240)))) else (some false)) = some r := by rw [← hbq26] at H; exact H
        have Nbq26 := Aside0.mk hbq26
        clear hbq26
        by_cases c27 : bq26 = true
        ·subst c27
         have H1 : ((slabSize0.f l0_1).bind fun t105 => (some (decide (t105 ≤ 240)))) = some r := by rw [if_pos rfl] at H; exact H
         clear H
         have H := H1
         clear H1
         replace H := Option.bind_eq_some_iff.mp H
         obtain ⟨t105, A280, H⟩ := H
         replace H : (some (decide (t105 ≤ 240))) = some r := H
         have A28 := Aside0.mk A280
         clear A280
         obtain rfl := Option.some.inj H
         go_enter Try.func34, Try.ntmps34
         go_wp2_with (first | ((with_reducible refine gate_dst (N := 1) rfl ?_); (try (refine gate_guard (by rfl) ?_; dsimp only)); refine box_event ?hg (N := 1) ?hd (cs := #[.int .i64 a0_0, .slice A0_1 l0_1.length c0_1]) (t := 24) ?hr ?_; (case hd => rfl); (case hg => rfl); (case hr => first | (go_simp; done) | (go_simp; rfl)); intro gb101 hg w29 hbox hb; have n0_ := Aside0.mk (below_step HB.out hb); have n1_ := Aside0.mk (hbox); have n2_ := Aside0.mk ((by rw [hg]; exact below_size HB.out : w.heap.size ≤ gb101)); have n3_ := Aside0.mk ((by rw [hg]; exact below_size HB.out : w.heap.size ≤ gb101)); clear HB; have HB := n0_; have BK101 := n1_; have GW101 := n2_; have GE101 := n3_; clear n0_ n1_ n2_ n3_; clear hb hbox hg; obtain ⟨hcz30_0, hcz30_1⟩ := cl2 (W := w29) BK101.out; obtain ⟨hfz30_0, hfz30_1⟩ := fr2 BK101.out) | (go_at_call 79; (with_reducible refine (slices_ContainsOdd.calls _ _ l0_1 false _ ?side1 ?side2 A11.out).mono ?_); (case side1 => repeat (first | exact (Kd.C_below HR0_1.out HB.out) | (with_reducible refine Kd.C_alloc ?_ _) | (with_reducible refine Kd.C_drewN ?_ _) | (with_reducible refine Kd.C_drew ?_))); (case side2 => exact HC0_1.out); rintro e w31 ⟨rfl, hb⟩; have n0_ := Aside0.mk (blk_below BK101.out hb); have n1_ := Aside0.mk (below_step HB.out hb); clear BK101; clear HB; have BK101 := n0_; have HB := n1_; clear n0_ n1_; (try clear hb); (try clear hb2); (try clear hk); (try clear hi); obtain ⟨hcz32_0, hcz32_1⟩ := cl2 (W := w31) BK101.out; obtain ⟨hfz32_0, hfz32_1⟩ := fr2 BK101.out; have p104 : 0 ≤ ((ji23) : Int) := of_decide_eq_true (by first | (with_reducible assumption) | assumption); have q104 : (ji23) < (l0_1.length : Int) := of_decide_eq_true (by first | (with_reducible assumption) | assumption); obtain ⟨ad104, e104, hx104_0, hx104_1⟩ := at_T33 HR0_1.out (ji23) p104 q104; (try rw [← Nbq26.out] at hx104_0); cases e104; replace hx104_0 := pw_cell_below HB.out hx104_0; replace hx104_1 := pw_cell_below HB.out hx104_1; replace p104 := eq_true p104; replace q104 := eq_true q104) | (go_at_call 81; (with_reducible refine (slabSize0.calls _ _ l0_1 t105 _ ?side1 ?side2 A28.out).mono ?_); (case side1 => repeat (first | exact (Kd.C_below HR0_1.out HB.out) | (with_reducible refine Kd.C_alloc ?_ _) | (with_reducible refine Kd.C_drewN ?_ _) | (with_reducible refine Kd.C_drew ?_))); (case side2 => exact HC0_1.out); rintro e w33 ⟨rfl, hb⟩; have n0_ := Aside0.mk (blk_below BK101.out hb); have n1_ := Aside0.mk (below_step HB.out hb); clear BK101; clear HB; have BK101 := n0_; have HB := n1_; clear n0_ n1_; (try clear hb); (try clear hb2); (try clear hk); (try clear hi)))
         go_ret
         exact ⟨by first | rfl | (simp [errW_none, errW_some] <;> rfl) | (simp only [← hji23]; first | rfl | (simp [errW_none, errW_some] <;> rfl)) | (simp [*, errW_none, errW_some] <;> rfl), by repeat (first | (with_reducible first | exact HB.out | apply below_alloc | apply pw_below_drewN | apply below_drew1 | refine below_set ?_ GE101.out) | exact HB.out)⟩
        ·replace c27 := Bool.eq_false_iff.mpr c27
         subst c27
         have H1 : (some false) = some r := by rw [if_neg (show ¬ (false = true) by decide)] at H; exact H
         clear H
         have H := H1
         clear H1
         obtain rfl := Option.some.inj H
         go_enter Try.func34, Try.ntmps34
         go_wp2_with (first | ((with_reducible refine gate_dst (N := 1) rfl ?_); (try (refine gate_guard (by rfl) ?_; dsimp only)); refine box_event ?hg (N := 1) ?hd (cs := #[.int .i64 a0_0, .slice A0_1 l0_1.length c0_1]) (t := 24) ?hr ?_; (case hd => rfl); (case hg => rfl); (case hr => first | (go_simp; done) | (go_simp; rfl)); intro gb101 hg w34 hbox hb; have n0_ := Aside0.mk (below_step HB.out hb); have n1_ := Aside0.mk (hbox); have n2_ := Aside0.mk ((by rw [hg]; exact below_size HB.out : w.heap.size ≤ gb101)); have n3_ := Aside0.mk ((by rw [hg]; exact below_size HB.out : w.heap.size ≤ gb101)); clear HB; have HB := n0_; have BK101 := n1_; have GW101 := n2_; have GE101 := n3_; clear n0_ n1_ n2_ n3_; clear hb hbox hg; obtain ⟨hcz35_0, hcz35_1⟩ := cl2 (W := w34) BK101.out; obtain ⟨hfz35_0, hfz35_1⟩ := fr2 BK101.out) | (go_at_call 79; (with_reducible refine (slices_ContainsOdd.calls _ _ l0_1 false _ ?side1 ?side2 A11.out).mono ?_); (case side1 => repeat (first | exact (Kd.C_below HR0_1.out HB.out) | (with_reducible refine Kd.C_alloc ?_ _) | (with_reducible refine Kd.C_drewN ?_ _) | (with_reducible refine Kd.C_drew ?_))); (case side2 => exact HC0_1.out); rintro e w36 ⟨rfl, hb⟩; have n0_ := Aside0.mk (blk_below BK101.out hb); have n1_ := Aside0.mk (below_step HB.out hb); clear BK101; clear HB; have BK101 := n0_; have HB := n1_; clear n0_ n1_; (try clear hb); (try clear hb2); (try clear hk); (try clear hi); obtain ⟨hcz37_0, hcz37_1⟩ := cl2 (W := w36) BK101.out; obtain ⟨hfz37_0, hfz37_1⟩ := fr2 BK101.out; have p104 : 0 ≤ ((ji23) : Int) := of_decide_eq_true (by first | (with_reducible assumption) | assumption); have q104 : (ji23) < (l0_1.length : Int) := of_decide_eq_true (by first | (with_reducible assumption) | assumption); obtain ⟨ad104, e104, hx104_0, hx104_1⟩ := at_T33 HR0_1.out (ji23) p104 q104; (try rw [← Nbq26.out] at hx104_0); cases e104; replace hx104_0 := pw_cell_below HB.out hx104_0; replace hx104_1 := pw_cell_below HB.out hx104_1; replace p104 := eq_true p104; replace q104 := eq_true q104))
         go_ret
         exact ⟨by first | rfl | (simp [errW_none, errW_some] <;> rfl) | (simp only [← hji23]; first | rfl | (simp [errW_none, errW_some] <;> rfl)) | (simp [*, errW_none, errW_some] <;> rfl), by repeat (first | (with_reducible first | exact HB.out | apply below_alloc | apply pw_below_drewN | apply below_drew1 | refine below_set ?_ GE101.out) | exact HB.out)⟩
       ·rw [if_neg c25] at H
        exact absurd H (by simp)
      ·rw [if_neg c24] at H
       exact absurd H (by simp)
end Go.Proofs.Ytfjmnaobfbmllaa.M
namespace Go.Proofs.Ytfjmnaobfbmllaa.M
open Go.RowKit Go.Proofs.YtfjmnaobfbmllaaW.PrintWords Go.Proofs.YtfjmnaobfbmllaaW.PrintLast Go.Proofs.YtfjmnaobfbmllaaW.PrintMore
attribute [local go_sem] max2_int min2_int max_two min_two max_three min_three max_four min_four   -- for this text's walks alone
set_option linter.unusedVariables false
set_option linter.unusedSimpArgs false
mutual
def seneschalref03_Good.j0 : Nat → Bool → Int → List (S33) → Option (Bool)
 | 0, _, _, _ => none
 | k + 1, x23, x102000, x102001 => if x23 = true then (some false) else (seneschalref03_Good.l0 k 0 x102000 x102001)
def seneschalref03_Good.l0 : Nat → Int → Int → List (S33) → Option (Bool)
 | 0, _, _, _ => none
 | k + 1, x3, x102000, x102001 => if x3 < (x102001.length : Int) then (if 0 ≤ x3 then (if ((rd_T33 x102001 x3).f0 = true) then (if (((rd_T33 x102001 x3).f1).size : Int) > 200 then (some false) else (seneschalref03_Good.l0 k (wrap64 (x3 + 1)) x102000 x102001)) else (if ((rd_T33 x102001 x3).f1).toList = ([] : List UInt8) then (if (((rd_T33 x102001 x3).f1).size : Int) > 200 then (some false) else (seneschalref03_Good.l0 k (wrap64 (x3 + 1)) x102000 x102001)) else (some false))) else (none)) else (if (x102001.length : Int) = 0 then (some true) else (if 0 ≤ (wrap64 ((x102001.length : Int) - 1)) then (if (wrap64 ((x102001.length : Int) - 1)) < (x102001.length : Int) then (some ((rd_T33 x102001 (wrap64 ((x102001.length : Int) - 1))).f0)) else (none)) else (none)))
end
def seneschalref03_Good.f (k : Nat) (a0_0 : Int) (l0_1 : List (S33)) : Option (Bool) := if a0_0 < 0 then (seneschalref03_Good.j0 k true a0_0 l0_1) else (if a0_0 > 1099511627776 then (seneschalref03_Good.j0 k true a0_0 l0_1) else (if (l0_1.length : Int) > 32 then (seneschalref03_Good.j0 k true a0_0 l0_1) else ((refSize0.f a0_0 l0_1).bind fun t102 => (seneschalref03_Good.j0 k (decide (t102 > 240)) a0_0 l0_1))))
set_option maxHeartbeats 8000000 in
set_option maxRecDepth 100000 in
theorem seneschalref03_Good.calls (k : Nat) (a0_0 : Int) (A0_1 : Option Addr) (c0_1 : Nat) (l0_1 : List (S33)) (r : Bool) (w : World) (hr0_1 : Kd.C k33 w A0_1 l0_1.length l0_1) (hc0_1 : l0_1.length ≤ c0_1) (h : seneschalref03_Good.f k a0_0 l0_1 = some r) :
  Calls Try.prog 35 #[.agg #[.int .i64 a0_0, .slice A0_1 l0_1.length c0_1]] w fun e w' => e = .returned (.bool r) ∧ Below w.heap.size w w' := by
 have hu24 := Try.underlying24
 have hu33 := Try.underlying33
 have HR0_1 := Aside0.mk hr0_1
 have HC0_1 := Aside0.mk hc0_1
 clear hr0_1 hc0_1
 have HB := Aside0.mk (Below.refl w.heap.size w)
 have H : (if a0_0 < 0 then (seneschalref03_Good.j0 k true a0_0 l0_1) else (if a0_0 > 1099511627776 then (seneschalref03_Good.j0 k true a0_0 l0_1) else (if (l0_1.length : Int) > 32 then (seneschalref03_Good.j0 k true a0_0 l0_1) else ((refSize0.f a0_0 l0_1).bind fun t102 => (seneschalref03_Good.j0 k (decide (t102 > 240)) a0_0 l0_1))))) = some r := h
 clear h
 have HC2 := Aside0.mk H
 clear H
 go_enter Try.func35, Try.ntmps35
 go_upto_region 1 with (first | ((with_reducible refine gate_dst (N := 1) rfl ?_); (try (refine gate_guard (by rfl) ?_; dsimp only)); refine box_event ?hg (N := 1) ?hd (cs := #[.int .i64 a0_0, .slice A0_1 l0_1.length c0_1]) (t := 24) ?hr ?_; (case hd => rfl); (case hg => rfl); (case hr => first | (go_simp; done) | (go_simp; rfl)); intro gb101 hg w3 hbox hb; have n0_ := Aside0.mk (below_step HB.out hb); have n1_ := Aside0.mk (hbox); have n2_ := Aside0.mk ((by rw [hg]; exact below_size HB.out : w.heap.size ≤ gb101)); have n3_ := Aside0.mk ((by rw [hg]; exact below_size HB.out : w.heap.size ≤ gb101)); clear HB; have HB := n0_; have BK101 := n1_; have GW101 := n2_; have GE101 := n3_; clear n0_ n1_ n2_ n3_; clear hb hbox hg))
 (try simp only [Act.put, List.setIfInBounds_toArray, List.set_cons_zero, List.set_cons_succ])
 go_cut [23] (fun v23 wc => ∃ (kq : Nat) (x23_1 : Bool), v23 = .bool x23_1 ∧ Aside0 (seneschalref03_Good.j0 kq x23_1 a0_0 l0_1 = some r) ∧ Aside0 (kq ≤ k) ∧ Aside0 (wc.heap[gb101]? = some (.cells #[.int .i64 a0_0, (.slice A0_1 l0_1.length c0_1)] 24 (0, 0))) ∧ Aside0 (Below w.heap.size w wc))
 case first =>
  have H := HC2.out
  clear HC2
  by_cases c4 : a0_0 < 0
  ·rw [if_pos c4] at H
   have c4b0 : decide (a0_0 < 0) = true := decide_eq_true c4
   clear c4
   (first | rw [c4b0] | (simp only [i64_w, i32_w]; rw [c4b0]) | skip)
   have H' := Aside0.mk H
   clear H
   obtain ⟨hcz5_0, hcz5_1⟩ := cl2 (W := w3) BK101.out
   obtain ⟨hfz5_0, hfz5_1⟩ := fr2 BK101.out
   go_wp2
   go_meet
   case rel => exact ⟨_, (true), (by first | rfl | (simp; done) | (simp [*]; done)), H', ⟨by first | omega | exact Nat.le_refl _⟩, ⟨by (with_reducible repeat (first | refine blk_drewN ?_ _ | refine blk_drew ?_ | refine blk_alloc ?_ _)); exact BK101.out⟩, ⟨by repeat (first | (with_reducible first | exact HB.out | apply below_alloc | apply pw_below_drewN | apply below_drew1 | refine below_set ?_ GE101.out) | exact HB.out)⟩⟩
  ·rw [if_neg c4] at H
   have c4b0 : decide (a0_0 < 0) = false := decide_eq_false c4
   clear c4
   (first | rw [c4b0] | (simp only [i64_w, i32_w]; rw [c4b0]) | skip)
   by_cases c6 : a0_0 > 1099511627776
   ·rw [if_pos c6] at H
    have c6b0 : decide (1099511627776 < a0_0) = true := decide_eq_true c6
    clear c6
    have H' := Aside0.mk H
    clear H
    obtain ⟨hcz7_0, hcz7_1⟩ := cl2 (W := w3) BK101.out
    obtain ⟨hfz7_0, hfz7_1⟩ := fr2 BK101.out
    go_wp2
    go_meet
    case rel => exact ⟨_, (true), (by first | rfl | (simp; done) | (simp [*]; done)), H', ⟨by first | omega | exact Nat.le_refl _⟩, ⟨by (with_reducible repeat (first | refine blk_drewN ?_ _ | refine blk_drew ?_ | refine blk_alloc ?_ _)); exact BK101.out⟩, ⟨by repeat (first | (with_reducible first | exact HB.out | apply below_alloc | apply pw_below_drewN | apply below_drew1 | refine below_set ?_ GE101.out) | exact HB.out)⟩⟩
   ·rw [if_neg c6] at H
    have c6b0 : decide (1099511627776 < a0_0) = false := decide_eq_false c6
    clear c6
    by_cases c8 : (l0_1.length : Int) > 32
    ·rw [if_pos c8] at H
     have c8b0 : decide (32 < (l0_1.length : Int)) = true := decide_eq_true c8
     have c8b1 : decide (32 < l0_1.length) = true := decide_eq_true (by omega)
     clear c8
     have H' := Aside0.mk H
     clear H
     obtain ⟨hcz9_0, hcz9_1⟩ := cl2 (W := w3) BK101.out
     obtain ⟨hfz9_0, hfz9_1⟩ := fr2 BK101.out
     go_wp2
     go_meet
     case rel => exact ⟨_, (true), (by first | rfl | (simp; done) | (simp [*]; done)), H', ⟨by first | omega | exact Nat.le_refl _⟩, ⟨by (with_reducible repeat (first | refine blk_drewN ?_ _ | refine blk_drew ?_ | refine blk_alloc ?_ _)); exact BK101.out⟩, ⟨by repeat (first | (with_reducible first | exact HB.out | apply below_alloc | apply pw_below_drewN | apply below_drew1 | refine below_set ?_ GE101.out) | exact HB.out)⟩⟩
    ·rw [if_neg c8] at H
     have c8b0 : decide (32 < (l0_1.length : Int)) = false := decide_eq_false c8
     have c8b1 : decide (32 < l0_1.length) = false := decide_eq_false (by omega)
     clear c8
     replace H := Option.bind_eq_some_iff.mp H
     obtain ⟨t102, A100, H⟩ := H
     replace H : (seneschalref03_Good.j0 k (decide (t102 > 240)) a0_0 l0_1) = some r := H
     have A10 := Aside0.mk A100
     clear A100
     have H' := Aside0.mk H
     clear H
     obtain ⟨hcz11_0, hcz11_1⟩ := cl2 (W := w3) BK101.out
     obtain ⟨hfz11_0, hfz11_1⟩ := fr2 BK101.out
     go_wp2_with (first | (go_at_call 82; (with_reducible refine (refSize0.calls a0_0 _ _ l0_1 t102 _ ?side1 ?side2 A10.out).mono ?_); (case side1 => repeat (first | exact (Kd.C_below HR0_1.out HB.out) | (with_reducible refine Kd.C_alloc ?_ _) | (with_reducible refine Kd.C_drewN ?_ _) | (with_reducible refine Kd.C_drew ?_))); (case side2 => exact HC0_1.out); rintro e w12 ⟨rfl, hb⟩; have n0_ := Aside0.mk (blk_below BK101.out hb); have n1_ := Aside0.mk (below_step HB.out hb); clear BK101; clear HB; have BK101 := n0_; have HB := n1_; clear n0_ n1_; (try clear hb); (try clear hb2); (try clear hk); (try clear hi)))
     go_meet
     case rel => exact ⟨_, (decide (t102 > 240)), (by first | rfl | (simp; done) | (simp [*]; done)), H', ⟨by first | omega | exact Nat.le_refl _⟩, ⟨by (with_reducible repeat (first | refine blk_drewN ?_ _ | refine blk_drew ?_ | refine blk_alloc ?_ _)); exact BK101.out⟩, ⟨by repeat (first | (with_reducible first | exact HB.out | apply below_alloc | apply pw_below_drewN | apply below_drew1 | refine below_set ?_ GE101.out) | exact HB.out)⟩⟩
 case rest =>
  clear HC2
  try clear p2
  try clear c3
  try clear c4
  try clear c4b0
  try clear c6
  try clear c6b0
  try clear c8
  try clear c8b0
  try clear c8b1
  try clear hcz11_0
  try clear hcz11_1
  try clear hcz5_0
  try clear hcz5_1
  try clear hcz7_0
  try clear hcz7_1
  try clear hcz9_0
  try clear hcz9_1
  try clear hfz11_0
  try clear hfz11_1
  try clear hfz5_0
  try clear hfz5_1
  try clear hfz7_0
  try clear hfz7_1
  try clear hfz9_0
  try clear hfz9_1
  obtain ⟨kq, x23_1, rfl, HA, HJ1, BK101, HB⟩ := hcut
  cases kq with
  | zero => exact absurd HA.out (by simp [seneschalref03_Good.j0])
  | succ kj1 =>
   have H := HA.out
   clear HA
   simp only [seneschalref03_Good.j0] at H
   by_cases c13 : x23_1 = true
   ·subst c13
    have H1 : (some false) = some r := by rw [if_pos rfl] at H; exact H
    clear H
    have H := H1
    clear H1
    obtain rfl := Option.some.inj H
    go_wp2
    go_ret
    exact ⟨by first | rfl | (simp [errW_none, errW_some] <;> rfl) | (simp [*, errW_none, errW_some] <;> rfl), by repeat (first | (with_reducible first | exact HB.out | apply below_alloc | apply pw_below_drewN | apply below_drew1 | refine below_set ?_ GE101.out) | exact HB.out)⟩
   ·replace c13 := Bool.eq_false_iff.mpr c13
    subst c13
    have H1 : (seneschalref03_Good.l0 kj1 0 a0_0 l0_1) = some r := by rw [if_neg (show ¬ (false = true) by decide)] at H; exact H
    clear H
    have H := H1
    clear H1
    have H' := Aside0.mk H
    clear H
    go_wp2
    go_loopg [3] kj1 (fun kq v3 w' => ∃ (x3_2 : Int), v3 = .int .i64 x3_2 ∧ Aside0 (seneschalref03_Good.l0 kq x3_2 a0_0 l0_1 = some r) ∧ Aside0 (kq ≤ kj1) ∧ Aside0 (w'.heap[gb101]? = some (.cells #[.int .i64 a0_0, (.slice A0_1 l0_1.length c0_1)] 24 (0, 0))) ∧ Aside0 (Below w.heap.size w w'))
    case atStart => exact ⟨(0), (by first | rfl | (simp; done) | (simp [*]; done)), H', ⟨Nat.le_refl _⟩, ⟨by (with_reducible repeat (first | refine blk_drewN ?_ _ | refine blk_drew ?_ | refine blk_alloc ?_ _)); exact BK101.out⟩, ⟨by repeat (first | (with_reducible first | exact HB.out | apply below_alloc | apply pw_below_drewN | apply below_drew1 | refine below_set ?_ GE101.out) | exact HB.out)⟩⟩
    case round =>
     clear H'
     try clear c1
     try clear p2
     try clear c3
     try clear c4
     try clear c4b0
     try clear c6
     try clear c6b0
     try clear c8
     try clear c8b0
     try clear c8b1
     try clear c13
     try clear hcz11_0
     try clear hcz11_1
     try clear hcz5_0
     try clear hcz5_1
     try clear hcz7_0
     try clear hcz7_1
     try clear hcz9_0
     try clear hcz9_1
     try clear hfz11_0
     try clear hfz11_1
     try clear hfz5_0
     try clear hfz5_1
     try clear hfz7_0
     try clear hfz7_1
     try clear hfz9_0
     try clear hfz9_1
     try clear p2
     obtain ⟨x3_2, rfl, HA, HK2, BK101, HB⟩ := hrel
     cases gk with
     | zero => exact absurd HA.out (by simp [seneschalref03_Good.l0])
     | succ k2 =>
      have H := HA.out
      clear HA
      simp only [seneschalref03_Good.l0] at H
      by_cases c14 : x3_2 < (l0_1.length : Int)
      ·rw [if_pos c14] at H
       have c14b0 : decide (x3_2 < (l0_1.length : Int)) = true := decide_eq_true c14
       clear c14
       by_cases c15 : 0 ≤ x3_2
       ·rw [if_pos c15] at H
        have c15b0 : decide (0 ≤ x3_2) = true := decide_eq_true c15
        clear c15
        obtain ⟨bq16, hbq16⟩ : ∃ b_ : Bool, b_ = ((rd_T33 l0_1 x3_2).f0) := ⟨_, rfl⟩
        replace H : (if (bq16 = true) then (if (((rd_T33 l0_1 x3_2).f1).size : Int) > 200 then (some false) else (seneschalref03_Good.l0 k2 (wrap64 (x3_2 + 1)) a0_0 l0_1)) else (if ((rd_T33 l0_1 x3_2).f1).toList = ([] : List UInt8) then (if (((rd_T33 l0_1 x3_2).f1).size : Int) > 200 then (some false) else (seneschalref03_Good.l0 k2 (wrap64 (x3_2 + 1)) a0_0 l0_1)) else (some false))) = some r := by rw [← hbq16] at H; exact H
        have Nbq16 := Aside0.mk hbq16
        clear hbq16
        by_cases c17 : (bq16 = true)
        ·subst c17
         have H1 : (if (((rd_T33 l0_1 x3_2).f1).size : Int) > 200 then (some false) else (seneschalref03_Good.l0 k2 (wrap64 (x3_2 + 1)) a0_0 l0_1)) = some r := by rw [if_pos rfl] at H; exact H
         clear H
         have H := H1
         clear H1
         by_cases c18 : (((rd_T33 l0_1 x3_2).f1).size : Int) > 200
         ·rw [if_pos c18] at H
          have c18b0 : decide (200 < (((rd_T33 l0_1 x3_2).f1).size : Int)) = true := decide_eq_true c18
          have c18b1 : decide (200 < ((rd_T33 l0_1 x3_2).f1).size) = true := decide_eq_true (by omega)
          clear c18
          obtain rfl := Option.some.inj H
          obtain ⟨hcz19_0, hcz19_1⟩ := cl2 (W := wr) BK101.out
          obtain ⟨hfz19_0, hfz19_1⟩ := fr2 BK101.out
          have p103 : 0 ≤ (x3_2 : Int) := of_decide_eq_true (by first | (with_reducible assumption) | assumption)
          have q103 : x3_2 < (l0_1.length : Int) := of_decide_eq_true (by first | (with_reducible assumption) | assumption)
          obtain ⟨ad103, e103, hx103_0, hx103_1⟩ := at_T33 HR0_1.out x3_2 p103 q103
          (try rw [← Nbq16.out] at hx103_0)
          cases e103
          replace hx103_0 := pw_cell_below HB.out hx103_0
          replace hx103_1 := pw_cell_below HB.out hx103_1
          replace p103 := eq_true p103
          replace q103 := eq_true q103
          go_wp2_with (first | ((with_reducible refine gate_dst (N := 4) rfl ?_); (try (refine gate_guard (by rfl) ?_; dsimp only)); refine box_event ?hg (N := 4) ?hd (cs := #[.bool false, .string (⟨#[]⟩ : ByteArray)]) (t := 33) ?hr ?_; (case hd => rfl); (case hg => rfl); (case hr => first | (go_simp; done) | (go_simp; rfl)); intro gb104 hg w20 hbox hb; have n0_ := Aside0.mk (blk_below BK101.out hb); have n1_ := Aside0.mk (below_step HB.out hb); have n2_ := Aside0.mk (hbox); have n3_ := Aside0.mk ((by rw [hg]; exact below_size HB.out : w.heap.size ≤ gb104)); have n4_ := Aside0.mk ((by rw [hg]; exact below_size HB.out : w.heap.size ≤ gb104)); have n5_ := Aside0.mk ((by rw [hg]; exact Nat.ne_of_lt (blk_lt BK101.out) : gb101 ≠ gb104)); have n6_ := Aside0.mk ((by rw [hg]; exact Nat.ne_of_gt (blk_lt BK101.out) : gb104 ≠ gb101)); clear BK101; clear HB; have BK101 := n0_; have HB := n1_; have BK104 := n2_; have GW104 := n3_; have GE104 := n4_; have NB101_104 := n5_; have NB104_101 := n6_; clear n0_ n1_ n2_ n3_ n4_ n5_ n6_; clear hb hbox hg; have hnb21 := NB104_101.out; have hnc21 := NB101_104.out; obtain ⟨hcz22_0, hcz22_1⟩ := cl2 (W := w20) BK104.out; obtain ⟨hfz22_0, hfz22_1⟩ := fr2 BK104.out))
          go_ret
          exact ⟨by first | rfl | (simp [errW_none, errW_some] <;> rfl) | (simp [*, errW_none, errW_some] <;> rfl), by repeat (first | (with_reducible first | exact HB.out | apply below_alloc | apply pw_below_drewN | apply below_drew1 | refine below_set ?_ GE101.out | refine below_set ?_ GE104.out) | exact HB.out)⟩
         ·rw [if_neg c18] at H
          have c18b0 : decide (200 < (((rd_T33 l0_1 x3_2).f1).size : Int)) = false := decide_eq_false c18
          have c18b1 : decide (200 < ((rd_T33 l0_1 x3_2).f1).size) = false := decide_eq_false (by omega)
          clear c18
          have H' := Aside0.mk H
          clear H
          obtain ⟨hcz23_0, hcz23_1⟩ := cl2 (W := wr) BK101.out
          obtain ⟨hfz23_0, hfz23_1⟩ := fr2 BK101.out
          have p103 : 0 ≤ (x3_2 : Int) := of_decide_eq_true (by first | (with_reducible assumption) | assumption)
          have q103 : x3_2 < (l0_1.length : Int) := of_decide_eq_true (by first | (with_reducible assumption) | assumption)
          obtain ⟨ad103, e103, hx103_0, hx103_1⟩ := at_T33 HR0_1.out x3_2 p103 q103
          (try rw [← Nbq16.out] at hx103_0)
          cases e103
          replace hx103_0 := pw_cell_below HB.out hx103_0
          replace hx103_1 := pw_cell_below HB.out hx103_1
          replace p103 := eq_true p103
          replace q103 := eq_true q103
          go_wp2_with (first | ((with_reducible refine gate_dst (N := 4) rfl ?_); (try (refine gate_guard (by rfl) ?_; dsimp only)); refine box_event ?hg (N := 4) ?hd (cs := #[.bool false, .string (⟨#[]⟩ : ByteArray)]) (t := 33) ?hr ?_; (case hd => rfl); (case hg => rfl); (case hr => first | (go_simp; done) | (go_simp; rfl)); intro gb104 hg w24 hbox hb; have n0_ := Aside0.mk (blk_below BK101.out hb); have n1_ := Aside0.mk (below_step HB.out hb); have n2_ := Aside0.mk (hbox); have n3_ := Aside0.mk ((by rw [hg]; exact below_size HB.out : w.heap.size ≤ gb104)); have n4_ := Aside0.mk ((by rw [hg]; exact below_size HB.out : w.heap.size ≤ gb104)); have n5_ := Aside0.mk ((by rw [hg]; exact Nat.ne_of_lt (blk_lt BK101.out) : gb101 ≠ gb104)); have n6_ := Aside0.mk ((by rw [hg]; exact Nat.ne_of_gt (blk_lt BK101.out) : gb104 ≠ gb101)); clear BK101; clear HB; have BK101 := n0_; have HB := n1_; have BK104 := n2_; have GW104 := n3_; have GE104 := n4_; have NB101_104 := n5_; have NB104_101 := n6_; clear n0_ n1_ n2_ n3_ n4_ n5_ n6_; clear hb hbox hg; have hnb25 := NB104_101.out; have hnc25 := NB101_104.out; obtain ⟨hcz26_0, hcz26_1⟩ := cl2 (W := w24) BK104.out; obtain ⟨hfz26_0, hfz26_1⟩ := fr2 BK104.out))
          go_roundg k2
          case measure => have := HJ1.out; have := HK2.out; omega
          case rel => exact ⟨(wrap64 (x3_2 + 1)), (by first | rfl | (simp; done) | (simp [*]; done)), H', ⟨by have := HJ1.out; have := HK2.out; omega⟩, ⟨by (with_reducible repeat (first | refine blk_drewN ?_ _ | refine blk_drew ?_ | refine blk_alloc ?_ _)); refine blk_far ?_ NB101_104.out _; refine blk_far ?_ NB101_104.out _; (with_reducible repeat (first | refine blk_drewN ?_ _ | refine blk_drew ?_ | refine blk_alloc ?_ _)); exact BK101.out⟩, ⟨by repeat (first | (with_reducible first | exact HB.out | apply below_alloc | apply pw_below_drewN | apply below_drew1 | refine below_set ?_ GE101.out | refine below_set ?_ GE104.out) | exact HB.out)⟩⟩
        ·replace c17 := Bool.eq_false_iff.mpr c17
         subst c17
         have H1 : (if ((rd_T33 l0_1 x3_2).f1).toList = ([] : List UInt8) then (if (((rd_T33 l0_1 x3_2).f1).size : Int) > 200 then (some false) else (seneschalref03_Good.l0 k2 (wrap64 (x3_2 + 1)) a0_0 l0_1)) else (some false)) = some r := by rw [if_neg (show ¬ (false = true) by decide)] at H; exact H
         clear H
         have H := H1
         clear H1
         by_cases c27 : ((rd_T33 l0_1 x3_2).f1).toList = ([] : List UInt8)
         ·rw [if_pos c27] at H
          have c27b0 : (((rd_T33 l0_1 x3_2).f1).toList == ([] : List UInt8)) = true := beq_iff_eq.mpr c27
          have c27b1 : (((rd_T33 l0_1 x3_2).f1).toList != ([] : List UInt8)) = false := bne_eq_false_iff_eq.mpr c27
          clear c27
          by_cases c28 : (((rd_T33 l0_1 x3_2).f1).size : Int) > 200
          ·rw [if_pos c28] at H
           have c28b0 : decide (200 < (((rd_T33 l0_1 x3_2).f1).size : Int)) = true := decide_eq_true c28
           have c28b1 : decide (200 < ((rd_T33 l0_1 x3_2).f1).size) = true := decide_eq_true (by omega)
           clear c28
           obtain rfl := Option.some.inj H
           obtain ⟨hcz29_0, hcz29_1⟩ := cl2 (W := wr) BK101.out
           obtain ⟨hfz29_0, hfz29_1⟩ := fr2 BK101.out
           have p103 : 0 ≤ (x3_2 : Int) := of_decide_eq_true (by first | (with_reducible assumption) | assumption)
           have q103 : x3_2 < (l0_1.length : Int) := of_decide_eq_true (by first | (with_reducible assumption) | assumption)
           obtain ⟨ad103, e103, hx103_0, hx103_1⟩ := at_T33 HR0_1.out x3_2 p103 q103
           (try rw [← Nbq16.out] at hx103_0)
           cases e103
           replace hx103_0 := pw_cell_below HB.out hx103_0
           replace hx103_1 := pw_cell_below HB.out hx103_1
           replace p103 := eq_true p103
           replace q103 := eq_true q103
           go_wp2_with (first | ((with_reducible refine gate_dst (N := 4) rfl ?_); (try (refine gate_guard (by rfl) ?_; dsimp only)); refine box_event ?hg (N := 4) ?hd (cs := #[.bool false, .string (⟨#[]⟩ : ByteArray)]) (t := 33) ?hr ?_; (case hd => rfl); (case hg => rfl); (case hr => first | (go_simp; done) | (go_simp; rfl)); intro gb104 hg w30 hbox hb; have n0_ := Aside0.mk (blk_below BK101.out hb); have n1_ := Aside0.mk (below_step HB.out hb); have n2_ := Aside0.mk (hbox); have n3_ := Aside0.mk ((by rw [hg]; exact below_size HB.out : w.heap.size ≤ gb104)); have n4_ := Aside0.mk ((by rw [hg]; exact below_size HB.out : w.heap.size ≤ gb104)); have n5_ := Aside0.mk ((by rw [hg]; exact Nat.ne_of_lt (blk_lt BK101.out) : gb101 ≠ gb104)); have n6_ := Aside0.mk ((by rw [hg]; exact Nat.ne_of_gt (blk_lt BK101.out) : gb104 ≠ gb101)); clear BK101; clear HB; have BK101 := n0_; have HB := n1_; have BK104 := n2_; have GW104 := n3_; have GE104 := n4_; have NB101_104 := n5_; have NB104_101 := n6_; clear n0_ n1_ n2_ n3_ n4_ n5_ n6_; clear hb hbox hg; have hnb31 := NB104_101.out; have hnc31 := NB101_104.out; obtain ⟨hcz32_0, hcz32_1⟩ := cl2 (W := w30) BK104.out; obtain ⟨hfz32_0, hfz32_1⟩ := fr2 BK104.out))
           go_ret
           exact ⟨by first | rfl | (simp [errW_none, errW_some] <;> rfl) | (simp [*, errW_none, errW_some] <;> rfl), by repeat (first | (with_reducible first | exact HB.out | apply below_alloc | apply pw_below_drewN | apply below_drew1 | refine below_set ?_ GE101.out | refine below_set ?_ GE104.out) | exact HB.out)⟩
          ·rw [if_neg c28] at H
           have c28b0 : decide (200 < (((rd_T33 l0_1 x3_2).f1).size : Int)) = false := decide_eq_false c28
           have c28b1 : decide (200 < ((rd_T33 l0_1 x3_2).f1).size) = false := decide_eq_false (by omega)
           clear c28
           have H' := Aside0.mk H
           clear H
           obtain ⟨hcz33_0, hcz33_1⟩ := cl2 (W := wr) BK101.out
           obtain ⟨hfz33_0, hfz33_1⟩ := fr2 BK101.out
           have p103 : 0 ≤ (x3_2 : Int) := of_decide_eq_true (by first | (with_reducible assumption) | assumption)
           have q103 : x3_2 < (l0_1.length : Int) := of_decide_eq_true (by first | (with_reducible assumption) | assumption)
           obtain ⟨ad103, e103, hx103_0, hx103_1⟩ := at_T33 HR0_1.out x3_2 p103 q103
           (try rw [← Nbq16.out] at hx103_0)
           cases e103
           replace hx103_0 := pw_cell_below HB.out hx103_0
           replace hx103_1 := pw_cell_below HB.out hx103_1
           replace p103 := eq_true p103
           replace q103 := eq_true q103
           go_wp2_with (first | ((with_reducible refine gate_dst (N := 4) rfl ?_); (try (refine gate_guard (by rfl) ?_; dsimp only)); refine box_event ?hg (N := 4) ?hd (cs := #[.bool false, .string (⟨#[]⟩ : ByteArray)]) (t := 33) ?hr ?_; (case hd => rfl); (case hg => rfl); (case hr => first | (go_simp; done) | (go_simp; rfl)); intro gb104 hg w34 hbox hb; have n0_ := Aside0.mk (blk_below BK101.out hb); have n1_ := Aside0.mk (below_step HB.out hb); have n2_ := Aside0.mk (hbox); have n3_ := Aside0.mk ((by rw [hg]; exact below_size HB.out : w.heap.size ≤ gb104)); have n4_ := Aside0.mk ((by rw [hg]; exact below_size HB.out : w.heap.size ≤ gb104)); have n5_ := Aside0.mk ((by rw [hg]; exact Nat.ne_of_lt (blk_lt BK101.out) : gb101 ≠ gb104)); have n6_ := Aside0.mk ((by rw [hg]; exact Nat.ne_of_gt (blk_lt BK101.out) : gb104 ≠ gb101)); clear BK101; clear HB; have BK101 := n0_; have HB := n1_; have BK104 := n2_; have GW104 := n3_; have GE104 := n4_; have NB101_104 := n5_; have NB104_101 := n6_; clear n0_ n1_ n2_ n3_ n4_ n5_ n6_; clear hb hbox hg; have hnb35 := NB104_101.out; have hnc35 := NB101_104.out; obtain ⟨hcz36_0, hcz36_1⟩ := cl2 (W := w34) BK104.out; obtain ⟨hfz36_0, hfz36_1⟩ := fr2 BK104.out))
           go_roundg k2
           case measure => have := HJ1.out; have := HK2.out; omega
           case rel => exact ⟨(wrap64 (x3_2 + 1)), (by first | rfl | (simp; done) | (simp [*]; done)), H', ⟨by have := HJ1.out; have := HK2.out; omega⟩, ⟨by (with_reducible repeat (first | refine blk_drewN ?_ _ | refine blk_drew ?_ | refine blk_alloc ?_ _)); refine blk_far ?_ NB101_104.out _; refine blk_far ?_ NB101_104.out _; (with_reducible repeat (first | refine blk_drewN ?_ _ | refine blk_drew ?_ | refine blk_alloc ?_ _)); exact BK101.out⟩, ⟨by repeat (first | (with_reducible first | exact HB.out | apply below_alloc | apply pw_below_drewN | apply below_drew1 | refine below_set ?_ GE101.out | refine below_set ?_ GE104.out) | exact HB.out)⟩⟩
         ·rw [if_neg c27] at H
          have c27b0 : (((rd_T33 l0_1 x3_2).f1).toList == ([] : List UInt8)) = false := beq_eq_false_iff_ne.mpr c27
          have c27b1 : (((rd_T33 l0_1 x3_2).f1).toList != ([] : List UInt8)) = true := bne_iff_ne.mpr c27
          obtain rfl := Option.some.inj H
          obtain ⟨hcz37_0, hcz37_1⟩ := cl2 (W := wr) BK101.out
          obtain ⟨hfz37_0, hfz37_1⟩ := fr2 BK101.out
          have p103 : 0 ≤ (x3_2 : Int) := of_decide_eq_true (by first | (with_reducible assumption) | assumption)
          have q103 : x3_2 < (l0_1.length : Int) := of_decide_eq_true (by first | (with_reducible assumption) | assumption)
          obtain ⟨ad103, e103, hx103_0, hx103_1⟩ := at_T33 HR0_1.out x3_2 p103 q103
          (try rw [← Nbq16.out] at hx103_0)
          cases e103
          replace hx103_0 := pw_cell_below HB.out hx103_0
          replace hx103_1 := pw_cell_below HB.out hx103_1
          replace p103 := eq_true p103
          replace q103 := eq_true q103
          go_wp2_with (first | ((with_reducible refine gate_dst (N := 4) rfl ?_); (try (refine gate_guard (by rfl) ?_; dsimp only)); refine box_event ?hg (N := 4) ?hd (cs := #[.bool false, .string (⟨#[]⟩ : ByteArray)]) (t := 33) ?hr ?_; (case hd => rfl); (case hg => rfl); (case hr => first | (go_simp; done) | (go_simp; rfl)); intro gb104 hg w38 hbox hb; have n0_ := Aside0.mk (blk_below BK101.out hb); have n1_ := Aside0.mk (below_step HB.out hb); have n2_ := Aside0.mk (hbox); have n3_ := Aside0.mk ((by rw [hg]; exact below_size HB.out : w.heap.size ≤ gb104)); have n4_ := Aside0.mk ((by rw [hg]; exact below_size HB.out : w.heap.size ≤ gb104)); have n5_ := Aside0.mk ((by rw [hg]; exact Nat.ne_of_lt (blk_lt BK101.out) : gb101 ≠ gb104)); have n6_ := Aside0.mk ((by rw [hg]; exact Nat.ne_of_gt (blk_lt BK101.out) : gb104 ≠ gb101)); clear BK101; clear HB; have BK101 := n0_; have HB := n1_; have BK104 := n2_; have GW104 := n3_; have GE104 := n4_; have NB101_104 := n5_; have NB104_101 := n6_; clear n0_ n1_ n2_ n3_ n4_ n5_ n6_; clear hb hbox hg; have hnb39 := NB104_101.out; have hnc39 := NB101_104.out; obtain ⟨hcz40_0, hcz40_1⟩ := cl2 (W := w38) BK104.out; obtain ⟨hfz40_0, hfz40_1⟩ := fr2 BK104.out))
          go_ret
          exact ⟨by first | rfl | (simp [errW_none, errW_some] <;> rfl) | (simp [*, errW_none, errW_some] <;> rfl), by repeat (first | (with_reducible first | exact HB.out | apply below_alloc | apply pw_below_drewN | apply below_drew1 | refine below_set ?_ GE101.out | refine below_set ?_ GE104.out) | exact HB.out)⟩
       ·rw [if_neg c15] at H
        exact absurd H (by simp)
      ·rw [if_neg c14] at H
       have c14b0 : decide (x3_2 < (l0_1.length : Int)) = false := decide_eq_false c14
       clear c14
       by_cases c41 : (l0_1.length : Int) = 0
       ·rw [if_pos c41] at H
        have c41b0 : ((l0_1.length : Int) == 0) = true := beq_iff_eq.mpr c41
        have c41b1 : ((l0_1.length : Int) != 0) = false := bne_eq_false_iff_eq.mpr c41
        clear c41
        obtain rfl := Option.some.inj H
        obtain ⟨hcz42_0, hcz42_1⟩ := cl2 (W := wr) BK101.out
        obtain ⟨hfz42_0, hfz42_1⟩ := fr2 BK101.out
        go_wp2
        go_ret
        exact ⟨by first | rfl | (simp [errW_none, errW_some] <;> rfl) | (simp [*, errW_none, errW_some] <;> rfl), by repeat (first | (with_reducible first | exact HB.out | apply below_alloc | apply pw_below_drewN | apply below_drew1 | refine below_set ?_ GE101.out) | exact HB.out)⟩
       ·rw [if_neg c41] at H
        have c41b0 : ((l0_1.length : Int) == 0) = false := beq_eq_false_iff_ne.mpr c41
        have c41b1 : ((l0_1.length : Int) != 0) = true := bne_iff_ne.mpr c41
        have c41b2 : ¬ (l0_1 = []) := fun h_ => c41 (by rw [h_]; rfl)
        obtain ⟨ji43, hji43⟩ : ∃ j_ : Int, (wrap64 ((l0_1.length : Int) - 1)) = j_ := ⟨_, rfl⟩
        replace H : (if 0 ≤ (ji43) then (if (ji43) < (l0_1.length : Int) then (some ((rd_T33 l0_1 (ji43)).f0)) else (none)) else (none)) = some r := by first | (rw [hji43] at H; exact H) | (simp only [hji43] at H ⊢; exact H)
        have hji43w : (IntKind.i64.wrap ((l0_1.length : Int) - 1)) = ji43 := (i64_w _).trans hji43
        by_cases c44 : 0 ≤ (ji43)
        ·rw [if_pos c44] at H
         have c44b0 : decide (0 ≤ (ji43)) = true := decide_eq_true c44
         clear c44
         by_cases c45 : (ji43) < (l0_1.length : Int)
         ·rw [if_pos c45] at H
          have c45b0 : decide ((ji43) < (l0_1.length : Int)) = true := decide_eq_true c45
          clear c45
          obtain rfl := Option.some.inj H
          obtain ⟨hcz46_0, hcz46_1⟩ := cl2 (W := wr) BK101.out
          obtain ⟨hfz46_0, hfz46_1⟩ := fr2 BK101.out
          have p105 : 0 ≤ ((ji43) : Int) := of_decide_eq_true (by first | (with_reducible assumption) | assumption)
          have q105 : (ji43) < (l0_1.length : Int) := of_decide_eq_true (by first | (with_reducible assumption) | assumption)
          obtain ⟨ad105, e105, hx105_0, hx105_1⟩ := at_T33 HR0_1.out (ji43) p105 q105
          cases e105
          replace hx105_0 := pw_cell_below HB.out hx105_0
          replace hx105_1 := pw_cell_below HB.out hx105_1
          replace p105 := eq_true p105
          replace q105 := eq_true q105
          go_wp2
          go_ret
          exact ⟨by first | rfl | (simp [errW_none, errW_some] <;> rfl) | (simp only [← hji43]; first | rfl | (simp [errW_none, errW_some] <;> rfl)) | (simp [*, errW_none, errW_some] <;> rfl), by repeat (first | (with_reducible first | exact HB.out | apply below_alloc | apply pw_below_drewN | apply below_drew1 | refine below_set ?_ GE101.out) | exact HB.out)⟩
         ·rw [if_neg c45] at H
          exact absurd H (by simp)
        ·rw [if_neg c44] at H
         exact absurd H (by simp)
end Go.Proofs.Ytfjmnaobfbmllaa.M
namespace Go.Proofs.Ytfjmnaobfbmllaa.M
open Go.RowKit Go.Proofs.YtfjmnaobfbmllaaW.PrintWords Go.Proofs.YtfjmnaobfbmllaaW.PrintLast Go.Proofs.YtfjmnaobfbmllaaW.PrintMore
set_option linter.unusedVariables false
set_option linter.unusedSimpArgs false
theorem sumS_small (l : List S33) (h : l.any oddS = false) : sumS l ≤ 201 * l.length := by
  induction l with
  | nil => simp [sumS]
  | cons x l ih =>
    simp only [List.any_cons, Bool.or_eq_false_iff] at h
    have h1 := h.1
    unfold oddS at h1
    simp at h1
    have := ih h.2
    simp only [sumS, List.length_cons]
    omega
theorem last33 (l : List S33) (h : 0 < l.length) : lastUsed l = (l[l.length - 1]).f0 := by
  unfold lastUsed
  rw [List.getLast?_eq_getElem?, List.getElem?_eq_getElem (by omega)]
theorem good_pure (a : Int) (l : List S33)   : slab_Good.f a l = some (goodP a l) := by
  unfold slab_Good.f goodP slices_ContainsOdd.f
  by_cases h1 : a < 0
  · rw [if_pos h1]; simp [show ¬ (0 ≤ a) by omega]
  rw [if_neg h1]
  by_cases h2 : a > 1099511627776
  · rw [if_pos h2]; simp [show ¬ (a ≤ 1099511627776) by omega]
  rw [if_neg h2]
  by_cases h3 : (l.length : Int) > 32
  · rw [if_pos h3]; simp [show ¬ (l.length ≤ 32) by omega]
  rw [if_neg h3, Option.bind_some]
  cases h4 : l.any oddS with
  | true => simp
  | false =>
    have hs := sumS_small l h4
    rw [if_neg (by simp), show slabSize0.f l = some (rawSize l : Int) by unfold slabSize0.f; rw [if_pos (by omega)], Option.bind_some]
    have e1 : decide (0 ≤ a) = true := by simp; omega
    have e2 : decide (a ≤ 1099511627776) = true := by simp; omega
    have e3 : decide (l.length ≤ 32) = true := by simp; omega
    have e4 : decide ((rawSize l : Int) ≤ 240) = decide (rawSize l ≤ 240) := by rw [decide_eq_decide]; omega
    rw [e1, e2, e3, e4]
    simp only [Bool.not_false, Bool.true_and]
    by_cases h5 : (l.length : Int) = 0
    · rw [if_pos h5]
      have : l = [] := List.eq_nil_of_length_eq_zero (by omega)
      subst this
      rfl
    · rw [if_neg h5, w64 _ (by omega) (by omega), if_pos (by omega), if_pos (by omega)]
      have hl : (l.length : Int) - 1 = ((l.length - 1 : Nat) : Int) := by omega
      rw [hl, rd33 l _ (by omega), last33 l (by omega)]
      cases h6 : (l[l.length - 1]).f0 <;> simp [h6]
theorem sumR_240 (l : List S33) : 9 + sumR l ≤ 240 ↔ rawSize l ≤ 240 := by
  have h : ∀ m : List S33, (sumR m ≤ sumS m ∧ (sumR m ≤ 1000 → sumR m = sumS m)) := fun m => by
    induction m with
    | nil => simp [sumR, sumS]
    | cons x m ih => simp only [sumR, sumS]; omega
  have := h l
  unfold rawSize
  omega
theorem rgood_loop (a : Int) (l : List S33) (hl : l.length ≤ 32) (d : Nat) : ∀ (k i : Nat), i + d = l.length → d < k →
    seneschalref03_Good.l0 k i a l = some (!(l.drop i).any oddS && lastUsed l) := by
  induction d with
  | zero =>
    intro k i hi hk
    obtain ⟨k, rfl⟩ : ∃ m, k = m + 1 := ⟨k - 1, by omega⟩
    simp only [seneschalref03_Good.l0]
    rw [if_neg (by omega), List.drop_of_length_le (by omega)]
    by_cases h5 : (l.length : Int) = 0
    · rw [if_pos h5]
      have : l = [] := List.eq_nil_of_length_eq_zero (by omega)
      subst this
      rfl
    · rw [if_neg h5, w64 _ (by omega) (by omega), if_pos (by omega), if_pos (by omega)]
      have hl : (l.length : Int) - 1 = ((l.length - 1 : Nat) : Int) := by omega
      rw [hl, rd33 l _ (by omega), last33 l (by omega)]
      simp
  | succ d ih =>
    intro k i hi hk
    obtain ⟨k, rfl⟩ : ∃ m, k = m + 1 := ⟨k - 1, by omega⟩
    have hlt : i < l.length := by omega
    simp only [seneschalref03_Good.l0]
    rw [if_pos (by omega), if_pos (by omega), rd33 l i hlt, List.drop_eq_getElem_cons hlt, List.any_cons, w64 ((i : Int) + 1) (by omega) (by omega)]
    have := ih k (i + 1) (by omega) (by omega)
    rw [show ((i + 1 : Nat) : Int) = (i : Int) + 1 by omega] at this
    rw [this]
    generalize l[i] = x
    generalize (List.drop (i + 1) l).any oddS = r
    unfold oddS
    by_cases hu : x.f0 = true
    · rw [if_pos hu]
      by_cases hz : (x.f1.size : Int) > 200
      · rw [if_pos hz]; simp [hu, show 200 < x.f1.size by omega]
      · rw [if_neg hz]; simp [hu, show ¬ 200 < x.f1.size by omega]
    · rw [if_neg hu]
      by_cases he : x.f1.toList = []
      · rw [if_pos he]
        by_cases hz : (x.f1.size : Int) > 200
        · rw [if_pos hz]; simp [show 200 < x.f1.size by omega]
        · rw [if_neg hz]; simp [hu, he, show ¬ 200 < x.f1.size by omega]
      · rw [if_neg he]
        have hne : x.f1.toList.isEmpty = false := by cases h : x.f1.toList <;> simp_all
        simp [hu, hne]
theorem rgood_pure (a : Int) (l : List S33) (k : Nat) (hk : 34 < k) : seneschalref03_Good.f k a l = some (goodP a l) := by
  obtain ⟨k, rfl⟩ : ∃ m, k = m + 1 := ⟨k - 1, by omega⟩
  unfold seneschalref03_Good.f goodP
  simp only [seneschalref03_Good.j0]
  by_cases h1 : a < 0
  · rw [if_pos h1]; simp [show ¬ (0 ≤ a) by omega]
  rw [if_neg h1]
  by_cases h2 : a > 1099511627776
  · rw [if_pos h2]; simp [show ¬ (a ≤ 1099511627776) by omega]
  rw [if_neg h2]
  by_cases h3 : (l.length : Int) > 32
  · rw [if_pos h3]; simp [show ¬ (l.length ≤ 32) by omega]
  have hg := rgood_loop a l (by omega) l.length k 0 (by omega) (by omega)
  rw [if_neg h3, show refSize0.f a l = some ((9 + sumR l : Nat) : Int) by unfold refSize0.f; rw [if_pos (by omega)], Option.bind_some]
  have e1 : decide (0 ≤ a) = true := by simp; omega
  have e2 : decide (a ≤ 1099511627776) = true := by simp; omega
  have e3 : decide (l.length ≤ 32) = true := by simp; omega
  rw [e1, e2, e3]
  have h240 := sumR_240 l
  by_cases h4 : rawSize l ≤ 240
  · rw [if_neg (by simp; omega)]
    simp only [Int.natCast_zero, List.drop_zero] at hg
    rw [hg]
    simp [h4]
  · rw [if_pos (by simp; omega)]
    simp [h4]
def slabGood.f (a : Int) (l : List S33) : Option Bool := some (goodP a l)
theorem slabGood.calls (a : Int) (A : Option Addr) (c : Nat) (l : List S33) (r : Bool) (w : World) (hr : Kd.C k33 w A l.length l) (hc : l.length ≤ c) (h : slabGood.f a l = some r) :
    Calls Try.prog 34 #[.agg #[.int .i64 a, .slice A l.length c]] w fun e w' => e = .returned (.bool r) ∧ Below w.heap.size w w' :=
  slab_Good.calls a A c l r w hr hc (by rw [good_pure a l]; exact h)
def refGood3.f (a : Int) (l : List S33) : Option Bool := some (goodP a l)
theorem refGood3.calls (a : Int) (A : Option Addr) (c : Nat) (l : List S33) (r : Bool) (w : World) (hr : Kd.C k33 w A l.length l) (hc : l.length ≤ c) (h : refGood3.f a l = some r) :
    Calls Try.prog 35 #[.agg #[.int .i64 a, .slice A l.length c]] w fun e w' => e = .returned (.bool r) ∧ Below w.heap.size w w' :=
  seneschalref03_Good.calls 40 a A c l r w hr hc (by rw [rgood_pure a l 40 (by omega)]; exact h)
end Go.Proofs.Ytfjmnaobfbmllaa.M
namespace Go.Proofs.Ytfjmnaobfbmllaa.M
open Go.RowKit Go.Proofs.YtfjmnaobfbmllaaW.PrintWords Go.Proofs.YtfjmnaobfbmllaaW.PrintLast Go.Proofs.YtfjmnaobfbmllaaW.PrintMore
attribute [local go_sem] max2_int min2_int max_two min_two max_three min_three max_four min_four   -- for this text's walks alone
set_option linter.unusedVariables false
set_option linter.unusedSimpArgs false
mutual
def slab_Put.j0 : Nat → Int → Bool → Int → List (S33) → Bool → ByteArray → Option (Int × (List (S33)) × Int)
 | 0, _, _, _, _, _, _ => none
 | k + 1, x1, x9, x102000, x102001, x103000, x103001 => if x9 = true then (some (0, ([] : List (S33)), 1)) else (if (x103001.size : Int) > 200 then (some (0, ([] : List (S33)), 5)) else (if 0 ≤ (mx (x102001.length : Int) (wrap64 (x1 + 1))) then (if (mx (x102001.length : Int) (wrap64 (x1 + 1)) : Int).toNat ≤ 11728124029610 then ((some (copyIn (List.replicate (mx (x102001.length : Int) (wrap64 (x1 + 1)) : Int).toNat z33) x102001 : List (S33))).bind fun y105 => (if 0 ≤ x1 then (if x1 < (y105.length : Int) then (slab_Put.l0 k (y105.set (x1 : Int).toNat (⟨x103000, x103001⟩ : S33)) x102000 x102001) else (none)) else (none))) else (none)) else (none)))
def slab_Put.l0 : Nat → List (S33) → Int → List (S33) → Option (Int × (List (S33)) × Int)
 | 0, _, _, _ => none
 | k + 1, x8, x102000, x102001 => if (x8.length : Int) > 0 then (if 0 ≤ (wrap64 ((x8.length : Int) - 1)) then (if (wrap64 ((x8.length : Int) - 1)) < (x8.length : Int) then (if ((rd_T33 x8 (wrap64 ((x8.length : Int) - 1))).f0 = true) then ((slabSize0.f x8).bind fun t110 => (if t110 > 240 then (some (0, ([] : List (S33)), 22)) else (some (x102000, x8, 0)))) else (if (wrap64 ((x8.length : Int) - 1)) ≤ (x8.length : Int) then (slab_Put.l0 k (x8.take ((wrap64 ((x8.length : Int) - 1)) : Int).toNat) x102000 x102001) else (none))) else (none)) else (none)) else ((slabSize0.f x8).bind fun t114 => (if t114 > 240 then (some (0, ([] : List (S33)), 22)) else (some (x102000, x8, 0))))
end
def slab_Put.f (k : Nat) (a0_0 : Int) (l0_1 : List (S33)) (a1 : Int) (a2_0 : Bool) (a2_1 : ByteArray) : Option (Int × (List (S33)) × Int) := (slabGood.f a0_0 l0_1).bind fun t104 => (if t104 = true then (if a1 < 0 then (slab_Put.j0 k a1 true a0_0 l0_1 a2_0 a2_1) else (if a1 ≥ 32 then (slab_Put.j0 k a1 true a0_0 l0_1 a2_0 a2_1) else (if a2_0 = true then (slab_Put.j0 k a1 false a0_0 l0_1 a2_0 a2_1) else (slab_Put.j0 k a1 (a2_1.toList != ([] : List UInt8)) a0_0 l0_1 a2_0 a2_1)))) else (slab_Put.j0 k a1 true a0_0 l0_1 a2_0 a2_1))
set_option maxHeartbeats 8000000 in
set_option maxRecDepth 100000 in
theorem slab_Put.calls (k : Nat) (a0_0 : Int) (A0_1 : Option Addr) (c0_1 : Nat) (l0_1 : List (S33)) (a1 : Int) (a2_0 : Bool) (a2_1 : ByteArray) (r1 : Int) (r2 : List (S33)) (r3 : Int) (w : World) (hr0_1 : Kd.C k33 w A0_1 l0_1.length l0_1) (hc0_1 : l0_1.length ≤ c0_1) (h : slab_Put.f k a0_0 l0_1 a1 a2_0 a2_1 = some (r1, r2, r3)) :
  Calls Try.prog 38 #[.agg #[.int .i64 a0_0, .slice A0_1 l0_1.length c0_1], .int .i64 a1, .agg #[.bool a2_0, .string a2_1]] w fun e w' => ∃ v1_ : Value, e = .returned (.tuple #[.agg #[.int .i64 r1, v1_], .int .i64 r3]) ∧ Kd.R k33 33 w' w.heap.size (fun _ => True) v1_ r2 ∧ Below w.heap.size w w' := by
 have hu24 := Try.underlying24
 have hu33 := Try.underlying33
 have HR0_1 := Aside0.mk hr0_1
 have HC0_1 := Aside0.mk hc0_1
 clear hr0_1 hc0_1
 have HB := Aside0.mk (Below.refl w.heap.size w)
 have H : ((slabGood.f a0_0 l0_1).bind fun t104 => (if t104 = true then (if a1 < 0 then (slab_Put.j0 k a1 true a0_0 l0_1 a2_0 a2_1) else (if a1 ≥ 32 then (slab_Put.j0 k a1 true a0_0 l0_1 a2_0 a2_1) else (if a2_0 = true then (slab_Put.j0 k a1 false a0_0 l0_1 a2_0 a2_1) else (slab_Put.j0 k a1 (a2_1.toList != ([] : List UInt8)) a0_0 l0_1 a2_0 a2_1)))) else (slab_Put.j0 k a1 true a0_0 l0_1 a2_0 a2_1))) = some (r1, r2, r3) := h
 clear h
 have HC4 := Aside0.mk H
 clear H
 go_enter Try.func38, Try.ntmps38
 go_upto_region 1 with (first | ((with_reducible refine gate_dst (N := 3) rfl ?_); (try (refine gate_guard (by rfl) ?_; dsimp only)); refine box_event ?hg (N := 3) ?hd (cs := #[.int .i64 a0_0, .slice A0_1 l0_1.length c0_1]) (t := 24) ?hr ?_; (case hd => rfl); (case hg => rfl); (case hr => first | (go_simp; done) | (go_simp; rfl)); intro gb101 hg w5 hbox hb; have n0_ := Aside0.mk (below_step (by repeat (first | (with_reducible first | exact HB.out | apply below_alloc | apply pw_below_drewN | apply below_drew1) | exact HB.out)) hb); have n1_ := Aside0.mk (hbox); have n2_ := Aside0.mk ((by rw [hg]; exact (below_size (by repeat (first | (with_reducible first | exact HB.out | apply below_alloc | apply pw_below_drewN | apply below_drew1) | exact HB.out))) : w.heap.size ≤ gb101)); have n3_ := Aside0.mk ((by rw [hg]; exact (below_size (by repeat (first | (with_reducible first | exact HB.out | apply below_alloc | apply pw_below_drewN | apply below_drew1) | exact HB.out))) : w.heap.size ≤ gb101)); clear HB; have HB := n0_; have BK101 := n1_; have GW101 := n2_; have GE101 := n3_; clear n0_ n1_ n2_ n3_; clear hb hbox hg) | ((with_reducible refine gate_dst (N := 5) rfl ?_); (try (refine gate_guard (by rfl) ?_; dsimp only)); refine box_event ?hg (N := 5) ?hd (cs := #[.bool a2_0, .string a2_1]) (t := 33) ?hr ?_; (case hd => rfl); (case hg => rfl); (case hr => first | (go_simp; done) | (go_simp; rfl)); intro gb102 hg w6 hbox hb; have n0_ := Aside0.mk (blk_below (g := gb101) (o := .cells #[.int .i64 a0_0, .slice A0_1 l0_1.length c0_1] 24 (0, 0)) (by (with_reducible repeat (first | refine blk_drewN ?_ _ | refine blk_drew ?_ | refine blk_alloc ?_ _)); exact BK101.out) hb); have n1_ := Aside0.mk (below_step (by repeat (first | (with_reducible first | exact HB.out | apply below_alloc | apply pw_below_drewN | apply below_drew1 | refine below_set ?_ GE101.out) | exact HB.out)) hb); have n2_ := Aside0.mk (hbox); have n3_ := Aside0.mk ((by rw [hg]; exact (below_size (by repeat (first | (with_reducible first | exact HB.out | apply below_alloc | apply pw_below_drewN | apply below_drew1 | refine below_set ?_ GE101.out) | exact HB.out))) : w.heap.size ≤ gb102)); have n4_ := Aside0.mk ((by rw [hg]; exact (below_size (by repeat (first | (with_reducible first | exact HB.out | apply below_alloc | apply pw_below_drewN | apply below_drew1 | refine below_set ?_ GE101.out) | exact HB.out))) : w.heap.size ≤ gb102)); have n5_ := Aside0.mk ((by rw [hg]; exact Nat.ne_of_lt (blk_lt (g := gb101) (o := .cells #[.int .i64 a0_0, .slice A0_1 l0_1.length c0_1] 24 (0, 0)) (by (with_reducible repeat (first | refine blk_drewN ?_ _ | refine blk_drew ?_ | refine blk_alloc ?_ _)); exact BK101.out)) : gb101 ≠ gb102)); have n6_ := Aside0.mk ((by rw [hg]; exact Nat.ne_of_gt (blk_lt (g := gb101) (o := .cells #[.int .i64 a0_0, .slice A0_1 l0_1.length c0_1] 24 (0, 0)) (by (with_reducible repeat (first | refine blk_drewN ?_ _ | refine blk_drew ?_ | refine blk_alloc ?_ _)); exact BK101.out)) : gb102 ≠ gb101)); clear BK101; clear HB; have BK101 := n0_; have HB := n1_; have BK102 := n2_; have GW102 := n3_; have GE102 := n4_; have NB101_102 := n5_; have NB102_101 := n6_; clear n0_ n1_ n2_ n3_ n4_ n5_ n6_; clear hb hbox hg) | ((with_reducible refine gate_dst (N := 6) rfl ?_); (try (refine gate_guard (by rfl) ?_; dsimp only)); refine box_event ?hg (N := 6) ?hd (cs := #[.int .i64 0, .slice none 0 0]) (t := 24) ?hr ?_; (case hd => rfl); (case hg => rfl); (case hr => first | (go_simp; done) | (go_simp; rfl)); intro gb103 hg w7 hbox hb; have n0_ := Aside0.mk (blk_below (g := gb101) (o := .cells #[.int .i64 a0_0, .slice A0_1 l0_1.length c0_1] 24 (0, 0)) (by (with_reducible repeat (first | refine blk_drewN ?_ _ | refine blk_drew ?_ | refine blk_alloc ?_ _)); exact BK101.out) hb); have n1_ := Aside0.mk (blk_below (g := gb102) (o := .cells #[.bool a2_0, .string a2_1] 33 (0, 0)) (by (with_reducible repeat (first | refine blk_drewN ?_ _ | refine blk_drew ?_ | refine blk_alloc ?_ _)); exact BK102.out) hb); have n2_ := Aside0.mk (below_step (by repeat (first | (with_reducible first | exact HB.out | apply below_alloc | apply pw_below_drewN | apply below_drew1 | refine below_set ?_ GE101.out | refine below_set ?_ GE102.out) | exact HB.out)) hb); have n3_ := Aside0.mk (hbox); have n4_ := Aside0.mk ((by rw [hg]; exact (below_size (by repeat (first | (with_reducible first | exact HB.out | apply below_alloc | apply pw_below_drewN | apply below_drew1 | refine below_set ?_ GE101.out | refine below_set ?_ GE102.out) | exact HB.out))) : w.heap.size ≤ gb103)); have n5_ := Aside0.mk ((by rw [hg]; exact (below_size (by repeat (first | (with_reducible first | exact HB.out | apply below_alloc | apply pw_below_drewN | apply below_drew1 | refine below_set ?_ GE101.out | refine below_set ?_ GE102.out) | exact HB.out))) : w.heap.size ≤ gb103)); have n6_ := Aside0.mk ((by rw [hg]; exact Nat.ne_of_lt (blk_lt (g := gb101) (o := .cells #[.int .i64 a0_0, .slice A0_1 l0_1.length c0_1] 24 (0, 0)) (by (with_reducible repeat (first | refine blk_drewN ?_ _ | refine blk_drew ?_ | refine blk_alloc ?_ _)); exact BK101.out)) : gb101 ≠ gb103)); have n7_ := Aside0.mk ((by rw [hg]; exact Nat.ne_of_gt (blk_lt (g := gb101) (o := .cells #[.int .i64 a0_0, .slice A0_1 l0_1.length c0_1] 24 (0, 0)) (by (with_reducible repeat (first | refine blk_drewN ?_ _ | refine blk_drew ?_ | refine blk_alloc ?_ _)); exact BK101.out)) : gb103 ≠ gb101)); have n8_ := Aside0.mk ((by rw [hg]; exact Nat.ne_of_lt (blk_lt (g := gb102) (o := .cells #[.bool a2_0, .string a2_1] 33 (0, 0)) (by (with_reducible repeat (first | refine blk_drewN ?_ _ | refine blk_drew ?_ | refine blk_alloc ?_ _)); exact BK102.out)) : gb102 ≠ gb103)); have n9_ := Aside0.mk ((by rw [hg]; exact Nat.ne_of_gt (blk_lt (g := gb102) (o := .cells #[.bool a2_0, .string a2_1] 33 (0, 0)) (by (with_reducible repeat (first | refine blk_drewN ?_ _ | refine blk_drew ?_ | refine blk_alloc ?_ _)); exact BK102.out)) : gb103 ≠ gb102)); clear BK101; clear BK102; clear HB; have BK101 := n0_; have BK102 := n1_; have HB := n2_; have BK103 := n3_; have GW103 := n4_; have GE103 := n5_; have NB101_103 := n6_; have NB103_101 := n7_; have NB102_103 := n8_; have NB103_102 := n9_; clear n0_ n1_ n2_ n3_ n4_ n5_ n6_ n7_ n8_ n9_; clear hb hbox hg))
 (try simp only [Act.put, List.setIfInBounds_toArray, List.set_cons_zero, List.set_cons_succ])
 go_cut [9] (fun v9 wc => ∃ (kq : Nat) (x9_3 : Bool), v9 = .bool x9_3 ∧ Aside0 (slab_Put.j0 kq a1 x9_3 a0_0 l0_1 a2_0 a2_1 = some (r1, r2, r3)) ∧ Aside0 (kq ≤ k) ∧ Aside0 (wc.heap[gb101]? = some (.cells #[.int .i64 a0_0, (.slice A0_1 l0_1.length c0_1)] 24 (0, 0))) ∧ Aside0 (wc.heap[gb102]? = some (.cells #[.bool a2_0, .string a2_1] 33 (0, 0))) ∧ Aside0 (wc.heap[gb103]? = some (.cells #[.int .i64 0, (.slice none 0 0)] 24 (0, 0))) ∧ Aside0 (Below w.heap.size w wc))
 case first =>
  have H := HC4.out
  clear HC4
  replace H := Option.bind_eq_some_iff.mp H
  obtain ⟨t104, A80, H⟩ := H
  replace H : (if t104 = true then (if a1 < 0 then (slab_Put.j0 k a1 true a0_0 l0_1 a2_0 a2_1) else (if a1 ≥ 32 then (slab_Put.j0 k a1 true a0_0 l0_1 a2_0 a2_1) else (if a2_0 = true then (slab_Put.j0 k a1 false a0_0 l0_1 a2_0 a2_1) else (slab_Put.j0 k a1 (a2_1.toList != ([] : List UInt8)) a0_0 l0_1 a2_0 a2_1)))) else (slab_Put.j0 k a1 true a0_0 l0_1 a2_0 a2_1)) = some (r1, r2, r3) := H
  have A8 := Aside0.mk A80
  clear A80
  by_cases c9 : t104 = true
  ·subst c9
   have H1 : (if a1 < 0 then (slab_Put.j0 k a1 true a0_0 l0_1 a2_0 a2_1) else (if a1 ≥ 32 then (slab_Put.j0 k a1 true a0_0 l0_1 a2_0 a2_1) else (if a2_0 = true then (slab_Put.j0 k a1 false a0_0 l0_1 a2_0 a2_1) else (slab_Put.j0 k a1 (a2_1.toList != ([] : List UInt8)) a0_0 l0_1 a2_0 a2_1)))) = some (r1, r2, r3) := by rw [if_pos rfl] at H; exact H
   clear H
   have H := H1
   clear H1
   by_cases c10 : a1 < 0
   ·rw [if_pos c10] at H
    have c10b0 : decide (a1 < 0) = true := decide_eq_true c10
    clear c10
    (first | rw [c10b0] | (simp only [i64_w, i32_w]; rw [c10b0]) | skip)
    have H' := Aside0.mk H
    clear H
    have hnb11 := NB101_102.out
    have hnc11 := NB102_101.out
    have hnb12 := NB101_103.out
    have hnc12 := NB103_101.out
    obtain ⟨hcz13_0, hcz13_1⟩ := cl2 (W := w7) BK101.out
    obtain ⟨hfz13_0, hfz13_1⟩ := fr2 BK101.out
    go_wp2_with (first | ((with_reducible refine gate_callee (f := 34) rfl ?_); refine goesL_ (some 11) rfl rfl Try.func34 (by kernel_rfl) rfl #[.agg #[.int .i64 a0_0, .slice A0_1 l0_1.length c0_1]] rfl (by (try simp only [List.map_toArray, List.map_cons, List.map_nil]); first | done | rfl | (simp only [List.length_drop, List.length_take]; rfl)) ?_; (with_reducible refine (slabGood.calls a0_0 _ _ l0_1 true _ ?side1 ?side2 A8.out).mono ?_); (case side1 => repeat (first | exact (Kd.C_below HR0_1.out HB.out) | (with_reducible refine Kd.C_alloc ?_ _) | (with_reducible refine Kd.C_drewN ?_ _) | (with_reducible refine Kd.C_drew ?_))); (case side2 => exact HC0_1.out); rintro e w14 ⟨rfl, hb⟩; refine ⟨_, rfl, ?_⟩; have n0_ := Aside0.mk (blk_below (g := gb101) (o := .cells #[.int .i64 a0_0, .slice A0_1 l0_1.length c0_1] 24 (0, 0)) (by (with_reducible repeat (first | refine blk_drewN ?_ _ | refine blk_drew ?_ | refine blk_alloc ?_ _)); exact BK101.out) hb); have n1_ := Aside0.mk (blk_below (g := gb102) (o := .cells #[.bool a2_0, .string a2_1] 33 (0, 0)) (by (with_reducible repeat (first | refine blk_drewN ?_ _ | refine blk_drew ?_ | refine blk_alloc ?_ _)); exact BK102.out) hb); have n2_ := Aside0.mk (blk_below (g := gb103) (o := .cells #[.int .i64 0, .slice none 0 0] 24 (0, 0)) (by (with_reducible repeat (first | refine blk_drewN ?_ _ | refine blk_drew ?_ | refine blk_alloc ?_ _)); exact BK103.out) hb); have n3_ := Aside0.mk (below_step (by repeat (first | (with_reducible first | exact HB.out | apply below_alloc | apply pw_below_drewN | apply below_drew1 | refine below_set ?_ GE101.out | refine below_set ?_ GE102.out | refine below_set ?_ GE103.out) | exact HB.out)) hb); clear BK101; clear BK102; clear BK103; clear HB; have BK101 := n0_; have BK102 := n1_; have BK103 := n2_; have HB := n3_; clear n0_ n1_ n2_ n3_; (try clear hb); (try clear hb2); (try clear hk); (try clear hi)))
    go_meet
    case rel => exact ⟨_, (true), (by first | rfl | (simp; done) | (simp [*]; done) | exact isEmpty_ne _ | (simp; exact isEmpty_ne _) | (simp [*]; exact isEmpty_ne _)), H', ⟨by first | omega | exact Nat.le_refl _⟩, ⟨by (with_reducible repeat (first | refine blk_drewN ?_ _ | refine blk_drew ?_ | refine blk_alloc ?_ _)); exact BK101.out⟩, ⟨by (with_reducible repeat (first | refine blk_drewN ?_ _ | refine blk_drew ?_ | refine blk_alloc ?_ _)); exact BK102.out⟩, ⟨by (with_reducible repeat (first | refine blk_drewN ?_ _ | refine blk_drew ?_ | refine blk_alloc ?_ _)); exact BK103.out⟩, ⟨by repeat (first | (with_reducible first | exact HB.out | apply below_alloc | apply pw_below_drewN | apply below_drew1 | refine below_set ?_ GE101.out | refine below_set ?_ GE102.out | refine below_set ?_ GE103.out) | exact HB.out)⟩⟩
   ·rw [if_neg c10] at H
    have c10b0 : decide (a1 < 0) = false := decide_eq_false c10
    clear c10
    (first | rw [c10b0] | (simp only [i64_w, i32_w]; rw [c10b0]) | skip)
    by_cases c15 : a1 ≥ 32
    ·rw [if_pos c15] at H
     have c15b0 : decide (32 ≤ a1) = true := decide_eq_true c15
     clear c15
     have H' := Aside0.mk H
     clear H
     have hnb16 := NB101_102.out
     have hnc16 := NB102_101.out
     have hnb17 := NB101_103.out
     have hnc17 := NB103_101.out
     obtain ⟨hcz18_0, hcz18_1⟩ := cl2 (W := w7) BK101.out
     obtain ⟨hfz18_0, hfz18_1⟩ := fr2 BK101.out
     go_wp2_with (first | ((with_reducible refine gate_callee (f := 34) rfl ?_); refine goesL_ (some 11) rfl rfl Try.func34 (by kernel_rfl) rfl #[.agg #[.int .i64 a0_0, .slice A0_1 l0_1.length c0_1]] rfl (by (try simp only [List.map_toArray, List.map_cons, List.map_nil]); first | done | rfl | (simp only [List.length_drop, List.length_take]; rfl)) ?_; (with_reducible refine (slabGood.calls a0_0 _ _ l0_1 true _ ?side1 ?side2 A8.out).mono ?_); (case side1 => repeat (first | exact (Kd.C_below HR0_1.out HB.out) | (with_reducible refine Kd.C_alloc ?_ _) | (with_reducible refine Kd.C_drewN ?_ _) | (with_reducible refine Kd.C_drew ?_))); (case side2 => exact HC0_1.out); rintro e w19 ⟨rfl, hb⟩; refine ⟨_, rfl, ?_⟩; have n0_ := Aside0.mk (blk_below (g := gb101) (o := .cells #[.int .i64 a0_0, .slice A0_1 l0_1.length c0_1] 24 (0, 0)) (by (with_reducible repeat (first | refine blk_drewN ?_ _ | refine blk_drew ?_ | refine blk_alloc ?_ _)); exact BK101.out) hb); have n1_ := Aside0.mk (blk_below (g := gb102) (o := .cells #[.bool a2_0, .string a2_1] 33 (0, 0)) (by (with_reducible repeat (first | refine blk_drewN ?_ _ | refine blk_drew ?_ | refine blk_alloc ?_ _)); exact BK102.out) hb); have n2_ := Aside0.mk (blk_below (g := gb103) (o := .cells #[.int .i64 0, .slice none 0 0] 24 (0, 0)) (by (with_reducible repeat (first | refine blk_drewN ?_ _ | refine blk_drew ?_ | refine blk_alloc ?_ _)); exact BK103.out) hb); have n3_ := Aside0.mk (below_step (by repeat (first | (with_reducible first | exact HB.out | apply below_alloc | apply pw_below_drewN | apply below_drew1 | refine below_set ?_ GE101.out | refine below_set ?_ GE102.out | refine below_set ?_ GE103.out) | exact HB.out)) hb); clear BK101; clear BK102; clear BK103; clear HB; have BK101 := n0_; have BK102 := n1_; have BK103 := n2_; have HB := n3_; clear n0_ n1_ n2_ n3_; (try clear hb); (try clear hb2); (try clear hk); (try clear hi)))
     go_meet
     case rel => exact ⟨_, (true), (by first | rfl | (simp; done) | (simp [*]; done) | exact isEmpty_ne _ | (simp; exact isEmpty_ne _) | (simp [*]; exact isEmpty_ne _)), H', ⟨by first | omega | exact Nat.le_refl _⟩, ⟨by (with_reducible repeat (first | refine blk_drewN ?_ _ | refine blk_drew ?_ | refine blk_alloc ?_ _)); exact BK101.out⟩, ⟨by (with_reducible repeat (first | refine blk_drewN ?_ _ | refine blk_drew ?_ | refine blk_alloc ?_ _)); exact BK102.out⟩, ⟨by (with_reducible repeat (first | refine blk_drewN ?_ _ | refine blk_drew ?_ | refine blk_alloc ?_ _)); exact BK103.out⟩, ⟨by repeat (first | (with_reducible first | exact HB.out | apply below_alloc | apply pw_below_drewN | apply below_drew1 | refine below_set ?_ GE101.out | refine below_set ?_ GE102.out | refine below_set ?_ GE103.out) | exact HB.out)⟩⟩
    ·rw [if_neg c15] at H
     have c15b0 : decide (32 ≤ a1) = false := decide_eq_false c15
     clear c15
     by_cases c20 : a2_0 = true
     ·subst c20
      have H1 : (slab_Put.j0 k a1 false a0_0 l0_1 true a2_1) = some (r1, r2, r3) := by rw [if_pos rfl] at H; exact H
      clear H
      have H := H1
      clear H1
      have H' := Aside0.mk H
      clear H
      have hnb21 := NB101_102.out
      have hnc21 := NB102_101.out
      have hnb22 := NB101_103.out
      have hnc22 := NB103_101.out
      obtain ⟨hcz23_0, hcz23_1⟩ := cl2 (W := w7) BK101.out
      obtain ⟨hfz23_0, hfz23_1⟩ := fr2 BK101.out
      go_wp2_with (first | ((with_reducible refine gate_callee (f := 34) rfl ?_); refine goesL_ (some 11) rfl rfl Try.func34 (by kernel_rfl) rfl #[.agg #[.int .i64 a0_0, .slice A0_1 l0_1.length c0_1]] rfl (by (try simp only [List.map_toArray, List.map_cons, List.map_nil]); first | done | rfl | (simp only [List.length_drop, List.length_take]; rfl)) ?_; (with_reducible refine (slabGood.calls a0_0 _ _ l0_1 true _ ?side1 ?side2 A8.out).mono ?_); (case side1 => repeat (first | exact (Kd.C_below HR0_1.out HB.out) | (with_reducible refine Kd.C_alloc ?_ _) | (with_reducible refine Kd.C_drewN ?_ _) | (with_reducible refine Kd.C_drew ?_))); (case side2 => exact HC0_1.out); rintro e w24 ⟨rfl, hb⟩; refine ⟨_, rfl, ?_⟩; have n0_ := Aside0.mk (blk_below (g := gb101) (o := .cells #[.int .i64 a0_0, .slice A0_1 l0_1.length c0_1] 24 (0, 0)) (by (with_reducible repeat (first | refine blk_drewN ?_ _ | refine blk_drew ?_ | refine blk_alloc ?_ _)); exact BK101.out) hb); have n1_ := Aside0.mk (blk_below (g := gb102) (o := .cells #[.bool true, .string a2_1] 33 (0, 0)) (by (with_reducible repeat (first | refine blk_drewN ?_ _ | refine blk_drew ?_ | refine blk_alloc ?_ _)); exact BK102.out) hb); have n2_ := Aside0.mk (blk_below (g := gb103) (o := .cells #[.int .i64 0, .slice none 0 0] 24 (0, 0)) (by (with_reducible repeat (first | refine blk_drewN ?_ _ | refine blk_drew ?_ | refine blk_alloc ?_ _)); exact BK103.out) hb); have n3_ := Aside0.mk (below_step (by repeat (first | (with_reducible first | exact HB.out | apply below_alloc | apply pw_below_drewN | apply below_drew1 | refine below_set ?_ GE101.out | refine below_set ?_ GE102.out | refine below_set ?_ GE103.out) | exact HB.out)) hb); clear BK101; clear BK102; clear BK103; clear HB; have BK101 := n0_; have BK102 := n1_; have BK103 := n2_; have HB := n3_; clear n0_ n1_ n2_ n3_; (try clear hb); (try clear hb2); (try clear hk); (try clear hi); have hnb25 := NB102_103.out; have hnc25 := NB103_102.out; obtain ⟨hcz26_0, hcz26_1⟩ := cl2 (W := w24) BK102.out; obtain ⟨hfz26_0, hfz26_1⟩ := fr2 BK102.out))
      go_meet
      case rel => exact ⟨_, (false), (by first | rfl | (simp; done) | (simp [*]; done) | exact isEmpty_ne _ | (simp; exact isEmpty_ne _) | (simp [*]; exact isEmpty_ne _)), H', ⟨by first | omega | exact Nat.le_refl _⟩, ⟨by (with_reducible repeat (first | refine blk_drewN ?_ _ | refine blk_drew ?_ | refine blk_alloc ?_ _)); exact BK101.out⟩, ⟨by (with_reducible repeat (first | refine blk_drewN ?_ _ | refine blk_drew ?_ | refine blk_alloc ?_ _)); exact BK102.out⟩, ⟨by (with_reducible repeat (first | refine blk_drewN ?_ _ | refine blk_drew ?_ | refine blk_alloc ?_ _)); exact BK103.out⟩, ⟨by repeat (first | (with_reducible first | exact HB.out | apply below_alloc | apply pw_below_drewN | apply below_drew1 | refine below_set ?_ GE101.out | refine below_set ?_ GE102.out | refine below_set ?_ GE103.out) | exact HB.out)⟩⟩
     ·replace c20 := Bool.eq_false_iff.mpr c20
      subst c20
      have H1 : (slab_Put.j0 k a1 (a2_1.toList != ([] : List UInt8)) a0_0 l0_1 false a2_1) = some (r1, r2, r3) := by rw [if_neg (show ¬ (false = true) by decide)] at H; exact H
      clear H
      have H := H1
      clear H1
      have H' := Aside0.mk H
      clear H
      have hnb27 := NB101_102.out
      have hnc27 := NB102_101.out
      have hnb28 := NB101_103.out
      have hnc28 := NB103_101.out
      obtain ⟨hcz29_0, hcz29_1⟩ := cl2 (W := w7) BK101.out
      obtain ⟨hfz29_0, hfz29_1⟩ := fr2 BK101.out
      go_wp2_with (first | ((with_reducible refine gate_callee (f := 34) rfl ?_); refine goesL_ (some 11) rfl rfl Try.func34 (by kernel_rfl) rfl #[.agg #[.int .i64 a0_0, .slice A0_1 l0_1.length c0_1]] rfl (by (try simp only [List.map_toArray, List.map_cons, List.map_nil]); first | done | rfl | (simp only [List.length_drop, List.length_take]; rfl)) ?_; (with_reducible refine (slabGood.calls a0_0 _ _ l0_1 true _ ?side1 ?side2 A8.out).mono ?_); (case side1 => repeat (first | exact (Kd.C_below HR0_1.out HB.out) | (with_reducible refine Kd.C_alloc ?_ _) | (with_reducible refine Kd.C_drewN ?_ _) | (with_reducible refine Kd.C_drew ?_))); (case side2 => exact HC0_1.out); rintro e w30 ⟨rfl, hb⟩; refine ⟨_, rfl, ?_⟩; have n0_ := Aside0.mk (blk_below (g := gb101) (o := .cells #[.int .i64 a0_0, .slice A0_1 l0_1.length c0_1] 24 (0, 0)) (by (with_reducible repeat (first | refine blk_drewN ?_ _ | refine blk_drew ?_ | refine blk_alloc ?_ _)); exact BK101.out) hb); have n1_ := Aside0.mk (blk_below (g := gb102) (o := .cells #[.bool false, .string a2_1] 33 (0, 0)) (by (with_reducible repeat (first | refine blk_drewN ?_ _ | refine blk_drew ?_ | refine blk_alloc ?_ _)); exact BK102.out) hb); have n2_ := Aside0.mk (blk_below (g := gb103) (o := .cells #[.int .i64 0, .slice none 0 0] 24 (0, 0)) (by (with_reducible repeat (first | refine blk_drewN ?_ _ | refine blk_drew ?_ | refine blk_alloc ?_ _)); exact BK103.out) hb); have n3_ := Aside0.mk (below_step (by repeat (first | (with_reducible first | exact HB.out | apply below_alloc | apply pw_below_drewN | apply below_drew1 | refine below_set ?_ GE101.out | refine below_set ?_ GE102.out | refine below_set ?_ GE103.out) | exact HB.out)) hb); clear BK101; clear BK102; clear BK103; clear HB; have BK101 := n0_; have BK102 := n1_; have BK103 := n2_; have HB := n3_; clear n0_ n1_ n2_ n3_; (try clear hb); (try clear hb2); (try clear hk); (try clear hi); have hnb31 := NB102_103.out; have hnc31 := NB103_102.out; obtain ⟨hcz32_0, hcz32_1⟩ := cl2 (W := w30) BK102.out; obtain ⟨hfz32_0, hfz32_1⟩ := fr2 BK102.out))
      go_meet
      case rel => exact ⟨_, ((a2_1.toList != ([] : List UInt8))), (by first | rfl | (simp; done) | (simp [*]; done) | exact isEmpty_ne _ | (simp; exact isEmpty_ne _) | (simp [*]; exact isEmpty_ne _)), H', ⟨by first | omega | exact Nat.le_refl _⟩, ⟨by (with_reducible repeat (first | refine blk_drewN ?_ _ | refine blk_drew ?_ | refine blk_alloc ?_ _)); exact BK101.out⟩, ⟨by (with_reducible repeat (first | refine blk_drewN ?_ _ | refine blk_drew ?_ | refine blk_alloc ?_ _)); exact BK102.out⟩, ⟨by (with_reducible repeat (first | refine blk_drewN ?_ _ | refine blk_drew ?_ | refine blk_alloc ?_ _)); exact BK103.out⟩, ⟨by repeat (first | (with_reducible first | exact HB.out | apply below_alloc | apply pw_below_drewN | apply below_drew1 | refine below_set ?_ GE101.out | refine below_set ?_ GE102.out | refine below_set ?_ GE103.out) | exact HB.out)⟩⟩
  ·replace c9 := Bool.eq_false_iff.mpr c9
   subst c9
   have H1 : (slab_Put.j0 k a1 true a0_0 l0_1 a2_0 a2_1) = some (r1, r2, r3) := by rw [if_neg (show ¬ (false = true) by decide)] at H; exact H
   clear H
   have H := H1
   clear H1
   have H' := Aside0.mk H
   clear H
   have hnb33 := NB101_102.out
   have hnc33 := NB102_101.out
   have hnb34 := NB101_103.out
   have hnc34 := NB103_101.out
   obtain ⟨hcz35_0, hcz35_1⟩ := cl2 (W := w7) BK101.out
   obtain ⟨hfz35_0, hfz35_1⟩ := fr2 BK101.out
   go_wp2_with (first | ((with_reducible refine gate_callee (f := 34) rfl ?_); refine goesL_ (some 11) rfl rfl Try.func34 (by kernel_rfl) rfl #[.agg #[.int .i64 a0_0, .slice A0_1 l0_1.length c0_1]] rfl (by (try simp only [List.map_toArray, List.map_cons, List.map_nil]); first | done | rfl | (simp only [List.length_drop, List.length_take]; rfl)) ?_; (with_reducible refine (slabGood.calls a0_0 _ _ l0_1 false _ ?side1 ?side2 A8.out).mono ?_); (case side1 => repeat (first | exact (Kd.C_below HR0_1.out HB.out) | (with_reducible refine Kd.C_alloc ?_ _) | (with_reducible refine Kd.C_drewN ?_ _) | (with_reducible refine Kd.C_drew ?_))); (case side2 => exact HC0_1.out); rintro e w36 ⟨rfl, hb⟩; refine ⟨_, rfl, ?_⟩; have n0_ := Aside0.mk (blk_below (g := gb101) (o := .cells #[.int .i64 a0_0, .slice A0_1 l0_1.length c0_1] 24 (0, 0)) (by (with_reducible repeat (first | refine blk_drewN ?_ _ | refine blk_drew ?_ | refine blk_alloc ?_ _)); exact BK101.out) hb); have n1_ := Aside0.mk (blk_below (g := gb102) (o := .cells #[.bool a2_0, .string a2_1] 33 (0, 0)) (by (with_reducible repeat (first | refine blk_drewN ?_ _ | refine blk_drew ?_ | refine blk_alloc ?_ _)); exact BK102.out) hb); have n2_ := Aside0.mk (blk_below (g := gb103) (o := .cells #[.int .i64 0, .slice none 0 0] 24 (0, 0)) (by (with_reducible repeat (first | refine blk_drewN ?_ _ | refine blk_drew ?_ | refine blk_alloc ?_ _)); exact BK103.out) hb); have n3_ := Aside0.mk (below_step (by repeat (first | (with_reducible first | exact HB.out | apply below_alloc | apply pw_below_drewN | apply below_drew1 | refine below_set ?_ GE101.out | refine below_set ?_ GE102.out | refine below_set ?_ GE103.out) | exact HB.out)) hb); clear BK101; clear BK102; clear BK103; clear HB; have BK101 := n0_; have BK102 := n1_; have BK103 := n2_; have HB := n3_; clear n0_ n1_ n2_ n3_; (try clear hb); (try clear hb2); (try clear hk); (try clear hi)))
   go_meet
   case rel => exact ⟨_, (true), (by first | rfl | (simp; done) | (simp [*]; done) | exact isEmpty_ne _ | (simp; exact isEmpty_ne _) | (simp [*]; exact isEmpty_ne _)), H', ⟨by first | omega | exact Nat.le_refl _⟩, ⟨by (with_reducible repeat (first | refine blk_drewN ?_ _ | refine blk_drew ?_ | refine blk_alloc ?_ _)); exact BK101.out⟩, ⟨by (with_reducible repeat (first | refine blk_drewN ?_ _ | refine blk_drew ?_ | refine blk_alloc ?_ _)); exact BK102.out⟩, ⟨by (with_reducible repeat (first | refine blk_drewN ?_ _ | refine blk_drew ?_ | refine blk_alloc ?_ _)); exact BK103.out⟩, ⟨by repeat (first | (with_reducible first | exact HB.out | apply below_alloc | apply pw_below_drewN | apply below_drew1 | refine below_set ?_ GE101.out | refine below_set ?_ GE102.out | refine below_set ?_ GE103.out) | exact HB.out)⟩⟩
 case rest =>
  clear HC4
  try clear c1
  try clear c2
  try clear p2
  try clear c3
  try clear c9
  try clear c10
  try clear c10b0
  try clear c11
  try clear c12
  try clear c15
  try clear c15b0
  try clear c16
  try clear c17
  try clear c20
  try clear c21
  try clear c22
  try clear c25
  try clear c27
  try clear c28
  try clear c31
  try clear c33
  try clear c34
  try clear hcz13_0
  try clear hcz13_1
  try clear hcz18_0
  try clear hcz18_1
  try clear hcz23_0
  try clear hcz23_1
  try clear hcz26_0
  try clear hcz26_1
  try clear hcz29_0
  try clear hcz29_1
  try clear hcz32_0
  try clear hcz32_1
  try clear hcz35_0
  try clear hcz35_1
  try clear hfz13_0
  try clear hfz13_1
  try clear hfz18_0
  try clear hfz18_1
  try clear hfz23_0
  try clear hfz23_1
  try clear hfz26_0
  try clear hfz26_1
  try clear hfz29_0
  try clear hfz29_1
  try clear hfz32_0
  try clear hfz32_1
  try clear hfz35_0
  try clear hfz35_1
  obtain ⟨kq, x9_3, rfl, HA, HJ3, BK101, BK102, BK103, HB⟩ := hcut
  cases kq with
  | zero => exact absurd HA.out (by simp [slab_Put.j0])
  | succ kj3 =>
   have H := HA.out
   clear HA
   simp only [slab_Put.j0] at H
   by_cases c37 : x9_3 = true
   ·subst c37
    have H1 : (some (0, ([] : List (S33)), 1)) = some (r1, r2, r3) := by rw [if_pos rfl] at H; exact H
    clear H
    have H := H1
    clear H1
    simp only [Option.some.injEq, Prod.mk.injEq] at H
    obtain ⟨rfl, rfl, rfl⟩ := H
    have hnb38 := NB103_101.out
    have hnc38 := NB101_103.out
    have hnb39 := NB103_102.out
    have hnc39 := NB102_103.out
    obtain ⟨hcz40_0, hcz40_1⟩ := cl2 (W := wc) BK103.out
    obtain ⟨hfz40_0, hfz40_1⟩ := fr2 BK103.out
    go_wp2
    refine bodyPost_ret (results_ct rfl _ _ gb103 24 #[.int .i64 0, .slice none 0 0] (0, 0) _ rfl (by (with_reducible repeat (first | refine blk_drewN ?_ _ | refine blk_drew ?_ | refine blk_alloc ?_ _)); refine blk_put (cs := #[.int .i64 0, .slice none 0 0]) ?_ 1 _ rfl; refine blk_put (cs := #[.int .i64 0, .slice none 0 0]) ?_ 0 _ rfl; (with_reducible repeat (first | refine blk_drewN ?_ _ | refine blk_drew ?_ | refine blk_alloc ?_ _)); exact BK103.out) Try.underlying24 rfl (by kernel_rfl)) rfl ?_
    exact ⟨_, by first | rfl | (simp [errW_none, errW_some] <;> rfl) | (simp [*, errW_none, errW_some] <;> rfl), by first | exact Kd.R_nil _ _ _ _ _ | exact Kd.N_nil _ _ _ _ _ | exact Kd.V_nil _ _ _ _ _ | exact Kd.Q_nil _ _ _ _ _ | exact Kd.S_nil _ _ _ _ _, by repeat (first | (with_reducible first | exact HB.out | apply below_alloc | apply pw_below_drewN | apply below_drew1 | refine below_set ?_ GE101.out | refine below_set ?_ GE102.out | refine below_set ?_ GE103.out) | exact HB.out)⟩
   ·replace c37 := Bool.eq_false_iff.mpr c37
    subst c37
    have H1 : (if (a2_1.size : Int) > 200 then (some (0, ([] : List (S33)), 5)) else (if 0 ≤ (mx (l0_1.length : Int) (wrap64 (a1 + 1))) then (if (mx (l0_1.length : Int) (wrap64 (a1 + 1)) : Int).toNat ≤ 11728124029610 then ((some (copyIn (List.replicate (mx (l0_1.length : Int) (wrap64 (a1 + 1)) : Int).toNat z33) l0_1 : List (S33))).bind fun y105 => (if 0 ≤ a1 then (if a1 < (y105.length : Int) then (slab_Put.l0 kj3 (y105.set (a1 : Int).toNat (⟨a2_0, a2_1⟩ : S33)) a0_0 l0_1) else (none)) else (none))) else (none)) else (none))) = some (r1, r2, r3) := by rw [if_neg (show ¬ (false = true) by decide)] at H; exact H
    clear H
    have H := H1
    clear H1
    by_cases c41 : (a2_1.size : Int) > 200
    ·rw [if_pos c41] at H
     have c41b0 : decide (200 < (a2_1.size : Int)) = true := decide_eq_true c41
     have c41b1 : decide (200 < a2_1.size) = true := decide_eq_true (by omega)
     clear c41
     simp only [Option.some.injEq, Prod.mk.injEq] at H
     obtain ⟨rfl, rfl, rfl⟩ := H
     have hnb42 := NB102_101.out
     have hnc42 := NB101_102.out
     have hnb43 := NB102_103.out
     have hnc43 := NB103_102.out
     obtain ⟨hcz44_0, hcz44_1⟩ := cl2 (W := wc) BK102.out
     obtain ⟨hfz44_0, hfz44_1⟩ := fr2 BK102.out
     have hnb45 := NB103_101.out
     have hnc45 := NB101_103.out
     obtain ⟨hcz46_0, hcz46_1⟩ := cl2 (W := wc) BK103.out
     obtain ⟨hfz46_0, hfz46_1⟩ := fr2 BK103.out
     go_wp2
     refine bodyPost_ret (results_ct rfl _ _ gb103 24 #[.int .i64 0, .slice none 0 0] (0, 0) _ rfl (by (with_reducible repeat (first | refine blk_drewN ?_ _ | refine blk_drew ?_ | refine blk_alloc ?_ _)); refine blk_put (cs := #[.int .i64 0, .slice none 0 0]) ?_ 1 _ rfl; refine blk_put (cs := #[.int .i64 0, .slice none 0 0]) ?_ 0 _ rfl; (with_reducible repeat (first | refine blk_drewN ?_ _ | refine blk_drew ?_ | refine blk_alloc ?_ _)); exact BK103.out) Try.underlying24 rfl (by kernel_rfl)) rfl ?_
     exact ⟨_, by first | rfl | (simp [errW_none, errW_some] <;> rfl) | (simp [*, errW_none, errW_some] <;> rfl), by first | exact Kd.R_nil _ _ _ _ _ | exact Kd.N_nil _ _ _ _ _ | exact Kd.V_nil _ _ _ _ _ | exact Kd.Q_nil _ _ _ _ _ | exact Kd.S_nil _ _ _ _ _, by repeat (first | (with_reducible first | exact HB.out | apply below_alloc | apply pw_below_drewN | apply below_drew1 | refine below_set ?_ GE101.out | refine below_set ?_ GE102.out | refine below_set ?_ GE103.out) | exact HB.out)⟩
    ·rw [if_neg c41] at H
     have c41b0 : decide (200 < (a2_1.size : Int)) = false := decide_eq_false c41
     have c41b1 : decide (200 < a2_1.size) = false := decide_eq_false (by omega)
     clear c41
     obtain ⟨ji47, hji47⟩ : ∃ j_ : Int, (mx (l0_1.length : Int) (wrap64 (a1 + 1))) = j_ := ⟨_, rfl⟩
     replace H : (if 0 ≤ (ji47) then (if (ji47 : Int).toNat ≤ 11728124029610 then ((some (copyIn (List.replicate (ji47 : Int).toNat z33) l0_1 : List (S33))).bind fun y105 => (if 0 ≤ a1 then (if a1 < (y105.length : Int) then (slab_Put.l0 kj3 (y105.set (a1 : Int).toNat (⟨a2_0, a2_1⟩ : S33)) a0_0 l0_1) else (none)) else (none))) else (none)) else (none)) = some (r1, r2, r3) := by first | (rw [hji47] at H; exact H) | (simp only [hji47] at H ⊢; exact H)
     have hji47_ : (if (l0_1.length : Int) < (wrap64 (a1 + 1)) then (wrap64 (a1 + 1)) else (l0_1.length : Int)) = ji47 := hji47
     by_cases c48 : 0 ≤ (ji47)
     ·rw [if_pos c48] at H
      have c48b0 := eq_true c48
      have c48b1 : decide (0 ≤ (ji47)) = true := decide_eq_true c48
      clear c48
      by_cases c49 : (ji47 : Int).toNat ≤ 11728124029610
      ·rw [if_pos c49] at H
       have c49b0 := eq_true c49
       have c49b1 : decide ((ji47 : Int).toNat ≤ 11728124029610) = true := decide_eq_true c49
       clear c49
       obtain ⟨yb, hyb⟩ : ∃ y_ : List (S33), y_ = (List.replicate (ji47 : Int).toNat z33) := ⟨_, rfl⟩
       obtain ⟨y105, hy105⟩ : ∃ y_ : List (S33), y_ = copyIn yb l0_1 := ⟨_, rfl⟩
       replace H : (if 0 ≤ a1 then (if a1 < (y105.length : Int) then (slab_Put.l0 kj3 (y105.set (a1 : Int).toNat (⟨a2_0, a2_1⟩ : S33)) a0_0 l0_1) else (none)) else (none)) = some (r1, r2, r3) := by rw [hy105, hyb]; exact H
       have hleb : l0_1.length ≤ yb.length := by
        rw [hyb, List.length_replicate, ← hji47]
        unfold mx
        split <;> omega
       have HLEB := Aside0.mk hleb
       have HLB : Aside0 (yb.length = y105.length) := ⟨by rw [hy105, copyIn_length yb l0_1 hleb]⟩
       have Nyb := Aside0.mk hyb
       clear hyb hleb
       have Ny105 := Aside0.mk hy105
       clear hy105
       by_cases c50 : 0 ≤ a1
       ·rw [if_pos c50] at H
        have c50b0 : decide (0 ≤ a1) = true := decide_eq_true c50
        clear c50
        by_cases c51 : a1 < (y105.length : Int)
        ·rw [if_pos c51] at H
         have c51b0 : decide (a1 < (y105.length : Int)) = true := decide_eq_true c51
         clear c51
         obtain ⟨y108, hy108⟩ : ∃ y_ : List (S33), y_ = (y105.set (a1 : Int).toNat (⟨a2_0, a2_1⟩ : S33)) := ⟨_, rfl⟩
         replace H : (slab_Put.l0 kj3 y108 a0_0 l0_1) = some (r1, r2, r3) := by first | (rw [hy108]; with_reducible exact H) | (have H2_ := (Option.bind_some _ _).symm.trans H; rw [hy108]; with_reducible exact H2_) | (have H2_ := (Option.bind_some _ _).symm.trans H; with_reducible exact H2_) | with_reducible exact H | (rw [hy108]; exact H) | exact H
         have Ny108 := Aside0.mk hy108
         clear hy108
         have H' := Aside0.mk H
         clear H
         have hnb53 := NB102_101.out
         have hnc53 := NB101_102.out
         have hnb54 := NB102_103.out
         have hnc54 := NB103_102.out
         obtain ⟨hcz55_0, hcz55_1⟩ := cl2 (W := wc) BK102.out
         obtain ⟨hfz55_0, hfz55_1⟩ := fr2 BK102.out
         have hnb56 := NB101_103.out
         have hnc56 := NB103_101.out
         obtain ⟨hcz57_0, hcz57_1⟩ := cl2 (W := wc) BK101.out
         obtain ⟨hfz57_0, hfz57_1⟩ := fr2 BK101.out
         go_wp2_with (first | ((with_reducible refine gate_dst (N := 44) rfl ?_); (try (refine gate_guard (by rfl) ?_; dsimp only)); refine Kd.R_make k33 _ 33 rfl (N := 44) rfl 22 _ _ rfl ji47 rfl rfl Try.underlying22 (.agg #[(.bool false), (.string ⟨#[]⟩)]) 24 info33 rfl (by decide) (by omega) z33 (ok := fun _ => True) (okp := fun _ => True) (k33_mkM _ _ _ z33 ) (fun _ hk => hk) trivial (of_decide_eq_true (by first | (with_reducible assumption) | assumption)) (Nat.le_trans (Nat.mul_le_mul_right _ (of_decide_eq_true (by first | (with_reducible assumption) | assumption) : ji47.toNat ≤ 11728124029610)) (by omega)) (Below.refl _ _) (Nat.le_refl _) ?_; intro v106 w58 ho59 hb hg_ hnew_; clear hg_ hnew_; (first | rw [← Nyb.out] at ho59 | (simp only [Int.reduceToNat] at ho59; rw [← Nyb.out] at ho59)); have n0_ := Aside0.mk (Kd.R_lower (Kd.R_newB ho59 (g := gb102) (o := .cells #[.bool a2_0, .string a2_1] 33 (0, 0)) (by (with_reducible repeat (first | refine blk_drewN ?_ _ | refine blk_drew ?_ | refine blk_alloc ?_ _)); exact BK102.out)) (below_size (by repeat (first | (with_reducible first | exact HB.out | apply below_alloc | apply pw_below_drewN | apply below_drew1 | refine below_set ?_ GE101.out | refine below_set ?_ GE102.out | refine below_set ?_ GE103.out) | exact HB.out)))); have n1_ := Aside0.mk (blk_below (g := gb101) (o := .cells #[.int .i64 a0_0, .slice A0_1 l0_1.length c0_1] 24 (0, 0)) (by (with_reducible repeat (first | refine blk_drewN ?_ _ | refine blk_drew ?_ | refine blk_alloc ?_ _)); exact BK101.out) hb); have n2_ := Aside0.mk (blk_below (g := gb102) (o := .cells #[.bool a2_0, .string a2_1] 33 (0, 0)) (by (with_reducible repeat (first | refine blk_drewN ?_ _ | refine blk_drew ?_ | refine blk_alloc ?_ _)); exact BK102.out) hb); have n3_ := Aside0.mk (blk_below (g := gb103) (o := .cells #[.int .i64 0, .slice none 0 0] 24 (0, 0)) (by (with_reducible repeat (first | refine blk_drewN ?_ _ | refine blk_drew ?_ | refine blk_alloc ?_ _)); exact BK103.out) hb); have n4_ := Aside0.mk (below_step (by repeat (first | (with_reducible first | exact HB.out | apply below_alloc | apply pw_below_drewN | apply below_drew1 | refine below_set ?_ GE101.out | refine below_set ?_ GE102.out | refine below_set ?_ GE103.out) | exact HB.out)) hb); clear BK101; clear BK102; clear BK103; clear HB; have HO107 := n0_; have BK101 := n1_; have BK102 := n2_; have BK103 := n3_; have HB := n4_; clear n0_ n1_ n2_ n3_ n4_; clear hb ho59; obtain ⟨hcz60_0, hcz60_1⟩ := cl2 (W := w58) BK101.out; obtain ⟨hfz60_0, hfz60_1⟩ := fr2 BK101.out; obtain ⟨hcz61_0, hcz61_1⟩ := cl2 (W := w58) BK102.out; obtain ⟨hfz61_0, hfz61_1⟩ := fr2 BK102.out; have q52b : 0 < yb.length := (by have h1_ := HLB.out; have h2_ : a1 < (y105.length : Int) := of_decide_eq_true (by first | (with_reducible assumption) | assumption); have h3_ : 0 ≤ a1 := of_decide_eq_true (by first | (with_reducible assumption) | assumption); omega); obtain ⟨go52, co52, eo52, gb52, gl52, cl52, HG52⟩ := Kd.R_form HO107.out q52b; clear q52b; rw [HLB.out] at eo52; (first | cases eo52 | (injection eo52 with ea_ en_ ec_; (first | subst ea_ | (injection ea_ with ea_; subst ea_)); subst ec_; clear en_)); have GB52 := Aside0.mk gb52; have GG52 := Aside0.mk HG52; clear gb52 gl52 HG52; have n_ := Aside0.mk (Kd.R_mono (ok' := (fun k_ => k_ ≠ gb102)) HO107.out (fun k_ hk => hk.2)); clear HO107; have HO107 := n_; clear n_) | ((with_reducible refine gate_dst (N := 48) rfl ?_); refine copy33_event rfl (N := 48) rfl _ _ rfl (xs := yb) (ys := l0_1) rfl rfl (by (with_reducible repeat (first | apply Kd.R_alloc | apply Kd.R_drewN | apply Kd.R_drew)); exact HO107.out) (by repeat (first | exact (Kd.C_below HR0_1.out HB.out) | (with_reducible refine Kd.C_alloc ?_ _) | (with_reducible refine Kd.C_drewN ?_ _) | (with_reducible refine Kd.C_drew ?_))) HLEB.out ?_; intro w59 hR59 hg hb59; rw [← Ny105.out] at hR59; have n0_ := Aside0.mk (blk_grown (g := gb101) (o := .cells #[.int .i64 a0_0, .slice A0_1 l0_1.length c0_1] 24 (0, 0)) (by (with_reducible repeat (first | refine blk_drewN ?_ _ | refine blk_drew ?_ | refine blk_alloc ?_ _)); exact BK101.out) hg (Kd.R_ne HO107.out BK101.out (by decide))); have n1_ := Aside0.mk (blk_grown (g := gb102) (o := .cells #[.bool a2_0, .string a2_1] 33 (0, 0)) (by (with_reducible repeat (first | refine blk_drewN ?_ _ | refine blk_drew ?_ | refine blk_alloc ?_ _)); exact BK102.out) hg (Kd.R_away HO107.out (fun _ hk => hk))); have n2_ := Aside0.mk (blk_grown (g := gb103) (o := .cells #[.int .i64 0, .slice none 0 0] 24 (0, 0)) (by (with_reducible repeat (first | refine blk_drewN ?_ _ | refine blk_drew ?_ | refine blk_alloc ?_ _)); exact BK103.out) hg (Kd.R_ne HO107.out BK103.out (by decide))); have n3_ := Aside0.mk hR59; have n4_ := Aside0.mk (HB.out.trans hb59); clear BK101 BK102 BK103 HO107 HB; have BK101 := n0_; have BK102 := n1_; have BK103 := n2_; have HO107 := n3_; have HB := n4_; clear n0_ n1_ n2_ n3_ n4_ hg hb59 hR59; obtain ⟨hcz70_0, hcz70_1⟩ := cl2 (W := w59) BK102.out; obtain ⟨hfz70_0, hfz70_1⟩ := fr2 BK102.out; have p52 : 0 ≤ (a1 : Int) := of_decide_eq_true (by first | (with_reducible assumption) | assumption); have q52 : (a1 : Int) < ((y105.length : Int) : Int) := of_decide_eq_true (by first | (with_reducible assumption) | assumption); obtain ⟨ce52, hcl52, hM52, hcc52, hfr52⟩ := Kd.R_elem HO107.out z33 (a1 : Int) p52 q52; obtain rfl := k33_openM hM52; have hx52_0 : w59.cell? ⟨go52, (a1 : Int).toNat * 2, none⟩ = some (.bool ((rd_T33 y105 a1).f0)) := hcc52 0 _ rfl; have hx52_1 : w59.cell? ⟨go52, (a1 : Int).toNat * 2 + 1, none⟩ = some (.string ((rd_T33 y105 a1).f1)) := hcc52 1 _ rfl; have hf52_0 : w59.frozen? ⟨go52, (a1 : Int).toNat * 2, none⟩ = false := hfr52 0; have hf52_1 : w59.frozen? ⟨go52, (a1 : Int).toNat * 2 + 1, none⟩ = false := hfr52 1; clear hcl52 hcc52 hfr52 hM52; replace p52 := eq_true p52; replace q52 := eq_true q52; have HX62 := Aside0.mk (show Kd.R k33 33 w59 w.heap.size (fun k_ => k_ ≠ gb102) (.slice (some ⟨go52, 0, none⟩) y105.length co52) y105 from (by (with_reducible repeat (first | apply Kd.R_alloc | apply Kd.R_drewN | apply Kd.R_drew)); exact HO107.out)); obtain ⟨ce62, hcl62, hM62, hcc62, hfr62⟩ := Kd.R_elem HX62.out z33 (a1 : Int) (of_decide_eq_true (by first | (with_reducible assumption) | assumption)) (by have h_ : (a1 : Int) < ((y105.length : Int) : Int) := of_decide_eq_true (by first | (with_reducible assumption) | assumption); first | exact h_ | (have e_ := (Kd.R_reads' HO107.out).1; omega) | simpa using h_); obtain rfl := k33_openM hM62; have HP62 := Kd.R_seg HX62.out (a1 : Int) (of_decide_eq_true (by first | (with_reducible assumption) | assumption)) (by have h_ : (a1 : Int) < ((y105.length : Int) : Int) := of_decide_eq_true (by first | (with_reducible assumption) | assumption); first | exact h_ | (have e_ := (Kd.R_reads' HO107.out).1; omega) | simpa using h_) (seg := [.bool a2_0, .string a2_1]) (j := 0) hcl62 hcc62 (show 2 ≤ 2 from by decide) (x' := (⟨a2_0, a2_1⟩ : S33)) (k33_mkM _ _ _ (⟨a2_0, a2_1⟩ : S33) ) (fun _ hk => hk); have hx62_0 := hcc62 0 _ rfl; (try simp only [show (k33).sz = 2 from rfl, Nat.mul_one, Nat.add_zero] at hx62_0); have hf62_0 := hfr62 0; (try simp only [show (k33).sz = 2 from rfl, Nat.mul_one, Nat.add_zero] at hf62_0); have hx62_1 := hcc62 1 _ rfl; (try simp only [show (k33).sz = 2 from rfl, Nat.mul_one, Nat.add_zero] at hx62_1); have hf62_1 := hfr62 1; (try simp only [show (k33).sz = 2 from rfl, Nat.mul_one, Nat.add_zero] at hf62_1); clear hcl62 hcc62 hfr62 hM62) | ((with_reducible refine gate_store (t := 33) (p := 52) rfl ?_); refine store_event (t := 33) (p := 52) (v := ?vo_w63) (w1 := ((w59.setCell ⟨go52, (a1 : Int).toNat * 2, none⟩ (.bool a2_0)).setCell ⟨go52, (a1 : Int).toNat * 2 + 1, none⟩ (.string a2_1))) ?hg ?ho ?hn ?hr ?_; (case ho => rfl); (case hg => rfl); (case hn => rfl); (case hr => first | (go_simp; done) | (go_simp; rfl)); intro w63 hw; have hg : w59.grownBy w63 (some go52) := (by rw [hw]; exact HP62.2); have hp_ : Kd.R k33 33 w63 w.heap.size (fun k_ => k_ ≠ gb102) (.slice (some ⟨go52, 0, none⟩) y105.length co52) y108 := (by rw [hw, Ny108.out]; exact HP62.1); clear HP62; have n0_ := Aside0.mk (blk_grown (g := gb101) (o := .cells #[.int .i64 a0_0, .slice A0_1 l0_1.length c0_1] 24 (0, 0)) (by (with_reducible repeat (first | refine blk_drewN ?_ _ | refine blk_drew ?_ | refine blk_alloc ?_ _)); exact BK101.out) hg (Kd.R_ne HO107.out BK101.out (by decide))); have n1_ := Aside0.mk (blk_grown (g := gb102) (o := .cells #[.bool a2_0, .string a2_1] 33 (0, 0)) (by (with_reducible repeat (first | refine blk_drewN ?_ _ | refine blk_drew ?_ | refine blk_alloc ?_ _)); exact BK102.out) hg (Kd.R_away HO107.out (fun _ hk => hk))); have n2_ := Aside0.mk (blk_grown (g := gb103) (o := .cells #[.int .i64 0, .slice none 0 0] 24 (0, 0)) (by (with_reducible repeat (first | refine blk_drewN ?_ _ | refine blk_drew ?_ | refine blk_alloc ?_ _)); exact BK103.out) hg (Kd.R_ne HO107.out BK103.out (by decide))); have n3_ := Aside0.mk (hp_); have n4_ := Aside0.mk ((by rw [hw]; exact below_set (below_set (HB.out) GB52.out) GB52.out : Below w.heap.size w w63)); clear BK101; clear BK102; clear BK103; clear HO107; clear HB; have BK101 := n0_; have BK102 := n1_; have BK103 := n2_; have HO107 := n3_; have HB := n4_; clear n0_ n1_ n2_ n3_ n4_; clear hg hw hp_))
         go_loopg [8] kj3 (fun kq v8 w' => ∃ (x8_2 : List (S33)), Aside0 (slab_Put.l0 kq x8_2 a0_0 l0_1 = some (r1, r2, r3)) ∧ Aside0 (kq ≤ kj3) ∧ Aside0 (Kd.R k33 33 w' w.heap.size (fun k_ => k_ ≠ gb102) v8 x8_2) ∧ Aside0 (w'.heap[gb101]? = some (.cells #[.int .i64 a0_0, (.slice A0_1 l0_1.length c0_1)] 24 (0, 0))) ∧ Aside0 (w'.heap[gb102]? = some (.cells #[.bool a2_0, .string a2_1] 33 (0, 0))) ∧ Aside0 (w'.heap[gb103]? = some (.cells #[.int .i64 0, (.slice none 0 0)] 24 (0, 0))) ∧ Aside0 (Below w.heap.size w w'))
         case atStart => exact ⟨(y108), H', ⟨Nat.le_refl _⟩, ⟨by (with_reducible repeat (first | apply Kd.R_alloc | apply Kd.R_drewN | apply Kd.R_drew)); exact HO107.out⟩, ⟨by (with_reducible repeat (first | refine blk_drewN ?_ _ | refine blk_drew ?_ | refine blk_alloc ?_ _)); exact BK101.out⟩, ⟨by (with_reducible repeat (first | refine blk_drewN ?_ _ | refine blk_drew ?_ | refine blk_alloc ?_ _)); exact BK102.out⟩, ⟨by (with_reducible repeat (first | refine blk_drewN ?_ _ | refine blk_drew ?_ | refine blk_alloc ?_ _)); exact BK103.out⟩, ⟨by repeat (first | (with_reducible first | exact HB.out | apply below_alloc | apply pw_below_drewN | apply below_drew1 | refine below_set ?_ GE101.out | refine below_set ?_ GE102.out | refine below_set ?_ GE103.out) | exact HB.out)⟩⟩
         case round =>
          clear H'
          try clear c1
          try clear c2
          try clear p2
          try clear c3
          try clear c4
          try clear c5
          try clear p5
          try clear q5
          try clear hx5
          try clear hf5
          try clear c6
          try clear p6
          try clear hx6
          try clear hf6
          try clear c9
          try clear c10
          try clear c10b0
          try clear c11
          try clear c12
          try clear c15
          try clear c15b0
          try clear c16
          try clear c17
          try clear c20
          try clear c21
          try clear c22
          try clear c25
          try clear c27
          try clear c28
          try clear c31
          try clear c33
          try clear c34
          try clear c37
          try clear c38
          try clear c39
          try clear c41
          try clear c41b0
          try clear c41b1
          try clear c42
          try clear c43
          try clear c45
          try clear c48
          try clear c48b0
          try clear c48b1
          try clear c49
          try clear c49b0
          try clear c49b1
          try clear c50
          try clear c50b0
          try clear c51
          try clear c51b0
          try clear c52
          try clear p52
          try clear q52
          try clear hx52
          try clear hf52
          try clear c53
          try clear c54
          try clear c56
          try clear c62
          try clear hx62
          try clear hf62
          try clear hcz13_0
          try clear hcz13_1
          try clear hcz18_0
          try clear hcz18_1
          try clear hcz23_0
          try clear hcz23_1
          try clear hcz26_0
          try clear hcz26_1
          try clear hcz29_0
          try clear hcz29_1
          try clear hcz32_0
          try clear hcz32_1
          try clear hcz35_0
          try clear hcz35_1
          try clear hcz40_0
          try clear hcz40_1
          try clear hcz44_0
          try clear hcz44_1
          try clear hcz46_0
          try clear hcz46_1
          try clear hcz55_0
          try clear hcz55_1
          try clear hcz57_0
          try clear hcz57_1
          try clear hcz60_0
          try clear hcz60_1
          try clear hcz61_0
          try clear hcz61_1
          try clear hfz13_0
          try clear hfz13_1
          try clear hfz18_0
          try clear hfz18_1
          try clear hfz23_0
          try clear hfz23_1
          try clear hfz26_0
          try clear hfz26_1
          try clear hfz29_0
          try clear hfz29_1
          try clear hfz32_0
          try clear hfz32_1
          try clear hfz35_0
          try clear hfz35_1
          try clear hfz40_0
          try clear hfz40_1
          try clear hfz44_0
          try clear hfz44_1
          try clear hfz46_0
          try clear hfz46_1
          try clear hfz55_0
          try clear hfz55_1
          try clear hfz57_0
          try clear hfz57_1
          try clear hfz60_0
          try clear hfz60_1
          try clear hfz61_0
          try clear hfz61_1
          try clear hx52_0
          try clear hx52_1
          try clear hx62_0
          try clear hx62_1
          try clear p2
          try clear p52
          try clear q52
          obtain ⟨x8_2, HA, HK2, HO_8, BK101, BK102, BK103, HB⟩ := hrel
          cases gk with
          | zero => exact absurd HA.out (by simp [slab_Put.l0])
          | succ k2 =>
           have H := HA.out
           clear HA
           simp only [slab_Put.l0] at H
           by_cases c64 : (x8_2.length : Int) > 0
           ·rw [if_pos c64] at H
            have c64b0 : decide (0 < (x8_2.length : Int)) = true := decide_eq_true c64
            have c64b1 : decide (0 < x8_2.length) = true := decide_eq_true (by omega)
            clear c64
            obtain ⟨ji65, hji65⟩ : ∃ j_ : Int, (wrap64 ((x8_2.length : Int) - 1)) = j_ := ⟨_, rfl⟩
            replace H : (if 0 ≤ (ji65) then (if (ji65) < (x8_2.length : Int) then (if ((rd_T33 x8_2 (ji65)).f0 = true) then ((slabSize0.f x8_2).bind fun t110 => (if t110 > 240 then (some (0, ([] : List (S33)), 22)) else (some (a0_0, x8_2, 0)))) else (if (ji65) ≤ (x8_2.length : Int) then (slab_Put.l0 k2 (x8_2.take ((ji65) : Int).toNat) a0_0 l0_1) else (none))) else (none)) else (none)) = some (r1, r2, r3) := by first | (rw [hji65] at H; exact H) | (simp only [hji65] at H ⊢; exact H)
            have hji65w : (IntKind.i64.wrap ((x8_2.length : Int) - 1)) = ji65 := (i64_w _).trans hji65
            by_cases c66 : 0 ≤ (ji65)
            ·rw [if_pos c66] at H
             have c66b0 : decide (0 ≤ (ji65)) = true := decide_eq_true c66
             clear c66
             by_cases c67 : (ji65) < (x8_2.length : Int)
             ·rw [if_pos c67] at H
              have c67b0 : decide ((ji65) < (x8_2.length : Int)) = true := decide_eq_true c67
              clear c67
              obtain ⟨bq68, hbq68⟩ : ∃ b_ : Bool, b_ = ((rd_T33 x8_2 (ji65)).f0) := ⟨_, rfl⟩
              replace H : (if (bq68 = true) then ((slabSize0.f x8_2).bind fun t110 => (if t110 > 240 then (some (0, ([] : List (S33)), 22)) else (some (a0_0, x8_2, 0)))) else (if (ji65) ≤ (x8_2.length : Int) then (slab_Put.l0 k2 (x8_2.take ((ji65) : Int).toNat) a0_0 l0_1) else (none))) = some (r1, r2, r3) := by rw [← hbq68] at H; exact H
              have Nbq68 := Aside0.mk hbq68
              clear hbq68
              by_cases c69 : (bq68 = true)
              ·subst c69
               have H1 : ((slabSize0.f x8_2).bind fun t110 => (if t110 > 240 then (some (0, ([] : List (S33)), 22)) else (some (a0_0, x8_2, 0)))) = some (r1, r2, r3) := by rw [if_pos rfl] at H; exact H
               clear H
               have H := H1
               clear H1
               replace H := Option.bind_eq_some_iff.mp H
               obtain ⟨t110, A700, H⟩ := H
               replace H : (if t110 > 240 then (some (0, ([] : List (S33)), 22)) else (some (a0_0, x8_2, 0))) = some (r1, r2, r3) := H
               have A70 := Aside0.mk A700
               clear A700
               by_cases c71 : t110 > 240
               ·rw [if_pos c71] at H
                have c71b0 : decide (240 < t110) = true := decide_eq_true c71
                clear c71
                simp only [Option.some.injEq, Prod.mk.injEq] at H
                obtain ⟨rfl, rfl, rfl⟩ := H
                obtain ⟨Ao72, co72, eo72⟩ := Kd.R_slice HO_8.out
                subst eo72
                have p109 : 0 ≤ ((ji65) : Int) := of_decide_eq_true (by first | (with_reducible assumption) | assumption)
                have q109 : (ji65) < (x8_2.length : Int) := of_decide_eq_true (by first | (with_reducible assumption) | assumption)
                obtain ⟨ad109, e109, hx109_0, hx109_1⟩ := at_T33 (Kd.R_reads' HO_8.out).2.2 (ji65) p109 q109
                (try rw [← Nbq68.out] at hx109_0)
                cases e109
                replace p109 := eq_true p109
                replace q109 := eq_true q109
                go_wp2_with (first | ((with_reducible refine gate_callee (f := 81) rfl ?_); refine goesL_ (some 72) rfl rfl Try.func81 (by kernel_rfl) rfl #[.slice (some ad109) x8_2.length co72] rfl (by (try simp only [List.map_toArray, List.map_cons, List.map_nil]); first | done | rfl | (simp only [List.length_drop, List.length_take]; rfl)) ?_; (with_reducible refine (slabSize0.calls _ _ x8_2 t110 _ ?side1 ?side2 A70.out).mono ?_); (case side1 => repeat (first | exact (Kd.R_reads' HO_8.out).2.2 | (with_reducible refine Kd.C_alloc ?_ _) | (with_reducible refine Kd.C_drewN ?_ _) | (with_reducible refine Kd.C_drew ?_))); (case side2 => exact (Kd.R_reads' HO_8.out).2.1); rintro e w73 ⟨rfl, hb⟩; refine ⟨_, rfl, ?_⟩; have n0_ := Aside0.mk (Kd.R_below (by (with_reducible repeat (first | apply Kd.R_alloc | apply Kd.R_drewN | apply Kd.R_drew)); exact HO_8.out) hb); have n1_ := Aside0.mk (blk_below (g := gb101) (o := .cells #[.int .i64 a0_0, .slice A0_1 l0_1.length c0_1] 24 (0, 0)) (by (with_reducible repeat (first | refine blk_drewN ?_ _ | refine blk_drew ?_ | refine blk_alloc ?_ _)); exact BK101.out) hb); have n2_ := Aside0.mk (blk_below (g := gb102) (o := .cells #[.bool a2_0, .string a2_1] 33 (0, 0)) (by (with_reducible repeat (first | refine blk_drewN ?_ _ | refine blk_drew ?_ | refine blk_alloc ?_ _)); exact BK102.out) hb); have n3_ := Aside0.mk (blk_below (g := gb103) (o := .cells #[.int .i64 0, .slice none 0 0] 24 (0, 0)) (by (with_reducible repeat (first | refine blk_drewN ?_ _ | refine blk_drew ?_ | refine blk_alloc ?_ _)); exact BK103.out) hb); have n4_ := Aside0.mk (below_step (by repeat (first | (with_reducible first | exact HB.out | apply below_alloc | apply pw_below_drewN | apply below_drew1 | refine below_set ?_ GE101.out | refine below_set ?_ GE102.out | refine below_set ?_ GE103.out) | exact HB.out)) hb); clear HO_8; clear BK101; clear BK102; clear BK103; clear HB; have HO_8 := n0_; have BK101 := n1_; have BK102 := n2_; have BK103 := n3_; have HB := n4_; clear n0_ n1_ n2_ n3_ n4_; (try clear hb); (try clear hb2); (try clear hk); (try clear hi); have hnb74 := NB103_101.out; have hnc74 := NB101_103.out; have hnb75 := NB103_102.out; have hnc75 := NB102_103.out; obtain ⟨hcz76_0, hcz76_1⟩ := cl2 (W := w73) BK103.out; obtain ⟨hfz76_0, hfz76_1⟩ := fr2 BK103.out))
                refine bodyPost_ret (results_ct rfl _ _ gb103 24 #[.int .i64 0, .slice none 0 0] (0, 0) _ rfl (by (with_reducible repeat (first | refine blk_drewN ?_ _ | refine blk_drew ?_ | refine blk_alloc ?_ _)); refine blk_put (cs := #[.int .i64 0, .slice none 0 0]) ?_ 1 _ rfl; refine blk_put (cs := #[.int .i64 0, .slice none 0 0]) ?_ 0 _ rfl; (with_reducible repeat (first | refine blk_drewN ?_ _ | refine blk_drew ?_ | refine blk_alloc ?_ _)); exact BK103.out) Try.underlying24 rfl (by kernel_rfl)) rfl ?_
                exact ⟨_, by first | rfl | (simp [errW_none, errW_some] <;> rfl) | (simp only [← hji47, ← hji65]; first | rfl | (simp [errW_none, errW_some] <;> rfl)) | (simp [*, errW_none, errW_some] <;> rfl), by first | exact Kd.R_nil _ _ _ _ _ | exact Kd.N_nil _ _ _ _ _ | exact Kd.V_nil _ _ _ _ _ | exact Kd.Q_nil _ _ _ _ _ | exact Kd.S_nil _ _ _ _ _, by repeat (first | (with_reducible first | exact HB.out | apply below_alloc | apply pw_below_drewN | apply below_drew1 | refine below_set ?_ GE101.out | refine below_set ?_ GE102.out | refine below_set ?_ GE103.out) | exact HB.out)⟩
               ·rw [if_neg c71] at H
                have c71b0 : decide (240 < t110) = false := decide_eq_false c71
                clear c71
                simp only [Option.some.injEq, Prod.mk.injEq] at H
                obtain ⟨rfl, rfl, rfl⟩ := H
                obtain ⟨Ao77, co77, eo77⟩ := Kd.R_slice HO_8.out
                subst eo77
                have p109 : 0 ≤ ((ji65) : Int) := of_decide_eq_true (by first | (with_reducible assumption) | assumption)
                have q109 : (ji65) < (x8_2.length : Int) := of_decide_eq_true (by first | (with_reducible assumption) | assumption)
                obtain ⟨ad109, e109, hx109_0, hx109_1⟩ := at_T33 (Kd.R_reads' HO_8.out).2.2 (ji65) p109 q109
                (try rw [← Nbq68.out] at hx109_0)
                cases e109
                replace p109 := eq_true p109
                replace q109 := eq_true q109
                go_wp2_with (first | ((with_reducible refine gate_callee (f := 81) rfl ?_); refine goesL_ (some 72) rfl rfl Try.func81 (by kernel_rfl) rfl #[.slice (some ad109) x8_2.length co77] rfl (by (try simp only [List.map_toArray, List.map_cons, List.map_nil]); first | done | rfl | (simp only [List.length_drop, List.length_take]; rfl)) ?_; (with_reducible refine (slabSize0.calls _ _ x8_2 t110 _ ?side1 ?side2 A70.out).mono ?_); (case side1 => repeat (first | exact (Kd.R_reads' HO_8.out).2.2 | (with_reducible refine Kd.C_alloc ?_ _) | (with_reducible refine Kd.C_drewN ?_ _) | (with_reducible refine Kd.C_drew ?_))); (case side2 => exact (Kd.R_reads' HO_8.out).2.1); rintro e w78 ⟨rfl, hb⟩; refine ⟨_, rfl, ?_⟩; have n0_ := Aside0.mk (Kd.R_below (by (with_reducible repeat (first | apply Kd.R_alloc | apply Kd.R_drewN | apply Kd.R_drew)); exact HO_8.out) hb); have n1_ := Aside0.mk (blk_below (g := gb101) (o := .cells #[.int .i64 a0_0, .slice A0_1 l0_1.length c0_1] 24 (0, 0)) (by (with_reducible repeat (first | refine blk_drewN ?_ _ | refine blk_drew ?_ | refine blk_alloc ?_ _)); exact BK101.out) hb); have n2_ := Aside0.mk (blk_below (g := gb102) (o := .cells #[.bool a2_0, .string a2_1] 33 (0, 0)) (by (with_reducible repeat (first | refine blk_drewN ?_ _ | refine blk_drew ?_ | refine blk_alloc ?_ _)); exact BK102.out) hb); have n3_ := Aside0.mk (blk_below (g := gb103) (o := .cells #[.int .i64 0, .slice none 0 0] 24 (0, 0)) (by (with_reducible repeat (first | refine blk_drewN ?_ _ | refine blk_drew ?_ | refine blk_alloc ?_ _)); exact BK103.out) hb); have n4_ := Aside0.mk (below_step (by repeat (first | (with_reducible first | exact HB.out | apply below_alloc | apply pw_below_drewN | apply below_drew1 | refine below_set ?_ GE101.out | refine below_set ?_ GE102.out | refine below_set ?_ GE103.out) | exact HB.out)) hb); clear HO_8; clear BK101; clear BK102; clear BK103; clear HB; have HO_8 := n0_; have BK101 := n1_; have BK102 := n2_; have BK103 := n3_; have HB := n4_; clear n0_ n1_ n2_ n3_ n4_; (try clear hb); (try clear hb2); (try clear hk); (try clear hi); have hnb79 := NB101_102.out; have hnc79 := NB102_101.out; have hnb80 := NB101_103.out; have hnc80 := NB103_101.out; obtain ⟨hcz81_0, hcz81_1⟩ := cl2 (W := w78) BK101.out; obtain ⟨hfz81_0, hfz81_1⟩ := fr2 BK101.out; have hnb82 := NB103_102.out; have hnc82 := NB102_103.out; obtain ⟨hcz83_0, hcz83_1⟩ := cl2 (W := w78) BK103.out; obtain ⟨hfz83_0, hfz83_1⟩ := fr2 BK103.out))
                refine bodyPost_ret (results_ct rfl _ _ gb103 24 #[.int .i64 a0_0, .slice (some ad109) x8_2.length co77] (0, 0) _ rfl (by (with_reducible repeat (first | refine blk_drewN ?_ _ | refine blk_drew ?_ | refine blk_alloc ?_ _)); refine blk_put (cs := #[.int .i64 a0_0, .slice none 0 0]) ?_ 1 _ rfl; refine blk_put (cs := #[.int .i64 0, .slice none 0 0]) ?_ 0 _ rfl; (with_reducible repeat (first | refine blk_drewN ?_ _ | refine blk_drew ?_ | refine blk_alloc ?_ _)); exact BK103.out) Try.underlying24 rfl (by kernel_rfl)) rfl ?_
                exact ⟨_, by first | rfl | (simp [errW_none, errW_some] <;> rfl) | (simp only [← hji47, ← hji65]; first | rfl | (simp [errW_none, errW_some] <;> rfl)) | (simp [*, errW_none, errW_some] <;> rfl), by (with_reducible repeat (first | apply Kd.R_alloc | apply Kd.R_drewN | apply Kd.R_drew)); exact Kd.R_mono (Kd.R_far (p := ⟨gb103, 1, none⟩) (Kd.R_far (p := ⟨gb103, 0, none⟩) (Kd.R_types HO_8.out BK103.out (by decide)) (fun _ hk => hk.2) (.int .i64 a0_0)) (fun _ hk => hk.2) (.slice (some ad109) x8_2.length co77)) (fun _ hk => trivial), by repeat (first | (with_reducible first | exact HB.out | apply below_alloc | apply pw_below_drewN | apply below_drew1 | refine below_set ?_ GE101.out | refine below_set ?_ GE102.out | refine below_set ?_ GE103.out) | exact HB.out)⟩
              ·replace c69 := Bool.eq_false_iff.mpr c69
               subst c69
               have H1 : (if (ji65) ≤ (x8_2.length : Int) then (slab_Put.l0 k2 (x8_2.take ((ji65) : Int).toNat) a0_0 l0_1) else (none)) = some (r1, r2, r3) := by rw [if_neg (show ¬ (false = true) by decide)] at H; exact H
               clear H
               have H := H1
               clear H1
               by_cases c84 : (ji65) ≤ (x8_2.length : Int)
               ·rw [if_pos c84] at H
                have c84b0 := eq_true c84
                have c84b1 : decide ((ji65) ≤ (x8_2.length : Int)) = true := decide_eq_true c84
                clear c84
                obtain ⟨y111, hy111⟩ : ∃ y_ : List (S33), y_ = (x8_2.take ((ji65) : Int).toNat) := ⟨_, rfl⟩
                replace H : (slab_Put.l0 k2 y111 a0_0 l0_1) = some (r1, r2, r3) := by first | (rw [hy111]; with_reducible exact H) | (have H2_ := (Option.bind_some _ _).symm.trans H; rw [hy111]; with_reducible exact H2_) | (have H2_ := (Option.bind_some _ _).symm.trans H; with_reducible exact H2_) | with_reducible exact H | (rw [hy111]; exact H) | exact H
                have Ny111 := Aside0.mk hy111
                clear hy111
                have H' := Aside0.mk H
                clear H
                obtain ⟨Ao85, co85, eo85⟩ := Kd.R_slice HO_8.out
                subst eo85
                have p109 : 0 ≤ ((ji65) : Int) := of_decide_eq_true (by first | (with_reducible assumption) | assumption)
                have q109 : (ji65) < (x8_2.length : Int) := of_decide_eq_true (by first | (with_reducible assumption) | assumption)
                obtain ⟨ad109, e109, hx109_0, hx109_1⟩ := at_T33 (Kd.R_reads' HO_8.out).2.2 (ji65) p109 q109
                (try rw [← Nbq68.out] at hx109_0)
                cases e109
                replace p109 := eq_true p109
                replace q109 := eq_true q109
                have q86 : ((ji65) : Int) ≤ ((x8_2.length : Int) : Int) := of_decide_eq_true (by first | (with_reducible assumption) | assumption)
                obtain ⟨i086, hi086, _, hsz86, _⟩ := info_parts info33
                have hcut86 := cut_to (P := Try.prog) 22 33 .i64 Try.underlying22 hi086 (some ad109) x8_2.length co85 (ji65) (of_decide_eq_true (by first | (with_reducible assumption) | assumption)) q86 (Kd.R_reads' HO_8.out).2.1
                have hr86 := Kd.R_take (m := ((ji65) : Int).toNat) HO_8.out (by omega)
                have hy86 : y111.length = ((ji65) : Int).toNat := (by rw [Ny111.out, List.length_take]; omega)
                rw [← Ny111.out] at hr86
                rw [← hy86] at hr86 hcut86
                clear hy86 hi086 hsz86 HO_8
                have HO113 := Aside0.mk hr86
                clear hr86
                replace q86 := eq_true q86
                go_wp2
                go_roundg k2
                case measure => have := HJ3.out; have := HK2.out; omega
                case rel => exact ⟨(y111), H', ⟨by have := HJ3.out; have := HK2.out; omega⟩, ⟨by (with_reducible repeat (first | apply Kd.R_alloc | apply Kd.R_drewN | apply Kd.R_drew)); exact HO113.out⟩, ⟨by (with_reducible repeat (first | refine blk_drewN ?_ _ | refine blk_drew ?_ | refine blk_alloc ?_ _)); exact BK101.out⟩, ⟨by (with_reducible repeat (first | refine blk_drewN ?_ _ | refine blk_drew ?_ | refine blk_alloc ?_ _)); exact BK102.out⟩, ⟨by (with_reducible repeat (first | refine blk_drewN ?_ _ | refine blk_drew ?_ | refine blk_alloc ?_ _)); exact BK103.out⟩, ⟨by repeat (first | (with_reducible first | exact HB.out | apply below_alloc | apply pw_below_drewN | apply below_drew1 | refine below_set ?_ GE101.out | refine below_set ?_ GE102.out | refine below_set ?_ GE103.out) | exact HB.out)⟩⟩
               ·rw [if_neg c84] at H
                exact absurd H (by simp)
             ·rw [if_neg c67] at H
              exact absurd H (by simp)
            ·rw [if_neg c66] at H
             exact absurd H (by simp)
           ·rw [if_neg c64] at H
            have c64b0 : decide (0 < (x8_2.length : Int)) = false := decide_eq_false c64
            have c64b1 : decide (0 < x8_2.length) = false := decide_eq_false (by omega)
            clear c64
            replace H := Option.bind_eq_some_iff.mp H
            obtain ⟨t114, A870, H⟩ := H
            replace H : (if t114 > 240 then (some (0, ([] : List (S33)), 22)) else (some (a0_0, x8_2, 0))) = some (r1, r2, r3) := H
            have A87 := Aside0.mk A870
            clear A870
            by_cases c88 : t114 > 240
            ·rw [if_pos c88] at H
             have c88b0 : decide (240 < t114) = true := decide_eq_true c88
             clear c88
             simp only [Option.some.injEq, Prod.mk.injEq] at H
             obtain ⟨rfl, rfl, rfl⟩ := H
             obtain ⟨Ao89, co89, eo89⟩ := Kd.R_slice HO_8.out
             subst eo89
             go_wp2_with (first | ((with_reducible refine gate_callee (f := 81) rfl ?_); refine goesL_ (some 72) rfl rfl Try.func81 (by kernel_rfl) rfl #[.slice Ao89 x8_2.length co89] rfl (by (try simp only [List.map_toArray, List.map_cons, List.map_nil]); first | done | rfl | (simp only [List.length_drop, List.length_take]; rfl)) ?_; (with_reducible refine (slabSize0.calls _ _ x8_2 t114 _ ?side1 ?side2 A87.out).mono ?_); (case side1 => repeat (first | exact (Kd.R_reads' HO_8.out).2.2 | (with_reducible refine Kd.C_alloc ?_ _) | (with_reducible refine Kd.C_drewN ?_ _) | (with_reducible refine Kd.C_drew ?_))); (case side2 => exact (Kd.R_reads' HO_8.out).2.1); rintro e w90 ⟨rfl, hb⟩; refine ⟨_, rfl, ?_⟩; have n0_ := Aside0.mk (Kd.R_below (by (with_reducible repeat (first | apply Kd.R_alloc | apply Kd.R_drewN | apply Kd.R_drew)); exact HO_8.out) hb); have n1_ := Aside0.mk (blk_below (g := gb101) (o := .cells #[.int .i64 a0_0, .slice A0_1 l0_1.length c0_1] 24 (0, 0)) (by (with_reducible repeat (first | refine blk_drewN ?_ _ | refine blk_drew ?_ | refine blk_alloc ?_ _)); exact BK101.out) hb); have n2_ := Aside0.mk (blk_below (g := gb102) (o := .cells #[.bool a2_0, .string a2_1] 33 (0, 0)) (by (with_reducible repeat (first | refine blk_drewN ?_ _ | refine blk_drew ?_ | refine blk_alloc ?_ _)); exact BK102.out) hb); have n3_ := Aside0.mk (blk_below (g := gb103) (o := .cells #[.int .i64 0, .slice none 0 0] 24 (0, 0)) (by (with_reducible repeat (first | refine blk_drewN ?_ _ | refine blk_drew ?_ | refine blk_alloc ?_ _)); exact BK103.out) hb); have n4_ := Aside0.mk (below_step (by repeat (first | (with_reducible first | exact HB.out | apply below_alloc | apply pw_below_drewN | apply below_drew1 | refine below_set ?_ GE101.out | refine below_set ?_ GE102.out | refine below_set ?_ GE103.out) | exact HB.out)) hb); clear HO_8; clear BK101; clear BK102; clear BK103; clear HB; have HO_8 := n0_; have BK101 := n1_; have BK102 := n2_; have BK103 := n3_; have HB := n4_; clear n0_ n1_ n2_ n3_ n4_; (try clear hb); (try clear hb2); (try clear hk); (try clear hi); have hnb91 := NB103_101.out; have hnc91 := NB101_103.out; have hnb92 := NB103_102.out; have hnc92 := NB102_103.out; obtain ⟨hcz93_0, hcz93_1⟩ := cl2 (W := w90) BK103.out; obtain ⟨hfz93_0, hfz93_1⟩ := fr2 BK103.out))
             refine bodyPost_ret (results_ct rfl _ _ gb103 24 #[.int .i64 0, .slice none 0 0] (0, 0) _ rfl (by (with_reducible repeat (first | refine blk_drewN ?_ _ | refine blk_drew ?_ | refine blk_alloc ?_ _)); refine blk_put (cs := #[.int .i64 0, .slice none 0 0]) ?_ 1 _ rfl; refine blk_put (cs := #[.int .i64 0, .slice none 0 0]) ?_ 0 _ rfl; (with_reducible repeat (first | refine blk_drewN ?_ _ | refine blk_drew ?_ | refine blk_alloc ?_ _)); exact BK103.out) Try.underlying24 rfl (by kernel_rfl)) rfl ?_
             exact ⟨_, by first | rfl | (simp [errW_none, errW_some] <;> rfl) | (simp only [← hji47]; first | rfl | (simp [errW_none, errW_some] <;> rfl)) | (simp [*, errW_none, errW_some] <;> rfl), by first | exact Kd.R_nil _ _ _ _ _ | exact Kd.N_nil _ _ _ _ _ | exact Kd.V_nil _ _ _ _ _ | exact Kd.Q_nil _ _ _ _ _ | exact Kd.S_nil _ _ _ _ _, by repeat (first | (with_reducible first | exact HB.out | apply below_alloc | apply pw_below_drewN | apply below_drew1 | refine below_set ?_ GE101.out | refine below_set ?_ GE102.out | refine below_set ?_ GE103.out) | exact HB.out)⟩
            ·rw [if_neg c88] at H
             have c88b0 : decide (240 < t114) = false := decide_eq_false c88
             clear c88
             simp only [Option.some.injEq, Prod.mk.injEq] at H
             obtain ⟨rfl, rfl, rfl⟩ := H
             obtain ⟨Ao94, co94, eo94⟩ := Kd.R_slice HO_8.out
             subst eo94
             go_wp2_with (first | ((with_reducible refine gate_callee (f := 81) rfl ?_); refine goesL_ (some 72) rfl rfl Try.func81 (by kernel_rfl) rfl #[.slice Ao94 x8_2.length co94] rfl (by (try simp only [List.map_toArray, List.map_cons, List.map_nil]); first | done | rfl | (simp only [List.length_drop, List.length_take]; rfl)) ?_; (with_reducible refine (slabSize0.calls _ _ x8_2 t114 _ ?side1 ?side2 A87.out).mono ?_); (case side1 => repeat (first | exact (Kd.R_reads' HO_8.out).2.2 | (with_reducible refine Kd.C_alloc ?_ _) | (with_reducible refine Kd.C_drewN ?_ _) | (with_reducible refine Kd.C_drew ?_))); (case side2 => exact (Kd.R_reads' HO_8.out).2.1); rintro e w95 ⟨rfl, hb⟩; refine ⟨_, rfl, ?_⟩; have n0_ := Aside0.mk (Kd.R_below (by (with_reducible repeat (first | apply Kd.R_alloc | apply Kd.R_drewN | apply Kd.R_drew)); exact HO_8.out) hb); have n1_ := Aside0.mk (blk_below (g := gb101) (o := .cells #[.int .i64 a0_0, .slice A0_1 l0_1.length c0_1] 24 (0, 0)) (by (with_reducible repeat (first | refine blk_drewN ?_ _ | refine blk_drew ?_ | refine blk_alloc ?_ _)); exact BK101.out) hb); have n2_ := Aside0.mk (blk_below (g := gb102) (o := .cells #[.bool a2_0, .string a2_1] 33 (0, 0)) (by (with_reducible repeat (first | refine blk_drewN ?_ _ | refine blk_drew ?_ | refine blk_alloc ?_ _)); exact BK102.out) hb); have n3_ := Aside0.mk (blk_below (g := gb103) (o := .cells #[.int .i64 0, .slice none 0 0] 24 (0, 0)) (by (with_reducible repeat (first | refine blk_drewN ?_ _ | refine blk_drew ?_ | refine blk_alloc ?_ _)); exact BK103.out) hb); have n4_ := Aside0.mk (below_step (by repeat (first | (with_reducible first | exact HB.out | apply below_alloc | apply pw_below_drewN | apply below_drew1 | refine below_set ?_ GE101.out | refine below_set ?_ GE102.out | refine below_set ?_ GE103.out) | exact HB.out)) hb); clear HO_8; clear BK101; clear BK102; clear BK103; clear HB; have HO_8 := n0_; have BK101 := n1_; have BK102 := n2_; have BK103 := n3_; have HB := n4_; clear n0_ n1_ n2_ n3_ n4_; (try clear hb); (try clear hb2); (try clear hk); (try clear hi); have hnb96 := NB101_102.out; have hnc96 := NB102_101.out; have hnb97 := NB101_103.out; have hnc97 := NB103_101.out; obtain ⟨hcz98_0, hcz98_1⟩ := cl2 (W := w95) BK101.out; obtain ⟨hfz98_0, hfz98_1⟩ := fr2 BK101.out; have hnb99 := NB103_102.out; have hnc99 := NB102_103.out; obtain ⟨hcz100_0, hcz100_1⟩ := cl2 (W := w95) BK103.out; obtain ⟨hfz100_0, hfz100_1⟩ := fr2 BK103.out))
             refine bodyPost_ret (results_ct rfl _ _ gb103 24 #[.int .i64 a0_0, .slice Ao94 x8_2.length co94] (0, 0) _ rfl (by (with_reducible repeat (first | refine blk_drewN ?_ _ | refine blk_drew ?_ | refine blk_alloc ?_ _)); refine blk_put (cs := #[.int .i64 a0_0, .slice none 0 0]) ?_ 1 _ rfl; refine blk_put (cs := #[.int .i64 0, .slice none 0 0]) ?_ 0 _ rfl; (with_reducible repeat (first | refine blk_drewN ?_ _ | refine blk_drew ?_ | refine blk_alloc ?_ _)); exact BK103.out) Try.underlying24 rfl (by kernel_rfl)) rfl ?_
             exact ⟨_, by first | rfl | (simp [errW_none, errW_some] <;> rfl) | (simp only [← hji47]; first | rfl | (simp [errW_none, errW_some] <;> rfl)) | (simp [*, errW_none, errW_some] <;> rfl), by (with_reducible repeat (first | apply Kd.R_alloc | apply Kd.R_drewN | apply Kd.R_drew)); exact Kd.R_mono (Kd.R_far (p := ⟨gb103, 1, none⟩) (Kd.R_far (p := ⟨gb103, 0, none⟩) (Kd.R_types HO_8.out BK103.out (by decide)) (fun _ hk => hk.2) (.int .i64 a0_0)) (fun _ hk => hk.2) (.slice Ao94 x8_2.length co94)) (fun _ hk => trivial), by repeat (first | (with_reducible first | exact HB.out | apply below_alloc | apply pw_below_drewN | apply below_drew1 | refine below_set ?_ GE101.out | refine below_set ?_ GE102.out | refine below_set ?_ GE103.out) | exact HB.out)⟩
        ·rw [if_neg c51] at H
         exact absurd H (by simp)
       ·rw [if_neg c50] at H
        exact absurd H (by simp)
      ·rw [if_neg c49] at H
       exact absurd H (by simp)
     ·rw [if_neg c48] at H
      exact absurd H (by simp)
end Go.Proofs.Ytfjmnaobfbmllaa.M
namespace Go.Proofs.Ytfjmnaobfbmllaa.M
open Go.RowKit Go.Proofs.YtfjmnaobfbmllaaW.PrintWords Go.Proofs.YtfjmnaobfbmllaaW.PrintLast Go.Proofs.YtfjmnaobfbmllaaW.PrintMore
set_option linter.unusedVariables false
set_option linter.unusedSimpArgs false
def trimS (xs : List S33) : List S33 := (xs.reverse.dropWhile (fun x => !x.f0)).reverse
def extS (l : List S33) (n : Nat) : List S33 := l ++ List.replicate (n - l.length) z33
def putL (l : List S33) (s : Nat) (x : S33) : List S33 := trimS ((extS l (s + 1)).set s x)
def badS (x : S33) : Bool := !x.f0 && !x.f1.toList.isEmpty
def putP (a : Int) (l : List S33) (s : Int) (x : S33) : Int × List S33 × Int :=
  if goodP a l = false ∨ s < 0 ∨ 32 ≤ s ∨ badS x = true then (0, [], 1)
  else if 200 < x.f1.size then (0, [], 5)
  else if 240 < rawSize (putL l s.toNat x) then (0, [], 22) else (a, putL l s.toNat x, 0)
theorem trim_snoc_used (ys : List S33) (y : S33) (h : y.f0 = true) : trimS (ys ++ [y]) = ys ++ [y] := by
  unfold trimS; simp [h]
theorem trim_snoc_free (ys : List S33) (y : S33) (h : y.f0 = false) : trimS (ys ++ [y]) = trimS ys := by
  unfold trimS; simp [h]
theorem snoc_of (xs : List S33) (h : 0 < xs.length) : ∃ ys y, xs = ys ++ [y] ∧ xs.take (xs.length - 1) = ys ∧ rd_T33 xs ((xs.length : Int) - 1) = y ∧ ys.length + 1 = xs.length := by
  rcases List.eq_nil_or_concat xs with rfl | ⟨ys, y, rfl⟩
  · simp at h
  · refine ⟨ys, y, by simp, by simp, ?_, by simp⟩
    have : ((ys.concat y).length : Int) - 1 = (ys.length : Int) := by simp
    rw [this, rd33 _ _ (by simp)]
    simp
theorem trim_length (xs : List S33) : (trimS xs).length ≤ xs.length := by
  unfold trimS
  rw [List.length_reverse]
  have := (List.dropWhile_sublist (fun x : S33 => !x.f0) (l := xs.reverse)).length_le
  simpa using this
theorem trim_sub (xs : List S33) : ∀ x ∈ trimS xs, x ∈ xs := by
  intro x hx
  unfold trimS at hx
  rw [List.mem_reverse] at hx
  have := (List.dropWhile_sublist (fun x : S33 => !x.f0) (l := xs.reverse)).subset hx
  simpa using this
theorem trim_last (xs : List S33) : lastUsed (trimS xs) = true := by
  have h : ∀ n (xs : List S33), xs.length = n → lastUsed (trimS xs) = true := by
    intro n
    induction n with
    | zero => intro xs h; rw [List.eq_nil_of_length_eq_zero h]; rfl
    | succ n ih =>
      intro xs h
      obtain ⟨ys, y, rfl, _, _, hl⟩ := snoc_of xs (by omega)
      cases hy : y.f0 with
      | true => rw [trim_snoc_used ys y hy]; simp [lastUsed, hy]
      | false => rw [trim_snoc_free ys y hy]; exact ih ys (by omega)
  exact h _ xs rfl
theorem sumS_mem (xs : List S33) (h : ∀ x ∈ xs, x.f1.size ≤ 200) : sumS xs ≤ 201 * xs.length := by
  induction xs with
  | nil => simp [sumS]
  | cons x xs ih =>
    have h1 := h x (by simp)
    have h2 := ih (fun y hy => h y (by simp [hy]))
    simp only [sumS, List.length_cons]; omega
def finP (a : Int) (q : List S33) : Int × List S33 × Int := if 240 < rawSize q then (0, [], 22) else (a, q, 0)
theorem put_trim (a : Int) (l : List S33) (n : Nat) : ∀ (k : Nat) (xs : List S33), xs.length = n → n ≤ 32 → (∀ x ∈ xs, x.f1.size ≤ 200) → n < k →
    slab_Put.l0 k xs a l = some (finP a (trimS xs)) := by
  have fin : ∀ xs : List S33, xs.length ≤ 32 → (∀ x ∈ xs, x.f1.size ≤ 200) → ((slabSize0.f xs).bind fun t => if t > 240 then some (0, ([] : List S33), 22) else some (a, xs, (0 : Int))) = some (finP a xs) := by
    intro xs hl hb
    have := sumS_mem xs hb
    unfold slabSize0.f finP
    rw [if_pos (by omega), Option.bind_some]
    by_cases h : 240 < rawSize xs
    · rw [if_pos (by omega), if_pos h]
    · rw [if_neg (by omega), if_neg h]
  induction n with
  | zero =>
    intro k xs hx _ hb hk
    obtain ⟨k, rfl⟩ : ∃ m, k = m + 1 := ⟨k - 1, by omega⟩
    obtain rfl := List.eq_nil_of_length_eq_zero hx
    simp only [slab_Put.l0]
    rw [if_neg (by simp)]
    exact fin [] (by simp) (by simp)
  | succ n ih =>
    intro k xs hx h32 hb hk
    obtain ⟨k, rfl⟩ : ∃ m, k = m + 1 := ⟨k - 1, by omega⟩
    obtain ⟨ys, y, rfl, h1, h2, h3⟩ := snoc_of xs (by omega)
    simp only [slab_Put.l0]
    rw [if_pos (by omega), w64 _ (by omega) (by omega), if_pos (by omega), if_pos (by omega), h2]
    have e : (((ys ++ [y]).length : Int) - 1).toNat = (ys ++ [y]).length - 1 := by omega
    cases hy : y.f0 with
    | true =>
      rw [if_pos rfl, trim_snoc_used ys y hy]
      exact fin _ (by omega) hb
    | false =>
      rw [if_neg (by simp), if_pos (by omega), e, h1, trim_snoc_free ys y hy]
      exact ih k ys (by omega) (by omega) (fun x hx => hb x (by simp [hx])) (by omega)
theorem good_facts (a : Int) (l : List S33) (h : goodP a l = true) : 0 ≤ a ∧ a ≤ 1099511627776 ∧ l.length ≤ 32 ∧ l.any oddS = false ∧ lastUsed l = true ∧ rawSize l ≤ 240 := by
  unfold goodP at h
  simp only [Bool.and_eq_true, decide_eq_true_eq, Bool.not_eq_true'] at h
  obtain ⟨⟨⟨⟨⟨h1, h2⟩, h3⟩, h4⟩, h5⟩, h6⟩ := h
  exact ⟨h1, h2, h3, h4, h5, h6⟩
theorem odd_small (x : S33) (h : oddS x = false) : x.f1.size ≤ 200 := by
  unfold oddS at h; simp at h; omega
theorem bad_ne (x : S33) (h : x.f0 = false) : badS x = (x.f1.toList != []) := by
  unfold badS; rw [h]; cases x.f1.toList <;> rfl
theorem putP_bad (a : Int) (l : List S33) (s : Int) (x : S33) (h : badS x = true) : putP a l s x = (0, [], 1) := by
  unfold putP; rw [if_pos (by simp [h])]
theorem putP_ok (a : Int) (l : List S33) (n : Nat) (x : S33) (hg : goodP a l = true) (h2 : ¬ ((n : Int) ≥ 32)) (hb : badS x = false) :
    putP a l n x = if 200 < x.f1.size then (0, [], 5) else finP a (putL l n x) := by
  unfold putP
  rw [if_neg (by rw [hg, hb]; rintro (h | h | h | h) <;> first | omega | exact absurd h (by decide)), Int.toNat_natCast]
  rfl
theorem sput_pure (a : Int) (l : List S33) (s : Int) (x : S33) (k : Nat) (hk : 100 < k) : slab_Put.f k a l s x.f0 x.f1 = some (putP a l s x) := by
  obtain ⟨k, rfl⟩ : ∃ m, k = m + 1 := ⟨k - 1, by omega⟩
  have hbad : slab_Put.j0 (k + 1) s true a l x.f0 x.f1 = some (0, [], 1) := by simp [slab_Put.j0]
  unfold slab_Put.f slabGood.f
  rw [Option.bind_some]
  cases hg : goodP a l with
  | false => rw [if_neg (by simp), hbad]; simp [putP, hg]
  | true =>
    obtain ⟨ha0, ha1, hl, hodd, hlast, hsz⟩ := good_facts a l hg
    rw [if_pos rfl]
    by_cases h1 : s < 0
    · rw [if_pos h1, hbad]; simp [putP, h1]
    rw [if_neg h1]
    by_cases h2 : s ≥ 32
    · rw [if_pos h2, hbad]; simp [putP, show 32 ≤ s from h2]
    rw [if_neg h2]
    obtain ⟨n, rfl⟩ := Int.eq_ofNat_of_zero_le (show 0 ≤ s by omega)
    have main : slab_Put.j0 (k + 1) n false a l x.f0 x.f1 = some (if 200 < x.f1.size then (0, [], 5) else finP a (putL l n x)) := by
      simp only [slab_Put.j0]
      rw [if_neg (by simp)]
      by_cases h3 : (x.f1.size : Int) > 200
      · rw [if_pos h3, if_pos (by omega)]
      · have hR : (if 200 < x.f1.size then ((0 : Int), ([] : List S33), (5 : Int)) else finP a (putL l n x)) = finP a (putL l n x) := if_neg (by omega)
        rw [hR, if_neg h3, w64 _ (by omega) (by omega)]
        have hm : mx (l.length : Int) ((n : Int) + 1) = ((max l.length (n + 1) : Nat) : Int) := by unfold mx; split <;> omega
        rw [hm, if_pos (by omega), if_pos (by omega), Option.bind_some, Int.toNat_natCast]
        have hc : copyIn (List.replicate (max l.length (n + 1)) z33) l = extS l (n + 1) := by
          unfold copyIn extS
          rw [List.drop_replicate]
          congr 2
          omega
        have hlen : (extS l (n + 1)).length = max l.length (n + 1) := by unfold extS; simp; omega
        rw [hc, if_pos (by omega), if_pos (by omega), Int.toNat_natCast]
        refine put_trim a l _ k _ rfl (by simp [hlen]; omega) ?_ (by simp [hlen]; omega)
        intro y hy
        have hy2 := List.mem_or_eq_of_mem_set hy
        rcases hy2 with hy2 | rfl
        · unfold extS at hy2
          rw [List.mem_append] at hy2
          rcases hy2 with hy2 | hy2
          · rw [List.any_eq_false] at hodd
            exact odd_small y (by simpa using hodd y hy2)
          · rw [List.mem_replicate] at hy2; rw [hy2.2]; show ByteArray.size ⟨#[]⟩ ≤ 200; simp [ByteArray.size]
        · show x.f1.size ≤ 200; omega
    by_cases hu : x.f0 = true
    · rw [if_pos hu, main, putP_ok a l n x hg (by omega) (by simp [badS, hu])]
    · have hu' : x.f0 = false := by simpa using hu
      have hbn := bad_ne x hu'
      rw [if_neg hu]
      by_cases hb : badS x = true
      · rw [← hbn, hb, hbad, putP_bad a l n x hb]
      · rw [← hbn, Bool.eq_false_iff.mpr hb, main, putP_ok a l n x hg (by omega) (by simpa using hb)]
def slabPut.f (a : Int) (l : List S33) (s : Int) (u : Bool) (d : ByteArray) : Option (Int × List S33 × Int) := some (putP a l s ⟨u, d⟩)
theorem slabPut.calls (a : Int) (A : Option Addr) (c : Nat) (l : List S33) (s : Int) (u : Bool) (d : ByteArray) (r1 : Int) (r2 : List S33) (r3 : Int) (w : World) (hr : Kd.C k33 w A l.length l) (hc : l.length ≤ c) (h : slabPut.f a l s u d = some (r1, r2, r3)) :
    Calls Try.prog 38 #[.agg #[.int .i64 a, .slice A l.length c], .int .i64 s, .agg #[.bool u, .string d]] w fun e w' => ∃ v1_ : Value, e = .returned (.tuple #[.agg #[.int .i64 r1, v1_], .int .i64 r3]) ∧ Kd.R k33 33 w' w.heap.size (fun _ => True) v1_ r2 ∧ Below w.heap.size w w' :=
  slab_Put.calls 101 a A c l s u d r1 r2 r3 w hr hc (by rw [← h]; exact sput_pure a l s ⟨u, d⟩ 101 (by omega))
end Go.Proofs.Ytfjmnaobfbmllaa.M
namespace Go.Proofs.Ytfjmnaobfbmllaa.M
open Go.RowKit Go.Proofs.YtfjmnaobfbmllaaW.PrintWords Go.Proofs.YtfjmnaobfbmllaaW.PrintLast Go.Proofs.YtfjmnaobfbmllaaW.PrintMore
set_option linter.unusedVariables false
set_option linter.unusedSimpArgs false
def padL (bs : List Int) : List Int := bs ++ List.replicate (240 - bs.length) 0
def Buf (w : World) (g : Nat) (bs : List Int) : Prop := bs.length ≤ 240 ∧ w.heap[g]? = some (.cells (nums .u8 (padL bs)).toArray 5 (0, 0))
theorem Buf.grown {w w1 : World} {g : Nat} {bs : List Int} {row : Option Nat} (h : Buf w g bs) (hg : w.grownBy w1 row) (hne : some g ≠ row) : Buf w1 g bs := ⟨h.1, blk_grown h.2 hg hne⟩
theorem Buf.below {w w1 : World} {g : Nat} {bs : List Int} (h : Buf w g bs) (hb : Below w.heap.size w w1) : Buf w1 g bs := ⟨h.1, blk_below h.2 hb⟩
theorem Buf.alloc {w : World} {g : Nat} {bs : List Int} (h : Buf w g bs) (o : Obj) : Buf (w.alloc o) g bs := ⟨h.1, blk_alloc h.2 o⟩
theorem Buf.drewN {w : World} {g : Nat} {bs : List Int} (h : Buf w g bs) (n : Nat) : Buf (w.drewN n) g bs := ⟨h.1, blk_drewN h.2 n⟩
section
variable {ops : Array Oper} {rest : List Oper} {o : Oper} {a : Act} {Q : Exit → Act → World → Prop}
end
end Go.Proofs.Ytfjmnaobfbmllaa.M
namespace Go.Proofs.Ytfjmnaobfbmllaa.M
open Go.RowKit Go.Proofs.YtfjmnaobfbmllaaW.PrintWords Go.Proofs.YtfjmnaobfbmllaaW.PrintLast Go.Proofs.YtfjmnaobfbmllaaW.PrintMore
set_option linter.unusedVariables false
set_option linter.unusedSimpArgs false
theorem ba_inj {x y : ByteArray} : x.toList = y.toList ↔ x = y := by
  constructor
  · intro h
    rw [ByteArray.toList_eq, ByteArray.toList_eq] at h
    cases x; cases y
    congr
    exact Array.toList_inj.mp h
  · rintro rfl; rfl
theorem ba_nil (x : ByteArray) : x.toList = [] ↔ x = ⟨#[]⟩ := by
  rw [← ba_inj (y := ⟨#[]⟩)]; simp [ByteArray.toList_eq]
theorem s33_ext (x y : S33) : x = y ↔ x.f0 = y.f0 ∧ x.f1 = y.f1 := by cases x; cases y; simp
instance decS33 : DecidableEq S33 := fun x y => decidable_of_iff (x.f0 = y.f0 ∧ x.f1 = y.f1) (s33_ext x y).symm
theorem s33_beq (x y : S33) : (x.f0 == y.f0 && (x.f1.toList == y.f1.toList)) = decide (x = y) := by
  rw [Bool.eq_iff_iff]; simp [ba_inj, s33_ext]
theorem s33_ne (x y : S33) : ((!(x.f0 == y.f0) || (!(x.f1.toList == y.f1.toList))) = true) ↔ x ≠ y := by
  have := s33_beq x y
  rw [← Bool.not_and, this]; simp
def slotL (l : List S33) (i : Nat) : S33 := l.getD i z33
def atP (a : Int) (l : List S33) (i : Int) : S33 := if goodP a l = true ∧ 0 ≤ i then slotL l i.toNat else z33
theorem slot_ge (l : List S33) (i : Nat) (h : l.length ≤ i) : slotL l i = z33 := by
  simp [slotL, List.getD_eq_getElem?_getD, List.getElem?_eq_none h]
def fineS (x : S33) : Prop := (x.f0 = false → x = z33) ∧ x.f1.size ≤ 200
theorem odd_fine (x : S33) : oddS x = false ↔ fineS x := by
  unfold oddS fineS
  rw [Bool.or_eq_false_iff, Bool.and_eq_false_iff, decide_eq_false_iff_not, Nat.not_lt]
  refine and_congr ?_ Iff.rfl
  rw [s33_ext]
  cases hx : x.f0 with
  | true => simp
  | false => simp [z33, ba_nil]
theorem fine_z : fineS z33 := ⟨fun _ => rfl, by simp [z33, ByteArray.size]⟩
theorem any_fine (l : List S33) : l.any oddS = false ↔ ∀ x ∈ l, fineS x := by
  rw [List.any_eq_false]
  exact forall_congr' fun x => imp_congr_right fun _ => by rw [← odd_fine]; simp
theorem ext_len (l : List S33) (n : Nat) : (extS l n).length = max l.length n := by unfold extS; simp; omega
theorem ext_fine (l : List S33) (n : Nat) (h : ∀ x ∈ l, fineS x) : ∀ x ∈ extS l n, fineS x := by
  intro x hx
  unfold extS at hx
  rw [List.mem_append, List.mem_replicate] at hx
  rcases hx with hx | hx
  · exact h x hx
  · rw [hx.2]; exact fine_z
theorem set_fine (l : List S33) (s : Nat) (x : S33) (h : ∀ y ∈ l, fineS y) (hx : fineS x) : ∀ y ∈ l.set s x, fineS y := by
  intro y hy
  rcases List.mem_or_eq_of_mem_set hy with hy | rfl
  · exact h y hy
  · exact hx
theorem put_fine (l : List S33) (s : Nat) (x : S33) (h : ∀ y ∈ l, fineS y) (hx : fineS x) : ∀ y ∈ putL l s x, fineS y := fun y hy => set_fine _ _ _ (ext_fine l _ h) hx y (trim_sub _ y hy)
theorem put_len (l : List S33) (s : Nat) (x : S33) : (putL l s x).length ≤ max l.length (s + 1) := by
  unfold putL
  refine Nat.le_trans (trim_length _) ?_
  rw [List.length_set, ext_len]; omega
theorem put_last (l : List S33) (s : Nat) (x : S33) : lastUsed (putL l s x) = true := trim_last _
theorem good_iff (a : Int) (l : List S33) : goodP a l = true ↔ 0 ≤ a ∧ a ≤ 1099511627776 ∧ l.length ≤ 32 ∧ (∀ x ∈ l, fineS x) ∧ lastUsed l = true ∧ rawSize l ≤ 240 := by
  unfold goodP
  rw [← any_fine]
  simp [and_assoc]
theorem put_len32 (l : List S33) (s : Nat) (x : S33) (hl : l.length ≤ 32) (hs : s < 32) : (putL l s x).length ≤ 32 := by
  have := put_len l s x; omega
theorem fine_bad (x : S33) (h : fineS x) : badS x = false := by
  rw [← odd_fine] at h; unfold oddS at h; unfold badS; simp only [Bool.or_eq_false_iff] at h; exact h.1
theorem put_done {a : Int} {l : List S33} {s : Nat} {x : S33} (hg : goodP a l = true) (hs : s < 32) (hx : fineS x) :
    putP a l s x = if 240 < rawSize (putL l s x) then (0, [], 22) else (a, putL l s x, 0) := by
  rw [putP_ok a l s x hg (by omega) (fine_bad x hx), if_neg (by have := hx.2; omega)]
  rfl
theorem put_good {a : Int} {l : List S33} {s : Nat} {x : S33} (hg : goodP a l = true) (hs : s < 32) (hx : fineS x) (h : rawSize (putL l s x) ≤ 240) : goodP a (putL l s x) = true := by
  rw [good_iff] at hg ⊢
  exact ⟨hg.1, hg.2.1, put_len32 l s x hg.2.2.1 hs, put_fine l s x hg.2.2.2.1 hx, put_last l s x, h⟩
end Go.Proofs.Ytfjmnaobfbmllaa.M
namespace Go.Proofs.Ytfjmnaobfbmllaa.M
open Go.RowKit Go.Proofs.YtfjmnaobfbmllaaW.PrintWords Go.Proofs.YtfjmnaobfbmllaaW.PrintLast Go.Proofs.YtfjmnaobfbmllaaW.PrintMore
attribute [local go_sem] max2_int min2_int max_two min_two max_three min_three max_four min_four   -- for this text's walks alone
set_option linter.unusedVariables false
set_option linter.unusedSimpArgs false
def entry_within.f (a0 : Int) (a1 : Int) (a2 : Int) : Option (Bool) := if a0 ≥ a1 then (some (decide (a0 ≤ a2))) else (some false)
set_option maxHeartbeats 8000000 in
set_option maxRecDepth 100000 in
theorem entry_within.calls (a0 : Int) (a1 : Int) (a2 : Int) (r : Bool) (w : World) (h : entry_within.f a0 a1 a2 = some r) :
  Calls Try.prog 102 #[.int .i64 a0, .int .i64 a1, .int .i64 a2] w fun e w' => e = .returned (.bool r) ∧ Drawn0 w w' := by
 have H : (if a0 ≥ a1 then (some (decide (a0 ≤ a2))) else (some false)) = some r := h
 clear h
 by_cases c4 : a0 ≥ a1
 ·rw [if_pos c4] at H
  have c4b0 : decide (a1 ≤ a0) = true := decide_eq_true c4
  clear c4
  obtain rfl := Option.some.inj H
  go_enter Try.func102, Try.ntmps102
  go_wp2
  go_ret
  exact ⟨by first | rfl | (simp; done) | (simp [*]; done), by repeat (first | exact Drawn0.refl _ | apply Drawn0.step)⟩
 ·rw [if_neg c4] at H
  have c4b0 : decide (a1 ≤ a0) = false := decide_eq_false c4
  clear c4
  obtain rfl := Option.some.inj H
  go_enter Try.func102, Try.ntmps102
  go_wp2
  go_ret
  exact ⟨by first | rfl | (simp; done) | (simp [*]; done), by repeat (first | exact Drawn0.refl _ | apply Drawn0.step)⟩
end Go.Proofs.Ytfjmnaobfbmllaa.M
namespace Go.Proofs.Ytfjmnaobfbmllaa.M
open Go.RowKit Go.Proofs.YtfjmnaobfbmllaaW.PrintWords Go.Proofs.YtfjmnaobfbmllaaW.PrintLast Go.Proofs.YtfjmnaobfbmllaaW.PrintMore
attribute [local go_sem] max2_int min2_int max_two min_two max_three min_three max_four min_four   -- for this text's walks alone
set_option linter.unusedVariables false
set_option linter.unusedSimpArgs false
def entry_Known.f (a0_0 : Int) (a0_1 : Int) (a0_2 : Int) : Option (Bool) := (entry_within.f a0_0 1 8).bind fun t102 => (if t102 = true then ((entry_within.f a0_1 1 1073741824).bind fun t103 => (if t103 = true then ((entry_within.f a0_2 1 1073741824).bind fun t104 => (some t104)) else (some false))) else (some false))
set_option maxHeartbeats 8000000 in
set_option maxRecDepth 100000 in
theorem entry_Known.calls (a0_0 : Int) (a0_1 : Int) (a0_2 : Int) (r : Bool) (w : World) (h : entry_Known.f a0_0 a0_1 a0_2 = some r) :
  Calls Try.prog 59 #[.agg #[.int .i64 a0_0, .int .i64 a0_1, .int .i64 a0_2]] w fun e w' => e = .returned (.bool r) ∧ Below w.heap.size w w' := by
 have hu52 := Try.underlying52
 have HB := Aside0.mk (Below.refl w.heap.size w)
 have H : ((entry_within.f a0_0 1 8).bind fun t102 => (if t102 = true then ((entry_within.f a0_1 1 1073741824).bind fun t103 => (if t103 = true then ((entry_within.f a0_2 1 1073741824).bind fun t104 => (some t104)) else (some false))) else (some false))) = some r := h
 clear h
 replace H := Option.bind_eq_some_iff.mp H
 obtain ⟨t102, A20, H⟩ := H
 replace H : (if t102 = true then ((entry_within.f a0_1 1 1073741824).bind fun t103 => (if t103 = true then ((entry_within.f a0_2 1 1073741824).bind fun t104 => (some t104)) else (some false))) else (some false)) = some r := H
 have A2 := Aside0.mk A20
 clear A20
 by_cases c3 : t102 = true
 ·subst c3
  have H1 : ((entry_within.f a0_1 1 1073741824).bind fun t103 => (if t103 = true then ((entry_within.f a0_2 1 1073741824).bind fun t104 => (some t104)) else (some false))) = some r := by rw [if_pos rfl] at H; exact H
  clear H
  have H := H1
  clear H1
  replace H := Option.bind_eq_some_iff.mp H
  obtain ⟨t103, A40, H⟩ := H
  replace H : (if t103 = true then ((entry_within.f a0_2 1 1073741824).bind fun t104 => (some t104)) else (some false)) = some r := H
  have A4 := Aside0.mk A40
  clear A40
  by_cases c5 : t103 = true
  ·subst c5
   have H1 : ((entry_within.f a0_2 1 1073741824).bind fun t104 => (some t104)) = some r := by rw [if_pos rfl] at H; exact H
   clear H
   have H := H1
   clear H1
   replace H := Option.bind_eq_some_iff.mp H
   obtain ⟨t104, A60, H⟩ := H
   replace H : (some t104) = some r := H
   have A6 := Aside0.mk A60
   clear A60
   obtain rfl := Option.some.inj H
   go_enter Try.func59, Try.ntmps59
   go_wp2_with (first | ((with_reducible refine gate_dst (N := 1) rfl ?_); refine box_event ?hg (N := 1) ?hd (cs := #[.int .i64 a0_0, .int .i64 a0_1, .int .i64 a0_2]) (t := 52) ?hr ?_; (case hd => rfl); (case hg => rfl); (case hr => first | (go_simp; done) | (go_simp; rfl)); intro gb101 hg w7 hbox hb; have n0_ := Aside0.mk (below_step HB.out hb); have n1_ := Aside0.mk (hbox); have n2_ := Aside0.mk ((by rw [hg]; exact below_size HB.out : w.heap.size ≤ gb101)); have n3_ := Aside0.mk ((by rw [hg]; exact below_size HB.out : w.heap.size ≤ gb101)); clear HB; have HB := n0_; have BK101 := n1_; have GW101 := n2_; have GE101 := n3_; clear n0_ n1_ n2_ n3_; clear hb hbox hg; obtain ⟨hcz8_0, hcz8_1, hcz8_2⟩ := cl3 (W := w7) BK101.out; obtain ⟨hfz8_0, hfz8_1, hfz8_2⟩ := fr3 BK101.out) | ((with_reducible refine gate_callee (f := 102) rfl ?_); refine goesL_ (some 5) rfl rfl Try.func102 (by kernel_rfl) rfl #[.int .i64 a0_0, .int .i64 1, .int .i64 8] rfl (by (try simp only [List.map_toArray, List.map_cons, List.map_nil]); first | done | rfl | (simp only [List.length_drop, List.length_take]; rfl)) ?_; (with_reducible refine (entry_within.calls a0_0 1 8 true _ A2.out).mono ?_); rintro e w' ⟨rfl, ⟨nd, rfl⟩⟩; refine ⟨_, rfl, ?_⟩) | (go_at_call 102; (with_reducible refine (entry_within.calls a0_1 1 1073741824 true _ A4.out).mono ?_); rintro e w' ⟨rfl, ⟨nd, rfl⟩⟩) | (go_at_call 102; (with_reducible refine (entry_within.calls a0_2 1 1073741824 t104 _ A6.out).mono ?_); rintro e w' ⟨rfl, ⟨nd, rfl⟩⟩))
   go_ret
   exact ⟨by first | rfl | (simp [errW_none, errW_some] <;> rfl) | (simp [*, errW_none, errW_some] <;> rfl), by repeat (first | (with_reducible first | exact HB.out | apply below_alloc | apply pw_below_drewN | apply below_drew1 | refine below_set ?_ GE101.out) | exact HB.out)⟩
  ·replace c5 := Bool.eq_false_iff.mpr c5
   subst c5
   have H1 : (some false) = some r := by rw [if_neg (show ¬ (false = true) by decide)] at H; exact H
   clear H
   have H := H1
   clear H1
   obtain rfl := Option.some.inj H
   go_enter Try.func59, Try.ntmps59
   go_wp2_with (first | ((with_reducible refine gate_dst (N := 1) rfl ?_); refine box_event ?hg (N := 1) ?hd (cs := #[.int .i64 a0_0, .int .i64 a0_1, .int .i64 a0_2]) (t := 52) ?hr ?_; (case hd => rfl); (case hg => rfl); (case hr => first | (go_simp; done) | (go_simp; rfl)); intro gb101 hg w9 hbox hb; have n0_ := Aside0.mk (below_step HB.out hb); have n1_ := Aside0.mk (hbox); have n2_ := Aside0.mk ((by rw [hg]; exact below_size HB.out : w.heap.size ≤ gb101)); have n3_ := Aside0.mk ((by rw [hg]; exact below_size HB.out : w.heap.size ≤ gb101)); clear HB; have HB := n0_; have BK101 := n1_; have GW101 := n2_; have GE101 := n3_; clear n0_ n1_ n2_ n3_; clear hb hbox hg; obtain ⟨hcz10_0, hcz10_1, hcz10_2⟩ := cl3 (W := w9) BK101.out; obtain ⟨hfz10_0, hfz10_1, hfz10_2⟩ := fr3 BK101.out) | ((with_reducible refine gate_callee (f := 102) rfl ?_); refine goesL_ (some 5) rfl rfl Try.func102 (by kernel_rfl) rfl #[.int .i64 a0_0, .int .i64 1, .int .i64 8] rfl (by (try simp only [List.map_toArray, List.map_cons, List.map_nil]); first | done | rfl | (simp only [List.length_drop, List.length_take]; rfl)) ?_; (with_reducible refine (entry_within.calls a0_0 1 8 true _ A2.out).mono ?_); rintro e w' ⟨rfl, ⟨nd, rfl⟩⟩; refine ⟨_, rfl, ?_⟩) | (go_at_call 102; (with_reducible refine (entry_within.calls a0_1 1 1073741824 false _ A4.out).mono ?_); rintro e w' ⟨rfl, ⟨nd, rfl⟩⟩))
   go_ret
   exact ⟨by first | rfl | (simp [errW_none, errW_some] <;> rfl) | (simp [*, errW_none, errW_some] <;> rfl), by repeat (first | (with_reducible first | exact HB.out | apply below_alloc | apply pw_below_drewN | apply below_drew1 | refine below_set ?_ GE101.out) | exact HB.out)⟩
 ·replace c3 := Bool.eq_false_iff.mpr c3
  subst c3
  have H1 : (some false) = some r := by rw [if_neg (show ¬ (false = true) by decide)] at H; exact H
  clear H
  have H := H1
  clear H1
  obtain rfl := Option.some.inj H
  go_enter Try.func59, Try.ntmps59
  go_wp2_with (first | ((with_reducible refine gate_dst (N := 1) rfl ?_); refine box_event ?hg (N := 1) ?hd (cs := #[.int .i64 a0_0, .int .i64 a0_1, .int .i64 a0_2]) (t := 52) ?hr ?_; (case hd => rfl); (case hg => rfl); (case hr => first | (go_simp; done) | (go_simp; rfl)); intro gb101 hg w11 hbox hb; have n0_ := Aside0.mk (below_step HB.out hb); have n1_ := Aside0.mk (hbox); have n2_ := Aside0.mk ((by rw [hg]; exact below_size HB.out : w.heap.size ≤ gb101)); have n3_ := Aside0.mk ((by rw [hg]; exact below_size HB.out : w.heap.size ≤ gb101)); clear HB; have HB := n0_; have BK101 := n1_; have GW101 := n2_; have GE101 := n3_; clear n0_ n1_ n2_ n3_; clear hb hbox hg; obtain ⟨hcz12_0, hcz12_1, hcz12_2⟩ := cl3 (W := w11) BK101.out; obtain ⟨hfz12_0, hfz12_1, hfz12_2⟩ := fr3 BK101.out) | ((with_reducible refine gate_callee (f := 102) rfl ?_); refine goesL_ (some 5) rfl rfl Try.func102 (by kernel_rfl) rfl #[.int .i64 a0_0, .int .i64 1, .int .i64 8] rfl (by (try simp only [List.map_toArray, List.map_cons, List.map_nil]); first | done | rfl | (simp only [List.length_drop, List.length_take]; rfl)) ?_; (with_reducible refine (entry_within.calls a0_0 1 8 false _ A2.out).mono ?_); rintro e w' ⟨rfl, ⟨nd, rfl⟩⟩; refine ⟨_, rfl, ?_⟩))
  go_ret
  exact ⟨by first | rfl | (simp [errW_none, errW_some] <;> rfl) | (simp [*, errW_none, errW_some] <;> rfl), by repeat (first | (with_reducible first | exact HB.out | apply below_alloc | apply pw_below_drewN | apply below_drew1 | refine below_set ?_ GE101.out) | exact HB.out)⟩
end Go.Proofs.Ytfjmnaobfbmllaa.M
namespace Go.Proofs.Ytfjmnaobfbmllaa.M
open Go.RowKit Go.Proofs.YtfjmnaobfbmllaaW.PrintWords Go.Proofs.YtfjmnaobfbmllaaW.PrintLast Go.Proofs.YtfjmnaobfbmllaaW.PrintMore
set_option linter.unusedVariables false
set_option linter.unusedSimpArgs false
def KnownP (c e n : Int) : Prop := 1 ≤ c ∧ c ≤ 8 ∧ 1 ≤ e ∧ e ≤ 1073741824 ∧ 1 ≤ n ∧ n ≤ 1073741824
instance decKnown (c e n : Int) : Decidable (KnownP c e n) := by unfold KnownP; infer_instance
theorem within_eq (a lo hi : Int) : entry_within.f a lo hi = some (decide (lo ≤ a ∧ a ≤ hi)) := by
  unfold entry_within.f
  by_cases h : a ≥ lo
  · rw [if_pos h]; congr 1; rw [decide_eq_decide]; omega
  · rw [if_neg h]; congr 1; rw [eq_comm, decide_eq_false_iff_not]; omega
theorem known_eq (c e n : Int) : entry_Known.f c e n = some (decide (KnownP c e n)) := by
  unfold entry_Known.f
  rw [within_eq, within_eq, within_eq, Option.bind_some, Option.bind_some, Option.bind_some]
  by_cases h1 : 1 ≤ c ∧ c ≤ 8
  · rw [decide_eq_true h1, if_pos rfl]
    by_cases h2 : 1 ≤ e ∧ e ≤ 1073741824
    · rw [decide_eq_true h2, if_pos rfl]; congr 1; rw [decide_eq_decide]; unfold KnownP; omega
    · rw [decide_eq_false h2, if_neg Bool.false_ne_true]; congr 1; exact (decide_eq_false (by unfold KnownP; omega)).symm
  · rw [decide_eq_false h1, if_neg Bool.false_ne_true]; congr 1; exact (decide_eq_false (by unfold KnownP; omega)).symm
def entKnown.f (c e n : Int) : Option Bool := some (decide (KnownP c e n))
theorem entKnown.calls (c e n : Int) (r : Bool) (w : World) (h : entKnown.f c e n = some r) : Calls Try.prog 59 #[.agg #[.int .i64 c, .int .i64 e, .int .i64 n]] w fun e w' => e = .returned (.bool r) ∧ Below w.heap.size w w' :=
  entry_Known.calls c e n r w (by rw [known_eq]; exact h)
end Go.Proofs.Ytfjmnaobfbmllaa.M
namespace Go.Proofs.Ytfjmnaobfbmllaa.M
open Go.RowKit Go.Proofs.YtfjmnaobfbmllaaW.PrintWords Go.Proofs.YtfjmnaobfbmllaaW.PrintLast Go.Proofs.YtfjmnaobfbmllaaW.PrintMore
attribute [local go_sem] max2_int min2_int max_two min_two max_three min_three max_four min_four   -- for this text's walks alone
set_option linter.unusedVariables false
set_option linter.unusedSimpArgs false
def entry_isSlot.f (a0_0 : Bool) (a0_1 : ByteArray) : Option (Bool) := if (a0_1.size : Int) ≤ 200 then (if a0_0 = true then (some true) else (some (a0_1.toList == ([] : List UInt8)))) else (some false)
set_option maxHeartbeats 8000000 in
set_option maxRecDepth 100000 in
theorem entry_isSlot.calls (a0_0 : Bool) (a0_1 : ByteArray) (r : Bool) (w : World) (h : entry_isSlot.f a0_0 a0_1 = some r) :
  Calls Try.prog 103 #[.agg #[.bool a0_0, .string a0_1]] w fun e w' => e = .returned (.bool r) ∧ Below w.heap.size w w' := by
 have hu33 := Try.underlying33
 have HB := Aside0.mk (Below.refl w.heap.size w)
 have H : (if (a0_1.size : Int) ≤ 200 then (if a0_0 = true then (some true) else (some (a0_1.toList == ([] : List UInt8)))) else (some false)) = some r := h
 clear h
 by_cases c2 : (a0_1.size : Int) ≤ 200
 ·rw [if_pos c2] at H
  have c2b0 : decide ((a0_1.size : Int) ≤ 200) = true := decide_eq_true c2
  have c2b1 : decide (a0_1.size ≤ 200) = true := decide_eq_true (by omega)
  clear c2
  by_cases c3 : a0_0 = true
  ·subst c3
   have H1 : (some true) = some r := by rw [if_pos rfl] at H; exact H
   clear H
   have H := H1
   clear H1
   obtain rfl := Option.some.inj H
   go_enter Try.func103, Try.ntmps103
   go_wp2_with (first | ((with_reducible refine gate_dst (N := 1) rfl ?_); refine box_event ?hg (N := 1) ?hd (cs := #[.bool true, .string a0_1]) (t := 33) ?hr ?_; (case hd => rfl); (case hg => rfl); (case hr => first | (go_simp; done) | (go_simp; rfl)); intro gb101 hg w4 hbox hb; have n0_ := Aside0.mk (below_step HB.out hb); have n1_ := Aside0.mk (hbox); have n2_ := Aside0.mk ((by rw [hg]; exact below_size HB.out : w.heap.size ≤ gb101)); have n3_ := Aside0.mk ((by rw [hg]; exact below_size HB.out : w.heap.size ≤ gb101)); clear HB; have HB := n0_; have BK101 := n1_; have GW101 := n2_; have GE101 := n3_; clear n0_ n1_ n2_ n3_; clear hb hbox hg; obtain ⟨hcz5_0, hcz5_1⟩ := cl2 (W := w4) BK101.out; obtain ⟨hfz5_0, hfz5_1⟩ := fr2 BK101.out))
   go_ret
   exact ⟨by first | rfl | (simp [errW_none, errW_some] <;> rfl) | (simp [*, errW_none, errW_some] <;> rfl), by repeat (first | (with_reducible first | exact HB.out | apply below_alloc | apply pw_below_drewN | apply below_drew1 | refine below_set ?_ GE101.out) | exact HB.out)⟩
  ·replace c3 := Bool.eq_false_iff.mpr c3
   subst c3
   have H1 : (some (a0_1.toList == ([] : List UInt8))) = some r := by rw [if_neg (show ¬ (false = true) by decide)] at H; exact H
   clear H
   have H := H1
   clear H1
   obtain rfl := Option.some.inj H
   go_enter Try.func103, Try.ntmps103
   go_wp2_with (first | ((with_reducible refine gate_dst (N := 1) rfl ?_); refine box_event ?hg (N := 1) ?hd (cs := #[.bool false, .string a0_1]) (t := 33) ?hr ?_; (case hd => rfl); (case hg => rfl); (case hr => first | (go_simp; done) | (go_simp; rfl)); intro gb101 hg w6 hbox hb; have n0_ := Aside0.mk (below_step HB.out hb); have n1_ := Aside0.mk (hbox); have n2_ := Aside0.mk ((by rw [hg]; exact below_size HB.out : w.heap.size ≤ gb101)); have n3_ := Aside0.mk ((by rw [hg]; exact below_size HB.out : w.heap.size ≤ gb101)); clear HB; have HB := n0_; have BK101 := n1_; have GW101 := n2_; have GE101 := n3_; clear n0_ n1_ n2_ n3_; clear hb hbox hg; obtain ⟨hcz7_0, hcz7_1⟩ := cl2 (W := w6) BK101.out; obtain ⟨hfz7_0, hfz7_1⟩ := fr2 BK101.out))
   go_ret
   exact ⟨by first | rfl | (simp [errW_none, errW_some] <;> rfl) | (simp [*, errW_none, errW_some] <;> rfl), by repeat (first | (with_reducible first | exact HB.out | apply below_alloc | apply pw_below_drewN | apply below_drew1 | refine below_set ?_ GE101.out) | exact HB.out)⟩
 ·rw [if_neg c2] at H
  have c2b0 : decide ((a0_1.size : Int) ≤ 200) = false := decide_eq_false c2
  have c2b1 : decide (a0_1.size ≤ 200) = false := decide_eq_false (by omega)
  clear c2
  obtain rfl := Option.some.inj H
  go_enter Try.func103, Try.ntmps103
  go_wp2_with (first | ((with_reducible refine gate_dst (N := 1) rfl ?_); refine box_event ?hg (N := 1) ?hd (cs := #[.bool a0_0, .string a0_1]) (t := 33) ?hr ?_; (case hd => rfl); (case hg => rfl); (case hr => first | (go_simp; done) | (go_simp; rfl)); intro gb101 hg w8 hbox hb; have n0_ := Aside0.mk (below_step HB.out hb); have n1_ := Aside0.mk (hbox); have n2_ := Aside0.mk ((by rw [hg]; exact below_size HB.out : w.heap.size ≤ gb101)); have n3_ := Aside0.mk ((by rw [hg]; exact below_size HB.out : w.heap.size ≤ gb101)); clear HB; have HB := n0_; have BK101 := n1_; have GW101 := n2_; have GE101 := n3_; clear n0_ n1_ n2_ n3_; clear hb hbox hg; obtain ⟨hcz9_0, hcz9_1⟩ := cl2 (W := w8) BK101.out; obtain ⟨hfz9_0, hfz9_1⟩ := fr2 BK101.out))
  go_ret
  exact ⟨by first | rfl | (simp [errW_none, errW_some] <;> rfl) | (simp [*, errW_none, errW_some] <;> rfl), by repeat (first | (with_reducible first | exact HB.out | apply below_alloc | apply pw_below_drewN | apply below_drew1 | refine below_set ?_ GE101.out) | exact HB.out)⟩
end Go.Proofs.Ytfjmnaobfbmllaa.M
namespace Go.Proofs.Ytfjmnaobfbmllaa.M
open Go.RowKit Go.Proofs.YtfjmnaobfbmllaaW.PrintWords Go.Proofs.YtfjmnaobfbmllaaW.PrintLast Go.Proofs.YtfjmnaobfbmllaaW.PrintMore
attribute [local go_sem] max2_int min2_int max_two min_two max_three min_three max_four min_four   -- for this text's walks alone
set_option linter.unusedVariables false
set_option linter.unusedSimpArgs false
def entry_plain.f (a0_0 : Int) (a0_1 : Int) (a0_2 : Int) (a0_3 : Int) (a0_4 : Int) (a0_5 : Int) (a0_6 : Int) (a0_7 : Int) (a0_8 : Bool) (a0_9 : ByteArray) (a0_10 : Bool) (a0_11 : ByteArray) (a0_12 : Int) : Option (Int × Int × Int × Int × Int × Int × Int × Int × Bool × ByteArray × Bool × ByteArray × Int) := some (a0_0, a0_1, a0_2, a0_3, a0_4, a0_5, 0, 0, false, (⟨#[]⟩ : ByteArray), false, (⟨#[]⟩ : ByteArray), 0)
set_option maxHeartbeats 8000000 in
set_option maxRecDepth 100000 in
theorem entry_plain.calls (a0_0 : Int) (a0_1 : Int) (a0_2 : Int) (a0_3 : Int) (a0_4 : Int) (a0_5 : Int) (a0_6 : Int) (a0_7 : Int) (a0_8 : Bool) (a0_9 : ByteArray) (a0_10 : Bool) (a0_11 : ByteArray) (a0_12 : Int) (r1 : Int) (r2 : Int) (r3 : Int) (r4 : Int) (r5 : Int) (r6 : Int) (r7 : Int) (r8 : Int) (r9 : Bool) (r10 : ByteArray) (r11 : Bool) (r12 : ByteArray) (r13 : Int) (w : World) (h : entry_plain.f a0_0 a0_1 a0_2 a0_3 a0_4 a0_5 a0_6 a0_7 a0_8 a0_9 a0_10 a0_11 a0_12 = some (r1, r2, r3, r4, r5, r6, r7, r8, r9, r10, r11, r12, r13)) :
  Calls Try.prog 104 #[.agg #[.int .i64 a0_0, .int .i64 a0_1, .int .i64 a0_2, .int .i64 a0_3, .int .i64 a0_4, .int .i64 a0_5, .int .i64 a0_6, .int .i64 a0_7, .bool a0_8, .string a0_9, .bool a0_10, .string a0_11, .int .i64 a0_12]] w fun e w' => e = .returned (.agg #[.int .i64 r1, .int .i64 r2, .int .i64 r3, .int .i64 r4, .int .i64 r5, .int .i64 r6, .int .i64 r7, .int .i64 r8, .bool r9, .string r10, .bool r11, .string r12, .int .i64 r13]) ∧ Below w.heap.size w w' := by
 have hu65 := Try.underlying65
 have hu52 := Try.underlying52
 have HB := Aside0.mk (Below.refl w.heap.size w)
 have H : (some (a0_0, a0_1, a0_2, a0_3, a0_4, a0_5, 0, 0, false, (⟨#[]⟩ : ByteArray), false, (⟨#[]⟩ : ByteArray), 0)) = some (r1, r2, r3, r4, r5, r6, r7, r8, r9, r10, r11, r12, r13) := h
 clear h
 simp only [Option.some.injEq, Prod.mk.injEq] at H
 obtain ⟨rfl, rfl, rfl, rfl, rfl, rfl, rfl, rfl, rfl, rfl, rfl, rfl, rfl⟩ := H
 go_enter Try.func104, Try.ntmps104
 go_wp2_with (first | ((with_reducible refine gate_dst (N := 1) rfl ?_); refine box_event ?hg (N := 1) ?hd (cs := #[.int .i64 a0_0, .int .i64 a0_1, .int .i64 a0_2, .int .i64 a0_3, .int .i64 a0_4, .int .i64 a0_5, .int .i64 a0_6, .int .i64 a0_7, .bool a0_8, .string a0_9, .bool a0_10, .string a0_11, .int .i64 a0_12]) (t := 65) ?hr ?_; (case hd => rfl); (case hg => rfl); (case hr => first | (go_simp; done) | (go_simp; rfl)); intro gb101 hg w2 hbox hb; have n0_ := Aside0.mk (below_step HB.out hb); have n1_ := Aside0.mk (hbox); have n2_ := Aside0.mk ((by rw [hg]; exact below_size HB.out : w.heap.size ≤ gb101)); have n3_ := Aside0.mk ((by rw [hg]; exact below_size HB.out : w.heap.size ≤ gb101)); clear HB; have HB := n0_; have BK101 := n1_; have GW101 := n2_; have GE101 := n3_; clear n0_ n1_ n2_ n3_; clear hb hbox hg) | ((with_reducible refine gate_dst (N := 2) rfl ?_); refine box_event ?hg (N := 2) ?hd (cs := #[.int .i64 0, .int .i64 0, .int .i64 0, .int .i64 0, .int .i64 0, .int .i64 0, .int .i64 0, .int .i64 0, .bool false, .string (⟨#[]⟩ : ByteArray), .bool false, .string (⟨#[]⟩ : ByteArray), .int .i64 0]) (t := 65) ?hr ?_; (case hd => rfl); (case hg => rfl); (case hr => first | (go_simp; done) | (go_simp; rfl)); intro gb102 hg w3 hbox hb; have n0_ := Aside0.mk (blk_below BK101.out hb); have n1_ := Aside0.mk (below_step HB.out hb); have n2_ := Aside0.mk (hbox); have n3_ := Aside0.mk ((by rw [hg]; exact below_size HB.out : w.heap.size ≤ gb102)); have n4_ := Aside0.mk ((by rw [hg]; exact below_size HB.out : w.heap.size ≤ gb102)); have n5_ := Aside0.mk ((by rw [hg]; exact Nat.ne_of_lt (blk_lt BK101.out) : gb101 ≠ gb102)); have n6_ := Aside0.mk ((by rw [hg]; exact Nat.ne_of_gt (blk_lt BK101.out) : gb102 ≠ gb101)); clear BK101; clear HB; have BK101 := n0_; have HB := n1_; have BK102 := n2_; have GW102 := n3_; have GE102 := n4_; have NB101_102 := n5_; have NB102_101 := n6_; clear n0_ n1_ n2_ n3_ n4_ n5_ n6_; clear hb hbox hg; have hnb4 := NB101_102.out; have hnc4 := NB102_101.out; obtain ⟨hcz5_0, hcz5_1, hcz5_2, hcz5_3, hcz5_4, hcz5_5, hcz5_6, hcz5_7, hcz5_8, hcz5_9, hcz5_10, hcz5_11, hcz5_12⟩ := cl13 (W := w3) BK101.out; obtain ⟨hfz5_0, hfz5_1, hfz5_2, hfz5_3, hfz5_4, hfz5_5, hfz5_6, hfz5_7, hfz5_8, hfz5_9, hfz5_10, hfz5_11, hfz5_12⟩ := fr13 BK101.out; obtain ⟨hcz6_0, hcz6_1, hcz6_2, hcz6_3, hcz6_4, hcz6_5, hcz6_6, hcz6_7, hcz6_8, hcz6_9, hcz6_10, hcz6_11, hcz6_12⟩ := cl13 (W := w3) BK102.out; obtain ⟨hfz6_0, hfz6_1, hfz6_2, hfz6_3, hfz6_4, hfz6_5, hfz6_6, hfz6_7, hfz6_8, hfz6_9, hfz6_10, hfz6_11, hfz6_12⟩ := fr13 BK102.out))
 refine bodyPost_ret (results_cell_row rfl _ _ gb102 65 #[.int .i64 a0_0, .int .i64 a0_1, .int .i64 a0_2, .int .i64 a0_3, .int .i64 a0_4, .int .i64 a0_5, .int .i64 0, .int .i64 0, .bool false, .string (⟨#[]⟩ : ByteArray), .bool false, .string (⟨#[]⟩ : ByteArray), .int .i64 0] (0, 0) _ rfl (by (with_reducible repeat (first | refine blk_drewN ?_ _ | refine blk_drew ?_ | refine blk_alloc ?_ _)); refine blk_put (cs := #[.int .i64 a0_0, .int .i64 a0_1, .int .i64 a0_2, .int .i64 a0_3, .int .i64 a0_4, .int .i64 a0_5, .int .i64 0, .int .i64 0, .bool false, .string (⟨#[]⟩ : ByteArray), .bool false, .string (⟨#[]⟩ : ByteArray), .int .i64 0]) ?_ 12 _ rfl; refine blk_put (cs := #[.int .i64 a0_0, .int .i64 a0_1, .int .i64 a0_2, .int .i64 a0_3, .int .i64 a0_4, .int .i64 a0_5, .int .i64 0, .int .i64 0, .bool false, .string (⟨#[]⟩ : ByteArray), .bool false, .string (⟨#[]⟩ : ByteArray), .int .i64 0]) ?_ 11 _ rfl; refine blk_put (cs := #[.int .i64 a0_0, .int .i64 a0_1, .int .i64 a0_2, .int .i64 a0_3, .int .i64 a0_4, .int .i64 a0_5, .int .i64 0, .int .i64 0, .bool false, .string (⟨#[]⟩ : ByteArray), .bool false, .string (⟨#[]⟩ : ByteArray), .int .i64 0]) ?_ 10 _ rfl; refine blk_put (cs := #[.int .i64 a0_0, .int .i64 a0_1, .int .i64 a0_2, .int .i64 a0_3, .int .i64 a0_4, .int .i64 a0_5, .int .i64 0, .int .i64 0, .bool false, .string (⟨#[]⟩ : ByteArray), .bool false, .string (⟨#[]⟩ : ByteArray), .int .i64 0]) ?_ 9 _ rfl; refine blk_put (cs := #[.int .i64 a0_0, .int .i64 a0_1, .int .i64 a0_2, .int .i64 a0_3, .int .i64 a0_4, .int .i64 a0_5, .int .i64 0, .int .i64 0, .bool false, .string (⟨#[]⟩ : ByteArray), .bool false, .string (⟨#[]⟩ : ByteArray), .int .i64 0]) ?_ 8 _ rfl; refine blk_put (cs := #[.int .i64 a0_0, .int .i64 a0_1, .int .i64 a0_2, .int .i64 a0_3, .int .i64 a0_4, .int .i64 a0_5, .int .i64 0, .int .i64 0, .bool false, .string (⟨#[]⟩ : ByteArray), .bool false, .string (⟨#[]⟩ : ByteArray), .int .i64 0]) ?_ 7 _ rfl; refine blk_put (cs := #[.int .i64 a0_0, .int .i64 a0_1, .int .i64 a0_2, .int .i64 a0_3, .int .i64 a0_4, .int .i64 a0_5, .int .i64 0, .int .i64 0, .bool false, .string (⟨#[]⟩ : ByteArray), .bool false, .string (⟨#[]⟩ : ByteArray), .int .i64 0]) ?_ 6 _ rfl; refine blk_put (cs := #[.int .i64 a0_0, .int .i64 a0_1, .int .i64 a0_2, .int .i64 a0_3, .int .i64 a0_4, .int .i64 0, .int .i64 0, .int .i64 0, .bool false, .string (⟨#[]⟩ : ByteArray), .bool false, .string (⟨#[]⟩ : ByteArray), .int .i64 0]) ?_ 5 _ rfl; refine blk_put (cs := #[.int .i64 a0_0, .int .i64 a0_1, .int .i64 a0_2, .int .i64 a0_3, .int .i64 0, .int .i64 0, .int .i64 0, .int .i64 0, .bool false, .string (⟨#[]⟩ : ByteArray), .bool false, .string (⟨#[]⟩ : ByteArray), .int .i64 0]) ?_ 4 _ rfl; refine blk_put (cs := #[.int .i64 a0_0, .int .i64 a0_1, .int .i64 a0_2, .int .i64 0, .int .i64 0, .int .i64 0, .int .i64 0, .int .i64 0, .bool false, .string (⟨#[]⟩ : ByteArray), .bool false, .string (⟨#[]⟩ : ByteArray), .int .i64 0]) ?_ 3 _ rfl; refine blk_put (cs := #[.int .i64 a0_0, .int .i64 a0_1, .int .i64 0, .int .i64 0, .int .i64 0, .int .i64 0, .int .i64 0, .int .i64 0, .bool false, .string (⟨#[]⟩ : ByteArray), .bool false, .string (⟨#[]⟩ : ByteArray), .int .i64 0]) ?_ 2 _ rfl; refine blk_put (cs := #[.int .i64 a0_0, .int .i64 0, .int .i64 0, .int .i64 0, .int .i64 0, .int .i64 0, .int .i64 0, .int .i64 0, .bool false, .string (⟨#[]⟩ : ByteArray), .bool false, .string (⟨#[]⟩ : ByteArray), .int .i64 0]) ?_ 1 _ rfl; refine blk_put (cs := #[.int .i64 0, .int .i64 0, .int .i64 0, .int .i64 0, .int .i64 0, .int .i64 0, .int .i64 0, .int .i64 0, .bool false, .string (⟨#[]⟩ : ByteArray), .bool false, .string (⟨#[]⟩ : ByteArray), .int .i64 0]) ?_ 0 _ rfl; (with_reducible repeat (first | refine blk_drewN ?_ _ | refine blk_drew ?_ | refine blk_alloc ?_ _)); exact BK102.out) Try.underlying65 rfl (by kernel_rfl)) rfl ?_
 exact ⟨by first | rfl | (simp [errW_none, errW_some] <;> rfl) | (simp [*, errW_none, errW_some] <;> rfl), by repeat (first | (with_reducible first | exact HB.out | apply below_alloc | apply pw_below_drewN | apply below_drew1 | refine below_set ?_ GE101.out | refine below_set ?_ GE102.out) | exact HB.out)⟩
end Go.Proofs.Ytfjmnaobfbmllaa.M
namespace Go.Proofs.Ytfjmnaobfbmllaa.M
open Go.RowKit Go.Proofs.YtfjmnaobfbmllaaW.PrintWords Go.Proofs.YtfjmnaobfbmllaaW.PrintLast Go.Proofs.YtfjmnaobfbmllaaW.PrintMore
attribute [local go_sem] max2_int min2_int max_two min_two max_three min_three max_four min_four   -- for this text's walks alone
set_option linter.unusedVariables false
set_option linter.unusedSimpArgs false
attribute [local go_sem high] eqA65
mutual
def entry_Good.j0 : Nat → Bool → Int → Int → Int → Int → Int → Int → Int → Int → Bool → ByteArray → Bool → ByteArray → Int → Option (Bool)
 | 0, _, _, _, _, _, _, _, _, _, _, _, _, _, _ => none
 | k + 1, x22, x102000, x102001, x102002, x102003, x102004, x102005, x102006, x102007, x102008, x102009, x102010, x102011, x102012 => if x22 = true then (some false) else ((entry_within.f x102006 0 1023).bind fun t105 => (if t105 = true then ((entry_within.f x102007 0 31).bind fun t106 => (if t106 = true then ((entry_isSlot.f x102008 x102009).bind fun t107 => (if t107 = true then ((entry_isSlot.f x102010 x102011).bind fun t108 => (entry_Good.j1 k t108 x102000 x102001 x102002 x102003 x102004 x102005 x102006 x102007 x102008 x102009 x102010 x102011 x102012)) else (entry_Good.j1 k false x102000 x102001 x102002 x102003 x102004 x102005 x102006 x102007 x102008 x102009 x102010 x102011 x102012))) else (entry_Good.j1 k false x102000 x102001 x102002 x102003 x102004 x102005 x102006 x102007 x102008 x102009 x102010 x102011 x102012))) else (entry_Good.j1 k false x102000 x102001 x102002 x102003 x102004 x102005 x102006 x102007 x102008 x102009 x102010 x102011 x102012)))
def entry_Good.j1 : Nat → Bool → Int → Int → Int → Int → Int → Int → Int → Int → Bool → ByteArray → Bool → ByteArray → Int → Option (Bool)
 | 0, _, _, _, _, _, _, _, _, _, _, _, _, _, _ => none
 | k + 1, x3, x102000, x102001, x102002, x102003, x102004, x102005, x102006, x102007, x102008, x102009, x102010, x102011, x102012 => if x102000 = 1 then (if x3 = true then (some (x102012 == 0)) else (some false)) else (if x102000 = 2 then (if x3 = true then ((entry_within.f x102012 0 x102005).bind fun t109 => (some t109)) else (some false)) else (if x102000 = 3 then ((entry_plain.f x102000 x102001 x102002 x102003 x102004 x102005 x102006 x102007 x102008 x102009 x102010 x102011 x102012).bind fun bt110 => (some (x102000 == bt110.1 && ((x102001 == bt110.2.1 && (x102002 == bt110.2.2.1 && (x102003 == bt110.2.2.2.1))) && (x102004 == bt110.2.2.2.2.1 && (x102005 == bt110.2.2.2.2.2.1 && (x102006 == bt110.2.2.2.2.2.2.1 && (x102007 == bt110.2.2.2.2.2.2.2.1 && ((x102008 == bt110.2.2.2.2.2.2.2.2.1 && (x102009.toList == bt110.2.2.2.2.2.2.2.2.2.1.toList)) && ((x102010 == bt110.2.2.2.2.2.2.2.2.2.2.1 && (x102011.toList == bt110.2.2.2.2.2.2.2.2.2.2.2.1.toList)) && (x102012 == bt110.2.2.2.2.2.2.2.2.2.2.2.2))))))))))) else (if x102000 = 4 then ((entry_plain.f x102000 x102001 x102002 x102003 x102004 x102005 x102006 x102007 x102008 x102009 x102010 x102011 x102012).bind fun bt123 => (some (x102000 == bt123.1 && ((x102001 == bt123.2.1 && (x102002 == bt123.2.2.1 && (x102003 == bt123.2.2.2.1))) && (x102004 == bt123.2.2.2.2.1 && (x102005 == bt123.2.2.2.2.2.1 && (x102006 == bt123.2.2.2.2.2.2.1 && (x102007 == bt123.2.2.2.2.2.2.2.1 && ((x102008 == bt123.2.2.2.2.2.2.2.2.1 && (x102009.toList == bt123.2.2.2.2.2.2.2.2.2.1.toList)) && ((x102010 == bt123.2.2.2.2.2.2.2.2.2.2.1 && (x102011.toList == bt123.2.2.2.2.2.2.2.2.2.2.2.1.toList)) && (x102012 == bt123.2.2.2.2.2.2.2.2.2.2.2.2))))))))))) else (some false))))
end
def entry_Good.f (k : Nat) (a0_0 : Int) (a0_1 : Int) (a0_2 : Int) (a0_3 : Int) (a0_4 : Int) (a0_5 : Int) (a0_6 : Int) (a0_7 : Int) (a0_8 : Bool) (a0_9 : ByteArray) (a0_10 : Bool) (a0_11 : ByteArray) (a0_12 : Int) : Option (Bool) := (entKnown.f a0_1 a0_2 a0_3).bind fun t102 => (if t102 = true then ((entry_within.f a0_4 1 1099511627776).bind fun t103 => (if t103 = true then ((entry_within.f a0_5 0 (wrap64 (a0_4 - 1))).bind fun t104 => (entry_Good.j0 k (!t104) a0_0 a0_1 a0_2 a0_3 a0_4 a0_5 a0_6 a0_7 a0_8 a0_9 a0_10 a0_11 a0_12)) else (entry_Good.j0 k true a0_0 a0_1 a0_2 a0_3 a0_4 a0_5 a0_6 a0_7 a0_8 a0_9 a0_10 a0_11 a0_12))) else (entry_Good.j0 k true a0_0 a0_1 a0_2 a0_3 a0_4 a0_5 a0_6 a0_7 a0_8 a0_9 a0_10 a0_11 a0_12))
end Go.Proofs.Ytfjmnaobfbmllaa.M
