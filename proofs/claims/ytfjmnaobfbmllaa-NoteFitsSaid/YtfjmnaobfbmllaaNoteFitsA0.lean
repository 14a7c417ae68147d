/- The law NoteFits: it returns true for every input, and its arguments read as they did. No condition. Part 1 of 4. -/
import Derived.Test.YtfjmnaobfbmllaaProg
import Derived.Test.YtfjmnaobfbmllaaRows
import Derived.Test.YtfjmnaobfbmllaaUApart
import Derived.Test.YtfjmnaobfbmllaaUEqStruct
import Derived.Test.YtfjmnaobfbmllaaUFoot
import Derived.Test.YtfjmnaobfbmllaaUGuard
import Derived.Test.YtfjmnaobfbmllaaUInv
import Derived.Test.YtfjmnaobfbmllaaUKept
import Derived.Test.YtfjmnaobfbmllaaULast
import Derived.Test.YtfjmnaobfbmllaaUMore
import Derived.Test.YtfjmnaobfbmllaaUN
import Derived.Test.YtfjmnaobfbmllaaURepsOne
import Derived.Test.YtfjmnaobfbmllaaUShare
import Derived.Test.YtfjmnaobfbmllaaUTab
import Derived.Test.YtfjmnaobfbmllaaUWords
import Derived.ArgAppend
import Derived.Below
import Derived.BigQuiet
import Derived.Carry
import Derived.ChangeArms
import Derived.ChangeMaps
import Derived.ChangeOld
import Derived.Deep.AppendLies
import Derived.Deep.CutBlock
import Derived.Deep.DeepCutAuto
import Derived.Deep.Draws
import Derived.Deep.LoopGhost
import Derived.Deep.OwnRows
import Derived.Deep.QuietTactic
import Derived.Deep.RegionHeld3
import Derived.Deep.Slices
import Derived.KernelRfl
import Derived.Laws.Bits64
import Derived.Laws.Bits64b
import Derived.Laws.BitsAllLaws
import Derived.Laws.BitsLemmas
import Derived.Laws.BytesArg
import Derived.Laws.CopyOwn
import Derived.Laws.IdiomCopy
import Derived.Laws.MakeOwn
import Derived.Laws.OwnMore
import Derived.Laws.Rows
import Derived.Laws.Slices
import Derived.Lib.AppendStr
import Derived.Lib.ConvBytes
import Derived.Maps.AppendAt
import Derived.OpenShut
import Derived.OrdersHeld
import Derived.OwnWalk
import Derived.ProofKit
import Derived.RowKit
import Derived.RowKit3
import Derived.ShutString
import Derived.SizedLaws
import Derived.Tactics
import Derived.WalkKit
import Derived.WideLaws
namespace Go.Proofs.Ytfjmnaobfbmllaa.M
open Go.RowKit Go.Proofs.YtfjmnaobfbmllaaW.PrintWords Go.Proofs.YtfjmnaobfbmllaaW.PrintLast Go.Proofs.YtfjmnaobfbmllaaW.PrintMore
attribute [local go_sem] max2_int min2_int max_two min_two max_three min_three max_four min_four   -- for this text's walks alone
set_option linter.unusedVariables false
set_option linter.unusedSimpArgs false
def errW : Option Int → Value
  | none => .nilIface
  | some c => .iface 0 (.int .i64 c)
theorem errW_none : errW none = .nilIface := rfl
theorem errW_some (c : Int) : errW (some c) = .iface 0 (.int .i64 c) := rfl
theorem info5 : (Try.prog.info? 5).map (fun i => (i.zero, i.size, i.bytes)) = some (some (.int .u8 0), 1, 1) := by kernel_rfl
theorem info33 : (Try.prog.info? 33).map (fun i => (i.zero, i.size, i.bytes)) = some (some (.agg #[(.bool false), (.string ⟨#[]⟩)]), 2, 24) := by kernel_rfl
theorem info65 : (Try.prog.info? 65).map (fun i => (i.zero, i.size, i.bytes)) = some (some (.agg #[(.int .i64 0), (.int .i64 0), (.int .i64 0), (.int .i64 0), (.int .i64 0), (.int .i64 0), (.int .i64 0), (.int .i64 0), (.bool false), (.string ⟨#[]⟩), (.bool false), (.string ⟨#[]⟩), (.int .i64 0)]), 13, 120) := by kernel_rfl
structure S33 where
  f0 : Bool
  f1 : ByteArray
def z33 : S33 := ⟨false, (⟨#[]⟩ : ByteArray)⟩
def k33 : Kd S33 := Kd.iso (Kd.pair Kd.bool Kd.string) (fun x : S33 => (x.f0, x.f1))
theorem k33_open {w : World} {x : S33} {cs : List Value} (h : k33.K w x cs) : cs = [.bool x.f0, .string x.f1] := by
  obtain ⟨_, _, rfl, rfl, rfl⟩ := h
  exact rfl
theorem k33_mk (w : World) (x : S33)  : k33.K w x [.bool x.f0, .string x.f1] := ⟨[.bool x.f0], [.string x.f1], rfl, rfl, rfl⟩
theorem k33_mkM (w : World) (base : Nat) (ok : Nat → Prop) (x : S33)  : k33.M w base ok x [.bool x.f0, .string x.f1] := ⟨[.bool x.f0], [.string x.f1], rfl, rfl, rfl⟩
def rd_T33 (xs : List S33) (i : Int) : S33 := xs.getD i.toNat z33
theorem at_T33 {w : World} {A : Option Addr} {n : Nat} {xs : List S33} (h : Kd.C k33 w A n xs) (i : Int) (h0 : 0 ≤ i) (h1 : i < n) : ∃ ad , A = some ad ∧ w.cell? (ad.add (i.toNat * 2)) = some (.bool (rd_T33 xs i).f0) ∧ w.cell? ⟨(ad.add (i.toNat * 2)).block, (ad.add (i.toNat * 2)).off + 1, none⟩ = some (.string (rd_T33 xs i).f1) := by
  obtain ⟨ad, c, e, _, hK, hc0⟩ := Kd.C_get h z33 i h0 h1
  have hc : ∀ j u, c[j]? = some u → w.cell? (ad.add (i.toNat * 2 + j)) = some u := hc0
  obtain rfl := k33_open hK
  exact ⟨ad, e, hc 0 _ rfl, by rw [← add_field _ _ 1 (by omega)]; exact hc 1 _ rfl⟩
structure S24 where
  f0 : Int
  f1 : (List S33)
structure S52 where
  f0 : Int
  f1 : Int
  f2 : Int
def z52 : S52 := ⟨(0 : Int), (0 : Int), (0 : Int)⟩
def k52 : Kd S52 := Kd.iso (Kd.pair (Kd.int .i64) (Kd.pair (Kd.int .i64) (Kd.int .i64))) (fun x : S52 => (x.f0, x.f1, x.f2))
theorem k52_open {w : World} {x : S52} {cs : List Value} (h : k52.K w x cs) : cs = [.int .i64 x.f0, .int .i64 x.f1, .int .i64 x.f2] := by
  obtain ⟨_, _, rfl, rfl, ⟨_, _, rfl, rfl, rfl⟩⟩ := h
  exact rfl
theorem k52_mk (w : World) (x : S52)  : k52.K w x [.int .i64 x.f0, .int .i64 x.f1, .int .i64 x.f2] := ⟨[.int .i64 x.f0], [.int .i64 x.f1, .int .i64 x.f2], rfl, rfl, ⟨[.int .i64 x.f1], [.int .i64 x.f2], rfl, rfl, rfl⟩⟩
theorem k52_mkM (w : World) (base : Nat) (ok : Nat → Prop) (x : S52)  : k52.M w base ok x [.int .i64 x.f0, .int .i64 x.f1, .int .i64 x.f2] := ⟨[.int .i64 x.f0], [.int .i64 x.f1, .int .i64 x.f2], rfl, rfl, ⟨[.int .i64 x.f1], [.int .i64 x.f2], rfl, rfl, rfl⟩⟩
structure S65 where
  f0 : Int
  f1 : S52
  f2 : Int
  f3 : Int
  f4 : Int
  f5 : Int
  f6 : S33
  f7 : S33
  f8 : Int
def z65 : S65 := ⟨(0 : Int), z52, (0 : Int), (0 : Int), (0 : Int), (0 : Int), z33, z33, (0 : Int)⟩
def k65 : Kd S65 := Kd.iso (Kd.pair (Kd.int .i64) (Kd.pair k52 (Kd.pair (Kd.int .i64) (Kd.pair (Kd.int .i64) (Kd.pair (Kd.int .i64) (Kd.pair (Kd.int .i64) (Kd.pair k33 (Kd.pair k33 (Kd.int .i64))))))))) (fun x : S65 => (x.f0, x.f1, x.f2, x.f3, x.f4, x.f5, x.f6, x.f7, x.f8))
theorem k65_open {w : World} {x : S65} {cs : List Value} (h : k65.K w x cs) : cs = [.int .i64 x.f0, .int .i64 x.f1.f0, .int .i64 x.f1.f1, .int .i64 x.f1.f2, .int .i64 x.f2, .int .i64 x.f3, .int .i64 x.f4, .int .i64 x.f5, .bool x.f6.f0, .string x.f6.f1, .bool x.f7.f0, .string x.f7.f1, .int .i64 x.f8] := by
  obtain ⟨_, _, rfl, rfl, ⟨_, _, rfl, s1, ⟨_, _, rfl, rfl, ⟨_, _, rfl, rfl, ⟨_, _, rfl, rfl, ⟨_, _, rfl, rfl, ⟨_, _, rfl, s8, ⟨_, _, rfl, s10, rfl⟩⟩⟩⟩⟩⟩⟩⟩ := h
  obtain rfl := k52_open s1
  obtain rfl := k33_open s8
  obtain rfl := k33_open s10
  exact rfl
theorem k65_mk (w : World) (x : S65)  : k65.K w x [.int .i64 x.f0, .int .i64 x.f1.f0, .int .i64 x.f1.f1, .int .i64 x.f1.f2, .int .i64 x.f2, .int .i64 x.f3, .int .i64 x.f4, .int .i64 x.f5, .bool x.f6.f0, .string x.f6.f1, .bool x.f7.f0, .string x.f7.f1, .int .i64 x.f8] := ⟨[.int .i64 x.f0], [.int .i64 x.f1.f0, .int .i64 x.f1.f1, .int .i64 x.f1.f2, .int .i64 x.f2, .int .i64 x.f3, .int .i64 x.f4, .int .i64 x.f5, .bool x.f6.f0, .string x.f6.f1, .bool x.f7.f0, .string x.f7.f1, .int .i64 x.f8], rfl, rfl, ⟨[.int .i64 x.f1.f0, .int .i64 x.f1.f1, .int .i64 x.f1.f2], [.int .i64 x.f2, .int .i64 x.f3, .int .i64 x.f4, .int .i64 x.f5, .bool x.f6.f0, .string x.f6.f1, .bool x.f7.f0, .string x.f7.f1, .int .i64 x.f8], rfl, (k52_mk w x.f1 ), ⟨[.int .i64 x.f2], [.int .i64 x.f3, .int .i64 x.f4, .int .i64 x.f5, .bool x.f6.f0, .string x.f6.f1, .bool x.f7.f0, .string x.f7.f1, .int .i64 x.f8], rfl, rfl, ⟨[.int .i64 x.f3], [.int .i64 x.f4, .int .i64 x.f5, .bool x.f6.f0, .string x.f6.f1, .bool x.f7.f0, .string x.f7.f1, .int .i64 x.f8], rfl, rfl, ⟨[.int .i64 x.f4], [.int .i64 x.f5, .bool x.f6.f0, .string x.f6.f1, .bool x.f7.f0, .string x.f7.f1, .int .i64 x.f8], rfl, rfl, ⟨[.int .i64 x.f5], [.bool x.f6.f0, .string x.f6.f1, .bool x.f7.f0, .string x.f7.f1, .int .i64 x.f8], rfl, rfl, ⟨[.bool x.f6.f0, .string x.f6.f1], [.bool x.f7.f0, .string x.f7.f1, .int .i64 x.f8], rfl, (k33_mk w x.f6 ), ⟨[.bool x.f7.f0, .string x.f7.f1], [.int .i64 x.f8], rfl, (k33_mk w x.f7 ), rfl⟩⟩⟩⟩⟩⟩⟩⟩
theorem k65_mkM (w : World) (base : Nat) (ok : Nat → Prop) (x : S65)  : k65.M w base ok x [.int .i64 x.f0, .int .i64 x.f1.f0, .int .i64 x.f1.f1, .int .i64 x.f1.f2, .int .i64 x.f2, .int .i64 x.f3, .int .i64 x.f4, .int .i64 x.f5, .bool x.f6.f0, .string x.f6.f1, .bool x.f7.f0, .string x.f7.f1, .int .i64 x.f8] := ⟨[.int .i64 x.f0], [.int .i64 x.f1.f0, .int .i64 x.f1.f1, .int .i64 x.f1.f2, .int .i64 x.f2, .int .i64 x.f3, .int .i64 x.f4, .int .i64 x.f5, .bool x.f6.f0, .string x.f6.f1, .bool x.f7.f0, .string x.f7.f1, .int .i64 x.f8], rfl, rfl, ⟨[.int .i64 x.f1.f0, .int .i64 x.f1.f1, .int .i64 x.f1.f2], [.int .i64 x.f2, .int .i64 x.f3, .int .i64 x.f4, .int .i64 x.f5, .bool x.f6.f0, .string x.f6.f1, .bool x.f7.f0, .string x.f7.f1, .int .i64 x.f8], rfl, (k52_mkM w base ok x.f1 ), ⟨[.int .i64 x.f2], [.int .i64 x.f3, .int .i64 x.f4, .int .i64 x.f5, .bool x.f6.f0, .string x.f6.f1, .bool x.f7.f0, .string x.f7.f1, .int .i64 x.f8], rfl, rfl, ⟨[.int .i64 x.f3], [.int .i64 x.f4, .int .i64 x.f5, .bool x.f6.f0, .string x.f6.f1, .bool x.f7.f0, .string x.f7.f1, .int .i64 x.f8], rfl, rfl, ⟨[.int .i64 x.f4], [.int .i64 x.f5, .bool x.f6.f0, .string x.f6.f1, .bool x.f7.f0, .string x.f7.f1, .int .i64 x.f8], rfl, rfl, ⟨[.int .i64 x.f5], [.bool x.f6.f0, .string x.f6.f1, .bool x.f7.f0, .string x.f7.f1, .int .i64 x.f8], rfl, rfl, ⟨[.bool x.f6.f0, .string x.f6.f1], [.bool x.f7.f0, .string x.f7.f1, .int .i64 x.f8], rfl, (k33_mkM w base ok x.f6 ), ⟨[.bool x.f7.f0, .string x.f7.f1], [.int .i64 x.f8], rfl, (k33_mkM w base ok x.f7 ), rfl⟩⟩⟩⟩⟩⟩⟩⟩
def rd_T65 (xs : List S65) (i : Int) : S65 := xs.getD i.toNat z65
theorem at_T65 {w : World} {A : Option Addr} {n : Nat} {xs : List S65} (h : Kd.C k65 w A n xs) (i : Int) (h0 : 0 ≤ i) (h1 : i < n) : ∃ ad , A = some ad ∧ w.cell? (ad.add (i.toNat * 13)) = some (.int .i64 (rd_T65 xs i).f0) ∧ w.cell? ⟨(ad.add (i.toNat * 13)).block, (ad.add (i.toNat * 13)).off + 1, none⟩ = some (.int .i64 (rd_T65 xs i).f1.f0) ∧ w.cell? ⟨(ad.add (i.toNat * 13)).block, (ad.add (i.toNat * 13)).off + 2, none⟩ = some (.int .i64 (rd_T65 xs i).f1.f1) ∧ w.cell? ⟨(ad.add (i.toNat * 13)).block, (ad.add (i.toNat * 13)).off + 3, none⟩ = some (.int .i64 (rd_T65 xs i).f1.f2) ∧ w.cell? ⟨(ad.add (i.toNat * 13)).block, (ad.add (i.toNat * 13)).off + 4, none⟩ = some (.int .i64 (rd_T65 xs i).f2) ∧ w.cell? ⟨(ad.add (i.toNat * 13)).block, (ad.add (i.toNat * 13)).off + 5, none⟩ = some (.int .i64 (rd_T65 xs i).f3) ∧ w.cell? ⟨(ad.add (i.toNat * 13)).block, (ad.add (i.toNat * 13)).off + 6, none⟩ = some (.int .i64 (rd_T65 xs i).f4) ∧ w.cell? ⟨(ad.add (i.toNat * 13)).block, (ad.add (i.toNat * 13)).off + 7, none⟩ = some (.int .i64 (rd_T65 xs i).f5) ∧ w.cell? ⟨(ad.add (i.toNat * 13)).block, (ad.add (i.toNat * 13)).off + 8, none⟩ = some (.bool (rd_T65 xs i).f6.f0) ∧ w.cell? ⟨(ad.add (i.toNat * 13)).block, (ad.add (i.toNat * 13)).off + 9, none⟩ = some (.string (rd_T65 xs i).f6.f1) ∧ w.cell? ⟨(ad.add (i.toNat * 13)).block, (ad.add (i.toNat * 13)).off + 10, none⟩ = some (.bool (rd_T65 xs i).f7.f0) ∧ w.cell? ⟨(ad.add (i.toNat * 13)).block, (ad.add (i.toNat * 13)).off + 11, none⟩ = some (.string (rd_T65 xs i).f7.f1) ∧ w.cell? ⟨(ad.add (i.toNat * 13)).block, (ad.add (i.toNat * 13)).off + 12, none⟩ = some (.int .i64 (rd_T65 xs i).f8) := by
  obtain ⟨ad, c, e, _, hK, hc0⟩ := Kd.C_get h z65 i h0 h1
  have hc : ∀ j u, c[j]? = some u → w.cell? (ad.add (i.toNat * 13 + j)) = some u := hc0
  obtain rfl := k65_open hK
  exact ⟨ad, e, hc 0 _ rfl, by rw [← add_field _ _ 1 (by omega)]; exact hc 1 _ rfl, by rw [← add_field _ _ 2 (by omega)]; exact hc 2 _ rfl, by rw [← add_field _ _ 3 (by omega)]; exact hc 3 _ rfl, by rw [← add_field _ _ 4 (by omega)]; exact hc 4 _ rfl, by rw [← add_field _ _ 5 (by omega)]; exact hc 5 _ rfl, by rw [← add_field _ _ 6 (by omega)]; exact hc 6 _ rfl, by rw [← add_field _ _ 7 (by omega)]; exact hc 7 _ rfl, by rw [← add_field _ _ 8 (by omega)]; exact hc 8 _ rfl, by rw [← add_field _ _ 9 (by omega)]; exact hc 9 _ rfl, by rw [← add_field _ _ 10 (by omega)]; exact hc 10 _ rfl, by rw [← add_field _ _ 11 (by omega)]; exact hc 11 _ rfl, by rw [← add_field _ _ 12 (by omega)]; exact hc 12 _ rfl⟩
structure S55 where
  f0 : Int
  f1 : Int
  f2 : Bool
  f3 : Bool
  f4 : Int
  f5 : S52
  f6 : S24
  f7 : (List S65)
end Go.Proofs.Ytfjmnaobfbmllaa.M
namespace Go.Proofs.Ytfjmnaobfbmllaa.M
open Go.RowKit Go.Proofs.YtfjmnaobfbmllaaW.PrintWords Go.Proofs.YtfjmnaobfbmllaaW.PrintLast Go.Proofs.YtfjmnaobfbmllaaW.PrintMore
set_option linter.unusedVariables false
set_option linter.unusedSimpArgs false
theorem len2 {α : Type} {l : List α} (h : l.length = 2) : ∃ c0 c1, l = [c0, c1] := by
  match l, h with
  | [c0, c1], _ => exact ⟨c0, c1, rfl⟩
theorem len3 {α : Type} {l : List α} (h : l.length = 3) : ∃ c0 c1 c2, l = [c0, c1, c2] := by
  match l, h with
  | [c0, c1, c2], _ => exact ⟨c0, c1, c2, rfl⟩
theorem len11 {α : Type} {l : List α} (h : l.length = 11) : ∃ c0 c1 c2 c3 c4 c5 c6 c7 c8 c9 c10, l = [c0, c1, c2, c3, c4, c5, c6, c7, c8, c9, c10] := by
  match l, h with
  | [c0, c1, c2, c3, c4, c5, c6, c7, c8, c9, c10], _ => exact ⟨c0, c1, c2, c3, c4, c5, c6, c7, c8, c9, c10, rfl⟩
theorem len13 {α : Type} {l : List α} (h : l.length = 13) : ∃ c0 c1 c2 c3 c4 c5 c6 c7 c8 c9 c10 c11 c12, l = [c0, c1, c2, c3, c4, c5, c6, c7, c8, c9, c10, c11, c12] := by
  match l, h with
  | [c0, c1, c2, c3, c4, c5, c6, c7, c8, c9, c10, c11, c12], _ => exact ⟨c0, c1, c2, c3, c4, c5, c6, c7, c8, c9, c10, c11, c12, rfl⟩
section
variable {H : Type} {enc : TypeId × Value → H} {W : World} {spare : Nat → Bool} {held : Bool} {fuel : Nat} {cs : List Value} {z : DataW H × List MemPlace}
theorem piece {t : TypeId} {fs : Array Field} (ht : Try.prog.underlying t = some (.struct fs)) (h : DataW.trod enc Try.prog W 0 spare held fuel t cs = some z) :
    cs.length = Try.prog.cellsOf t ∧ ∀ (i : Nat) (u : TypeId) (off n : Nat), (fs[i]?).map (fun f => (f.type, f.offset)) = some (u, off) → Try.prog.cellsOf u = n →
      ∃ m y, DataW.trod enc Try.prog W 0 spare held m u ((cs.drop off).take n) = some y := by
  obtain ⟨xs, n, _, _, hl, hlen, hf⟩ := DataW.trod_struct ht h
  refine ⟨hl, fun i u off k hi hk => ?_⟩
  obtain ⟨f, hi2, he⟩ := Option.map_eq_some_iff.mp hi
  simp only [Prod.mk.injEq] at he
  obtain ⟨rfl, rfl⟩ := he
  have hlt : i < xs.length := by rw [hlen]; exact (Array.getElem?_eq_some_iff.mp hi2).1
  rw [← hk]
  exact ⟨n, xs[i], (hf i f hi2).trans (List.getElem?_eq_getElem hlt)⟩
theorem op_slice {α : Type} (d : Kd α) {t e : TypeId} (ht : Try.prog.underlying t = some (.slice e)) (hsz : Try.prog.cellsOf e = d.sz)
    (hE : ∀ (m : Nat) (cs : List Value) (y : DataW H × List MemPlace), DataW.trod enc Try.prog W 0 spare held m e cs = some y → ∃ x : α, d.K W x cs)
    (h : DataW.trod enc Try.prog W 0 spare held fuel t cs = some z) : ∃ (A : Option Addr) (c : Nat) (l : List α), cs = [.slice A l.length c] ∧ d.C W A l.length l ∧ l.length ≤ c := by
  rcases Go.Deep.open_slice ht h with ⟨rfl, _⟩ | ⟨a, len, cap, m, n, D, Pl, rfl, _, hl, hm, hmm, _, hel⟩
  · exact ⟨none, 0, [], rfl, ⟨rfl, by simp, fun hn => by simp at hn⟩, by simp⟩
  · have hlm : len ≤ m := by rw [hmm]; split <;> omega
    have hx : ∀ i : Fin len, ∃ x : α, ∃ cs' : List Value, d.K W x cs' ∧ ∀ j u, cs'[j]? = some u → W.cell? (a.add (i.val * d.sz + j)) = some u := by
      intro i
      obtain ⟨cs', hc, ht⟩ := hel i.val (by have := i.isLt; omega)
      obtain ⟨x, hx⟩ := hE _ _ _ ht
      refine ⟨x, cs', hx, fun j u hj => ?_⟩
      obtain ⟨_, hlen, hg⟩ := World.cells?_some hc
      have hjl : j < cs'.length := (List.getElem?_eq_some_iff.mp hj).1
      have := hg j (by omega)
      rw [Go.Deep.add_add, hsz, hj] at this
      exact this
    refine ⟨some a, cap, (List.finRange len).map fun i => (hx i).choose, ?_, ⟨rfl, ?_, fun _ => ⟨a, rfl, ?_⟩⟩, by simpa using hl⟩
    · simp
    · simp
      have : maxLen = 9223372036854775807 := rfl
      omega
    · intro j p hj
      have hjl : j < len := by
        have := (List.getElem?_eq_some_iff.mp hj).1
        simpa using this
      have e : p = (hx ⟨j, hjl⟩).choose := by
        rw [List.getElem?_map] at hj
        simp [hjl] at hj
        exact hj.symm
      obtain ⟨cs', h1, h2⟩ := (hx ⟨j, hjl⟩).choose_spec
      subst e
      exact ⟨cs', d.K_len h1, h1, h2⟩
theorem cells3 : Try.prog.cellsOf 3 = 1 := by kernel_rfl
theorem cells4 : Try.prog.cellsOf 4 = 1 := by kernel_rfl
theorem cells9 : Try.prog.cellsOf 9 = 1 := by kernel_rfl
theorem cells22 : Try.prog.cellsOf 22 = 1 := by kernel_rfl
theorem cells24 : Try.prog.cellsOf 24 = 2 := by kernel_rfl
theorem cells33 : Try.prog.cellsOf 33 = 2 := by kernel_rfl
theorem cells52 : Try.prog.cellsOf 52 = 3 := by kernel_rfl
theorem cells53 : Try.prog.cellsOf 53 = 1 := by kernel_rfl
theorem cells55 : Try.prog.cellsOf 55 = 11 := by kernel_rfl
theorem cells65 : Try.prog.cellsOf 65 = 13 := by kernel_rfl
theorem op3 (h : DataW.trod enc Try.prog W 0 spare held fuel 3 cs = some z) : ∃ n, cs = [.int .i64 n] ∧ (Lit.int .i64 n).wf = true := by
  obtain ⟨n, h1, _, h2⟩ := DataW.trod_int Try.underlying3 h
  exact ⟨n, h1, h2⟩
theorem op4 (h : DataW.trod enc Try.prog W 0 spare held fuel 4 cs = some z) : ∃ b, cs = [.bool b] := by
  obtain ⟨n, h1, _⟩ := DataW.trod_bool Try.underlying4 h
  exact ⟨n, h1⟩
theorem op9 (h : DataW.trod enc Try.prog W 0 spare held fuel 9 cs = some z) : ∃ s : ByteArray, cs = [.string s] := by
  obtain ⟨n, h1, _⟩ := DataW.trod_string Try.underlying9 h
  exact ⟨n, h1⟩
theorem op33 (h : DataW.trod enc Try.prog W 0 spare held fuel 33 cs = some z) : ∃ x : S33, k33.K W x cs := by
  obtain ⟨hl, hf⟩ := piece Try.underlying33 h
  rw [cells33] at hl
  obtain ⟨c0, c1, rfl⟩ := len2 hl
  obtain ⟨_, _, h0⟩ := hf 0 4 0 1 rfl cells4
  obtain ⟨_, _, h1⟩ := hf 1 9 1 1 rfl cells9
  obtain ⟨b, e0⟩ := op4 h0
  obtain ⟨s, e1⟩ := op9 h1
  cases e0; cases e1
  exact ⟨⟨b, s⟩, k33_mk W ⟨b, s⟩⟩
theorem op22 (h : DataW.trod enc Try.prog W 0 spare held fuel 22 cs = some z) : ∃ (A : Option Addr) (c : Nat) (l : List S33), cs = [.slice A l.length c] ∧ k33.C W A l.length l ∧ l.length ≤ c :=
  op_slice k33 Try.underlying22 cells33 (fun _ _ _ => op33) h
theorem op24 (h : DataW.trod enc Try.prog W 0 spare held fuel 24 cs = some z) : ∃ (a : Int) (A : Option Addr) (c : Nat) (l : List S33), cs = [.int .i64 a, .slice A l.length c] ∧ (Lit.int .i64 a).wf = true ∧ k33.C W A l.length l ∧ l.length ≤ c := by
  obtain ⟨hl, hf⟩ := piece Try.underlying24 h
  rw [cells24] at hl
  obtain ⟨c0, c1, rfl⟩ := len2 hl
  obtain ⟨_, _, h0⟩ := hf 0 3 0 1 rfl cells3
  obtain ⟨_, _, h1⟩ := hf 1 22 1 1 rfl cells22
  obtain ⟨a, e0, hw⟩ := op3 h0
  obtain ⟨A, c, l, e1, hC, hc⟩ := op22 h1
  cases e0; cases e1
  exact ⟨a, A, c, l, rfl, hw, hC, hc⟩
theorem op52 (h : DataW.trod enc Try.prog W 0 spare held fuel 52 cs = some z) : ∃ x : S52, k52.K W x cs := by
  obtain ⟨hl, hf⟩ := piece Try.underlying52 h
  rw [cells52] at hl
  obtain ⟨c0, c1, c2, rfl⟩ := len3 hl
  obtain ⟨_, _, h0⟩ := hf 0 3 0 1 rfl cells3
  obtain ⟨_, _, h1⟩ := hf 1 3 1 1 rfl cells3
  obtain ⟨_, _, h2⟩ := hf 2 3 2 1 rfl cells3
  obtain ⟨a0, e0, _⟩ := op3 h0
  obtain ⟨a1, e1, _⟩ := op3 h1
  obtain ⟨a2, e2, _⟩ := op3 h2
  cases e0; cases e1; cases e2
  exact ⟨⟨a0, a1, a2⟩, k52_mk W ⟨a0, a1, a2⟩⟩
theorem op65 (h : DataW.trod enc Try.prog W 0 spare held fuel 65 cs = some z) : ∃ x : S65, k65.K W x cs := by
  obtain ⟨hl, hf⟩ := piece Try.underlying65 h
  rw [cells65] at hl
  obtain ⟨c0, c1, c2, c3, c4, c5, c6, c7, c8, c9, c10, c11, c12, rfl⟩ := len13 hl
  obtain ⟨_, _, h0⟩ := hf 0 3 0 1 rfl cells3
  obtain ⟨_, _, h1⟩ := hf 1 52 1 3 rfl cells52
  obtain ⟨_, _, h2⟩ := hf 2 3 4 1 rfl cells3
  obtain ⟨_, _, h3⟩ := hf 3 3 5 1 rfl cells3
  obtain ⟨_, _, h4⟩ := hf 4 3 6 1 rfl cells3
  obtain ⟨_, _, h5⟩ := hf 5 3 7 1 rfl cells3
  obtain ⟨_, _, h6⟩ := hf 6 33 8 2 rfl cells33
  obtain ⟨_, _, h7⟩ := hf 7 33 10 2 rfl cells33
  obtain ⟨_, _, h8⟩ := hf 8 3 12 1 rfl cells3
  obtain ⟨a0, e0, _⟩ := op3 h0
  obtain ⟨x1, K1⟩ := op52 h1
  obtain ⟨a2, e2, _⟩ := op3 h2
  obtain ⟨a3, e3, _⟩ := op3 h3
  obtain ⟨a4, e4, _⟩ := op3 h4
  obtain ⟨a5, e5, _⟩ := op3 h5
  obtain ⟨x6, K6⟩ := op33 h6
  obtain ⟨x7, K7⟩ := op33 h7
  obtain ⟨a8, e8, _⟩ := op3 h8
  have e1 := k52_open K1
  have e6 := k33_open K6
  have e7 := k33_open K7
  cases e0; cases e1; cases e2; cases e3; cases e4; cases e5; cases e6; cases e7; cases e8
  exact ⟨⟨a0, x1, a2, a3, a4, a5, x6, x7, a8⟩, k65_mk W ⟨a0, x1, a2, a3, a4, a5, x6, x7, a8⟩⟩
theorem op53 (h : DataW.trod enc Try.prog W 0 spare held fuel 53 cs = some z) : ∃ (A : Option Addr) (c : Nat) (l : List S65), cs = [.slice A l.length c] ∧ k65.C W A l.length l ∧ l.length ≤ c :=
  op_slice k65 Try.underlying53 cells65 (fun _ _ _ => op65) h
end
end Go.Proofs.Ytfjmnaobfbmllaa.M
namespace Go.Proofs.Ytfjmnaobfbmllaa.M
open Go.RowKit Go.WideShapes Go.Proofs.YtfjmnaobfbmllaaW.PrintWords Go.Proofs.YtfjmnaobfbmllaaW.PrintLast Go.Proofs.YtfjmnaobfbmllaaW.PrintMore
set_option linter.unusedVariables false
set_option linter.constructorNameAsVariable false
set_option maxRecDepth 100000
section
variable {H : Type} {enc : TypeId × Value → H} {W : World} {spare : Nat → Bool} {held : Bool} {base : Nat} {v : Value} {d : DataW H} {ps : List MemPlace}
theorem okWide_agg {P : Program} {t : TypeId} {fs : Array Field} (hu : P.underlying t = some (.struct fs)) (h : Value.okWide P W .any base t v) : ∃ cs, v = .agg cs := by
  simp only [Value.okWide, hu] at h
  obtain ⟨cs, h, _⟩ := h
  exact ⟨cs, h⟩
theorem agg_of {cs : Array Value} {l : List Value} (h : (Value.agg cs).cells.toList = l) : Value.agg cs = .agg l.toArray := by
  have : cs.toList = l := h
  rw [← this]
end
end Go.Proofs.Ytfjmnaobfbmllaa.M
namespace Go.Proofs.Ytfjmnaobfbmllaa.M
open Go.RowKit Go.WideShapes Go.Proofs.YtfjmnaobfbmllaaW.PrintWords Go.Proofs.YtfjmnaobfbmllaaW.PrintLast Go.Proofs.YtfjmnaobfbmllaaW.PrintMore
set_option linter.unusedVariables false
set_option linter.constructorNameAsVariable false
set_option maxRecDepth 100000
section
variable {H : Type} {enc : TypeId × Value → H} {W : World} {spare : Nat → Bool} {held : Bool} {base fuel : Nat} {v : Value} {d : DataW H} {ps : List MemPlace} {cs : List Value} {z : DataW H × List MemPlace}
theorem op55 (h : DataW.trod enc Try.prog W 0 spare held fuel 55 cs = some z) : ∃ (x : S55) (A : Option Addr) (c : Nat) (B : Option Addr) (e : Nat), cs = [.int .i64 x.f0, .int .i64 x.f1, .bool x.f2, .bool x.f3, .int .i64 x.f4, .int .i64 x.f5.f0, .int .i64 x.f5.f1, .int .i64 x.f5.f2, .int .i64 x.f6.f0, .slice A x.f6.f1.length c, .slice B x.f7.length e] ∧
    k33.C W A x.f6.f1.length x.f6.f1 ∧ x.f6.f1.length ≤ c ∧ k65.C W B x.f7.length x.f7 ∧ x.f7.length ≤ e := by
  obtain ⟨hl, hf⟩ := piece Try.underlying55 h
  rw [cells55] at hl
  obtain ⟨c0, c1, c2, c3, c4, c5, c6, c7, c8, c9, c10, rfl⟩ := len11 hl
  obtain ⟨_, _, h0⟩ := hf 0 3 0 1 rfl cells3
  obtain ⟨_, _, h1⟩ := hf 1 3 1 1 rfl cells3
  obtain ⟨_, _, h2⟩ := hf 2 4 2 1 rfl cells4
  obtain ⟨_, _, h3⟩ := hf 3 4 3 1 rfl cells4
  obtain ⟨_, _, h4⟩ := hf 4 3 4 1 rfl cells3
  obtain ⟨_, _, h5⟩ := hf 5 52 5 3 rfl cells52
  obtain ⟨_, _, h6⟩ := hf 6 24 8 2 rfl cells24
  obtain ⟨_, _, h7⟩ := hf 7 53 10 1 rfl cells53
  obtain ⟨a0, e0, _⟩ := op3 h0
  obtain ⟨a1, e1, _⟩ := op3 h1
  obtain ⟨a2, e2⟩ := op4 h2
  obtain ⟨a3, e3⟩ := op4 h3
  obtain ⟨a4, e4, _⟩ := op3 h4
  obtain ⟨x5, K5⟩ := op52 h5
  obtain ⟨a6, A, c, l, e6, _, hC, hc⟩ := op24 h6
  obtain ⟨B, e, m, e7, hC2, hc2⟩ := op53 h7
  have e5 := k52_open K5
  cases e0; cases e1; cases e2; cases e3; cases e4; cases e5; cases e6; cases e7
  exact ⟨⟨a0, a1, a2, a3, a4, x5, ⟨a6, l⟩, m⟩, A, c, B, e, rfl, hC, hc, hC2, hc2⟩
theorem V55 (hv : Value.okWide Try.prog W .any base 55 v) (h : DataW.Trod enc Try.prog W 0 spare held 55 v d ps) : ∃ (x : S55) (A : Option Addr) (c : Nat) (B : Option Addr) (e : Nat), v = .agg #[.int .i64 x.f0, .int .i64 x.f1, .bool x.f2, .bool x.f3, .int .i64 x.f4, .int .i64 x.f5.f0, .int .i64 x.f5.f1, .int .i64 x.f5.f2, .int .i64 x.f6.f0, .slice A x.f6.f1.length c, .slice B x.f7.length e] ∧
    k33.C W A x.f6.f1.length x.f6.f1 ∧ x.f6.f1.length ≤ c ∧ k65.C W B x.f7.length x.f7 ∧ x.f7.length ≤ e := by
  obtain ⟨cs, rfl⟩ := okWide_agg Try.underlying55 hv
  obtain ⟨m, hm⟩ := h
  obtain ⟨x, A, c, B, e, he, h1, h2, h3, h4⟩ := op55 hm
  exact ⟨x, A, c, B, e, agg_of he, h1, h2, h3, h4⟩
end
end Go.Proofs.Ytfjmnaobfbmllaa.M
namespace Go.Proofs.Ytfjmnaobfbmllaa.M
open Go.RowKit
set_option maxRecDepth 100000
def ch (l : List Nat) : List Char := l.map Char.ofNat
def words : List (List Nat) := [[104, 97, 114, 110, 101, 115, 115],
  [102, 51, 51, 54, 54, 51, 54, 102, 101, 56, 50, 54, 99, 51, 99, 57, 48, 102, 48, 99, 51, 98, 50, 101, 54, 100, 56, 52, 55, 98, 101, 53, 49, 53, 99, 49, 51, 101, 50, 52, 54, 100, 48, 55, 49, 48, 102, 54, 99, 56, 99, 101, 50, 52, 55, 54, 97, 54, 98, 101, 50, 49, 98, 98],
  [99, 117, 116],
  [97, 116],
  [115, 101, 110, 101, 115, 99, 104, 97, 108, 47, 115, 101, 110, 101, 115, 99, 104, 97, 108, 108, 97, 119, 48, 51, 46, 83, 108, 97, 98, 87, 114, 105, 116, 101, 115],
  [115, 101, 110, 101, 115, 99, 104, 97, 108, 47, 115, 101, 110, 101, 115, 99, 104, 97, 108, 108, 97, 119, 48, 51, 46, 83, 108, 97, 98, 70, 105, 116, 115],
  [115, 101, 110, 101, 115, 99, 104, 97, 108, 47, 115, 101, 110, 101, 115, 99, 104, 97, 108, 108, 97, 119, 48, 51, 46, 83, 108, 97, 98, 80, 117, 116, 115],
  [115, 101, 110, 101, 115, 99, 104, 97, 108, 47, 115, 101, 110, 101, 115, 99, 104, 97, 108, 108, 97, 119, 48, 51, 46, 83, 108, 97, 98, 75, 101, 101, 112, 115],
  [115, 101, 110, 101, 115, 99, 104, 97, 108, 47, 115, 101, 110, 101, 115, 99, 104, 97, 108, 108, 97, 119, 48, 51, 46, 83, 108, 97, 98, 86, 97, 99, 97, 110, 116],
  [115, 101, 110, 101, 115, 99, 104, 97, 108, 47, 115, 101, 110, 101, 115, 99, 104, 97, 108, 108, 97, 119, 48, 51, 46, 83, 108, 97, 98, 77, 97, 112],
  [115, 101, 110, 101, 115, 99, 104, 97, 108, 47, 115, 101, 110, 101, 115, 99, 104, 97, 108, 108, 97, 119, 49, 49, 46, 78, 111, 116, 101, 70, 111, 114, 109, 115],
  [115, 101, 110, 101, 115, 99, 104, 97, 108, 47, 115, 101, 110, 101, 115, 99, 104, 97, 108, 108, 97, 119, 48, 51, 46, 83, 108, 97, 98, 82, 111, 119, 115],
  [115, 101, 110, 101, 115, 99, 104, 97, 108, 47, 115, 101, 110, 101, 115, 99, 104, 97, 108, 108, 97, 119, 48, 52, 46, 69, 110, 116, 114, 121, 87, 114, 105, 116, 101, 115],
  [115, 101, 110, 101, 115, 99, 104, 97, 108, 47, 115, 101, 110, 101, 115, 99, 104, 97, 108, 108, 97, 119, 49, 49, 46, 78, 111, 116, 101, 70, 105, 116, 115],
  [115, 101, 110, 101, 115, 99, 104, 97, 108, 47, 115, 101, 110, 101, 115, 99, 104, 97, 108, 108, 97, 119, 48, 52, 46, 69, 110, 116, 114, 121, 82, 101, 97, 100, 115],
  [115, 101, 110, 101, 115, 99, 104, 97, 108, 47, 115, 101, 110, 101, 115, 99, 104, 97, 108, 108, 97, 119, 48, 52, 46, 69, 110, 116, 114, 121, 66, 97, 99, 107],
  [115, 101, 110, 101, 115, 99, 104, 97, 108, 47, 115, 101, 110, 101, 115, 99, 104, 97, 108, 108, 97, 119, 48, 52, 46, 69, 110, 116, 114, 121, 79, 110, 101],
  [115, 101, 110, 101, 115, 99, 104, 97, 108, 47, 115, 101, 110, 101, 115, 99, 104, 97, 108, 108, 97, 119, 48, 52, 46, 69, 110, 116, 114, 121, 67, 111, 115, 116, 115],
  [115, 101, 110, 101, 115, 99, 104, 97, 108, 47, 115, 101, 110, 101, 115, 99, 104, 97, 108, 108, 97, 119, 48, 52, 46, 69, 110, 116, 114, 121, 82, 111, 119],
  [115, 101, 110, 101, 115, 99, 104, 97, 108, 47, 115, 101, 110, 101, 115, 99, 104, 97, 108, 108, 97, 119, 48, 53, 46, 80, 97, 116, 99, 104, 68, 111, 101, 115],
  [115, 101, 110, 101, 115, 99, 104, 97, 108, 47, 115, 101, 110, 101, 115, 99, 104, 97, 108, 108, 97, 119, 48, 53, 46, 80, 97, 116, 99, 104, 65, 108, 108],
  [115, 101, 110, 101, 115, 99, 104, 97, 108, 47, 115, 101, 110, 101, 115, 99, 104, 97, 108, 108, 97, 119, 48, 53, 46, 80, 97, 116, 99, 104, 79, 110, 99, 101],
  [115, 101, 110, 101, 115, 99, 104, 97, 108, 47, 115, 101, 110, 101, 115, 99, 104, 97, 108, 108, 97, 119, 48, 53, 46, 80, 97, 116, 99, 104, 84, 117, 114, 110, 115],
  [115, 101, 110, 101, 115, 99, 104, 97, 108, 47, 115, 101, 110, 101, 115, 99, 104, 97, 108, 108, 97, 119, 48, 53, 46, 80, 97, 116, 99, 104, 80, 97, 114, 116, 115],
  [115, 101, 110, 101, 115, 99, 104, 97, 108, 47, 115, 101, 110, 101, 115, 99, 104, 97, 108, 108, 97, 119, 48, 53, 46, 80, 97, 116, 99, 104, 65, 112, 97, 114, 116],
  [115, 101, 110, 101, 115, 99, 104, 97, 108, 47, 115, 101, 110, 101, 115, 99, 104, 97, 108, 108, 97, 119, 48, 51, 46, 83, 108, 97, 98, 82, 101, 97, 100, 115],
  [115, 101, 110, 101, 115, 99, 104, 97, 108, 47, 115, 101, 110, 101, 115, 99, 104, 97, 108, 108, 97, 119, 48, 51, 46, 83, 108, 97, 98, 66, 97, 99, 107],
  [115, 101, 110, 101, 115, 99, 104, 97, 108, 47, 115, 101, 110, 101, 115, 99, 104, 97, 108, 108, 97, 119, 49, 49, 46, 78, 111, 116, 101, 87, 114, 105, 116, 101, 115],
  [115, 101, 110, 101, 115, 99, 104, 97, 108, 47, 115, 101, 110, 101, 115, 99, 104, 97, 108, 108, 97, 119, 49, 49, 46, 78, 111, 116, 101, 82, 101, 97, 100, 115],
  [115, 101, 110, 101, 115, 99, 104, 97, 108, 47, 115, 101, 110, 101, 115, 99, 104, 97, 108, 108, 97, 119, 49, 49, 46, 78, 111, 116, 101, 66, 97, 99, 107],
  [115, 101, 110, 101, 115, 99, 104, 97, 108, 47, 115, 101, 110, 101, 115, 99, 104, 97, 108, 108, 97, 119, 49, 49, 46, 78, 111, 116, 101, 84, 101, 108, 108, 115]]
def joined : List (List Nat) → List Nat
  | [] => []
  | [w] => w
  | w :: ws => w ++ 32 :: joined ws
theorem order_is : Try.prog.initOrder = String.ofList (ch (joined words)) := by kernel_rfl
theorem order_list : Try.prog.initOrder.toList = ch (joined words) := by rw [order_is, String.toList_ofList]
theorem signs_word (w : List Nat) (h : w.all (fun n => Char.ofNat n != Char.ofNat 32) = true) (r : List Char) : wordsSigns (ch w ++ Char.ofNat 32 :: r) = ch w :: wordsSigns r := by
  induction w with
  | nil => rfl
  | cons n w ih =>
    rw [List.all_cons, Bool.and_eq_true] at h
    have hn : Char.ofNat n ≠ Char.ofNat 32 := by simpa using h.1
    have := ih h.2
    show wordsSigns (Char.ofNat n :: (ch w ++ Char.ofNat 32 :: r)) = _
    rw [wordsSigns.eq_3 _ _ (fun e => hn e), this]
    rfl
theorem signs_last (w : List Nat) (h : w.all (fun n => Char.ofNat n != Char.ofNat 32) = true) : wordsSigns (ch w) = [ch w] := by
  induction w with
  | nil => rfl
  | cons n w ih =>
    rw [List.all_cons, Bool.and_eq_true] at h
    have hn : Char.ofNat n ≠ Char.ofNat 32 := by simpa using h.1
    have := ih h.2
    show wordsSigns (Char.ofNat n :: ch w) = _
    rw [wordsSigns.eq_3 _ _ (fun e => hn e), this]
    rfl
theorem signs_join : ∀ ws : List (List Nat), ws ≠ [] → ws.all (fun w => w.all (fun n => Char.ofNat n != Char.ofNat 32)) = true → wordsSigns (ch (joined ws)) = ws.map ch
  | [], h, _ => absurd rfl h
  | [w], _, h => by
    have h2 : w.all (fun n => Char.ofNat n != Char.ofNat 32) = true := by simpa using h
    exact signs_last w h2
  | w :: v :: ws, _, h => by
    rw [List.all_cons, Bool.and_eq_true] at h
    have ih := signs_join (v :: ws) (by simp) h.2
    show wordsSigns (ch (w ++ 32 :: joined (v :: ws))) = _
    have e : ch (w ++ 32 :: joined (v :: ws)) = ch w ++ Char.ofNat 32 :: ch (joined (v :: ws)) := by simp [ch]
    rw [e, signs_word w h.1, ih]
    rfl
theorem order_words : wordsSigns Try.prog.initOrder.toList = words.map ch := by
  rw [order_list]
  exact signs_join words (by decide) (by decide +kernel)
theorem behind : behindMainWord (words.map ch) = (words.drop 2).map ch := by kernel_rfl
theorem tail_cut : (words.drop 2).map ch = ch [99, 117, 116] :: (words.drop 3).map ch := by kernel_rfl
theorem cut_is : ch [99, 117, 116] = "cut".toList := by kernel_rfl
theorem head_is : behindMainWord (wordsSigns Try.prog.initOrder.toList) = "cut".toList :: (words.drop 3).map ch := by rw [order_words, behind, tail_cut, cut_is]
theorem make_of (P : Program) (rest : List (List Char)) (h : behindMainWord (wordsSigns P.initOrder.toList) = "cut".toList :: rest) : P.make = some .cut := by
  unfold Program.make
  rw [h]
  simp only
  rw [if_neg (by decide), if_pos (by simp)]
theorem strip_of (rest : List (List Char)) : stripLifts liftWords ("cut".toList :: rest) = ([], "cut".toList :: rest) := by
  have h : ∀ os : List String, os.all (fun o => !("cut".toList == o.toList)) = true → stripLifts os ("cut".toList :: rest) = ([], "cut".toList :: rest) := by
    intro os
    induction os with
    | nil => intro _; rfl
    | cons o os ih =>
      intro h
      rw [List.all_cons, Bool.and_eq_true] at h
      have h1 : ("cut".toList == o.toList) = false := by simpa using h.1
      rw [stripLifts, h1, if_neg Bool.false_ne_true, ih h.2]
  exact h liftWords (by decide +kernel)
theorem lifts_of (P : Program) (rest : List (List Char)) (h : behindMainWord (wordsSigns P.initOrder.toList) = "cut".toList :: rest) : P.liftsFinal = false := by
  unfold Program.liftsFinal Program.headLifts
  rw [h, strip_of]
  simp
theorem enter_of (P : Program) (rest : List (List Char)) (h : behindMainWord (wordsSigns P.initOrder.toList) = "cut".toList :: rest) (h1 : P.laysLater = false) (h2 : P.bearsReflect = false) (h3 : P.doorFits [] = true) : P.mayEnter = true := by
  unfold Program.mayEnter
  rw [h]
  simp only [strip_of, h1, h2, h3]
  simp
theorem lays : Try.prog.laysLater = false := by kernel_rfl
theorem bears : Try.prog.bearsReflect = false := by kernel_rfl
theorem doors : Try.prog.doorFits [] = true := by kernel_rfl
theorem lifts_final : Try.prog.liftsFinal = false := lifts_of Try.prog _ head_is
theorem make_is : Try.prog.make = some .cut := make_of Try.prog _ head_is
theorem may_enter : Try.prog.mayEnter = true := enter_of Try.prog _ head_is lays bears doors
end Go.Proofs.Ytfjmnaobfbmllaa.M
namespace Go.Proofs.Ytfjmnaobfbmllaa.M
open Go.RowKit Go.Proofs.YtfjmnaobfbmllaaW.PrintWords Go.Proofs.YtfjmnaobfbmllaaW.PrintLast Go.Proofs.YtfjmnaobfbmllaaW.PrintMore
theorem cl2 {W : World} {g : Nat} {t : TypeId} {v0 v1 : Value} (h : W.heap[g]? = some (.cells #[v0, v1] t (0, 0))) : W.cell? ⟨g, 0, none⟩ = some v0 ∧ W.cell? ⟨g, 1, none⟩ = some v1 :=
  ⟨(blk_cell h 0).trans rfl, (blk_cell h 1).trans rfl⟩
theorem fr2 {W : World} {g : Nat} {t : TypeId} {cs : Array Value} (h : W.heap[g]? = some (.cells cs t (0, 0))) : W.frozen? ⟨g, 0, none⟩ = false ∧ W.frozen? ⟨g, 1, none⟩ = false :=
  ⟨blk_frozen h 0, blk_frozen h 1⟩
theorem cl3 {W : World} {g : Nat} {t : TypeId} {v0 v1 v2 : Value} (h : W.heap[g]? = some (.cells #[v0, v1, v2] t (0, 0))) : W.cell? ⟨g, 0, none⟩ = some v0 ∧ W.cell? ⟨g, 1, none⟩ = some v1 ∧ W.cell? ⟨g, 2, none⟩ = some v2 :=
  ⟨(blk_cell h 0).trans rfl, (blk_cell h 1).trans rfl, (blk_cell h 2).trans rfl⟩
theorem fr3 {W : World} {g : Nat} {t : TypeId} {cs : Array Value} (h : W.heap[g]? = some (.cells cs t (0, 0))) : W.frozen? ⟨g, 0, none⟩ = false ∧ W.frozen? ⟨g, 1, none⟩ = false ∧ W.frozen? ⟨g, 2, none⟩ = false :=
  ⟨blk_frozen h 0, blk_frozen h 1, blk_frozen h 2⟩
theorem cl7 {W : World} {g : Nat} {t : TypeId} {v0 v1 v2 v3 v4 v5 v6 : Value} (h : W.heap[g]? = some (.cells #[v0, v1, v2, v3, v4, v5, v6] t (0, 0))) : W.cell? ⟨g, 0, none⟩ = some v0 ∧ W.cell? ⟨g, 1, none⟩ = some v1 ∧ W.cell? ⟨g, 2, none⟩ = some v2 ∧ W.cell? ⟨g, 3, none⟩ = some v3 ∧ W.cell? ⟨g, 4, none⟩ = some v4 ∧ W.cell? ⟨g, 5, none⟩ = some v5 ∧ W.cell? ⟨g, 6, none⟩ = some v6 :=
  ⟨(blk_cell h 0).trans rfl, (blk_cell h 1).trans rfl, (blk_cell h 2).trans rfl, (blk_cell h 3).trans rfl, (blk_cell h 4).trans rfl, (blk_cell h 5).trans rfl, (blk_cell h 6).trans rfl⟩
theorem fr7 {W : World} {g : Nat} {t : TypeId} {cs : Array Value} (h : W.heap[g]? = some (.cells cs t (0, 0))) : W.frozen? ⟨g, 0, none⟩ = false ∧ W.frozen? ⟨g, 1, none⟩ = false ∧ W.frozen? ⟨g, 2, none⟩ = false ∧ W.frozen? ⟨g, 3, none⟩ = false ∧ W.frozen? ⟨g, 4, none⟩ = false ∧ W.frozen? ⟨g, 5, none⟩ = false ∧ W.frozen? ⟨g, 6, none⟩ = false :=
  ⟨blk_frozen h 0, blk_frozen h 1, blk_frozen h 2, blk_frozen h 3, blk_frozen h 4, blk_frozen h 5, blk_frozen h 6⟩
theorem cl11 {W : World} {g : Nat} {t : TypeId} {v0 v1 v2 v3 v4 v5 v6 v7 v8 v9 v10 : Value} (h : W.heap[g]? = some (.cells #[v0, v1, v2, v3, v4, v5, v6, v7, v8, v9, v10] t (0, 0))) : W.cell? ⟨g, 0, none⟩ = some v0 ∧ W.cell? ⟨g, 1, none⟩ = some v1 ∧ W.cell? ⟨g, 2, none⟩ = some v2 ∧ W.cell? ⟨g, 3, none⟩ = some v3 ∧ W.cell? ⟨g, 4, none⟩ = some v4 ∧ W.cell? ⟨g, 5, none⟩ = some v5 ∧ W.cell? ⟨g, 6, none⟩ = some v6 ∧ W.cell? ⟨g, 7, none⟩ = some v7 ∧ W.cell? ⟨g, 8, none⟩ = some v8 ∧ W.cell? ⟨g, 9, none⟩ = some v9 ∧ W.cell? ⟨g, 10, none⟩ = some v10 :=
  ⟨(blk_cell h 0).trans rfl, (blk_cell h 1).trans rfl, (blk_cell h 2).trans rfl, (blk_cell h 3).trans rfl, (blk_cell h 4).trans rfl, (blk_cell h 5).trans rfl, (blk_cell h 6).trans rfl, (blk_cell h 7).trans rfl, (blk_cell h 8).trans rfl, (blk_cell h 9).trans rfl, (blk_cell h 10).trans rfl⟩
theorem fr11 {W : World} {g : Nat} {t : TypeId} {cs : Array Value} (h : W.heap[g]? = some (.cells cs t (0, 0))) : W.frozen? ⟨g, 0, none⟩ = false ∧ W.frozen? ⟨g, 1, none⟩ = false ∧ W.frozen? ⟨g, 2, none⟩ = false ∧ W.frozen? ⟨g, 3, none⟩ = false ∧ W.frozen? ⟨g, 4, none⟩ = false ∧ W.frozen? ⟨g, 5, none⟩ = false ∧ W.frozen? ⟨g, 6, none⟩ = false ∧ W.frozen? ⟨g, 7, none⟩ = false ∧ W.frozen? ⟨g, 8, none⟩ = false ∧ W.frozen? ⟨g, 9, none⟩ = false ∧ W.frozen? ⟨g, 10, none⟩ = false :=
  ⟨blk_frozen h 0, blk_frozen h 1, blk_frozen h 2, blk_frozen h 3, blk_frozen h 4, blk_frozen h 5, blk_frozen h 6, blk_frozen h 7, blk_frozen h 8, blk_frozen h 9, blk_frozen h 10⟩
theorem cl13 {W : World} {g : Nat} {t : TypeId} {v0 v1 v2 v3 v4 v5 v6 v7 v8 v9 v10 v11 v12 : Value} (h : W.heap[g]? = some (.cells #[v0, v1, v2, v3, v4, v5, v6, v7, v8, v9, v10, v11, v12] t (0, 0))) : W.cell? ⟨g, 0, none⟩ = some v0 ∧ W.cell? ⟨g, 1, none⟩ = some v1 ∧ W.cell? ⟨g, 2, none⟩ = some v2 ∧ W.cell? ⟨g, 3, none⟩ = some v3 ∧ W.cell? ⟨g, 4, none⟩ = some v4 ∧ W.cell? ⟨g, 5, none⟩ = some v5 ∧ W.cell? ⟨g, 6, none⟩ = some v6 ∧ W.cell? ⟨g, 7, none⟩ = some v7 ∧ W.cell? ⟨g, 8, none⟩ = some v8 ∧ W.cell? ⟨g, 9, none⟩ = some v9 ∧ W.cell? ⟨g, 10, none⟩ = some v10 ∧ W.cell? ⟨g, 11, none⟩ = some v11 ∧ W.cell? ⟨g, 12, none⟩ = some v12 :=
  ⟨(blk_cell h 0).trans rfl, (blk_cell h 1).trans rfl, (blk_cell h 2).trans rfl, (blk_cell h 3).trans rfl, (blk_cell h 4).trans rfl, (blk_cell h 5).trans rfl, (blk_cell h 6).trans rfl, (blk_cell h 7).trans rfl, (blk_cell h 8).trans rfl, (blk_cell h 9).trans rfl, (blk_cell h 10).trans rfl, (blk_cell h 11).trans rfl, (blk_cell h 12).trans rfl⟩
theorem fr13 {W : World} {g : Nat} {t : TypeId} {cs : Array Value} (h : W.heap[g]? = some (.cells cs t (0, 0))) : W.frozen? ⟨g, 0, none⟩ = false ∧ W.frozen? ⟨g, 1, none⟩ = false ∧ W.frozen? ⟨g, 2, none⟩ = false ∧ W.frozen? ⟨g, 3, none⟩ = false ∧ W.frozen? ⟨g, 4, none⟩ = false ∧ W.frozen? ⟨g, 5, none⟩ = false ∧ W.frozen? ⟨g, 6, none⟩ = false ∧ W.frozen? ⟨g, 7, none⟩ = false ∧ W.frozen? ⟨g, 8, none⟩ = false ∧ W.frozen? ⟨g, 9, none⟩ = false ∧ W.frozen? ⟨g, 10, none⟩ = false ∧ W.frozen? ⟨g, 11, none⟩ = false ∧ W.frozen? ⟨g, 12, none⟩ = false :=
  ⟨blk_frozen h 0, blk_frozen h 1, blk_frozen h 2, blk_frozen h 3, blk_frozen h 4, blk_frozen h 5, blk_frozen h 6, blk_frozen h 7, blk_frozen h 8, blk_frozen h 9, blk_frozen h 10, blk_frozen h 11, blk_frozen h 12⟩
theorem size_out {α : Type} (a : Array α) (n : Nat) (h : a.size = n + 1) : ∃ (x : α) (b : List α), a = (x :: b).toArray ∧ b.length = n := by
  obtain ⟨l⟩ := a
  cases l with
  | nil => simp at h
  | cons x l => exact ⟨x, l, rfl, by simpa using h⟩
theorem len_out {α : Type} (l : List α) (n : Nat) (h : l.length = n + 1) : ∃ (x : α) (b : List α), l = x :: b ∧ b.length = n := by
  cases l with
  | nil => simp at h
  | cons x l => exact ⟨x, l, rfl, by simpa using h⟩
theorem len_nil {α : Type} (l : List α) (h : l.length = 0) : l = [] := List.length_eq_zero_iff.mp h
theorem puts2 {W : World} {g : Nat} {t : TypeId} {b0 b1 : Value} {cs : Array Value} (hs : cs.size = 2) (h : W.heap[g]? = some (.cells cs t (0, 0))) : ((W.setCell ⟨g, 0, none⟩ b0).setCell ⟨g, 1, none⟩ b1).heap[g]? = some (.cells #[b0, b1] t (0, 0)) := by
  obtain ⟨a0, l0, rfl, h0⟩ := size_out cs _ hs
  obtain ⟨a1, l1, rfl, h1⟩ := len_out l0 _ h0
  obtain rfl := len_nil l1 h1
  exact (blk_put (cs' := #[b0, b1]) (blk_put (cs' := #[b0, a1]) h 0 b0 rfl) 1 b1 rfl)
theorem puts7 {W : World} {g : Nat} {t : TypeId} {b0 b1 b2 b3 b4 b5 b6 : Value} {cs : Array Value} (hs : cs.size = 7) (h : W.heap[g]? = some (.cells cs t (0, 0))) : (((((((W.setCell ⟨g, 0, none⟩ b0).setCell ⟨g, 1, none⟩ b1).setCell ⟨g, 2, none⟩ b2).setCell ⟨g, 3, none⟩ b3).setCell ⟨g, 4, none⟩ b4).setCell ⟨g, 5, none⟩ b5).setCell ⟨g, 6, none⟩ b6).heap[g]? = some (.cells #[b0, b1, b2, b3, b4, b5, b6] t (0, 0)) := by
  obtain ⟨a0, l0, rfl, h0⟩ := size_out cs _ hs
  obtain ⟨a1, l1, rfl, h1⟩ := len_out l0 _ h0
  obtain ⟨a2, l2, rfl, h2⟩ := len_out l1 _ h1
  obtain ⟨a3, l3, rfl, h3⟩ := len_out l2 _ h2
  obtain ⟨a4, l4, rfl, h4⟩ := len_out l3 _ h3
  obtain ⟨a5, l5, rfl, h5⟩ := len_out l4 _ h4
  obtain ⟨a6, l6, rfl, h6⟩ := len_out l5 _ h5
  obtain rfl := len_nil l6 h6
  exact (blk_put (cs' := #[b0, b1, b2, b3, b4, b5, b6]) (blk_put (cs' := #[b0, b1, b2, b3, b4, b5, a6]) (blk_put (cs' := #[b0, b1, b2, b3, b4, a5, a6]) (blk_put (cs' := #[b0, b1, b2, b3, a4, a5, a6]) (blk_put (cs' := #[b0, b1, b2, a3, a4, a5, a6]) (blk_put (cs' := #[b0, b1, a2, a3, a4, a5, a6]) (blk_put (cs' := #[b0, a1, a2, a3, a4, a5, a6]) h 0 b0 rfl) 1 b1 rfl) 2 b2 rfl) 3 b3 rfl) 4 b4 rfl) 5 b5 rfl) 6 b6 rfl)
theorem puts11 {W : World} {g : Nat} {t : TypeId} {b0 b1 b2 b3 b4 b5 b6 b7 b8 b9 b10 : Value} {cs : Array Value} (hs : cs.size = 11) (h : W.heap[g]? = some (.cells cs t (0, 0))) : (((((((((((W.setCell ⟨g, 0, none⟩ b0).setCell ⟨g, 1, none⟩ b1).setCell ⟨g, 2, none⟩ b2).setCell ⟨g, 3, none⟩ b3).setCell ⟨g, 4, none⟩ b4).setCell ⟨g, 5, none⟩ b5).setCell ⟨g, 6, none⟩ b6).setCell ⟨g, 7, none⟩ b7).setCell ⟨g, 8, none⟩ b8).setCell ⟨g, 9, none⟩ b9).setCell ⟨g, 10, none⟩ b10).heap[g]? = some (.cells #[b0, b1, b2, b3, b4, b5, b6, b7, b8, b9, b10] t (0, 0)) := by
  obtain ⟨a0, l0, rfl, h0⟩ := size_out cs _ hs
  obtain ⟨a1, l1, rfl, h1⟩ := len_out l0 _ h0
  obtain ⟨a2, l2, rfl, h2⟩ := len_out l1 _ h1
  obtain ⟨a3, l3, rfl, h3⟩ := len_out l2 _ h2
  obtain ⟨a4, l4, rfl, h4⟩ := len_out l3 _ h3
  obtain ⟨a5, l5, rfl, h5⟩ := len_out l4 _ h4
  obtain ⟨a6, l6, rfl, h6⟩ := len_out l5 _ h5
  obtain ⟨a7, l7, rfl, h7⟩ := len_out l6 _ h6
  obtain ⟨a8, l8, rfl, h8⟩ := len_out l7 _ h7
  obtain ⟨a9, l9, rfl, h9⟩ := len_out l8 _ h8
  obtain ⟨a10, l10, rfl, h10⟩ := len_out l9 _ h9
  obtain rfl := len_nil l10 h10
  exact (blk_put (cs' := #[b0, b1, b2, b3, b4, b5, b6, b7, b8, b9, b10]) (blk_put (cs' := #[b0, b1, b2, b3, b4, b5, b6, b7, b8, b9, a10]) (blk_put (cs' := #[b0, b1, b2, b3, b4, b5, b6, b7, b8, a9, a10]) (blk_put (cs' := #[b0, b1, b2, b3, b4, b5, b6, b7, a8, a9, a10]) (blk_put (cs' := #[b0, b1, b2, b3, b4, b5, b6, a7, a8, a9, a10]) (blk_put (cs' := #[b0, b1, b2, b3, b4, b5, a6, a7, a8, a9, a10]) (blk_put (cs' := #[b0, b1, b2, b3, b4, a5, a6, a7, a8, a9, a10]) (blk_put (cs' := #[b0, b1, b2, b3, a4, a5, a6, a7, a8, a9, a10]) (blk_put (cs' := #[b0, b1, b2, a3, a4, a5, a6, a7, a8, a9, a10]) (blk_put (cs' := #[b0, b1, a2, a3, a4, a5, a6, a7, a8, a9, a10]) (blk_put (cs' := #[b0, a1, a2, a3, a4, a5, a6, a7, a8, a9, a10]) h 0 b0 rfl) 1 b1 rfl) 2 b2 rfl) 3 b3 rfl) 4 b4 rfl) 5 b5 rfl) 6 b6 rfl) 7 b7 rfl) 8 b8 rfl) 9 b9 rfl) 10 b10 rfl)
theorem puts13 {W : World} {g : Nat} {t : TypeId} {b0 b1 b2 b3 b4 b5 b6 b7 b8 b9 b10 b11 b12 : Value} {cs : Array Value} (hs : cs.size = 13) (h : W.heap[g]? = some (.cells cs t (0, 0))) : (((((((((((((W.setCell ⟨g, 0, none⟩ b0).setCell ⟨g, 1, none⟩ b1).setCell ⟨g, 2, none⟩ b2).setCell ⟨g, 3, none⟩ b3).setCell ⟨g, 4, none⟩ b4).setCell ⟨g, 5, none⟩ b5).setCell ⟨g, 6, none⟩ b6).setCell ⟨g, 7, none⟩ b7).setCell ⟨g, 8, none⟩ b8).setCell ⟨g, 9, none⟩ b9).setCell ⟨g, 10, none⟩ b10).setCell ⟨g, 11, none⟩ b11).setCell ⟨g, 12, none⟩ b12).heap[g]? = some (.cells #[b0, b1, b2, b3, b4, b5, b6, b7, b8, b9, b10, b11, b12] t (0, 0)) := by
  obtain ⟨a0, l0, rfl, h0⟩ := size_out cs _ hs
  obtain ⟨a1, l1, rfl, h1⟩ := len_out l0 _ h0
  obtain ⟨a2, l2, rfl, h2⟩ := len_out l1 _ h1
  obtain ⟨a3, l3, rfl, h3⟩ := len_out l2 _ h2
  obtain ⟨a4, l4, rfl, h4⟩ := len_out l3 _ h3
  obtain ⟨a5, l5, rfl, h5⟩ := len_out l4 _ h4
  obtain ⟨a6, l6, rfl, h6⟩ := len_out l5 _ h5
  obtain ⟨a7, l7, rfl, h7⟩ := len_out l6 _ h6
  obtain ⟨a8, l8, rfl, h8⟩ := len_out l7 _ h7
  obtain ⟨a9, l9, rfl, h9⟩ := len_out l8 _ h8
  obtain ⟨a10, l10, rfl, h10⟩ := len_out l9 _ h9
  obtain ⟨a11, l11, rfl, h11⟩ := len_out l10 _ h10
  obtain ⟨a12, l12, rfl, h12⟩ := len_out l11 _ h11
  obtain rfl := len_nil l12 h12
  exact (blk_put (cs' := #[b0, b1, b2, b3, b4, b5, b6, b7, b8, b9, b10, b11, b12]) (blk_put (cs' := #[b0, b1, b2, b3, b4, b5, b6, b7, b8, b9, b10, b11, a12]) (blk_put (cs' := #[b0, b1, b2, b3, b4, b5, b6, b7, b8, b9, b10, a11, a12]) (blk_put (cs' := #[b0, b1, b2, b3, b4, b5, b6, b7, b8, b9, a10, a11, a12]) (blk_put (cs' := #[b0, b1, b2, b3, b4, b5, b6, b7, b8, a9, a10, a11, a12]) (blk_put (cs' := #[b0, b1, b2, b3, b4, b5, b6, b7, a8, a9, a10, a11, a12]) (blk_put (cs' := #[b0, b1, b2, b3, b4, b5, b6, a7, a8, a9, a10, a11, a12]) (blk_put (cs' := #[b0, b1, b2, b3, b4, b5, a6, a7, a8, a9, a10, a11, a12]) (blk_put (cs' := #[b0, b1, b2, b3, b4, a5, a6, a7, a8, a9, a10, a11, a12]) (blk_put (cs' := #[b0, b1, b2, b3, a4, a5, a6, a7, a8, a9, a10, a11, a12]) (blk_put (cs' := #[b0, b1, b2, a3, a4, a5, a6, a7, a8, a9, a10, a11, a12]) (blk_put (cs' := #[b0, b1, a2, a3, a4, a5, a6, a7, a8, a9, a10, a11, a12]) (blk_put (cs' := #[b0, a1, a2, a3, a4, a5, a6, a7, a8, a9, a10, a11, a12]) h 0 b0 rfl) 1 b1 rfl) 2 b2 rfl) 3 b3 rfl) 4 b4 rfl) 5 b5 rfl) 6 b6 rfl) 7 b7 rfl) 8 b8 rfl) 9 b9 rfl) 10 b10 rfl) 11 b11 rfl) 12 b12 rfl)
theorem aq {P : Prop} (h : P) : Aside0 P := ⟨h⟩
theorem stB {P Q : Prop} (h : Aside0 P) (e : P → Q := by intro h_; (with_reducible repeat (first | refine blk_drewN ?_ _ | refine blk_drew ?_ | refine blk_alloc ?_ _)); exact h_) : Q := e h.out
theorem farO {w : World} {g : Nat} {o : Obj} {p : Addr} (h : w.heap[g]? = some o) (hp : g ≠ p.block) (u : Value) : (w.setCell p u).heap[g]? = some o := (Below.heap_setCell w p u g hp).trans h
theorem stF {P Q : Prop} (h : Aside0 P) (e : P → Q := by intro h_; (repeat (first | (with_reducible refine blk_drewN ?_ _) | (with_reducible refine blk_drew ?_) | (with_reducible refine blk_alloc ?_ _) | ((with_reducible refine farO ?_ ?hf_ _); (case hf_ => (try dsimp only); exact Aside0.out (by with_reducible assumption))))); exact h_) : Q := e h.out
theorem stH {P Q : Prop} (h : Aside0 P) (e : P → Q := by intro h_; repeat (first | (with_reducible first | exact h_ | apply below_alloc | apply pw_below_drewN | apply below_drew1 | refine below_set ?_ (Aside0.out (by assumption))) | exact h_)) : Q := e h.out
theorem stK {P Q : Prop} (h : Aside0 P) (e : P → Q := by intro h_; repeat (first | (with_reducible first | exact h_ | apply KeepBut.set_ | apply keep_drewN | apply keep_drew | apply keep_alloc | refine keep_far ?_ (Aside0.out (by assumption)) _) | exact h_)) : Q := e h.out
theorem stC {P Q : Prop} (h : P) (e : P → Q := by intro h_; repeat (first | exact h_ | (with_reducible refine Kd.C_alloc ?_ _) | (with_reducible refine Kd.C_drewN ?_ _) | (with_reducible refine Kd.C_drew ?_))) : Q := e h
theorem fitR {P : Prop} (h : P := by (try simp only [List.map_toArray, List.map_cons, List.map_nil]); first | done | rfl | (simp only [List.length_drop, List.length_take]; rfl)) : P := h
theorem eqW {α : Sort _} {a b : α} (h : a = b := by first | rfl | (simp [errW_none, errW_some] <;> rfl) | (simp [*, errW_none, errW_some] <;> rfl)) : a = b := h
theorem eqS {α : Sort _} {a b : α} (h : a = b := by first | rfl | (simp; done) | (simp [*]; done)) : a = b := h
end Go.Proofs.Ytfjmnaobfbmllaa.M
namespace Go.Proofs.Ytfjmnaobfbmllaa.M
open Go.RowKit Go.Proofs.YtfjmnaobfbmllaaW.PrintWords Go.Proofs.YtfjmnaobfbmllaaW.PrintLast Go.Proofs.YtfjmnaobfbmllaaW.PrintMore
attribute [local go_sem] max2_int min2_int max_two min_two max_three min_three max_four min_four   -- for this text's walks alone
set_option linter.unusedVariables false
set_option linter.unusedSimpArgs false
theorem eqA52 (d : Nat) (w : World) (x0 y0 : Int) (x1 y1 : Int) (x2 y2 : Int) :
    (Op.equalIn (d + 2) 52 (.agg #[.int .i64 x0, .int .i64 x1, .int .i64 x2]) (.agg #[.int .i64 y0, .int .i64 y1, .int .i64 y2])).run Try.prog w = .ok (x0 == y0 && (x1 == y1 && (x2 == y2))) w := by
  refine eqA_of Try.underlying52 (by kernel_rfl) ?_
  refine eqf_cons (by rfl) (by go_simp; rfl) (by go_simp; rfl) (by go_simp) ?_
  refine eqf_cons (by rfl) (by go_simp; rfl) (by go_simp; rfl) (by go_simp) ?_
  exact eqf_last (by rfl) (by go_simp; rfl) (by go_simp; rfl) (by go_simp)
end Go.Proofs.Ytfjmnaobfbmllaa.M
namespace Go.Proofs.Ytfjmnaobfbmllaa.M
open Go.RowKit Go.Proofs.YtfjmnaobfbmllaaW.PrintWords Go.Proofs.YtfjmnaobfbmllaaW.PrintLast Go.Proofs.YtfjmnaobfbmllaaW.PrintMore
set_option linter.unusedVariables false
set_option linter.unusedSimpArgs false
set_option linter.unnecessarySimpa false
attribute [local go_sem high] eqA52
def bareP (least : Int) (pg : Int) (x nd : Bool) (n t1 t2 t3 ls : Int) (l : List S33) (m : List S65) (f0 f1 f2 f3 f4 f5 f6 : Bool) : Bool :=
 (f0 || pg == 0) && (f1 || !x) && (f2 || !nd) && (f3 || (t1 == 0 && (t2 == 0 && (t3 == 0)))) && ((f4 && decide (n ≥ least)) || n == 0) && (f5 || (ls == 0 && (l.length : Int) == 0)) && (f6 || (m.length : Int) == 0) && (!f4 || decide (n ≥ least))
set_option maxHeartbeats 8000000 in
set_option maxRecDepth 100000 in
theorem bareLock (k pg n t1 t2 t3 ls : Int) (x nd : Bool) (A B : Option Addr) (c d : Nat) (l : List S33) (m : List S65) (w : World) (hk : ¬ k = 13) (hl : l.length ≤ 9223372036854775807) (hm : m.length ≤ 9223372036854775807) :
  Calls Try.prog 93 #[.agg #[.int .i64 k, .int .i64 pg, .bool x, .bool nd, .int .i64 n, .int .i64 t1, .int .i64 t2, .int .i64 t3, .int .i64 ls, .slice A l.length c, .slice B m.length d], .agg #[.bool true, .bool true, .bool true, .bool false, .bool false, .bool false, .bool false]] w fun e w' => e = .returned (.bool (bareP 1 pg x nd n t1 t2 t3 ls l m true true true false false false false)) ∧ Below w.heap.size w w' := by
 have hu55 := Try.underlying55
 have hu107 := Try.underlying107
 have hu52 := Try.underlying52
 have hu24 := Try.underlying24
 have HB := Aside0.mk (Below.refl w.heap.size w)
 have ek : (k == 13) = false := beq_eq_false_iff_ne.mpr hk
 clear hk
 go_enter Try.func93, Try.ntmps93
 go_upto_region 2 with (first | ((with_reducible refine gate_dst (N := 2) rfl ?_); refine box_event ?hg (N := 2) ?hd (cs := #[.int .i64 k, .int .i64 pg, .bool x, .bool nd, .int .i64 n, .int .i64 t1, .int .i64 t2, .int .i64 t3, .int .i64 ls, .slice A l.length c, .slice B m.length d]) (t := 55) ?hr ?_; (case hd => rfl); (case hg => rfl); (case hr => first | (go_simp; done) | (go_simp; rfl)); intro g1 hg w3 hbox hb; have n0_ := Aside0.mk (below_step HB.out hb); clear HB; have HB := n0_; clear n0_; have BK1 := Aside0.mk hbox; clear hbox; clear hb hg) | ((with_reducible refine gate_dst (N := 3) rfl ?_); refine box_event ?hg (N := 3) ?hd (cs := #[.bool true, .bool true, .bool true, .bool false, .bool false, .bool false, .bool false]) (t := 107) ?hr ?_; (case hd => rfl); (case hg => rfl); (case hr => first | (go_simp; done) | (go_simp; rfl)); intro g2 hg w4 hbox hb; have n0_ := Aside0.mk (below_step HB.out hb); have n1_ := Aside0.mk (blk_below BK1.out hb); clear BK1; have BK1 := n1_; clear n1_; clear HB; have HB := n0_; clear n0_; have BK2 := Aside0.mk hbox; clear hbox; clear hb hg))
 obtain ⟨hx0, hx1, hx2, hx3, hx4, hx5, hx6, hx7, hx8, hx9, hx10⟩ := cl11 (W := w4) BK1.out
 obtain ⟨hy0, hy1, hy2, hy3, hy4, hy5, hy6⟩ := cl7 (W := w4) BK2.out
 go_upto_region 4 with (fail)
 simp only [List.append_eq, List.cons_append, List.nil_append]
 by_cases h : (t1 == 0 && (t2 == 0 && (t3 == 0))) = true
 ·have e3 := h
  clear h
  by_cases h : n = 0
  ·have e5 : (n == 0) = true := beq_iff_eq.mpr h
   clear h
   by_cases h : ls = 0
   ·have e6 : (ls == 0) = true := beq_iff_eq.mpr h
    clear h
    by_cases h : (l.length : Int) = 0
    ·have e7 : ((l.length : Int) == 0) = true := beq_iff_eq.mpr h
     clear h
     by_cases h : (m.length : Int) = 0
     ·have e8 : ((m.length : Int) == 0) = true := beq_iff_eq.mpr h
      clear h
      go_wp2
      go_ret
      exact ⟨by simp [bareP, *], HB.out⟩
     ·have e8 : ((m.length : Int) == 0) = false := beq_eq_false_iff_ne.mpr h
      clear h
      go_wp2
      go_ret
      exact ⟨by simp [bareP, *], HB.out⟩
    ·have e7 : ((l.length : Int) == 0) = false := beq_eq_false_iff_ne.mpr h
     clear h
     go_wp2
     go_ret
     exact ⟨by simp [bareP, *], HB.out⟩
   ·have e6 : (ls == 0) = false := beq_eq_false_iff_ne.mpr h
    clear h
    go_wp2
    go_ret
    exact ⟨by simp [bareP, *], HB.out⟩
  ·have e5 : (n == 0) = false := beq_eq_false_iff_ne.mpr h
   clear h
   go_wp2
   go_ret
   exact ⟨by simp [bareP, *], HB.out⟩
 ·have e3 : (t1 == 0 && (t2 == 0 && (t3 == 0))) = false := by simpa using h
  clear h
  go_wp2
  go_ret
  exact ⟨by simp [bareP, *], HB.out⟩
set_option maxHeartbeats 8000000 in
set_option maxRecDepth 100000 in
theorem bareFree (k pg n t1 t2 t3 ls : Int) (x nd : Bool) (A B : Option Addr) (c d : Nat) (l : List S33) (m : List S65) (w : World) (hk : ¬ k = 13) (hl : l.length ≤ 9223372036854775807) (hm : m.length ≤ 9223372036854775807) :
  Calls Try.prog 93 #[.agg #[.int .i64 k, .int .i64 pg, .bool x, .bool nd, .int .i64 n, .int .i64 t1, .int .i64 t2, .int .i64 t3, .int .i64 ls, .slice A l.length c, .slice B m.length d], .agg #[.bool true, .bool true, .bool false, .bool false, .bool false, .bool false, .bool false]] w fun e w' => e = .returned (.bool (bareP 1 pg x nd n t1 t2 t3 ls l m true true false false false false false)) ∧ Below w.heap.size w w' := by
 have hu55 := Try.underlying55
 have hu107 := Try.underlying107
 have hu52 := Try.underlying52
 have hu24 := Try.underlying24
 have HB := Aside0.mk (Below.refl w.heap.size w)
 have ek : (k == 13) = false := beq_eq_false_iff_ne.mpr hk
 clear hk
 go_enter Try.func93, Try.ntmps93
 go_upto_region 2 with (first | ((with_reducible refine gate_dst (N := 2) rfl ?_); refine box_event ?hg (N := 2) ?hd (cs := #[.int .i64 k, .int .i64 pg, .bool x, .bool nd, .int .i64 n, .int .i64 t1, .int .i64 t2, .int .i64 t3, .int .i64 ls, .slice A l.length c, .slice B m.length d]) (t := 55) ?hr ?_; (case hd => rfl); (case hg => rfl); (case hr => first | (go_simp; done) | (go_simp; rfl)); intro g1 hg w3 hbox hb; have n0_ := Aside0.mk (below_step HB.out hb); clear HB; have HB := n0_; clear n0_; have BK1 := Aside0.mk hbox; clear hbox; clear hb hg) | ((with_reducible refine gate_dst (N := 3) rfl ?_); refine box_event ?hg (N := 3) ?hd (cs := #[.bool true, .bool true, .bool false, .bool false, .bool false, .bool false, .bool false]) (t := 107) ?hr ?_; (case hd => rfl); (case hg => rfl); (case hr => first | (go_simp; done) | (go_simp; rfl)); intro g2 hg w4 hbox hb; have n0_ := Aside0.mk (below_step HB.out hb); have n1_ := Aside0.mk (blk_below BK1.out hb); clear BK1; have BK1 := n1_; clear n1_; clear HB; have HB := n0_; clear n0_; have BK2 := Aside0.mk hbox; clear hbox; clear hb hg))
 obtain ⟨hx0, hx1, hx2, hx3, hx4, hx5, hx6, hx7, hx8, hx9, hx10⟩ := cl11 (W := w4) BK1.out
 obtain ⟨hy0, hy1, hy2, hy3, hy4, hy5, hy6⟩ := cl7 (W := w4) BK2.out
 go_upto_region 4 with (fail)
 simp only [List.append_eq, List.cons_append, List.nil_append]
 by_cases h : nd = false
 ·subst h
  by_cases h : (t1 == 0 && (t2 == 0 && (t3 == 0))) = true
  ·have e3 := h
   clear h
   by_cases h : n = 0
   ·have e5 : (n == 0) = true := beq_iff_eq.mpr h
    clear h
    by_cases h : ls = 0
    ·have e6 : (ls == 0) = true := beq_iff_eq.mpr h
     clear h
     by_cases h : (l.length : Int) = 0
     ·have e7 : ((l.length : Int) == 0) = true := beq_iff_eq.mpr h
      clear h
      by_cases h : (m.length : Int) = 0
      ·have e8 : ((m.length : Int) == 0) = true := beq_iff_eq.mpr h
       clear h
       go_wp2
       go_ret
       exact ⟨by simp [bareP, *], HB.out⟩
      ·have e8 : ((m.length : Int) == 0) = false := beq_eq_false_iff_ne.mpr h
       clear h
       go_wp2
       go_ret
       exact ⟨by simp [bareP, *], HB.out⟩
     ·have e7 : ((l.length : Int) == 0) = false := beq_eq_false_iff_ne.mpr h
      clear h
      go_wp2
      go_ret
      exact ⟨by simp [bareP, *], HB.out⟩
    ·have e6 : (ls == 0) = false := beq_eq_false_iff_ne.mpr h
     clear h
     go_wp2
     go_ret
     exact ⟨by simp [bareP, *], HB.out⟩
   ·have e5 : (n == 0) = false := beq_eq_false_iff_ne.mpr h
    clear h
    go_wp2
    go_ret
    exact ⟨by simp [bareP, *], HB.out⟩
  ·have e3 : (t1 == 0 && (t2 == 0 && (t3 == 0))) = false := by simpa using h
   clear h
   go_wp2
   go_ret
   exact ⟨by simp [bareP, *], HB.out⟩
 ·obtain rfl : nd = true := by simpa using h
  clear h
  go_wp2
  go_ret
  exact ⟨by simp [bareP, *], HB.out⟩
set_option maxHeartbeats 8000000 in
set_option maxRecDepth 100000 in
theorem bareUse (k pg n t1 t2 t3 ls : Int) (x nd : Bool) (A B : Option Addr) (c d : Nat) (l : List S33) (m : List S65) (w : World) (hk : ¬ k = 13) (hl : l.length ≤ 9223372036854775807) (hm : m.length ≤ 9223372036854775807) :
  Calls Try.prog 93 #[.agg #[.int .i64 k, .int .i64 pg, .bool x, .bool nd, .int .i64 n, .int .i64 t1, .int .i64 t2, .int .i64 t3, .int .i64 ls, .slice A l.length c, .slice B m.length d], .agg #[.bool true, .bool false, .bool false, .bool false, .bool false, .bool false, .bool false]] w fun e w' => e = .returned (.bool (bareP 1 pg x nd n t1 t2 t3 ls l m true false false false false false false)) ∧ Below w.heap.size w w' := by
 have hu55 := Try.underlying55
 have hu107 := Try.underlying107
 have hu52 := Try.underlying52
 have hu24 := Try.underlying24
 have HB := Aside0.mk (Below.refl w.heap.size w)
 have ek : (k == 13) = false := beq_eq_false_iff_ne.mpr hk
 clear hk
 go_enter Try.func93, Try.ntmps93
 go_upto_region 2 with (first | ((with_reducible refine gate_dst (N := 2) rfl ?_); refine box_event ?hg (N := 2) ?hd (cs := #[.int .i64 k, .int .i64 pg, .bool x, .bool nd, .int .i64 n, .int .i64 t1, .int .i64 t2, .int .i64 t3, .int .i64 ls, .slice A l.length c, .slice B m.length d]) (t := 55) ?hr ?_; (case hd => rfl); (case hg => rfl); (case hr => first | (go_simp; done) | (go_simp; rfl)); intro g1 hg w3 hbox hb; have n0_ := Aside0.mk (below_step HB.out hb); clear HB; have HB := n0_; clear n0_; have BK1 := Aside0.mk hbox; clear hbox; clear hb hg) | ((with_reducible refine gate_dst (N := 3) rfl ?_); refine box_event ?hg (N := 3) ?hd (cs := #[.bool true, .bool false, .bool false, .bool false, .bool false, .bool false, .bool false]) (t := 107) ?hr ?_; (case hd => rfl); (case hg => rfl); (case hr => first | (go_simp; done) | (go_simp; rfl)); intro g2 hg w4 hbox hb; have n0_ := Aside0.mk (below_step HB.out hb); have n1_ := Aside0.mk (blk_below BK1.out hb); clear BK1; have BK1 := n1_; clear n1_; clear HB; have HB := n0_; clear n0_; have BK2 := Aside0.mk hbox; clear hbox; clear hb hg))
 obtain ⟨hx0, hx1, hx2, hx3, hx4, hx5, hx6, hx7, hx8, hx9, hx10⟩ := cl11 (W := w4) BK1.out
 obtain ⟨hy0, hy1, hy2, hy3, hy4, hy5, hy6⟩ := cl7 (W := w4) BK2.out
 go_upto_region 4 with (fail)
 simp only [List.append_eq, List.cons_append, List.nil_append]
 by_cases h : x = false
 ·subst h
  by_cases h : nd = false
  ·subst h
   by_cases h : (t1 == 0 && (t2 == 0 && (t3 == 0))) = true
   ·have e3 := h
    clear h
    by_cases h : n = 0
    ·have e5 : (n == 0) = true := beq_iff_eq.mpr h
     clear h
     by_cases h : ls = 0
     ·have e6 : (ls == 0) = true := beq_iff_eq.mpr h
      clear h
      by_cases h : (l.length : Int) = 0
      ·have e7 : ((l.length : Int) == 0) = true := beq_iff_eq.mpr h
       clear h
       by_cases h : (m.length : Int) = 0
       ·have e8 : ((m.length : Int) == 0) = true := beq_iff_eq.mpr h
        clear h
        go_wp2
        go_ret
        exact ⟨by simp [bareP, *], HB.out⟩
       ·have e8 : ((m.length : Int) == 0) = false := beq_eq_false_iff_ne.mpr h
        clear h
        go_wp2
        go_ret
        exact ⟨by simp [bareP, *], HB.out⟩
      ·have e7 : ((l.length : Int) == 0) = false := beq_eq_false_iff_ne.mpr h
       clear h
       go_wp2
       go_ret
       exact ⟨by simp [bareP, *], HB.out⟩
     ·have e6 : (ls == 0) = false := beq_eq_false_iff_ne.mpr h
      clear h
      go_wp2
      go_ret
      exact ⟨by simp [bareP, *], HB.out⟩
    ·have e5 : (n == 0) = false := beq_eq_false_iff_ne.mpr h
     clear h
     go_wp2
     go_ret
     exact ⟨by simp [bareP, *], HB.out⟩
   ·have e3 : (t1 == 0 && (t2 == 0 && (t3 == 0))) = false := by simpa using h
    clear h
    go_wp2
    go_ret
    exact ⟨by simp [bareP, *], HB.out⟩
  ·obtain rfl : nd = true := by simpa using h
   clear h
   go_wp2
   go_ret
   exact ⟨by simp [bareP, *], HB.out⟩
 ·obtain rfl : x = true := by simpa using h
  clear h
  go_wp2
  go_ret
  exact ⟨by simp [bareP, *], HB.out⟩
set_option maxHeartbeats 8000000 in
set_option maxRecDepth 100000 in
theorem bareLog (k pg n t1 t2 t3 ls : Int) (x nd : Bool) (A B : Option Addr) (c d : Nat) (l : List S33) (m : List S65) (w : World) (hk : ¬ k = 13) (hl : l.length ≤ 9223372036854775807) (hm : m.length ≤ 9223372036854775807) :
  Calls Try.prog 93 #[.agg #[.int .i64 k, .int .i64 pg, .bool x, .bool nd, .int .i64 n, .int .i64 t1, .int .i64 t2, .int .i64 t3, .int .i64 ls, .slice A l.length c, .slice B m.length d], .agg #[.bool false, .bool false, .bool false, .bool false, .bool false, .bool false, .bool true]] w fun e w' => e = .returned (.bool (bareP 1 pg x nd n t1 t2 t3 ls l m false false false false false false true)) ∧ Below w.heap.size w w' := by
 have hu55 := Try.underlying55
 have hu107 := Try.underlying107
 have hu52 := Try.underlying52
 have hu24 := Try.underlying24
 have HB := Aside0.mk (Below.refl w.heap.size w)
 have ek : (k == 13) = false := beq_eq_false_iff_ne.mpr hk
 clear hk
 go_enter Try.func93, Try.ntmps93
 go_upto_region 2 with (first | ((with_reducible refine gate_dst (N := 2) rfl ?_); refine box_event ?hg (N := 2) ?hd (cs := #[.int .i64 k, .int .i64 pg, .bool x, .bool nd, .int .i64 n, .int .i64 t1, .int .i64 t2, .int .i64 t3, .int .i64 ls, .slice A l.length c, .slice B m.length d]) (t := 55) ?hr ?_; (case hd => rfl); (case hg => rfl); (case hr => first | (go_simp; done) | (go_simp; rfl)); intro g1 hg w3 hbox hb; have n0_ := Aside0.mk (below_step HB.out hb); clear HB; have HB := n0_; clear n0_; have BK1 := Aside0.mk hbox; clear hbox; clear hb hg) | ((with_reducible refine gate_dst (N := 3) rfl ?_); refine box_event ?hg (N := 3) ?hd (cs := #[.bool false, .bool false, .bool false, .bool false, .bool false, .bool false, .bool true]) (t := 107) ?hr ?_; (case hd => rfl); (case hg => rfl); (case hr => first | (go_simp; done) | (go_simp; rfl)); intro g2 hg w4 hbox hb; have n0_ := Aside0.mk (below_step HB.out hb); have n1_ := Aside0.mk (blk_below BK1.out hb); clear BK1; have BK1 := n1_; clear n1_; clear HB; have HB := n0_; clear n0_; have BK2 := Aside0.mk hbox; clear hbox; clear hb hg))
 obtain ⟨hx0, hx1, hx2, hx3, hx4, hx5, hx6, hx7, hx8, hx9, hx10⟩ := cl11 (W := w4) BK1.out
 obtain ⟨hy0, hy1, hy2, hy3, hy4, hy5, hy6⟩ := cl7 (W := w4) BK2.out
 go_upto_region 4 with (fail)
 simp only [List.append_eq, List.cons_append, List.nil_append]
 by_cases h : pg = 0
 ·have e0 : (pg == 0) = true := beq_iff_eq.mpr h
  clear h
  by_cases h : x = false
  ·subst h
   by_cases h : nd = false
   ·subst h
    by_cases h : (t1 == 0 && (t2 == 0 && (t3 == 0))) = true
    ·have e3 := h
     clear h
     by_cases h : n = 0
     ·have e5 : (n == 0) = true := beq_iff_eq.mpr h
      clear h
      by_cases h : ls = 0
      ·have e6 : (ls == 0) = true := beq_iff_eq.mpr h
       clear h
       by_cases h : (l.length : Int) = 0
       ·have e7 : ((l.length : Int) == 0) = true := beq_iff_eq.mpr h
        clear h
        go_wp2
        go_ret
        exact ⟨by simp [bareP, *], HB.out⟩
       ·have e7 : ((l.length : Int) == 0) = false := beq_eq_false_iff_ne.mpr h
        clear h
        go_wp2
        go_ret
        exact ⟨by simp [bareP, *], HB.out⟩
      ·have e6 : (ls == 0) = false := beq_eq_false_iff_ne.mpr h
       clear h
       go_wp2
       go_ret
       exact ⟨by simp [bareP, *], HB.out⟩
     ·have e5 : (n == 0) = false := beq_eq_false_iff_ne.mpr h
      clear h
      go_wp2
      go_ret
      exact ⟨by simp [bareP, *], HB.out⟩
    ·have e3 : (t1 == 0 && (t2 == 0 && (t3 == 0))) = false := by simpa using h
     clear h
     go_wp2
     go_ret
     exact ⟨by simp [bareP, *], HB.out⟩
   ·obtain rfl : nd = true := by simpa using h
    clear h
    go_wp2
    go_ret
    exact ⟨by simp [bareP, *], HB.out⟩
  ·obtain rfl : x = true := by simpa using h
   clear h
   go_wp2
   go_ret
   exact ⟨by simp [bareP, *], HB.out⟩
 ·have e0 : (pg == 0) = false := beq_eq_false_iff_ne.mpr h
  clear h
  go_wp2
  go_ret
  exact ⟨by simp [bareP, *], HB.out⟩
set_option maxHeartbeats 8000000 in
set_option maxRecDepth 100000 in
theorem bareImg (k pg n t1 t2 t3 ls : Int) (x nd : Bool) (A B : Option Addr) (c d : Nat) (l : List S33) (m : List S65) (w : World) (hk : ¬ k = 13) (hl : l.length ≤ 9223372036854775807) (hm : m.length ≤ 9223372036854775807) :
  Calls Try.prog 93 #[.agg #[.int .i64 k, .int .i64 pg, .bool x, .bool nd, .int .i64 n, .int .i64 t1, .int .i64 t2, .int .i64 t3, .int .i64 ls, .slice A l.length c, .slice B m.length d], .agg #[.bool true, .bool false, .bool false, .bool false, .bool false, .bool true, .bool false]] w fun e w' => e = .returned (.bool (bareP 1 pg x nd n t1 t2 t3 ls l m true false false false false true false)) ∧ Below w.heap.size w w' := by
 have hu55 := Try.underlying55
 have hu107 := Try.underlying107
 have hu52 := Try.underlying52
 have hu24 := Try.underlying24
 have HB := Aside0.mk (Below.refl w.heap.size w)
 have ek : (k == 13) = false := beq_eq_false_iff_ne.mpr hk
 clear hk
 go_enter Try.func93, Try.ntmps93
 go_upto_region 2 with (first | ((with_reducible refine gate_dst (N := 2) rfl ?_); refine box_event ?hg (N := 2) ?hd (cs := #[.int .i64 k, .int .i64 pg, .bool x, .bool nd, .int .i64 n, .int .i64 t1, .int .i64 t2, .int .i64 t3, .int .i64 ls, .slice A l.length c, .slice B m.length d]) (t := 55) ?hr ?_; (case hd => rfl); (case hg => rfl); (case hr => first | (go_simp; done) | (go_simp; rfl)); intro g1 hg w3 hbox hb; have n0_ := Aside0.mk (below_step HB.out hb); clear HB; have HB := n0_; clear n0_; have BK1 := Aside0.mk hbox; clear hbox; clear hb hg) | ((with_reducible refine gate_dst (N := 3) rfl ?_); refine box_event ?hg (N := 3) ?hd (cs := #[.bool true, .bool false, .bool false, .bool false, .bool false, .bool true, .bool false]) (t := 107) ?hr ?_; (case hd => rfl); (case hg => rfl); (case hr => first | (go_simp; done) | (go_simp; rfl)); intro g2 hg w4 hbox hb; have n0_ := Aside0.mk (below_step HB.out hb); have n1_ := Aside0.mk (blk_below BK1.out hb); clear BK1; have BK1 := n1_; clear n1_; clear HB; have HB := n0_; clear n0_; have BK2 := Aside0.mk hbox; clear hbox; clear hb hg))
 obtain ⟨hx0, hx1, hx2, hx3, hx4, hx5, hx6, hx7, hx8, hx9, hx10⟩ := cl11 (W := w4) BK1.out
 obtain ⟨hy0, hy1, hy2, hy3, hy4, hy5, hy6⟩ := cl7 (W := w4) BK2.out
 go_upto_region 4 with (fail)
 simp only [List.append_eq, List.cons_append, List.nil_append]
 by_cases h : x = false
 ·subst h
  by_cases h : nd = false
  ·subst h
   by_cases h : (t1 == 0 && (t2 == 0 && (t3 == 0))) = true
   ·have e3 := h
    clear h
    by_cases h : n = 0
    ·have e5 : (n == 0) = true := beq_iff_eq.mpr h
     clear h
     by_cases h : (m.length : Int) = 0
     ·have e8 : ((m.length : Int) == 0) = true := beq_iff_eq.mpr h
      clear h
      go_wp2
      go_ret
      exact ⟨by simp [bareP, *], HB.out⟩
     ·have e8 : ((m.length : Int) == 0) = false := beq_eq_false_iff_ne.mpr h
      clear h
      go_wp2
      go_ret
      exact ⟨by simp [bareP, *], HB.out⟩
    ·have e5 : (n == 0) = false := beq_eq_false_iff_ne.mpr h
     clear h
     go_wp2
     go_ret
     exact ⟨by simp [bareP, *], HB.out⟩
   ·have e3 : (t1 == 0 && (t2 == 0 && (t3 == 0))) = false := by simpa using h
    clear h
    go_wp2
    go_ret
    exact ⟨by simp [bareP, *], HB.out⟩
  ·obtain rfl : nd = true := by simpa using h
   clear h
   go_wp2
   go_ret
   exact ⟨by simp [bareP, *], HB.out⟩
 ·obtain rfl : x = true := by simpa using h
  clear h
  go_wp2
  go_ret
  exact ⟨by simp [bareP, *], HB.out⟩
set_option maxHeartbeats 8000000 in
set_option maxRecDepth 100000 in
theorem bareTxn (k pg n t1 t2 t3 ls : Int) (x nd : Bool) (A B : Option Addr) (c d : Nat) (l : List S33) (m : List S65) (w : World) (hk : ¬ k = 13) (hl : l.length ≤ 9223372036854775807) (hm : m.length ≤ 9223372036854775807) :
  Calls Try.prog 93 #[.agg #[.int .i64 k, .int .i64 pg, .bool x, .bool nd, .int .i64 n, .int .i64 t1, .int .i64 t2, .int .i64 t3, .int .i64 ls, .slice A l.length c, .slice B m.length d], .agg #[.bool false, .bool false, .bool false, .bool true, .bool false, .bool false, .bool false]] w fun e w' => e = .returned (.bool (bareP 1 pg x nd n t1 t2 t3 ls l m false false false true false false false)) ∧ Below w.heap.size w w' := by
 have hu55 := Try.underlying55
 have hu107 := Try.underlying107
 have hu52 := Try.underlying52
 have hu24 := Try.underlying24
 have HB := Aside0.mk (Below.refl w.heap.size w)
 have ek : (k == 13) = false := beq_eq_false_iff_ne.mpr hk
 clear hk
 go_enter Try.func93, Try.ntmps93
 go_upto_region 2 with (first | ((with_reducible refine gate_dst (N := 2) rfl ?_); refine box_event ?hg (N := 2) ?hd (cs := #[.int .i64 k, .int .i64 pg, .bool x, .bool nd, .int .i64 n, .int .i64 t1, .int .i64 t2, .int .i64 t3, .int .i64 ls, .slice A l.length c, .slice B m.length d]) (t := 55) ?hr ?_; (case hd => rfl); (case hg => rfl); (case hr => first | (go_simp; done) | (go_simp; rfl)); intro g1 hg w3 hbox hb; have n0_ := Aside0.mk (below_step HB.out hb); clear HB; have HB := n0_; clear n0_; have BK1 := Aside0.mk hbox; clear hbox; clear hb hg) | ((with_reducible refine gate_dst (N := 3) rfl ?_); refine box_event ?hg (N := 3) ?hd (cs := #[.bool false, .bool false, .bool false, .bool true, .bool false, .bool false, .bool false]) (t := 107) ?hr ?_; (case hd => rfl); (case hg => rfl); (case hr => first | (go_simp; done) | (go_simp; rfl)); intro g2 hg w4 hbox hb; have n0_ := Aside0.mk (below_step HB.out hb); have n1_ := Aside0.mk (blk_below BK1.out hb); clear BK1; have BK1 := n1_; clear n1_; clear HB; have HB := n0_; clear n0_; have BK2 := Aside0.mk hbox; clear hbox; clear hb hg))
 obtain ⟨hx0, hx1, hx2, hx3, hx4, hx5, hx6, hx7, hx8, hx9, hx10⟩ := cl11 (W := w4) BK1.out
 obtain ⟨hy0, hy1, hy2, hy3, hy4, hy5, hy6⟩ := cl7 (W := w4) BK2.out
 go_upto_region 4 with (fail)
 simp only [List.append_eq, List.cons_append, List.nil_append]
 by_cases h : pg = 0
 ·have e0 : (pg == 0) = true := beq_iff_eq.mpr h
  clear h
  by_cases h : x = false
  ·subst h
   by_cases h : nd = false
   ·subst h
    by_cases h : n = 0
    ·have e5 : (n == 0) = true := beq_iff_eq.mpr h
     clear h
     by_cases h : ls = 0
     ·have e6 : (ls == 0) = true := beq_iff_eq.mpr h
      clear h
      by_cases h : (l.length : Int) = 0
      ·have e7 : ((l.length : Int) == 0) = true := beq_iff_eq.mpr h
       clear h
       by_cases h : (m.length : Int) = 0
       ·have e8 : ((m.length : Int) == 0) = true := beq_iff_eq.mpr h
        clear h
        go_wp2
        go_ret
        exact ⟨by simp [bareP, *], HB.out⟩
       ·have e8 : ((m.length : Int) == 0) = false := beq_eq_false_iff_ne.mpr h
        clear h
        go_wp2
        go_ret
        exact ⟨by simp [bareP, *], HB.out⟩
      ·have e7 : ((l.length : Int) == 0) = false := beq_eq_false_iff_ne.mpr h
       clear h
       go_wp2
       go_ret
       exact ⟨by simp [bareP, *], HB.out⟩
     ·have e6 : (ls == 0) = false := beq_eq_false_iff_ne.mpr h
      clear h
      go_wp2
      go_ret
      exact ⟨by simp [bareP, *], HB.out⟩
    ·have e5 : (n == 0) = false := beq_eq_false_iff_ne.mpr h
     clear h
     go_wp2
     go_ret
     exact ⟨by simp [bareP, *], HB.out⟩
   ·obtain rfl : nd = true := by simpa using h
    clear h
    go_wp2
    go_ret
    exact ⟨by simp [bareP, *], HB.out⟩
  ·obtain rfl : x = true := by simpa using h
   clear h
   go_wp2
   go_ret
   exact ⟨by simp [bareP, *], HB.out⟩
 ·have e0 : (pg == 0) = false := beq_eq_false_iff_ne.mpr h
  clear h
  go_wp2
  go_ret
  exact ⟨by simp [bareP, *], HB.out⟩
set_option maxHeartbeats 8000000 in
set_option maxRecDepth 100000 in
theorem bareNum (k pg n t1 t2 t3 ls : Int) (x nd : Bool) (A B : Option Addr) (c d : Nat) (l : List S33) (m : List S65) (w : World) (hk : ¬ k = 13) (hl : l.length ≤ 9223372036854775807) (hm : m.length ≤ 9223372036854775807) :
  Calls Try.prog 93 #[.agg #[.int .i64 k, .int .i64 pg, .bool x, .bool nd, .int .i64 n, .int .i64 t1, .int .i64 t2, .int .i64 t3, .int .i64 ls, .slice A l.length c, .slice B m.length d], .agg #[.bool false, .bool false, .bool false, .bool false, .bool true, .bool false, .bool false]] w fun e w' => e = .returned (.bool (bareP 1 pg x nd n t1 t2 t3 ls l m false false false false true false false)) ∧ Below w.heap.size w w' := by
 have hu55 := Try.underlying55
 have hu107 := Try.underlying107
 have hu52 := Try.underlying52
 have hu24 := Try.underlying24
 have HB := Aside0.mk (Below.refl w.heap.size w)
 have ek : (k == 13) = false := beq_eq_false_iff_ne.mpr hk
 clear hk
 go_enter Try.func93, Try.ntmps93
 go_upto_region 2 with (first | ((with_reducible refine gate_dst (N := 2) rfl ?_); refine box_event ?hg (N := 2) ?hd (cs := #[.int .i64 k, .int .i64 pg, .bool x, .bool nd, .int .i64 n, .int .i64 t1, .int .i64 t2, .int .i64 t3, .int .i64 ls, .slice A l.length c, .slice B m.length d]) (t := 55) ?hr ?_; (case hd => rfl); (case hg => rfl); (case hr => first | (go_simp; done) | (go_simp; rfl)); intro g1 hg w3 hbox hb; have n0_ := Aside0.mk (below_step HB.out hb); clear HB; have HB := n0_; clear n0_; have BK1 := Aside0.mk hbox; clear hbox; clear hb hg) | ((with_reducible refine gate_dst (N := 3) rfl ?_); refine box_event ?hg (N := 3) ?hd (cs := #[.bool false, .bool false, .bool false, .bool false, .bool true, .bool false, .bool false]) (t := 107) ?hr ?_; (case hd => rfl); (case hg => rfl); (case hr => first | (go_simp; done) | (go_simp; rfl)); intro g2 hg w4 hbox hb; have n0_ := Aside0.mk (below_step HB.out hb); have n1_ := Aside0.mk (blk_below BK1.out hb); clear BK1; have BK1 := n1_; clear n1_; clear HB; have HB := n0_; clear n0_; have BK2 := Aside0.mk hbox; clear hbox; clear hb hg))
 obtain ⟨hx0, hx1, hx2, hx3, hx4, hx5, hx6, hx7, hx8, hx9, hx10⟩ := cl11 (W := w4) BK1.out
 obtain ⟨hy0, hy1, hy2, hy3, hy4, hy5, hy6⟩ := cl7 (W := w4) BK2.out
 go_upto_region 4 with (fail)
 simp only [List.append_eq, List.cons_append, List.nil_append]
 by_cases h : pg = 0
 ·have e0 : (pg == 0) = true := beq_iff_eq.mpr h
  clear h
  by_cases h : x = false
  ·subst h
   by_cases h : nd = false
   ·subst h
    by_cases h : (t1 == 0 && (t2 == 0 && (t3 == 0))) = true
    ·have e3 := h
     clear h
     by_cases h : n ≥ 1
     ·have e4 : decide (n ≥ 1) = true := decide_eq_true h
      clear h
      by_cases h : ls = 0
      ·have e6 : (ls == 0) = true := beq_iff_eq.mpr h
       clear h
       by_cases h : (l.length : Int) = 0
       ·have e7 : ((l.length : Int) == 0) = true := beq_iff_eq.mpr h
        clear h
        by_cases h : (m.length : Int) = 0
        ·have e8 : ((m.length : Int) == 0) = true := beq_iff_eq.mpr h
         clear h
         go_wp2
         go_ret
         exact ⟨by simp [bareP, *], HB.out⟩
        ·have e8 : ((m.length : Int) == 0) = false := beq_eq_false_iff_ne.mpr h
         clear h
         go_wp2
         go_ret
         exact ⟨by simp [bareP, *], HB.out⟩
       ·have e7 : ((l.length : Int) == 0) = false := beq_eq_false_iff_ne.mpr h
        clear h
        go_wp2
        go_ret
        exact ⟨by simp [bareP, *], HB.out⟩
      ·have e6 : (ls == 0) = false := beq_eq_false_iff_ne.mpr h
       clear h
       go_wp2
       go_ret
       exact ⟨by simp [bareP, *], HB.out⟩
     ·have e4 : decide (n ≥ 1) = false := decide_eq_false h
      clear h
      by_cases h : n = 0
      ·have e5 : (n == 0) = true := beq_iff_eq.mpr h
       clear h
       by_cases h : ls = 0
       ·have e6 : (ls == 0) = true := beq_iff_eq.mpr h
        clear h
        by_cases h : (l.length : Int) = 0
        ·have e7 : ((l.length : Int) == 0) = true := beq_iff_eq.mpr h
         clear h
         by_cases h : (m.length : Int) = 0
         ·have e8 : ((m.length : Int) == 0) = true := beq_iff_eq.mpr h
          clear h
          go_wp2
          go_ret
          exact ⟨by simp [bareP, *], HB.out⟩
         ·have e8 : ((m.length : Int) == 0) = false := beq_eq_false_iff_ne.mpr h
          clear h
          go_wp2
          go_ret
          exact ⟨by simp [bareP, *], HB.out⟩
        ·have e7 : ((l.length : Int) == 0) = false := beq_eq_false_iff_ne.mpr h
         clear h
         go_wp2
         go_ret
         exact ⟨by simp [bareP, *], HB.out⟩
       ·have e6 : (ls == 0) = false := beq_eq_false_iff_ne.mpr h
        clear h
        go_wp2
        go_ret
        exact ⟨by simp [bareP, *], HB.out⟩
      ·have e5 : (n == 0) = false := beq_eq_false_iff_ne.mpr h
       clear h
       go_wp2
       go_ret
       exact ⟨by simp [bareP, *], HB.out⟩
    ·have e3 : (t1 == 0 && (t2 == 0 && (t3 == 0))) = false := by simpa using h
     clear h
     go_wp2
     go_ret
     exact ⟨by simp [bareP, *], HB.out⟩
   ·obtain rfl : nd = true := by simpa using h
    clear h
    go_wp2
    go_ret
    exact ⟨by simp [bareP, *], HB.out⟩
  ·obtain rfl : x = true := by simpa using h
   clear h
   go_wp2
   go_ret
   exact ⟨by simp [bareP, *], HB.out⟩
 ·have e0 : (pg == 0) = false := beq_eq_false_iff_ne.mpr h
  clear h
  go_wp2
  go_ret
  exact ⟨by simp [bareP, *], HB.out⟩
set_option maxHeartbeats 8000000 in
set_option maxRecDepth 100000 in
theorem bareRoom (k pg n t1 t2 t3 ls : Int) (x nd : Bool) (A B : Option Addr) (c d : Nat) (l : List S33) (m : List S65) (w : World) (hk : k = 13) (hl : l.length ≤ 9223372036854775807) (hm : m.length ≤ 9223372036854775807) :
  Calls Try.prog 93 #[.agg #[.int .i64 k, .int .i64 pg, .bool x, .bool nd, .int .i64 n, .int .i64 t1, .int .i64 t2, .int .i64 t3, .int .i64 ls, .slice A l.length c, .slice B m.length d], .agg #[.bool false, .bool false, .bool false, .bool false, .bool true, .bool false, .bool false]] w fun e w' => e = .returned (.bool (bareP 0 pg x nd n t1 t2 t3 ls l m false false false false true false false)) ∧ Below w.heap.size w w' := by
 have hu55 := Try.underlying55
 have hu107 := Try.underlying107
 have hu52 := Try.underlying52
 have hu24 := Try.underlying24
 have HB := Aside0.mk (Below.refl w.heap.size w)
 have ek : (k == 13) = true := beq_iff_eq.mpr hk
 clear hk
 go_enter Try.func93, Try.ntmps93
 go_upto_region 2 with (first | ((with_reducible refine gate_dst (N := 2) rfl ?_); refine box_event ?hg (N := 2) ?hd (cs := #[.int .i64 k, .int .i64 pg, .bool x, .bool nd, .int .i64 n, .int .i64 t1, .int .i64 t2, .int .i64 t3, .int .i64 ls, .slice A l.length c, .slice B m.length d]) (t := 55) ?hr ?_; (case hd => rfl); (case hg => rfl); (case hr => first | (go_simp; done) | (go_simp; rfl)); intro g1 hg w3 hbox hb; have n0_ := Aside0.mk (below_step HB.out hb); clear HB; have HB := n0_; clear n0_; have BK1 := Aside0.mk hbox; clear hbox; clear hb hg) | ((with_reducible refine gate_dst (N := 3) rfl ?_); refine box_event ?hg (N := 3) ?hd (cs := #[.bool false, .bool false, .bool false, .bool false, .bool true, .bool false, .bool false]) (t := 107) ?hr ?_; (case hd => rfl); (case hg => rfl); (case hr => first | (go_simp; done) | (go_simp; rfl)); intro g2 hg w4 hbox hb; have n0_ := Aside0.mk (below_step HB.out hb); have n1_ := Aside0.mk (blk_below BK1.out hb); clear BK1; have BK1 := n1_; clear n1_; clear HB; have HB := n0_; clear n0_; have BK2 := Aside0.mk hbox; clear hbox; clear hb hg))
 obtain ⟨hx0, hx1, hx2, hx3, hx4, hx5, hx6, hx7, hx8, hx9, hx10⟩ := cl11 (W := w4) BK1.out
 obtain ⟨hy0, hy1, hy2, hy3, hy4, hy5, hy6⟩ := cl7 (W := w4) BK2.out
 go_upto_region 4 with (fail)
 simp only [List.append_eq, List.cons_append, List.nil_append]
 by_cases h : pg = 0
 ·have e0 : (pg == 0) = true := beq_iff_eq.mpr h
  clear h
  by_cases h : x = false
  ·subst h
   by_cases h : nd = false
   ·subst h
    by_cases h : (t1 == 0 && (t2 == 0 && (t3 == 0))) = true
    ·have e3 := h
     clear h
     by_cases h : n ≥ 0
     ·have e4 : decide (n ≥ 0) = true := decide_eq_true h
      clear h
      by_cases h : ls = 0
      ·have e6 : (ls == 0) = true := beq_iff_eq.mpr h
       clear h
       by_cases h : (l.length : Int) = 0
       ·have e7 : ((l.length : Int) == 0) = true := beq_iff_eq.mpr h
        clear h
        by_cases h : (m.length : Int) = 0
        ·have e8 : ((m.length : Int) == 0) = true := beq_iff_eq.mpr h
         clear h
         go_wp2
         go_ret
         exact ⟨by simp [bareP, *], HB.out⟩
        ·have e8 : ((m.length : Int) == 0) = false := beq_eq_false_iff_ne.mpr h
         clear h
         go_wp2
         go_ret
         exact ⟨by simp [bareP, *], HB.out⟩
       ·have e7 : ((l.length : Int) == 0) = false := beq_eq_false_iff_ne.mpr h
        clear h
        go_wp2
        go_ret
        exact ⟨by simp [bareP, *], HB.out⟩
      ·have e6 : (ls == 0) = false := beq_eq_false_iff_ne.mpr h
       clear h
       go_wp2
       go_ret
       exact ⟨by simp [bareP, *], HB.out⟩
     ·have e4 : decide (n ≥ 0) = false := decide_eq_false h
      clear h
      by_cases h : n = 0
      ·have e5 : (n == 0) = true := beq_iff_eq.mpr h
       clear h
       by_cases h : ls = 0
       ·have e6 : (ls == 0) = true := beq_iff_eq.mpr h
        clear h
        by_cases h : (l.length : Int) = 0
        ·have e7 : ((l.length : Int) == 0) = true := beq_iff_eq.mpr h
         clear h
         by_cases h : (m.length : Int) = 0
         ·have e8 : ((m.length : Int) == 0) = true := beq_iff_eq.mpr h
          clear h
          go_wp2
          go_ret
          exact ⟨by simp [bareP, *], HB.out⟩
         ·have e8 : ((m.length : Int) == 0) = false := beq_eq_false_iff_ne.mpr h
          clear h
          go_wp2
          go_ret
          exact ⟨by simp [bareP, *], HB.out⟩
        ·have e7 : ((l.length : Int) == 0) = false := beq_eq_false_iff_ne.mpr h
         clear h
         go_wp2
         go_ret
         exact ⟨by simp [bareP, *], HB.out⟩
       ·have e6 : (ls == 0) = false := beq_eq_false_iff_ne.mpr h
        clear h
        go_wp2
        go_ret
        exact ⟨by simp [bareP, *], HB.out⟩
      ·have e5 : (n == 0) = false := beq_eq_false_iff_ne.mpr h
       clear h
       go_wp2
       go_ret
       exact ⟨by simp [bareP, *], HB.out⟩
    ·have e3 : (t1 == 0 && (t2 == 0 && (t3 == 0))) = false := by simpa using h
     clear h
     go_wp2
     go_ret
     exact ⟨by simp [bareP, *], HB.out⟩
   ·obtain rfl : nd = true := by simpa using h
    clear h
    go_wp2
    go_ret
    exact ⟨by simp [bareP, *], HB.out⟩
  ·obtain rfl : x = true := by simpa using h
   clear h
   go_wp2
   go_ret
   exact ⟨by simp [bareP, *], HB.out⟩
 ·have e0 : (pg == 0) = false := beq_eq_false_iff_ne.mpr h
  clear h
  go_wp2
  go_ret
  exact ⟨by simp [bareP, *], HB.out⟩
set_option maxHeartbeats 8000000 in
set_option maxRecDepth 100000 in
theorem bareGrant (k pg n t1 t2 t3 ls : Int) (x nd : Bool) (A B : Option Addr) (c d : Nat) (l : List S33) (m : List S65) (w : World) (hk : ¬ k = 13) (hl : l.length ≤ 9223372036854775807) (hm : m.length ≤ 9223372036854775807) :
  Calls Try.prog 93 #[.agg #[.int .i64 k, .int .i64 pg, .bool x, .bool nd, .int .i64 n, .int .i64 t1, .int .i64 t2, .int .i64 t3, .int .i64 ls, .slice A l.length c, .slice B m.length d], .agg #[.bool true, .bool true, .bool true, .bool false, .bool false, .bool true, .bool false]] w fun e w' => e = .returned (.bool (bareP 1 pg x nd n t1 t2 t3 ls l m true true true false false true false)) ∧ Below w.heap.size w w' := by
 have hu55 := Try.underlying55
 have hu107 := Try.underlying107
 have hu52 := Try.underlying52
 have hu24 := Try.underlying24
 have HB := Aside0.mk (Below.refl w.heap.size w)
 have ek : (k == 13) = false := beq_eq_false_iff_ne.mpr hk
 clear hk
 go_enter Try.func93, Try.ntmps93
 go_upto_region 2 with (first | ((with_reducible refine gate_dst (N := 2) rfl ?_); refine box_event ?hg (N := 2) ?hd (cs := #[.int .i64 k, .int .i64 pg, .bool x, .bool nd, .int .i64 n, .int .i64 t1, .int .i64 t2, .int .i64 t3, .int .i64 ls, .slice A l.length c, .slice B m.length d]) (t := 55) ?hr ?_; (case hd => rfl); (case hg => rfl); (case hr => first | (go_simp; done) | (go_simp; rfl)); intro g1 hg w3 hbox hb; have n0_ := Aside0.mk (below_step HB.out hb); clear HB; have HB := n0_; clear n0_; have BK1 := Aside0.mk hbox; clear hbox; clear hb hg) | ((with_reducible refine gate_dst (N := 3) rfl ?_); refine box_event ?hg (N := 3) ?hd (cs := #[.bool true, .bool true, .bool true, .bool false, .bool false, .bool true, .bool false]) (t := 107) ?hr ?_; (case hd => rfl); (case hg => rfl); (case hr => first | (go_simp; done) | (go_simp; rfl)); intro g2 hg w4 hbox hb; have n0_ := Aside0.mk (below_step HB.out hb); have n1_ := Aside0.mk (blk_below BK1.out hb); clear BK1; have BK1 := n1_; clear n1_; clear HB; have HB := n0_; clear n0_; have BK2 := Aside0.mk hbox; clear hbox; clear hb hg))
 obtain ⟨hx0, hx1, hx2, hx3, hx4, hx5, hx6, hx7, hx8, hx9, hx10⟩ := cl11 (W := w4) BK1.out
 obtain ⟨hy0, hy1, hy2, hy3, hy4, hy5, hy6⟩ := cl7 (W := w4) BK2.out
 go_upto_region 4 with (fail)
 simp only [List.append_eq, List.cons_append, List.nil_append]
 by_cases h : (t1 == 0 && (t2 == 0 && (t3 == 0))) = true
 ·have e3 := h
  clear h
  by_cases h : n = 0
  ·have e5 : (n == 0) = true := beq_iff_eq.mpr h
   clear h
   by_cases h : (m.length : Int) = 0
   ·have e8 : ((m.length : Int) == 0) = true := beq_iff_eq.mpr h
    clear h
    go_wp2
    go_ret
    exact ⟨by simp [bareP, *], HB.out⟩
   ·have e8 : ((m.length : Int) == 0) = false := beq_eq_false_iff_ne.mpr h
    clear h
    go_wp2
    go_ret
    exact ⟨by simp [bareP, *], HB.out⟩
  ·have e5 : (n == 0) = false := beq_eq_false_iff_ne.mpr h
   clear h
   go_wp2
   go_ret
   exact ⟨by simp [bareP, *], HB.out⟩
 ·have e3 : (t1 == 0 && (t2 == 0 && (t3 == 0))) = false := by simpa using h
  clear h
  go_wp2
  go_ret
  exact ⟨by simp [bareP, *], HB.out⟩
set_option maxHeartbeats 8000000 in
set_option maxRecDepth 100000 in
theorem bareVic (k pg n t1 t2 t3 ls : Int) (x nd : Bool) (A B : Option Addr) (c d : Nat) (l : List S33) (m : List S65) (w : World) (hk : ¬ k = 13) (hl : l.length ≤ 9223372036854775807) (hm : m.length ≤ 9223372036854775807) :
  Calls Try.prog 93 #[.agg #[.int .i64 k, .int .i64 pg, .bool x, .bool nd, .int .i64 n, .int .i64 t1, .int .i64 t2, .int .i64 t3, .int .i64 ls, .slice A l.length c, .slice B m.length d], .agg #[.bool false, .bool false, .bool false, .bool false, .bool false, .bool false, .bool false]] w fun e w' => e = .returned (.bool (bareP 1 pg x nd n t1 t2 t3 ls l m false false false false false false false)) ∧ Below w.heap.size w w' := by
 have hu55 := Try.underlying55
 have hu107 := Try.underlying107
 have hu52 := Try.underlying52
 have hu24 := Try.underlying24
 have HB := Aside0.mk (Below.refl w.heap.size w)
 have ek : (k == 13) = false := beq_eq_false_iff_ne.mpr hk
 clear hk
 go_enter Try.func93, Try.ntmps93
 go_upto_region 2 with (first | ((with_reducible refine gate_dst (N := 2) rfl ?_); refine box_event ?hg (N := 2) ?hd (cs := #[.int .i64 k, .int .i64 pg, .bool x, .bool nd, .int .i64 n, .int .i64 t1, .int .i64 t2, .int .i64 t3, .int .i64 ls, .slice A l.length c, .slice B m.length d]) (t := 55) ?hr ?_; (case hd => rfl); (case hg => rfl); (case hr => first | (go_simp; done) | (go_simp; rfl)); intro g1 hg w3 hbox hb; have n0_ := Aside0.mk (below_step HB.out hb); clear HB; have HB := n0_; clear n0_; have BK1 := Aside0.mk hbox; clear hbox; clear hb hg) | ((with_reducible refine gate_dst (N := 3) rfl ?_); refine box_event ?hg (N := 3) ?hd (cs := #[.bool false, .bool false, .bool false, .bool false, .bool false, .bool false, .bool false]) (t := 107) ?hr ?_; (case hd => rfl); (case hg => rfl); (case hr => first | (go_simp; done) | (go_simp; rfl)); intro g2 hg w4 hbox hb; have n0_ := Aside0.mk (below_step HB.out hb); have n1_ := Aside0.mk (blk_below BK1.out hb); clear BK1; have BK1 := n1_; clear n1_; clear HB; have HB := n0_; clear n0_; have BK2 := Aside0.mk hbox; clear hbox; clear hb hg))
 obtain ⟨hx0, hx1, hx2, hx3, hx4, hx5, hx6, hx7, hx8, hx9, hx10⟩ := cl11 (W := w4) BK1.out
 obtain ⟨hy0, hy1, hy2, hy3, hy4, hy5, hy6⟩ := cl7 (W := w4) BK2.out
 go_upto_region 4 with (fail)
 simp only [List.append_eq, List.cons_append, List.nil_append]
 by_cases h : pg = 0
 ·have e0 : (pg == 0) = true := beq_iff_eq.mpr h
  clear h
  by_cases h : x = false
  ·subst h
   by_cases h : nd = false
   ·subst h
    by_cases h : (t1 == 0 && (t2 == 0 && (t3 == 0))) = true
    ·have e3 := h
     clear h
     by_cases h : n = 0
     ·have e5 : (n == 0) = true := beq_iff_eq.mpr h
      clear h
      by_cases h : ls = 0
      ·have e6 : (ls == 0) = true := beq_iff_eq.mpr h
       clear h
       by_cases h : (l.length : Int) = 0
       ·have e7 : ((l.length : Int) == 0) = true := beq_iff_eq.mpr h
        clear h
        by_cases h : (m.length : Int) = 0
        ·have e8 : ((m.length : Int) == 0) = true := beq_iff_eq.mpr h
         clear h
         go_wp2
         go_ret
         exact ⟨by simp [bareP, *], HB.out⟩
        ·have e8 : ((m.length : Int) == 0) = false := beq_eq_false_iff_ne.mpr h
         clear h
         go_wp2
         go_ret
         exact ⟨by simp [bareP, *], HB.out⟩
       ·have e7 : ((l.length : Int) == 0) = false := beq_eq_false_iff_ne.mpr h
        clear h
        go_wp2
        go_ret
        exact ⟨by simp [bareP, *], HB.out⟩
      ·have e6 : (ls == 0) = false := beq_eq_false_iff_ne.mpr h
       clear h
       go_wp2
       go_ret
       exact ⟨by simp [bareP, *], HB.out⟩
     ·have e5 : (n == 0) = false := beq_eq_false_iff_ne.mpr h
      clear h
      go_wp2
      go_ret
      exact ⟨by simp [bareP, *], HB.out⟩
    ·have e3 : (t1 == 0 && (t2 == 0 && (t3 == 0))) = false := by simpa using h
     clear h
     go_wp2
     go_ret
     exact ⟨by simp [bareP, *], HB.out⟩
   ·obtain rfl : nd = true := by simpa using h
    clear h
    go_wp2
    go_ret
    exact ⟨by simp [bareP, *], HB.out⟩
  ·obtain rfl : x = true := by simpa using h
   clear h
   go_wp2
   go_ret
   exact ⟨by simp [bareP, *], HB.out⟩
 ·have e0 : (pg == 0) = false := beq_eq_false_iff_ne.mpr h
  clear h
  go_wp2
  go_ret
  exact ⟨by simp [bareP, *], HB.out⟩
def shP (k : Int) (nd : Bool) : Bool × Bool × Bool × Bool × Bool × Bool × Bool :=
 if k = 1 then (true, true, true, false, false, false, false)
 else if k = 2 ∨ k = 10 then (true, true, false, false, false, false, false)
 else if k = 3 then (true, false, false, false, false, false, false)
 else if k = 4 then (false, false, false, false, false, false, true)
 else if k = 5 then (true, false, false, false, false, true, false)
 else if k = 6 ∨ k = 11 then (false, false, false, true, false, false, false)
 else if k = 7 ∨ k = 8 ∨ k = 13 then (false, false, false, false, true, false, false)
 else if k = 9 then (true, true, true, false, false, nd, false)
 else (false, false, false, false, false, false, false)
def note_bare.f (k pg : Int) (x nd : Bool) (n t1 t2 t3 ls : Int) (l : List S33) (m : List S65) (f0 f1 f2 f3 f4 f5 f6 : Bool) : Option Bool :=
 if (f0, f1, f2, f3, f4, f5, f6) = shP k nd then some (bareP (if k = 13 then 0 else 1) pg x nd n t1 t2 t3 ls l m f0 f1 f2 f3 f4 f5 f6) else none
theorem note_bare.calls (k pg : Int) (x nd : Bool) (n t1 t2 t3 ls : Int) (A : Option Addr) (c : Nat) (l : List S33) (B : Option Addr) (d : Nat) (m : List S65) (f0 f1 f2 f3 f4 f5 f6 : Bool) (r : Bool) (w : World) (hr : Kd.C k33 w A l.length l) (hc : l.length ≤ c) (hr2 : Kd.C k65 w B m.length m) (hc2 : m.length ≤ d) (h : note_bare.f k pg x nd n t1 t2 t3 ls l m f0 f1 f2 f3 f4 f5 f6 = some r) :
  Calls Try.prog 93 #[.agg #[.int .i64 k, .int .i64 pg, .bool x, .bool nd, .int .i64 n, .int .i64 t1, .int .i64 t2, .int .i64 t3, .int .i64 ls, .slice A l.length c, .slice B m.length d], .agg #[.bool f0, .bool f1, .bool f2, .bool f3, .bool f4, .bool f5, .bool f6]] w fun e w' => e = .returned (.bool r) ∧ Below w.heap.size w w' := by
 have hl := Kd.C_max hr
 have hm := Kd.C_max hr2
 clear hr hc hr2 hc2
 unfold note_bare.f at h
 split at h
 ·rename_i hs
  obtain rfl := Option.some.inj h
  clear h
  by_cases h13 : k = 13
  ·rw [h13] at hs
   obtain ⟨rfl, rfl, rfl, rfl, rfl, rfl, rfl⟩ := (by simpa [shP] using hs : f0 = false ∧ f1 = false ∧ f2 = false ∧ f3 = false ∧ f4 = true ∧ f5 = false ∧ f6 = false)
   rw [if_pos h13]
   exact bareRoom k pg n t1 t2 t3 ls x nd A B c d l m w h13 hl hm
  ·rw [if_neg h13]
   unfold shP at hs
   repeat' split at hs
   all_goals (simp only [Prod.mk.injEq] at hs; obtain ⟨rfl, rfl, rfl, rfl, rfl, rfl, rfl⟩ := hs)
   ·exact bareLock k pg n t1 t2 t3 ls x nd A B c d l m w h13 hl hm
   ·exact bareFree k pg n t1 t2 t3 ls x nd A B c d l m w h13 hl hm
   ·exact bareUse k pg n t1 t2 t3 ls x nd A B c d l m w h13 hl hm
   ·exact bareLog k pg n t1 t2 t3 ls x nd A B c d l m w h13 hl hm
   ·exact bareImg k pg n t1 t2 t3 ls x nd A B c d l m w h13 hl hm
   ·exact bareTxn k pg n t1 t2 t3 ls x nd A B c d l m w h13 hl hm
   ·exact bareNum k pg n t1 t2 t3 ls x nd A B c d l m w h13 hl hm
   ·cases f5 with
    | true => exact bareGrant k pg n t1 t2 t3 ls x true A B c d l m w h13 hl hm
    | false => exact bareLock k pg n t1 t2 t3 ls x false A B c d l m w h13 hl hm
   ·exact bareVic k pg n t1 t2 t3 ls x nd A B c d l m w h13 hl hm
 ·cases h
end Go.Proofs.Ytfjmnaobfbmllaa.M
namespace Go.Proofs.Ytfjmnaobfbmllaa.M
open Go.RowKit Go.Proofs.YtfjmnaobfbmllaaW.PrintWords
def oddS (x : S33) : Bool := (!x.f0 && !x.f1.toList.isEmpty) || decide (200 < x.f1.size)
def sumS : List S33 → Nat
  | [] => 0
  | x :: l => 1 + x.f1.size + sumS l
def rawSize (l : List S33) : Nat := 9 + sumS l
def lastUsed (l : List S33) : Bool := match l.getLast? with
  | none => true
  | some x => x.f0
def goodP (lsn : Int) (l : List S33) : Bool := decide (0 ≤ lsn) && decide (lsn ≤ 1099511627776) && decide (l.length ≤ 32) && !l.any oddS && lastUsed l && decide (rawSize l ≤ 240)
def idxOf {α : Type} (p : α → Bool) : List α → Int
  | [] => -1
  | x :: l => if p x then 0 else if idxOf p l < 0 then -1 else idxOf p l + 1
theorem idxOf_nonneg {α : Type} (p : α → Bool) (l : List α) : 0 ≤ idxOf p l ↔ l.any p = true := by
  induction l with
  | nil => simp [idxOf]
  | cons x l ih =>
    rw [List.any_cons]
    cases h : p x with
    | true => simp [idxOf, h]
    | false =>
      rw [Bool.false_or, ← ih]
      by_cases h2 : idxOf p l < 0
      · simp [idxOf, h, h2]
      · simp [idxOf, h, h2]; omega
theorem idxOf_hit {α : Type} (p : α → Bool) (l : List α) (k : Nat) (hk : k < l.length) (hp : p l[k] = true) (hb : ∀ j (h : j < k), p (l[j]'(by omega)) = false) : idxOf p l = k := by
  induction l generalizing k with
  | nil => simp at hk
  | cons x l ih =>
    cases k with
    | zero => simp at hp; simp [idxOf, hp]
    | succ k =>
      have h0 := hb 0 (by omega)
      simp at h0
      have := ih k (by simpa using hk) (by simpa using hp) (fun j h => by have := hb (j + 1) (by omega); simpa using this)
      unfold idxOf
      simp only [h0, Bool.false_eq_true, if_false, this]
      rw [if_neg (by omega)]; omega
theorem idxOf_miss {α : Type} (p : α → Bool) (l : List α) (hb : ∀ j (h : j < l.length), p l[j] = false) : idxOf p l = -1 := by
  have h : ¬ (0 ≤ idxOf p l) := by
    rw [idxOf_nonneg]
    simp only [List.any_eq_true, not_exists, not_and]
    intro x hx
    obtain ⟨j, hj, rfl⟩ := List.getElem_of_mem hx
    simp [hb j hj]
  have h2 : -1 ≤ idxOf p l := by
    clear h hb
    induction l with
    | nil => simp [idxOf]
    | cons x l ih => unfold idxOf; split; omega; split <;> omega
  omega
end Go.Proofs.Ytfjmnaobfbmllaa.M
namespace Go.Proofs.Ytfjmnaobfbmllaa.M
open Go.RowKit Go.Proofs.YtfjmnaobfbmllaaW.PrintWords Go.Proofs.YtfjmnaobfbmllaaW.PrintLast Go.Proofs.YtfjmnaobfbmllaaW.PrintMore
attribute [local go_sem] max2_int min2_int max_two min_two max_three min_three max_four min_four   -- for this text's walks alone
set_option linter.unusedVariables false
set_option linter.unusedSimpArgs false
def slab_size.l0 : Nat → Int → List (S33) → Int → Int → Option (Int)
 | 0, _, _, _, _ => none
 | k + 1, x3, x6, x7, x8 => if x8 < x7 then (if 0 ≤ x8 then (if x8 < (x6.length : Int) then (slab_size.l0 k (wrap64 (x3 + (wrap64 (1 + (((rd_T33 x6 x8).f1).size : Int))))) x6 x7 (wrap64 (x8 + 1))) else (none)) else (none)) else (some x3)
def slab_size.f (k : Nat) (l0 : List (S33)) : Option (Int) := slab_size.l0 k 9 l0 (l0.length : Int) 0
set_option maxHeartbeats 8000000 in
set_option maxRecDepth 100000 in
theorem slab_size.calls (k : Nat) (A0 : Option Addr) (c0 : Nat) (l0 : List (S33)) (r : Int) (w : World) (hr0 : Kd.C k33 w A0 l0.length l0) (hc0 : l0.length ≤ c0) (h : slab_size.f k l0 = some r) :
  Calls Try.prog 81 #[.slice A0 l0.length c0] w fun e w' => e = .returned (.int .i64 r) ∧ Below w.heap.size w w' := by
 have hu33 := Try.underlying33
 have HR0 := aq hr0
 have HC0 := aq hc0
 clear hr0 hc0
 have HB := aq (Below.refl w.heap.size w)
 have H : (slab_size.l0 k 9 l0 (l0.length : Int) 0) = some r := h
 clear h
 have H' := aq H
 clear H
 go_enter Try.func81, Try.ntmps81
 go_wp2
 go_loopg [3, 8] k (fun kq v3 v8 w' => ∃ (x3_1 : Int) (x8_1 : Int), v3 = .int .i64 x3_1 ∧ v8 = .int .i64 x8_1 ∧ Aside0 (slab_size.l0 kq x3_1 l0 (l0.length : Int) x8_1 = some r) ∧ Aside0 (kq ≤ k) ∧ Aside0 (Below w.heap.size w w'))
 case atStart => exact ⟨(9), (0), eqS, eqS, H', ⟨Nat.le_refl _⟩, ⟨stH HB⟩⟩
 case round =>
  clear H'
  obtain ⟨x3_1, x8_1, rfl, rfl, HA, HK1, HB⟩ := hrel
  cases gk with
  | zero => exact absurd HA.out (by simp [slab_size.l0])
  | succ k1 =>
   have H := HA.out
   clear HA
   simp only [slab_size.l0] at H
   by_cases c2 : x8_1 < (l0.length : Int)
   ·rw [if_pos c2] at H
    have c2b0 : decide (x8_1 < (l0.length : Int)) = true := decide_eq_true c2
    clear c2
    by_cases c3 : 0 ≤ x8_1
    ·rw [if_pos c3] at H
     have c3b0 : decide (0 ≤ x8_1) = true := decide_eq_true c3
     clear c3
     by_cases c4 : x8_1 < (l0.length : Int)
     ·rw [if_pos c4] at H
      have c4b0 : decide (x8_1 < (l0.length : Int)) = true := decide_eq_true c4
      clear c4
      have H' := aq H
      clear H
      have p101 : 0 ≤ (x8_1 : Int) := of_decide_eq_true (by first | (with_reducible assumption) | assumption)
      have q101 : x8_1 < (l0.length : Int) := of_decide_eq_true (by first | (with_reducible assumption) | assumption)
      obtain ⟨ad101, e101, hx101_0, hx101_1⟩ := at_T33 HR0.out x8_1 p101 q101
      cases e101
      replace hx101_0 := (HB.out.cell (World.block_lt_of_cell? w _ hx101_0)).trans hx101_0
      replace hx101_1 := (HB.out.cell (World.block_lt_of_cell? w _ hx101_1)).trans hx101_1
      replace p101 := eq_true p101
      replace q101 := eq_true q101
      go_wp2_with (first | ((with_reducible refine gate_dst (N := 5) rfl ?_); refine box_event ?hg (N := 5) ?hd (cs := #[.bool false, .string (⟨#[]⟩ : ByteArray)]) (t := 33) ?hr ?_; (case hd => rfl); (case hg => rfl); (case hr => first | (go_simp; done) | (go_simp; rfl)); intro gb102 hg w5 hbox hb; have n0_ := aq (below_step (stH HB) hb); have n1_ := aq (hbox); have n2_ := aq ((by rw [hg]; exact (below_size (stH HB)) : w.heap.size ≤ gb102)); have n3_ := aq ((by rw [hg]; exact (below_size (stH HB)) : w.heap.size ≤ gb102)); replace HB := n0_; have BK102 := n1_; have GW102 := n2_; have GE102 := n3_; clear n0_ n1_ n2_ n3_; clear hb hbox hg; obtain ⟨k6a, k6b⟩ := cl2 (W := w5) BK102.out; obtain ⟨u6a, u6b⟩ := fr2 BK102.out))
      go_roundg k1
      case measure => have := HK1.out; omega
      case rel => exact ⟨(wrap64 (x3_1 + (wrap64 (1 + (((rd_T33 l0 x8_1).f1).size : Int))))), (wrap64 (x8_1 + 1)), eqS, eqS, H', ⟨by have := HK1.out; omega⟩, ⟨stH HB⟩⟩
     ·rw [if_neg c4] at H
      exact absurd H (by simp)
    ·rw [if_neg c3] at H
     exact absurd H (by simp)
   ·rw [if_neg c2] at H
    have c2b0 : decide (x8_1 < (l0.length : Int)) = false := decide_eq_false c2
    clear c2
    obtain rfl := Option.some.inj H
    go_wp2
    go_ret
    exact ⟨eqW, by repeat (first | (with_reducible first | exact HB.out | apply below_alloc | apply pw_below_drewN | apply below_drew1) | exact HB.out)⟩
end Go.Proofs.Ytfjmnaobfbmllaa.M
namespace Go.Proofs.Ytfjmnaobfbmllaa.M
open Go.RowKit Go.Proofs.YtfjmnaobfbmllaaW.PrintWords Go.Proofs.YtfjmnaobfbmllaaW.PrintLast Go.Proofs.YtfjmnaobfbmllaaW.PrintMore
set_option linter.unusedVariables false
set_option linter.unusedSimpArgs false
theorem w64 (n : Int) (h0 : -9223372036854775808 ≤ n) (h1 : n ≤ 9223372036854775807) : wrap64 n = n := by unfold wrap64; omega
theorem rd33 (l : List S33) (i : Nat) (h : i < l.length) : rd_T33 l (i : Int) = l[i] := by
  simp [rd_T33, List.getD_eq_getElem?_getD, List.getElem?_eq_getElem h]
theorem sumS_drop (l : List S33) (i : Nat) (h : i < l.length) : sumS (l.drop i) = 1 + l[i].f1.size + sumS (l.drop (i + 1)) := by
  rw [List.drop_eq_getElem_cons h]; rfl
theorem size_loop (l : List S33) (hb : sumS l ≤ 4611686018427387904) (d : Nat) : ∀ (k i acc : Nat), i + d = l.length → d < k → acc + sumS (l.drop i) ≤ 4611686018427387904 + 9 →
    slab_size.l0 k acc l l.length i = some ((acc + sumS (l.drop i) : Nat) : Int) := by
  induction d with
  | zero =>
    intro k i acc hi hk hs
    obtain ⟨k, rfl⟩ : ∃ m, k = m + 1 := ⟨k - 1, by omega⟩
    simp only [slab_size.l0]
    rw [if_neg (by omega), List.drop_of_length_le (by omega)]
    simp [sumS]
  | succ d ih =>
    intro k i acc hi hk hs
    obtain ⟨k, rfl⟩ : ∃ m, k = m + 1 := ⟨k - 1, by omega⟩
    have hlt : i < l.length := by omega
    have hd := sumS_drop l i hlt
    simp only [slab_size.l0]
    rw [if_pos (by omega), if_pos (by omega), if_pos (by omega), rd33 l i hlt]
    have hlen : l.length ≤ 4611686018427387904 := by
      have : ∀ m : List S33, m.length ≤ sumS m := fun m => by induction m with
        | nil => simp [sumS]
        | cons x m ih => simp only [List.length_cons, sumS]; omega
      exact Nat.le_trans (this l) hb
    rw [w64 (1 + (l[i].f1.size : Int)) (by omega) (by omega), w64 (acc + (1 + (l[i].f1.size : Int))) (by omega) (by omega), w64 ((i : Int) + 1) (by omega) (by omega)]
    have := ih k (i + 1) (acc + (1 + l[i].f1.size)) (by omega) (by omega) (by omega)
    rw [show ((acc + (1 + l[i].f1.size) : Nat) : Int) = (acc : Int) + (1 + (l[i].f1.size : Int)) by omega, show ((i + 1 : Nat) : Int) = (i : Int) + 1 by omega] at this
    rw [this, hd]
    congr 1
    omega
theorem size_pure (l : List S33) (hb : sumS l ≤ 4611686018427387904) (k : Nat) (hk : l.length < k) : slab_size.f k l = some (rawSize l : Int) := by
  have := size_loop l hb l.length k 0 9 (by omega) hk (by simp; omega)
  unfold slab_size.f rawSize
  simpa using this
def slabSize0.f (l : List S33) : Option Int := if sumS l ≤ 4611686018427387904 then some (rawSize l : Int) else none
theorem slabSize0.calls (A : Option Addr) (c : Nat) (l : List S33) (r : Int) (w : World) (hr : Kd.C k33 w A l.length l) (hc : l.length ≤ c) (h : slabSize0.f l = some r) :
    Calls Try.prog 81 #[.slice A l.length c] w fun e w' => e = .returned (.int .i64 r) ∧ Below w.heap.size w w' := by
  unfold slabSize0.f at h
  split at h
  · rename_i hb
    exact slab_size.calls (l.length + 1) A c l r w hr hc (by rw [size_pure l hb _ (by omega)]; exact h)
  · cases h
end Go.Proofs.Ytfjmnaobfbmllaa.M
namespace Go.Proofs.Ytfjmnaobfbmllaa.M
open Go.RowKit Go.Proofs.YtfjmnaobfbmllaaW.PrintWords Go.Proofs.YtfjmnaobfbmllaaW.PrintLast Go.Proofs.YtfjmnaobfbmllaaW.PrintMore
attribute [local go_sem] max2_int min2_int max_two min_two max_three min_three max_four min_four   -- for this text's walks alone
set_option linter.unusedVariables false
set_option linter.unusedSimpArgs false
def slab_isOdd.f (a0_0 : Bool) (a0_1 : ByteArray) : Option (Bool) := if a0_0 = true then (some (decide ((a0_1.size : Int) > 200))) else (if a0_1.toList = ([] : List UInt8) then (some (decide ((a0_1.size : Int) > 200))) else (some true))
set_option maxHeartbeats 8000000 in
set_option maxRecDepth 100000 in
theorem slab_isOdd.calls (a0_0 : Bool) (a0_1 : ByteArray) (r : Bool) (w : World) (h : slab_isOdd.f a0_0 a0_1 = some r) :
  Calls Try.prog 80 #[.agg #[.bool a0_0, .string a0_1]] w fun e w' => e = .returned (.bool r) ∧ Below w.heap.size w w' := by
 have hu33 := Try.underlying33
 have HB := aq (Below.refl w.heap.size w)
 have H : (if a0_0 = true then (some (decide ((a0_1.size : Int) > 200))) else (if a0_1.toList = ([] : List UInt8) then (some (decide ((a0_1.size : Int) > 200))) else (some true))) = some r := h
 clear h
 by_cases c2 : a0_0 = true
 ·subst c2
  rw [if_pos rfl] at H
  obtain rfl := Option.some.inj H
  go_enter Try.func80, Try.ntmps80
  go_wp2_with (first | ((with_reducible refine gate_dst (N := 1) rfl ?_); (try (refine gate_guard (by rfl) ?_; dsimp only)); refine box_event ?hg (N := 1) ?hd (cs := #[.bool true, .string a0_1]) (t := 33) ?hr ?_; (case hd => rfl); (case hg => rfl); (case hr => first | (go_simp; done) | (go_simp; rfl)); intro gb101 hg w3 hbox hb; have n0_ := aq (below_step (stH HB) hb); have n1_ := aq (hbox); have n2_ := aq ((by rw [hg]; exact (below_size (stH HB)) : w.heap.size ≤ gb101)); have n3_ := aq ((by rw [hg]; exact (below_size (stH HB)) : w.heap.size ≤ gb101)); replace HB := n0_; have BK101 := n1_; have GW101 := n2_; have GE101 := n3_; clear n0_ n1_ n2_ n3_; clear hb hbox hg; obtain ⟨k4a, k4b⟩ := cl2 (W := w3) BK101.out; obtain ⟨u4a, u4b⟩ := fr2 BK101.out))
  go_ret
  exact ⟨eqW, by repeat (first | (with_reducible first | exact HB.out | apply below_alloc | apply pw_below_drewN | apply below_drew1 | refine below_set ?_ GE101.out) | exact HB.out)⟩
 ·replace c2 := Bool.eq_false_iff.mpr c2
  subst c2
  rw [if_neg (show ¬ (false = true) by decide)] at H
  by_cases c5 : a0_1.toList = ([] : List UInt8)
  ·rw [if_pos c5] at H
   have c5b0 : (a0_1.toList == ([] : List UInt8)) = true := beq_iff_eq.mpr c5
   have c5b1 : (a0_1.toList != ([] : List UInt8)) = false := bne_eq_false_iff_eq.mpr c5
   clear c5
   obtain rfl := Option.some.inj H
   go_enter Try.func80, Try.ntmps80
   go_wp2_with (first | ((with_reducible refine gate_dst (N := 1) rfl ?_); (try (refine gate_guard (by rfl) ?_; dsimp only)); refine box_event ?hg (N := 1) ?hd (cs := #[.bool false, .string a0_1]) (t := 33) ?hr ?_; (case hd => rfl); (case hg => rfl); (case hr => first | (go_simp; done) | (go_simp; rfl)); intro gb101 hg w6 hbox hb; have n0_ := aq (below_step (stH HB) hb); have n1_ := aq (hbox); have n2_ := aq ((by rw [hg]; exact (below_size (stH HB)) : w.heap.size ≤ gb101)); have n3_ := aq ((by rw [hg]; exact (below_size (stH HB)) : w.heap.size ≤ gb101)); replace HB := n0_; have BK101 := n1_; have GW101 := n2_; have GE101 := n3_; clear n0_ n1_ n2_ n3_; clear hb hbox hg; obtain ⟨k7a, k7b⟩ := cl2 (W := w6) BK101.out; obtain ⟨u7a, u7b⟩ := fr2 BK101.out))
   go_ret
   exact ⟨eqW, by repeat (first | (with_reducible first | exact HB.out | apply below_alloc | apply pw_below_drewN | apply below_drew1 | refine below_set ?_ GE101.out) | exact HB.out)⟩
  ·rw [if_neg c5] at H
   have c5b0 : (a0_1.toList == ([] : List UInt8)) = false := beq_eq_false_iff_ne.mpr c5
   have c5b1 : (a0_1.toList != ([] : List UInt8)) = true := bne_iff_ne.mpr c5
   obtain rfl := Option.some.inj H
   go_enter Try.func80, Try.ntmps80
   go_wp2_with (first | ((with_reducible refine gate_dst (N := 1) rfl ?_); (try (refine gate_guard (by rfl) ?_; dsimp only)); refine box_event ?hg (N := 1) ?hd (cs := #[.bool false, .string a0_1]) (t := 33) ?hr ?_; (case hd => rfl); (case hg => rfl); (case hr => first | (go_simp; done) | (go_simp; rfl)); intro gb101 hg w8 hbox hb; have n0_ := aq (below_step (stH HB) hb); have n1_ := aq (hbox); have n2_ := aq ((by rw [hg]; exact (below_size (stH HB)) : w.heap.size ≤ gb101)); have n3_ := aq ((by rw [hg]; exact (below_size (stH HB)) : w.heap.size ≤ gb101)); replace HB := n0_; have BK101 := n1_; have GW101 := n2_; have GE101 := n3_; clear n0_ n1_ n2_ n3_; clear hb hbox hg; obtain ⟨k9a, k9b⟩ := cl2 (W := w8) BK101.out; obtain ⟨u9a, u9b⟩ := fr2 BK101.out))
   go_ret
   exact ⟨eqW, by repeat (first | (with_reducible first | exact HB.out | apply below_alloc | apply pw_below_drewN | apply below_drew1 | refine below_set ?_ GE101.out) | exact HB.out)⟩
end Go.Proofs.Ytfjmnaobfbmllaa.M
namespace Go.Proofs.Ytfjmnaobfbmllaa.M
open Go.RowKit Go.Proofs.YtfjmnaobfbmllaaW.PrintWords Go.Proofs.YtfjmnaobfbmllaaW.PrintLast Go.Proofs.YtfjmnaobfbmllaaW.PrintMore
set_option linter.unusedVariables false
set_option linter.unusedSimpArgs false
theorem isOdd_any (x : S33) (w : World) : Calls Try.prog 80 #[.agg #[.bool x.f0, .string x.f1]] w fun e w' => e = .returned (.bool (oddS x)) ∧ Below w.heap.size w w' := by
 refine slab_isOdd.calls x.f0 x.f1 _ w ?_
 unfold slab_isOdd.f oddS
 by_cases h : x.f0 = true
 ·simp [h]
  constructor <;> intro h <;> omega
 ·by_cases h2 : x.f1.toList = []
  ·simp [h, h2]
   constructor <;> intro h <;> omega
  ·simp [h, h2]
set_option maxHeartbeats 2000000 in
theorem index_odd (A : Option Addr) (c : Nat) (l : List S33) (w : World) (hr : Kd.C k33 w A l.length l) (hc : l.length ≤ c) :
  Calls Try.prog 83 #[.slice A l.length c, .func (.func 80) #[] #[]] w fun e w' => e = .returned (.int .i64 (idxOf oddS l)) ∧ Below w.heap.size w w' := by
 have hu33 := Try.underlying33
 have hmax := Kd.C_max hr
 have HR := Aside0.mk hr
 have HC := Aside0.mk hc
 clear hr hc
 have eg : ∀ args w, (callFunc 80 args).run Try.prog w = .ok (.enter 80 args) w := enters_ Try.func80 (by kernel_rfl) rfl
 go_enter Try.func83, Try.ntmps83
 go_wp2
 go_loopg [5, 8] l.length (fun gg _ s8 wr => ∃ kk : Nat, kk ≤ l.length ∧ l.length - kk ≤ gg ∧ s8 = .int .i64 kk ∧ Aside0 (Below w.heap.size w wr) ∧ Aside0 (∀ j (h : j < l.length), j < kk → oddS l[j] = false))
 case atStart => exact ⟨0, Nat.zero_le _, by omega, rfl, ⟨Below.refl _ w⟩, ⟨fun j _ hj => absurd hj (Nat.not_lt_zero _)⟩⟩
 case round =>
  obtain ⟨kk, hkk, hg, rfl, HB, HA⟩ := hrel
  by_cases hlt : kk < l.length
  ·have p0 : 0 ≤ (kk : Int) := by omega
   have q0 : (kk : Int) < (l.length : Int) := by omega
   obtain ⟨ad, e0, hx0, hx1⟩ := at_T33 HR.out (kk : Int) p0 q0
   cases e0
   replace hx0 := (HB.out.cell (World.block_lt_of_cell? w _ hx0)).trans hx0
   replace hx1 := (HB.out.cell (World.block_lt_of_cell? w _ hx1)).trans hx1
   have HX : Aside0 (rd_T33 l (kk : Int) = l[kk]) := ⟨by simp [rd_T33, List.getD_eq_getElem?_getD, List.getElem?_eq_getElem hlt]⟩
   generalize rd_T33 l (kk : Int) = x at hx0 hx1 HX
   have hcall := isOdd_any x wr
   rw [Int.toNat_natCast] at hx0 hx1
   cases hq : oddS x with
   | true =>
    rw [hq] at hcall
    go_wp2_with (go_at_call 80; refine hcall.mono ?_; rintro e w' ⟨rfl, hb'⟩)
    go_ret
    refine ⟨?_, below_then HB.out HB.out.size hb'⟩
    rw [idxOf_hit oddS l kk hlt (by rw [← HX.out]; exact hq) (fun j h => HA.out j (by omega) h)]; rfl
   | false =>
    rw [hq] at hcall
    go_wp2_with (go_at_call 80; refine hcall.mono ?_; rintro e w' ⟨rfl, hb'⟩)
    go_roundg (l.length - (kk + 1))
    case measure => omega
    case rel =>
     refine ⟨kk + 1, by omega, by omega, by go_num, ⟨below_then HB.out HB.out.size hb'⟩, ⟨fun j h hj => ?_⟩⟩
     by_cases e : j = kk
     ·subst e
      rw [← HX.out]; exact hq
     ·exact HA.out j h (by omega)
  ·have hltz : ¬ (kk : Int) < (l.length : Int) := by omega
   go_wp2
   go_ret
   refine ⟨?_, HB.out⟩
   rw [idxOf_miss oddS l (fun j h => HA.out j h (by omega))]; rfl
def slices_ContainsOdd.f (l : List S33) : Option Bool := some (l.any oddS)
set_option maxHeartbeats 2000000 in
theorem slices_ContainsOdd.calls (A : Option Addr) (c : Nat) (l : List S33) (r : Bool) (w : World) (hr : Kd.C k33 w A l.length l) (hc : l.length ≤ c) (h : slices_ContainsOdd.f l = some r) :
  Calls Try.prog 79 #[.slice A l.length c, .func (.func 80) #[] #[]] w fun e w' => e = .returned (.bool r) ∧ Below w.heap.size w w' := by
 obtain rfl := Option.some.inj h
 have hcall := index_odd A c l w hr hc
 have H := idxOf_nonneg oddS l
 generalize idxOf oddS l = i at hcall H
 clear hr hc h
 cases hq : l.any oddS with
 | true =>
  have h0 : 0 ≤ i := H.mpr hq
  clear H
  go_enter Try.func79, Try.ntmps79
  go_wp2_with (go_at_call 83; refine hcall.mono ?_; rintro e w' ⟨rfl, hb'⟩)
  go_ret
  exact ⟨by simp [h0], hb'⟩
 | false =>
  have h0 : ¬ 0 ≤ i := fun h => by rw [H.mp h] at hq; cases hq
  clear H
  go_enter Try.func79, Try.ntmps79
  go_wp2_with (go_at_call 83; refine hcall.mono ?_; rintro e w' ⟨rfl, hb'⟩)
  go_ret
  exact ⟨by simp [h0], hb'⟩
end Go.Proofs.Ytfjmnaobfbmllaa.M
namespace Go.Proofs.Ytfjmnaobfbmllaa.M
open Go.RowKit Go.Proofs.YtfjmnaobfbmllaaW.PrintWords Go.Proofs.YtfjmnaobfbmllaaW.PrintLast Go.Proofs.YtfjmnaobfbmllaaW.PrintMore
attribute [local go_sem] max2_int min2_int max_two min_two max_three min_three max_four min_four   -- for this text's walks alone
set_option linter.unusedVariables false
set_option linter.unusedSimpArgs false
def slab_Good.f (a0_0 : Int) (l0_1 : List (S33)) : Option (Bool) := if a0_0 < 0 then (some false) else (if a0_0 > 1099511627776 then (some false) else (if (l0_1.length : Int) > 32 then (some false) else ((slices_ContainsOdd.f l0_1).bind fun t102 => (if t102 = true then (some false) else (if (l0_1.length : Int) = 0 then ((slabSize0.f l0_1).bind fun t103 => (some (decide (t103 ≤ 240)))) else (if 0 ≤ (wrap64 ((l0_1.length : Int) - 1)) then (if (wrap64 ((l0_1.length : Int) - 1)) < (l0_1.length : Int) then (if (rd_T33 l0_1 (wrap64 ((l0_1.length : Int) - 1))).f0 = true then ((slabSize0.f l0_1).bind fun t105 => (some (decide (t105 ≤ 240)))) else (some false)) else (none)) else (none)))))))
set_option maxHeartbeats 8000000 in
set_option maxRecDepth 100000 in
theorem slab_Good.calls (a0_0 : Int) (A0_1 : Option Addr) (c0_1 : Nat) (l0_1 : List (S33)) (r : Bool) (w : World) (hr0_1 : Kd.C k33 w A0_1 l0_1.length l0_1) (hc0_1 : l0_1.length ≤ c0_1) (h : slab_Good.f a0_0 l0_1 = some r) :
  Calls Try.prog 34 #[.agg #[.int .i64 a0_0, .slice A0_1 l0_1.length c0_1]] w fun e w' => e = .returned (.bool r) ∧ Below w.heap.size w w' := by
 have hu24 := Try.underlying24
 have HR0_1 := aq hr0_1
 have HC0_1 := aq hc0_1
 clear hr0_1 hc0_1
 have HB := aq (Below.refl w.heap.size w)
 have H : (if a0_0 < 0 then (some false) else (if a0_0 > 1099511627776 then (some false) else (if (l0_1.length : Int) > 32 then (some false) else ((slices_ContainsOdd.f l0_1).bind fun t102 => (if t102 = true then (some false) else (if (l0_1.length : Int) = 0 then ((slabSize0.f l0_1).bind fun t103 => (some (decide (t103 ≤ 240)))) else (if 0 ≤ (wrap64 ((l0_1.length : Int) - 1)) then (if (wrap64 ((l0_1.length : Int) - 1)) < (l0_1.length : Int) then (if (rd_T33 l0_1 (wrap64 ((l0_1.length : Int) - 1))).f0 = true then ((slabSize0.f l0_1).bind fun t105 => (some (decide (t105 ≤ 240)))) else (some false)) else (none)) else (none)))))))) = some r := h
 clear h
 by_cases c2 : a0_0 < 0
 ·rw [if_pos c2] at H
  have c2b0 : decide (a0_0 < 0) = true := decide_eq_true c2
  clear c2
  obtain rfl := Option.some.inj H
  go_enter Try.func34, Try.ntmps34
  go_wp2_with (first | ((with_reducible refine gate_dst (N := 1) rfl ?_); (try (refine gate_guard (by rfl) ?_; dsimp only)); refine box_event ?hg (N := 1) ?hd (cs := #[.int .i64 a0_0, .slice A0_1 l0_1.length c0_1]) (t := 24) ?hr ?_; (case hd => rfl); (case hg => rfl); (case hr => first | (go_simp; done) | (go_simp; rfl)); intro gb101 hg w3 hbox hb; have n0_ := aq (below_step (stH HB) hb); have n1_ := aq (hbox); have n2_ := aq ((by rw [hg]; exact (below_size (stH HB)) : w.heap.size ≤ gb101)); have n3_ := aq ((by rw [hg]; exact (below_size (stH HB)) : w.heap.size ≤ gb101)); replace HB := n0_; have BK101 := n1_; have GW101 := n2_; have GE101 := n3_; clear n0_ n1_ n2_ n3_; clear hb hbox hg; obtain ⟨k4a, k4b⟩ := cl2 (W := w3) BK101.out; obtain ⟨u4a, u4b⟩ := fr2 BK101.out))
  go_ret
  exact ⟨eqW, by repeat (first | (with_reducible first | exact HB.out | apply below_alloc | apply pw_below_drewN | apply below_drew1 | refine below_set ?_ GE101.out) | exact HB.out)⟩
 ·rw [if_neg c2] at H
  have c2b0 : decide (a0_0 < 0) = false := decide_eq_false c2
  clear c2
  by_cases c5 : a0_0 > 1099511627776
  ·rw [if_pos c5] at H
   have c5b0 : decide (1099511627776 < a0_0) = true := decide_eq_true c5
   clear c5
   obtain rfl := Option.some.inj H
   go_enter Try.func34, Try.ntmps34
   go_wp2_with (first | ((with_reducible refine gate_dst (N := 1) rfl ?_); (try (refine gate_guard (by rfl) ?_; dsimp only)); refine box_event ?hg (N := 1) ?hd (cs := #[.int .i64 a0_0, .slice A0_1 l0_1.length c0_1]) (t := 24) ?hr ?_; (case hd => rfl); (case hg => rfl); (case hr => first | (go_simp; done) | (go_simp; rfl)); intro gb101 hg w6 hbox hb; have n0_ := aq (below_step (stH HB) hb); have n1_ := aq (hbox); have n2_ := aq ((by rw [hg]; exact (below_size (stH HB)) : w.heap.size ≤ gb101)); have n3_ := aq ((by rw [hg]; exact (below_size (stH HB)) : w.heap.size ≤ gb101)); replace HB := n0_; have BK101 := n1_; have GW101 := n2_; have GE101 := n3_; clear n0_ n1_ n2_ n3_; clear hb hbox hg; obtain ⟨k7a, k7b⟩ := cl2 (W := w6) BK101.out; obtain ⟨u7a, u7b⟩ := fr2 BK101.out))
   go_ret
   exact ⟨eqW, by repeat (first | (with_reducible first | exact HB.out | apply below_alloc | apply pw_below_drewN | apply below_drew1 | refine below_set ?_ GE101.out) | exact HB.out)⟩
  ·rw [if_neg c5] at H
   have c5b0 : decide (1099511627776 < a0_0) = false := decide_eq_false c5
   clear c5
   by_cases c8 : (l0_1.length : Int) > 32
   ·rw [if_pos c8] at H
    have c8b0 : decide (32 < (l0_1.length : Int)) = true := decide_eq_true c8
    have c8b1 : decide (32 < l0_1.length) = true := decide_eq_true (by omega)
    clear c8
    obtain rfl := Option.some.inj H
    go_enter Try.func34, Try.ntmps34
    go_wp2_with (first | ((with_reducible refine gate_dst (N := 1) rfl ?_); (try (refine gate_guard (by rfl) ?_; dsimp only)); refine box_event ?hg (N := 1) ?hd (cs := #[.int .i64 a0_0, .slice A0_1 l0_1.length c0_1]) (t := 24) ?hr ?_; (case hd => rfl); (case hg => rfl); (case hr => first | (go_simp; done) | (go_simp; rfl)); intro gb101 hg w9 hbox hb; have n0_ := aq (below_step (stH HB) hb); have n1_ := aq (hbox); have n2_ := aq ((by rw [hg]; exact (below_size (stH HB)) : w.heap.size ≤ gb101)); have n3_ := aq ((by rw [hg]; exact (below_size (stH HB)) : w.heap.size ≤ gb101)); replace HB := n0_; have BK101 := n1_; have GW101 := n2_; have GE101 := n3_; clear n0_ n1_ n2_ n3_; clear hb hbox hg; obtain ⟨k10a, k10b⟩ := cl2 (W := w9) BK101.out; obtain ⟨u10a, u10b⟩ := fr2 BK101.out))
    go_ret
    exact ⟨eqW, by repeat (first | (with_reducible first | exact HB.out | apply below_alloc | apply pw_below_drewN | apply below_drew1 | refine below_set ?_ GE101.out) | exact HB.out)⟩
   ·rw [if_neg c8] at H
    have c8b0 : decide (32 < (l0_1.length : Int)) = false := decide_eq_false c8
    have c8b1 : decide (32 < l0_1.length) = false := decide_eq_false (by omega)
    clear c8
    replace H := Option.bind_eq_some_iff.mp H
    obtain ⟨t102, A110, H⟩ := H
    try dsimp only at H
    have A11 := aq A110
    clear A110
    by_cases c12 : t102 = true
    ·subst c12
     rw [if_pos rfl] at H
     obtain rfl := Option.some.inj H
     go_enter Try.func34, Try.ntmps34
     go_wp2_with (first | ((with_reducible refine gate_dst (N := 1) rfl ?_); (try (refine gate_guard (by rfl) ?_; dsimp only)); refine box_event ?hg (N := 1) ?hd (cs := #[.int .i64 a0_0, .slice A0_1 l0_1.length c0_1]) (t := 24) ?hr ?_; (case hd => rfl); (case hg => rfl); (case hr => first | (go_simp; done) | (go_simp; rfl)); intro gb101 hg w13 hbox hb; have n0_ := aq (below_step (stH HB) hb); have n1_ := aq (hbox); have n2_ := aq ((by rw [hg]; exact (below_size (stH HB)) : w.heap.size ≤ gb101)); have n3_ := aq ((by rw [hg]; exact (below_size (stH HB)) : w.heap.size ≤ gb101)); replace HB := n0_; have BK101 := n1_; have GW101 := n2_; have GE101 := n3_; clear n0_ n1_ n2_ n3_; clear hb hbox hg; obtain ⟨k14a, k14b⟩ := cl2 (W := w13) BK101.out; obtain ⟨u14a, u14b⟩ := fr2 BK101.out) | (go_at_call 79; (with_reducible refine (slices_ContainsOdd.calls _ _ l0_1 true _ ?side1 ?side2 A11.out).mono ?_); (case side1 => exact stC (Kd.C_below HR0_1.out HB.out)); (case side2 => exact HC0_1.out); rintro e w15 ⟨rfl, hb⟩; have n0_ := aq (blk_below (stB BK101) hb); have n1_ := aq (below_step (stH HB) hb); replace BK101 := n0_; replace HB := n1_; clear n0_ n1_; (try clear hb)))
     go_ret
     exact ⟨eqW, by repeat (first | (with_reducible first | exact HB.out | apply below_alloc | apply pw_below_drewN | apply below_drew1 | refine below_set ?_ GE101.out) | exact HB.out)⟩
    ·replace c12 := Bool.eq_false_iff.mpr c12
     subst c12
     rw [if_neg (show ¬ (false = true) by decide)] at H
     by_cases c16 : (l0_1.length : Int) = 0
     ·rw [if_pos c16] at H
      have c16b0 : ((l0_1.length : Int) == 0) = true := beq_iff_eq.mpr c16
      have c16b1 : ((l0_1.length : Int) != 0) = false := bne_eq_false_iff_eq.mpr c16
      clear c16
      replace H := Option.bind_eq_some_iff.mp H
      obtain ⟨t103, A170, H⟩ := H
      try dsimp only at H
      have A17 := aq A170
      clear A170
      obtain rfl := Option.some.inj H
      go_enter Try.func34, Try.ntmps34
      go_wp2_with (first | ((with_reducible refine gate_dst (N := 1) rfl ?_); (try (refine gate_guard (by rfl) ?_; dsimp only)); refine box_event ?hg (N := 1) ?hd (cs := #[.int .i64 a0_0, .slice A0_1 l0_1.length c0_1]) (t := 24) ?hr ?_; (case hd => rfl); (case hg => rfl); (case hr => first | (go_simp; done) | (go_simp; rfl)); intro gb101 hg w18 hbox hb; have n0_ := aq (below_step (stH HB) hb); have n1_ := aq (hbox); have n2_ := aq ((by rw [hg]; exact (below_size (stH HB)) : w.heap.size ≤ gb101)); have n3_ := aq ((by rw [hg]; exact (below_size (stH HB)) : w.heap.size ≤ gb101)); replace HB := n0_; have BK101 := n1_; have GW101 := n2_; have GE101 := n3_; clear n0_ n1_ n2_ n3_; clear hb hbox hg; obtain ⟨k19a, k19b⟩ := cl2 (W := w18) BK101.out; obtain ⟨u19a, u19b⟩ := fr2 BK101.out) | (go_at_call 79; (with_reducible refine (slices_ContainsOdd.calls _ _ l0_1 false _ ?side1 ?side2 A11.out).mono ?_); (case side1 => exact stC (Kd.C_below HR0_1.out HB.out)); (case side2 => exact HC0_1.out); rintro e w20 ⟨rfl, hb⟩; have n0_ := aq (blk_below (stB BK101) hb); have n1_ := aq (below_step (stH HB) hb); replace BK101 := n0_; replace HB := n1_; clear n0_ n1_; (try clear hb); obtain ⟨k21a, k21b⟩ := cl2 (W := w20) BK101.out; obtain ⟨u21a, u21b⟩ := fr2 BK101.out) | (go_at_call 81; (with_reducible refine (slabSize0.calls _ _ l0_1 t103 _ ?side1 ?side2 A17.out).mono ?_); (case side1 => exact stC (Kd.C_below HR0_1.out HB.out)); (case side2 => exact HC0_1.out); rintro e w22 ⟨rfl, hb⟩; have n0_ := aq (blk_below (stB BK101) hb); have n1_ := aq (below_step (stH HB) hb); replace BK101 := n0_; replace HB := n1_; clear n0_ n1_; (try clear hb)))
      go_ret
      exact ⟨eqW, by repeat (first | (with_reducible first | exact HB.out | apply below_alloc | apply pw_below_drewN | apply below_drew1 | refine below_set ?_ GE101.out) | exact HB.out)⟩
     ·rw [if_neg c16] at H
      have c16b0 : ((l0_1.length : Int) == 0) = false := beq_eq_false_iff_ne.mpr c16
      have c16b1 : ((l0_1.length : Int) != 0) = true := bne_iff_ne.mpr c16
      have c16b2 : ¬ (l0_1 = []) := fun h_ => c16 (by rw [h_]; rfl)
      obtain ⟨ji23, hji23⟩ : ∃ j_ : Int, (wrap64 ((l0_1.length : Int) - 1)) = j_ := ⟨_, rfl⟩
      replace H : (if 0 ≤ (ji23) then (if (ji23) < (l0_1.length : Int) then (if (rd_T33 l0_1 (ji23)).f0 = true then ((slabSize0.f l0_1).bind fun t105 => (some (decide (t105 ≤ 240)))) else (some false)) else (none)) else (none)) = some r := by first | (rw [hji23] at H; exact H) | (simp only [hji23] at H ⊢; exact H)
      (try rw [hji23] at A11)
      have hji23w : (IntKind.i64.wrap ((l0_1.length : Int) - 1)) = ji23 := (i64_w _).trans hji23
      by_cases c24 : 0 ≤ (ji23)
      ·rw [if_pos c24] at H
       have c24b0 : decide (0 ≤ (ji23)) = true := decide_eq_true c24
       clear c24
       by_cases c25 : (ji23) < (l0_1.length : Int)
       ·rw [if_pos c25] at H
        have c25b0 : decide ((ji23) < (l0_1.length : Int)) = true := decide_eq_true c25
        clear c25
        obtain ⟨bq26, hbq26⟩ : ∃ b_ : Bool, b_ = ((rd_T33 l0_1 (ji23)).f0) := ⟨_, rfl⟩
        replace H : (if bq26 = true then ((slabSize0.f l0_1).bind fun t105 => (some (decide (t105 ≤ 240)))) else (some false)) = some r := by rw [← hbq26] at H; exact H
        have Nbq26 := aq hbq26
        clear hbq26
        by_cases c27 : bq26 = true
        ·subst c27
         rw [if_pos rfl] at H
         replace H := Option.bind_eq_some_iff.mp H
         obtain ⟨t105, A280, H⟩ := H
         try dsimp only at H
         have A28 := aq A280
         clear A280
         obtain rfl := Option.some.inj H
         go_enter Try.func34, Try.ntmps34
         go_wp2_with (first | ((with_reducible refine gate_dst (N := 1) rfl ?_); (try (refine gate_guard (by rfl) ?_; dsimp only)); refine box_event ?hg (N := 1) ?hd (cs := #[.int .i64 a0_0, .slice A0_1 l0_1.length c0_1]) (t := 24) ?hr ?_; (case hd => rfl); (case hg => rfl); (case hr => first | (go_simp; done) | (go_simp; rfl)); intro gb101 hg w29 hbox hb; have n0_ := aq (below_step (stH HB) hb); have n1_ := aq (hbox); have n2_ := aq ((by rw [hg]; exact (below_size (stH HB)) : w.heap.size ≤ gb101)); have n3_ := aq ((by rw [hg]; exact (below_size (stH HB)) : w.heap.size ≤ gb101)); replace HB := n0_; have BK101 := n1_; have GW101 := n2_; have GE101 := n3_; clear n0_ n1_ n2_ n3_; clear hb hbox hg; obtain ⟨k30a, k30b⟩ := cl2 (W := w29) BK101.out; obtain ⟨u30a, u30b⟩ := fr2 BK101.out) | (go_at_call 79; (with_reducible refine (slices_ContainsOdd.calls _ _ l0_1 false _ ?side1 ?side2 A11.out).mono ?_); (case side1 => exact stC (Kd.C_below HR0_1.out HB.out)); (case side2 => exact HC0_1.out); rintro e w31 ⟨rfl, hb⟩; have n0_ := aq (blk_below (stB BK101) hb); have n1_ := aq (below_step (stH HB) hb); replace BK101 := n0_; replace HB := n1_; clear n0_ n1_; (try clear hb); obtain ⟨k32a, k32b⟩ := cl2 (W := w31) BK101.out; obtain ⟨u32a, u32b⟩ := fr2 BK101.out; have p104 : 0 ≤ ((ji23) : Int) := of_decide_eq_true (by first | (with_reducible assumption) | assumption); have q104 : (ji23) < (l0_1.length : Int) := of_decide_eq_true (by first | (with_reducible assumption) | assumption); obtain ⟨ad104, e104, hx104_0, hx104_1⟩ := at_T33 HR0_1.out (ji23) p104 q104; (try rw [← Nbq26.out] at hx104_0); cases e104; replace hx104_0 := (HB.out.cell (World.block_lt_of_cell? w _ hx104_0)).trans hx104_0; replace hx104_1 := (HB.out.cell (World.block_lt_of_cell? w _ hx104_1)).trans hx104_1; replace p104 := eq_true p104; replace q104 := eq_true q104) | (go_at_call 81; (with_reducible refine (slabSize0.calls _ _ l0_1 t105 _ ?side1 ?side2 A28.out).mono ?_); (case side1 => exact stC (Kd.C_below HR0_1.out HB.out)); (case side2 => exact HC0_1.out); rintro e w33 ⟨rfl, hb⟩; have n0_ := aq (blk_below (stB BK101) hb); have n1_ := aq (below_step (stH HB) hb); replace BK101 := n0_; replace HB := n1_; clear n0_ n1_; (try clear hb)))
         go_ret
         exact ⟨by first | rfl | (simp [errW_none, errW_some] <;> rfl) | (simp only [← hji23]; first | rfl | (simp [errW_none, errW_some] <;> rfl)) | (simp [*, errW_none, errW_some] <;> rfl), by repeat (first | (with_reducible first | exact HB.out | apply below_alloc | apply pw_below_drewN | apply below_drew1 | refine below_set ?_ GE101.out) | exact HB.out)⟩
        ·replace c27 := Bool.eq_false_iff.mpr c27
         subst c27
         rw [if_neg (show ¬ (false = true) by decide)] at H
         obtain rfl := Option.some.inj H
         go_enter Try.func34, Try.ntmps34
         go_wp2_with (first | ((with_reducible refine gate_dst (N := 1) rfl ?_); (try (refine gate_guard (by rfl) ?_; dsimp only)); refine box_event ?hg (N := 1) ?hd (cs := #[.int .i64 a0_0, .slice A0_1 l0_1.length c0_1]) (t := 24) ?hr ?_; (case hd => rfl); (case hg => rfl); (case hr => first | (go_simp; done) | (go_simp; rfl)); intro gb101 hg w34 hbox hb; have n0_ := aq (below_step (stH HB) hb); have n1_ := aq (hbox); have n2_ := aq ((by rw [hg]; exact (below_size (stH HB)) : w.heap.size ≤ gb101)); have n3_ := aq ((by rw [hg]; exact (below_size (stH HB)) : w.heap.size ≤ gb101)); replace HB := n0_; have BK101 := n1_; have GW101 := n2_; have GE101 := n3_; clear n0_ n1_ n2_ n3_; clear hb hbox hg; obtain ⟨k35a, k35b⟩ := cl2 (W := w34) BK101.out; obtain ⟨u35a, u35b⟩ := fr2 BK101.out) | (go_at_call 79; (with_reducible refine (slices_ContainsOdd.calls _ _ l0_1 false _ ?side1 ?side2 A11.out).mono ?_); (case side1 => exact stC (Kd.C_below HR0_1.out HB.out)); (case side2 => exact HC0_1.out); rintro e w36 ⟨rfl, hb⟩; have n0_ := aq (blk_below (stB BK101) hb); have n1_ := aq (below_step (stH HB) hb); replace BK101 := n0_; replace HB := n1_; clear n0_ n1_; (try clear hb); obtain ⟨k37a, k37b⟩ := cl2 (W := w36) BK101.out; obtain ⟨u37a, u37b⟩ := fr2 BK101.out; have p104 : 0 ≤ ((ji23) : Int) := of_decide_eq_true (by first | (with_reducible assumption) | assumption); have q104 : (ji23) < (l0_1.length : Int) := of_decide_eq_true (by first | (with_reducible assumption) | assumption); obtain ⟨ad104, e104, hx104_0, hx104_1⟩ := at_T33 HR0_1.out (ji23) p104 q104; (try rw [← Nbq26.out] at hx104_0); cases e104; replace hx104_0 := (HB.out.cell (World.block_lt_of_cell? w _ hx104_0)).trans hx104_0; replace hx104_1 := (HB.out.cell (World.block_lt_of_cell? w _ hx104_1)).trans hx104_1; replace p104 := eq_true p104; replace q104 := eq_true q104))
         go_ret
         exact ⟨by first | rfl | (simp [errW_none, errW_some] <;> rfl) | (simp only [← hji23]; first | rfl | (simp [errW_none, errW_some] <;> rfl)) | (simp [*, errW_none, errW_some] <;> rfl), by repeat (first | (with_reducible first | exact HB.out | apply below_alloc | apply pw_below_drewN | apply below_drew1 | refine below_set ?_ GE101.out) | exact HB.out)⟩
       ·rw [if_neg c25] at H
        exact absurd H (by simp)
      ·rw [if_neg c24] at H
       exact absurd H (by simp)
end Go.Proofs.Ytfjmnaobfbmllaa.M
namespace Go.Proofs.Ytfjmnaobfbmllaa.M
open Go.RowKit Go.Proofs.YtfjmnaobfbmllaaW.PrintWords Go.Proofs.YtfjmnaobfbmllaaW.PrintLast Go.Proofs.YtfjmnaobfbmllaaW.PrintMore
set_option linter.unusedVariables false
set_option linter.unusedSimpArgs false
theorem sumS_small (l : List S33) (h : l.any oddS = false) : sumS l ≤ 201 * l.length := by
  induction l with
  | nil => simp [sumS]
  | cons x l ih =>
    simp only [List.any_cons, Bool.or_eq_false_iff] at h
    have h1 := h.1
    unfold oddS at h1
    simp at h1
    have := ih h.2
    simp only [sumS, List.length_cons]
    omega
theorem last33 (l : List S33) (h : 0 < l.length) : lastUsed l = (l[l.length - 1]).f0 := by
  unfold lastUsed
  rw [List.getLast?_eq_getElem?, List.getElem?_eq_getElem (by omega)]
theorem good_pure (a : Int) (l : List S33)   : slab_Good.f a l = some (goodP a l) := by
  unfold slab_Good.f goodP slices_ContainsOdd.f
  by_cases h1 : a < 0
  · rw [if_pos h1]; simp [show ¬ (0 ≤ a) by omega]
  rw [if_neg h1]
  by_cases h2 : a > 1099511627776
  · rw [if_pos h2]; simp [show ¬ (a ≤ 1099511627776) by omega]
  rw [if_neg h2]
  by_cases h3 : (l.length : Int) > 32
  · rw [if_pos h3]; simp [show ¬ (l.length ≤ 32) by omega]
  rw [if_neg h3, Option.bind_some]
  cases h4 : l.any oddS with
  | true => simp
  | false =>
    have hs := sumS_small l h4
    rw [if_neg (by simp), show slabSize0.f l = some (rawSize l : Int) by unfold slabSize0.f; rw [if_pos (by omega)], Option.bind_some]
    have e1 : decide (0 ≤ a) = true := by simp; omega
    have e2 : decide (a ≤ 1099511627776) = true := by simp; omega
    have e3 : decide (l.length ≤ 32) = true := by simp; omega
    have e4 : decide ((rawSize l : Int) ≤ 240) = decide (rawSize l ≤ 240) := by rw [decide_eq_decide]; omega
    rw [e1, e2, e3, e4]
    simp only [Bool.not_false, Bool.true_and]
    by_cases h5 : (l.length : Int) = 0
    · rw [if_pos h5]
      have : l = [] := List.eq_nil_of_length_eq_zero (by omega)
      subst this
      rfl
    · rw [if_neg h5, w64 _ (by omega) (by omega), if_pos (by omega), if_pos (by omega)]
      have hl : (l.length : Int) - 1 = ((l.length - 1 : Nat) : Int) := by omega
      rw [hl, rd33 l _ (by omega), last33 l (by omega)]
      cases h6 : (l[l.length - 1]).f0 <;> simp [h6]
def slabGood.f (a : Int) (l : List S33) : Option Bool := some (goodP a l)
theorem slabGood.calls (a : Int) (A : Option Addr) (c : Nat) (l : List S33) (r : Bool) (w : World) (hr : Kd.C k33 w A l.length l) (hc : l.length ≤ c) (h : slabGood.f a l = some r) :
    Calls Try.prog 34 #[.agg #[.int .i64 a, .slice A l.length c]] w fun e w' => e = .returned (.bool r) ∧ Below w.heap.size w w' :=
  slab_Good.calls a A c l r w hr hc (by rw [good_pure a l]; exact h)
end Go.Proofs.Ytfjmnaobfbmllaa.M
namespace Go.Proofs.Ytfjmnaobfbmllaa.M
open Go.RowKit Go.Proofs.YtfjmnaobfbmllaaW.PrintWords Go.Proofs.YtfjmnaobfbmllaaW.PrintLast Go.Proofs.YtfjmnaobfbmllaaW.PrintMore
set_option linter.unusedVariables false
set_option linter.unusedSimpArgs false
theorem good_facts (a : Int) (l : List S33) (h : goodP a l = true) : 0 ≤ a ∧ a ≤ 1099511627776 ∧ l.length ≤ 32 ∧ l.any oddS = false ∧ lastUsed l = true ∧ rawSize l ≤ 240 := by
  unfold goodP at h
  simp only [Bool.and_eq_true, decide_eq_true_eq, Bool.not_eq_true'] at h
  obtain ⟨⟨⟨⟨⟨h1, h2⟩, h3⟩, h4⟩, h5⟩, h6⟩ := h
  exact ⟨h1, h2, h3, h4, h5, h6⟩
end Go.Proofs.Ytfjmnaobfbmllaa.M
namespace Go.Proofs.Ytfjmnaobfbmllaa.M
open Go.RowKit Go.Proofs.YtfjmnaobfbmllaaW.PrintWords Go.Proofs.YtfjmnaobfbmllaaW.PrintLast Go.Proofs.YtfjmnaobfbmllaaW.PrintMore
set_option linter.unusedVariables false
set_option linter.unusedSimpArgs false
def padL (bs : List Int) : List Int := bs ++ List.replicate (240 - bs.length) 0
def Buf (w : World) (g : Nat) (bs : List Int) : Prop := bs.length ≤ 240 ∧ w.heap[g]? = some (.cells (nums .u8 (padL bs)).toArray 5 (0, 0))
theorem padL_length (bs : List Int) (h : bs.length ≤ 240) : (padL bs).length = 240 := by unfold padL; simp; omega
theorem pad_step (bs ys : List Int) (h : bs.length + ys.length ≤ 240) :
    (nums .u8 (padL bs)).take bs.length ++ nums .u8 ys ++ (nums .u8 (padL bs)).drop (bs.length + ys.length) = nums .u8 (padL (bs ++ ys)) := by
  unfold padL nums
  rw [← List.map_take, ← List.map_drop, ← List.map_append, ← List.map_append]
  congr 1
  rw [List.take_left, List.drop_append]
  have e1 : bs.drop (bs.length + ys.length) = [] := List.drop_eq_nil_of_le (by omega)
  rw [e1, List.nil_append, List.drop_replicate]
  congr 2
  rw [List.length_append]
  omega
theorem nums_one (bs : List Int) : ∀ v ∈ nums .u8 bs, v.oneCell' = true := by
  intro v hv
  simp only [nums, List.mem_map] at hv
  obtain ⟨x, _, rfl⟩ := hv
  rfl
theorem Buf.grown {w w1 : World} {g : Nat} {bs : List Int} {row : Option Nat} (h : Buf w g bs) (hg : w.grownBy w1 row) (hne : some g ≠ row) : Buf w1 g bs := ⟨h.1, blk_grown h.2 hg hne⟩
theorem Buf.below {w w1 : World} {g : Nat} {bs : List Int} (h : Buf w g bs) (hb : Below w.heap.size w w1) : Buf w1 g bs := ⟨h.1, blk_below h.2 hb⟩
theorem Buf.alloc {w : World} {g : Nat} {bs : List Int} (h : Buf w g bs) (o : Obj) : Buf (w.alloc o) g bs := ⟨h.1, blk_alloc h.2 o⟩
theorem Buf.drewN {w : World} {g : Nat} {bs : List Int} (h : Buf w g bs) (n : Nat) : Buf (w.drewN n) g bs := ⟨h.1, blk_drewN h.2 n⟩
theorem info5i : ∃ i, Try.prog.info? 5 = some i ∧ i.size = 1 := by
  have hi := info5
  cases hq : Try.prog.info? 5 with
  | none => rw [hq] at hi; cases hi
  | some i => rw [hq] at hi; exact ⟨i, rfl, by simp at hi; exact hi.2.1⟩
theorem buf_set {w : World} {g : Nat} {bs ys : List Int} (h : Buf w g bs) (hl : bs.length + ys.length ≤ 240) :
    Buf (w.setRow g ((nums .u8 (padL bs)).take bs.length ++ nums .u8 ys ++ (nums .u8 (padL bs)).drop (bs.length + ys.length)).toArray) g (bs ++ ys) :=
  ⟨by simp; omega, by rw [pad_step bs ys hl]; exact setRow_heap w g _ _ 5 _ h.2⟩
theorem setRow_grown (w : World) (g : Nat) (cs : Array Value) : w.grownBy (w.setRow g cs) (some g) :=
  ⟨rfl, rfl, rfl, by simp [World.setRow], fun k _ hk => setRow_other w g k _ (fun e => hk (by rw [e]))⟩
section
variable {ops : Array Oper} {rest : List Oper} {o : Oper} {a : Act} {Q : Exit → Act → World → Prop}
theorem buf_append1 {W : World} (hgd : o.guard = none) {N : Tmp} (_hd : o.dst = some N) (s x : Operand) (ho : o.op = .call { callee := .builtin .append, args := #[s, x], argTypes := #[36, 36] })
    {g n : Nat} {bs : List Int} {y : Int} (hs : a.eval s = .slice (some ⟨g, 0, none⟩) n 240) (hx : a.eval x = .slice (some ⟨W.heap.size, 0, none⟩) 1 1)
    (HB : Buf W g bs) (hn : n = bs.length) (hl : bs.length + 1 ≤ 240)
    (h : ∀ w1, Buf w1 g (bs ++ [y]) → (W.alloc (.cells #[.int .u8 y] 5)).grownBy w1 (some g) → wpList Try.prog ops Q rest (a.put o.dst (.slice (some ⟨g, 0, none⟩) (n + 1) 240)) w1) :
    wpList Try.prog ops Q (o :: rest) a (W.alloc (.cells #[.int .u8 y] 5)) := by
  subst hn
  obtain ⟨i, hi, hsz⟩ := info5i
  have HB1 := HB.alloc (.cells #[.int .u8 y] 5)
  have hrun := run_append_room (P := Try.prog) (W.alloc (.cells #[.int .u8 y] 5)) 36 o.type 5 i Try.underlying36 hi g bs.length 240 _ HB1.2 ⟨W.heap.size, 0, none⟩ 1 1 (nums .u8 [y]) (by simp [nums, hsz])
    (World.news_of_block (cs := #[.int .u8 y]) (t := 5) (fr := (0, 0)) (heap_alloc_new W _)) (nums_one _) (by omega) (by
      rw [hsz]; simp only [List.size_toArray, nums_length, padL_length bs HB.1, List.length_singleton]; omega)
  refine wpList_plain hgd fun K hK => ?_
  unfold Oper.wp
  simp only [hsz, Nat.mul_one, List.toList_toArray, nums_length, List.length_singleton] at hrun
  simp [execOp, ho, resolve, invoke, builtin, hs, hx, hrun, Result.andThen]
  refine hK _ _ (h _ ?_ (setRow_grown _ _ _))
  have := buf_set HB1 (ys := [y]) (by simpa using hl)
  simpa using this
theorem buf_append_str {W : World} (hgd : o.guard = none) {N : Tmp} (_hd : o.dst = some N) (s x : Operand) (ho : o.op = .call { callee := .builtin .append, args := #[s, x], argTypes := #[36, 9] })
    {g n : Nat} {bs : List Int} {y : ByteArray} (hs : a.eval s = .slice (some ⟨g, 0, none⟩) n 240) (hx : a.eval x = .string y)
    (HB : Buf W g bs) (hn : n = bs.length) (hl : bs.length + y.size ≤ 240)
    (h : ∀ w1, Buf w1 g (bs ++ bytesOf y) → W.grownBy w1 (some g) → wpList Try.prog ops Q rest (a.put o.dst (.slice (some ⟨g, 0, none⟩) (n + y.size) 240)) w1) :
    wpList Try.prog ops Q (o :: rest) a W := by
  subst hn
  obtain ⟨i, hi, hsz⟩ := info5i
  have hrun := Lib.run_append_room_string (P := Try.prog) W 36 9 o.type 5 i Try.underlying36 Try.underlying9 hi hsz g bs.length 240 _ HB.2 y hl (by simp only [List.size_toArray, nums_length, padL_length bs HB.1]; exact hl)
  refine wpList_plain hgd fun K hK => ?_
  unfold Oper.wp
  simp only [List.toList_toArray] at hrun
  simp [execOp, ho, resolve, invoke, builtin, hs, hx, hrun, Result.andThen]
  refine hK _ _ (h _ ?_ (setRow_grown _ _ _))
  have e : Lib.strCells y = nums .u8 (bytesOf y) := by simp [nums, bytesOf, Lib.strCells]
  have := buf_set HB (ys := bytesOf y) (by rw [bytesOf_length]; exact hl)
  rw [bytesOf_length] at this
  rw [e]
  simpa using this
theorem step_buf_str {K : Act → World → Prop} {W : World} (hw : Region.wanted o (yielded ops a.tmps) = true) {N : Tmp} (hN : o.dst = some N) (s x : Operand) (ho : o.op = .call { callee := .builtin .append, args := #[s, x], argTypes := #[36, 9] })
    {g n : Nat} {bs : List Int} {y : ByteArray} (hs : a.eval s = .slice (some ⟨g, 0, none⟩) n 240) (hx : a.eval x = .string y)
    (HB : Buf W g bs) (hn : n = bs.length) (hl : bs.length + y.size ≤ 240)
    (h : ∀ w1, Buf w1 g (bs ++ bytesOf y) → W.grownBy w1 (some g) → K (a.put (some N) (.slice (some ⟨g, 0, none⟩) (n + y.size) 240)) w1) :
    if Region.wanted o (yielded ops a.tmps) = true then Oper.wp Try.prog o a W K Q else K (a.put (some N) undef) W := by
  subst hn
  obtain ⟨i, hi, hsz⟩ := info5i
  have hrun := Lib.run_append_room_string (P := Try.prog) W 36 9 o.type 5 i Try.underlying36 Try.underlying9 hi hsz g bs.length 240 _ HB.2 y hl (by simp only [List.size_toArray, nums_length, padL_length bs HB.1]; exact hl)
  simp only [List.toList_toArray] at hrun
  have he : (execOp a.eval o).run Try.prog W = .ok (.value (.slice (some ⟨g, 0, none⟩) (bs.length + y.size) 240)) (W.setRow g (((nums .u8 (padL bs)).take bs.length ++ Lib.strCells y ++ (nums .u8 (padL bs)).drop (bs.length + y.size)).toArray)) := by
    unfold execOp
    simp [ho, resolve, invoke, builtin, hs, hx, hrun, Result.andThen]
  refine value_ hw hN he ?_
  refine h _ ?_ (setRow_grown _ _ _)
  have e : Lib.strCells y = nums .u8 (bytesOf y) := by simp [nums, bytesOf, Lib.strCells]
  have := buf_set HB (ys := bytesOf y) (by rw [bytesOf_length]; exact hl)
  rw [bytesOf_length] at this
  rw [e]
  simpa using this
end
theorem buf_slice (t : World) {g n : Nat} (hn : n ≤ 240) : (Instr.slice 36 (.slice (some ⟨g, 0, none⟩) n 240) none (some (.int .i64 240)) none).run Try.prog t = .ok (.slice (some ⟨g, 0, none⟩) 240 240) t := by
  obtain ⟨i, hi, hsz⟩ := info5i
  have hel : Try.prog.elem 36 = 5 := by simp [Program.elem, Try.underlying36]
  have hu : Try.prog.underlying 36 = some (.slice (Try.prog.elem 36)) := by rw [hel]; exact Try.underlying36
  rw [run_slice_h t 36 _ n 240 hu .i64 240 (by omega) (by omega), hel]
  simp [sizeOf, typeInfo, hi, sliced, Result.andThen, Addr.add]
theorem buf_text {w : World} {g : Nat} {bs : List Int} (h : Buf w g bs) : (convert 36 9 (.slice (some ⟨g, 0, none⟩) 240 240)).run Try.prog w = .ok (.string (strOfNums (padL bs))) w := by
  have hl := padL_length bs h.1
  refine own_string (P := Try.prog) (base := 0) (n := 240) (e' := 5) Try.underlying36 Try.underlying5 Try.underlying9 (xs := padL bs) ⟨by rw [nums_length, hl], .inr ⟨g, 240, _, rfl, Nat.zero_le _, h.2, Nat.le_refl _, by unfold maxLen; omega, ?_, ?_⟩⟩
  · simp only [List.size_toArray, nums_length, hl]
  · simp only [List.toList_toArray]
    exact List.take_of_length_le (by rw [nums_length, hl]; decide)
end Go.Proofs.Ytfjmnaobfbmllaa.M
namespace Go.Proofs.Ytfjmnaobfbmllaa.M
open Go.RowKit Go.Proofs.YtfjmnaobfbmllaaW.PrintWords Go.Proofs.YtfjmnaobfbmllaaW.PrintLast Go.Proofs.YtfjmnaobfbmllaaW.PrintMore
attribute [local go_sem] max2_int min2_int max_two min_two max_three min_three max_four min_four   -- for this text's walks alone
set_option linter.unusedVariables false
set_option linter.unusedSimpArgs false
def high_Put.l0 : Nat → Int → Int → List Int → Int → Int → Option (ByteArray)
 | 0, _, _, _, _, _ => none
 | k + 1, x0, x1, x5, x9, x10 => if x10 < x9 then (if 0 ≤ (wrap64 (8 * x10)) then (if 0 ≤ (wrap64 ((wrap64 (x1 - 1)) - x10)) then (if (wrap64 ((wrap64 (x1 - 1)) - x10)) < (x5.length : Int) then (high_Put.l0 k x0 x1 (x5.set ((wrap64 ((wrap64 (x1 - 1)) - x10)) : Int).toNat ((shr .u64 x0 (wrap64 (8 * x10))) % 256)) x9 (wrap64 (x10 + 1))) else (none)) else (none)) else (none)) else (some (strOfNums x5))
def high_Put.f (k : Nat) (a0 : Int) (a1 : Int) : Option (ByteArray) := if 0 ≤ a1 then (if (a1 : Int).toNat ≤ 281474976710656 then (high_Put.l0 k a0 a1 (List.replicate (a1 : Int).toNat 0) a1 0) else (none)) else (none)
set_option maxHeartbeats 8000000 in
set_option maxRecDepth 100000 in
theorem high_Put.calls (k : Nat) (a0 : Int) (a1 : Int) (r : ByteArray) (w : World) (h : high_Put.f k a0 a1 = some r) :
  Calls Try.prog 78 #[.int .u64 a0, .int .i64 a1] w fun e w' => e = .returned (.string r) ∧ Below w.heap.size w w' := by
 have HB := aq (Below.refl w.heap.size w)
 have H : (if 0 ≤ a1 then (if (a1 : Int).toNat ≤ 281474976710656 then (high_Put.l0 k a0 a1 (List.replicate (a1 : Int).toNat 0) a1 0) else (none)) else (none)) = some r := h
 clear h
 by_cases c3 : 0 ≤ a1
 ·rw [if_pos c3] at H
  have c3b0 := eq_true c3
  have c3b1 : decide (0 ≤ a1) = true := decide_eq_true c3
  clear c3
  by_cases c4 : (a1 : Int).toNat ≤ 281474976710656
  ·rw [if_pos c4] at H
   have c4b0 := eq_true c4
   have c4b1 : decide ((a1 : Int).toNat ≤ 281474976710656) = true := decide_eq_true c4
   clear c4
   obtain ⟨y101, hy101⟩ : ∃ y_ : List Int, y_ = (List.replicate (a1 : Int).toNat 0) := ⟨_, rfl⟩
   replace H : (high_Put.l0 k a0 a1 y101 a1 0) = some r := by first | (rw [hy101]; with_reducible exact H) | (have H2_ := (Option.bind_some _ _).symm.trans H; rw [hy101]; with_reducible exact H2_) | (have H2_ := (Option.bind_some _ _).symm.trans H; with_reducible exact H2_) | with_reducible exact H | (rw [hy101]; exact H) | exact H
   have Ny101 := aq hy101
   clear hy101
   have H' := aq H
   clear H
   go_enter Try.func78, Try.ntmps78
   go_wp2_with (first | ((with_reducible refine gate_dst (N := 8) rfl ?_); refine Kd.R_make (Kd.int .u8) _ 5 rfl (N := 8) rfl 36 _ _ rfl a1 rfl rfl Try.underlying36 (.int .u8 0) 1 info5 rfl (by decide) (by omega) 0 (ok := fun _ => True) (okp := fun _ => True) rfl (fun _ hk => hk) trivial (of_decide_eq_true (by first | (with_reducible assumption) | assumption)) (Nat.le_trans (Nat.mul_le_mul_right _ (of_decide_eq_true (by first | (with_reducible assumption) | assumption) : a1.toNat ≤ 281474976710656)) (by omega)) (Below.refl _ _) (Nat.le_refl _) ?_; intro v102 w5 ho6 hb hg_ hnew_; clear hg_ hnew_; (first | rw [← Ny101.out] at ho6 | (simp only [Int.reduceToNat] at ho6; rw [← Ny101.out] at ho6)); have n0_ := aq (Kd.R_lower ho6 (below_size (stH HB))); have n1_ := aq (below_step (stH HB) hb); have HO103 := n0_; replace HB := n1_; clear n0_ n1_; clear hb ho6))
   go_loopg [10] k (fun kq v10 w' => ∃ (x5_1 : List Int) (x10_1 : Int), v10 = .int .i64 x10_1 ∧ Aside0 (high_Put.l0 kq a0 a1 x5_1 a1 x10_1 = some r) ∧ Aside0 (kq ≤ k) ∧ Aside0 (Kd.R (Kd.int .u8) 5 w' w.heap.size (fun _ => True) v102 x5_1) ∧ Aside0 (Below w.heap.size w w'))
   case atStart => exact ⟨(y101), (0), eqS, H', ⟨Nat.le_refl _⟩, ⟨by (with_reducible repeat (first | apply Kd.R_alloc | apply Kd.R_drewN | apply Kd.R_drew)); exact HO103.out⟩, ⟨stH HB⟩⟩
   case round =>
    clear H'
    try clear p2
    try clear c3
    try clear c3b0
    try clear c3b1
    try clear c4
    try clear c4b0
    try clear c4b1
    obtain ⟨x5_1, x10_1, rfl, HA, HK1, HO_5, HB⟩ := hrel
    cases gk with
    | zero => exact absurd HA.out (by simp [high_Put.l0])
    | succ k1 =>
     have H := HA.out
     clear HA
     simp only [high_Put.l0] at H
     by_cases c7 : x10_1 < a1
     ·rw [if_pos c7] at H
      have c7b0 : decide (x10_1 < a1) = true := decide_eq_true c7
      clear c7
      obtain ⟨ji8, hji8⟩ : ∃ j_ : Int, (wrap64 (8 * x10_1)) = j_ := ⟨_, rfl⟩
      replace H : (if 0 ≤ (ji8) then (if 0 ≤ (wrap64 ((wrap64 (a1 - 1)) - x10_1)) then (if (wrap64 ((wrap64 (a1 - 1)) - x10_1)) < (x5_1.length : Int) then (high_Put.l0 k1 a0 a1 (x5_1.set ((wrap64 ((wrap64 (a1 - 1)) - x10_1)) : Int).toNat ((shr .u64 a0 (ji8)) % 256)) a1 (wrap64 (x10_1 + 1))) else (none)) else (none)) else (none)) = some r := by first | (rw [hji8] at H; exact H) | (simp only [hji8] at H ⊢; exact H)
      have hji8w : (IntKind.i64.wrap (8 * x10_1)) = ji8 := (i64_w _).trans hji8
      by_cases c9 : 0 ≤ (ji8)
      ·rw [if_pos c9] at H
       have c9b0 := eq_true c9
       have c9b1 : decide (0 ≤ (ji8)) = true := decide_eq_true c9
       clear c9
       obtain ⟨ji10, hji10⟩ : ∃ j_ : Int, (shr .u64 a0 (ji8)) = j_ := ⟨_, rfl⟩
       replace H : (if 0 ≤ (wrap64 ((wrap64 (a1 - 1)) - x10_1)) then (if (wrap64 ((wrap64 (a1 - 1)) - x10_1)) < (x5_1.length : Int) then (high_Put.l0 k1 a0 a1 (x5_1.set ((wrap64 ((wrap64 (a1 - 1)) - x10_1)) : Int).toNat ((ji10) % 256)) a1 (wrap64 (x10_1 + 1))) else (none)) else (none)) = some r := by first | (rw [hji10] at H; exact H) | (simp only [hji10] at H ⊢; exact H)
       have hji10_ : (a0 / 2 ^ min (ji8).toNat 64) = ji10 := hji10
       have hji10z : (ji8) ≤ 64 → (a0 / 2 ^ (ji8).toNat) = ji10 := shr_small hji10
       obtain ⟨ji11, hji11⟩ : ∃ j_ : Int, (wrap64 ((wrap64 (a1 - 1)) - x10_1)) = j_ := ⟨_, rfl⟩
       replace H : (if 0 ≤ (ji11) then (if (ji11) < (x5_1.length : Int) then (high_Put.l0 k1 a0 a1 (x5_1.set ((ji11) : Int).toNat ((ji10) % 256)) a1 (wrap64 (x10_1 + 1))) else (none)) else (none)) = some r := by first | (rw [hji11] at H; exact H) | (simp only [hji11] at H ⊢; exact H)
       have hji11w : (IntKind.i64.wrap ((wrap64 (a1 - 1)) - x10_1)) = ji11 := (i64_w _).trans hji11
       by_cases c12 : 0 ≤ (ji11)
       ·rw [if_pos c12] at H
        have c12b0 : decide (0 ≤ (ji11)) = true := decide_eq_true c12
        clear c12
        by_cases c13 : (ji11) < (x5_1.length : Int)
        ·rw [if_pos c13] at H
         have c13b0 : decide ((ji11) < (x5_1.length : Int)) = true := decide_eq_true c13
         clear c13
         obtain ⟨y104, hy104⟩ : ∃ y_ : List Int, y_ = (x5_1.set ((ji11) : Int).toNat ((ji10) % 256)) := ⟨_, rfl⟩
         replace H : (high_Put.l0 k1 a0 a1 y104 a1 (wrap64 (x10_1 + 1))) = some r := by first | (rw [hy104]; with_reducible exact H) | (have H2_ := (Option.bind_some _ _).symm.trans H; rw [hy104]; with_reducible exact H2_) | (have H2_ := (Option.bind_some _ _).symm.trans H; with_reducible exact H2_) | with_reducible exact H | (rw [hy104]; exact H) | exact H
         have Ny104 := aq hy104
         clear hy104
         have H' := aq H
         clear H
         have p14 : 0 ≤ ((ji11) : Int) := of_decide_eq_true (by first | (with_reducible assumption) | assumption)
         have q14 : ((ji11) : Int) < ((x5_1.length : Int) : Int) := of_decide_eq_true (by first | (with_reducible assumption) | assumption)
         obtain ⟨go14, co14, eo14, gb14, gl14, cl14, HG14⟩ := Kd.R_form HO_5.out (by omega)
         (first | cases eo14 | (injection eo14 with ea_ en_ ec_; (first | subst ea_ | (injection ea_ with ea_; subst ea_)); subst ec_; clear en_))
         have GB14 := aq gb14
         have GG14 := aq HG14
         clear gb14 gl14 HG14
         obtain ⟨hx14_0, hf14_0⟩ := Kd.R_celln 0 HO_5.out ((ji11) : Int) p14 q14
         replace p14 := eq_true p14
         replace q14 := eq_true q14
         have HP15 := Kd.R_putg HO_5.out ((ji11) : Int) ((ji10) % 256)
         go_wp2_with (first | ((with_reducible refine gate_store (t := 5) (p := 23) rfl ?_); refine store_event (t := 5) (p := 23) (v := ?vo_w16) (w1 := (wr.setCell ⟨go14, ((ji11) : Int).toNat, none⟩ (.int .u8 ((ji10) % 256)))) ?hg ?ho ?hn ?hr ?_; (case ho => rfl); (case hg => rfl); (case hn => rfl); (case hr => first | (go_simp; done) | (go_simp; rfl)); intro w16 hw; have hg : wr.grownBy w16 (some go14) := (by rw [hw]; exact HP15.2); have hp_ : Kd.R (Kd.int .u8) 5 w16 w.heap.size (fun _ => True) (.slice (some ⟨go14, 0, none⟩) x5_1.length co14) y104 := (by rw [hw, Ny104.out]; exact HP15.1); clear HP15; have n0_ := aq (hp_); have n1_ := aq ((by rw [hw]; exact below_set (HB.out) GB14.out : Below w.heap.size w w16)); replace HO_5 := n0_; replace HB := n1_; clear n0_ n1_; clear hg hw hp_))
         go_roundg k1
         case measure => have := HK1.out; omega
         case rel => exact ⟨(y104), (wrap64 (x10_1 + 1)), eqS, H', ⟨by have := HK1.out; omega⟩, ⟨by (with_reducible repeat (first | apply Kd.R_alloc | apply Kd.R_drewN | apply Kd.R_drew)); exact HO_5.out⟩, ⟨stH HB⟩⟩
        ·rw [if_neg c13] at H
         exact absurd H (by simp)
       ·rw [if_neg c12] at H
        exact absurd H (by simp)
      ·rw [if_neg c9] at H
       exact absurd H (by simp)
     ·rw [if_neg c7] at H
      have c7b0 : decide (x10_1 < a1) = false := decide_eq_false c7
      clear c7
      obtain rfl := Option.some.inj H
      have hcv17 := own_string (P := Try.prog) Try.underlying36 Try.underlying5 Try.underlying9 (Kd.own_of_R HO_5.out)
      go_wp2
      go_ret
      exact ⟨eqW, by repeat (first | (with_reducible first | exact HB.out | apply below_alloc | apply pw_below_drewN | apply below_drew1) | exact HB.out)⟩
  ·rw [if_neg c4] at H
   exact absurd H (by simp)
 ·rw [if_neg c3] at H
  exact absurd H (by simp)
end Go.Proofs.Ytfjmnaobfbmllaa.M
namespace Go.Proofs.Ytfjmnaobfbmllaa.M
open Go.RowKit Go.Proofs.YtfjmnaobfbmllaaW.PrintWords Go.Proofs.YtfjmnaobfbmllaaW.PrintLast Go.Proofs.YtfjmnaobfbmllaaW.PrintMore
set_option linter.unusedVariables false
set_option linter.unusedSimpArgs false
def hiL (n : Nat) (a : Int) : List Int := (List.range n).map fun i => a / 2 ^ (8 * (n - 1 - i)) % 256
theorem hiL_length (n : Nat) (a : Int) : (hiL n a).length = n := by simp [hiL]
def hiP (n i : Nat) (a : Int) : List Int := (List.range n).map fun j => if n ≤ j + i then a / 2 ^ (8 * (n - 1 - j)) % 256 else 0
theorem hiP_set (n i : Nat) (a : Int) (h : i < n) : (hiP n i a).set (n - 1 - i) (a / 2 ^ (8 * i) % 256) = hiP n (i + 1) a := by
  apply List.ext_getElem
  · simp [hiP]
  intro j h1 h2
  simp only [hiP, List.length_set, List.length_map, List.length_range] at h1
  simp only [hiP, List.getElem_set, List.getElem_map, List.getElem_range]
  by_cases e : n - 1 - i = j
  · subst e
    rw [if_pos rfl, if_pos (by omega), show n - 1 - (n - 1 - i) = i by omega]
  · rw [if_neg e]
    by_cases e2 : n ≤ j + i
    · rw [if_pos e2, if_pos (by omega)]
    · rw [if_neg e2, if_neg (by omega)]
theorem put_loop (n : Nat) (hn : n ≤ 8) (a : Int) (d : Nat) : ∀ (k i : Nat), i + d = n → d < k → high_Put.l0 k a n (hiP n i a) n i = some (strOfNums (hiL n a)) := by
  induction d with
  | zero =>
    intro k i hi hk
    obtain ⟨k, rfl⟩ : ∃ m, k = m + 1 := ⟨k - 1, by omega⟩
    simp only [high_Put.l0]
    rw [if_neg (by omega)]
    congr 2
    unfold hiP hiL
    apply List.map_congr_left
    intro j _
    rw [if_pos (by omega)]
  | succ d ih =>
    intro k i hi hk
    obtain ⟨k, rfl⟩ : ∃ m, k = m + 1 := ⟨k - 1, by omega⟩
    simp only [high_Put.l0]
    have hlen : (hiP n i a).length = n := by simp [hiP]
    rw [if_pos (by omega), w64 (8 * (i : Int)) (by omega) (by omega), if_pos (by omega), w64 ((n : Int) - 1) (by omega) (by omega), w64 ((n : Int) - 1 - i) (by omega) (by omega), if_pos (by omega), if_pos (by rw [hlen]; omega),
      w64 ((i : Int) + 1) (by omega) (by omega)]
    have e1 : ((n : Int) - 1 - i).toNat = n - 1 - i := by omega
    have e2 : shr .u64 a (8 * (i : Int)) = a / 2 ^ (8 * i) := by
      unfold shr
      rw [Nat.min_eq_left (by show (8 * (i : Int)).toNat ≤ 64; omega)]
      congr 2
    rw [e1, e2, hiP_set n i a (by omega)]
    have := ih k (i + 1) (by omega) (by omega)
    rwa [show ((i + 1 : Nat) : Int) = (i : Int) + 1 by omega] at this
theorem put_pure (n : Nat) (hn : n ≤ 8) (a : Int) (k : Nat) (hk : 8 < k) : high_Put.f k a n = some (strOfNums (hiL n a)) := by
  unfold high_Put.f
  rw [if_pos (by omega), if_pos (by omega)]
  have e : List.replicate ((n : Int).toNat) (0 : Int) = hiP n 0 a := by
    apply List.ext_getElem
    · simp [hiP]
    intro j h1 h2
    simp only [hiP, List.getElem_map, List.getElem_range, List.getElem_replicate]
    simp at h1
    rw [if_neg (by omega)]
  rw [e]
  exact put_loop n hn a n k 0 (by omega) (by omega)
def highPut.f (a n : Int) : Option ByteArray := if 0 ≤ n ∧ n ≤ 8 then some (strOfNums (hiL n.toNat a)) else none
theorem highPut.calls (a n : Int) (r : ByteArray) (w : World) (h : highPut.f a n = some r) :
    Calls Try.prog 78 #[.int .u64 a, .int .i64 n] w fun e w' => e = .returned (.string r) ∧ Below w.heap.size w w' := by
  unfold highPut.f at h
  split at h
  · rename_i hn
    obtain ⟨m, rfl⟩ := Int.eq_ofNat_of_zero_le hn.1
    exact high_Put.calls 9 a m r w (by rw [put_pure m (by omega) a 9 (by omega)]; simpa using h)
  · cases h
end Go.Proofs.Ytfjmnaobfbmllaa.M
namespace Go.Proofs.Ytfjmnaobfbmllaa.M
open Go.RowKit Go.Proofs.YtfjmnaobfbmllaaW.PrintWords Go.Proofs.YtfjmnaobfbmllaaW.PrintLast Go.Proofs.YtfjmnaobfbmllaaW.PrintMore
set_option linter.unusedVariables false
set_option linter.unusedSimpArgs false
def slotB (x : S33) : List Int := if x.f0 then (x.f1.size : Int) :: bytesOf x.f1 else [255]
def slotsB (l : List S33) : List Int := l.flatMap slotB
def encL (a : Int) (l : List S33) : List Int := hiL 8 a ++ (l.length : Int) :: slotsB l
theorem slotB_length (x : S33) (h : oddS x = false) : (slotB x).length = 1 + x.f1.size := by
 unfold slotB
 by_cases hu : x.f0 = true
 ·rw [if_pos hu, List.length_cons, bytesOf_length]; omega
 ·rw [if_neg hu]
  unfold oddS at h
  simp [hu] at h
  have h2 := h.1
  have : x.f1.toList.length = 0 := by rw [h2]; rfl
  rw [ByteArray.toList_eq] at this
  simp at this ⊢
  have e : x.f1.size = x.f1.data.size := rfl
  omega
theorem slotsB_take (l : List S33) (i : Nat) (h : i < l.length) : slotsB (l.take (i + 1)) = slotsB (l.take i) ++ slotB l[i] := by
 unfold slotsB
 rw [List.take_succ_eq_append_getElem h, List.flatMap_append]
 simp
theorem slotsB_length (l : List S33) (h : l.any oddS = false) (i : Nat) (hi : i ≤ l.length) : (slotsB (l.take i)).length + sumS (l.drop i) = sumS l := by
 induction i with
 | zero => simp [slotsB]
 | succ i ih =>
  have hlt : i < l.length := by omega
  have h1 := ih (by omega)
  rw [slotsB_take l i hlt, List.length_append, slotB_length _ (by
   rw [List.any_eq_false] at h
   simpa using h l[i] (List.getElem_mem hlt))]
  have := sumS_drop l i hlt
  omega
theorem made_nums (n : Nat) : madeCells #[.int .u8 0] n = (nums .u8 (List.replicate n 0)).toArray := by
 apply Array.ext
 ·simp [madeCells, nums]
 intro i h1 h2
 simp [madeCells, nums, Nat.mod_one]
theorem make240 (W : World) : (Instr.makeSlice 36 (.int .i64 0) (.int .i64 240)).run Try.prog W = .ok (.slice (some ⟨W.heap.size, 0, none⟩) 0 240) (W.alloc (.cells (nums .u8 (padL [])).toArray 5)) := by
 obtain ⟨i0, hi, hzz⟩ := Option.map_eq_some_iff.1 info5
 simp only [Prod.mk.injEq] at hzz
 obtain ⟨hz0, hz1, hz2⟩ := hzz
 have h := run_make (P := Try.prog) W 36 5 i0 _ Try.underlying36 hi hz0 .i64 .i64 0 240 (by omega) (by omega) (by rw [hz2]; omega) (by omega)
 have e : madeCells (Value.int .u8 0).cells (Int.toNat 240 * i0.size) = (nums .u8 (padL [])).toArray := by
  rw [hz1]
  exact made_nums 240
 rw [h, e]
 rfl
theorem strOfNums_size (xs : List Int) : (strOfNums xs).size = xs.length := by
 simp [strOfNums, ByteArray.size]
theorem bytesOf_strOfNums (xs : List Int) (h : ∀ x ∈ xs, 0 ≤ x ∧ x ≤ 255) : bytesOf (strOfNums xs) = xs := by
 unfold bytesOf strOfNums
 simp only [List.map_map]
 conv => rhs; rw [← List.map_id xs]
 apply List.map_congr_left
 intro x hx
 have := h x hx
 simp
 omega
theorem hiL_range (n : Nat) (a : Int) : ∀ x ∈ hiL n a, 0 ≤ x ∧ x ≤ 255 := by
 intro x hx
 simp only [hiL, List.mem_map] at hx
 obtain ⟨i, _, rfl⟩ := hx
 omega
def slab_Encode.f (a : Int) (l : List S33) : Option (ByteArray × Int) := if goodP a l = true then some (strOfNums (padL (encL a l)), 0) else some ((⟨#[]⟩ : ByteArray), 1)
set_option maxHeartbeats 4000000 in
set_option maxRecDepth 100000 in
theorem slab_Encode.good (a : Int) (A : Option Addr) (c : Nat) (l : List S33) (w : World) (hr : Kd.C k33 w A l.length l) (hc : l.length ≤ c) (hg : goodP a l = true) :
  Calls Try.prog 32 #[.agg #[.int .i64 a, .slice A l.length c]] w fun e w' => e = .returned (.tuple #[.string (strOfNums (padL (encL a l))), .int .i64 0]) ∧ Below w.heap.size w w' := by
 have hu24 := Try.underlying24
 have hu33 := Try.underlying33
 have hcg : slabGood.f a l = some true := by unfold slabGood.f; rw [hg]
 unfold goodP at hg
 simp only [Bool.and_eq_true, decide_eq_true_eq, Bool.not_eq_true'] at hg
 obtain ⟨⟨⟨⟨⟨ha0, ha1⟩, hl32⟩, hodd⟩, hlast⟩, h240⟩ := hg
 have HR := Aside0.mk hr
 have HC := Aside0.mk hc
 have HG := Aside0.mk hcg
 have HO := Aside0.mk hodd
 have HS := Aside0.mk h240
 clear hr hc hcg hodd hlast h240
 have HB := Aside0.mk (Below.refl w.heap.size w)
 have HHP : Aside0 (highPut.f a 8 = some (strOfNums (hiL 8 a))) := ⟨by unfold highPut.f; rw [if_pos (by omega)]; rfl⟩
 have hwr0 : IntKind.u64.wrap a = a := by rw [IntKind.wrap_u64]; omega
 have HWR := Aside0.mk hwr0
 clear hwr0
 go_enter Try.func32, Try.ntmps32
 go_wp2_with (first | ((with_reducible refine gate_dst (N := 1) rfl ?_); (try (refine gate_guard (by rfl) ?_; dsimp only)); refine box_event ?hg (N := 1) ?hd (cs := #[.int .i64 a, .slice A l.length c]) (t := 24) ?hr ?_; (case hd => rfl); (case hg => rfl); (case hr => first | (go_simp; done) | (go_simp; rfl)); intro g1 hg1 w5 hbox hb; have HBK := Aside0.mk hbox; have n1_ := Aside0.mk (below_step HB.out hb); have HG1 := Aside0.mk (by rw [hg1]; exact HB.out.size : w.heap.size ≤ g1); clear HB; have HB := n1_; clear n1_ hbox hb hg1; obtain ⟨hc0, hc1⟩ := cl2 (W := w5) HBK.out) | ((with_reducible refine gate_callee (f := 34) rfl ?_); refine goesL_ (some 8) rfl rfl Try.func34 (by kernel_rfl) rfl #[.agg #[.int .i64 a, .slice A l.length c]] rfl (by (try simp only [List.map_toArray, List.map_cons, List.map_nil]); first | done | rfl) ?_; (with_reducible refine (slabGood.calls a _ _ l true _ ?side1 ?side2 HG.out).mono ?_); (case side1 => exact Kd.C_below HR.out HB.out); (case side2 => exact HC.out); rintro e w6 ⟨rfl, hb⟩; refine ⟨_, rfl, ?_⟩; have n0_ := Aside0.mk (blk_below (g := g1) HBK.out hb); have n1_ := Aside0.mk (below_step HB.out hb); clear HB HBK hc0 hc1 hb; have HBK := n0_; have HB := n1_; clear n0_ n1_))
 have n0_ := Aside0.mk (blk_drew HBK.out)
 have n1_ := Aside0.mk (below_drew1 HB.out)
 clear HBK HB
 have HBK := n0_
 have HB := n1_
 clear n0_ n1_
 refine start_ (n := 7) (S := fun w' => w'.cell? ⟨g1, 0, none⟩ = some (.int .i64 a)) (ds := []) #[false, false, false, false, false, false, false] (by kernel_rfl) rfl rfl ((blk_cell HBK.out 0).trans rfl) (fun hHeld => ?_)
 generalize w6.drew = w7 at HBK HB hHeld ⊢
 refine pure_ (i := 1) (N := some 11) (v := ?_) (a' := ?_) #[false, true, false, false, false, false, false] rfl rfl (by kernel_rfl) (fun _ _ _ h => h) (Or.inl ⟨by rfl, ?_⟩) ?_ ?_
 rotate_left
 ·intro w'
  go_simp
  with_reducible rfl
 rotate_left
 ·simp only [Act.put, List.setIfInBounds_toArray, List.set_cons_zero, List.set_cons_succ, i64_w, i32_w]
  rfl
 refine take_ (i := 2) (N := some 12) (v := ?_) (a' := ?_) #[false, true, true, false, false, false, false] rfl rfl (by kernel_rfl) (fun _ _ _ h => h) (Or.inl ⟨by rfl, ?_⟩) hHeld ?_ ?_
 rotate_left
 ·intro w' s0
  go_simp
  with_reducible rfl
 rotate_left
 ·simp only [Act.put, List.setIfInBounds_toArray, List.set_cons_zero, List.set_cons_succ, i64_w, i32_w]
  rfl
 refine pure_ (i := 3) (N := some 13) (v := ?_) (a' := ?_) #[false, true, true, true, false, false, false] rfl rfl (by kernel_rfl) (fun _ _ _ h => h) (Or.inl ⟨by rfl, ?_⟩) ?_ ?_
 rotate_left
 ·intro w'
  go_simp
  with_reducible rfl
 rotate_left
 ·simp only [Act.put, List.setIfInBounds_toArray, List.set_cons_zero, List.set_cons_succ, i64_w, i32_w]
  rfl
 rw [HWR.out]
 refine join_ (σ := Nat) 2 #[true, true, true, true, true, false, false] (fun s_ => [(10, .slice (some ⟨s_, 0, none⟩) 0 240), (14, .string (strOfNums (hiL 8 a)))]) (fun (s_ : Nat) w' => w'.cell? ⟨g1, 0, none⟩ = some (.int .i64 a) ∧ Buf w' s_ [] ∧ w'.heap[g1]? = some (.cells #[.int .i64 a, .slice A l.length c] 24 (0, 0)) ∧ w.heap.size ≤ s_ ∧ s_ ≠ g1 ∧ Below w.heap.size w w') ?_ ?_
 rotate_left
 ·intro hCont
  refine two_ (i := 0) (j := 4) (Ni := some 10) (Nj := some 14) #[true, true, true, true, false, false, false] #[false, true, true, true, true, false, false] rfl rfl rfl rfl (by kernel_rfl) (by decide) (by decide) (fun K hK => ?_) (fun K hK => ?_)
  ·skip
   have hma2 := make240 w7
   refine value_ (w1 := ?_) (v := ?_) (by rfl) rfl ?_ ?_
   rotate_left 2
   ·go_simp
    constructor
    ·rfl
    ·rfl
   clear hma2
   have hsz := blk_lt HBK.out
   have hbW : Below w.heap.size w w7 := HB.out
   obtain ⟨g2, hg2⟩ : ∃ g_, g_ = w7.heap.size := ⟨_, rfl⟩
   have hBf : Aside0 (Buf (w7.alloc (.cells (nums .u8 (padL [])).toArray 5)) g2 []) := ⟨⟨by simp, by rw [hg2]; exact blk_new w7 _⟩⟩
   have n0_ := Aside0.mk (blk_alloc HBK.out (.cells (nums .u8 (padL [])).toArray 5))
   have n1_ := Aside0.mk (below_alloc HB.out (.cells (nums .u8 (padL [])).toArray 5))
   have HG2 := Aside0.mk (by rw [hg2]; exact hbW.size : w.heap.size ≤ g2)
   have HN2 := Aside0.mk (by rw [hg2]; omega : g2 ≠ g1)
   rw [← hg2]
   clear hg2 hsz hbW HBK HB
   generalize w7.alloc (.cells (nums .u8 (padL [])).toArray 5) = w8 at hBf n0_ n1_ ⊢
   have HBK := n0_
   have HB := n1_
   clear n0_ n1_
   refine hK.out _ _ ((blk_cell HBK.out 0).trans rfl) (fun hHeld => ?_)
   clear hK K
   refine norm_ (a' := ?_) ?_ ?_
   rotate_left
   ·show Act.put _ (some 10) _ = _
    simp only [Act.put, List.setIfInBounds_toArray, List.set_cons_zero, List.set_cons_succ, i64_w, i32_w]
    rfl
   refine one_ (i := 4) (N := some 14) #[true, true, true, true, true, false, false] rfl rfl (by kernel_rfl) (by decide) (fun K hK => ?_)
   refine goes_ Try.func78 (by kernel_rfl) rfl #[.int .u64 a, .int .i64 8] (by rfl) rfl rfl (by (try simp only [List.map_toArray, List.map_cons, List.map_nil]); first | done | rfl) ?_
   with_reducible refine (highPut.calls a 8 _ _ HHP.out).mono ?_
   rintro e w9 ⟨rfl, hb⟩
   refine ⟨_, rfl, ?_⟩
   have hBf2 := Aside0.mk (Buf.below hBf.out hb)
   clear hBf
   have hBf := hBf2
   clear hBf2
   have n0_ := Aside0.mk (blk_below HBK.out hb)
   have n1_ := Aside0.mk (below_step HB.out hb)
   clear HBK HB hb
   have HBK := n0_
   have HB := n1_
   clear n0_ n1_
   refine hK.out _ _ ((blk_cell HBK.out 0).trans rfl) (fun hHeld => ?_)
   clear hK K
   exact norm_ (by simp only [putAll, Act.put, List.setIfInBounds_toArray, List.set_cons_zero, List.set_cons_succ]) (hCont g2 _ ⟨hHeld, hBf.out, HBK.out, HG2.out, HN2.out, HB.out⟩)

  ·skip
   refine goes_ Try.func78 (by kernel_rfl) rfl #[.int .u64 a, .int .i64 8] (by rfl) rfl rfl (by (try simp only [List.map_toArray, List.map_cons, List.map_nil]); first | done | rfl) ?_
   with_reducible refine (highPut.calls a 8 _ _ HHP.out).mono ?_
   rintro e w8 ⟨rfl, hb⟩
   refine ⟨_, rfl, ?_⟩
   have n0_ := Aside0.mk (blk_below HBK.out hb)
   have n1_ := Aside0.mk (below_step HB.out hb)
   clear HBK HB hb
   have HBK := n0_
   have HB := n1_
   clear n0_ n1_
   refine hK.out _ _ ((blk_cell HBK.out 0).trans rfl) (fun hHeld => ?_)
   clear hK K
   refine norm_ (a' := ?_) ?_ ?_
   rotate_left
   ·show Act.put _ (some 14) _ = _
    simp only [Act.put, List.setIfInBounds_toArray, List.set_cons_zero, List.set_cons_succ, i64_w, i32_w]
    rfl
   refine one_ (i := 0) (N := some 10) #[true, true, true, true, true, false, false] rfl rfl (by kernel_rfl) (by decide) (fun K hK => ?_)
   have hma2 := make240 w8
   refine value_ (w1 := ?_) (v := ?_) (by rfl) rfl ?_ ?_
   rotate_left 2
   ·go_simp
    constructor
    ·rfl
    ·rfl
   clear hma2
   have hsz := blk_lt HBK.out
   have hbW : Below w.heap.size w w8 := HB.out
   obtain ⟨g2, hg2⟩ : ∃ g_, g_ = w8.heap.size := ⟨_, rfl⟩
   have hBf : Aside0 (Buf (w8.alloc (.cells (nums .u8 (padL [])).toArray 5)) g2 []) := ⟨⟨by simp, by rw [hg2]; exact blk_new w8 _⟩⟩
   have n0_ := Aside0.mk (blk_alloc HBK.out (.cells (nums .u8 (padL [])).toArray 5))
   have n1_ := Aside0.mk (below_alloc HB.out (.cells (nums .u8 (padL [])).toArray 5))
   have HG2 := Aside0.mk (by rw [hg2]; exact hbW.size : w.heap.size ≤ g2)
   have HN2 := Aside0.mk (by rw [hg2]; omega : g2 ≠ g1)
   rw [← hg2]
   clear hg2 hsz hbW HBK HB
   generalize w8.alloc (.cells (nums .u8 (padL [])).toArray 5) = w9 at hBf n0_ n1_ ⊢
   have HBK := n0_
   have HB := n1_
   clear n0_ n1_
   refine hK.out _ _ ((blk_cell HBK.out 0).trans rfl) (fun hHeld => ?_)
   clear hK K
   exact norm_ (by simp only [putAll, Act.put, List.setIfInBounds_toArray, List.set_cons_zero, List.set_cons_succ]) (hCont g2 _ ⟨hHeld, hBf.out, HBK.out, HG2.out, HN2.out, HB.out⟩)

 clear hHeld HBK HB
 rintro g2 w9 ⟨hHeld, h1_, h2_, h3_, h4_, h5_⟩
 have hBf := Aside0.mk h1_
 have HBK := Aside0.mk h2_
 have HG2 := Aside0.mk h3_
 have HN2 := Aside0.mk h4_
 have HB := Aside0.mk h5_
 clear h1_ h2_ h3_ h4_ h5_
 refine norm_ (a' := ?_) ?_ ?_
 rotate_left
 ·simp only [putAll, Act.put, List.setIfInBounds_toArray, List.set_cons_zero, List.set_cons_succ]
  rfl
 refine one_ (i := 5) (N := some 15) #[true, true, true, true, true, true, false] rfl rfl (by kernel_rfl) (by decide) (fun K hK => ?_)
 refine step_buf_str (by rfl) (N := 15) rfl _ _ rfl rfl rfl hBf.out rfl (by rw [strOfNums_size, hiL_length]; simp) ?_
 intro w10 hb10 hg10
 rw [List.nil_append, bytesOf_strOfNums _ (hiL_range 8 a), strOfNums_size, hiL_length] at *
 have n0_ := Aside0.mk (blk_grown HBK.out hg10 (by simpa using fun e_ => HN2.out e_.symm))
 have n1_ := Aside0.mk (pw_below_grown HB.out (some g2) HB.out.size hg10 (fun k_ e_ => by cases e_; exact HG2.out))
 have n2_ := Aside0.mk hb10
 clear HBK HB hBf hb10 hg10
 have HBK := n0_
 have HB := n1_
 have hBf := n2_
 clear n0_ n1_ n2_
 refine hK.out _ _ ((blk_cell HBK.out 0).trans rfl) (fun hHeld => ?_)
 clear hK K
 refine norm_ (a' := ?_) ?_ ?_
 rotate_left
 ·show Act.put _ (some 15) _ = _
  simp only [Act.put, List.setIfInBounds_toArray, List.set_cons_zero, List.set_cons_succ, i64_w, i32_w]
  rfl
 refine pure_ (i := 6) (N := some 4) (v := ?_) (a' := ?_) #[true, true, true, true, true, true, true] rfl rfl (by kernel_rfl) (fun _ _ _ h => h) (Or.inl ⟨by rfl, ?_⟩) ?_ ?_
 rotate_left
 ·intro w'
  go_simp
  with_reducible rfl
 rotate_left
 ·simp only [Act.put, List.setIfInBounds_toArray, List.set_cons_zero, List.set_cons_succ, i64_w, i32_w]
  rfl
 refine done_ (by kernel_rfl) ?_
 clear hHeld
 obtain ⟨hc0, hc1⟩ := cl2 (W := w10) HBK.out
 go_wp2_with (first | ((with_reducible refine gate_dst (N := 22) rfl ?_); refine buf_append1 rfl (N := 22) rfl _ _ rfl (g := g2) (bs := hiL 8 a) (y := (l.length : Int)) rfl rfl hBf.out (by rw [hiL_length]) (by rw [hiL_length]; omega) ?_; intro w12 hbw hgw; have n0_ := Aside0.mk (blk_grown (blk_alloc HBK.out _) hgw (by simpa using fun e_ => HN2.out e_.symm)); have n1_ := Aside0.mk (pw_below_grown (below_alloc HB.out _) (some g2) (Below.size (below_alloc HB.out _)) hgw (fun k_ e_ => by cases e_; exact HG2.out)); have n2_ := Aside0.mk hbw; clear HBK HB hBf hbw hgw hc0 hc1; have HBK := n0_; have HB := n1_; have hBf := n2_; clear n0_ n1_ n2_; obtain ⟨hc0, hc1⟩ := cl2 (W := w12) HBK.out))
 go_loopg [4, 26] l.length (fun gg v4 v26 wr => ∃ k n : Nat, k ≤ l.length ∧ l.length - k ≤ gg ∧ v26 = .int .i64 k ∧ v4 = .slice (some ⟨g2, 0, none⟩) n 240 ∧ Aside0 (n = (hiL 8 a ++ (l.length : Int) :: slotsB (l.take k)).length) ∧ Aside0 (Buf wr g2 (hiL 8 a ++ (l.length : Int) :: slotsB (l.take k))) ∧ Aside0 (wr.heap[g1]? = some (.cells #[.int .i64 a, .slice A l.length c] 24 (0, 0))) ∧ Aside0 (Below w.heap.size w wr))
 case atStart => exact ⟨0, 9, Nat.zero_le _, by omega, rfl, rfl, ⟨by simp [hiL_length, slotsB]⟩, ⟨by simpa [slotsB] using hBf.out⟩, HBK, HB⟩
 case round =>
  clear hc0 hc1 hBf HBK HB
  obtain ⟨k, n, hk, hgk, rfl, rfl, hN0, hBf0, HBK, HB⟩ := hrel
  by_cases hlt : k < l.length
  ·have p0 : 0 ≤ (k : Int) := by omega
   have q0 : (k : Int) < (l.length : Int) := by omega
   obtain ⟨ad, e0, hx0, hx1⟩ := at_T33 HR.out (k : Int) p0 q0
   cases e0
   replace hx0 := (HB.out.cell (World.block_lt_of_cell? w _ hx0)).trans hx0
   replace hx1 := (HB.out.cell (World.block_lt_of_cell? w _ hx1)).trans hx1
   rw [Int.toNat_natCast, rd33 l k hlt] at hx0 hx1
   have hoddx : oddS l[k] = false := by
    have h_ := HO.out
    rw [List.any_eq_false] at h_
    simpa using h_ l[k] (List.getElem_mem hlt)
   have hlen0 := slotsB_length l HO.out k hk
   have hsd := sumS_drop l k hlt
   have hraw := HS.out
   unfold rawSize at hraw
   have HL : Aside0 (n + 1 + l[k].f1.size ≤ 240) := ⟨by have h_ := hN0.out; simp only [List.length_append, List.length_cons, hiL_length] at h_; omega⟩
   have HE : Aside0 (slotsB (l.take (k + 1)) = slotsB (l.take k) ++ slotB l[k]) := ⟨slotsB_take l k hlt⟩
   clear hlen0 hsd hraw
   have hsz : l[k].f1.size ≤ 200 := by
    unfold oddS at hoddx; simp at hoddx; omega
   generalize l[k] = x at hx0 hx1 hoddx HL HE hsz
   obtain ⟨bs, hbs⟩ : ∃ b_, b_ = hiL 8 a ++ (l.length : Int) :: slotsB (l.take k) := ⟨_, rfl⟩
   have hN := hN0
   have hBf := hBf0
   rw [← hbs] at hN hBf
   clear hN0 hBf0
   have HL2 := HL
   rw [hN.out] at HL2
   clear HL
   have HL := HL2
   clear HL2
   have HBS := Aside0.mk hbs
   clear hbs
   cases hu : x.f0 with
   | true =>
    rw [hu] at hx0
    have HU := Aside0.mk hu
    have HES : Aside0 (hiL 8 a ++ (l.length : Int) :: slotsB (l.take (k + 1)) = (bs ++ [(x.f1.size : Int)]) ++ bytesOf x.f1) := ⟨by rw [HE.out, HBS.out]; simp [slotB, hu]⟩
    clear hu hoddx HE
    go_wp2_with (first | ((with_reducible refine gate_dst (N := 6) rfl ?_); refine box_event ?hg (N := 6) ?hd (cs := #[.bool false, .string (⟨#[]⟩ : ByteArray)]) (t := 33) ?hr ?_; (case hd => rfl); (case hg => rfl); (case hr => first | (go_simp; done) | (go_simp; rfl)); intro g3 hg3 w13 hbox hb; have HN3 := Aside0.mk (by rw [hg3]; exact Nat.ne_of_lt (blk_lt hBf.out.2) : g2 ≠ g3); have HN4 := Aside0.mk (by rw [hg3]; exact Nat.ne_of_lt (blk_lt HBK.out) : g1 ≠ g3); have HG3 := Aside0.mk (by rw [hg3]; exact HB.out.size : w.heap.size ≤ g3); have n0_ := Aside0.mk (blk_below HBK.out hb); have n1_ := Aside0.mk (below_step HB.out hb); have n2_ := Aside0.mk (Buf.below hBf.out hb); have HBX := Aside0.mk hbox; clear HBK HB hBf hb hbox hg3; have HBK := n0_; have HB := n1_; have hBf := n2_; clear n0_ n1_ n2_; obtain ⟨hz0, hz1⟩ := cl2 (W := w13) HBX.out; obtain ⟨hf0, hf1⟩ := fr2 HBX.out) | ((with_reducible refine gate_store (t := 33) (p := 6) rfl ?_); refine store_event (t := 33) (p := 6) (v := ?vo) (w1 := ((w13.setCell ⟨g3, 0, none⟩ (.bool true)).setCell ⟨g3, 1, none⟩ (.string x.f1))) ?hg ?ho ?hn ?hr ?_; (case ho => rfl); (case hg => rfl); (case hn => rfl); (case hr => first | (go_simp; done) | (go_simp; rfl)); intro w14 hw; have n0_ := Aside0.mk ((congrArg (fun W_ => W_.heap[g1]?) hw).trans (blk_far (p := ⟨g3, _, none⟩) (blk_far (p := ⟨g3, _, none⟩) HBK.out HN4.out _) HN4.out _)); have n1_ : Aside0 (Below w.heap.size w w14) := ⟨by rw [hw]; exact below_set (below_set HB.out HG3.out) HG3.out⟩; have n2_ : Aside0 (Buf w14 g2 bs) := ⟨⟨hBf.out.1, by rw [hw]; exact blk_far (p := ⟨g3, _, none⟩) (blk_far (p := ⟨g3, _, none⟩) hBf.out.2 HN3.out _) HN3.out _⟩⟩; have n3_ : Aside0 (w14.heap[g3]? = some (.cells #[.bool true, .string x.f1] 33 (0, 0))) := ⟨by rw [hw]; exact blk_set (blk_set HBX.out 0 _) 1 _⟩; clear HBK HB hBf HBX hz0 hz1 hf0 hf1 hw; have HBK := n0_; have HB := n1_; have hBf := n2_; have HBX := n3_; clear n0_ n1_ n2_ n3_; obtain ⟨hz0, hz1⟩ := cl2 (W := w14) HBX.out) | ((with_reducible refine gate_dst (N := 42) rfl ?_); refine buf_append1 rfl (N := 42) rfl _ _ rfl (g := g2) (bs := bs) (y := (x.f1.size : Int)) rfl rfl hBf.out hN.out (by have h1_ := HL.out; omega) ?_; intro w15 hbw hgw; have n0_ := Aside0.mk (blk_grown (blk_alloc HBK.out _) hgw (by simpa using fun e_ => HN2.out e_.symm)); have n1_ := Aside0.mk (pw_below_grown (below_alloc HB.out _) (some g2) (Below.size (below_alloc HB.out _)) hgw (fun k_ e_ => by cases e_; exact HG2.out)); have n2_ := Aside0.mk hbw; have n3_ := Aside0.mk (blk_grown (blk_alloc HBX.out _) hgw (by simpa using fun e_ => HN3.out e_.symm)); clear HBK HB hBf HBX hbw hgw hz0 hz1; have HBK := n0_; have HB := n1_; have hBf := n2_; have HBX := n3_; clear n0_ n1_ n2_ n3_; have hz1 : w15.cell? ⟨g3, 1, none⟩ = some (.string x.f1) := (blk_cell HBX.out 1).trans rfl) | ((with_reducible refine gate_dst (N := 46) rfl ?_); refine buf_append_str rfl (N := 46) rfl _ _ rfl (g := g2) (bs := bs ++ [(x.f1.size : Int)]) (y := x.f1) rfl rfl hBf.out (by rw [List.length_append, ← hN.out]; rfl) (by have h1_ := HL.out; rw [List.length_append, List.length_singleton]; omega) ?_; intro w16 hbw hgw; have n0_ := Aside0.mk (blk_grown (HBK.out) hgw (by simpa using fun e_ => HN2.out e_.symm)); have n1_ := Aside0.mk (pw_below_grown (HB.out) (some g2) (Below.size (HB.out)) hgw (fun k_ e_ => by cases e_; exact HG2.out)); have n2_ := Aside0.mk hbw; clear HBK HB hBf HBX hbw hgw hz1; have HBK := n0_; have HB := n1_; have hBf := n2_; clear n0_ n1_ n2_))
    go_roundg (l.length - (k + 1))
    case measure => omega
    case rel => exact ⟨k + 1, _, by omega, by omega, by go_num, rfl, ⟨by rw [HES.out, hN.out]; simp [bytesOf_length]; omega⟩, ⟨by rw [HES.out]; exact hBf.out⟩, HBK, HB⟩
   | false =>
    rw [hu] at hx0
    have HU := Aside0.mk hu
    have HES : Aside0 (hiL 8 a ++ (l.length : Int) :: slotsB (l.take (k + 1)) = bs ++ [255]) := ⟨by rw [HE.out, HBS.out]; simp [slotB, hu]⟩
    clear hu hoddx HE
    go_wp2_with (first | ((with_reducible refine gate_dst (N := 6) rfl ?_); refine box_event ?hg (N := 6) ?hd (cs := #[.bool false, .string (⟨#[]⟩ : ByteArray)]) (t := 33) ?hr ?_; (case hd => rfl); (case hg => rfl); (case hr => first | (go_simp; done) | (go_simp; rfl)); intro g3 hg3 w13 hbox hb; have HN3 := Aside0.mk (by rw [hg3]; exact Nat.ne_of_lt (blk_lt hBf.out.2) : g2 ≠ g3); have HN4 := Aside0.mk (by rw [hg3]; exact Nat.ne_of_lt (blk_lt HBK.out) : g1 ≠ g3); have HG3 := Aside0.mk (by rw [hg3]; exact HB.out.size : w.heap.size ≤ g3); have n0_ := Aside0.mk (blk_below HBK.out hb); have n1_ := Aside0.mk (below_step HB.out hb); have n2_ := Aside0.mk (Buf.below hBf.out hb); have HBX := Aside0.mk hbox; clear HBK HB hBf hb hbox hg3; have HBK := n0_; have HB := n1_; have hBf := n2_; clear n0_ n1_ n2_; obtain ⟨hz0, hz1⟩ := cl2 (W := w13) HBX.out; obtain ⟨hf0, hf1⟩ := fr2 HBX.out) | ((with_reducible refine gate_store (t := 33) (p := 6) rfl ?_); refine store_event (t := 33) (p := 6) (v := ?vo) (w1 := ((w13.setCell ⟨g3, 0, none⟩ (.bool false)).setCell ⟨g3, 1, none⟩ (.string x.f1))) ?hg ?ho ?hn ?hr ?_; (case ho => rfl); (case hg => rfl); (case hn => rfl); (case hr => first | (go_simp; done) | (go_simp; rfl)); intro w14 hw; have n0_ := Aside0.mk ((congrArg (fun W_ => W_.heap[g1]?) hw).trans (blk_far (p := ⟨g3, _, none⟩) (blk_far (p := ⟨g3, _, none⟩) HBK.out HN4.out _) HN4.out _)); have n1_ : Aside0 (Below w.heap.size w w14) := ⟨by rw [hw]; exact below_set (below_set HB.out HG3.out) HG3.out⟩; have n2_ : Aside0 (Buf w14 g2 bs) := ⟨⟨hBf.out.1, by rw [hw]; exact blk_far (p := ⟨g3, _, none⟩) (blk_far (p := ⟨g3, _, none⟩) hBf.out.2 HN3.out _) HN3.out _⟩⟩; have n3_ : Aside0 (w14.heap[g3]? = some (.cells #[.bool false, .string x.f1] 33 (0, 0))) := ⟨by rw [hw]; exact blk_set (blk_set HBX.out 0 _) 1 _⟩; clear HBK HB hBf HBX hz0 hz1 hf0 hf1 hw; have HBK := n0_; have HB := n1_; have hBf := n2_; have HBX := n3_; clear n0_ n1_ n2_ n3_; obtain ⟨hz0, hz1⟩ := cl2 (W := w14) HBX.out) | ((with_reducible refine gate_dst (N := 35) rfl ?_); refine buf_append1 rfl (N := 35) rfl _ _ rfl (g := g2) (bs := bs) (y := 255) rfl rfl hBf.out hN.out (by have h1_ := HL.out; omega) ?_; intro w15 hbw hgw; have n0_ := Aside0.mk (blk_grown (blk_alloc HBK.out _) hgw (by simpa using fun e_ => HN2.out e_.symm)); have n1_ := Aside0.mk (pw_below_grown (below_alloc HB.out _) (some g2) (Below.size (below_alloc HB.out _)) hgw (fun k_ e_ => by cases e_; exact HG2.out)); have n2_ := Aside0.mk hbw; have n3_ := Aside0.mk (blk_grown (blk_alloc HBX.out _) hgw (by simpa using fun e_ => HN3.out e_.symm)); clear HBK HB hBf HBX hbw hgw hz0 hz1; have HBK := n0_; have HB := n1_; have hBf := n2_; have HBX := n3_; clear n0_ n1_ n2_ n3_; have hz1 : w15.cell? ⟨g3, 1, none⟩ = some (.string x.f1) := (blk_cell HBX.out 1).trans rfl))
    go_roundg (l.length - (k + 1))
    case measure => omega
    case rel => exact ⟨k + 1, _, by omega, by omega, by go_num, rfl, ⟨by rw [HES.out, hN.out]; simp⟩, ⟨by rw [HES.out]; exact hBf.out⟩, HBK, HB⟩
  ·have hltz : ¬ (k : Int) < (l.length : Int) := by omega
   obtain rfl : k = l.length := by omega
   have HFT : Aside0 (hiL 8 a ++ (l.length : Int) :: slotsB (l.take l.length) = encL a l) := ⟨by rw [List.take_length]; rfl⟩
   have hn240 : n ≤ 240 := by rw [hN0.out]; exact hBf0.out.1
   have hBf := hBf0
   rw [HFT.out] at hBf
   clear hBf0 hN0
   have hsl := fun (W_ : World) => buf_slice W_ (g := g2) hn240
   have htx := buf_text hBf.out
   go_wp2
   go_ret2
   exact ⟨rfl, HB.out⟩
set_option maxHeartbeats 4000000 in
set_option maxRecDepth 100000 in
theorem slab_Encode.bad (a : Int) (A : Option Addr) (c : Nat) (l : List S33) (w : World) (hr : Kd.C k33 w A l.length l) (hc : l.length ≤ c) (hg : goodP a l = false) :
  Calls Try.prog 32 #[.agg #[.int .i64 a, .slice A l.length c]] w fun e w' => e = .returned (.tuple #[.string (⟨#[]⟩ : ByteArray), .int .i64 1]) ∧ Below w.heap.size w w' := by
 have hu24 := Try.underlying24
 have HG : Aside0 (slabGood.f a l = some false) := ⟨by unfold slabGood.f; rw [hg]⟩
 have HR := Aside0.mk hr
 have HC := Aside0.mk hc
 clear hr hc hg
 have HB := Aside0.mk (Below.refl w.heap.size w)
 go_enter Try.func32, Try.ntmps32
 go_wp2_with (first | ((with_reducible refine gate_dst (N := 1) rfl ?_); (try (refine gate_guard (by rfl) ?_; dsimp only)); refine box_event ?hg (N := 1) ?hd (cs := #[.int .i64 a, .slice A l.length c]) (t := 24) ?hr ?_; (case hd => rfl); (case hg => rfl); (case hr => first | (go_simp; done) | (go_simp; rfl)); intro g1 hg1 w5 hbox hb; have HBK := Aside0.mk hbox; have n1_ := Aside0.mk (below_step HB.out hb); have HG1 := Aside0.mk (by rw [hg1]; exact HB.out.size : w.heap.size ≤ g1); clear HB; have HB := n1_; clear n1_ hbox hb hg1; obtain ⟨hc0, hc1⟩ := cl2 (W := w5) HBK.out) | ((with_reducible refine gate_callee (f := 34) rfl ?_); refine goesL_ (some 8) rfl rfl Try.func34 (by kernel_rfl) rfl #[.agg #[.int .i64 a, .slice A l.length c]] rfl (by (try simp only [List.map_toArray, List.map_cons, List.map_nil]); first | done | rfl) ?_; (with_reducible refine (slabGood.calls a _ _ l false _ ?side1 ?side2 HG.out).mono ?_); (case side1 => exact Kd.C_below HR.out HB.out); (case side2 => exact HC.out); rintro e w6 ⟨rfl, hb⟩; refine ⟨_, rfl, ?_⟩; have n0_ := Aside0.mk (blk_below (g := g1) HBK.out hb); have n1_ := Aside0.mk (below_step HB.out hb); clear HB HBK hc0 hc1 hb; have HBK := n0_; have HB := n1_; clear n0_ n1_))
 go_ret2
 exact ⟨rfl, HB.out⟩
theorem slab_Encode.calls (a : Int) (A : Option Addr) (c : Nat) (l : List S33) (r1 : ByteArray) (r2 : Int) (w : World) (hr : Kd.C k33 w A l.length l) (hc : l.length ≤ c) (h : slab_Encode.f a l = some (r1, r2)) :
  Calls Try.prog 32 #[.agg #[.int .i64 a, .slice A l.length c]] w fun e w' => e = .returned (.tuple #[.string r1, .int .i64 r2]) ∧ Below w.heap.size w w' := by
 unfold slab_Encode.f at h
 cases hg : goodP a l with
 | true =>
  rw [hg] at h
  simp at h
  obtain ⟨rfl, rfl⟩ := h
  exact slab_Encode.good a A c l w hr hc hg
 | false =>
  rw [hg] at h
  simp at h
  obtain ⟨rfl, rfl⟩ := h
  exact slab_Encode.bad a A c l w hr hc hg
end Go.Proofs.Ytfjmnaobfbmllaa.M
namespace Go.Proofs.Ytfjmnaobfbmllaa.M
open Go.RowKit Go.Proofs.YtfjmnaobfbmllaaW.PrintWords Go.Proofs.YtfjmnaobfbmllaaW.PrintLast Go.Proofs.YtfjmnaobfbmllaaW.PrintMore
set_option linter.unusedVariables false
set_option linter.unusedSimpArgs false
theorem ba_inj {x y : ByteArray} : x.toList = y.toList ↔ x = y := by
  constructor
  · intro h
    rw [ByteArray.toList_eq, ByteArray.toList_eq] at h
    cases x; cases y
    congr
    exact Array.toList_inj.mp h
  · rintro rfl; rfl
theorem ba_nil (x : ByteArray) : x.toList = [] ↔ x = ⟨#[]⟩ := by
  rw [← ba_inj (y := ⟨#[]⟩)]; simp [ByteArray.toList_eq]
theorem s33_ext (x y : S33) : x = y ↔ x.f0 = y.f0 ∧ x.f1 = y.f1 := by cases x; cases y; simp
instance decS33 : DecidableEq S33 := fun x y => decidable_of_iff (x.f0 = y.f0 ∧ x.f1 = y.f1) (s33_ext x y).symm
def fineS (x : S33) : Prop := (x.f0 = false → x = z33) ∧ x.f1.size ≤ 200
theorem odd_fine (x : S33) : oddS x = false ↔ fineS x := by
  unfold oddS fineS
  rw [Bool.or_eq_false_iff, Bool.and_eq_false_iff, decide_eq_false_iff_not, Nat.not_lt]
  refine and_congr ?_ Iff.rfl
  rw [s33_ext]
  cases hx : x.f0 with
  | true => simp
  | false => simp [z33, ba_nil]
theorem fine_z : fineS z33 := ⟨fun _ => rfl, by simp [z33, ByteArray.size]⟩
theorem any_fine (l : List S33) : l.any oddS = false ↔ ∀ x ∈ l, fineS x := by
  rw [List.any_eq_false]
  exact forall_congr' fun x => imp_congr_right fun _ => by rw [← odd_fine]; simp
theorem good_iff (a : Int) (l : List S33) : goodP a l = true ↔ 0 ≤ a ∧ a ≤ 1099511627776 ∧ l.length ≤ 32 ∧ (∀ x ∈ l, fineS x) ∧ lastUsed l = true ∧ rawSize l ≤ 240 := by
  unfold goodP
  rw [← any_fine]
  simp [and_assoc]
end Go.Proofs.Ytfjmnaobfbmllaa.M
namespace Go.Proofs.Ytfjmnaobfbmllaa.M
open Go.RowKit Go.Proofs.YtfjmnaobfbmllaaW.PrintWords Go.Proofs.YtfjmnaobfbmllaaW.PrintLast Go.Proofs.YtfjmnaobfbmllaaW.PrintMore
attribute [local go_sem] max2_int min2_int max_two min_two max_three min_three max_four min_four   -- for this text's walks alone
set_option linter.unusedVariables false
set_option linter.unusedSimpArgs false
def entry_within.f (a0 : Int) (a1 : Int) (a2 : Int) : Option (Bool) := if a0 ≥ a1 then (some (decide (a0 ≤ a2))) else (some false)
set_option maxHeartbeats 8000000 in
set_option maxRecDepth 100000 in
theorem entry_within.calls (a0 : Int) (a1 : Int) (a2 : Int) (r : Bool) (w : World) (h : entry_within.f a0 a1 a2 = some r) :
  Calls Try.prog 102 #[.int .i64 a0, .int .i64 a1, .int .i64 a2] w fun e w' => e = .returned (.bool r) ∧ Drawn0 w w' := by
 have H : (if a0 ≥ a1 then (some (decide (a0 ≤ a2))) else (some false)) = some r := h
 clear h
 by_cases c4 : a0 ≥ a1
 ·rw [if_pos c4] at H
  have c4b0 : decide (a1 ≤ a0) = true := decide_eq_true c4
  clear c4
  obtain rfl := Option.some.inj H
  go_enter Try.func102, Try.ntmps102
  go_wp2
  go_ret
  exact ⟨by first | rfl | (simp; done) | (simp [*]; done), by repeat (first | exact Drawn0.refl _ | apply Drawn0.step)⟩
 ·rw [if_neg c4] at H
  have c4b0 : decide (a1 ≤ a0) = false := decide_eq_false c4
  clear c4
  obtain rfl := Option.some.inj H
  go_enter Try.func102, Try.ntmps102
  go_wp2
  go_ret
  exact ⟨by first | rfl | (simp; done) | (simp [*]; done), by repeat (first | exact Drawn0.refl _ | apply Drawn0.step)⟩
end Go.Proofs.Ytfjmnaobfbmllaa.M
namespace Go.Proofs.Ytfjmnaobfbmllaa.M
open Go.RowKit Go.Proofs.YtfjmnaobfbmllaaW.PrintWords Go.Proofs.YtfjmnaobfbmllaaW.PrintLast Go.Proofs.YtfjmnaobfbmllaaW.PrintMore
attribute [local go_sem] max2_int min2_int max_two min_two max_three min_three max_four min_four   -- for this text's walks alone
set_option linter.unusedVariables false
set_option linter.unusedSimpArgs false
def entry_Known.f (a0_0 : Int) (a0_1 : Int) (a0_2 : Int) : Option (Bool) := (entry_within.f a0_0 1 8).bind fun t102 => (if t102 = true then ((entry_within.f a0_1 1 1073741824).bind fun t103 => (if t103 = true then ((entry_within.f a0_2 1 1073741824).bind fun t104 => (some t104)) else (some false))) else (some false))
set_option maxHeartbeats 8000000 in
set_option maxRecDepth 100000 in
theorem entry_Known.calls (a0_0 : Int) (a0_1 : Int) (a0_2 : Int) (r : Bool) (w : World) (h : entry_Known.f a0_0 a0_1 a0_2 = some r) :
  Calls Try.prog 59 #[.agg #[.int .i64 a0_0, .int .i64 a0_1, .int .i64 a0_2]] w fun e w' => e = .returned (.bool r) ∧ Below w.heap.size w w' := by
 have hu52 := Try.underlying52
 have HB := aq (Below.refl w.heap.size w)
 have H : ((entry_within.f a0_0 1 8).bind fun t102 => (if t102 = true then ((entry_within.f a0_1 1 1073741824).bind fun t103 => (if t103 = true then ((entry_within.f a0_2 1 1073741824).bind fun t104 => (some t104)) else (some false))) else (some false))) = some r := h
 clear h
 replace H := Option.bind_eq_some_iff.mp H
 obtain ⟨t102, A20, H⟩ := H
 try dsimp only at H
 have A2 := aq A20
 clear A20
 by_cases c3 : t102 = true
 ·subst c3
  rw [if_pos rfl] at H
  replace H := Option.bind_eq_some_iff.mp H
  obtain ⟨t103, A40, H⟩ := H
  try dsimp only at H
  have A4 := aq A40
  clear A40
  by_cases c5 : t103 = true
  ·subst c5
   rw [if_pos rfl] at H
   replace H := Option.bind_eq_some_iff.mp H
   obtain ⟨t104, A60, H⟩ := H
   try dsimp only at H
   have A6 := aq A60
   clear A60
   obtain rfl := Option.some.inj H
   go_enter Try.func59, Try.ntmps59
   go_wp2_with (first | ((with_reducible refine gate_dst (N := 1) rfl ?_); refine box_event ?hg (N := 1) ?hd (cs := #[.int .i64 a0_0, .int .i64 a0_1, .int .i64 a0_2]) (t := 52) ?hr ?_; (case hd => rfl); (case hg => rfl); (case hr => first | (go_simp; done) | (go_simp; rfl)); intro gb101 hg w7 hbox hb; have n0_ := aq (below_step (stH HB) hb); have n1_ := aq (hbox); have n2_ := aq ((by rw [hg]; exact (below_size (stH HB)) : w.heap.size ≤ gb101)); have n3_ := aq ((by rw [hg]; exact (below_size (stH HB)) : w.heap.size ≤ gb101)); replace HB := n0_; have BK101 := n1_; have GW101 := n2_; have GE101 := n3_; clear n0_ n1_ n2_ n3_; clear hb hbox hg; obtain ⟨k8a, k8b, k8c⟩ := cl3 (W := w7) BK101.out; obtain ⟨u8a, u8b, u8c⟩ := fr3 BK101.out) | ((with_reducible refine gate_callee (f := 102) rfl ?_); refine goesL_ (some 5) rfl rfl Try.func102 (by kernel_rfl) rfl #[.int .i64 a0_0, .int .i64 1, .int .i64 8] rfl fitR ?_; (with_reducible refine (entry_within.calls a0_0 1 8 true _ A2.out).mono ?_); rintro e w' ⟨rfl, ⟨nd, rfl⟩⟩; refine ⟨_, rfl, ?_⟩) | (go_at_call 102; (with_reducible refine (entry_within.calls a0_1 1 1073741824 true _ A4.out).mono ?_); rintro e w' ⟨rfl, ⟨nd, rfl⟩⟩) | (go_at_call 102; (with_reducible refine (entry_within.calls a0_2 1 1073741824 t104 _ A6.out).mono ?_); rintro e w' ⟨rfl, ⟨nd, rfl⟩⟩))
   go_ret
   exact ⟨eqW, by repeat (first | (with_reducible first | exact HB.out | apply below_alloc | apply pw_below_drewN | apply below_drew1 | refine below_set ?_ GE101.out) | exact HB.out)⟩
  ·replace c5 := Bool.eq_false_iff.mpr c5
   subst c5
   rw [if_neg (show ¬ (false = true) by decide)] at H
   obtain rfl := Option.some.inj H
   go_enter Try.func59, Try.ntmps59
   go_wp2_with (first | ((with_reducible refine gate_dst (N := 1) rfl ?_); refine box_event ?hg (N := 1) ?hd (cs := #[.int .i64 a0_0, .int .i64 a0_1, .int .i64 a0_2]) (t := 52) ?hr ?_; (case hd => rfl); (case hg => rfl); (case hr => first | (go_simp; done) | (go_simp; rfl)); intro gb101 hg w9 hbox hb; have n0_ := aq (below_step (stH HB) hb); have n1_ := aq (hbox); have n2_ := aq ((by rw [hg]; exact (below_size (stH HB)) : w.heap.size ≤ gb101)); have n3_ := aq ((by rw [hg]; exact (below_size (stH HB)) : w.heap.size ≤ gb101)); replace HB := n0_; have BK101 := n1_; have GW101 := n2_; have GE101 := n3_; clear n0_ n1_ n2_ n3_; clear hb hbox hg; obtain ⟨k10a, k10b, k10c⟩ := cl3 (W := w9) BK101.out; obtain ⟨u10a, u10b, u10c⟩ := fr3 BK101.out) | ((with_reducible refine gate_callee (f := 102) rfl ?_); refine goesL_ (some 5) rfl rfl Try.func102 (by kernel_rfl) rfl #[.int .i64 a0_0, .int .i64 1, .int .i64 8] rfl fitR ?_; (with_reducible refine (entry_within.calls a0_0 1 8 true _ A2.out).mono ?_); rintro e w' ⟨rfl, ⟨nd, rfl⟩⟩; refine ⟨_, rfl, ?_⟩) | (go_at_call 102; (with_reducible refine (entry_within.calls a0_1 1 1073741824 false _ A4.out).mono ?_); rintro e w' ⟨rfl, ⟨nd, rfl⟩⟩))
   go_ret
   exact ⟨eqW, by repeat (first | (with_reducible first | exact HB.out | apply below_alloc | apply pw_below_drewN | apply below_drew1 | refine below_set ?_ GE101.out) | exact HB.out)⟩
 ·replace c3 := Bool.eq_false_iff.mpr c3
  subst c3
  rw [if_neg (show ¬ (false = true) by decide)] at H
  obtain rfl := Option.some.inj H
  go_enter Try.func59, Try.ntmps59
  go_wp2_with (first | ((with_reducible refine gate_dst (N := 1) rfl ?_); refine box_event ?hg (N := 1) ?hd (cs := #[.int .i64 a0_0, .int .i64 a0_1, .int .i64 a0_2]) (t := 52) ?hr ?_; (case hd => rfl); (case hg => rfl); (case hr => first | (go_simp; done) | (go_simp; rfl)); intro gb101 hg w11 hbox hb; have n0_ := aq (below_step (stH HB) hb); have n1_ := aq (hbox); have n2_ := aq ((by rw [hg]; exact (below_size (stH HB)) : w.heap.size ≤ gb101)); have n3_ := aq ((by rw [hg]; exact (below_size (stH HB)) : w.heap.size ≤ gb101)); replace HB := n0_; have BK101 := n1_; have GW101 := n2_; have GE101 := n3_; clear n0_ n1_ n2_ n3_; clear hb hbox hg; obtain ⟨k12a, k12b, k12c⟩ := cl3 (W := w11) BK101.out; obtain ⟨u12a, u12b, u12c⟩ := fr3 BK101.out) | ((with_reducible refine gate_callee (f := 102) rfl ?_); refine goesL_ (some 5) rfl rfl Try.func102 (by kernel_rfl) rfl #[.int .i64 a0_0, .int .i64 1, .int .i64 8] rfl fitR ?_; (with_reducible refine (entry_within.calls a0_0 1 8 false _ A2.out).mono ?_); rintro e w' ⟨rfl, ⟨nd, rfl⟩⟩; refine ⟨_, rfl, ?_⟩))
  go_ret
  exact ⟨eqW, by repeat (first | (with_reducible first | exact HB.out | apply below_alloc | apply pw_below_drewN | apply below_drew1 | refine below_set ?_ GE101.out) | exact HB.out)⟩
end Go.Proofs.Ytfjmnaobfbmllaa.M
namespace Go.Proofs.Ytfjmnaobfbmllaa.M
open Go.RowKit Go.Proofs.YtfjmnaobfbmllaaW.PrintWords Go.Proofs.YtfjmnaobfbmllaaW.PrintLast Go.Proofs.YtfjmnaobfbmllaaW.PrintMore
set_option linter.unusedVariables false
set_option linter.unusedSimpArgs false
def KnownP (c e n : Int) : Prop := 1 ≤ c ∧ c ≤ 8 ∧ 1 ≤ e ∧ e ≤ 1073741824 ∧ 1 ≤ n ∧ n ≤ 1073741824
instance decKnown (c e n : Int) : Decidable (KnownP c e n) := by unfold KnownP; infer_instance
theorem within_eq (a lo hi : Int) : entry_within.f a lo hi = some (decide (lo ≤ a ∧ a ≤ hi)) := by
  unfold entry_within.f
  by_cases h : a ≥ lo
  · rw [if_pos h]; congr 1; rw [decide_eq_decide]; omega
  · rw [if_neg h]; congr 1; rw [eq_comm, decide_eq_false_iff_not]; omega
theorem known_eq (c e n : Int) : entry_Known.f c e n = some (decide (KnownP c e n)) := by
  unfold entry_Known.f
  rw [within_eq, within_eq, within_eq, Option.bind_some, Option.bind_some, Option.bind_some]
  by_cases h1 : 1 ≤ c ∧ c ≤ 8
  · rw [decide_eq_true h1, if_pos rfl]
    by_cases h2 : 1 ≤ e ∧ e ≤ 1073741824
    · rw [decide_eq_true h2, if_pos rfl]; congr 1; rw [decide_eq_decide]; unfold KnownP; omega
    · rw [decide_eq_false h2, if_neg Bool.false_ne_true]; congr 1; exact (decide_eq_false (by unfold KnownP; omega)).symm
  · rw [decide_eq_false h1, if_neg Bool.false_ne_true]; congr 1; exact (decide_eq_false (by unfold KnownP; omega)).symm
def entKnown.f (c e n : Int) : Option Bool := some (decide (KnownP c e n))
theorem entKnown.calls (c e n : Int) (r : Bool) (w : World) (h : entKnown.f c e n = some r) : Calls Try.prog 59 #[.agg #[.int .i64 c, .int .i64 e, .int .i64 n]] w fun e w' => e = .returned (.bool r) ∧ Below w.heap.size w w' :=
  entry_Known.calls c e n r w (by rw [known_eq]; exact h)
end Go.Proofs.Ytfjmnaobfbmllaa.M
namespace Go.Proofs.Ytfjmnaobfbmllaa.M
open Go.RowKit Go.Proofs.YtfjmnaobfbmllaaW.PrintWords Go.Proofs.YtfjmnaobfbmllaaW.PrintLast Go.Proofs.YtfjmnaobfbmllaaW.PrintMore
attribute [local go_sem] max2_int min2_int max_two min_two max_three min_three max_four min_four   -- for this text's walks alone
set_option linter.unusedVariables false
set_option linter.unusedSimpArgs false
def entry_isSlot.f (a0_0 : Bool) (a0_1 : ByteArray) : Option (Bool) := if (a0_1.size : Int) ≤ 200 then (if a0_0 = true then (some true) else (some (a0_1.toList == ([] : List UInt8)))) else (some false)
set_option maxHeartbeats 8000000 in
set_option maxRecDepth 100000 in
theorem entry_isSlot.calls (a0_0 : Bool) (a0_1 : ByteArray) (r : Bool) (w : World) (h : entry_isSlot.f a0_0 a0_1 = some r) :
  Calls Try.prog 103 #[.agg #[.bool a0_0, .string a0_1]] w fun e w' => e = .returned (.bool r) ∧ Below w.heap.size w w' := by
 have hu33 := Try.underlying33
 have HB := aq (Below.refl w.heap.size w)
 have H : (if (a0_1.size : Int) ≤ 200 then (if a0_0 = true then (some true) else (some (a0_1.toList == ([] : List UInt8)))) else (some false)) = some r := h
 clear h
 by_cases c2 : (a0_1.size : Int) ≤ 200
 ·rw [if_pos c2] at H
  have c2b0 : decide ((a0_1.size : Int) ≤ 200) = true := decide_eq_true c2
  have c2b1 : decide (a0_1.size ≤ 200) = true := decide_eq_true (by omega)
  clear c2
  by_cases c3 : a0_0 = true
  ·subst c3
   rw [if_pos rfl] at H
   obtain rfl := Option.some.inj H
   go_enter Try.func103, Try.ntmps103
   go_wp2_with (first | ((with_reducible refine gate_dst (N := 1) rfl ?_); refine box_event ?hg (N := 1) ?hd (cs := #[.bool true, .string a0_1]) (t := 33) ?hr ?_; (case hd => rfl); (case hg => rfl); (case hr => first | (go_simp; done) | (go_simp; rfl)); intro gb101 hg w4 hbox hb; have n0_ := aq (below_step (stH HB) hb); have n1_ := aq (hbox); have n2_ := aq ((by rw [hg]; exact (below_size (stH HB)) : w.heap.size ≤ gb101)); have n3_ := aq ((by rw [hg]; exact (below_size (stH HB)) : w.heap.size ≤ gb101)); replace HB := n0_; have BK101 := n1_; have GW101 := n2_; have GE101 := n3_; clear n0_ n1_ n2_ n3_; clear hb hbox hg; obtain ⟨k5a, k5b⟩ := cl2 (W := w4) BK101.out; obtain ⟨u5a, u5b⟩ := fr2 BK101.out))
   go_ret
   exact ⟨eqW, by repeat (first | (with_reducible first | exact HB.out | apply below_alloc | apply pw_below_drewN | apply below_drew1 | refine below_set ?_ GE101.out) | exact HB.out)⟩
  ·replace c3 := Bool.eq_false_iff.mpr c3
   subst c3
   rw [if_neg (show ¬ (false = true) by decide)] at H
   obtain rfl := Option.some.inj H
   go_enter Try.func103, Try.ntmps103
   go_wp2_with (first | ((with_reducible refine gate_dst (N := 1) rfl ?_); refine box_event ?hg (N := 1) ?hd (cs := #[.bool false, .string a0_1]) (t := 33) ?hr ?_; (case hd => rfl); (case hg => rfl); (case hr => first | (go_simp; done) | (go_simp; rfl)); intro gb101 hg w6 hbox hb; have n0_ := aq (below_step (stH HB) hb); have n1_ := aq (hbox); have n2_ := aq ((by rw [hg]; exact (below_size (stH HB)) : w.heap.size ≤ gb101)); have n3_ := aq ((by rw [hg]; exact (below_size (stH HB)) : w.heap.size ≤ gb101)); replace HB := n0_; have BK101 := n1_; have GW101 := n2_; have GE101 := n3_; clear n0_ n1_ n2_ n3_; clear hb hbox hg; obtain ⟨k7a, k7b⟩ := cl2 (W := w6) BK101.out; obtain ⟨u7a, u7b⟩ := fr2 BK101.out))
   go_ret
   exact ⟨eqW, by repeat (first | (with_reducible first | exact HB.out | apply below_alloc | apply pw_below_drewN | apply below_drew1 | refine below_set ?_ GE101.out) | exact HB.out)⟩
 ·rw [if_neg c2] at H
  have c2b0 : decide ((a0_1.size : Int) ≤ 200) = false := decide_eq_false c2
  have c2b1 : decide (a0_1.size ≤ 200) = false := decide_eq_false (by omega)
  clear c2
  obtain rfl := Option.some.inj H
  go_enter Try.func103, Try.ntmps103
  go_wp2_with (first | ((with_reducible refine gate_dst (N := 1) rfl ?_); refine box_event ?hg (N := 1) ?hd (cs := #[.bool a0_0, .string a0_1]) (t := 33) ?hr ?_; (case hd => rfl); (case hg => rfl); (case hr => first | (go_simp; done) | (go_simp; rfl)); intro gb101 hg w8 hbox hb; have n0_ := aq (below_step (stH HB) hb); have n1_ := aq (hbox); have n2_ := aq ((by rw [hg]; exact (below_size (stH HB)) : w.heap.size ≤ gb101)); have n3_ := aq ((by rw [hg]; exact (below_size (stH HB)) : w.heap.size ≤ gb101)); replace HB := n0_; have BK101 := n1_; have GW101 := n2_; have GE101 := n3_; clear n0_ n1_ n2_ n3_; clear hb hbox hg; obtain ⟨k9a, k9b⟩ := cl2 (W := w8) BK101.out; obtain ⟨u9a, u9b⟩ := fr2 BK101.out))
  go_ret
  exact ⟨eqW, by repeat (first | (with_reducible first | exact HB.out | apply below_alloc | apply pw_below_drewN | apply below_drew1 | refine below_set ?_ GE101.out) | exact HB.out)⟩
end Go.Proofs.Ytfjmnaobfbmllaa.M
namespace Go.Proofs.Ytfjmnaobfbmllaa.M
open Go.RowKit Go.Proofs.YtfjmnaobfbmllaaW.PrintWords Go.Proofs.YtfjmnaobfbmllaaW.PrintLast Go.Proofs.YtfjmnaobfbmllaaW.PrintMore
attribute [local go_sem] max2_int min2_int max_two min_two max_three min_three max_four min_four   -- for this text's walks alone
set_option linter.unusedVariables false
set_option linter.unusedSimpArgs false
def entry_plain.f (a0_0 : Int) (a0_1 : Int) (a0_2 : Int) (a0_3 : Int) (a0_4 : Int) (a0_5 : Int) (a0_6 : Int) (a0_7 : Int) (a0_8 : Bool) (a0_9 : ByteArray) (a0_10 : Bool) (a0_11 : ByteArray) (a0_12 : Int) : Option (Int × Int × Int × Int × Int × Int × Int × Int × Bool × ByteArray × Bool × ByteArray × Int) := some (a0_0, a0_1, a0_2, a0_3, a0_4, a0_5, 0, 0, false, (⟨#[]⟩ : ByteArray), false, (⟨#[]⟩ : ByteArray), 0)
set_option maxHeartbeats 8000000 in
set_option maxRecDepth 100000 in
theorem entry_plain.calls (a0_0 : Int) (a0_1 : Int) (a0_2 : Int) (a0_3 : Int) (a0_4 : Int) (a0_5 : Int) (a0_6 : Int) (a0_7 : Int) (a0_8 : Bool) (a0_9 : ByteArray) (a0_10 : Bool) (a0_11 : ByteArray) (a0_12 : Int) (r1 : Int) (r2 : Int) (r3 : Int) (r4 : Int) (r5 : Int) (r6 : Int) (r7 : Int) (r8 : Int) (r9 : Bool) (r10 : ByteArray) (r11 : Bool) (r12 : ByteArray) (r13 : Int) (w : World) (h : entry_plain.f a0_0 a0_1 a0_2 a0_3 a0_4 a0_5 a0_6 a0_7 a0_8 a0_9 a0_10 a0_11 a0_12 = some (r1, r2, r3, r4, r5, r6, r7, r8, r9, r10, r11, r12, r13)) :
  Calls Try.prog 104 #[.agg #[.int .i64 a0_0, .int .i64 a0_1, .int .i64 a0_2, .int .i64 a0_3, .int .i64 a0_4, .int .i64 a0_5, .int .i64 a0_6, .int .i64 a0_7, .bool a0_8, .string a0_9, .bool a0_10, .string a0_11, .int .i64 a0_12]] w fun e w' => e = .returned (.agg #[.int .i64 r1, .int .i64 r2, .int .i64 r3, .int .i64 r4, .int .i64 r5, .int .i64 r6, .int .i64 r7, .int .i64 r8, .bool r9, .string r10, .bool r11, .string r12, .int .i64 r13]) ∧ Below w.heap.size w w' := by
 have hu65 := Try.underlying65
 have hu52 := Try.underlying52
 have HB := aq (Below.refl w.heap.size w)
 have H : (some (a0_0, a0_1, a0_2, a0_3, a0_4, a0_5, 0, 0, false, (⟨#[]⟩ : ByteArray), false, (⟨#[]⟩ : ByteArray), 0)) = some (r1, r2, r3, r4, r5, r6, r7, r8, r9, r10, r11, r12, r13) := h
 clear h
 simp only [Option.some.injEq, Prod.mk.injEq] at H
 obtain ⟨rfl, rfl, rfl, rfl, rfl, rfl, rfl, rfl, rfl, rfl, rfl, rfl, rfl⟩ := H
 go_enter Try.func104, Try.ntmps104
 go_wp2_with (first | ((with_reducible refine gate_dst (N := 1) rfl ?_); refine box_event ?hg (N := 1) ?hd (cs := #[.int .i64 a0_0, .int .i64 a0_1, .int .i64 a0_2, .int .i64 a0_3, .int .i64 a0_4, .int .i64 a0_5, .int .i64 a0_6, .int .i64 a0_7, .bool a0_8, .string a0_9, .bool a0_10, .string a0_11, .int .i64 a0_12]) (t := 65) ?hr ?_; (case hd => rfl); (case hg => rfl); (case hr => first | (go_simp; done) | (go_simp; rfl)); intro gb101 hg w2 hbox hb; have n0_ := aq (below_step (stH HB) hb); have n1_ := aq (hbox); have n2_ := aq ((by rw [hg]; exact (below_size (stH HB)) : w.heap.size ≤ gb101)); have n3_ := aq ((by rw [hg]; exact (below_size (stH HB)) : w.heap.size ≤ gb101)); replace HB := n0_; have BK101 := n1_; have GW101 := n2_; have GE101 := n3_; clear n0_ n1_ n2_ n3_; clear hb hbox hg) | ((with_reducible refine gate_dst (N := 2) rfl ?_); refine box_event ?hg (N := 2) ?hd (cs := #[.int .i64 0, .int .i64 0, .int .i64 0, .int .i64 0, .int .i64 0, .int .i64 0, .int .i64 0, .int .i64 0, .bool false, .string (⟨#[]⟩ : ByteArray), .bool false, .string (⟨#[]⟩ : ByteArray), .int .i64 0]) (t := 65) ?hr ?_; (case hd => rfl); (case hg => rfl); (case hr => first | (go_simp; done) | (go_simp; rfl)); intro gb102 hg w3 hbox hb; have n0_ := aq (blk_below (stB BK101) hb); have n1_ := aq (below_step (stH HB) hb); have n2_ := aq (hbox); have n3_ := aq ((by rw [hg]; exact (below_size (stH HB)) : w.heap.size ≤ gb102)); have n4_ := aq ((by rw [hg]; exact (below_size (stH HB)) : w.heap.size ≤ gb102)); have n5_ := aq ((by rw [hg]; exact Nat.ne_of_lt (blk_lt (stB BK101)) : gb101 ≠ gb102)); have n6_ := aq ((by rw [hg]; exact Nat.ne_of_gt (blk_lt (stB BK101)) : gb102 ≠ gb101)); replace BK101 := n0_; replace HB := n1_; have BK102 := n2_; have GW102 := n3_; have GE102 := n4_; have NB101_102 := n5_; have NB102_101 := n6_; clear n0_ n1_ n2_ n3_ n4_ n5_ n6_; clear hb hbox hg; have hnb4 := NB101_102.out; have hnc4 := NB102_101.out; obtain ⟨k5a, k5b, k5c, k5d, k5e, k5f, k5g, k5h, k5i, k5j, k5k, k5l, k5m⟩ := cl13 (W := w3) BK101.out; obtain ⟨u5a, u5b, u5c, u5d, u5e, u5f, u5g, u5h, u5i, u5j, u5k, u5l, u5m⟩ := fr13 BK101.out; obtain ⟨k6a, k6b, k6c, k6d, k6e, k6f, k6g, k6h, k6i, k6j, k6k, k6l, k6m⟩ := cl13 (W := w3) BK102.out; obtain ⟨u6a, u6b, u6c, u6d, u6e, u6f, u6g, u6h, u6i, u6j, u6k, u6l, u6m⟩ := fr13 BK102.out))
 refine bodyPost_ret (results_cell_row rfl _ _ gb102 65 #[.int .i64 a0_0, .int .i64 a0_1, .int .i64 a0_2, .int .i64 a0_3, .int .i64 a0_4, .int .i64 a0_5, .int .i64 0, .int .i64 0, .bool false, .string (⟨#[]⟩ : ByteArray), .bool false, .string (⟨#[]⟩ : ByteArray), .int .i64 0] (0, 0) _ rfl (by (with_reducible repeat (first | refine blk_drewN ?_ _ | refine blk_drew ?_ | refine blk_alloc ?_ _)); refine puts13 (cs := #[.int .i64 0, .int .i64 0, .int .i64 0, .int .i64 0, .int .i64 0, .int .i64 0, .int .i64 0, .int .i64 0, .bool false, .string (⟨#[]⟩ : ByteArray), .bool false, .string (⟨#[]⟩ : ByteArray), .int .i64 0]) rfl ?_; (with_reducible repeat (first | refine blk_drewN ?_ _ | refine blk_drew ?_ | refine blk_alloc ?_ _)); exact BK102.out) Try.underlying65 rfl (by kernel_rfl)) rfl ?_
 exact ⟨eqW, by repeat (first | (with_reducible first | exact HB.out | apply below_alloc | apply pw_below_drewN | apply below_drew1 | refine below_set ?_ GE101.out | refine below_set ?_ GE102.out) | exact HB.out)⟩
end Go.Proofs.Ytfjmnaobfbmllaa.M
namespace Go.Proofs.Ytfjmnaobfbmllaa.M
open Go.RowKit Go.Proofs.YtfjmnaobfbmllaaW.PrintWords Go.Proofs.YtfjmnaobfbmllaaW.PrintLast Go.Proofs.YtfjmnaobfbmllaaW.PrintMore
attribute [local go_sem] max2_int min2_int max_two min_two max_three min_three max_four min_four   -- for this text's walks alone
set_option linter.unusedVariables false
set_option linter.unusedSimpArgs false
theorem eqA33 (d : Nat) (w : World) (x0 y0 : Bool) (x1 y1 : ByteArray) :
    (Op.equalIn (d + 2) 33 (.agg #[.bool x0, .string x1]) (.agg #[.bool y0, .string y1])).run Try.prog w = .ok (x0 == y0 && (x1.toList == y1.toList)) w := by
  refine eqA_of Try.underlying33 (by kernel_rfl) ?_
  refine eqf_cons (by rfl) (by go_simp; rfl) (by go_simp; rfl) (by go_simp) ?_
  exact eqf_last (by rfl) (by go_simp; rfl) (by go_simp; rfl) (by go_simp)
end Go.Proofs.Ytfjmnaobfbmllaa.M
namespace Go.Proofs.Ytfjmnaobfbmllaa.M
open Go.RowKit Go.Proofs.YtfjmnaobfbmllaaW.PrintWords Go.Proofs.YtfjmnaobfbmllaaW.PrintLast Go.Proofs.YtfjmnaobfbmllaaW.PrintMore
attribute [local go_sem] max2_int min2_int max_two min_two max_three min_three max_four min_four   -- for this text's walks alone
set_option linter.unusedVariables false
set_option linter.unusedSimpArgs false
theorem eqA65 (d : Nat) (w : World) (x0 y0 : Int) (x1 y1 : Int) (x2 y2 : Int) (x3 y3 : Int) (x4 y4 : Int) (x5 y5 : Int) (x6 y6 : Int) (x7 y7 : Int) (x8 y8 : Bool) (x9 y9 : ByteArray) (x10 y10 : Bool) (x11 y11 : ByteArray) (x12 y12 : Int) :
    (Op.equalIn (d + 3) 65 (.agg #[.int .i64 x0, .int .i64 x1, .int .i64 x2, .int .i64 x3, .int .i64 x4, .int .i64 x5, .int .i64 x6, .int .i64 x7, .bool x8, .string x9, .bool x10, .string x11, .int .i64 x12]) (.agg #[.int .i64 y0, .int .i64 y1, .int .i64 y2, .int .i64 y3, .int .i64 y4, .int .i64 y5, .int .i64 y6, .int .i64 y7, .bool y8, .string y9, .bool y10, .string y11, .int .i64 y12])).run Try.prog w = .ok (x0 == y0 && ((x1 == y1 && (x2 == y2 && (x3 == y3))) && (x4 == y4 && (x5 == y5 && (x6 == y6 && (x7 == y7 && ((x8 == y8 && (x9.toList == y9.toList)) && ((x10 == y10 && (x11.toList == y11.toList)) && (x12 == y12))))))))) w := by
  refine eqA_of Try.underlying65 (by kernel_rfl) ?_
  refine eqf_cons (by rfl) (by go_simp; rfl) (by go_simp; rfl) (by go_simp) ?_
  refine eqf_cons (by rfl) (by go_simp) (by go_simp) (eqA52 (d + 0) w _ _ _ _ _ _) ?_
  refine eqf_cons (by rfl) (by go_simp; rfl) (by go_simp; rfl) (by go_simp) ?_
  refine eqf_cons (by rfl) (by go_simp; rfl) (by go_simp; rfl) (by go_simp) ?_
  refine eqf_cons (by rfl) (by go_simp; rfl) (by go_simp; rfl) (by go_simp) ?_
  refine eqf_cons (by rfl) (by go_simp; rfl) (by go_simp; rfl) (by go_simp) ?_
  refine eqf_cons (by rfl) (by go_simp) (by go_simp) (eqA33 (d + 0) w _ _ _ _) ?_
  refine eqf_cons (by rfl) (by go_simp) (by go_simp) (eqA33 (d + 0) w _ _ _ _) ?_
  exact eqf_last (by rfl) (by go_simp; rfl) (by go_simp; rfl) (by go_simp)
end Go.Proofs.Ytfjmnaobfbmllaa.M
namespace Go.Proofs.Ytfjmnaobfbmllaa.M
open Go.RowKit Go.Proofs.YtfjmnaobfbmllaaW.PrintWords Go.Proofs.YtfjmnaobfbmllaaW.PrintLast Go.Proofs.YtfjmnaobfbmllaaW.PrintMore
attribute [local go_sem] max2_int min2_int max_two min_two max_three min_three max_four min_four   -- for this text's walks alone
set_option linter.unusedVariables false
set_option linter.unusedSimpArgs false
attribute [local go_sem high] eqA65
mutual
def entry_Good.j0 : Nat → Bool → Int → Int → Int → Int → Int → Int → Int → Int → Bool → ByteArray → Bool → ByteArray → Int → Option (Bool)
 | 0, _, _, _, _, _, _, _, _, _, _, _, _, _, _ => none
 | k + 1, x22, x102000, x102001, x102002, x102003, x102004, x102005, x102006, x102007, x102008, x102009, x102010, x102011, x102012 => if x22 = true then (some false) else ((entry_within.f x102006 0 1023).bind fun t105 => (if t105 = true then ((entry_within.f x102007 0 31).bind fun t106 => (if t106 = true then ((entry_isSlot.f x102008 x102009).bind fun t107 => (if t107 = true then ((entry_isSlot.f x102010 x102011).bind fun t108 => (entry_Good.j1 k t108 x102000 x102001 x102002 x102003 x102004 x102005 x102006 x102007 x102008 x102009 x102010 x102011 x102012)) else (entry_Good.j1 k false x102000 x102001 x102002 x102003 x102004 x102005 x102006 x102007 x102008 x102009 x102010 x102011 x102012))) else (entry_Good.j1 k false x102000 x102001 x102002 x102003 x102004 x102005 x102006 x102007 x102008 x102009 x102010 x102011 x102012))) else (entry_Good.j1 k false x102000 x102001 x102002 x102003 x102004 x102005 x102006 x102007 x102008 x102009 x102010 x102011 x102012)))
def entry_Good.j1 : Nat → Bool → Int → Int → Int → Int → Int → Int → Int → Int → Bool → ByteArray → Bool → ByteArray → Int → Option (Bool)
 | 0, _, _, _, _, _, _, _, _, _, _, _, _, _, _ => none
 | k + 1, x3, x102000, x102001, x102002, x102003, x102004, x102005, x102006, x102007, x102008, x102009, x102010, x102011, x102012 => if x102000 = 1 then (if x3 = true then (some (x102012 == 0)) else (some false)) else (if x102000 = 2 then (if x3 = true then ((entry_within.f x102012 0 x102005).bind fun t109 => (some t109)) else (some false)) else (if x102000 = 3 then ((entry_plain.f x102000 x102001 x102002 x102003 x102004 x102005 x102006 x102007 x102008 x102009 x102010 x102011 x102012).bind fun bt110 => (some (x102000 == bt110.1 && ((x102001 == bt110.2.1 && (x102002 == bt110.2.2.1 && (x102003 == bt110.2.2.2.1))) && (x102004 == bt110.2.2.2.2.1 && (x102005 == bt110.2.2.2.2.2.1 && (x102006 == bt110.2.2.2.2.2.2.1 && (x102007 == bt110.2.2.2.2.2.2.2.1 && ((x102008 == bt110.2.2.2.2.2.2.2.2.1 && (x102009.toList == bt110.2.2.2.2.2.2.2.2.2.1.toList)) && ((x102010 == bt110.2.2.2.2.2.2.2.2.2.2.1 && (x102011.toList == bt110.2.2.2.2.2.2.2.2.2.2.2.1.toList)) && (x102012 == bt110.2.2.2.2.2.2.2.2.2.2.2.2))))))))))) else (if x102000 = 4 then ((entry_plain.f x102000 x102001 x102002 x102003 x102004 x102005 x102006 x102007 x102008 x102009 x102010 x102011 x102012).bind fun bt123 => (some (x102000 == bt123.1 && ((x102001 == bt123.2.1 && (x102002 == bt123.2.2.1 && (x102003 == bt123.2.2.2.1))) && (x102004 == bt123.2.2.2.2.1 && (x102005 == bt123.2.2.2.2.2.1 && (x102006 == bt123.2.2.2.2.2.2.1 && (x102007 == bt123.2.2.2.2.2.2.2.1 && ((x102008 == bt123.2.2.2.2.2.2.2.2.1 && (x102009.toList == bt123.2.2.2.2.2.2.2.2.2.1.toList)) && ((x102010 == bt123.2.2.2.2.2.2.2.2.2.2.1 && (x102011.toList == bt123.2.2.2.2.2.2.2.2.2.2.2.1.toList)) && (x102012 == bt123.2.2.2.2.2.2.2.2.2.2.2.2))))))))))) else (some false))))
end
def entry_Good.f (k : Nat) (a0_0 : Int) (a0_1 : Int) (a0_2 : Int) (a0_3 : Int) (a0_4 : Int) (a0_5 : Int) (a0_6 : Int) (a0_7 : Int) (a0_8 : Bool) (a0_9 : ByteArray) (a0_10 : Bool) (a0_11 : ByteArray) (a0_12 : Int) : Option (Bool) := (entKnown.f a0_1 a0_2 a0_3).bind fun t102 => (if t102 = true then ((entry_within.f a0_4 1 1099511627776).bind fun t103 => (if t103 = true then ((entry_within.f a0_5 0 (wrap64 (a0_4 - 1))).bind fun t104 => (entry_Good.j0 k (!t104) a0_0 a0_1 a0_2 a0_3 a0_4 a0_5 a0_6 a0_7 a0_8 a0_9 a0_10 a0_11 a0_12)) else (entry_Good.j0 k true a0_0 a0_1 a0_2 a0_3 a0_4 a0_5 a0_6 a0_7 a0_8 a0_9 a0_10 a0_11 a0_12))) else (entry_Good.j0 k true a0_0 a0_1 a0_2 a0_3 a0_4 a0_5 a0_6 a0_7 a0_8 a0_9 a0_10 a0_11 a0_12))
set_option maxHeartbeats 8000000 in
set_option maxRecDepth 100000 in
theorem entry_Good.calls (k : Nat) (a0_0 : Int) (a0_1 : Int) (a0_2 : Int) (a0_3 : Int) (a0_4 : Int) (a0_5 : Int) (a0_6 : Int) (a0_7 : Int) (a0_8 : Bool) (a0_9 : ByteArray) (a0_10 : Bool) (a0_11 : ByteArray) (a0_12 : Int) (r : Bool) (w : World) (h : entry_Good.f k a0_0 a0_1 a0_2 a0_3 a0_4 a0_5 a0_6 a0_7 a0_8 a0_9 a0_10 a0_11 a0_12 = some r) :
  Calls Try.prog 55 #[.agg #[.int .i64 a0_0, .int .i64 a0_1, .int .i64 a0_2, .int .i64 a0_3, .int .i64 a0_4, .int .i64 a0_5, .int .i64 a0_6, .int .i64 a0_7, .bool a0_8, .string a0_9, .bool a0_10, .string a0_11, .int .i64 a0_12]] w fun e w' => e = .returned (.bool r) ∧ Below w.heap.size w w' := by
 have hu65 := Try.underlying65
 have hu52 := Try.underlying52
 have hu33 := Try.underlying33
 have HB := aq (Below.refl w.heap.size w)
 have H : ((entKnown.f a0_1 a0_2 a0_3).bind fun t102 => (if t102 = true then ((entry_within.f a0_4 1 1099511627776).bind fun t103 => (if t103 = true then ((entry_within.f a0_5 0 (wrap64 (a0_4 - 1))).bind fun t104 => (entry_Good.j0 k (!t104) a0_0 a0_1 a0_2 a0_3 a0_4 a0_5 a0_6 a0_7 a0_8 a0_9 a0_10 a0_11 a0_12)) else (entry_Good.j0 k true a0_0 a0_1 a0_2 a0_3 a0_4 a0_5 a0_6 a0_7 a0_8 a0_9 a0_10 a0_11 a0_12))) else (entry_Good.j0 k true a0_0 a0_1 a0_2 a0_3 a0_4 a0_5 a0_6 a0_7 a0_8 a0_9 a0_10 a0_11 a0_12))) = some r := h
 clear h
 have HC2 := aq H
 clear H
 go_enter Try.func55, Try.ntmps55
 go_upto_region 1 with (first | ((with_reducible refine gate_dst (N := 1) rfl ?_); refine box_event ?hg (N := 1) ?hd (cs := #[.int .i64 a0_0, .int .i64 a0_1, .int .i64 a0_2, .int .i64 a0_3, .int .i64 a0_4, .int .i64 a0_5, .int .i64 a0_6, .int .i64 a0_7, .bool a0_8, .string a0_9, .bool a0_10, .string a0_11, .int .i64 a0_12]) (t := 65) ?hr ?_; (case hd => rfl); (case hg => rfl); (case hr => first | (go_simp; done) | (go_simp; rfl)); intro gb101 hg w3 hbox hb; have n0_ := aq (below_step (stH HB) hb); have n1_ := aq (hbox); have n2_ := aq ((by rw [hg]; exact (below_size (stH HB)) : w.heap.size ≤ gb101)); have n3_ := aq ((by rw [hg]; exact (below_size (stH HB)) : w.heap.size ≤ gb101)); replace HB := n0_; have BK101 := n1_; have GW101 := n2_; have GE101 := n3_; clear n0_ n1_ n2_ n3_; clear hb hbox hg))
 (try simp only [Act.put, List.setIfInBounds_toArray, List.set_cons_zero, List.set_cons_succ])
 go_cut [22] (fun v22 wc => ∃ (kq : Nat) (x22_1 : Bool), v22 = .bool x22_1 ∧ Aside0 (entry_Good.j0 kq x22_1 a0_0 a0_1 a0_2 a0_3 a0_4 a0_5 a0_6 a0_7 a0_8 a0_9 a0_10 a0_11 a0_12 = some r) ∧ Aside0 (kq ≤ k) ∧ Aside0 (wc.heap[gb101]? = some (.cells #[.int .i64 a0_0, .int .i64 a0_1, .int .i64 a0_2, .int .i64 a0_3, .int .i64 a0_4, .int .i64 a0_5, .int .i64 a0_6, .int .i64 a0_7, .bool a0_8, .string a0_9, .bool a0_10, .string a0_11, .int .i64 a0_12] 65 (0, 0))) ∧ Aside0 (Below w.heap.size w wc))
 case first =>
  have H := HC2.out
  clear HC2
  replace H := Option.bind_eq_some_iff.mp H
  obtain ⟨t102, A40, H⟩ := H
  try dsimp only at H
  have A4 := aq A40
  clear A40
  by_cases c5 : t102 = true
  ·subst c5
   rw [if_pos rfl] at H
   replace H := Option.bind_eq_some_iff.mp H
   obtain ⟨t103, A60, H⟩ := H
   try dsimp only at H
   have A6 := aq A60
   clear A60
   by_cases c7 : t103 = true
   ·subst c7
    rw [if_pos rfl] at H
    replace H := Option.bind_eq_some_iff.mp H
    obtain ⟨t104, A80, H⟩ := H
    try dsimp only at H
    have A8 := aq A80
    clear A80
    have H' := aq H
    clear H
    obtain ⟨k9a, k9b, k9c, k9d, k9e, k9f, k9g, k9h, k9i, k9j, k9k, k9l, k9m⟩ := cl13 (W := w3) BK101.out
    obtain ⟨u9a, u9b, u9c, u9d, u9e, u9f, u9g, u9h, u9i, u9j, u9k, u9l, u9m⟩ := fr13 BK101.out
    go_wp2_with (first | ((with_reducible refine gate_callee (f := 59) rfl ?_); refine goesL_ (some 6) rfl rfl Try.func59 (by kernel_rfl) rfl #[.agg #[.int .i64 a0_1, .int .i64 a0_2, .int .i64 a0_3]] rfl fitR ?_; (with_reducible refine (entKnown.calls a0_1 a0_2 a0_3 true _ A4.out).mono ?_); rintro e w10 ⟨rfl, hb⟩; refine ⟨_, rfl, ?_⟩; have n0_ := aq (blk_below (stB BK101) hb); have n1_ := aq (below_step (stH HB) hb); replace BK101 := n0_; replace HB := n1_; clear n0_ n1_; (try clear hb); obtain ⟨k11a, k11b, k11c, k11d, k11e, k11f, k11g, k11h, k11i, k11j, k11k, k11l, k11m⟩ := cl13 (W := w10) BK101.out; obtain ⟨u11a, u11b, u11c, u11d, u11e, u11f, u11g, u11h, u11i, u11j, u11k, u11l, u11m⟩ := fr13 BK101.out) | (go_at_call 102; (with_reducible refine (entry_within.calls a0_4 1 1099511627776 true _ A6.out).mono ?_); rintro e w' ⟨rfl, ⟨nd, rfl⟩⟩) | (go_at_call 102; (with_reducible refine (entry_within.calls a0_5 0 (wrap64 (a0_4 - 1)) t104 _ A8.out).mono ?_); rintro e w' ⟨rfl, ⟨nd, rfl⟩⟩))
    go_meet
    case rel => exact ⟨_, (!t104), eqS, H', ⟨by first | omega | exact Nat.le_refl _⟩, ⟨stB BK101⟩, ⟨stH HB⟩⟩
   ·replace c7 := Bool.eq_false_iff.mpr c7
    subst c7
    rw [if_neg (show ¬ (false = true) by decide)] at H
    have H' := aq H
    clear H
    obtain ⟨k12a, k12b, k12c, k12d, k12e, k12f, k12g, k12h, k12i, k12j, k12k, k12l, k12m⟩ := cl13 (W := w3) BK101.out
    obtain ⟨u12a, u12b, u12c, u12d, u12e, u12f, u12g, u12h, u12i, u12j, u12k, u12l, u12m⟩ := fr13 BK101.out
    go_wp2_with (first | ((with_reducible refine gate_callee (f := 59) rfl ?_); refine goesL_ (some 6) rfl rfl Try.func59 (by kernel_rfl) rfl #[.agg #[.int .i64 a0_1, .int .i64 a0_2, .int .i64 a0_3]] rfl fitR ?_; (with_reducible refine (entKnown.calls a0_1 a0_2 a0_3 true _ A4.out).mono ?_); rintro e w13 ⟨rfl, hb⟩; refine ⟨_, rfl, ?_⟩; have n0_ := aq (blk_below (stB BK101) hb); have n1_ := aq (below_step (stH HB) hb); replace BK101 := n0_; replace HB := n1_; clear n0_ n1_; (try clear hb); obtain ⟨k14a, k14b, k14c, k14d, k14e, k14f, k14g, k14h, k14i, k14j, k14k, k14l, k14m⟩ := cl13 (W := w13) BK101.out; obtain ⟨u14a, u14b, u14c, u14d, u14e, u14f, u14g, u14h, u14i, u14j, u14k, u14l, u14m⟩ := fr13 BK101.out) | (go_at_call 102; (with_reducible refine (entry_within.calls a0_4 1 1099511627776 false _ A6.out).mono ?_); rintro e w' ⟨rfl, ⟨nd, rfl⟩⟩))
    go_meet
    case rel => exact ⟨_, (true), eqS, H', ⟨by first | omega | exact Nat.le_refl _⟩, ⟨stB BK101⟩, ⟨stH HB⟩⟩
  ·replace c5 := Bool.eq_false_iff.mpr c5
   subst c5
   rw [if_neg (show ¬ (false = true) by decide)] at H
   have H' := aq H
   clear H
   obtain ⟨k15a, k15b, k15c, k15d, k15e, k15f, k15g, k15h, k15i, k15j, k15k, k15l, k15m⟩ := cl13 (W := w3) BK101.out
   obtain ⟨u15a, u15b, u15c, u15d, u15e, u15f, u15g, u15h, u15i, u15j, u15k, u15l, u15m⟩ := fr13 BK101.out
   go_wp2_with (first | ((with_reducible refine gate_callee (f := 59) rfl ?_); refine goesL_ (some 6) rfl rfl Try.func59 (by kernel_rfl) rfl #[.agg #[.int .i64 a0_1, .int .i64 a0_2, .int .i64 a0_3]] rfl fitR ?_; (with_reducible refine (entKnown.calls a0_1 a0_2 a0_3 false _ A4.out).mono ?_); rintro e w16 ⟨rfl, hb⟩; refine ⟨_, rfl, ?_⟩; have n0_ := aq (blk_below (stB BK101) hb); have n1_ := aq (below_step (stH HB) hb); replace BK101 := n0_; replace HB := n1_; clear n0_ n1_; (try clear hb)))
   go_meet
   case rel => exact ⟨_, (true), eqS, H', ⟨by first | omega | exact Nat.le_refl _⟩, ⟨stB BK101⟩, ⟨stH HB⟩⟩
 case rest =>
  clear HC2
  try clear p2
  try clear c5
  try clear p6
  try clear c7
  obtain ⟨kq, x22_1, rfl, HA, HJ1, BK101, HB⟩ := hcut
  cases kq with
  | zero => exact absurd HA.out (by simp [entry_Good.j0])
  | succ kj1 =>
   have H := HA.out
   clear HA
   simp only [entry_Good.j0] at H
   by_cases c17 : x22_1 = true
   ·subst c17
    rw [if_pos rfl] at H
    obtain rfl := Option.some.inj H
    go_wp2
    go_ret
    exact ⟨eqW, by repeat (first | (with_reducible first | exact HB.out | apply below_alloc | apply pw_below_drewN | apply below_drew1 | refine below_set ?_ GE101.out) | exact HB.out)⟩
   ·replace c17 := Bool.eq_false_iff.mpr c17
    subst c17
    rw [if_neg (show ¬ (false = true) by decide)] at H
    have HC18 := aq H
    clear H
    go_upto_region 3 with (fail)
    go_cut [3] (fun v3 wc => ∃ (kq : Nat) (x3_17 : Bool), v3 = .bool x3_17 ∧ Aside0 (entry_Good.j1 kq x3_17 a0_0 a0_1 a0_2 a0_3 a0_4 a0_5 a0_6 a0_7 a0_8 a0_9 a0_10 a0_11 a0_12 = some r) ∧ Aside0 (kq ≤ kj1) ∧ Aside0 (wc.heap[gb101]? = some (.cells #[.int .i64 a0_0, .int .i64 a0_1, .int .i64 a0_2, .int .i64 a0_3, .int .i64 a0_4, .int .i64 a0_5, .int .i64 a0_6, .int .i64 a0_7, .bool a0_8, .string a0_9, .bool a0_10, .string a0_11, .int .i64 a0_12] 65 (0, 0))) ∧ Aside0 (Below w.heap.size w wc))
    case first =>
     have H := HC18.out
     clear HC18
     replace H := Option.bind_eq_some_iff.mp H
     obtain ⟨t105, A190, H⟩ := H
     try dsimp only at H
     have A19 := aq A190
     clear A190
     by_cases c20 : t105 = true
     ·subst c20
      rw [if_pos rfl] at H
      replace H := Option.bind_eq_some_iff.mp H
      obtain ⟨t106, A210, H⟩ := H
      try dsimp only at H
      have A21 := aq A210
      clear A210
      by_cases c22 : t106 = true
      ·subst c22
       rw [if_pos rfl] at H
       replace H := Option.bind_eq_some_iff.mp H
       obtain ⟨t107, A230, H⟩ := H
       try dsimp only at H
       have A23 := aq A230
       clear A230
       by_cases c24 : t107 = true
       ·subst c24
        rw [if_pos rfl] at H
        replace H := Option.bind_eq_some_iff.mp H
        obtain ⟨t108, A250, H⟩ := H
        try dsimp only at H
        have A25 := aq A250
        clear A250
        have H' := aq H
        clear H
        obtain ⟨k26a, k26b, k26c, k26d, k26e, k26f, k26g, k26h, k26i, k26j, k26k, k26l, k26m⟩ := cl13 (W := wc) BK101.out
        obtain ⟨u26a, u26b, u26c, u26d, u26e, u26f, u26g, u26h, u26i, u26j, u26k, u26l, u26m⟩ := fr13 BK101.out
        go_wp2_with (first | ((with_reducible refine gate_callee (f := 102) rfl ?_); refine goesL_ (some 25) rfl rfl Try.func102 (by kernel_rfl) rfl #[.int .i64 a0_6, .int .i64 0, .int .i64 1023] rfl fitR ?_; (with_reducible refine (entry_within.calls a0_6 0 1023 true _ A19.out).mono ?_); rintro e w' ⟨rfl, ⟨nd, rfl⟩⟩; refine ⟨_, rfl, ?_⟩) | (go_at_call 102; (with_reducible refine (entry_within.calls a0_7 0 31 true _ A21.out).mono ?_); rintro e w' ⟨rfl, ⟨nd, rfl⟩⟩) | (go_at_call 103; (with_reducible refine (entry_isSlot.calls a0_8 a0_9 true _ A23.out).mono ?_); rintro e w27 ⟨rfl, hb⟩; have n0_ := aq (blk_below (stB BK101) hb); have n1_ := aq (below_step (stH HB) hb); replace BK101 := n0_; replace HB := n1_; clear n0_ n1_; (try clear hb); obtain ⟨k28a, k28b, k28c, k28d, k28e, k28f, k28g, k28h, k28i, k28j, k28k, k28l, k28m⟩ := cl13 (W := w27) BK101.out; obtain ⟨u28a, u28b, u28c, u28d, u28e, u28f, u28g, u28h, u28i, u28j, u28k, u28l, u28m⟩ := fr13 BK101.out) | (go_at_call 103; (with_reducible refine (entry_isSlot.calls a0_10 a0_11 t108 _ A25.out).mono ?_); rintro e w29 ⟨rfl, hb⟩; have n0_ := aq (blk_below (stB BK101) hb); have n1_ := aq (below_step (stH HB) hb); replace BK101 := n0_; replace HB := n1_; clear n0_ n1_; (try clear hb)))
        go_meet
        case rel => exact ⟨_, (t108), eqS, H', ⟨by have := HJ1.out; first | omega | exact Nat.le_refl _⟩, ⟨stB BK101⟩, ⟨stH HB⟩⟩
       ·replace c24 := Bool.eq_false_iff.mpr c24
        subst c24
        rw [if_neg (show ¬ (false = true) by decide)] at H
        have H' := aq H
        clear H
        obtain ⟨k30a, k30b, k30c, k30d, k30e, k30f, k30g, k30h, k30i, k30j, k30k, k30l, k30m⟩ := cl13 (W := wc) BK101.out
        obtain ⟨u30a, u30b, u30c, u30d, u30e, u30f, u30g, u30h, u30i, u30j, u30k, u30l, u30m⟩ := fr13 BK101.out
        go_wp2_with (first | ((with_reducible refine gate_callee (f := 102) rfl ?_); refine goesL_ (some 25) rfl rfl Try.func102 (by kernel_rfl) rfl #[.int .i64 a0_6, .int .i64 0, .int .i64 1023] rfl fitR ?_; (with_reducible refine (entry_within.calls a0_6 0 1023 true _ A19.out).mono ?_); rintro e w' ⟨rfl, ⟨nd, rfl⟩⟩; refine ⟨_, rfl, ?_⟩) | (go_at_call 102; (with_reducible refine (entry_within.calls a0_7 0 31 true _ A21.out).mono ?_); rintro e w' ⟨rfl, ⟨nd, rfl⟩⟩) | (go_at_call 103; (with_reducible refine (entry_isSlot.calls a0_8 a0_9 false _ A23.out).mono ?_); rintro e w31 ⟨rfl, hb⟩; have n0_ := aq (blk_below (stB BK101) hb); have n1_ := aq (below_step (stH HB) hb); replace BK101 := n0_; replace HB := n1_; clear n0_ n1_; (try clear hb)))
        go_meet
        case rel => exact ⟨_, (false), eqS, H', ⟨by have := HJ1.out; first | omega | exact Nat.le_refl _⟩, ⟨stB BK101⟩, ⟨stH HB⟩⟩
      ·replace c22 := Bool.eq_false_iff.mpr c22
       subst c22
       rw [if_neg (show ¬ (false = true) by decide)] at H
       have H' := aq H
       clear H
       obtain ⟨k32a, k32b, k32c, k32d, k32e, k32f, k32g, k32h, k32i, k32j, k32k, k32l, k32m⟩ := cl13 (W := wc) BK101.out
       obtain ⟨u32a, u32b, u32c, u32d, u32e, u32f, u32g, u32h, u32i, u32j, u32k, u32l, u32m⟩ := fr13 BK101.out
       go_wp2_with (first | ((with_reducible refine gate_callee (f := 102) rfl ?_); refine goesL_ (some 25) rfl rfl Try.func102 (by kernel_rfl) rfl #[.int .i64 a0_6, .int .i64 0, .int .i64 1023] rfl fitR ?_; (with_reducible refine (entry_within.calls a0_6 0 1023 true _ A19.out).mono ?_); rintro e w' ⟨rfl, ⟨nd, rfl⟩⟩; refine ⟨_, rfl, ?_⟩) | (go_at_call 102; (with_reducible refine (entry_within.calls a0_7 0 31 false _ A21.out).mono ?_); rintro e w' ⟨rfl, ⟨nd, rfl⟩⟩))
       go_meet
       case rel => exact ⟨_, (false), eqS, H', ⟨by have := HJ1.out; first | omega | exact Nat.le_refl _⟩, ⟨stB BK101⟩, ⟨stH HB⟩⟩
     ·replace c20 := Bool.eq_false_iff.mpr c20
      subst c20
      rw [if_neg (show ¬ (false = true) by decide)] at H
      have H' := aq H
      clear H
      obtain ⟨k33a, k33b, k33c, k33d, k33e, k33f, k33g, k33h, k33i, k33j, k33k, k33l, k33m⟩ := cl13 (W := wc) BK101.out
      obtain ⟨u33a, u33b, u33c, u33d, u33e, u33f, u33g, u33h, u33i, u33j, u33k, u33l, u33m⟩ := fr13 BK101.out
      go_wp2_with (first | ((with_reducible refine gate_callee (f := 102) rfl ?_); refine goesL_ (some 25) rfl rfl Try.func102 (by kernel_rfl) rfl #[.int .i64 a0_6, .int .i64 0, .int .i64 1023] rfl fitR ?_; (with_reducible refine (entry_within.calls a0_6 0 1023 false _ A19.out).mono ?_); rintro e w' ⟨rfl, ⟨nd, rfl⟩⟩; refine ⟨_, rfl, ?_⟩))
      go_meet
      case rel => exact ⟨_, (false), eqS, H', ⟨by have := HJ1.out; first | omega | exact Nat.le_refl _⟩, ⟨stB BK101⟩, ⟨stH HB⟩⟩
    case rest =>
     clear HC18
     try clear c1
     try clear c2
     try clear p2
     try clear c5
     try clear p6
     try clear c7
     try clear c10
     try clear c17
     try clear c20
     try clear c22
     try clear c24
     obtain ⟨kq, x3_17, rfl, HA, HJ17, BK101, HB⟩ := hcut
     cases kq with
     | zero => exact absurd HA.out (by simp [entry_Good.j1])
     | succ kj17 =>
      have H := HA.out
      clear HA
      simp only [entry_Good.j1] at H
      by_cases c34 : a0_0 = 1
      ·rw [if_pos c34] at H
       have c34b0 : (a0_0 == 1) = true := beq_iff_eq.mpr c34
       have c34b1 : (a0_0 != 1) = false := bne_eq_false_iff_eq.mpr c34
       clear c34
       by_cases c35 : x3_17 = true
       ·subst c35
        rw [if_pos rfl] at H
        obtain rfl := Option.some.inj H
        obtain ⟨k36a, k36b, k36c, k36d, k36e, k36f, k36g, k36h, k36i, k36j, k36k, k36l, k36m⟩ := cl13 (W := wc) BK101.out
        obtain ⟨u36a, u36b, u36c, u36d, u36e, u36f, u36g, u36h, u36i, u36j, u36k, u36l, u36m⟩ := fr13 BK101.out
        go_wp2
        go_ret
        exact ⟨eqW, by repeat (first | (with_reducible first | exact HB.out | apply below_alloc | apply pw_below_drewN | apply below_drew1 | refine below_set ?_ GE101.out) | exact HB.out)⟩
       ·replace c35 := Bool.eq_false_iff.mpr c35
        subst c35
        rw [if_neg (show ¬ (false = true) by decide)] at H
        obtain rfl := Option.some.inj H
        obtain ⟨k37a, k37b, k37c, k37d, k37e, k37f, k37g, k37h, k37i, k37j, k37k, k37l, k37m⟩ := cl13 (W := wc) BK101.out
        obtain ⟨u37a, u37b, u37c, u37d, u37e, u37f, u37g, u37h, u37i, u37j, u37k, u37l, u37m⟩ := fr13 BK101.out
        go_wp2
        go_ret
        exact ⟨eqW, by repeat (first | (with_reducible first | exact HB.out | apply below_alloc | apply pw_below_drewN | apply below_drew1 | refine below_set ?_ GE101.out) | exact HB.out)⟩
      ·rw [if_neg c34] at H
       have c34b0 : (a0_0 == 1) = false := beq_eq_false_iff_ne.mpr c34
       have c34b1 : (a0_0 != 1) = true := bne_iff_ne.mpr c34
       by_cases c38 : a0_0 = 2
       ·rw [if_pos c38] at H
        have c38b0 : (a0_0 == 2) = true := beq_iff_eq.mpr c38
        have c38b1 : (a0_0 != 2) = false := bne_eq_false_iff_eq.mpr c38
        clear c38
        by_cases c39 : x3_17 = true
        ·subst c39
         rw [if_pos rfl] at H
         replace H := Option.bind_eq_some_iff.mp H
         obtain ⟨t109, A400, H⟩ := H
         try dsimp only at H
         have A40 := aq A400
         clear A400
         obtain rfl := Option.some.inj H
         obtain ⟨k41a, k41b, k41c, k41d, k41e, k41f, k41g, k41h, k41i, k41j, k41k, k41l, k41m⟩ := cl13 (W := wc) BK101.out
         obtain ⟨u41a, u41b, u41c, u41d, u41e, u41f, u41g, u41h, u41i, u41j, u41k, u41l, u41m⟩ := fr13 BK101.out
         go_wp2_with (first | (go_at_call 102; (with_reducible refine (entry_within.calls a0_12 0 a0_5 t109 _ A40.out).mono ?_); rintro e w' ⟨rfl, ⟨nd, rfl⟩⟩))
         go_ret
         exact ⟨eqW, by repeat (first | (with_reducible first | exact HB.out | apply below_alloc | apply pw_below_drewN | apply below_drew1 | refine below_set ?_ GE101.out) | exact HB.out)⟩
        ·replace c39 := Bool.eq_false_iff.mpr c39
         subst c39
         rw [if_neg (show ¬ (false = true) by decide)] at H
         obtain rfl := Option.some.inj H
         obtain ⟨k42a, k42b, k42c, k42d, k42e, k42f, k42g, k42h, k42i, k42j, k42k, k42l, k42m⟩ := cl13 (W := wc) BK101.out
         obtain ⟨u42a, u42b, u42c, u42d, u42e, u42f, u42g, u42h, u42i, u42j, u42k, u42l, u42m⟩ := fr13 BK101.out
         go_wp2
         go_ret
         exact ⟨eqW, by repeat (first | (with_reducible first | exact HB.out | apply below_alloc | apply pw_below_drewN | apply below_drew1 | refine below_set ?_ GE101.out) | exact HB.out)⟩
       ·rw [if_neg c38] at H
        have c38b0 : (a0_0 == 2) = false := beq_eq_false_iff_ne.mpr c38
        have c38b1 : (a0_0 != 2) = true := bne_iff_ne.mpr c38
        by_cases c43 : a0_0 = 3
        ·rw [if_pos c43] at H
         have c43b0 : (a0_0 == 3) = true := beq_iff_eq.mpr c43
         have c43b1 : (a0_0 != 3) = false := bne_eq_false_iff_eq.mpr c43
         clear c43
         replace H := Option.bind_eq_some_iff.mp H
         obtain ⟨⟨t110, t111, t112, t113, t114, t115, t116, t117, t118, t119, t120, t121, t122⟩, A440, H⟩ := H
         try dsimp only at H
         have A44 := aq A440
         clear A440
         obtain rfl := Option.some.inj H
         obtain ⟨k45a, k45b, k45c, k45d, k45e, k45f, k45g, k45h, k45i, k45j, k45k, k45l, k45m⟩ := cl13 (W := wc) BK101.out
         obtain ⟨u45a, u45b, u45c, u45d, u45e, u45f, u45g, u45h, u45i, u45j, u45k, u45l, u45m⟩ := fr13 BK101.out
         try go_wp2
         have n0_ := aq (blk_drew BK101.out)
         have n1_ := aq (below_drew1 HB.out)
         clear BK101
         clear HB
         have BK101 := n0_
         have HB := n1_
         clear n0_ n1_
         refine start_ (n := 5) (S := fun w' => w'.cell? ⟨gb101, 0, none⟩ = some (.int .i64 a0_0) ∧ w'.cell? ⟨gb101, 1, none⟩ = some (.int .i64 a0_1) ∧ w'.cell? ⟨gb101, 2, none⟩ = some (.int .i64 a0_2) ∧ w'.cell? ⟨gb101, 3, none⟩ = some (.int .i64 a0_3) ∧ w'.cell? ⟨gb101, 4, none⟩ = some (.int .i64 a0_4) ∧ w'.cell? ⟨gb101, 5, none⟩ = some (.int .i64 a0_5) ∧ w'.cell? ⟨gb101, 6, none⟩ = some (.int .i64 a0_6) ∧ w'.cell? ⟨gb101, 7, none⟩ = some (.int .i64 a0_7) ∧ w'.cell? ⟨gb101, 8, none⟩ = some (.bool a0_8) ∧ w'.cell? ⟨gb101, 9, none⟩ = some (.string a0_9) ∧ w'.cell? ⟨gb101, 10, none⟩ = some (.bool a0_10) ∧ w'.cell? ⟨gb101, 11, none⟩ = some (.string a0_11) ∧ w'.cell? ⟨gb101, 12, none⟩ = some (.int .i64 a0_12)) (ds := []) #[false, false, false, false, false] (by kernel_rfl) rfl rfl ⟨(blk_cell BK101.out 0).trans rfl, (blk_cell BK101.out 1).trans rfl, (blk_cell BK101.out 2).trans rfl, (blk_cell BK101.out 3).trans rfl, (blk_cell BK101.out 4).trans rfl, (blk_cell BK101.out 5).trans rfl, (blk_cell BK101.out 6).trans rfl, (blk_cell BK101.out 7).trans rfl, (blk_cell BK101.out 8).trans rfl, (blk_cell BK101.out 9).trans rfl, (blk_cell BK101.out 10).trans rfl, (blk_cell BK101.out 11).trans rfl, (blk_cell BK101.out 12).trans rfl⟩ (fun hHeld => ?_)
         generalize wc.drew = w46 at BK101 HB hHeld ⊢
         refine take_ (i := 0) (N := some 64) (v := ?_) (a' := ?_) #[true, false, false, false, false] rfl rfl (by kernel_rfl) (fun _ _ _ h => h) (Or.inl ⟨by rfl, ?_⟩) hHeld ?_ ?_
         rotate_left
         ·rintro w' ⟨s0, s1, s2, s3, s4, s5, s6, s7, s8, s9, s10, s11, s12⟩
          go_simp
          with_reducible rfl
         rotate_left
         ·simp only [Act.put, List.setIfInBounds_toArray, List.set_cons_zero, List.set_cons_succ, i64_w, i32_w]
          rfl
         refine take_ (i := 1) (N := some 65) (v := ?_) (a' := ?_) #[true, true, false, false, false] rfl rfl (by kernel_rfl) (fun _ _ _ h => h) (Or.inl ⟨by rfl, ?_⟩) hHeld ?_ ?_
         rotate_left
         ·rintro w' ⟨s0, s1, s2, s3, s4, s5, s6, s7, s8, s9, s10, s11, s12⟩
          go_simp
          with_reducible rfl
         rotate_left
         ·simp only [Act.put, List.setIfInBounds_toArray, List.set_cons_zero, List.set_cons_succ, i64_w, i32_w]
          rfl
         refine one_ (i := 2) (N := some 66) #[true, true, true, false, false] rfl rfl (by kernel_rfl) (by decide) (fun K hK => ?_)
         refine goes_ Try.func104 (by kernel_rfl) rfl #[.agg #[.int .i64 a0_0, .int .i64 a0_1, .int .i64 a0_2, .int .i64 a0_3, .int .i64 a0_4, .int .i64 a0_5, .int .i64 a0_6, .int .i64 a0_7, .bool a0_8, .string a0_9, .bool a0_10, .string a0_11, .int .i64 a0_12]] (by rfl) rfl rfl fitR ?_
         with_reducible refine (entry_plain.calls a0_0 a0_1 a0_2 a0_3 a0_4 a0_5 a0_6 a0_7 a0_8 a0_9 a0_10 a0_11 a0_12 t110 t111 t112 t113 t114 t115 t116 t117 t118 t119 t120 t121 t122 _ A44.out).mono ?_
         rintro e w47 ⟨rfl, hb⟩
         refine ⟨_, rfl, ?_⟩
         have n0_ := aq (blk_below (stB BK101) hb)
         have n1_ := aq (below_step (stH HB) hb)
         clear BK101
         clear HB
         have BK101 := n0_
         have HB := n1_
         clear n0_ n1_
         (try clear hb)
         (try clear hb2)
         (try clear hk)
         (try clear hi)
         refine hK.out _ _ ⟨(blk_cell BK101.out 0).trans rfl, (blk_cell BK101.out 1).trans rfl, (blk_cell BK101.out 2).trans rfl, (blk_cell BK101.out 3).trans rfl, (blk_cell BK101.out 4).trans rfl, (blk_cell BK101.out 5).trans rfl, (blk_cell BK101.out 6).trans rfl, (blk_cell BK101.out 7).trans rfl, (blk_cell BK101.out 8).trans rfl, (blk_cell BK101.out 9).trans rfl, (blk_cell BK101.out 10).trans rfl, (blk_cell BK101.out 11).trans rfl, (blk_cell BK101.out 12).trans rfl⟩ (fun hHeld => ?_)
         clear hK K
         refine norm_ (a' := ?_) ?_ ?_
         rotate_left
         ·show Act.put _ (some 66) _ = _
          simp only [Act.put, List.setIfInBounds_toArray, List.set_cons_zero, List.set_cons_succ, i64_w, i32_w]
          rfl
         refine pure_ (i := 3) (N := some 67) (v := ?_) (a' := ?_) #[true, true, true, true, false] rfl rfl (by kernel_rfl) (fun _ _ _ h => h) (Or.inl ⟨by rfl, ?_⟩) ?_ ?_
         rotate_left
         ·intro w'
          go_simp
          with_reducible rfl
         rotate_left
         ·simp only [Act.put, List.setIfInBounds_toArray, List.set_cons_zero, List.set_cons_succ, i64_w, i32_w]
          rfl
         refine pure_ (i := 4) (N := some 2) (v := ?_) (a' := ?_) #[true, true, true, true, true] rfl rfl (by kernel_rfl) (fun _ _ _ h => h) (Or.inl ⟨by rfl, ?_⟩) ?_ ?_
         rotate_left
         ·intro w'
          go_simp
          with_reducible rfl
         rotate_left
         ·simp only [Act.put, List.setIfInBounds_toArray, List.set_cons_zero, List.set_cons_succ, i64_w, i32_w]
          rfl
         refine done_ (by kernel_rfl) ?_
         try go_wp2
         go_ret
         exact ⟨eqW, by repeat (first | (with_reducible first | exact HB.out | apply below_alloc | apply pw_below_drewN | apply below_drew1 | refine below_set ?_ GE101.out) | exact HB.out)⟩
        ·rw [if_neg c43] at H
         have c43b0 : (a0_0 == 3) = false := beq_eq_false_iff_ne.mpr c43
         have c43b1 : (a0_0 != 3) = true := bne_iff_ne.mpr c43
         by_cases c48 : a0_0 = 4
         ·rw [if_pos c48] at H
          have c48b0 : (a0_0 == 4) = true := beq_iff_eq.mpr c48
          have c48b1 : (a0_0 != 4) = false := bne_eq_false_iff_eq.mpr c48
          clear c48
          replace H := Option.bind_eq_some_iff.mp H
          obtain ⟨⟨t123, t124, t125, t126, t127, t128, t129, t130, t131, t132, t133, t134, t135⟩, A490, H⟩ := H
          try dsimp only at H
          have A49 := aq A490
          clear A490
          obtain rfl := Option.some.inj H
          obtain ⟨k50a, k50b, k50c, k50d, k50e, k50f, k50g, k50h, k50i, k50j, k50k, k50l, k50m⟩ := cl13 (W := wc) BK101.out
          obtain ⟨u50a, u50b, u50c, u50d, u50e, u50f, u50g, u50h, u50i, u50j, u50k, u50l, u50m⟩ := fr13 BK101.out
          try go_wp2
          have n0_ := aq (blk_drew BK101.out)
          have n1_ := aq (below_drew1 HB.out)
          clear BK101
          clear HB
          have BK101 := n0_
          have HB := n1_
          clear n0_ n1_
          refine start_ (n := 5) (S := fun w' => w'.cell? ⟨gb101, 0, none⟩ = some (.int .i64 a0_0) ∧ w'.cell? ⟨gb101, 1, none⟩ = some (.int .i64 a0_1) ∧ w'.cell? ⟨gb101, 2, none⟩ = some (.int .i64 a0_2) ∧ w'.cell? ⟨gb101, 3, none⟩ = some (.int .i64 a0_3) ∧ w'.cell? ⟨gb101, 4, none⟩ = some (.int .i64 a0_4) ∧ w'.cell? ⟨gb101, 5, none⟩ = some (.int .i64 a0_5) ∧ w'.cell? ⟨gb101, 6, none⟩ = some (.int .i64 a0_6) ∧ w'.cell? ⟨gb101, 7, none⟩ = some (.int .i64 a0_7) ∧ w'.cell? ⟨gb101, 8, none⟩ = some (.bool a0_8) ∧ w'.cell? ⟨gb101, 9, none⟩ = some (.string a0_9) ∧ w'.cell? ⟨gb101, 10, none⟩ = some (.bool a0_10) ∧ w'.cell? ⟨gb101, 11, none⟩ = some (.string a0_11) ∧ w'.cell? ⟨gb101, 12, none⟩ = some (.int .i64 a0_12)) (ds := []) #[false, false, false, false, false] (by kernel_rfl) rfl rfl ⟨(blk_cell BK101.out 0).trans rfl, (blk_cell BK101.out 1).trans rfl, (blk_cell BK101.out 2).trans rfl, (blk_cell BK101.out 3).trans rfl, (blk_cell BK101.out 4).trans rfl, (blk_cell BK101.out 5).trans rfl, (blk_cell BK101.out 6).trans rfl, (blk_cell BK101.out 7).trans rfl, (blk_cell BK101.out 8).trans rfl, (blk_cell BK101.out 9).trans rfl, (blk_cell BK101.out 10).trans rfl, (blk_cell BK101.out 11).trans rfl, (blk_cell BK101.out 12).trans rfl⟩ (fun hHeld => ?_)
          generalize wc.drew = w51 at BK101 HB hHeld ⊢
          refine take_ (i := 0) (N := some 64) (v := ?_) (a' := ?_) #[true, false, false, false, false] rfl rfl (by kernel_rfl) (fun _ _ _ h => h) (Or.inl ⟨by rfl, ?_⟩) hHeld ?_ ?_
          rotate_left
          ·rintro w' ⟨s0, s1, s2, s3, s4, s5, s6, s7, s8, s9, s10, s11, s12⟩
           go_simp
           with_reducible rfl
          rotate_left
          ·simp only [Act.put, List.setIfInBounds_toArray, List.set_cons_zero, List.set_cons_succ, i64_w, i32_w]
           rfl
          refine take_ (i := 1) (N := some 65) (v := ?_) (a' := ?_) #[true, true, false, false, false] rfl rfl (by kernel_rfl) (fun _ _ _ h => h) (Or.inl ⟨by rfl, ?_⟩) hHeld ?_ ?_
          rotate_left
          ·rintro w' ⟨s0, s1, s2, s3, s4, s5, s6, s7, s8, s9, s10, s11, s12⟩
           go_simp
           with_reducible rfl
          rotate_left
          ·simp only [Act.put, List.setIfInBounds_toArray, List.set_cons_zero, List.set_cons_succ, i64_w, i32_w]
           rfl
          refine one_ (i := 2) (N := some 66) #[true, true, true, false, false] rfl rfl (by kernel_rfl) (by decide) (fun K hK => ?_)
          refine goes_ Try.func104 (by kernel_rfl) rfl #[.agg #[.int .i64 a0_0, .int .i64 a0_1, .int .i64 a0_2, .int .i64 a0_3, .int .i64 a0_4, .int .i64 a0_5, .int .i64 a0_6, .int .i64 a0_7, .bool a0_8, .string a0_9, .bool a0_10, .string a0_11, .int .i64 a0_12]] (by rfl) rfl rfl fitR ?_
          with_reducible refine (entry_plain.calls a0_0 a0_1 a0_2 a0_3 a0_4 a0_5 a0_6 a0_7 a0_8 a0_9 a0_10 a0_11 a0_12 t123 t124 t125 t126 t127 t128 t129 t130 t131 t132 t133 t134 t135 _ A49.out).mono ?_
          rintro e w52 ⟨rfl, hb⟩
          refine ⟨_, rfl, ?_⟩
          have n0_ := aq (blk_below (stB BK101) hb)
          have n1_ := aq (below_step (stH HB) hb)
          clear BK101
          clear HB
          have BK101 := n0_
          have HB := n1_
          clear n0_ n1_
          (try clear hb)
          (try clear hb2)
          (try clear hk)
          (try clear hi)
          refine hK.out _ _ ⟨(blk_cell BK101.out 0).trans rfl, (blk_cell BK101.out 1).trans rfl, (blk_cell BK101.out 2).trans rfl, (blk_cell BK101.out 3).trans rfl, (blk_cell BK101.out 4).trans rfl, (blk_cell BK101.out 5).trans rfl, (blk_cell BK101.out 6).trans rfl, (blk_cell BK101.out 7).trans rfl, (blk_cell BK101.out 8).trans rfl, (blk_cell BK101.out 9).trans rfl, (blk_cell BK101.out 10).trans rfl, (blk_cell BK101.out 11).trans rfl, (blk_cell BK101.out 12).trans rfl⟩ (fun hHeld => ?_)
          clear hK K
          refine norm_ (a' := ?_) ?_ ?_
          rotate_left
          ·show Act.put _ (some 66) _ = _
           simp only [Act.put, List.setIfInBounds_toArray, List.set_cons_zero, List.set_cons_succ, i64_w, i32_w]
           rfl
          refine pure_ (i := 3) (N := some 67) (v := ?_) (a' := ?_) #[true, true, true, true, false] rfl rfl (by kernel_rfl) (fun _ _ _ h => h) (Or.inl ⟨by rfl, ?_⟩) ?_ ?_
          rotate_left
          ·intro w'
           go_simp
           with_reducible rfl
          rotate_left
          ·simp only [Act.put, List.setIfInBounds_toArray, List.set_cons_zero, List.set_cons_succ, i64_w, i32_w]
           rfl
          refine pure_ (i := 4) (N := some 2) (v := ?_) (a' := ?_) #[true, true, true, true, true] rfl rfl (by kernel_rfl) (fun _ _ _ h => h) (Or.inl ⟨by rfl, ?_⟩) ?_ ?_
          rotate_left
          ·intro w'
           go_simp
           with_reducible rfl
          rotate_left
          ·simp only [Act.put, List.setIfInBounds_toArray, List.set_cons_zero, List.set_cons_succ, i64_w, i32_w]
           rfl
          refine done_ (by kernel_rfl) ?_
          try go_wp2
          go_ret
          exact ⟨eqW, by repeat (first | (with_reducible first | exact HB.out | apply below_alloc | apply pw_below_drewN | apply below_drew1 | refine below_set ?_ GE101.out) | exact HB.out)⟩
         ·rw [if_neg c48] at H
          have c48b0 : (a0_0 == 4) = false := beq_eq_false_iff_ne.mpr c48
          have c48b1 : (a0_0 != 4) = true := bne_iff_ne.mpr c48
          obtain rfl := Option.some.inj H
          obtain ⟨k53a, k53b, k53c, k53d, k53e, k53f, k53g, k53h, k53i, k53j, k53k, k53l, k53m⟩ := cl13 (W := wc) BK101.out
          obtain ⟨u53a, u53b, u53c, u53d, u53e, u53f, u53g, u53h, u53i, u53j, u53k, u53l, u53m⟩ := fr13 BK101.out
          go_wp2
          go_ret
          exact ⟨eqW, by repeat (first | (with_reducible first | exact HB.out | apply below_alloc | apply pw_below_drewN | apply below_drew1 | refine below_set ?_ GE101.out) | exact HB.out)⟩
end Go.Proofs.Ytfjmnaobfbmllaa.M
namespace Go.Proofs.Ytfjmnaobfbmllaa.M
open Go.RowKit Go.Proofs.YtfjmnaobfbmllaaW.PrintWords Go.Proofs.YtfjmnaobfbmllaaW.PrintLast Go.Proofs.YtfjmnaobfbmllaaW.PrintMore
set_option linter.unusedVariables false
set_option linter.unusedSimpArgs false
def Chg (p s : Int) (x y : S33) : Prop := (0 ≤ p ∧ p ≤ 1023) ∧ (0 ≤ s ∧ s ≤ 31) ∧ oddS x = false ∧ oddS y = false
instance decChg (p s : Int) (x y : S33) : Decidable (Chg p s x y) := by unfold Chg; infer_instance
def KindE (k prev p s : Int) (x y : S33) (next : Int) : Prop :=
  (k = 1 ∧ Chg p s x y ∧ next = 0) ∨ (k = 2 ∧ Chg p s x y ∧ 0 ≤ next ∧ next ≤ prev) ∨ ((k = 3 ∨ k = 4) ∧ p = 0 ∧ s = 0 ∧ next = 0 ∧ x = z33 ∧ y = z33)
instance decKind (k prev p s : Int) (x y : S33) (next : Int) : Decidable (KindE k prev p s x y next) := by unfold KindE; infer_instance
def GoodE (x : S65) : Prop := KnownP x.f1.f0 x.f1.f1 x.f1.f2 ∧ (1 ≤ x.f2 ∧ x.f2 ≤ 1099511627776) ∧ (0 ≤ x.f3 ∧ x.f3 < x.f2) ∧ KindE x.f0 x.f3 x.f4 x.f5 x.f6 x.f7 x.f8
instance decGood (x : S65) : Decidable (GoodE x) := by unfold GoodE; infer_instance
def mkE (k c e n lsn prev p s : Int) (u : Bool) (d : ByteArray) (u2 : Bool) (d2 : ByteArray) (next : Int) : S65 := ⟨k, ⟨c, e, n⟩, lsn, prev, p, s, ⟨u, d⟩, ⟨u2, d2⟩, next⟩
theorem isSlot_eq (u : Bool) (d : ByteArray) : entry_isSlot.f u d = some (decide (oddS ⟨u, d⟩ = false)) := by
  unfold entry_isSlot.f oddS
  by_cases h : (d.size : Int) ≤ 200
  · rw [if_pos h, decide_eq_false (show ¬ 200 < d.size by omega)]
    cases u with
    | true => rw [if_pos rfl]; simp
    | false =>
      rw [if_neg Bool.false_ne_true]
      cases hd : d.toList <;> simp [hd]
  · rw [if_neg h, decide_eq_true (show 200 < d.size by omega)]; simp
theorem good_j1 (q : Nat) (b : Bool) (k c e n lsn prev p s : Int) (u : Bool) (d : ByteArray) (u2 : Bool) (d2 : ByteArray) (next : Int) (hb : b = decide (Chg p s ⟨u, d⟩ ⟨u2, d2⟩)) :
    entry_Good.j1 (q + 1) b k c e n lsn prev p s u d u2 d2 next = some (decide (KindE k prev p s ⟨u, d⟩ ⟨u2, d2⟩ next)) := by
  subst hb
  simp only [entry_Good.j1]
  by_cases h1 : k = 1
  · rw [if_pos h1]
    by_cases hc : Chg p s ⟨u, d⟩ ⟨u2, d2⟩
    · rw [decide_eq_true hc, if_pos rfl]; congr 1; rw [Bool.eq_iff_iff]; simp [KindE, hc, h1]
    · rw [decide_eq_false hc, if_neg Bool.false_ne_true]; congr 1; rw [Bool.eq_iff_iff]; simp [KindE, hc, h1]
  rw [if_neg h1]
  by_cases h2 : k = 2
  · rw [if_pos h2]
    by_cases hc : Chg p s ⟨u, d⟩ ⟨u2, d2⟩
    · rw [decide_eq_true hc, if_pos rfl, within_eq, Option.bind_some]; congr 1; rw [Bool.eq_iff_iff]; simp [KindE, hc, h2]
    · rw [decide_eq_false hc, if_neg Bool.false_ne_true]; congr 1; rw [Bool.eq_iff_iff]; simp [KindE, hc, h2]
  rw [if_neg h2]
  by_cases h3 : k = 3
  · rw [if_pos h3]
    unfold entry_plain.f
    rw [Option.bind_some]; congr 1; rw [Bool.eq_iff_iff]; simp [KindE, h3, s33_ext, z33, ba_nil, ba_inj, and_assoc]
    intro _ _
    constructor
    · rintro ⟨a3, a4, a5, a6, a7⟩; exact ⟨a7, a3, a4, a5, a6⟩
    · rintro ⟨a7, a3, a4, a5, a6⟩; exact ⟨a3, a4, a5, a6, a7⟩
  rw [if_neg h3]
  by_cases h4 : k = 4
  · rw [if_pos h4]
    unfold entry_plain.f
    rw [Option.bind_some]; congr 1; rw [Bool.eq_iff_iff]; simp [KindE, h4, s33_ext, z33, ba_nil, ba_inj, and_assoc]
    intro _ _
    constructor
    · rintro ⟨a3, a4, a5, a6, a7⟩; exact ⟨a7, a3, a4, a5, a6⟩
    · rintro ⟨a7, a3, a4, a5, a6⟩; exact ⟨a3, a4, a5, a6, a7⟩
  rw [if_neg h4]; congr 1; exact (decide_eq_false (by unfold KindE; omega)).symm
theorem good_j0 (q : Nat) (k c e n lsn prev p s : Int) (u : Bool) (d : ByteArray) (u2 : Bool) (d2 : ByteArray) (next : Int) :
    entry_Good.j0 (q + 2) false k c e n lsn prev p s u d u2 d2 next = some (decide (KindE k prev p s ⟨u, d⟩ ⟨u2, d2⟩ next)) := by
  simp only [entry_Good.j0]
  rw [if_neg Bool.false_ne_true, within_eq, within_eq, isSlot_eq, isSlot_eq, Option.bind_some, Option.bind_some, Option.bind_some, Option.bind_some]
  by_cases h1 : 0 ≤ p ∧ p ≤ 1023
  · rw [decide_eq_true h1, if_pos rfl]
    by_cases h2 : 0 ≤ s ∧ s ≤ 31
    · rw [decide_eq_true h2, if_pos rfl]
      by_cases h3 : oddS ⟨u, d⟩ = false
      · rw [decide_eq_true h3, if_pos rfl]
        refine good_j1 q _ k c e n lsn prev p s u d u2 d2 next ?_
        exact decide_eq_decide.mpr ⟨fun h => ⟨h1, h2, h3, h⟩, fun h => h.2.2.2⟩
      · rw [decide_eq_false h3, if_neg Bool.false_ne_true]
        refine good_j1 q _ k c e n lsn prev p s u d u2 d2 next ?_
        exact (decide_eq_false (fun h => h3 h.2.2.1)).symm
    · rw [decide_eq_false h2, if_neg Bool.false_ne_true]
      refine good_j1 q _ k c e n lsn prev p s u d u2 d2 next ?_
      exact (decide_eq_false (fun h => h2 h.2.1)).symm
  · rw [decide_eq_false h1, if_neg Bool.false_ne_true]
    refine good_j1 q _ k c e n lsn prev p s u d u2 d2 next ?_
    exact (decide_eq_false (fun h => h1 h.1)).symm
theorem goodE_pure (k c e n lsn prev p s : Int) (u : Bool) (d : ByteArray) (u2 : Bool) (d2 : ByteArray) (next : Int) :
    entry_Good.f 2 k c e n lsn prev p s u d u2 d2 next = some (decide (GoodE (mkE k c e n lsn prev p s u d u2 d2 next))) := by
  have hbad : entry_Good.j0 2 true k c e n lsn prev p s u d u2 d2 next = some false := by simp only [entry_Good.j0]; exact if_pos trivial
  unfold entry_Good.f
  rw [show entKnown.f c e n = some (decide (KnownP c e n)) from rfl, within_eq, Option.bind_some, Option.bind_some]
  by_cases h1 : KnownP c e n
  · rw [decide_eq_true h1, if_pos rfl]
    by_cases h2 : 1 ≤ lsn ∧ lsn ≤ 1099511627776
    · rw [decide_eq_true h2, if_pos rfl, w64 (lsn - 1) (by omega) (by omega), within_eq, Option.bind_some]
      by_cases h3 : 0 ≤ prev ∧ prev ≤ lsn - 1
      · rw [decide_eq_true h3, Bool.not_true, good_j0 0]
        congr 1
        exact decide_eq_decide.mpr ⟨fun h => ⟨h1, h2, ⟨h3.1, by show prev < lsn; omega⟩, h⟩, fun h => h.2.2.2⟩
      · rw [decide_eq_false h3, Bool.not_false, hbad]
        congr 1
        exact (decide_eq_false (fun h => by have h5 : 0 ≤ prev ∧ prev < lsn := h.2.2.1; omega)).symm
    · rw [decide_eq_false h2, if_neg Bool.false_ne_true, hbad]
      congr 1
      exact (decide_eq_false (fun h => h2 h.2.1)).symm
  · rw [decide_eq_false h1, if_neg Bool.false_ne_true, hbad]
    congr 1
    exact (decide_eq_false (fun h => h1 h.1)).symm
def entGood.f (k c e n lsn prev p s : Int) (u : Bool) (d : ByteArray) (u2 : Bool) (d2 : ByteArray) (next : Int) : Option Bool := some (decide (GoodE (mkE k c e n lsn prev p s u d u2 d2 next)))
theorem entGood.calls (k c e n lsn prev p s : Int) (u : Bool) (d : ByteArray) (u2 : Bool) (d2 : ByteArray) (next : Int) (r : Bool) (w : World) (h : entGood.f k c e n lsn prev p s u d u2 d2 next = some r) :
    Calls Try.prog 55 #[.agg #[.int .i64 k, .int .i64 c, .int .i64 e, .int .i64 n, .int .i64 lsn, .int .i64 prev, .int .i64 p, .int .i64 s, .bool u, .string d, .bool u2, .string d2, .int .i64 next]] w fun e w' => e = .returned (.bool r) ∧ Below w.heap.size w w' :=
  entry_Good.calls 2 k c e n lsn prev p s u d u2 d2 next r w (by rw [goodE_pure]; exact h)
end Go.Proofs.Ytfjmnaobfbmllaa.M
namespace Go.Proofs.Ytfjmnaobfbmllaa.M
open Go.RowKit Go.Proofs.YtfjmnaobfbmllaaW.PrintWords Go.Proofs.YtfjmnaobfbmllaaW.PrintLast Go.Proofs.YtfjmnaobfbmllaaW.PrintMore
set_option linter.unusedVariables false
set_option linter.unusedSimpArgs false
def badE (x : S65) : Bool := !decide (GoodE x)
theorem isBad_any (x : S65) (w : World) : Calls Try.prog 92 #[.agg #[.int .i64 x.f0, .int .i64 x.f1.f0, .int .i64 x.f1.f1, .int .i64 x.f1.f2, .int .i64 x.f2, .int .i64 x.f3, .int .i64 x.f4, .int .i64 x.f5, .bool x.f6.f0, .string x.f6.f1, .bool x.f7.f0, .string x.f7.f1, .int .i64 x.f8]] w fun e w' => e = .returned (.bool (badE x)) ∧ Below w.heap.size w w' := by
 have hu65 := Try.underlying65
 have hcall := fun (w : World) => entGood.calls x.f0 x.f1.f0 x.f1.f1 x.f1.f2 x.f2 x.f3 x.f4 x.f5 x.f6.f0 x.f6.f1 x.f7.f0 x.f7.f1 x.f8 _ w rfl
 have hE : Aside0 (decide (GoodE (mkE x.f0 x.f1.f0 x.f1.f1 x.f1.f2 x.f2 x.f3 x.f4 x.f5 x.f6.f0 x.f6.f1 x.f7.f0 x.f7.f1 x.f8)) = decide (GoodE x)) := ⟨rfl⟩
 unfold badE
 generalize decide (GoodE (mkE x.f0 x.f1.f0 x.f1.f1 x.f1.f2 x.f2 x.f3 x.f4 x.f5 x.f6.f0 x.f6.f1 x.f7.f0 x.f7.f1 x.f8)) = b at hcall hE
 rw [← hE.out]
 go_enter Try.func92, Try.ntmps92
 go_wp2_with (go_at_call 55; refine (hcall _).mono ?_; rintro e w' ⟨rfl, hb⟩)
 go_ret
 exact ⟨rfl, below_step (below_alloc (Below.refl _ _) _) hb⟩
set_option maxHeartbeats 4000000 in
theorem index_bad (A : Option Addr) (c : Nat) (l : List S65) (w : World) (hr : Kd.C k65 w A l.length l) (hc : l.length ≤ c) :
  Calls Try.prog 121 #[.slice A l.length c, .func (.func 92) #[] #[]] w fun e w' => e = .returned (.int .i64 (idxOf badE l)) ∧ Below w.heap.size w w' := by
 have hu65 := Try.underlying65
 have hmax := Kd.C_max hr
 have HR := Aside0.mk hr
 have HC := Aside0.mk hc
 clear hr hc
 have eg : ∀ args w, (callFunc 92 args).run Try.prog w = .ok (.enter 92 args) w := enters_ Try.func92 (by kernel_rfl) rfl
 go_enter Try.func121, Try.ntmps121
 go_wp2
 go_loopg [5, 8] l.length (fun gg _ s8 wr => ∃ kk : Nat, kk ≤ l.length ∧ l.length - kk ≤ gg ∧ s8 = .int .i64 kk ∧ Aside0 (Below w.heap.size w wr) ∧ Aside0 (∀ j (h : j < l.length), j < kk → badE l[j] = false))
 case atStart => exact ⟨0, Nat.zero_le _, by omega, rfl, ⟨Below.refl _ w⟩, ⟨fun j _ hj => absurd hj (Nat.not_lt_zero _)⟩⟩
 case round =>
  obtain ⟨kk, hkk, hg, rfl, HB, HA⟩ := hrel
  by_cases hlt : kk < l.length
  ·have p0 : 0 ≤ (kk : Int) := by omega
   have q0 : (kk : Int) < (l.length : Int) := by omega
   obtain ⟨ad, e0, hx0, hx1, hx2, hx3, hx4, hx5, hx6, hx7, hx8, hx9, hx10, hx11, hx12⟩ := at_T65 HR.out (kk : Int) p0 q0
   cases e0
   replace hx0 := (HB.out.cell (World.block_lt_of_cell? w _ hx0)).trans hx0
   replace hx1 := (HB.out.cell (World.block_lt_of_cell? w _ hx1)).trans hx1
   replace hx2 := (HB.out.cell (World.block_lt_of_cell? w _ hx2)).trans hx2
   replace hx3 := (HB.out.cell (World.block_lt_of_cell? w _ hx3)).trans hx3
   replace hx4 := (HB.out.cell (World.block_lt_of_cell? w _ hx4)).trans hx4
   replace hx5 := (HB.out.cell (World.block_lt_of_cell? w _ hx5)).trans hx5
   replace hx6 := (HB.out.cell (World.block_lt_of_cell? w _ hx6)).trans hx6
   replace hx7 := (HB.out.cell (World.block_lt_of_cell? w _ hx7)).trans hx7
   replace hx8 := (HB.out.cell (World.block_lt_of_cell? w _ hx8)).trans hx8
   replace hx9 := (HB.out.cell (World.block_lt_of_cell? w _ hx9)).trans hx9
   replace hx10 := (HB.out.cell (World.block_lt_of_cell? w _ hx10)).trans hx10
   replace hx11 := (HB.out.cell (World.block_lt_of_cell? w _ hx11)).trans hx11
   replace hx12 := (HB.out.cell (World.block_lt_of_cell? w _ hx12)).trans hx12
   have HX : Aside0 (rd_T65 l (kk : Int) = l[kk]) := ⟨by simp [rd_T65, List.getD_eq_getElem?_getD, List.getElem?_eq_getElem hlt]⟩
   generalize rd_T65 l (kk : Int) = x at hx0 hx1 hx2 hx3 hx4 hx5 hx6 hx7 hx8 hx9 hx10 hx11 hx12 HX
   have hcall := isBad_any x wr
   rw [Int.toNat_natCast] at hx0 hx1 hx2 hx3 hx4 hx5 hx6 hx7 hx8 hx9 hx10 hx11 hx12
   cases hq : badE x with
   | true =>
    rw [hq] at hcall
    go_wp2_with (go_at_call 92; refine hcall.mono ?_; rintro e w' ⟨rfl, hb'⟩)
    go_ret
    refine ⟨?_, below_then HB.out HB.out.size hb'⟩
    rw [idxOf_hit badE l kk hlt (by rw [← HX.out]; exact hq) (fun j h => HA.out j (by omega) h)]; rfl
   | false =>
    rw [hq] at hcall
    go_wp2_with (go_at_call 92; refine hcall.mono ?_; rintro e w' ⟨rfl, hb'⟩)
    go_roundg (l.length - (kk + 1))
    case measure => omega
    case rel =>
     refine ⟨kk + 1, by omega, by omega, by go_num, ⟨below_then HB.out HB.out.size hb'⟩, ⟨fun j h hj => ?_⟩⟩
     by_cases e : j = kk
     ·subst e
      rw [← HX.out]; exact hq
     ·exact HA.out j h (by omega)
  ·have hltz : ¬ (kk : Int) < (l.length : Int) := by omega
   go_wp2
   go_ret
   refine ⟨?_, HB.out⟩
   rw [idxOf_miss badE l (fun j h => HA.out j h (by omega))]; rfl
def slices_ContainsBad.f (l : List S65) : Option Bool := some (l.any badE)
set_option maxHeartbeats 2000000 in
theorem slices_ContainsBad.calls (A : Option Addr) (c : Nat) (l : List S65) (r : Bool) (w : World) (hr : Kd.C k65 w A l.length l) (hc : l.length ≤ c) (h : slices_ContainsBad.f l = some r) :
  Calls Try.prog 95 #[.slice A l.length c, .func (.func 92) #[] #[]] w fun e w' => e = .returned (.bool r) ∧ Below w.heap.size w w' := by
 obtain rfl := Option.some.inj h
 have hcall := index_bad A c l w hr hc
 have H := idxOf_nonneg badE l
 generalize idxOf badE l = i at hcall H
 clear hr hc h
 cases hq : l.any badE with
 | true =>
  have h0 : 0 ≤ i := H.mpr hq
  clear H
  go_enter Try.func95, Try.ntmps95
  go_wp2_with (go_at_call 121; refine hcall.mono ?_; rintro e w' ⟨rfl, hb'⟩)
  go_ret
  exact ⟨by simp [h0], hb'⟩
 | false =>
  have h0 : ¬ 0 ≤ i := fun h => by rw [H.mp h] at hq; cases hq
  clear H
  go_enter Try.func95, Try.ntmps95
  go_wp2_with (go_at_call 121; refine hcall.mono ?_; rintro e w' ⟨rfl, hb'⟩)
  go_ret
  exact ⟨by simp [h0], hb'⟩
end Go.Proofs.Ytfjmnaobfbmllaa.M
namespace Go.Proofs.Ytfjmnaobfbmllaa.M
open Go.RowKit Go.Proofs.YtfjmnaobfbmllaaW.PrintWords Go.Proofs.YtfjmnaobfbmllaaW.PrintLast Go.Proofs.YtfjmnaobfbmllaaW.PrintMore
set_option linter.unusedVariables false
set_option linter.unusedSimpArgs false
def fieldPs (g : Nat) : Array Value := #[.pointer (some ⟨g, 0, none⟩), .pointer (some ⟨g, 1, none⟩), .pointer (some ⟨g, 2, none⟩), .pointer (some ⟨g, 3, none⟩), .pointer (some ⟨g, 4, none⟩), .pointer (some ⟨g, 5, none⟩), .pointer (some ⟨g, 6, none⟩), .pointer (some ⟨g, 7, none⟩), .pointer (some ⟨g, 12, none⟩)]
set_option maxHeartbeats 8000000 in
set_option maxRecDepth 100000 in
theorem entry_fields.calls (g : Nat) (k : Int) (r : Array Value) (w : World) (hb : w.heap[g]? = some (.cells r 65 (0, 0))) (h0 : w.cell? ⟨g, 0, none⟩ = some (.int .i64 k)) :
  Calls Try.prog 97 #[.pointer (some ⟨g, 0, none⟩)] w fun e w' => ∃ h : Nat, e = .returned (.slice (some ⟨h, 0, none⟩) (if k = 1 ∨ k = 2 then 9 else 6) 9) ∧ w'.heap[h]? = some (.cells (fieldPs g) 119 (0, 0)) ∧ w.heap.size ≤ h ∧ Below w.heap.size w w' := by
 have hu65 := Try.underlying65
 have hu52 := Try.underlying52
 have hu116 := Try.underlying116
 have HBK := Aside0.mk hb
 have HC0 := Aside0.mk h0
 have HB := Aside0.mk (Below.refl w.heap.size w)
 clear hb h0
 go_enter Try.func97, Try.ntmps97
 go_wp2
 refine start_ (n := 32) (S := fun _ => True) (ds := []) #[false, false, false, false, false, false, false, false, false, false, false, false, false, false, false, false, false, false, false, false, false, false, false, false, false, false, false, false, false, false, false, false] (by kernel_rfl) rfl rfl trivial (fun hHeld => ?_)
 have n0_ := Aside0.mk (blk_drew HBK.out)
 have n1_ := Aside0.mk (below_drew1 HB.out)
 have n2_ : Aside0 (w.drew.cell? ⟨g, 0, none⟩ = some (.int .i64 k)) := ⟨HC0.out⟩
 clear HBK HB HC0
 have HBK := n0_
 have HB := n1_
 have HC0 := n2_
 clear n0_ n1_ n2_
 generalize w.drew = w1 at HBK HB HC0 hHeld ⊢
 refine pure_ (i := 0) (N := some 4) (v := ?_) (a' := ?_) #[true, false, false, false, false, false, false, false, false, false, false, false, false, false, false, false, false, false, false, false, false, false, false, false, false, false, false, false, false, false, false, false] rfl rfl (by kernel_rfl) (fun _ _ _ h => h) (Or.inl ⟨by rfl, ?_⟩) ?_ ?_
 rotate_left
 ·intro w'
  go_simp
  with_reducible rfl
 rotate_left
 ·simp only [Act.put, List.setIfInBounds_toArray, List.set_cons_zero, List.set_cons_succ]
  rfl
 refine pure_ (i := 1) (N := some 5) (v := ?_) (a' := ?_) #[true, true, false, false, false, false, false, false, false, false, false, false, false, false, false, false, false, false, false, false, false, false, false, false, false, false, false, false, false, false, false, false] rfl rfl (by kernel_rfl) (fun _ _ _ h => h) (Or.inl ⟨by rfl, ?_⟩) ?_ ?_
 rotate_left
 ·intro w'
  go_simp
  with_reducible rfl
 rotate_left
 ·simp only [Act.put, List.setIfInBounds_toArray, List.set_cons_zero, List.set_cons_succ]
  rfl
 refine pure_ (i := 2) (N := some 6) (v := ?_) (a' := ?_) #[true, true, true, false, false, false, false, false, false, false, false, false, false, false, false, false, false, false, false, false, false, false, false, false, false, false, false, false, false, false, false, false] rfl rfl (by kernel_rfl) (fun _ _ _ h => h) (Or.inl ⟨by rfl, ?_⟩) ?_ ?_
 rotate_left
 ·intro w'
  go_simp
  with_reducible rfl
 rotate_left
 ·simp only [Act.put, List.setIfInBounds_toArray, List.set_cons_zero, List.set_cons_succ]
  rfl
 refine pure_ (i := 3) (N := some 7) (v := ?_) (a' := ?_) #[true, true, true, true, false, false, false, false, false, false, false, false, false, false, false, false, false, false, false, false, false, false, false, false, false, false, false, false, false, false, false, false] rfl rfl (by kernel_rfl) (fun _ _ _ h => h) (Or.inl ⟨by rfl, ?_⟩) ?_ ?_
 rotate_left
 ·intro w'
  go_simp
  with_reducible rfl
 rotate_left
 ·simp only [Act.put, List.setIfInBounds_toArray, List.set_cons_zero, List.set_cons_succ]
  rfl
 refine pure_ (i := 4) (N := some 8) (v := ?_) (a' := ?_) #[true, true, true, true, true, false, false, false, false, false, false, false, false, false, false, false, false, false, false, false, false, false, false, false, false, false, false, false, false, false, false, false] rfl rfl (by kernel_rfl) (fun _ _ _ h => h) (Or.inl ⟨by rfl, ?_⟩) ?_ ?_
 rotate_left
 ·intro w'
  go_simp
  with_reducible rfl
 rotate_left
 ·simp only [Act.put, List.setIfInBounds_toArray, List.set_cons_zero, List.set_cons_succ]
  rfl
 refine pure_ (i := 5) (N := some 9) (v := ?_) (a' := ?_) #[true, true, true, true, true, true, false, false, false, false, false, false, false, false, false, false, false, false, false, false, false, false, false, false, false, false, false, false, false, false, false, false] rfl rfl (by kernel_rfl) (fun _ _ _ h => h) (Or.inl ⟨by rfl, ?_⟩) ?_ ?_
 rotate_left
 ·intro w'
  go_simp
  with_reducible rfl
 rotate_left
 ·simp only [Act.put, List.setIfInBounds_toArray, List.set_cons_zero, List.set_cons_succ]
  rfl
 refine pure_ (i := 6) (N := some 10) (v := ?_) (a' := ?_) #[true, true, true, true, true, true, true, false, false, false, false, false, false, false, false, false, false, false, false, false, false, false, false, false, false, false, false, false, false, false, false, false] rfl rfl (by kernel_rfl) (fun _ _ _ h => h) (Or.inl ⟨by rfl, ?_⟩) ?_ ?_
 rotate_left
 ·intro w'
  go_simp
  with_reducible rfl
 rotate_left
 ·simp only [Act.put, List.setIfInBounds_toArray, List.set_cons_zero, List.set_cons_succ]
  rfl
 refine pure_ (i := 7) (N := some 11) (v := ?_) (a' := ?_) #[true, true, true, true, true, true, true, true, false, false, false, false, false, false, false, false, false, false, false, false, false, false, false, false, false, false, false, false, false, false, false, false] rfl rfl (by kernel_rfl) (fun _ _ _ h => h) (Or.inl ⟨by rfl, ?_⟩) ?_ ?_
 rotate_left
 ·intro w'
  go_simp
  with_reducible rfl
 rotate_left
 ·simp only [Act.put, List.setIfInBounds_toArray, List.set_cons_zero, List.set_cons_succ]
  rfl
 refine pure_ (i := 8) (N := some 12) (v := ?_) (a' := ?_) #[true, true, true, true, true, true, true, true, true, false, false, false, false, false, false, false, false, false, false, false, false, false, false, false, false, false, false, false, false, false, false, false] rfl rfl (by kernel_rfl) (fun _ _ _ h => h) (Or.inl ⟨by rfl, ?_⟩) ?_ ?_
 rotate_left
 ·intro w'
  go_simp
  with_reducible rfl
 rotate_left
 ·simp only [Act.put, List.setIfInBounds_toArray, List.set_cons_zero, List.set_cons_succ]
  rfl
 refine pure_ (i := 9) (N := some 13) (v := ?_) (a' := ?_) #[true, true, true, true, true, true, true, true, true, true, false, false, false, false, false, false, false, false, false, false, false, false, false, false, false, false, false, false, false, false, false, false] rfl rfl (by kernel_rfl) (fun _ _ _ h => h) (Or.inl ⟨by rfl, ?_⟩) ?_ ?_
 rotate_left
 ·intro w'
  go_simp
  with_reducible rfl
 rotate_left
 ·simp only [Act.put, List.setIfInBounds_toArray, List.set_cons_zero, List.set_cons_succ]
  rfl
 refine pure_ (i := 10) (N := some 14) (v := ?_) (a' := ?_) #[true, true, true, true, true, true, true, true, true, true, true, false, false, false, false, false, false, false, false, false, false, false, false, false, false, false, false, false, false, false, false, false] rfl rfl (by kernel_rfl) (fun _ _ _ h => h) (Or.inl ⟨by rfl, ?_⟩) ?_ ?_
 rotate_left
 ·intro w'
  go_simp
  with_reducible rfl
 rotate_left
 ·simp only [Act.put, List.setIfInBounds_toArray, List.set_cons_zero, List.set_cons_succ]
  rfl
 refine pure_ (i := 11) (N := some 15) (v := ?_) (a' := ?_) #[true, true, true, true, true, true, true, true, true, true, true, true, false, false, false, false, false, false, false, false, false, false, false, false, false, false, false, false, false, false, false, false] rfl rfl (by kernel_rfl) (fun _ _ _ h => h) (Or.inl ⟨by rfl, ?_⟩) ?_ ?_
 rotate_left
 ·intro w'
  go_simp
  with_reducible rfl
 rotate_left
 ·simp only [Act.put, List.setIfInBounds_toArray, List.set_cons_zero, List.set_cons_succ]
  rfl
 refine pure_ (i := 12) (N := some 16) (v := ?_) (a' := ?_) #[true, true, true, true, true, true, true, true, true, true, true, true, true, false, false, false, false, false, false, false, false, false, false, false, false, false, false, false, false, false, false, false] rfl rfl (by kernel_rfl) (fun _ _ _ h => h) (Or.inl ⟨by rfl, ?_⟩) ?_ ?_
 rotate_left
 ·intro w'
  go_simp
  with_reducible rfl
 rotate_left
 ·simp only [Act.put, List.setIfInBounds_toArray, List.set_cons_zero, List.set_cons_succ]
  rfl
 refine pure_ (i := 13) (N := some 17) (v := ?_) (a' := ?_) #[true, true, true, true, true, true, true, true, true, true, true, true, true, true, false, false, false, false, false, false, false, false, false, false, false, false, false, false, false, false, false, false] rfl rfl (by kernel_rfl) (fun _ _ _ h => h) (Or.inl ⟨by rfl, ?_⟩) ?_ ?_
 rotate_left
 ·intro w'
  go_simp
  with_reducible rfl
 rotate_left
 ·simp only [Act.put, List.setIfInBounds_toArray, List.set_cons_zero, List.set_cons_succ]
  rfl
 refine pure_ (i := 14) (N := some 18) (v := ?_) (a' := ?_) #[true, true, true, true, true, true, true, true, true, true, true, true, true, true, true, false, false, false, false, false, false, false, false, false, false, false, false, false, false, false, false, false] rfl rfl (by kernel_rfl) (fun _ _ _ h => h) (Or.inl ⟨by rfl, ?_⟩) ?_ ?_
 rotate_left
 ·intro w'
  go_simp
  with_reducible rfl
 rotate_left
 ·simp only [Act.put, List.setIfInBounds_toArray, List.set_cons_zero, List.set_cons_succ]
  rfl
 refine pure_ (i := 15) (N := some 19) (v := ?_) (a' := ?_) #[true, true, true, true, true, true, true, true, true, true, true, true, true, true, true, true, false, false, false, false, false, false, false, false, false, false, false, false, false, false, false, false] rfl rfl (by kernel_rfl) (fun _ _ _ h => h) (Or.inl ⟨by rfl, ?_⟩) ?_ ?_
 rotate_left
 ·intro w'
  go_simp
  with_reducible rfl
 rotate_left
 ·simp only [Act.put, List.setIfInBounds_toArray, List.set_cons_zero, List.set_cons_succ]
  rfl
 refine pure_ (i := 16) (N := some 20) (v := ?_) (a' := ?_) #[true, true, true, true, true, true, true, true, true, true, true, true, true, true, true, true, true, false, false, false, false, false, false, false, false, false, false, false, false, false, false, false] rfl rfl (by kernel_rfl) (fun _ _ _ h => h) (Or.inl ⟨by rfl, ?_⟩) ?_ ?_
 rotate_left
 ·intro w'
  go_simp
  with_reducible rfl
 rotate_left
 ·simp only [Act.put, List.setIfInBounds_toArray, List.set_cons_zero, List.set_cons_succ]
  rfl
 refine pure_ (i := 17) (N := some 21) (v := ?_) (a' := ?_) #[true, true, true, true, true, true, true, true, true, true, true, true, true, true, true, true, true, true, false, false, false, false, false, false, false, false, false, false, false, false, false, false] rfl rfl (by kernel_rfl) (fun _ _ _ h => h) (Or.inl ⟨by rfl, ?_⟩) ?_ ?_
 rotate_left
 ·intro w'
  go_simp
  with_reducible rfl
 rotate_left
 ·simp only [Act.put, List.setIfInBounds_toArray, List.set_cons_zero, List.set_cons_succ]
  rfl
 refine pure_ (i := 18) (N := some 22) (v := ?_) (a' := ?_) #[true, true, true, true, true, true, true, true, true, true, true, true, true, true, true, true, true, true, true, false, false, false, false, false, false, false, false, false, false, false, false, false] rfl rfl (by kernel_rfl) (fun _ _ _ h => h) (Or.inl ⟨by rfl, ?_⟩) ?_ ?_
 rotate_left
 ·intro w'
  go_simp
  with_reducible rfl
 rotate_left
 ·simp only [Act.put, List.setIfInBounds_toArray, List.set_cons_zero, List.set_cons_succ]
  rfl
 refine pure_ (i := 19) (N := some 23) (v := ?_) (a' := ?_) #[true, true, true, true, true, true, true, true, true, true, true, true, true, true, true, true, true, true, true, true, false, false, false, false, false, false, false, false, false, false, false, false] rfl rfl (by kernel_rfl) (fun _ _ _ h => h) (Or.inl ⟨by rfl, ?_⟩) ?_ ?_
 rotate_left
 ·intro w'
  go_simp
  with_reducible rfl
 rotate_left
 ·simp only [Act.put, List.setIfInBounds_toArray, List.set_cons_zero, List.set_cons_succ]
  rfl
 refine pure_ (i := 20) (N := some 24) (v := ?_) (a' := ?_) #[true, true, true, true, true, true, true, true, true, true, true, true, true, true, true, true, true, true, true, true, true, false, false, false, false, false, false, false, false, false, false, false] rfl rfl (by kernel_rfl) (fun _ _ _ h => h) (Or.inl ⟨by rfl, ?_⟩) ?_ ?_
 rotate_left
 ·intro w'
  go_simp
  with_reducible rfl
 rotate_left
 ·simp only [Act.put, List.setIfInBounds_toArray, List.set_cons_zero, List.set_cons_succ]
  rfl
 refine pure_ (i := 21) (N := some 25) (v := ?_) (a' := ?_) #[true, true, true, true, true, true, true, true, true, true, true, true, true, true, true, true, true, true, true, true, true, true, false, false, false, false, false, false, false, false, false, false] rfl rfl (by kernel_rfl) (fun _ _ _ h => h) (Or.inl ⟨by rfl, ?_⟩) ?_ ?_
 rotate_left
 ·intro w'
  go_simp
  with_reducible rfl
 rotate_left
 ·simp only [Act.put, List.setIfInBounds_toArray, List.set_cons_zero, List.set_cons_succ]
  rfl
 refine pure_ (i := 22) (N := some 26) (v := ?_) (a' := ?_) #[true, true, true, true, true, true, true, true, true, true, true, true, true, true, true, true, true, true, true, true, true, true, true, false, false, false, false, false, false, false, false, false] rfl rfl (by kernel_rfl) (fun _ _ _ h => h) (Or.inl ⟨by rfl, ?_⟩) ?_ ?_
 rotate_left
 ·intro w'
  go_simp
  with_reducible rfl
 rotate_left
 ·simp only [Act.put, List.setIfInBounds_toArray, List.set_cons_zero, List.set_cons_succ]
  rfl
 refine pure_ (i := 23) (N := some 27) (v := ?_) (a' := ?_) #[true, true, true, true, true, true, true, true, true, true, true, true, true, true, true, true, true, true, true, true, true, true, true, true, false, false, false, false, false, false, false, false] rfl rfl (by kernel_rfl) (fun _ _ _ h => h) (Or.inl ⟨by rfl, ?_⟩) ?_ ?_
 rotate_left
 ·intro w'
  go_simp
  with_reducible rfl
 rotate_left
 ·simp only [Act.put, List.setIfInBounds_toArray, List.set_cons_zero, List.set_cons_succ]
  rfl
 refine pure_ (i := 24) (N := some 28) (v := ?_) (a' := ?_) #[true, true, true, true, true, true, true, true, true, true, true, true, true, true, true, true, true, true, true, true, true, true, true, true, true, false, false, false, false, false, false, false] rfl rfl (by kernel_rfl) (fun _ _ _ h => h) (Or.inl ⟨by rfl, ?_⟩) ?_ ?_
 rotate_left
 ·intro w'
  go_simp
  with_reducible rfl
 rotate_left
 ·simp only [Act.put, List.setIfInBounds_toArray, List.set_cons_zero, List.set_cons_succ]
  rfl
 refine pure_ (i := 25) (N := some 29) (v := ?_) (a' := ?_) #[true, true, true, true, true, true, true, true, true, true, true, true, true, true, true, true, true, true, true, true, true, true, true, true, true, true, false, false, false, false, false, false] rfl rfl (by kernel_rfl) (fun _ _ _ h => h) (Or.inl ⟨by rfl, ?_⟩) ?_ ?_
 rotate_left
 ·intro w'
  go_simp
  with_reducible rfl
 rotate_left
 ·simp only [Act.put, List.setIfInBounds_toArray, List.set_cons_zero, List.set_cons_succ]
  rfl
 refine pure_ (i := 26) (N := some 30) (v := ?_) (a' := ?_) #[true, true, true, true, true, true, true, true, true, true, true, true, true, true, true, true, true, true, true, true, true, true, true, true, true, true, true, false, false, false, false, false] rfl rfl (by kernel_rfl) (fun _ _ _ h => h) (Or.inl ⟨by rfl, ?_⟩) ?_ ?_
 rotate_left
 ·intro w'
  go_simp
  with_reducible rfl
 rotate_left
 ·simp only [Act.put, List.setIfInBounds_toArray, List.set_cons_zero, List.set_cons_succ]
  rfl
 refine pure_ (i := 27) (N := some 31) (v := ?_) (a' := ?_) #[true, true, true, true, true, true, true, true, true, true, true, true, true, true, true, true, true, true, true, true, true, true, true, true, true, true, true, true, false, false, false, false] rfl rfl (by kernel_rfl) (fun _ _ _ h => h) (Or.inl ⟨by rfl, ?_⟩) ?_ ?_
 rotate_left
 ·intro w'
  go_simp
  with_reducible rfl
 rotate_left
 ·simp only [Act.put, List.setIfInBounds_toArray, List.set_cons_zero, List.set_cons_succ]
  rfl
 refine pure_ (i := 28) (N := some 32) (v := ?_) (a' := ?_) #[true, true, true, true, true, true, true, true, true, true, true, true, true, true, true, true, true, true, true, true, true, true, true, true, true, true, true, true, true, false, false, false] rfl rfl (by kernel_rfl) (fun _ _ _ h => h) (Or.inl ⟨by rfl, ?_⟩) ?_ ?_
 rotate_left
 ·intro w'
  go_simp
  with_reducible rfl
 rotate_left
 ·simp only [Act.put, List.setIfInBounds_toArray, List.set_cons_zero, List.set_cons_succ]
  rfl
 refine pure_ (i := 29) (N := some 33) (v := ?_) (a' := ?_) #[true, true, true, true, true, true, true, true, true, true, true, true, true, true, true, true, true, true, true, true, true, true, true, true, true, true, true, true, true, true, false, false] rfl rfl (by kernel_rfl) (fun _ _ _ h => h) (Or.inl ⟨by rfl, ?_⟩) ?_ ?_
 rotate_left
 ·intro w'
  go_simp
  with_reducible rfl
 rotate_left
 ·simp only [Act.put, List.setIfInBounds_toArray, List.set_cons_zero, List.set_cons_succ]
  rfl
 refine one_ (i := 30) (N := some 34) #[true, true, true, true, true, true, true, true, true, true, true, true, true, true, true, true, true, true, true, true, true, true, true, true, true, true, true, true, true, true, true, false] rfl rfl (by kernel_rfl) (by decide) (fun K hK => ?_)
 refine value_ (w1 := ?_) (v := ?_) (by rfl) rfl ?_ ?_
 rotate_left 2
 ·go_simp
  constructor
  ·rfl
  ·rfl
 refine hK.out _ _ trivial (fun hHeld2 => ?_)
 clear hK K
 refine norm_ (a' := ?_) ?_ ?_
 rotate_left
 ·show Act.put _ (some 34) _ = _
  simp only [Act.put, List.setIfInBounds_toArray, List.set_cons_zero, List.set_cons_succ]
  rfl
 have n0_ := Aside0.mk (blk_alloc HBK.out (.cells (fieldPs g) 119))
 have n1_ := Aside0.mk (below_alloc HB.out (.cells (fieldPs g) 119))
 have n3_ : Aside0 ((w1.alloc (.cells (fieldPs g) 119)).heap[w1.heap.size]? = some (.cells (fieldPs g) 119 (0, 0))) := ⟨blk_new w1 _⟩
 have n2_ := Aside0.mk (HB.out.size : w.heap.size ≤ w1.heap.size)
 have n4_ : Aside0 ((w1.alloc (.cells (fieldPs g) 119)).cell? ⟨g, 0, none⟩ = some (.int .i64 k)) := ⟨by rw [World.cell?_alloc_lt _ _ _ (blk_lt HBK.out)]; exact HC0.out⟩
 refine pure_ (i := 31) (N := some 3) (v := ?_) (a' := ?_) #[true, true, true, true, true, true, true, true, true, true, true, true, true, true, true, true, true, true, true, true, true, true, true, true, true, true, true, true, true, true, true, true] rfl rfl (by kernel_rfl) (fun _ _ _ h => h) (Or.inl ⟨by rfl, ?_⟩) ?_ ?_
 rotate_left
 ·intro w'
  go_simp
  with_reducible rfl
 rotate_left
 ·simp only [Act.put, List.setIfInBounds_toArray, List.set_cons_zero, List.set_cons_succ]
  rfl
 refine done_ (by kernel_rfl) ?_
 have e_ : w1.alloc (.cells #[.pointer (some ⟨g, 0, none⟩), .pointer (some ⟨g, 1, none⟩), .pointer (some ⟨g, 2, none⟩), .pointer (some ⟨g, 3, none⟩), .pointer (some ⟨g, 4, none⟩), .pointer (some ⟨g, 5, none⟩), .pointer (some ⟨g, 6, none⟩), .pointer (some ⟨g, 7, none⟩), .pointer (some ⟨g, 12, none⟩)] 119) = w1.alloc (.cells (fieldPs g) 119) := rfl
 first | rw [e_] | skip
 clear HBK HB HC0 e_ hHeld hHeld2
 generalize w1.alloc (.cells (fieldPs g) 119) = w2 at n0_ n1_ n3_ n4_ ⊢
 generalize w1.heap.size = h at n2_ n3_ ⊢
 have hc0 := n4_.out
 by_cases k1 : k = 1
 ·subst k1
  go_wp2
  go_ret
  exact ⟨h, rfl, n3_.out, n2_.out, n1_.out⟩
 ·by_cases k2 : k = 2
  ·subst k2
   go_wp2
   go_ret
   exact ⟨h, rfl, n3_.out, n2_.out, n1_.out⟩
  ·have q1 : (k == 1) = false := beq_eq_false_iff_ne.mpr k1
   have q2 : (k == 2) = false := beq_eq_false_iff_ne.mpr k2
   have q3 : (k != 1) = true := bne_iff_ne.mpr k1
   have q4 : (k != 2) = true := bne_iff_ne.mpr k2
   go_wp2
   go_ret
   exact ⟨_, rfl, n3_.out, n2_.out, n1_.out⟩
end Go.Proofs.Ytfjmnaobfbmllaa.M
namespace Go.Proofs.Ytfjmnaobfbmllaa.M
open Go.RowKit Go.Proofs.YtfjmnaobfbmllaaW.PrintWords Go.Proofs.YtfjmnaobfbmllaaW.PrintLast Go.Proofs.YtfjmnaobfbmllaaW.PrintMore
set_option linter.unusedVariables false
set_option linter.unusedSimpArgs false
def getN (bs : List Int) : Int := bs.foldl (fun n b => n * 256 + b) 0
theorem getN_snoc (bs : List Int) (b : Int) : getN (bs ++ [b]) = getN bs * 256 + b := by simp [getN]
theorem getN_take (bs : List Int) (h : ∀ b ∈ bs, 0 ≤ b ∧ b ≤ 255) (i : Nat) (hi : i ≤ bs.length) : 0 ≤ getN (bs.take i) ∧ getN (bs.take i) < 256 ^ i := by
 induction i with
 | zero => simp [getN]
 | succ i ih =>
  have hlt : i < bs.length := by omega
  rw [List.take_succ_eq_append_getElem hlt, getN_snoc]
  have h1 := ih (by omega)
  have h2 := h bs[i] (List.getElem_mem hlt)
  rw [Int.pow_succ]
  omega
theorem bytesOf_range (s : ByteArray) : ∀ b ∈ bytesOf s, 0 ≤ b ∧ b ≤ 255 := by
 intro b hb
 simp only [bytesOf, List.mem_map] at hb
 obtain ⟨x, _, rfl⟩ := hb
 have := x.toNat_lt
 omega
theorem or_low (n b : Nat) (hb : b < 256) : (n * 256) ||| b = n * 256 + b := by
 have := Nat.two_pow_add_eq_or_of_lt (i := 8) (b := b) hb n
 rw [show n * 256 = 2 ^ 8 * n by omega]
 exact this.symm
theorem or_u64 (n b : Int) (h0 : 0 ≤ n) (h1 : n < 72057594037927936) (h2 : 0 ≤ b) (h3 : b ≤ 255) : Go.bits .or .u64 (n * 256) b = n * 256 + b := by
 rw [u64_or _ _ (by omega) (by omega) (by omega) (by omega)]
 obtain ⟨m, rfl⟩ := Int.eq_ofNat_of_zero_le h0
 obtain ⟨c, rfl⟩ := Int.eq_ofNat_of_zero_le h2
 have := or_low m c (by omega)
 rw [show ((m : Int) * 256).toNat = m * 256 by omega, Int.toNat_natCast, this]
 omega
def high_Get.f (s : ByteArray) : Option Int := if s.size ≤ 8 then some (getN (bytesOf s)) else none
set_option maxHeartbeats 2000000 in
theorem high_Get.small (s : ByteArray) (w : World) (hs : s.size ≤ 8) :
  Calls Try.prog 86 #[.string s] w fun e w' => e = .returned (.int .u64 (getN (bytesOf s))) ∧ Below w.heap.size w w' := by
 have kb := fun (W : World) => print_bytes (P := Try.prog) 9 36 5 Try.underlying9 Try.underlying36 Try.underlying5 s W
 have hrd := bytes_reads w 5 s (by omega)
 have hbl := bytes_below (Below.refl w.heap.size w) (Nat.le_refl _) 5 s
 have hlen := bytesOf_length s
 have HRD := Aside0.mk hrd
 have HBL := Aside0.mk hbl
 have HLN := Aside0.mk hlen
 clear hrd hbl hlen
 go_enter Try.func86, Try.ntmps86
 go_wp2
 generalize Lib.bytesWorld w 5 s = w1 at HRD HBL ⊢
 clear kb
 go_loopg [3, 9] s.size (fun gg v3 v9 wr => ∃ k : Nat, k ≤ s.size ∧ s.size - k ≤ gg ∧ v9 = .int .i64 k ∧ v3 = .int .u64 (getN ((bytesOf s).take k)) ∧ Aside0 (wr = w1))
 case atStart => exact ⟨0, Nat.zero_le _, by omega, rfl, rfl, ⟨rfl⟩⟩
 case round =>
  obtain ⟨k, hk, hg, rfl, rfl, HW⟩ := hrel
  obtain rfl := HW.out
  by_cases hlt : k < s.size
  ·have q0 : (k : Int) < (s.size : Int) := by omega
   obtain ⟨ad, e0, hx0⟩ := HRD.out.at_ (k : Int) (by omega) q0
   cases e0
   rw [Int.toNat_natCast, add_plain] at hx0
   have hkl : k < (bytesOf s).length := by rw [HLN.out]; exact hlt
   have hrdk : rd (bytesOf s) (k : Int) = (bytesOf s)[k] := by simp [rd, List.getD_eq_getElem?_getD, List.getElem?_eq_getElem hkl]
   rw [hrdk] at hx0
   have hr1 := bytesOf_range s _ (List.getElem_mem hkl)
   have hn1 := getN_take (bytesOf s) (bytesOf_range s) k (by omega)
   have hpow : (256 : Int) ^ k ≤ 72057594037927936 := by
    have : k ≤ 7 := by omega
    have h8 : 256 ^ k ≤ 256 ^ 7 := Nat.pow_le_pow_right (by omega) this
    have e7 : (256 : Nat) ^ 7 = 72057594037927936 := by decide
    have e : (256 : Int) ^ k = ((256 ^ k : Nat) : Int) := by simp
    rw [e]
    omega
   have hn2 : getN ((bytesOf s).take k) < 72057594037927936 := by omega
   have hn0 := hn1.1
   clear hpow hn1
   have hor := or_u64 (getN ((bytesOf s).take k)) ((bytesOf s)[k]) hn0 hn2 hr1.1 hr1.2
   have HSN : Aside0 (getN ((bytesOf s).take (k + 1)) = getN ((bytesOf s).take k) * 256 + (bytesOf s)[k]) := ⟨by rw [List.take_succ_eq_append_getElem hkl, getN_snoc]⟩
   have hr10 := hr1.1
   have hr11 := hr1.2
   clear hr1 hrdk
   generalize (bytesOf s)[k] = b at hx0 hor HSN hr10 hr11
   generalize getN ((bytesOf s).take k) = n at hor HSN hn0 hn2 ⊢
   go_wp2
   go_roundg (s.size - (k + 1))
   case measure => omega
   case rel => exact ⟨k + 1, by omega, by omega, by go_num, by rw [HSN.out], ⟨rfl⟩⟩
  ·have hltz : ¬ (k : Int) < (s.size : Int) := by omega
   have HT : Aside0 (getN ((bytesOf s).take k) = getN (bytesOf s)) := ⟨by rw [List.take_of_length_le (by rw [HLN.out]; omega)]⟩
   go_wp2
   go_ret
   exact ⟨by rw [← HT.out]; rfl, HBL.out⟩
theorem high_Get.calls (s : ByteArray) (r : Int) (w : World) (h : high_Get.f s = some r) :
  Calls Try.prog 86 #[.string s] w fun e w' => e = .returned (.int .u64 r) ∧ Below w.heap.size w w' := by
 unfold high_Get.f at h
 split at h
 ·rename_i hs
  obtain rfl := Option.some.inj h
  exact high_Get.small s w hs
 ·cases h
end Go.Proofs.Ytfjmnaobfbmllaa.M
namespace Go.Proofs.Ytfjmnaobfbmllaa.M
open Go.RowKit Go.Proofs.YtfjmnaobfbmllaaW.PrintWords Go.Proofs.YtfjmnaobfbmllaaW.PrintLast Go.Proofs.YtfjmnaobfbmllaaW.PrintMore
set_option linter.unusedVariables false
set_option linter.unusedSimpArgs false
theorem bt_get (s : ByteArray) (i : Nat) (h : i < s.size) : bt s i = (bytesOf s)[i]'(by rw [bytesOf_length]; exact h) := by
  rw [← rd_bytesOf]
  unfold rd
  rw [Int.toNat_natCast, List.getD_eq_getElem?_getD, List.getElem?_eq_getElem (by rw [bytesOf_length]; exact h)]
  rfl
theorem str_bytes (s : ByteArray) : strOfNums (bytesOf s) = s := by
  cases s with
  | mk d =>
    unfold strOfNums bytesOf
    congr 1
    apply Array.toList_inj.mp
    simp only [List.map_map, List.toList_toArray]
    conv => rhs; rw [← List.map_id d.toList]
    apply List.map_congr_left
    intro x _
    simp
theorem bytes_inj {s t : ByteArray} (h : bytesOf s = bytesOf t) : s = t := by rw [← str_bytes s, h, str_bytes]
theorem bytes_extract (s : ByteArray) (i j : Nat) : bytesOf (s.extract i j) = ((bytesOf s).drop i).take (j - i) := by
  unfold bytesOf
  simp [ByteArray.data_extract, Array.toList_extract, List.map_drop, List.map_take, List.extract]
theorem bytes_drop (s : ByteArray) (i : Nat) : bytesOf (s.extract i s.size) = (bytesOf s).drop i := by
  rw [bytes_extract, List.take_of_length_le (by rw [List.length_drop, bytesOf_length]; omega)]
theorem bytes_nil : bytesOf ⟨#[]⟩ = [] := rfl
theorem drop_step (s : ByteArray) (i : Nat) (h : i < s.size) : (bytesOf s).drop i = bt s i :: (bytesOf s).drop (i + 1) := by
  rw [List.drop_eq_getElem_cons (by rw [bytesOf_length]; exact h), bt_get s i h]
end Go.Proofs.Ytfjmnaobfbmllaa.M
