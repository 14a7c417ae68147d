/- The law SlabMap: it returns true for every input, and its arguments read as they did. No condition. Part 1 of 2. -/
import Derived.Test.YtfjmnaobfbmllaaProg
import Derived.Test.YtfjmnaobfbmllaaRows
import Derived.Test.YtfjmnaobfbmllaaUApart
import Derived.Test.YtfjmnaobfbmllaaUEqStruct
import Derived.Test.YtfjmnaobfbmllaaUFoot
import Derived.Test.YtfjmnaobfbmllaaUGuard
import Derived.Test.YtfjmnaobfbmllaaUKept
import Derived.Test.YtfjmnaobfbmllaaULast
import Derived.Test.YtfjmnaobfbmllaaUMore
import Derived.Test.YtfjmnaobfbmllaaUN
import Derived.Test.YtfjmnaobfbmllaaURepsOne
import Derived.Test.YtfjmnaobfbmllaaUShare
import Derived.Test.YtfjmnaobfbmllaaUTab
import Derived.Test.YtfjmnaobfbmllaaUWords
import Derived.ArgAppend
import Derived.Below
import Derived.BigQuiet
import Derived.Carry
import Derived.ChangeArms
import Derived.ChangeMaps
import Derived.ChangeOld
import Derived.Deep.AppendLies
import Derived.Deep.CutBlock
import Derived.Deep.DeepCutAuto
import Derived.Deep.Draws
import Derived.Deep.LoopGhost
import Derived.Deep.OwnRows
import Derived.Deep.QuietTactic
import Derived.Deep.RegionHeld3
import Derived.Deep.Slices
import Derived.Deep.WholeRow
import Derived.KernelRfl
import Derived.Laws.BitsLemmas
import Derived.Laws.BytesArg
import Derived.Laws.CopyOwn
import Derived.Laws.CopyRow
import Derived.Laws.IdiomCopy
import Derived.Laws.MakeOwn
import Derived.Laws.OwnMore
import Derived.Laws.Rows
import Derived.Laws.Slices
import Derived.Lib.AppendStr
import Derived.Lib.ConvBytes
import Derived.Maps.AppendAt
import Derived.OpenShut
import Derived.OrdersHeld
import Derived.OwnWalk
import Derived.ProofKit
import Derived.RowKit
import Derived.RowKit3
import Derived.ShutString
import Derived.SizedLaws
import Derived.Tactics
import Derived.WalkKit
import Derived.WideLaws
namespace Go.Proofs.Ytfjmnaobfbmllaa.M
open Go.RowKit Go.Proofs.YtfjmnaobfbmllaaW.PrintWords Go.Proofs.YtfjmnaobfbmllaaW.PrintLast Go.Proofs.YtfjmnaobfbmllaaW.PrintMore
attribute [local go_sem] max2_int min2_int max_two min_two max_three min_three max_four min_four   -- for this text's walks alone
set_option linter.unusedVariables false
set_option linter.unusedSimpArgs false
def errW : Option Int → Value
  | none => .nilIface
  | some c => .iface 0 (.int .i64 c)
theorem errW_none : errW none = .nilIface := rfl
theorem errW_some (c : Int) : errW (some c) = .iface 0 (.int .i64 c) := rfl
theorem info5 : (Try.prog.info? 5).map (fun i => (i.zero, i.size, i.bytes)) = some (some (.int .u8 0), 1, 1) := by kernel_rfl
theorem info33 : (Try.prog.info? 33).map (fun i => (i.zero, i.size, i.bytes)) = some (some (.agg #[(.bool false), (.string ⟨#[]⟩)]), 2, 24) := by kernel_rfl
structure S33 where
  f0 : Bool
  f1 : ByteArray
def z33 : S33 := ⟨false, (⟨#[]⟩ : ByteArray)⟩
def k33 : Kd S33 := Kd.iso (Kd.pair Kd.bool Kd.string) (fun x : S33 => (x.f0, x.f1))
theorem k33_open {w : World} {x : S33} {cs : List Value} (h : k33.K w x cs) : cs = [.bool x.f0, .string x.f1] := by
  obtain ⟨_, _, rfl, rfl, rfl⟩ := h
  exact rfl
theorem k33_openM {w : World} {base : Nat} {ok : Nat → Prop} {x : S33} {cs : List Value} (h : k33.M w base ok x cs) : cs = [.bool x.f0, .string x.f1] := by
  obtain ⟨_, _, rfl, rfl, rfl⟩ := h
  exact rfl
theorem k33_mk (w : World) (x : S33)  : k33.K w x [.bool x.f0, .string x.f1] := ⟨[.bool x.f0], [.string x.f1], rfl, rfl, rfl⟩
theorem k33_mkM (w : World) (base : Nat) (ok : Nat → Prop) (x : S33)  : k33.M w base ok x [.bool x.f0, .string x.f1] := ⟨[.bool x.f0], [.string x.f1], rfl, rfl, rfl⟩
def rd_T33 (xs : List S33) (i : Int) : S33 := xs.getD i.toNat z33
theorem at_T33 {w : World} {A : Option Addr} {n : Nat} {xs : List S33} (h : Kd.C k33 w A n xs) (i : Int) (h0 : 0 ≤ i) (h1 : i < n) : ∃ ad , A = some ad ∧ w.cell? (ad.add (i.toNat * 2)) = some (.bool (rd_T33 xs i).f0) ∧ w.cell? ⟨(ad.add (i.toNat * 2)).block, (ad.add (i.toNat * 2)).off + 1, none⟩ = some (.string (rd_T33 xs i).f1) := by
  obtain ⟨ad, c, e, _, hK, hc0⟩ := Kd.C_get h z33 i h0 h1
  have hc : ∀ j u, c[j]? = some u → w.cell? (ad.add (i.toNat * 2 + j)) = some u := hc0
  obtain rfl := k33_open hK
  exact ⟨ad, e, hc 0 _ rfl, by rw [← add_field _ _ 1 (by omega)]; exact hc 1 _ rfl⟩
structure S47 where
  f0 : Int
  f1 : S33
def z47 : S47 := ⟨(0 : Int), z33⟩
def k47 : Kd S47 := Kd.iso (Kd.pair (Kd.int .i64) k33) (fun x : S47 => (x.f0, x.f1))
theorem k47_open {w : World} {x : S47} {cs : List Value} (h : k47.K w x cs) : cs = [.int .i64 x.f0, .bool x.f1.f0, .string x.f1.f1] := by
  obtain ⟨_, _, rfl, rfl, s1⟩ := h
  obtain rfl := k33_open s1
  exact rfl
theorem k47_mk (w : World) (x : S47)  : k47.K w x [.int .i64 x.f0, .bool x.f1.f0, .string x.f1.f1] := ⟨[.int .i64 x.f0], [.bool x.f1.f0, .string x.f1.f1], rfl, rfl, (k33_mk w x.f1 )⟩
def rd_T47 (xs : List S47) (i : Int) : S47 := xs.getD i.toNat z47
theorem at_T47 {w : World} {A : Option Addr} {n : Nat} {xs : List S47} (h : Kd.C k47 w A n xs) (i : Int) (h0 : 0 ≤ i) (h1 : i < n) : ∃ ad , A = some ad ∧ w.cell? (ad.add (i.toNat * 3)) = some (.int .i64 (rd_T47 xs i).f0) ∧ w.cell? ⟨(ad.add (i.toNat * 3)).block, (ad.add (i.toNat * 3)).off + 1, none⟩ = some (.bool (rd_T47 xs i).f1.f0) ∧ w.cell? ⟨(ad.add (i.toNat * 3)).block, (ad.add (i.toNat * 3)).off + 2, none⟩ = some (.string (rd_T47 xs i).f1.f1) := by
  obtain ⟨ad, c, e, _, hK, hc0⟩ := Kd.C_get h z47 i h0 h1
  have hc : ∀ j u, c[j]? = some u → w.cell? (ad.add (i.toNat * 3 + j)) = some u := hc0
  obtain rfl := k47_open hK
  exact ⟨ad, e, hc 0 _ rfl, by rw [← add_field _ _ 1 (by omega)]; exact hc 1 _ rfl, by rw [← add_field _ _ 2 (by omega)]; exact hc 2 _ rfl⟩
end Go.Proofs.Ytfjmnaobfbmllaa.M
namespace Go.Proofs.Ytfjmnaobfbmllaa.M
open Go.RowKit Go.Proofs.YtfjmnaobfbmllaaW.PrintWords Go.Proofs.YtfjmnaobfbmllaaW.PrintLast Go.Proofs.YtfjmnaobfbmllaaW.PrintMore
set_option linter.unusedVariables false
set_option linter.unusedSimpArgs false
theorem len2 {α : Type} {l : List α} (h : l.length = 2) : ∃ c0 c1, l = [c0, c1] := by
  match l, h with
  | [c0, c1], _ => exact ⟨c0, c1, rfl⟩
theorem len3 {α : Type} {l : List α} (h : l.length = 3) : ∃ c0 c1 c2, l = [c0, c1, c2] := by
  match l, h with
  | [c0, c1, c2], _ => exact ⟨c0, c1, c2, rfl⟩
section
variable {H : Type} {enc : TypeId × Value → H} {W : World} {spare : Nat → Bool} {held : Bool} {fuel : Nat} {cs : List Value} {z : DataW H × List MemPlace}
theorem piece {t : TypeId} {fs : Array Field} (ht : Try.prog.underlying t = some (.struct fs)) (h : DataW.trod enc Try.prog W 0 spare held fuel t cs = some z) :
    cs.length = Try.prog.cellsOf t ∧ ∀ (i : Nat) (u : TypeId) (off n : Nat), (fs[i]?).map (fun f => (f.type, f.offset)) = some (u, off) → Try.prog.cellsOf u = n →
      ∃ m y, DataW.trod enc Try.prog W 0 spare held m u ((cs.drop off).take n) = some y := by
  obtain ⟨xs, n, _, _, hl, hlen, hf⟩ := DataW.trod_struct ht h
  refine ⟨hl, fun i u off k hi hk => ?_⟩
  obtain ⟨f, hi2, he⟩ := Option.map_eq_some_iff.mp hi
  simp only [Prod.mk.injEq] at he
  obtain ⟨rfl, rfl⟩ := he
  have hlt : i < xs.length := by rw [hlen]; exact (Array.getElem?_eq_some_iff.mp hi2).1
  rw [← hk]
  exact ⟨n, xs[i], (hf i f hi2).trans (List.getElem?_eq_getElem hlt)⟩
theorem op_slice {α : Type} (d : Kd α) {t e : TypeId} (ht : Try.prog.underlying t = some (.slice e)) (hsz : Try.prog.cellsOf e = d.sz)
    (hE : ∀ (m : Nat) (cs : List Value) (y : DataW H × List MemPlace), DataW.trod enc Try.prog W 0 spare held m e cs = some y → ∃ x : α, d.K W x cs)
    (h : DataW.trod enc Try.prog W 0 spare held fuel t cs = some z) : ∃ (A : Option Addr) (c : Nat) (l : List α), cs = [.slice A l.length c] ∧ d.C W A l.length l ∧ l.length ≤ c := by
  rcases Go.Deep.open_slice ht h with ⟨rfl, _⟩ | ⟨a, len, cap, m, n, D, Pl, rfl, _, hl, hm, hmm, _, hel⟩
  · exact ⟨none, 0, [], rfl, ⟨rfl, by simp, fun hn => by simp at hn⟩, by simp⟩
  · have hlm : len ≤ m := by rw [hmm]; split <;> omega
    have hx : ∀ i : Fin len, ∃ x : α, ∃ cs' : List Value, d.K W x cs' ∧ ∀ j u, cs'[j]? = some u → W.cell? (a.add (i.val * d.sz + j)) = some u := by
      intro i
      obtain ⟨cs', hc, ht⟩ := hel i.val (by have := i.isLt; omega)
      obtain ⟨x, hx⟩ := hE _ _ _ ht
      refine ⟨x, cs', hx, fun j u hj => ?_⟩
      obtain ⟨_, hlen, hg⟩ := World.cells?_some hc
      have hjl : j < cs'.length := (List.getElem?_eq_some_iff.mp hj).1
      have := hg j (by omega)
      rw [Go.Deep.add_add, hsz, hj] at this
      exact this
    refine ⟨some a, cap, (List.finRange len).map fun i => (hx i).choose, ?_, ⟨rfl, ?_, fun _ => ⟨a, rfl, ?_⟩⟩, by simpa using hl⟩
    · simp
    · simp
      have : maxLen = 9223372036854775807 := rfl
      omega
    · intro j p hj
      have hjl : j < len := by
        have := (List.getElem?_eq_some_iff.mp hj).1
        simpa using this
      have e : p = (hx ⟨j, hjl⟩).choose := by
        rw [List.getElem?_map] at hj
        simp [hjl] at hj
        exact hj.symm
      obtain ⟨cs', h1, h2⟩ := (hx ⟨j, hjl⟩).choose_spec
      subst e
      exact ⟨cs', d.K_len h1, h1, h2⟩
theorem cells3 : Try.prog.cellsOf 3 = 1 := by kernel_rfl
theorem cells4 : Try.prog.cellsOf 4 = 1 := by kernel_rfl
theorem cells9 : Try.prog.cellsOf 9 = 1 := by kernel_rfl
theorem cells33 : Try.prog.cellsOf 33 = 2 := by kernel_rfl
theorem cells47 : Try.prog.cellsOf 47 = 3 := by kernel_rfl
theorem op3 (h : DataW.trod enc Try.prog W 0 spare held fuel 3 cs = some z) : ∃ n, cs = [.int .i64 n] ∧ (Lit.int .i64 n).wf = true := by
  obtain ⟨n, h1, _, h2⟩ := DataW.trod_int Try.underlying3 h
  exact ⟨n, h1, h2⟩
theorem op4 (h : DataW.trod enc Try.prog W 0 spare held fuel 4 cs = some z) : ∃ b, cs = [.bool b] := by
  obtain ⟨n, h1, _⟩ := DataW.trod_bool Try.underlying4 h
  exact ⟨n, h1⟩
theorem op9 (h : DataW.trod enc Try.prog W 0 spare held fuel 9 cs = some z) : ∃ s : ByteArray, cs = [.string s] := by
  obtain ⟨n, h1, _⟩ := DataW.trod_string Try.underlying9 h
  exact ⟨n, h1⟩
theorem op33 (h : DataW.trod enc Try.prog W 0 spare held fuel 33 cs = some z) : ∃ x : S33, k33.K W x cs := by
  obtain ⟨hl, hf⟩ := piece Try.underlying33 h
  rw [cells33] at hl
  obtain ⟨c0, c1, rfl⟩ := len2 hl
  obtain ⟨_, _, h0⟩ := hf 0 4 0 1 rfl cells4
  obtain ⟨_, _, h1⟩ := hf 1 9 1 1 rfl cells9
  obtain ⟨b, e0⟩ := op4 h0
  obtain ⟨s, e1⟩ := op9 h1
  cases e0; cases e1
  exact ⟨⟨b, s⟩, k33_mk W ⟨b, s⟩⟩
end
end Go.Proofs.Ytfjmnaobfbmllaa.M
namespace Go.Proofs.Ytfjmnaobfbmllaa.M
open Go.RowKit Go.WideShapes Go.Proofs.YtfjmnaobfbmllaaW.PrintWords Go.Proofs.YtfjmnaobfbmllaaW.PrintLast Go.Proofs.YtfjmnaobfbmllaaW.PrintMore
set_option linter.unusedVariables false
set_option linter.constructorNameAsVariable false
set_option maxRecDepth 100000
section
variable {H : Type} {enc : TypeId × Value → H} {W : World} {spare : Nat → Bool} {held : Bool} {base fuel : Nat} {v : Value} {d : DataW H} {ps : List MemPlace} {cs : List Value} {z : DataW H × List MemPlace}
theorem op47 (h : DataW.trod enc Try.prog W 0 spare held fuel 47 cs = some z) : ∃ x : S47, k47.K W x cs := by
  obtain ⟨hl, hf⟩ := piece Try.underlying47 h
  rw [cells47] at hl
  obtain ⟨c0, c1, c2, rfl⟩ := len3 hl
  obtain ⟨_, _, h0⟩ := hf 0 3 0 1 rfl cells3
  obtain ⟨_, _, h1⟩ := hf 1 33 1 2 rfl cells33
  obtain ⟨a0, e0, _⟩ := op3 h0
  obtain ⟨x1, K1⟩ := op33 h1
  have e1 := k33_open K1
  cases e0; cases e1
  exact ⟨⟨a0, x1⟩, k47_mk W ⟨a0, x1⟩⟩
theorem op44 (h : DataW.trod enc Try.prog W 0 spare held fuel 44 cs = some z) : ∃ (A : Option Addr) (c : Nat) (l : List S47), cs = [.slice A l.length c] ∧ k47.C W A l.length l ∧ l.length ≤ c :=
  op_slice k47 Try.underlying44 cells47 (fun _ _ _ => op47) h
theorem V44 (hv : Value.okWide Try.prog W .any base 44 v) (h : DataW.Trod enc Try.prog W 0 spare held 44 v d ps) :
    ∃ (A : Option Addr) (c : Nat) (l : List S47), v = .slice A l.length c ∧ k47.C W A l.length l ∧ l.length ≤ c := by
  obtain ⟨a, len, cap, rfl⟩ := okWide_slice Try.underlying44 hv
  obtain ⟨m, hm⟩ := h
  obtain ⟨A, c, l, e, hC, hc⟩ := op44 hm
  have e2 : Value.slice a len cap = .slice A l.length c := by simpa [Value.cells] using e
  exact ⟨A, c, l, e2, hC, hc⟩
end
end Go.Proofs.Ytfjmnaobfbmllaa.M
namespace Go.Proofs.Ytfjmnaobfbmllaa.M
open Go.RowKit
set_option maxRecDepth 100000
def ch (l : List Nat) : List Char := l.map Char.ofNat
def words : List (List Nat) := [[104, 97, 114, 110, 101, 115, 115],
  [102, 51, 51, 54, 54, 51, 54, 102, 101, 56, 50, 54, 99, 51, 99, 57, 48, 102, 48, 99, 51, 98, 50, 101, 54, 100, 56, 52, 55, 98, 101, 53, 49, 53, 99, 49, 51, 101, 50, 52, 54, 100, 48, 55, 49, 48, 102, 54, 99, 56, 99, 101, 50, 52, 55, 54, 97, 54, 98, 101, 50, 49, 98, 98],
  [99, 117, 116],
  [97, 116],
  [115, 101, 110, 101, 115, 99, 104, 97, 108, 47, 115, 101, 110, 101, 115, 99, 104, 97, 108, 108, 97, 119, 48, 51, 46, 83, 108, 97, 98, 87, 114, 105, 116, 101, 115],
  [115, 101, 110, 101, 115, 99, 104, 97, 108, 47, 115, 101, 110, 101, 115, 99, 104, 97, 108, 108, 97, 119, 48, 51, 46, 83, 108, 97, 98, 70, 105, 116, 115],
  [115, 101, 110, 101, 115, 99, 104, 97, 108, 47, 115, 101, 110, 101, 115, 99, 104, 97, 108, 108, 97, 119, 48, 51, 46, 83, 108, 97, 98, 80, 117, 116, 115],
  [115, 101, 110, 101, 115, 99, 104, 97, 108, 47, 115, 101, 110, 101, 115, 99, 104, 97, 108, 108, 97, 119, 48, 51, 46, 83, 108, 97, 98, 75, 101, 101, 112, 115],
  [115, 101, 110, 101, 115, 99, 104, 97, 108, 47, 115, 101, 110, 101, 115, 99, 104, 97, 108, 108, 97, 119, 48, 51, 46, 83, 108, 97, 98, 86, 97, 99, 97, 110, 116],
  [115, 101, 110, 101, 115, 99, 104, 97, 108, 47, 115, 101, 110, 101, 115, 99, 104, 97, 108, 108, 97, 119, 48, 51, 46, 83, 108, 97, 98, 77, 97, 112],
  [115, 101, 110, 101, 115, 99, 104, 97, 108, 47, 115, 101, 110, 101, 115, 99, 104, 97, 108, 108, 97, 119, 49, 49, 46, 78, 111, 116, 101, 70, 111, 114, 109, 115],
  [115, 101, 110, 101, 115, 99, 104, 97, 108, 47, 115, 101, 110, 101, 115, 99, 104, 97, 108, 108, 97, 119, 48, 51, 46, 83, 108, 97, 98, 82, 111, 119, 115],
  [115, 101, 110, 101, 115, 99, 104, 97, 108, 47, 115, 101, 110, 101, 115, 99, 104, 97, 108, 108, 97, 119, 48, 52, 46, 69, 110, 116, 114, 121, 87, 114, 105, 116, 101, 115],
  [115, 101, 110, 101, 115, 99, 104, 97, 108, 47, 115, 101, 110, 101, 115, 99, 104, 97, 108, 108, 97, 119, 49, 49, 46, 78, 111, 116, 101, 70, 105, 116, 115],
  [115, 101, 110, 101, 115, 99, 104, 97, 108, 47, 115, 101, 110, 101, 115, 99, 104, 97, 108, 108, 97, 119, 48, 52, 46, 69, 110, 116, 114, 121, 82, 101, 97, 100, 115],
  [115, 101, 110, 101, 115, 99, 104, 97, 108, 47, 115, 101, 110, 101, 115, 99, 104, 97, 108, 108, 97, 119, 48, 52, 46, 69, 110, 116, 114, 121, 66, 97, 99, 107],
  [115, 101, 110, 101, 115, 99, 104, 97, 108, 47, 115, 101, 110, 101, 115, 99, 104, 97, 108, 108, 97, 119, 48, 52, 46, 69, 110, 116, 114, 121, 79, 110, 101],
  [115, 101, 110, 101, 115, 99, 104, 97, 108, 47, 115, 101, 110, 101, 115, 99, 104, 97, 108, 108, 97, 119, 48, 52, 46, 69, 110, 116, 114, 121, 67, 111, 115, 116, 115],
  [115, 101, 110, 101, 115, 99, 104, 97, 108, 47, 115, 101, 110, 101, 115, 99, 104, 97, 108, 108, 97, 119, 48, 52, 46, 69, 110, 116, 114, 121, 82, 111, 119],
  [115, 101, 110, 101, 115, 99, 104, 97, 108, 47, 115, 101, 110, 101, 115, 99, 104, 97, 108, 108, 97, 119, 48, 53, 46, 80, 97, 116, 99, 104, 68, 111, 101, 115],
  [115, 101, 110, 101, 115, 99, 104, 97, 108, 47, 115, 101, 110, 101, 115, 99, 104, 97, 108, 108, 97, 119, 48, 53, 46, 80, 97, 116, 99, 104, 65, 108, 108],
  [115, 101, 110, 101, 115, 99, 104, 97, 108, 47, 115, 101, 110, 101, 115, 99, 104, 97, 108, 108, 97, 119, 48, 53, 46, 80, 97, 116, 99, 104, 79, 110, 99, 101],
  [115, 101, 110, 101, 115, 99, 104, 97, 108, 47, 115, 101, 110, 101, 115, 99, 104, 97, 108, 108, 97, 119, 48, 53, 46, 80, 97, 116, 99, 104, 84, 117, 114, 110, 115],
  [115, 101, 110, 101, 115, 99, 104, 97, 108, 47, 115, 101, 110, 101, 115, 99, 104, 97, 108, 108, 97, 119, 48, 53, 46, 80, 97, 116, 99, 104, 80, 97, 114, 116, 115],
  [115, 101, 110, 101, 115, 99, 104, 97, 108, 47, 115, 101, 110, 101, 115, 99, 104, 97, 108, 108, 97, 119, 48, 53, 46, 80, 97, 116, 99, 104, 65, 112, 97, 114, 116],
  [115, 101, 110, 101, 115, 99, 104, 97, 108, 47, 115, 101, 110, 101, 115, 99, 104, 97, 108, 108, 97, 119, 48, 51, 46, 83, 108, 97, 98, 82, 101, 97, 100, 115],
  [115, 101, 110, 101, 115, 99, 104, 97, 108, 47, 115, 101, 110, 101, 115, 99, 104, 97, 108, 108, 97, 119, 48, 51, 46, 83, 108, 97, 98, 66, 97, 99, 107],
  [115, 101, 110, 101, 115, 99, 104, 97, 108, 47, 115, 101, 110, 101, 115, 99, 104, 97, 108, 108, 97, 119, 49, 49, 46, 78, 111, 116, 101, 87, 114, 105, 116, 101, 115],
  [115, 101, 110, 101, 115, 99, 104, 97, 108, 47, 115, 101, 110, 101, 115, 99, 104, 97, 108, 108, 97, 119, 49, 49, 46, 78, 111, 116, 101, 82, 101, 97, 100, 115],
  [115, 101, 110, 101, 115, 99, 104, 97, 108, 47, 115, 101, 110, 101, 115, 99, 104, 97, 108, 108, 97, 119, 49, 49, 46, 78, 111, 116, 101, 66, 97, 99, 107],
  [115, 101, 110, 101, 115, 99, 104, 97, 108, 47, 115, 101, 110, 101, 115, 99, 104, 97, 108, 108, 97, 119, 49, 49, 46, 78, 111, 116, 101, 84, 101, 108, 108, 115]]
def joined : List (List Nat) → List Nat
  | [] => []
  | [w] => w
  | w :: ws => w ++ 32 :: joined ws
theorem order_is : Try.prog.initOrder = String.ofList (ch (joined words)) := by kernel_rfl
theorem order_list : Try.prog.initOrder.toList = ch (joined words) := by rw [order_is, String.toList_ofList]
theorem signs_word (w : List Nat) (h : w.all (fun n => Char.ofNat n != Char.ofNat 32) = true) (r : List Char) : wordsSigns (ch w ++ Char.ofNat 32 :: r) = ch w :: wordsSigns r := by
  induction w with
  | nil => rfl
  | cons n w ih =>
    rw [List.all_cons, Bool.and_eq_true] at h
    have hn : Char.ofNat n ≠ Char.ofNat 32 := by simpa using h.1
    have := ih h.2
    show wordsSigns (Char.ofNat n :: (ch w ++ Char.ofNat 32 :: r)) = _
    rw [wordsSigns.eq_3 _ _ (fun e => hn e), this]
    rfl
theorem signs_last (w : List Nat) (h : w.all (fun n => Char.ofNat n != Char.ofNat 32) = true) : wordsSigns (ch w) = [ch w] := by
  induction w with
  | nil => rfl
  | cons n w ih =>
    rw [List.all_cons, Bool.and_eq_true] at h
    have hn : Char.ofNat n ≠ Char.ofNat 32 := by simpa using h.1
    have := ih h.2
    show wordsSigns (Char.ofNat n :: ch w) = _
    rw [wordsSigns.eq_3 _ _ (fun e => hn e), this]
    rfl
theorem signs_join : ∀ ws : List (List Nat), ws ≠ [] → ws.all (fun w => w.all (fun n => Char.ofNat n != Char.ofNat 32)) = true → wordsSigns (ch (joined ws)) = ws.map ch
  | [], h, _ => absurd rfl h
  | [w], _, h => by
    have h2 : w.all (fun n => Char.ofNat n != Char.ofNat 32) = true := by simpa using h
    exact signs_last w h2
  | w :: v :: ws, _, h => by
    rw [List.all_cons, Bool.and_eq_true] at h
    have ih := signs_join (v :: ws) (by simp) h.2
    show wordsSigns (ch (w ++ 32 :: joined (v :: ws))) = _
    have e : ch (w ++ 32 :: joined (v :: ws)) = ch w ++ Char.ofNat 32 :: ch (joined (v :: ws)) := by simp [ch]
    rw [e, signs_word w h.1, ih]
    rfl
theorem order_words : wordsSigns Try.prog.initOrder.toList = words.map ch := by
  rw [order_list]
  exact signs_join words (by decide) (by decide +kernel)
theorem behind : behindMainWord (words.map ch) = (words.drop 2).map ch := by kernel_rfl
theorem tail_cut : (words.drop 2).map ch = ch [99, 117, 116] :: (words.drop 3).map ch := by kernel_rfl
theorem cut_is : ch [99, 117, 116] = "cut".toList := by kernel_rfl
theorem head_is : behindMainWord (wordsSigns Try.prog.initOrder.toList) = "cut".toList :: (words.drop 3).map ch := by rw [order_words, behind, tail_cut, cut_is]
theorem make_of (P : Program) (rest : List (List Char)) (h : behindMainWord (wordsSigns P.initOrder.toList) = "cut".toList :: rest) : P.make = some .cut := by
  unfold Program.make
  rw [h]
  simp only
  rw [if_neg (by decide), if_pos (by simp)]
theorem strip_of (rest : List (List Char)) : stripLifts liftWords ("cut".toList :: rest) = ([], "cut".toList :: rest) := by
  have h : ∀ os : List String, os.all (fun o => !("cut".toList == o.toList)) = true → stripLifts os ("cut".toList :: rest) = ([], "cut".toList :: rest) := by
    intro os
    induction os with
    | nil => intro _; rfl
    | cons o os ih =>
      intro h
      rw [List.all_cons, Bool.and_eq_true] at h
      have h1 : ("cut".toList == o.toList) = false := by simpa using h.1
      rw [stripLifts, h1, if_neg Bool.false_ne_true, ih h.2]
  exact h liftWords (by decide +kernel)
theorem lifts_of (P : Program) (rest : List (List Char)) (h : behindMainWord (wordsSigns P.initOrder.toList) = "cut".toList :: rest) : P.liftsFinal = false := by
  unfold Program.liftsFinal Program.headLifts
  rw [h, strip_of]
  simp
theorem enter_of (P : Program) (rest : List (List Char)) (h : behindMainWord (wordsSigns P.initOrder.toList) = "cut".toList :: rest) (h1 : P.laysLater = false) (h2 : P.bearsReflect = false) (h3 : P.doorFits [] = true) : P.mayEnter = true := by
  unfold Program.mayEnter
  rw [h]
  simp only [strip_of, h1, h2, h3]
  simp
theorem lays : Try.prog.laysLater = false := by kernel_rfl
theorem bears : Try.prog.bearsReflect = false := by kernel_rfl
theorem doors : Try.prog.doorFits [] = true := by kernel_rfl
theorem lifts_final : Try.prog.liftsFinal = false := lifts_of Try.prog _ head_is
theorem make_is : Try.prog.make = some .cut := make_of Try.prog _ head_is
theorem may_enter : Try.prog.mayEnter = true := enter_of Try.prog _ head_is lays bears doors
end Go.Proofs.Ytfjmnaobfbmllaa.M
namespace Go.Proofs.Ytfjmnaobfbmllaa.M
open Go.RowKit Go.Proofs.YtfjmnaobfbmllaaW.PrintWords
def oddS (x : S33) : Bool := (!x.f0 && !x.f1.toList.isEmpty) || decide (200 < x.f1.size)
def sumS : List S33 → Nat
  | [] => 0
  | x :: l => 1 + x.f1.size + sumS l
def rawSize (l : List S33) : Nat := 9 + sumS l
def lastUsed (l : List S33) : Bool := match l.getLast? with
  | none => true
  | some x => x.f0
def goodP (lsn : Int) (l : List S33) : Bool := decide (0 ≤ lsn) && decide (lsn ≤ 1099511627776) && decide (l.length ≤ 32) && !l.any oddS && lastUsed l && decide (rawSize l ≤ 240)
def idxOf {α : Type} (p : α → Bool) : List α → Int
  | [] => -1
  | x :: l => if p x then 0 else if idxOf p l < 0 then -1 else idxOf p l + 1
theorem idxOf_nonneg {α : Type} (p : α → Bool) (l : List α) : 0 ≤ idxOf p l ↔ l.any p = true := by
  induction l with
  | nil => simp [idxOf]
  | cons x l ih =>
    rw [List.any_cons]
    cases h : p x with
    | true => simp [idxOf, h]
    | false =>
      rw [Bool.false_or, ← ih]
      by_cases h2 : idxOf p l < 0
      · simp [idxOf, h, h2]
      · simp [idxOf, h, h2]; omega
theorem idxOf_hit {α : Type} (p : α → Bool) (l : List α) (k : Nat) (hk : k < l.length) (hp : p l[k] = true) (hb : ∀ j (h : j < k), p (l[j]'(by omega)) = false) : idxOf p l = k := by
  induction l generalizing k with
  | nil => simp at hk
  | cons x l ih =>
    cases k with
    | zero => simp at hp; simp [idxOf, hp]
    | succ k =>
      have h0 := hb 0 (by omega)
      simp at h0
      have := ih k (by simpa using hk) (by simpa using hp) (fun j h => by have := hb (j + 1) (by omega); simpa using this)
      unfold idxOf
      simp only [h0, Bool.false_eq_true, if_false, this]
      rw [if_neg (by omega)]; omega
theorem idxOf_miss {α : Type} (p : α → Bool) (l : List α) (hb : ∀ j (h : j < l.length), p l[j] = false) : idxOf p l = -1 := by
  have h : ¬ (0 ≤ idxOf p l) := by
    rw [idxOf_nonneg]
    simp only [List.any_eq_true, not_exists, not_and]
    intro x hx
    obtain ⟨j, hj, rfl⟩ := List.getElem_of_mem hx
    simp [hb j hj]
  have h2 : -1 ≤ idxOf p l := by
    clear h hb
    induction l with
    | nil => simp [idxOf]
    | cons x l ih => unfold idxOf; split; omega; split <;> omega
  omega
end Go.Proofs.Ytfjmnaobfbmllaa.M
namespace Go.Proofs.Ytfjmnaobfbmllaa.M
open Go.RowKit Go.Proofs.YtfjmnaobfbmllaaW.PrintWords Go.Proofs.YtfjmnaobfbmllaaW.PrintLast Go.Proofs.YtfjmnaobfbmllaaW.PrintMore
set_option linter.unusedVariables false
set_option linter.unusedSimpArgs false
theorem isEmpty_ne (l : List UInt8) : l.isEmpty = !(l != []) := by cases l <;> rfl
def flat33 (xs : List S33) : List Value := xs.flatMap fun x => [.bool x.f0, .string x.f1]
theorem flat33_cons (x : S33) (xs : List S33) : flat33 (x :: xs) = .bool x.f0 :: .string x.f1 :: flat33 xs := by simp [flat33]
theorem flat33_append (xs ys : List S33) : flat33 (xs ++ ys) = flat33 xs ++ flat33 ys := by simp [flat33]
theorem flat33_length (xs : List S33) : (flat33 xs).length = xs.length * 2 := by
  induction xs with
  | nil => rfl
  | cons x xs ih => rw [flat33_cons]; simp [ih]; omega
theorem flat33_seg (xs : List S33) (j : Nat) (p : S33) (h : xs[j]? = some p) : ((flat33 xs).drop (j * 2)).take 2 = [.bool p.f0, .string p.f1] := by
  induction xs generalizing j with
  | nil => simp at h
  | cons x xs ih =>
    rw [flat33_cons]
    cases j with
    | zero => simp at h; subst h; rfl
    | succ j =>
      have : (j + 1) * 2 = j * 2 + 1 + 1 := by omega
      rw [this, List.drop_succ_cons, List.drop_succ_cons]
      exact ih j (by simpa using h)
theorem flat33_drop (xs : List S33) (j : Nat) : (flat33 xs).drop (j * 2) = flat33 (xs.drop j) := by
  induction xs generalizing j with
  | nil => simp [flat33]
  | cons x xs ih =>
    cases j with
    | zero => rfl
    | succ j =>
      have : (j + 1) * 2 = j * 2 + 1 + 1 := by omega
      rw [this, flat33_cons, List.drop_succ_cons, List.drop_succ_cons, List.drop_succ_cons]
      exact ih j
theorem flat33_one (xs : List S33) : ∀ v ∈ flat33 xs, v.oneCell' = true := by
  intro v hv
  simp only [flat33, List.mem_flatMap] at hv
  obtain ⟨x, _, hv⟩ := hv
  simp at hv
  rcases hv with rfl | rfl <;> rfl
theorem reps33 {R : S33 → List Value → Prop} (hR : ∀ p c, R p c → c = [.bool p.f0, .string p.f1]) (xs : List S33) (cs : List Value) (h : Reps R 2 xs cs) : cs = flat33 xs := by
  induction xs generalizing cs with
  | nil => exact List.eq_nil_of_length_eq_zero (by have := h.1; simpa using this)
  | cons x xs ih =>
    have h0 := hR _ _ (h.2 0 x rfl)
    have hl := h.1
    simp only [List.length_cons] at hl
    match cs, hl, h0, h with
    | a :: b :: cs, hl, h0, h =>
      simp at h0
      obtain ⟨rfl, rfl⟩ := h0
      rw [flat33_cons]
      congr 2
      refine ih cs ⟨by simp at hl; omega, fun j p hp => ?_⟩
      have := h.2 (j + 1) p (by simpa using hp)
      have e : (j + 1) * 2 = j * 2 + 1 + 1 := by omega
      rw [e, List.drop_succ_cons, List.drop_succ_cons] at this
      exact this
    | [], hl, _, _ => simp at hl
    | [a], hl, _, _ => simp at hl; omega
theorem reps33_mk {R : S33 → List Value → Prop} (hR : ∀ p, R p [.bool p.f0, .string p.f1]) (xs : List S33) : Reps R 2 xs (flat33 xs) :=
  ⟨flat33_length xs, fun j p hp => by rw [flat33_seg xs j p hp]; exact hR p⟩
section
variable {w : World} {base : Nat} {ok : Nat → Prop} {v : Value} {xs : List S33} {A : Option Addr} {n : Nat}
theorem R33_own (h : k33.R 33 w base ok v xs) : w.ownsRow base 33 2 v xs.length (flat33 xs) := by
  obtain ⟨_, inner, ho, hr⟩ := h
  rw [← reps33 (fun p c hp => k33_openM hp) xs inner hr]
  exact ho
theorem R33_mk (h0 : ∀ k, v.ownBlock = some k → ok k) (ho : w.ownsRow base 33 2 v xs.length (flat33 xs)) : k33.R 33 w base ok v xs :=
  ⟨h0, flat33 xs, ho, reps33_mk (fun p => k33_mkM _ _ _ p) xs⟩
theorem C33_cells (h : k33.C w A n xs) (h0 : 0 < n) : ∃ ad, A = some ad ∧ ∀ j u, (flat33 xs)[j]? = some u → w.cell? (ad.add j) = some u := by
  obtain ⟨ad, e, hc⟩ := h.2.2 h0
  refine ⟨ad, e, fun j u hu => ?_⟩
  have hj : j < xs.length * 2 := by rw [← flat33_length]; exact (List.getElem?_eq_some_iff.1 hu).1
  have hq : j / 2 < xs.length := by omega
  obtain ⟨c, hs, hk, hcell⟩ := hc (j / 2) _ (List.getElem?_eq_getElem hq)
  obtain rfl := k33_open hk
  have hseg := flat33_seg xs (j / 2) _ (List.getElem?_eq_getElem hq)
  have := hcell (j % 2) u (by
    rw [← hseg, List.getElem?_take, if_pos (by omega), List.getElem?_drop, show j / 2 * 2 + j % 2 = j by omega]; exact hu)
  rwa [show j / 2 * k33.sz + j % 2 = j by show j / 2 * 2 + j % 2 = j; omega] at this
end
def copyIn {α : Type} (xs ys : List α) : List α := ys ++ xs.drop ys.length
theorem copyIn_length {α : Type} (xs ys : List α) (h : ys.length ≤ xs.length) : (copyIn xs ys).length = xs.length := by unfold copyIn; simp; omega
theorem run_copy33 (w : World) (ty : TypeId) (g dLen dCap : Nat) (A : Option Addr) (sLen sCap : Nat) (cur : Array Value) (cs : List Value)
    (hg : w.heap[g]? = some (.cells cur 33 (0, 0))) (hn : sLen ≤ dLen) (hcs : cs.length = sLen * 2)
    (hsrc : 0 < sLen → ∃ ad, A = some ad ∧ ∀ j v, cs[j]? = some v → w.cell? (ad.add j) = some v) (hfit : cs.length ≤ cur.size) (h1 : ∀ v ∈ cs, v.oneCell' = true) :
    (Builtin.copy_ #[22, 22] ty #[.slice (some ⟨g, 0, none⟩) dLen dCap, .slice A sLen sCap]).run Try.prog w =
      .ok (goInt sLen) (w.setRow g (cs ++ cur.toList.drop cs.length).toArray) := by
  have hst := run_storeCells_at Try.prog g 0 33 cs 0 cur w hg (by simpa using hfit) h1
  simp only [Nat.add_zero, List.take_zero, List.nil_append, Nat.zero_add] at hst
  have hmin : Nat.min sLen dLen = sLen := Nat.min_eq_left hn
  have hu := Try.underlying22
  have hi := info33
  cases hq : Try.prog.info? 33 with
  | none => rw [hq] at hi; cases hi
  | some i =>
    rw [hq] at hi
    have hsz : i.size = 2 := by simp at hi; exact hi.2.1
    cases A with
    | none =>
      have h0 : sLen = 0 := by
        rcases Nat.eq_zero_or_pos sLen with h | h
        · exact h
        · obtain ⟨ad, e, _⟩ := hsrc h; cases e
      subst h0
      obtain rfl : cs = [] := List.eq_nil_of_length_eq_zero (by simpa using hcs)
      have hself := setRow_self w g cur 33 (0, 0) hg
      simp [Builtin.copy_, run_underlying hu, Builtin.lenOf, Builtin.firstCells, sizeOf, typeInfo, hq, hsz, storeCells, hself]
    | some ad =>
      have hl : (loadCells ad (sLen * 2)).run Try.prog w = .ok cs.toArray w := by
        rw [← hcs]
        refine run_loadCells_list (P := Try.prog) w ad cs (fun j v hv => ?_)
        have hp : 0 < sLen := by have := (List.getElem?_eq_some_iff.1 hv).1; omega
        obtain ⟨ad', e, hc⟩ := hsrc hp
        cases e
        exact hc j v hv
      simp [Builtin.copy_, run_underlying hu, Builtin.lenOf, Builtin.firstCells, sizeOf, typeInfo, hq, hsz, hmin, hl, hst]
section
variable {ops : Array Oper} {rest : List Oper} {o : Oper} {a : Act} {Q : Exit → Act → World → Prop}
theorem copy33_event {W : World} (hgd : o.guard = none) {N : Tmp} (hd : o.dst = some N) (d s : Operand) (ho : o.op = .call { callee := .builtin .copy, args := #[d, s], argTypes := #[22, 22] })
    {xs ys : List S33} {g n cap c base : Nat} {A : Option Addr} {ok : Nat → Prop} (hdv : a.eval d = .slice (some ⟨g, 0, none⟩) n cap) (hsv : a.eval s = .slice A ys.length c)
    (HR : k33.R 33 W base ok (.slice (some ⟨g, 0, none⟩) n cap) xs) (HC : k33.C W A ys.length ys) (hle : ys.length ≤ xs.length)
    (h : ∀ w1, k33.R 33 w1 base ok (.slice (some ⟨g, 0, none⟩) n cap) (copyIn xs ys) → W.grownBy w1 (some g) → Below base W w1 → wpList Try.prog ops Q rest (a.put o.dst (goInt ys.length)) w1) :
    wpList Try.prog ops Q (o :: rest) a W := by
  obtain rfl := (Kd.R_reads' HR).1
  unfold copyIn at h
  have ho2 := (R33_own HR).2
  rcases ho2 with ⟨hv, _⟩ | ⟨g', cap', cur, hv, hb, hh, hnc, hcm, hcs, ht⟩
  · cases hv
  injection hv with ha _ hc
  injection ha with ha
  injection ha with ha
  subst ha hc
  have hlen : (flat33 ys).length ≤ cur.size := by rw [flat33_length, hcs]; omega
  have hrun := run_copy33 W o.type g xs.length cap A ys.length c cur (flat33 ys) hh hle (flat33_length ys) (fun hp => C33_cells HC hp) hlen (flat33_one ys)
  refine wpList_plain hgd fun K hK => ?_
  unfold Oper.wp
  simp [execOp, ho, resolve, invoke, builtin, hdv, hsv, hrun, Result.andThen]
  refine hK _ _ (h _ ?_ ?_ ?_)
  · refine R33_mk HR.1 ⟨by rw [flat33_length], .inr ⟨g, cap, _, ?_, hb, setRow_heap W g cur _ 33 _ hh, by simp; omega, hcm, ?_, ?_⟩⟩
    · have e : (ys ++ xs.drop ys.length).length = xs.length := by simp; omega
      rw [e]
    · have h3 : cur.toList.length = cap * 2 := by rw [Array.length_toList]; exact hcs
      have e3 : (⟨flat33 ys⟩ : Array Value).size = (flat33 ys).length := rfl
      simp only [List.size_toArray, List.length_append, List.length_drop, Array.size_append]
      simp only [List.size_toArray, List.length_append, List.length_drop] at *
      omega
    · have e : (ys ++ xs.drop ys.length).length = xs.length := by simp; omega
      have e2 : flat33 (ys ++ xs.drop ys.length) = flat33 ys ++ (flat33 xs).drop (flat33 ys).length := by rw [flat33_append, flat33_length ys, flat33_drop]
      rw [e, e2, ← ht]
      show (flat33 ys ++ cur.toList.drop (flat33 ys).length).take (xs.length * 2) = _
      rw [List.take_append, List.take_of_length_le (by rw [flat33_length]; omega), List.drop_take]
  · exact ⟨rfl, rfl, rfl, by simp [World.setRow], fun k _ hk => setRow_other W g k _ (fun e => hk (by rw [e]))⟩
  · exact below_setRow (Below.refl _ _) hb _
end
end Go.Proofs.Ytfjmnaobfbmllaa.M
namespace Go.Proofs.Ytfjmnaobfbmllaa.M
open Go.RowKit Go.Proofs.YtfjmnaobfbmllaaW.PrintWords Go.Proofs.YtfjmnaobfbmllaaW.PrintLast Go.Proofs.YtfjmnaobfbmllaaW.PrintMore
def z64 : Array Value := (flat33 (List.replicate 32 z33)).toArray
theorem arr_R {W : World} {g base : Nat} (h : W.heap[g]? = some (.cells z64 45 (0, 0))) (hg : base ≤ g) : k33.R 45 W base (fun _ => True) (.slice (some ⟨g, 0, none⟩) 32 32) (List.replicate 32 z33) := by
  refine ⟨fun _ _ => trivial, flat33 (List.replicate 32 z33), ?_, reps33_mk (fun p => k33_mkM _ _ _ p) _⟩
  have hl : (flat33 (List.replicate 32 z33)).length = 64 := by rw [flat33_length]; rfl
  exact ⟨hl, .inr ⟨g, 32, z64, rfl, hg, h, Nat.le_refl _, by decide, hl, List.take_of_length_le (Nat.le_of_eq hl)⟩⟩
theorem store_same {P : Program} {W : World} {g : Nat} {t : TypeId} {cs : Array Value} (h : W.heap[g]? = some (.cells cs t (0, 0))) (hi : (P.info? t).map (·.size) = some cs.size) (h1 : cs.all (·.oneCell') = true) :
    (Instr.storeAt t (.pointer (some ⟨g, 0, none⟩)) (.agg cs)).run P W = .ok () W := by
  simp only [Instr.storeAt, Instr.sureAddr, Sem.run_bind, Sem.run_pure, Result.andThen]
  rw [run_storeVar_row _ _ t t cs cs h hi rfl h1, setRow_self W g cs t _ h]
theorem store_op {P : Program} {W : World} {ev : Operand → Value} {o : Oper} {g : Nat} {t : TypeId} {cs : Array Value} {a x : Operand} (ho : o.op = .store t a x) (ha : ev a = .pointer (some ⟨g, 0, none⟩)) (hx : ev x = .agg cs)
    (h : W.heap[g]? = some (.cells cs t (0, 0))) (hi : (P.info? t).map (·.size) = some cs.size) (h1 : cs.all (·.oneCell') = true) : (execOp ev o).run P W = .ok .skip W := by
  unfold execOp
  rw [ho]
  show (do Instr.storeAt t (ev a) (ev x); pure Next.skip : Sem Next).run P W = _
  rw [ha, hx, Sem.run_bind, store_same h hi h1]
  rfl
set_option maxRecDepth 10000 in
theorem z64_lit : z64 = #[.bool false, .string (⟨#[]⟩ : ByteArray), .bool false, .string (⟨#[]⟩ : ByteArray), .bool false, .string (⟨#[]⟩ : ByteArray), .bool false, .string (⟨#[]⟩ : ByteArray), .bool false, .string (⟨#[]⟩ : ByteArray), .bool false, .string (⟨#[]⟩ : ByteArray), .bool false, .string (⟨#[]⟩ : ByteArray), .bool false, .string (⟨#[]⟩ : ByteArray), .bool false, .string (⟨#[]⟩ : ByteArray), .bool false, .string (⟨#[]⟩ : ByteArray), .bool false, .string (⟨#[]⟩ : ByteArray), .bool false, .string (⟨#[]⟩ : ByteArray), .bool false, .string (⟨#[]⟩ : ByteArray), .bool false, .string (⟨#[]⟩ : ByteArray), .bool false, .string (⟨#[]⟩ : ByteArray), .bool false, .string (⟨#[]⟩ : ByteArray), .bool false, .string (⟨#[]⟩ : ByteArray), .bool false, .string (⟨#[]⟩ : ByteArray), .bool false, .string (⟨#[]⟩ : ByteArray), .bool false, .string (⟨#[]⟩ : ByteArray), .bool false, .string (⟨#[]⟩ : ByteArray), .bool false, .string (⟨#[]⟩ : ByteArray), .bool false, .string (⟨#[]⟩ : ByteArray), .bool false, .string (⟨#[]⟩ : ByteArray), .bool false, .string (⟨#[]⟩ : ByteArray), .bool false, .string (⟨#[]⟩ : ByteArray), .bool false, .string (⟨#[]⟩ : ByteArray), .bool false, .string (⟨#[]⟩ : ByteArray), .bool false, .string (⟨#[]⟩ : ByteArray), .bool false, .string (⟨#[]⟩ : ByteArray), .bool false, .string (⟨#[]⟩ : ByteArray), .bool false, .string (⟨#[]⟩ : ByteArray)] := rfl
theorem store45 {W : World} {ev : Operand → Value} {o : Oper} {g : Nat} {a x : Operand} (ho : o.op = .store 45 a x) (ha : ev a = .pointer (some ⟨g, 0, none⟩)) (hx : ev x = .agg #[.bool false, .string (⟨#[]⟩ : ByteArray), .bool false, .string (⟨#[]⟩ : ByteArray), .bool false, .string (⟨#[]⟩ : ByteArray), .bool false, .string (⟨#[]⟩ : ByteArray), .bool false, .string (⟨#[]⟩ : ByteArray), .bool false, .string (⟨#[]⟩ : ByteArray), .bool false, .string (⟨#[]⟩ : ByteArray), .bool false, .string (⟨#[]⟩ : ByteArray), .bool false, .string (⟨#[]⟩ : ByteArray), .bool false, .string (⟨#[]⟩ : ByteArray), .bool false, .string (⟨#[]⟩ : ByteArray), .bool false, .string (⟨#[]⟩ : ByteArray), .bool false, .string (⟨#[]⟩ : ByteArray), .bool false, .string (⟨#[]⟩ : ByteArray), .bool false, .string (⟨#[]⟩ : ByteArray), .bool false, .string (⟨#[]⟩ : ByteArray), .bool false, .string (⟨#[]⟩ : ByteArray), .bool false, .string (⟨#[]⟩ : ByteArray), .bool false, .string (⟨#[]⟩ : ByteArray), .bool false, .string (⟨#[]⟩ : ByteArray), .bool false, .string (⟨#[]⟩ : ByteArray), .bool false, .string (⟨#[]⟩ : ByteArray), .bool false, .string (⟨#[]⟩ : ByteArray), .bool false, .string (⟨#[]⟩ : ByteArray), .bool false, .string (⟨#[]⟩ : ByteArray), .bool false, .string (⟨#[]⟩ : ByteArray), .bool false, .string (⟨#[]⟩ : ByteArray), .bool false, .string (⟨#[]⟩ : ByteArray), .bool false, .string (⟨#[]⟩ : ByteArray), .bool false, .string (⟨#[]⟩ : ByteArray), .bool false, .string (⟨#[]⟩ : ByteArray), .bool false, .string (⟨#[]⟩ : ByteArray)])
    (h : W.heap[g]? = some (.cells z64 45 (0, 0))) (hi : (Try.prog.info? 45).map (·.size) = some 64) : (execOp ev o).run Try.prog W = .ok .skip W := by
  rw [← z64_lit] at hx
  exact store_op ho ha hx h hi (by unfold z64; rw [Array.all_eq_true_iff_forall_mem]; intro v hv; exact flat33_one _ v (by simpa using hv))
theorem add0 (g n : Nat) : (⟨g, 0, none⟩ : Addr).add n = ⟨g, n, none⟩ := by unfold Addr.add; split <;> simp_all
theorem info45 : (Try.prog.info? 45).map (·.size) = some 64 := by kernel_rfl
end Go.Proofs.Ytfjmnaobfbmllaa.M
namespace Go.Proofs.Ytfjmnaobfbmllaa.M
open Go.RowKit Go.Proofs.YtfjmnaobfbmllaaW.PrintWords Go.Proofs.YtfjmnaobfbmllaaW.PrintLast Go.Proofs.YtfjmnaobfbmllaaW.PrintMore
theorem cl2 {W : World} {g : Nat} {t : TypeId} {v0 v1 : Value} (h : W.heap[g]? = some (.cells #[v0, v1] t (0, 0))) : W.cell? ⟨g, 0, none⟩ = some v0 ∧ W.cell? ⟨g, 1, none⟩ = some v1 :=
  ⟨(blk_cell h 0).trans rfl, (blk_cell h 1).trans rfl⟩
theorem fr2 {W : World} {g : Nat} {t : TypeId} {cs : Array Value} (h : W.heap[g]? = some (.cells cs t (0, 0))) : W.frozen? ⟨g, 0, none⟩ = false ∧ W.frozen? ⟨g, 1, none⟩ = false :=
  ⟨blk_frozen h 0, blk_frozen h 1⟩
theorem size_out {α : Type} (a : Array α) (n : Nat) (h : a.size = n + 1) : ∃ (x : α) (b : List α), a = (x :: b).toArray ∧ b.length = n := by
  obtain ⟨l⟩ := a
  cases l with
  | nil => simp at h
  | cons x l => exact ⟨x, l, rfl, by simpa using h⟩
theorem len_out {α : Type} (l : List α) (n : Nat) (h : l.length = n + 1) : ∃ (x : α) (b : List α), l = x :: b ∧ b.length = n := by
  cases l with
  | nil => simp at h
  | cons x l => exact ⟨x, l, rfl, by simpa using h⟩
theorem len_nil {α : Type} (l : List α) (h : l.length = 0) : l = [] := List.length_eq_zero_iff.mp h
theorem puts2 {W : World} {g : Nat} {t : TypeId} {b0 b1 : Value} {cs : Array Value} (hs : cs.size = 2) (h : W.heap[g]? = some (.cells cs t (0, 0))) : ((W.setCell ⟨g, 0, none⟩ b0).setCell ⟨g, 1, none⟩ b1).heap[g]? = some (.cells #[b0, b1] t (0, 0)) := by
  obtain ⟨a0, l0, rfl, h0⟩ := size_out cs _ hs
  obtain ⟨a1, l1, rfl, h1⟩ := len_out l0 _ h0
  obtain rfl := len_nil l1 h1
  exact (blk_put (cs' := #[b0, b1]) (blk_put (cs' := #[b0, a1]) h 0 b0 rfl) 1 b1 rfl)
theorem aq {P : Prop} (h : P) : Aside0 P := ⟨h⟩
theorem stB {P Q : Prop} (h : Aside0 P) (e : P → Q := by intro h_; (with_reducible repeat (first | refine blk_drewN ?_ _ | refine blk_drew ?_ | refine blk_alloc ?_ _)); exact h_) : Q := e h.out
theorem farO {w : World} {g : Nat} {o : Obj} {p : Addr} (h : w.heap[g]? = some o) (hp : g ≠ p.block) (u : Value) : (w.setCell p u).heap[g]? = some o := (Below.heap_setCell w p u g hp).trans h
theorem stF {P Q : Prop} (h : Aside0 P) (e : P → Q := by intro h_; (repeat (first | (with_reducible refine blk_drewN ?_ _) | (with_reducible refine blk_drew ?_) | (with_reducible refine blk_alloc ?_ _) | ((with_reducible refine farO ?_ ?hf_ _); (case hf_ => (try dsimp only); exact Aside0.out (by with_reducible assumption))))); exact h_) : Q := e h.out
theorem stH {P Q : Prop} (h : Aside0 P) (e : P → Q := by intro h_; repeat (first | (with_reducible first | exact h_ | apply below_alloc | apply pw_below_drewN | apply below_drew1 | refine below_set ?_ (Aside0.out (by assumption))) | exact h_)) : Q := e h.out
theorem stC {P Q : Prop} (h : P) (e : P → Q := by intro h_; repeat (first | exact h_ | (with_reducible refine Kd.C_alloc ?_ _) | (with_reducible refine Kd.C_drewN ?_ _) | (with_reducible refine Kd.C_drew ?_))) : Q := e h
theorem fitR {P : Prop} (h : P := by (try simp only [List.map_toArray, List.map_cons, List.map_nil]); first | done | rfl | (simp only [List.length_drop, List.length_take]; rfl)) : P := h
theorem eqW {α : Sort _} {a b : α} (h : a = b := by first | rfl | (simp [errW_none, errW_some] <;> rfl) | (simp [*, errW_none, errW_some] <;> rfl)) : a = b := h
theorem eqS {α : Sort _} {a b : α} (h : a = b := by first | rfl | (simp; done) | (simp [*]; done)) : a = b := h
theorem nilA {P : Prop} (h : P := by first | exact Kd.R_nil _ _ _ _ _ | exact Kd.N_nil _ _ _ _ _ | exact Kd.V_nil _ _ _ _ _ | exact Kd.Q_nil _ _ _ _ _ | exact Kd.S_nil _ _ _ _ _) : P := h
theorem stR {P Q : Prop} (h : Aside0 P) (e : P → Q := by intro h_; (with_reducible repeat (first | apply Kd.R_alloc | apply Kd.R_drewN | apply Kd.R_drew)); exact h_) : Q := e h.out
end Go.Proofs.Ytfjmnaobfbmllaa.M
namespace Go.Proofs.Ytfjmnaobfbmllaa.M
open Go.RowKit Go.Proofs.YtfjmnaobfbmllaaW.PrintWords Go.Proofs.YtfjmnaobfbmllaaW.PrintLast Go.Proofs.YtfjmnaobfbmllaaW.PrintMore
attribute [local go_sem] max2_int min2_int max_two min_two max_three min_three max_four min_four   -- for this text's walks alone
set_option linter.unusedVariables false
set_option linter.unusedSimpArgs false
theorem eqA33 (d : Nat) (w : World) (x0 y0 : Bool) (x1 y1 : ByteArray) :
    (Op.equalIn (d + 2) 33 (.agg #[.bool x0, .string x1]) (.agg #[.bool y0, .string y1])).run Try.prog w = .ok (x0 == y0 && (x1.toList == y1.toList)) w := by
  refine eqA_of Try.underlying33 (by kernel_rfl) ?_
  refine eqf_cons (by rfl) (by go_simp; rfl) (by go_simp; rfl) (by go_simp) ?_
  exact eqf_last (by rfl) (by go_simp; rfl) (by go_simp; rfl) (by go_simp)
end Go.Proofs.Ytfjmnaobfbmllaa.M
namespace Go.Proofs.Ytfjmnaobfbmllaa.M
open Go.RowKit Go.Proofs.YtfjmnaobfbmllaaW.PrintWords Go.Proofs.YtfjmnaobfbmllaaW.PrintLast Go.Proofs.YtfjmnaobfbmllaaW.PrintMore
attribute [local go_sem] max2_int min2_int max_two min_two max_three min_three max_four min_four   -- for this text's walks alone
set_option linter.unusedVariables false
set_option linter.unusedSimpArgs false
def slab_size.l0 : Nat → Int → List (S33) → Int → Int → Option (Int)
 | 0, _, _, _, _ => none
 | k + 1, x3, x6, x7, x8 => if x8 < x7 then (if 0 ≤ x8 then (if x8 < (x6.length : Int) then (slab_size.l0 k (wrap64 (x3 + (wrap64 (1 + (((rd_T33 x6 x8).f1).size : Int))))) x6 x7 (wrap64 (x8 + 1))) else (none)) else (none)) else (some x3)
def slab_size.f (k : Nat) (l0 : List (S33)) : Option (Int) := slab_size.l0 k 9 l0 (l0.length : Int) 0
set_option maxHeartbeats 8000000 in
set_option maxRecDepth 100000 in
theorem slab_size.calls (k : Nat) (A0 : Option Addr) (c0 : Nat) (l0 : List (S33)) (r : Int) (w : World) (hr0 : Kd.C k33 w A0 l0.length l0) (hc0 : l0.length ≤ c0) (h : slab_size.f k l0 = some r) :
  Calls Try.prog 81 #[.slice A0 l0.length c0] w fun e w' => e = .returned (.int .i64 r) ∧ Below w.heap.size w w' := by
 have hu33 := Try.underlying33
 have HR0 := aq hr0
 have HC0 := aq hc0
 clear hr0 hc0
 have HB := aq (Below.refl w.heap.size w)
 have H : (slab_size.l0 k 9 l0 (l0.length : Int) 0) = some r := h
 clear h
 have H' := aq H
 clear H
 go_enter Try.func81, Try.ntmps81
 go_wp2
 go_loopg [3, 8] k (fun kq v3 v8 w' => ∃ (x3_1 : Int) (x8_1 : Int), v3 = .int .i64 x3_1 ∧ v8 = .int .i64 x8_1 ∧ Aside0 (slab_size.l0 kq x3_1 l0 (l0.length : Int) x8_1 = some r) ∧ Aside0 (kq ≤ k) ∧ Aside0 (Below w.heap.size w w'))
 case atStart => exact ⟨(9), (0), eqS, eqS, H', ⟨Nat.le_refl _⟩, ⟨stH HB⟩⟩
 case round =>
  clear H'
  obtain ⟨x3_1, x8_1, rfl, rfl, HA, HK1, HB⟩ := hrel
  cases gk with
  | zero => exact absurd HA.out (by simp [slab_size.l0])
  | succ k1 =>
   have H := HA.out
   clear HA
   simp only [slab_size.l0] at H
   by_cases c2 : x8_1 < (l0.length : Int)
   ·rw [if_pos c2] at H
    have c2b0 : decide (x8_1 < (l0.length : Int)) = true := decide_eq_true c2
    clear c2
    by_cases c3 : 0 ≤ x8_1
    ·rw [if_pos c3] at H
     have c3b0 : decide (0 ≤ x8_1) = true := decide_eq_true c3
     clear c3
     by_cases c4 : x8_1 < (l0.length : Int)
     ·rw [if_pos c4] at H
      have c4b0 : decide (x8_1 < (l0.length : Int)) = true := decide_eq_true c4
      clear c4
      have H' := aq H
      clear H
      have p101 : 0 ≤ (x8_1 : Int) := of_decide_eq_true (by first | (with_reducible assumption) | assumption)
      have q101 : x8_1 < (l0.length : Int) := of_decide_eq_true (by first | (with_reducible assumption) | assumption)
      obtain ⟨ad101, e101, hx101_0, hx101_1⟩ := at_T33 HR0.out x8_1 p101 q101
      cases e101
      replace hx101_0 := (HB.out.cell (World.block_lt_of_cell? w _ hx101_0)).trans hx101_0
      replace hx101_1 := (HB.out.cell (World.block_lt_of_cell? w _ hx101_1)).trans hx101_1
      replace p101 := eq_true p101
      replace q101 := eq_true q101
      go_wp2_with (first | ((with_reducible refine gate_dst (N := 5) rfl ?_); refine box_event ?hg (N := 5) ?hd (cs := #[.bool false, .string (⟨#[]⟩ : ByteArray)]) (t := 33) ?hr ?_; (case hd => rfl); (case hg => rfl); (case hr => first | (go_simp; done) | (go_simp; rfl)); intro gb102 hg w5 hbox hb; have n0_ := aq (below_step (stH HB) hb); have n1_ := aq (hbox); have n2_ := aq ((by rw [hg]; exact (below_size (stH HB)) : w.heap.size ≤ gb102)); have n3_ := aq ((by rw [hg]; exact (below_size (stH HB)) : w.heap.size ≤ gb102)); replace HB := n0_; have BK102 := n1_; have GW102 := n2_; have GE102 := n3_; clear n0_ n1_ n2_ n3_; clear hb hbox hg; obtain ⟨k6a, k6b⟩ := cl2 (W := w5) BK102.out; obtain ⟨u6a, u6b⟩ := fr2 BK102.out))
      go_roundg k1
      case measure => have := HK1.out; omega
      case rel => exact ⟨(wrap64 (x3_1 + (wrap64 (1 + (((rd_T33 l0 x8_1).f1).size : Int))))), (wrap64 (x8_1 + 1)), eqS, eqS, H', ⟨by have := HK1.out; omega⟩, ⟨stH HB⟩⟩
     ·rw [if_neg c4] at H
      exact absurd H (by simp)
    ·rw [if_neg c3] at H
     exact absurd H (by simp)
   ·rw [if_neg c2] at H
    have c2b0 : decide (x8_1 < (l0.length : Int)) = false := decide_eq_false c2
    clear c2
    obtain rfl := Option.some.inj H
    go_wp2
    go_ret
    exact ⟨eqW, stH HB⟩
end Go.Proofs.Ytfjmnaobfbmllaa.M
namespace Go.Proofs.Ytfjmnaobfbmllaa.M
open Go.RowKit Go.Proofs.YtfjmnaobfbmllaaW.PrintWords Go.Proofs.YtfjmnaobfbmllaaW.PrintLast Go.Proofs.YtfjmnaobfbmllaaW.PrintMore
set_option linter.unusedVariables false
set_option linter.unusedSimpArgs false
theorem w64 (n : Int) (h0 : -9223372036854775808 ≤ n) (h1 : n ≤ 9223372036854775807) : wrap64 n = n := by unfold wrap64; omega
theorem rd33 (l : List S33) (i : Nat) (h : i < l.length) : rd_T33 l (i : Int) = l[i] := by
  simp [rd_T33, List.getD_eq_getElem?_getD, List.getElem?_eq_getElem h]
theorem sumS_drop (l : List S33) (i : Nat) (h : i < l.length) : sumS (l.drop i) = 1 + l[i].f1.size + sumS (l.drop (i + 1)) := by
  rw [List.drop_eq_getElem_cons h]; rfl
theorem size_loop (l : List S33) (hb : sumS l ≤ 4611686018427387904) (d : Nat) : ∀ (k i acc : Nat), i + d = l.length → d < k → acc + sumS (l.drop i) ≤ 4611686018427387904 + 9 →
    slab_size.l0 k acc l l.length i = some ((acc + sumS (l.drop i) : Nat) : Int) := by
  induction d with
  | zero =>
    intro k i acc hi hk hs
    obtain ⟨k, rfl⟩ : ∃ m, k = m + 1 := ⟨k - 1, by omega⟩
    simp only [slab_size.l0]
    rw [if_neg (by omega), List.drop_of_length_le (by omega)]
    simp [sumS]
  | succ d ih =>
    intro k i acc hi hk hs
    obtain ⟨k, rfl⟩ : ∃ m, k = m + 1 := ⟨k - 1, by omega⟩
    have hlt : i < l.length := by omega
    have hd := sumS_drop l i hlt
    simp only [slab_size.l0]
    rw [if_pos (by omega), if_pos (by omega), if_pos (by omega), rd33 l i hlt]
    have hlen : l.length ≤ 4611686018427387904 := by
      have : ∀ m : List S33, m.length ≤ sumS m := fun m => by induction m with
        | nil => simp [sumS]
        | cons x m ih => simp only [List.length_cons, sumS]; omega
      exact Nat.le_trans (this l) hb
    rw [w64 (1 + (l[i].f1.size : Int)) (by omega) (by omega), w64 (acc + (1 + (l[i].f1.size : Int))) (by omega) (by omega), w64 ((i : Int) + 1) (by omega) (by omega)]
    have := ih k (i + 1) (acc + (1 + l[i].f1.size)) (by omega) (by omega) (by omega)
    rw [show ((acc + (1 + l[i].f1.size) : Nat) : Int) = (acc : Int) + (1 + (l[i].f1.size : Int)) by omega, show ((i + 1 : Nat) : Int) = (i : Int) + 1 by omega] at this
    rw [this, hd]
    congr 1
    omega
theorem size_pure (l : List S33) (hb : sumS l ≤ 4611686018427387904) (k : Nat) (hk : l.length < k) : slab_size.f k l = some (rawSize l : Int) := by
  have := size_loop l hb l.length k 0 9 (by omega) hk (by simp; omega)
  unfold slab_size.f rawSize
  simpa using this
def slabSize0.f (l : List S33) : Option Int := if sumS l ≤ 4611686018427387904 then some (rawSize l : Int) else none
theorem slabSize0.calls (A : Option Addr) (c : Nat) (l : List S33) (r : Int) (w : World) (hr : Kd.C k33 w A l.length l) (hc : l.length ≤ c) (h : slabSize0.f l = some r) :
    Calls Try.prog 81 #[.slice A l.length c] w fun e w' => e = .returned (.int .i64 r) ∧ Below w.heap.size w w' := by
  unfold slabSize0.f at h
  split at h
  · rename_i hb
    exact slab_size.calls (l.length + 1) A c l r w hr hc (by rw [size_pure l hb _ (by omega)]; exact h)
  · cases h
end Go.Proofs.Ytfjmnaobfbmllaa.M
namespace Go.Proofs.Ytfjmnaobfbmllaa.M
open Go.RowKit Go.Proofs.YtfjmnaobfbmllaaW.PrintWords Go.Proofs.YtfjmnaobfbmllaaW.PrintLast Go.Proofs.YtfjmnaobfbmllaaW.PrintMore
attribute [local go_sem] max2_int min2_int max_two min_two max_three min_three max_four min_four   -- for this text's walks alone
set_option linter.unusedVariables false
set_option linter.unusedSimpArgs false
def slab_isOdd.f (a0_0 : Bool) (a0_1 : ByteArray) : Option (Bool) := if a0_0 = true then (some (decide ((a0_1.size : Int) > 200))) else (if a0_1.toList = ([] : List UInt8) then (some (decide ((a0_1.size : Int) > 200))) else (some true))
set_option maxHeartbeats 8000000 in
set_option maxRecDepth 100000 in
theorem slab_isOdd.calls (a0_0 : Bool) (a0_1 : ByteArray) (r : Bool) (w : World) (h : slab_isOdd.f a0_0 a0_1 = some r) :
  Calls Try.prog 80 #[.agg #[.bool a0_0, .string a0_1]] w fun e w' => e = .returned (.bool r) ∧ Below w.heap.size w w' := by
 have hu33 := Try.underlying33
 have HB := aq (Below.refl w.heap.size w)
 have H : (if a0_0 = true then (some (decide ((a0_1.size : Int) > 200))) else (if a0_1.toList = ([] : List UInt8) then (some (decide ((a0_1.size : Int) > 200))) else (some true))) = some r := h
 clear h
 by_cases c2 : a0_0 = true
 ·subst c2
  rw [if_pos rfl] at H
  obtain rfl := Option.some.inj H
  go_enter Try.func80, Try.ntmps80
  go_wp2_with (first | ((with_reducible refine gate_dst (N := 1) rfl ?_); (try (refine gate_guard (by rfl) ?_; dsimp only)); refine box_event ?hg (N := 1) ?hd (cs := #[.bool true, .string a0_1]) (t := 33) ?hr ?_; (case hd => rfl); (case hg => rfl); (case hr => first | (go_simp; done) | (go_simp; rfl)); intro gb101 hg w3 hbox hb; have n0_ := aq (below_step (stH HB) hb); have n1_ := aq (hbox); have n2_ := aq ((by rw [hg]; exact (below_size (stH HB)) : w.heap.size ≤ gb101)); have n3_ := aq ((by rw [hg]; exact (below_size (stH HB)) : w.heap.size ≤ gb101)); replace HB := n0_; have BK101 := n1_; have GW101 := n2_; have GE101 := n3_; clear n0_ n1_ n2_ n3_; clear hb hbox hg; obtain ⟨k4a, k4b⟩ := cl2 (W := w3) BK101.out; obtain ⟨u4a, u4b⟩ := fr2 BK101.out))
  go_ret
  exact ⟨eqW, stH HB⟩
 ·replace c2 := Bool.eq_false_iff.mpr c2
  subst c2
  rw [if_neg (show ¬ (false = true) by decide)] at H
  by_cases c5 : a0_1.toList = ([] : List UInt8)
  ·rw [if_pos c5] at H
   have c5b0 : (a0_1.toList == ([] : List UInt8)) = true := beq_iff_eq.mpr c5
   have c5b1 : (a0_1.toList != ([] : List UInt8)) = false := bne_eq_false_iff_eq.mpr c5
   clear c5
   obtain rfl := Option.some.inj H
   go_enter Try.func80, Try.ntmps80
   go_wp2_with (first | ((with_reducible refine gate_dst (N := 1) rfl ?_); (try (refine gate_guard (by rfl) ?_; dsimp only)); refine box_event ?hg (N := 1) ?hd (cs := #[.bool false, .string a0_1]) (t := 33) ?hr ?_; (case hd => rfl); (case hg => rfl); (case hr => first | (go_simp; done) | (go_simp; rfl)); intro gb101 hg w6 hbox hb; have n0_ := aq (below_step (stH HB) hb); have n1_ := aq (hbox); have n2_ := aq ((by rw [hg]; exact (below_size (stH HB)) : w.heap.size ≤ gb101)); have n3_ := aq ((by rw [hg]; exact (below_size (stH HB)) : w.heap.size ≤ gb101)); replace HB := n0_; have BK101 := n1_; have GW101 := n2_; have GE101 := n3_; clear n0_ n1_ n2_ n3_; clear hb hbox hg; obtain ⟨k7a, k7b⟩ := cl2 (W := w6) BK101.out; obtain ⟨u7a, u7b⟩ := fr2 BK101.out))
   go_ret
   exact ⟨eqW, stH HB⟩
  ·rw [if_neg c5] at H
   have c5b0 : (a0_1.toList == ([] : List UInt8)) = false := beq_eq_false_iff_ne.mpr c5
   have c5b1 : (a0_1.toList != ([] : List UInt8)) = true := bne_iff_ne.mpr c5
   obtain rfl := Option.some.inj H
   go_enter Try.func80, Try.ntmps80
   go_wp2_with (first | ((with_reducible refine gate_dst (N := 1) rfl ?_); (try (refine gate_guard (by rfl) ?_; dsimp only)); refine box_event ?hg (N := 1) ?hd (cs := #[.bool false, .string a0_1]) (t := 33) ?hr ?_; (case hd => rfl); (case hg => rfl); (case hr => first | (go_simp; done) | (go_simp; rfl)); intro gb101 hg w8 hbox hb; have n0_ := aq (below_step (stH HB) hb); have n1_ := aq (hbox); have n2_ := aq ((by rw [hg]; exact (below_size (stH HB)) : w.heap.size ≤ gb101)); have n3_ := aq ((by rw [hg]; exact (below_size (stH HB)) : w.heap.size ≤ gb101)); replace HB := n0_; have BK101 := n1_; have GW101 := n2_; have GE101 := n3_; clear n0_ n1_ n2_ n3_; clear hb hbox hg; obtain ⟨k9a, k9b⟩ := cl2 (W := w8) BK101.out; obtain ⟨u9a, u9b⟩ := fr2 BK101.out))
   go_ret
   exact ⟨eqW, stH HB⟩
end Go.Proofs.Ytfjmnaobfbmllaa.M
namespace Go.Proofs.Ytfjmnaobfbmllaa.M
open Go.RowKit Go.Proofs.YtfjmnaobfbmllaaW.PrintWords Go.Proofs.YtfjmnaobfbmllaaW.PrintLast Go.Proofs.YtfjmnaobfbmllaaW.PrintMore
set_option linter.unusedVariables false
set_option linter.unusedSimpArgs false
theorem isOdd_any (x : S33) (w : World) : Calls Try.prog 80 #[.agg #[.bool x.f0, .string x.f1]] w fun e w' => e = .returned (.bool (oddS x)) ∧ Below w.heap.size w w' := by
 refine slab_isOdd.calls x.f0 x.f1 _ w ?_
 unfold slab_isOdd.f oddS
 by_cases h : x.f0 = true
 ·simp [h]
  constructor <;> intro h <;> omega
 ·by_cases h2 : x.f1.toList = []
  ·simp [h, h2]
   constructor <;> intro h <;> omega
  ·simp [h, h2]
set_option maxHeartbeats 2000000 in
theorem index_odd (A : Option Addr) (c : Nat) (l : List S33) (w : World) (hr : Kd.C k33 w A l.length l) (hc : l.length ≤ c) :
  Calls Try.prog 83 #[.slice A l.length c, .func (.func 80) #[] #[]] w fun e w' => e = .returned (.int .i64 (idxOf oddS l)) ∧ Below w.heap.size w w' := by
 have hu33 := Try.underlying33
 have hmax := Kd.C_max hr
 have HR := Aside0.mk hr
 have HC := Aside0.mk hc
 clear hr hc
 have eg : ∀ args w, (callFunc 80 args).run Try.prog w = .ok (.enter 80 args) w := enters_ Try.func80 (by kernel_rfl) rfl
 go_enter Try.func83, Try.ntmps83
 go_wp2
 go_loopg [5, 8] l.length (fun gg _ s8 wr => ∃ kk : Nat, kk ≤ l.length ∧ l.length - kk ≤ gg ∧ s8 = .int .i64 kk ∧ Aside0 (Below w.heap.size w wr) ∧ Aside0 (∀ j (h : j < l.length), j < kk → oddS l[j] = false))
 case atStart => exact ⟨0, Nat.zero_le _, by omega, rfl, ⟨Below.refl _ w⟩, ⟨fun j _ hj => absurd hj (Nat.not_lt_zero _)⟩⟩
 case round =>
  obtain ⟨kk, hkk, hg, rfl, HB, HA⟩ := hrel
  by_cases hlt : kk < l.length
  ·have p0 : 0 ≤ (kk : Int) := by omega
   have q0 : (kk : Int) < (l.length : Int) := by omega
   obtain ⟨ad, e0, hx0, hx1⟩ := at_T33 HR.out (kk : Int) p0 q0
   cases e0
   replace hx0 := (HB.out.cell (World.block_lt_of_cell? w _ hx0)).trans hx0
   replace hx1 := (HB.out.cell (World.block_lt_of_cell? w _ hx1)).trans hx1
   have HX : Aside0 (rd_T33 l (kk : Int) = l[kk]) := ⟨by simp [rd_T33, List.getD_eq_getElem?_getD, List.getElem?_eq_getElem hlt]⟩
   generalize rd_T33 l (kk : Int) = x at hx0 hx1 HX
   have hcall := isOdd_any x wr
   rw [Int.toNat_natCast] at hx0 hx1
   cases hq : oddS x with
   | true =>
    rw [hq] at hcall
    go_wp2_with (go_at_call 80; refine hcall.mono ?_; rintro e w' ⟨rfl, hb'⟩)
    go_ret
    refine ⟨?_, below_then HB.out HB.out.size hb'⟩
    rw [idxOf_hit oddS l kk hlt (by rw [← HX.out]; exact hq) (fun j h => HA.out j (by omega) h)]; rfl
   | false =>
    rw [hq] at hcall
    go_wp2_with (go_at_call 80; refine hcall.mono ?_; rintro e w' ⟨rfl, hb'⟩)
    go_roundg (l.length - (kk + 1))
    case measure => omega
    case rel =>
     refine ⟨kk + 1, by omega, by omega, by go_num, ⟨below_then HB.out HB.out.size hb'⟩, ⟨fun j h hj => ?_⟩⟩
     by_cases e : j = kk
     ·subst e
      rw [← HX.out]; exact hq
     ·exact HA.out j h (by omega)
  ·have hltz : ¬ (kk : Int) < (l.length : Int) := by omega
   go_wp2
   go_ret
   refine ⟨?_, HB.out⟩
   rw [idxOf_miss oddS l (fun j h => HA.out j h (by omega))]; rfl
def slices_ContainsOdd.f (l : List S33) : Option Bool := some (l.any oddS)
set_option maxHeartbeats 2000000 in
theorem slices_ContainsOdd.calls (A : Option Addr) (c : Nat) (l : List S33) (r : Bool) (w : World) (hr : Kd.C k33 w A l.length l) (hc : l.length ≤ c) (h : slices_ContainsOdd.f l = some r) :
  Calls Try.prog 79 #[.slice A l.length c, .func (.func 80) #[] #[]] w fun e w' => e = .returned (.bool r) ∧ Below w.heap.size w w' := by
 obtain rfl := Option.some.inj h
 have hcall := index_odd A c l w hr hc
 have H := idxOf_nonneg oddS l
 generalize idxOf oddS l = i at hcall H
 clear hr hc h
 cases hq : l.any oddS with
 | true =>
  have h0 : 0 ≤ i := H.mpr hq
  clear H
  go_enter Try.func79, Try.ntmps79
  go_wp2_with (go_at_call 83; refine hcall.mono ?_; rintro e w' ⟨rfl, hb'⟩)
  go_ret
  exact ⟨by simp [h0], hb'⟩
 | false =>
  have h0 : ¬ 0 ≤ i := fun h => by rw [H.mp h] at hq; cases hq
  clear H
  go_enter Try.func79, Try.ntmps79
  go_wp2_with (go_at_call 83; refine hcall.mono ?_; rintro e w' ⟨rfl, hb'⟩)
  go_ret
  exact ⟨by simp [h0], hb'⟩
end Go.Proofs.Ytfjmnaobfbmllaa.M
namespace Go.Proofs.Ytfjmnaobfbmllaa.M
open Go.RowKit Go.Proofs.YtfjmnaobfbmllaaW.PrintWords Go.Proofs.YtfjmnaobfbmllaaW.PrintLast Go.Proofs.YtfjmnaobfbmllaaW.PrintMore
attribute [local go_sem] max2_int min2_int max_two min_two max_three min_three max_four min_four   -- for this text's walks alone
set_option linter.unusedVariables false
set_option linter.unusedSimpArgs false
def slab_Good.f (a0_0 : Int) (l0_1 : List (S33)) : Option (Bool) := if a0_0 < 0 then (some false) else (if a0_0 > 1099511627776 then (some false) else (if (l0_1.length : Int) > 32 then (some false) else ((slices_ContainsOdd.f l0_1).bind fun t102 => (if t102 = true then (some false) else (if (l0_1.length : Int) = 0 then ((slabSize0.f l0_1).bind fun t103 => (some (decide (t103 ≤ 240)))) else (if 0 ≤ (wrap64 ((l0_1.length : Int) - 1)) then (if (wrap64 ((l0_1.length : Int) - 1)) < (l0_1.length : Int) then (if (rd_T33 l0_1 (wrap64 ((l0_1.length : Int) - 1))).f0 = true then ((slabSize0.f l0_1).bind fun t105 => (some (decide (t105 ≤ 240)))) else (some false)) else (none)) else (none)))))))
set_option maxHeartbeats 8000000 in
set_option maxRecDepth 100000 in
theorem slab_Good.calls (a0_0 : Int) (A0_1 : Option Addr) (c0_1 : Nat) (l0_1 : List (S33)) (r : Bool) (w : World) (hr0_1 : Kd.C k33 w A0_1 l0_1.length l0_1) (hc0_1 : l0_1.length ≤ c0_1) (h : slab_Good.f a0_0 l0_1 = some r) :
  Calls Try.prog 34 #[.agg #[.int .i64 a0_0, .slice A0_1 l0_1.length c0_1]] w fun e w' => e = .returned (.bool r) ∧ Below w.heap.size w w' := by
 have hu24 := Try.underlying24
 have HR0_1 := aq hr0_1
 have HC0_1 := aq hc0_1
 clear hr0_1 hc0_1
 have HB := aq (Below.refl w.heap.size w)
 have H : (if a0_0 < 0 then (some false) else (if a0_0 > 1099511627776 then (some false) else (if (l0_1.length : Int) > 32 then (some false) else ((slices_ContainsOdd.f l0_1).bind fun t102 => (if t102 = true then (some false) else (if (l0_1.length : Int) = 0 then ((slabSize0.f l0_1).bind fun t103 => (some (decide (t103 ≤ 240)))) else (if 0 ≤ (wrap64 ((l0_1.length : Int) - 1)) then (if (wrap64 ((l0_1.length : Int) - 1)) < (l0_1.length : Int) then (if (rd_T33 l0_1 (wrap64 ((l0_1.length : Int) - 1))).f0 = true then ((slabSize0.f l0_1).bind fun t105 => (some (decide (t105 ≤ 240)))) else (some false)) else (none)) else (none)))))))) = some r := h
 clear h
 by_cases c2 : a0_0 < 0
 ·rw [if_pos c2] at H
  have c2b0 : decide (a0_0 < 0) = true := decide_eq_true c2
  clear c2
  obtain rfl := Option.some.inj H
  go_enter Try.func34, Try.ntmps34
  go_wp2_with (first | ((with_reducible refine gate_dst (N := 1) rfl ?_); (try (refine gate_guard (by rfl) ?_; dsimp only)); refine box_event ?hg (N := 1) ?hd (cs := #[.int .i64 a0_0, .slice A0_1 l0_1.length c0_1]) (t := 24) ?hr ?_; (case hd => rfl); (case hg => rfl); (case hr => first | (go_simp; done) | (go_simp; rfl)); intro gb101 hg w3 hbox hb; have n0_ := aq (below_step (stH HB) hb); have n1_ := aq (hbox); have n2_ := aq ((by rw [hg]; exact (below_size (stH HB)) : w.heap.size ≤ gb101)); have n3_ := aq ((by rw [hg]; exact (below_size (stH HB)) : w.heap.size ≤ gb101)); replace HB := n0_; have BK101 := n1_; have GW101 := n2_; have GE101 := n3_; clear n0_ n1_ n2_ n3_; clear hb hbox hg; obtain ⟨k4a, k4b⟩ := cl2 (W := w3) BK101.out; obtain ⟨u4a, u4b⟩ := fr2 BK101.out))
  go_ret
  exact ⟨eqW, stH HB⟩
 ·rw [if_neg c2] at H
  have c2b0 : decide (a0_0 < 0) = false := decide_eq_false c2
  clear c2
  by_cases c5 : a0_0 > 1099511627776
  ·rw [if_pos c5] at H
   have c5b0 : decide (1099511627776 < a0_0) = true := decide_eq_true c5
   clear c5
   obtain rfl := Option.some.inj H
   go_enter Try.func34, Try.ntmps34
   go_wp2_with (first | ((with_reducible refine gate_dst (N := 1) rfl ?_); (try (refine gate_guard (by rfl) ?_; dsimp only)); refine box_event ?hg (N := 1) ?hd (cs := #[.int .i64 a0_0, .slice A0_1 l0_1.length c0_1]) (t := 24) ?hr ?_; (case hd => rfl); (case hg => rfl); (case hr => first | (go_simp; done) | (go_simp; rfl)); intro gb101 hg w6 hbox hb; have n0_ := aq (below_step (stH HB) hb); have n1_ := aq (hbox); have n2_ := aq ((by rw [hg]; exact (below_size (stH HB)) : w.heap.size ≤ gb101)); have n3_ := aq ((by rw [hg]; exact (below_size (stH HB)) : w.heap.size ≤ gb101)); replace HB := n0_; have BK101 := n1_; have GW101 := n2_; have GE101 := n3_; clear n0_ n1_ n2_ n3_; clear hb hbox hg; obtain ⟨k7a, k7b⟩ := cl2 (W := w6) BK101.out; obtain ⟨u7a, u7b⟩ := fr2 BK101.out))
   go_ret
   exact ⟨eqW, stH HB⟩
  ·rw [if_neg c5] at H
   have c5b0 : decide (1099511627776 < a0_0) = false := decide_eq_false c5
   clear c5
   by_cases c8 : (l0_1.length : Int) > 32
   ·rw [if_pos c8] at H
    have c8b0 : decide (32 < (l0_1.length : Int)) = true := decide_eq_true c8
    have c8b1 : decide (32 < l0_1.length) = true := decide_eq_true (by omega)
    clear c8
    obtain rfl := Option.some.inj H
    go_enter Try.func34, Try.ntmps34
    go_wp2_with (first | ((with_reducible refine gate_dst (N := 1) rfl ?_); (try (refine gate_guard (by rfl) ?_; dsimp only)); refine box_event ?hg (N := 1) ?hd (cs := #[.int .i64 a0_0, .slice A0_1 l0_1.length c0_1]) (t := 24) ?hr ?_; (case hd => rfl); (case hg => rfl); (case hr => first | (go_simp; done) | (go_simp; rfl)); intro gb101 hg w9 hbox hb; have n0_ := aq (below_step (stH HB) hb); have n1_ := aq (hbox); have n2_ := aq ((by rw [hg]; exact (below_size (stH HB)) : w.heap.size ≤ gb101)); have n3_ := aq ((by rw [hg]; exact (below_size (stH HB)) : w.heap.size ≤ gb101)); replace HB := n0_; have BK101 := n1_; have GW101 := n2_; have GE101 := n3_; clear n0_ n1_ n2_ n3_; clear hb hbox hg; obtain ⟨k10a, k10b⟩ := cl2 (W := w9) BK101.out; obtain ⟨u10a, u10b⟩ := fr2 BK101.out))
    go_ret
    exact ⟨eqW, stH HB⟩
   ·rw [if_neg c8] at H
    have c8b0 : decide (32 < (l0_1.length : Int)) = false := decide_eq_false c8
    have c8b1 : decide (32 < l0_1.length) = false := decide_eq_false (by omega)
    clear c8
    replace H := Option.bind_eq_some_iff.mp H
    obtain ⟨t102, A110, H⟩ := H
    try dsimp only at H
    have A11 := aq A110
    clear A110
    by_cases c12 : t102 = true
    ·subst c12
     rw [if_pos rfl] at H
     obtain rfl := Option.some.inj H
     go_enter Try.func34, Try.ntmps34
     go_wp2_with (first | ((with_reducible refine gate_dst (N := 1) rfl ?_); (try (refine gate_guard (by rfl) ?_; dsimp only)); refine box_event ?hg (N := 1) ?hd (cs := #[.int .i64 a0_0, .slice A0_1 l0_1.length c0_1]) (t := 24) ?hr ?_; (case hd => rfl); (case hg => rfl); (case hr => first | (go_simp; done) | (go_simp; rfl)); intro gb101 hg w13 hbox hb; have n0_ := aq (below_step (stH HB) hb); have n1_ := aq (hbox); have n2_ := aq ((by rw [hg]; exact (below_size (stH HB)) : w.heap.size ≤ gb101)); have n3_ := aq ((by rw [hg]; exact (below_size (stH HB)) : w.heap.size ≤ gb101)); replace HB := n0_; have BK101 := n1_; have GW101 := n2_; have GE101 := n3_; clear n0_ n1_ n2_ n3_; clear hb hbox hg; obtain ⟨k14a, k14b⟩ := cl2 (W := w13) BK101.out; obtain ⟨u14a, u14b⟩ := fr2 BK101.out) | (go_at_call 79; (with_reducible refine (slices_ContainsOdd.calls _ _ l0_1 true _ ?side1 ?side2 A11.out).mono ?_); (case side1 => exact stC (Kd.C_below HR0_1.out HB.out)); (case side2 => exact HC0_1.out); rintro e w15 ⟨rfl, hb⟩; have n0_ := aq (blk_below (stB BK101) hb); have n1_ := aq (below_step (stH HB) hb); replace BK101 := n0_; replace HB := n1_; clear n0_ n1_; (try clear hb)))
     go_ret
     exact ⟨eqW, stH HB⟩
    ·replace c12 := Bool.eq_false_iff.mpr c12
     subst c12
     rw [if_neg (show ¬ (false = true) by decide)] at H
     by_cases c16 : (l0_1.length : Int) = 0
     ·rw [if_pos c16] at H
      have c16b0 : ((l0_1.length : Int) == 0) = true := beq_iff_eq.mpr c16
      have c16b1 : ((l0_1.length : Int) != 0) = false := bne_eq_false_iff_eq.mpr c16
      clear c16
      replace H := Option.bind_eq_some_iff.mp H
      obtain ⟨t103, A170, H⟩ := H
      try dsimp only at H
      have A17 := aq A170
      clear A170
      obtain rfl := Option.some.inj H
      go_enter Try.func34, Try.ntmps34
      go_wp2_with (first | ((with_reducible refine gate_dst (N := 1) rfl ?_); (try (refine gate_guard (by rfl) ?_; dsimp only)); refine box_event ?hg (N := 1) ?hd (cs := #[.int .i64 a0_0, .slice A0_1 l0_1.length c0_1]) (t := 24) ?hr ?_; (case hd => rfl); (case hg => rfl); (case hr => first | (go_simp; done) | (go_simp; rfl)); intro gb101 hg w18 hbox hb; have n0_ := aq (below_step (stH HB) hb); have n1_ := aq (hbox); have n2_ := aq ((by rw [hg]; exact (below_size (stH HB)) : w.heap.size ≤ gb101)); have n3_ := aq ((by rw [hg]; exact (below_size (stH HB)) : w.heap.size ≤ gb101)); replace HB := n0_; have BK101 := n1_; have GW101 := n2_; have GE101 := n3_; clear n0_ n1_ n2_ n3_; clear hb hbox hg; obtain ⟨k19a, k19b⟩ := cl2 (W := w18) BK101.out; obtain ⟨u19a, u19b⟩ := fr2 BK101.out) | (go_at_call 79; (with_reducible refine (slices_ContainsOdd.calls _ _ l0_1 false _ ?side1 ?side2 A11.out).mono ?_); (case side1 => exact stC (Kd.C_below HR0_1.out HB.out)); (case side2 => exact HC0_1.out); rintro e w20 ⟨rfl, hb⟩; have n0_ := aq (blk_below (stB BK101) hb); have n1_ := aq (below_step (stH HB) hb); replace BK101 := n0_; replace HB := n1_; clear n0_ n1_; (try clear hb); obtain ⟨k21a, k21b⟩ := cl2 (W := w20) BK101.out; obtain ⟨u21a, u21b⟩ := fr2 BK101.out) | (go_at_call 81; (with_reducible refine (slabSize0.calls _ _ l0_1 t103 _ ?side1 ?side2 A17.out).mono ?_); (case side1 => exact stC (Kd.C_below HR0_1.out HB.out)); (case side2 => exact HC0_1.out); rintro e w22 ⟨rfl, hb⟩; have n0_ := aq (blk_below (stB BK101) hb); have n1_ := aq (below_step (stH HB) hb); replace BK101 := n0_; replace HB := n1_; clear n0_ n1_; (try clear hb)))
      go_ret
      exact ⟨eqW, stH HB⟩
     ·rw [if_neg c16] at H
      have c16b0 : ((l0_1.length : Int) == 0) = false := beq_eq_false_iff_ne.mpr c16
      have c16b1 : ((l0_1.length : Int) != 0) = true := bne_iff_ne.mpr c16
      have c16b2 : ¬ (l0_1 = []) := fun h_ => c16 (by rw [h_]; rfl)
      obtain ⟨ji23, hji23⟩ : ∃ j_ : Int, (wrap64 ((l0_1.length : Int) - 1)) = j_ := ⟨_, rfl⟩
      replace H : (if 0 ≤ (ji23) then (if (ji23) < (l0_1.length : Int) then (if (rd_T33 l0_1 (ji23)).f0 = true then ((slabSize0.f l0_1).bind fun t105 => (some (decide (t105 ≤ 240)))) else (some false)) else (none)) else (none)) = some r := by first | (rw [hji23] at H; exact H) | (simp only [hji23] at H ⊢; exact H)
      (try rw [hji23] at A11)
      have hji23w : (IntKind.i64.wrap ((l0_1.length : Int) - 1)) = ji23 := (i64_w _).trans hji23
      by_cases c24 : 0 ≤ (ji23)
      ·rw [if_pos c24] at H
       have c24b0 : decide (0 ≤ (ji23)) = true := decide_eq_true c24
       clear c24
       by_cases c25 : (ji23) < (l0_1.length : Int)
       ·rw [if_pos c25] at H
        have c25b0 : decide ((ji23) < (l0_1.length : Int)) = true := decide_eq_true c25
        clear c25
        obtain ⟨bq26, hbq26⟩ : ∃ b_ : Bool, b_ = ((rd_T33 l0_1 (ji23)).f0) := ⟨_, rfl⟩
        replace H : (if bq26 = true then ((slabSize0.f l0_1).bind fun t105 => (some (decide (t105 ≤ 240)))) else (some false)) = some r := by rw [← hbq26] at H; exact H
        have Nbq26 := aq hbq26
        clear hbq26
        by_cases c27 : bq26 = true
        ·subst c27
         rw [if_pos rfl] at H
         replace H := Option.bind_eq_some_iff.mp H
         obtain ⟨t105, A280, H⟩ := H
         try dsimp only at H
         have A28 := aq A280
         clear A280
         obtain rfl := Option.some.inj H
         go_enter Try.func34, Try.ntmps34
         go_wp2_with (first | ((with_reducible refine gate_dst (N := 1) rfl ?_); (try (refine gate_guard (by rfl) ?_; dsimp only)); refine box_event ?hg (N := 1) ?hd (cs := #[.int .i64 a0_0, .slice A0_1 l0_1.length c0_1]) (t := 24) ?hr ?_; (case hd => rfl); (case hg => rfl); (case hr => first | (go_simp; done) | (go_simp; rfl)); intro gb101 hg w29 hbox hb; have n0_ := aq (below_step (stH HB) hb); have n1_ := aq (hbox); have n2_ := aq ((by rw [hg]; exact (below_size (stH HB)) : w.heap.size ≤ gb101)); have n3_ := aq ((by rw [hg]; exact (below_size (stH HB)) : w.heap.size ≤ gb101)); replace HB := n0_; have BK101 := n1_; have GW101 := n2_; have GE101 := n3_; clear n0_ n1_ n2_ n3_; clear hb hbox hg; obtain ⟨k30a, k30b⟩ := cl2 (W := w29) BK101.out; obtain ⟨u30a, u30b⟩ := fr2 BK101.out) | (go_at_call 79; (with_reducible refine (slices_ContainsOdd.calls _ _ l0_1 false _ ?side1 ?side2 A11.out).mono ?_); (case side1 => exact stC (Kd.C_below HR0_1.out HB.out)); (case side2 => exact HC0_1.out); rintro e w31 ⟨rfl, hb⟩; have n0_ := aq (blk_below (stB BK101) hb); have n1_ := aq (below_step (stH HB) hb); replace BK101 := n0_; replace HB := n1_; clear n0_ n1_; (try clear hb); obtain ⟨k32a, k32b⟩ := cl2 (W := w31) BK101.out; obtain ⟨u32a, u32b⟩ := fr2 BK101.out; have p104 : 0 ≤ ((ji23) : Int) := of_decide_eq_true (by first | (with_reducible assumption) | assumption); have q104 : (ji23) < (l0_1.length : Int) := of_decide_eq_true (by first | (with_reducible assumption) | assumption); obtain ⟨ad104, e104, hx104_0, hx104_1⟩ := at_T33 HR0_1.out (ji23) p104 q104; (try rw [← Nbq26.out] at hx104_0); cases e104; replace hx104_0 := (HB.out.cell (World.block_lt_of_cell? w _ hx104_0)).trans hx104_0; replace hx104_1 := (HB.out.cell (World.block_lt_of_cell? w _ hx104_1)).trans hx104_1; replace p104 := eq_true p104; replace q104 := eq_true q104) | (go_at_call 81; (with_reducible refine (slabSize0.calls _ _ l0_1 t105 _ ?side1 ?side2 A28.out).mono ?_); (case side1 => exact stC (Kd.C_below HR0_1.out HB.out)); (case side2 => exact HC0_1.out); rintro e w33 ⟨rfl, hb⟩; have n0_ := aq (blk_below (stB BK101) hb); have n1_ := aq (below_step (stH HB) hb); replace BK101 := n0_; replace HB := n1_; clear n0_ n1_; (try clear hb)))
         go_ret
         exact ⟨by first | rfl | (simp [errW_none, errW_some] <;> rfl) | (simp only [← hji23]; first | rfl | (simp [errW_none, errW_some] <;> rfl)) | (simp [*, errW_none, errW_some] <;> rfl), stH HB⟩
        ·replace c27 := Bool.eq_false_iff.mpr c27
         subst c27
         rw [if_neg (show ¬ (false = true) by decide)] at H
         obtain rfl := Option.some.inj H
         go_enter Try.func34, Try.ntmps34
         go_wp2_with (first | ((with_reducible refine gate_dst (N := 1) rfl ?_); (try (refine gate_guard (by rfl) ?_; dsimp only)); refine box_event ?hg (N := 1) ?hd (cs := #[.int .i64 a0_0, .slice A0_1 l0_1.length c0_1]) (t := 24) ?hr ?_; (case hd => rfl); (case hg => rfl); (case hr => first | (go_simp; done) | (go_simp; rfl)); intro gb101 hg w34 hbox hb; have n0_ := aq (below_step (stH HB) hb); have n1_ := aq (hbox); have n2_ := aq ((by rw [hg]; exact (below_size (stH HB)) : w.heap.size ≤ gb101)); have n3_ := aq ((by rw [hg]; exact (below_size (stH HB)) : w.heap.size ≤ gb101)); replace HB := n0_; have BK101 := n1_; have GW101 := n2_; have GE101 := n3_; clear n0_ n1_ n2_ n3_; clear hb hbox hg; obtain ⟨k35a, k35b⟩ := cl2 (W := w34) BK101.out; obtain ⟨u35a, u35b⟩ := fr2 BK101.out) | (go_at_call 79; (with_reducible refine (slices_ContainsOdd.calls _ _ l0_1 false _ ?side1 ?side2 A11.out).mono ?_); (case side1 => exact stC (Kd.C_below HR0_1.out HB.out)); (case side2 => exact HC0_1.out); rintro e w36 ⟨rfl, hb⟩; have n0_ := aq (blk_below (stB BK101) hb); have n1_ := aq (below_step (stH HB) hb); replace BK101 := n0_; replace HB := n1_; clear n0_ n1_; (try clear hb); obtain ⟨k37a, k37b⟩ := cl2 (W := w36) BK101.out; obtain ⟨u37a, u37b⟩ := fr2 BK101.out; have p104 : 0 ≤ ((ji23) : Int) := of_decide_eq_true (by first | (with_reducible assumption) | assumption); have q104 : (ji23) < (l0_1.length : Int) := of_decide_eq_true (by first | (with_reducible assumption) | assumption); obtain ⟨ad104, e104, hx104_0, hx104_1⟩ := at_T33 HR0_1.out (ji23) p104 q104; (try rw [← Nbq26.out] at hx104_0); cases e104; replace hx104_0 := (HB.out.cell (World.block_lt_of_cell? w _ hx104_0)).trans hx104_0; replace hx104_1 := (HB.out.cell (World.block_lt_of_cell? w _ hx104_1)).trans hx104_1; replace p104 := eq_true p104; replace q104 := eq_true q104))
         go_ret
         exact ⟨by first | rfl | (simp [errW_none, errW_some] <;> rfl) | (simp only [← hji23]; first | rfl | (simp [errW_none, errW_some] <;> rfl)) | (simp [*, errW_none, errW_some] <;> rfl), stH HB⟩
       ·rw [if_neg c25] at H
        exact absurd H (by simp)
      ·rw [if_neg c24] at H
       exact absurd H (by simp)
end Go.Proofs.Ytfjmnaobfbmllaa.M
namespace Go.Proofs.Ytfjmnaobfbmllaa.M
open Go.RowKit Go.Proofs.YtfjmnaobfbmllaaW.PrintWords Go.Proofs.YtfjmnaobfbmllaaW.PrintLast Go.Proofs.YtfjmnaobfbmllaaW.PrintMore
set_option linter.unusedVariables false
set_option linter.unusedSimpArgs false
theorem sumS_small (l : List S33) (h : l.any oddS = false) : sumS l ≤ 201 * l.length := by
  induction l with
  | nil => simp [sumS]
  | cons x l ih =>
    simp only [List.any_cons, Bool.or_eq_false_iff] at h
    have h1 := h.1
    unfold oddS at h1
    simp at h1
    have := ih h.2
    simp only [sumS, List.length_cons]
    omega
theorem last33 (l : List S33) (h : 0 < l.length) : lastUsed l = (l[l.length - 1]).f0 := by
  unfold lastUsed
  rw [List.getLast?_eq_getElem?, List.getElem?_eq_getElem (by omega)]
theorem good_pure (a : Int) (l : List S33)   : slab_Good.f a l = some (goodP a l) := by
  unfold slab_Good.f goodP slices_ContainsOdd.f
  by_cases h1 : a < 0
  · rw [if_pos h1]; simp [show ¬ (0 ≤ a) by omega]
  rw [if_neg h1]
  by_cases h2 : a > 1099511627776
  · rw [if_pos h2]; simp [show ¬ (a ≤ 1099511627776) by omega]
  rw [if_neg h2]
  by_cases h3 : (l.length : Int) > 32
  · rw [if_pos h3]; simp [show ¬ (l.length ≤ 32) by omega]
  rw [if_neg h3, Option.bind_some]
  cases h4 : l.any oddS with
  | true => simp
  | false =>
    have hs := sumS_small l h4
    rw [if_neg (by simp), show slabSize0.f l = some (rawSize l : Int) by unfold slabSize0.f; rw [if_pos (by omega)], Option.bind_some]
    have e1 : decide (0 ≤ a) = true := by simp; omega
    have e2 : decide (a ≤ 1099511627776) = true := by simp; omega
    have e3 : decide (l.length ≤ 32) = true := by simp; omega
    have e4 : decide ((rawSize l : Int) ≤ 240) = decide (rawSize l ≤ 240) := by rw [decide_eq_decide]; omega
    rw [e1, e2, e3, e4]
    simp only [Bool.not_false, Bool.true_and]
    by_cases h5 : (l.length : Int) = 0
    · rw [if_pos h5]
      have : l = [] := List.eq_nil_of_length_eq_zero (by omega)
      subst this
      rfl
    · rw [if_neg h5, w64 _ (by omega) (by omega), if_pos (by omega), if_pos (by omega)]
      have hl : (l.length : Int) - 1 = ((l.length - 1 : Nat) : Int) := by omega
      rw [hl, rd33 l _ (by omega), last33 l (by omega)]
      cases h6 : (l[l.length - 1]).f0 <;> simp [h6]
def slabGood.f (a : Int) (l : List S33) : Option Bool := some (goodP a l)
theorem slabGood.calls (a : Int) (A : Option Addr) (c : Nat) (l : List S33) (r : Bool) (w : World) (hr : Kd.C k33 w A l.length l) (hc : l.length ≤ c) (h : slabGood.f a l = some r) :
    Calls Try.prog 34 #[.agg #[.int .i64 a, .slice A l.length c]] w fun e w' => e = .returned (.bool r) ∧ Below w.heap.size w w' :=
  slab_Good.calls a A c l r w hr hc (by rw [good_pure a l]; exact h)
end Go.Proofs.Ytfjmnaobfbmllaa.M
namespace Go.Proofs.Ytfjmnaobfbmllaa.M
open Go.RowKit Go.Proofs.YtfjmnaobfbmllaaW.PrintWords Go.Proofs.YtfjmnaobfbmllaaW.PrintLast Go.Proofs.YtfjmnaobfbmllaaW.PrintMore
attribute [local go_sem] max2_int min2_int max_two min_two max_three min_three max_four min_four   -- for this text's walks alone
set_option linter.unusedVariables false
set_option linter.unusedSimpArgs false
mutual
def slab_Put.j0 : Nat → Int → Bool → Int → List (S33) → Bool → ByteArray → Option (Int × (List (S33)) × Int)
 | 0, _, _, _, _, _, _ => none
 | k + 1, x1, x9, x102000, x102001, x103000, x103001 => if x9 = true then (some (0, ([] : List (S33)), 1)) else (if (x103001.size : Int) > 200 then (some (0, ([] : List (S33)), 5)) else (if 0 ≤ (mx (x102001.length : Int) (wrap64 (x1 + 1))) then (if (mx (x102001.length : Int) (wrap64 (x1 + 1)) : Int).toNat ≤ 11728124029610 then ((some (copyIn (List.replicate (mx (x102001.length : Int) (wrap64 (x1 + 1)) : Int).toNat z33) x102001 : List (S33))).bind fun y105 => (if 0 ≤ x1 then (if x1 < (y105.length : Int) then (slab_Put.l0 k (y105.set (x1 : Int).toNat (⟨x103000, x103001⟩ : S33)) x102000 x102001) else (none)) else (none))) else (none)) else (none)))
def slab_Put.l0 : Nat → List (S33) → Int → List (S33) → Option (Int × (List (S33)) × Int)
 | 0, _, _, _ => none
 | k + 1, x8, x102000, x102001 => if (x8.length : Int) > 0 then (if 0 ≤ (wrap64 ((x8.length : Int) - 1)) then (if (wrap64 ((x8.length : Int) - 1)) < (x8.length : Int) then (if ((rd_T33 x8 (wrap64 ((x8.length : Int) - 1))).f0 = true) then ((slabSize0.f x8).bind fun t110 => (if t110 > 240 then (some (0, ([] : List (S33)), 22)) else (some (x102000, x8, 0)))) else (if (wrap64 ((x8.length : Int) - 1)) ≤ (x8.length : Int) then (slab_Put.l0 k (x8.take ((wrap64 ((x8.length : Int) - 1)) : Int).toNat) x102000 x102001) else (none))) else (none)) else (none)) else ((slabSize0.f x8).bind fun t114 => (if t114 > 240 then (some (0, ([] : List (S33)), 22)) else (some (x102000, x8, 0))))
end
def slab_Put.f (k : Nat) (a0_0 : Int) (l0_1 : List (S33)) (a1 : Int) (a2_0 : Bool) (a2_1 : ByteArray) : Option (Int × (List (S33)) × Int) := (slabGood.f a0_0 l0_1).bind fun t104 => (if t104 = true then (if a1 < 0 then (slab_Put.j0 k a1 true a0_0 l0_1 a2_0 a2_1) else (if a1 ≥ 32 then (slab_Put.j0 k a1 true a0_0 l0_1 a2_0 a2_1) else (if a2_0 = true then (slab_Put.j0 k a1 false a0_0 l0_1 a2_0 a2_1) else (slab_Put.j0 k a1 (a2_1.toList != ([] : List UInt8)) a0_0 l0_1 a2_0 a2_1)))) else (slab_Put.j0 k a1 true a0_0 l0_1 a2_0 a2_1))
set_option maxHeartbeats 8000000 in
set_option maxRecDepth 100000 in
theorem slab_Put.calls (k : Nat) (a0_0 : Int) (A0_1 : Option Addr) (c0_1 : Nat) (l0_1 : List (S33)) (a1 : Int) (a2_0 : Bool) (a2_1 : ByteArray) (r1 : Int) (r2 : List (S33)) (r3 : Int) (w : World) (hr0_1 : Kd.C k33 w A0_1 l0_1.length l0_1) (hc0_1 : l0_1.length ≤ c0_1) (h : slab_Put.f k a0_0 l0_1 a1 a2_0 a2_1 = some (r1, r2, r3)) :
  Calls Try.prog 38 #[.agg #[.int .i64 a0_0, .slice A0_1 l0_1.length c0_1], .int .i64 a1, .agg #[.bool a2_0, .string a2_1]] w fun e w' => ∃ v1_ : Value, e = .returned (.tuple #[.agg #[.int .i64 r1, v1_], .int .i64 r3]) ∧ Kd.R k33 33 w' w.heap.size (fun _ => True) v1_ r2 ∧ Below w.heap.size w w' := by
 have hu24 := Try.underlying24
 have hu33 := Try.underlying33
 have HR0_1 := aq hr0_1
 have HC0_1 := aq hc0_1
 clear hr0_1 hc0_1
 have HB := aq (Below.refl w.heap.size w)
 have H : ((slabGood.f a0_0 l0_1).bind fun t104 => (if t104 = true then (if a1 < 0 then (slab_Put.j0 k a1 true a0_0 l0_1 a2_0 a2_1) else (if a1 ≥ 32 then (slab_Put.j0 k a1 true a0_0 l0_1 a2_0 a2_1) else (if a2_0 = true then (slab_Put.j0 k a1 false a0_0 l0_1 a2_0 a2_1) else (slab_Put.j0 k a1 (a2_1.toList != ([] : List UInt8)) a0_0 l0_1 a2_0 a2_1)))) else (slab_Put.j0 k a1 true a0_0 l0_1 a2_0 a2_1))) = some (r1, r2, r3) := h
 clear h
 have HC4 := aq H
 clear H
 go_enter Try.func38, Try.ntmps38
 go_upto_region 1 with (first | ((with_reducible refine gate_dst (N := 3) rfl ?_); (try (refine gate_guard (by rfl) ?_; dsimp only)); refine box_event ?hg (N := 3) ?hd (cs := #[.int .i64 a0_0, .slice A0_1 l0_1.length c0_1]) (t := 24) ?hr ?_; (case hd => rfl); (case hg => rfl); (case hr => first | (go_simp; done) | (go_simp; rfl)); intro gb101 hg w5 hbox hb; have n0_ := aq (below_step (stH HB) hb); have n1_ := aq (hbox); have n2_ := aq ((by rw [hg]; exact (below_size (stH HB)) : w.heap.size ≤ gb101)); have n3_ := aq ((by rw [hg]; exact (below_size (stH HB)) : w.heap.size ≤ gb101)); replace HB := n0_; have BK101 := n1_; have GW101 := n2_; have GE101 := n3_; clear n0_ n1_ n2_ n3_; clear hb hbox hg) | ((with_reducible refine gate_dst (N := 5) rfl ?_); (try (refine gate_guard (by rfl) ?_; dsimp only)); refine box_event ?hg (N := 5) ?hd (cs := #[.bool a2_0, .string a2_1]) (t := 33) ?hr ?_; (case hd => rfl); (case hg => rfl); (case hr => first | (go_simp; done) | (go_simp; rfl)); intro gb102 hg w6 hbox hb; have n0_ := aq (blk_below (stB BK101) hb); have n1_ := aq (below_step (stH HB) hb); have n2_ := aq (hbox); have n3_ := aq ((by rw [hg]; exact (below_size (stH HB)) : w.heap.size ≤ gb102)); have n4_ := aq ((by rw [hg]; exact (below_size (stH HB)) : w.heap.size ≤ gb102)); have n5_ := aq ((by rw [hg]; exact Nat.ne_of_lt (blk_lt (stB BK101)) : gb101 ≠ gb102)); have n6_ := aq ((by rw [hg]; exact Nat.ne_of_gt (blk_lt (stB BK101)) : gb102 ≠ gb101)); replace BK101 := n0_; replace HB := n1_; have BK102 := n2_; have GW102 := n3_; have GE102 := n4_; have NB101_102 := n5_; have NB102_101 := n6_; clear n0_ n1_ n2_ n3_ n4_ n5_ n6_; clear hb hbox hg) | ((with_reducible refine gate_dst (N := 6) rfl ?_); (try (refine gate_guard (by rfl) ?_; dsimp only)); refine box_event ?hg (N := 6) ?hd (cs := #[.int .i64 0, .slice none 0 0]) (t := 24) ?hr ?_; (case hd => rfl); (case hg => rfl); (case hr => first | (go_simp; done) | (go_simp; rfl)); intro gb103 hg w7 hbox hb; have n0_ := aq (blk_below (stB BK101) hb); have n1_ := aq (blk_below (stB BK102) hb); have n2_ := aq (below_step (stH HB) hb); have n3_ := aq (hbox); have n4_ := aq ((by rw [hg]; exact (below_size (stH HB)) : w.heap.size ≤ gb103)); have n5_ := aq ((by rw [hg]; exact (below_size (stH HB)) : w.heap.size ≤ gb103)); have n6_ := aq ((by rw [hg]; exact Nat.ne_of_lt (blk_lt (stB BK101)) : gb101 ≠ gb103)); have n7_ := aq ((by rw [hg]; exact Nat.ne_of_gt (blk_lt (stB BK101)) : gb103 ≠ gb101)); have n8_ := aq ((by rw [hg]; exact Nat.ne_of_lt (blk_lt (stB BK102)) : gb102 ≠ gb103)); have n9_ := aq ((by rw [hg]; exact Nat.ne_of_gt (blk_lt (stB BK102)) : gb103 ≠ gb102)); replace BK101 := n0_; replace BK102 := n1_; replace HB := n2_; have BK103 := n3_; have GW103 := n4_; have GE103 := n5_; have NB101_103 := n6_; have NB103_101 := n7_; have NB102_103 := n8_; have NB103_102 := n9_; clear n0_ n1_ n2_ n3_ n4_ n5_ n6_ n7_ n8_ n9_; clear hb hbox hg))
 (try simp only [Act.put, List.setIfInBounds_toArray, List.set_cons_zero, List.set_cons_succ])
 go_cut [9] (fun v9 wc => ∃ (kq : Nat) (x9_3 : Bool), v9 = .bool x9_3 ∧ Aside0 (slab_Put.j0 kq a1 x9_3 a0_0 l0_1 a2_0 a2_1 = some (r1, r2, r3)) ∧ Aside0 (kq ≤ k) ∧ Aside0 (wc.heap[gb101]? = some (.cells #[.int .i64 a0_0, (.slice A0_1 l0_1.length c0_1)] 24 (0, 0))) ∧ Aside0 (wc.heap[gb102]? = some (.cells #[.bool a2_0, .string a2_1] 33 (0, 0))) ∧ Aside0 (wc.heap[gb103]? = some (.cells #[.int .i64 0, (.slice none 0 0)] 24 (0, 0))) ∧ Aside0 (Below w.heap.size w wc))
 case first =>
  have H := HC4.out
  clear HC4
  replace H := Option.bind_eq_some_iff.mp H
  obtain ⟨t104, A80, H⟩ := H
  try dsimp only at H
  have A8 := aq A80
  clear A80
  by_cases c9 : t104 = true
  ·subst c9
   rw [if_pos rfl] at H
   by_cases c10 : a1 < 0
   ·rw [if_pos c10] at H
    have c10b0 : decide (a1 < 0) = true := decide_eq_true c10
    clear c10
    (first | rw [c10b0] | (simp only [i64_w, i32_w]; rw [c10b0]) | skip)
    have H' := aq H
    clear H
    have hnb11 := NB101_102.out
    have hnc11 := NB102_101.out
    have hnb12 := NB101_103.out
    have hnc12 := NB103_101.out
    obtain ⟨k13a, k13b⟩ := cl2 (W := w7) BK101.out
    obtain ⟨u13a, u13b⟩ := fr2 BK101.out
    go_wp2_with (first | ((with_reducible refine gate_callee (f := 34) rfl ?_); refine goesL_ (some 11) rfl rfl Try.func34 (by kernel_rfl) rfl #[.agg #[.int .i64 a0_0, .slice A0_1 l0_1.length c0_1]] rfl fitR ?_; (with_reducible refine (slabGood.calls a0_0 _ _ l0_1 true _ ?side1 ?side2 A8.out).mono ?_); (case side1 => exact stC (Kd.C_below HR0_1.out HB.out)); (case side2 => exact HC0_1.out); rintro e w14 ⟨rfl, hb⟩; refine ⟨_, rfl, ?_⟩; have n0_ := aq (blk_below (stB BK101) hb); have n1_ := aq (blk_below (stB BK102) hb); have n2_ := aq (blk_below (stB BK103) hb); have n3_ := aq (below_step (stH HB) hb); replace BK101 := n0_; replace BK102 := n1_; replace BK103 := n2_; replace HB := n3_; clear n0_ n1_ n2_ n3_; (try clear hb)))
    go_meet
    case rel => exact ⟨_, (true), (by first | rfl | (simp; done) | (simp [*]; done) | exact isEmpty_ne _ | (simp; exact isEmpty_ne _) | (simp [*]; exact isEmpty_ne _)), H', ⟨by first | omega | exact Nat.le_refl _⟩, ⟨stB BK101⟩, ⟨stB BK102⟩, ⟨stB BK103⟩, ⟨stH HB⟩⟩
   ·rw [if_neg c10] at H
    have c10b0 : decide (a1 < 0) = false := decide_eq_false c10
    clear c10
    (first | rw [c10b0] | (simp only [i64_w, i32_w]; rw [c10b0]) | skip)
    by_cases c15 : a1 ≥ 32
    ·rw [if_pos c15] at H
     have c15b0 : decide (32 ≤ a1) = true := decide_eq_true c15
     clear c15
     have H' := aq H
     clear H
     have hnb16 := NB101_102.out
     have hnc16 := NB102_101.out
     have hnb17 := NB101_103.out
     have hnc17 := NB103_101.out
     obtain ⟨k18a, k18b⟩ := cl2 (W := w7) BK101.out
     obtain ⟨u18a, u18b⟩ := fr2 BK101.out
     go_wp2_with (first | ((with_reducible refine gate_callee (f := 34) rfl ?_); refine goesL_ (some 11) rfl rfl Try.func34 (by kernel_rfl) rfl #[.agg #[.int .i64 a0_0, .slice A0_1 l0_1.length c0_1]] rfl fitR ?_; (with_reducible refine (slabGood.calls a0_0 _ _ l0_1 true _ ?side1 ?side2 A8.out).mono ?_); (case side1 => exact stC (Kd.C_below HR0_1.out HB.out)); (case side2 => exact HC0_1.out); rintro e w19 ⟨rfl, hb⟩; refine ⟨_, rfl, ?_⟩; have n0_ := aq (blk_below (stB BK101) hb); have n1_ := aq (blk_below (stB BK102) hb); have n2_ := aq (blk_below (stB BK103) hb); have n3_ := aq (below_step (stH HB) hb); replace BK101 := n0_; replace BK102 := n1_; replace BK103 := n2_; replace HB := n3_; clear n0_ n1_ n2_ n3_; (try clear hb)))
     go_meet
     case rel => exact ⟨_, (true), (by first | rfl | (simp; done) | (simp [*]; done) | exact isEmpty_ne _ | (simp; exact isEmpty_ne _) | (simp [*]; exact isEmpty_ne _)), H', ⟨by first | omega | exact Nat.le_refl _⟩, ⟨stB BK101⟩, ⟨stB BK102⟩, ⟨stB BK103⟩, ⟨stH HB⟩⟩
    ·rw [if_neg c15] at H
     have c15b0 : decide (32 ≤ a1) = false := decide_eq_false c15
     clear c15
     by_cases c20 : a2_0 = true
     ·subst c20
      rw [if_pos rfl] at H
      have H' := aq H
      clear H
      have hnb21 := NB101_102.out
      have hnc21 := NB102_101.out
      have hnb22 := NB101_103.out
      have hnc22 := NB103_101.out
      obtain ⟨k23a, k23b⟩ := cl2 (W := w7) BK101.out
      obtain ⟨u23a, u23b⟩ := fr2 BK101.out
      go_wp2_with (first | ((with_reducible refine gate_callee (f := 34) rfl ?_); refine goesL_ (some 11) rfl rfl Try.func34 (by kernel_rfl) rfl #[.agg #[.int .i64 a0_0, .slice A0_1 l0_1.length c0_1]] rfl fitR ?_; (with_reducible refine (slabGood.calls a0_0 _ _ l0_1 true _ ?side1 ?side2 A8.out).mono ?_); (case side1 => exact stC (Kd.C_below HR0_1.out HB.out)); (case side2 => exact HC0_1.out); rintro e w24 ⟨rfl, hb⟩; refine ⟨_, rfl, ?_⟩; have n0_ := aq (blk_below (stB BK101) hb); have n1_ := aq (blk_below (stB BK102) hb); have n2_ := aq (blk_below (stB BK103) hb); have n3_ := aq (below_step (stH HB) hb); replace BK101 := n0_; replace BK102 := n1_; replace BK103 := n2_; replace HB := n3_; clear n0_ n1_ n2_ n3_; (try clear hb); have hnb25 := NB102_103.out; have hnc25 := NB103_102.out; obtain ⟨k26a, k26b⟩ := cl2 (W := w24) BK102.out; obtain ⟨u26a, u26b⟩ := fr2 BK102.out))
      go_meet
      case rel => exact ⟨_, (false), (by first | rfl | (simp; done) | (simp [*]; done) | exact isEmpty_ne _ | (simp; exact isEmpty_ne _) | (simp [*]; exact isEmpty_ne _)), H', ⟨by first | omega | exact Nat.le_refl _⟩, ⟨stB BK101⟩, ⟨stB BK102⟩, ⟨stB BK103⟩, ⟨stH HB⟩⟩
     ·replace c20 := Bool.eq_false_iff.mpr c20
      subst c20
      rw [if_neg (show ¬ (false = true) by decide)] at H
      have H' := aq H
      clear H
      have hnb27 := NB101_102.out
      have hnc27 := NB102_101.out
      have hnb28 := NB101_103.out
      have hnc28 := NB103_101.out
      obtain ⟨k29a, k29b⟩ := cl2 (W := w7) BK101.out
      obtain ⟨u29a, u29b⟩ := fr2 BK101.out
      go_wp2_with (first | ((with_reducible refine gate_callee (f := 34) rfl ?_); refine goesL_ (some 11) rfl rfl Try.func34 (by kernel_rfl) rfl #[.agg #[.int .i64 a0_0, .slice A0_1 l0_1.length c0_1]] rfl fitR ?_; (with_reducible refine (slabGood.calls a0_0 _ _ l0_1 true _ ?side1 ?side2 A8.out).mono ?_); (case side1 => exact stC (Kd.C_below HR0_1.out HB.out)); (case side2 => exact HC0_1.out); rintro e w30 ⟨rfl, hb⟩; refine ⟨_, rfl, ?_⟩; have n0_ := aq (blk_below (stB BK101) hb); have n1_ := aq (blk_below (stB BK102) hb); have n2_ := aq (blk_below (stB BK103) hb); have n3_ := aq (below_step (stH HB) hb); replace BK101 := n0_; replace BK102 := n1_; replace BK103 := n2_; replace HB := n3_; clear n0_ n1_ n2_ n3_; (try clear hb); have hnb31 := NB102_103.out; have hnc31 := NB103_102.out; obtain ⟨k32a, k32b⟩ := cl2 (W := w30) BK102.out; obtain ⟨u32a, u32b⟩ := fr2 BK102.out))
      go_meet
      case rel => exact ⟨_, ((a2_1.toList != ([] : List UInt8))), (by first | rfl | (simp; done) | (simp [*]; done) | exact isEmpty_ne _ | (simp; exact isEmpty_ne _) | (simp [*]; exact isEmpty_ne _)), H', ⟨by first | omega | exact Nat.le_refl _⟩, ⟨stB BK101⟩, ⟨stB BK102⟩, ⟨stB BK103⟩, ⟨stH HB⟩⟩
  ·replace c9 := Bool.eq_false_iff.mpr c9
   subst c9
   rw [if_neg (show ¬ (false = true) by decide)] at H
   have H' := aq H
   clear H
   have hnb33 := NB101_102.out
   have hnc33 := NB102_101.out
   have hnb34 := NB101_103.out
   have hnc34 := NB103_101.out
   obtain ⟨k35a, k35b⟩ := cl2 (W := w7) BK101.out
   obtain ⟨u35a, u35b⟩ := fr2 BK101.out
   go_wp2_with (first | ((with_reducible refine gate_callee (f := 34) rfl ?_); refine goesL_ (some 11) rfl rfl Try.func34 (by kernel_rfl) rfl #[.agg #[.int .i64 a0_0, .slice A0_1 l0_1.length c0_1]] rfl fitR ?_; (with_reducible refine (slabGood.calls a0_0 _ _ l0_1 false _ ?side1 ?side2 A8.out).mono ?_); (case side1 => exact stC (Kd.C_below HR0_1.out HB.out)); (case side2 => exact HC0_1.out); rintro e w36 ⟨rfl, hb⟩; refine ⟨_, rfl, ?_⟩; have n0_ := aq (blk_below (stB BK101) hb); have n1_ := aq (blk_below (stB BK102) hb); have n2_ := aq (blk_below (stB BK103) hb); have n3_ := aq (below_step (stH HB) hb); replace BK101 := n0_; replace BK102 := n1_; replace BK103 := n2_; replace HB := n3_; clear n0_ n1_ n2_ n3_; (try clear hb)))
   go_meet
   case rel => exact ⟨_, (true), (by first | rfl | (simp; done) | (simp [*]; done) | exact isEmpty_ne _ | (simp; exact isEmpty_ne _) | (simp [*]; exact isEmpty_ne _)), H', ⟨by first | omega | exact Nat.le_refl _⟩, ⟨stB BK101⟩, ⟨stB BK102⟩, ⟨stB BK103⟩, ⟨stH HB⟩⟩
 case rest =>
  clear HC4
  try clear c1
  try clear c2
  try clear p2
  try clear c3
  try clear c9
  try clear c10
  try clear c10b0
  try clear c11
  try clear c12
  try clear c15
  try clear c15b0
  try clear c16
  try clear c17
  try clear c20
  try clear c21
  try clear c22
  try clear c25
  try clear c27
  try clear c28
  try clear c31
  try clear c33
  try clear c34
  obtain ⟨kq, x9_3, rfl, HA, HJ3, BK101, BK102, BK103, HB⟩ := hcut
  cases kq with
  | zero => exact absurd HA.out (by simp [slab_Put.j0])
  | succ kj3 =>
   have H := HA.out
   clear HA
   simp only [slab_Put.j0] at H
   by_cases c37 : x9_3 = true
   ·subst c37
    rw [if_pos rfl] at H
    simp only [Option.some.injEq, Prod.mk.injEq] at H
    obtain ⟨rfl, rfl, rfl⟩ := H
    have hnb38 := NB103_101.out
    have hnc38 := NB101_103.out
    have hnb39 := NB103_102.out
    have hnc39 := NB102_103.out
    obtain ⟨k40a, k40b⟩ := cl2 (W := wc) BK103.out
    obtain ⟨u40a, u40b⟩ := fr2 BK103.out
    go_wp2
    refine bodyPost_ret (results_ct rfl _ _ gb103 24 #[.int .i64 0, .slice none 0 0] (0, 0) _ rfl (by (with_reducible repeat (first | refine blk_drewN ?_ _ | refine blk_drew ?_ | refine blk_alloc ?_ _)); refine puts2 (cs := #[.int .i64 0, .slice none 0 0]) rfl ?_; (with_reducible repeat (first | refine blk_drewN ?_ _ | refine blk_drew ?_ | refine blk_alloc ?_ _)); exact BK103.out) Try.underlying24 rfl (by kernel_rfl)) rfl ?_
    exact ⟨_, eqW, by first | exact Kd.R_nil _ _ _ _ _ | exact Kd.N_nil _ _ _ _ _ | exact Kd.V_nil _ _ _ _ _ | exact Kd.Q_nil _ _ _ _ _ | exact Kd.S_nil _ _ _ _ _, by repeat (first | (with_reducible first | exact HB.out | apply below_alloc | apply pw_below_drewN | apply below_drew1 | refine below_set ?_ GE101.out | refine below_set ?_ GE102.out | refine below_set ?_ GE103.out) | exact HB.out)⟩
   ·replace c37 := Bool.eq_false_iff.mpr c37
    subst c37
    rw [if_neg (show ¬ (false = true) by decide)] at H
    by_cases c41 : (a2_1.size : Int) > 200
    ·rw [if_pos c41] at H
     have c41b0 : decide (200 < (a2_1.size : Int)) = true := decide_eq_true c41
     have c41b1 : decide (200 < a2_1.size) = true := decide_eq_true (by omega)
     clear c41
     simp only [Option.some.injEq, Prod.mk.injEq] at H
     obtain ⟨rfl, rfl, rfl⟩ := H
     have hnb42 := NB102_101.out
     have hnc42 := NB101_102.out
     have hnb43 := NB102_103.out
     have hnc43 := NB103_102.out
     obtain ⟨k44a, k44b⟩ := cl2 (W := wc) BK102.out
     obtain ⟨u44a, u44b⟩ := fr2 BK102.out
     have hnb45 := NB103_101.out
     have hnc45 := NB101_103.out
     obtain ⟨k46a, k46b⟩ := cl2 (W := wc) BK103.out
     obtain ⟨u46a, u46b⟩ := fr2 BK103.out
     go_wp2
     refine bodyPost_ret (results_ct rfl _ _ gb103 24 #[.int .i64 0, .slice none 0 0] (0, 0) _ rfl (by (with_reducible repeat (first | refine blk_drewN ?_ _ | refine blk_drew ?_ | refine blk_alloc ?_ _)); refine puts2 (cs := #[.int .i64 0, .slice none 0 0]) rfl ?_; (with_reducible repeat (first | refine blk_drewN ?_ _ | refine blk_drew ?_ | refine blk_alloc ?_ _)); exact BK103.out) Try.underlying24 rfl (by kernel_rfl)) rfl ?_
     exact ⟨_, eqW, by first | exact Kd.R_nil _ _ _ _ _ | exact Kd.N_nil _ _ _ _ _ | exact Kd.V_nil _ _ _ _ _ | exact Kd.Q_nil _ _ _ _ _ | exact Kd.S_nil _ _ _ _ _, by repeat (first | (with_reducible first | exact HB.out | apply below_alloc | apply pw_below_drewN | apply below_drew1 | refine below_set ?_ GE101.out | refine below_set ?_ GE102.out | refine below_set ?_ GE103.out) | exact HB.out)⟩
    ·rw [if_neg c41] at H
     have c41b0 : decide (200 < (a2_1.size : Int)) = false := decide_eq_false c41
     have c41b1 : decide (200 < a2_1.size) = false := decide_eq_false (by omega)
     clear c41
     obtain ⟨ji47, hji47⟩ : ∃ j_ : Int, (mx (l0_1.length : Int) (wrap64 (a1 + 1))) = j_ := ⟨_, rfl⟩
     replace H : (if 0 ≤ (ji47) then (if (ji47 : Int).toNat ≤ 11728124029610 then ((some (copyIn (List.replicate (ji47 : Int).toNat z33) l0_1 : List (S33))).bind fun y105 => (if 0 ≤ a1 then (if a1 < (y105.length : Int) then (slab_Put.l0 kj3 (y105.set (a1 : Int).toNat (⟨a2_0, a2_1⟩ : S33)) a0_0 l0_1) else (none)) else (none))) else (none)) else (none)) = some (r1, r2, r3) := by first | (rw [hji47] at H; exact H) | (simp only [hji47] at H ⊢; exact H)
     have hji47_ : (if (l0_1.length : Int) < (wrap64 (a1 + 1)) then (wrap64 (a1 + 1)) else (l0_1.length : Int)) = ji47 := hji47
     by_cases c48 : 0 ≤ (ji47)
     ·rw [if_pos c48] at H
      have c48b0 := eq_true c48
      have c48b1 : decide (0 ≤ (ji47)) = true := decide_eq_true c48
      clear c48
      by_cases c49 : (ji47 : Int).toNat ≤ 11728124029610
      ·rw [if_pos c49] at H
       have c49b0 := eq_true c49
       have c49b1 : decide ((ji47 : Int).toNat ≤ 11728124029610) = true := decide_eq_true c49
       clear c49
       obtain ⟨yb, hyb⟩ : ∃ y_ : List (S33), y_ = (List.replicate (ji47 : Int).toNat z33) := ⟨_, rfl⟩
       obtain ⟨y105, hy105⟩ : ∃ y_ : List (S33), y_ = copyIn yb l0_1 := ⟨_, rfl⟩
       replace H : (if 0 ≤ a1 then (if a1 < (y105.length : Int) then (slab_Put.l0 kj3 (y105.set (a1 : Int).toNat (⟨a2_0, a2_1⟩ : S33)) a0_0 l0_1) else (none)) else (none)) = some (r1, r2, r3) := by rw [hy105, hyb]; exact H
       have hleb : l0_1.length ≤ yb.length := by
        rw [hyb, List.length_replicate, ← hji47]
        unfold mx
        split <;> omega
       have HLEB := aq hleb
       have HLB : Aside0 (yb.length = y105.length) := ⟨by rw [hy105, copyIn_length yb l0_1 hleb]⟩
       have Nyb := aq hyb
       clear hyb hleb
       have Ny105 := aq hy105
       clear hy105
       by_cases c50 : 0 ≤ a1
       ·rw [if_pos c50] at H
        have c50b0 : decide (0 ≤ a1) = true := decide_eq_true c50
        clear c50
        by_cases c51 : a1 < (y105.length : Int)
        ·rw [if_pos c51] at H
         have c51b0 : decide (a1 < (y105.length : Int)) = true := decide_eq_true c51
         clear c51
         obtain ⟨y108, hy108⟩ : ∃ y_ : List (S33), y_ = (y105.set (a1 : Int).toNat (⟨a2_0, a2_1⟩ : S33)) := ⟨_, rfl⟩
         replace H : (slab_Put.l0 kj3 y108 a0_0 l0_1) = some (r1, r2, r3) := by first | (rw [hy108]; with_reducible exact H) | (have H2_ := (Option.bind_some _ _).symm.trans H; rw [hy108]; with_reducible exact H2_) | (have H2_ := (Option.bind_some _ _).symm.trans H; with_reducible exact H2_) | with_reducible exact H | (rw [hy108]; exact H) | exact H
         have Ny108 := aq hy108
         clear hy108
         have H' := aq H
         clear H
         have hnb53 := NB102_101.out
         have hnc53 := NB101_102.out
         have hnb54 := NB102_103.out
         have hnc54 := NB103_102.out
         obtain ⟨k55a, k55b⟩ := cl2 (W := wc) BK102.out
         obtain ⟨u55a, u55b⟩ := fr2 BK102.out
         have hnb56 := NB101_103.out
         have hnc56 := NB103_101.out
         obtain ⟨k57a, k57b⟩ := cl2 (W := wc) BK101.out
         obtain ⟨u57a, u57b⟩ := fr2 BK101.out
         go_wp2_with (first | ((with_reducible refine gate_dst (N := 44) rfl ?_); (try (refine gate_guard (by rfl) ?_; dsimp only)); refine Kd.R_make k33 _ 33 rfl (N := 44) rfl 22 _ _ rfl ji47 rfl rfl Try.underlying22 (.agg #[(.bool false), (.string ⟨#[]⟩)]) 24 info33 rfl (by decide) (by omega) z33 (ok := fun _ => True) (okp := fun _ => True) (k33_mkM _ _ _ z33 ) (fun _ hk => hk) trivial (of_decide_eq_true (by first | (with_reducible assumption) | assumption)) (Nat.le_trans (Nat.mul_le_mul_right _ (of_decide_eq_true (by first | (with_reducible assumption) | assumption) : ji47.toNat ≤ 11728124029610)) (by omega)) (Below.refl _ _) (Nat.le_refl _) ?_; intro v106 w58 ho59 hb hg_ hnew_; clear hg_ hnew_; (first | rw [← Nyb.out] at ho59 | (simp only [Int.reduceToNat] at ho59; rw [← Nyb.out] at ho59)); have n0_ := aq (Kd.R_lower (Kd.R_newB ho59 (stB BK102)) (below_size (stH HB))); have n1_ := aq (blk_below (stB BK101) hb); have n2_ := aq (blk_below (stB BK102) hb); have n3_ := aq (blk_below (stB BK103) hb); have n4_ := aq (below_step (stH HB) hb); have HO107 := n0_; replace BK101 := n1_; replace BK102 := n2_; replace BK103 := n3_; replace HB := n4_; clear n0_ n1_ n2_ n3_ n4_; clear hb ho59; obtain ⟨k60a, k60b⟩ := cl2 (W := w58) BK101.out; obtain ⟨u60a, u60b⟩ := fr2 BK101.out; obtain ⟨k61a, k61b⟩ := cl2 (W := w58) BK102.out; obtain ⟨u61a, u61b⟩ := fr2 BK102.out; have q52b : 0 < yb.length := (by have h1_ := HLB.out; have h2_ : a1 < (y105.length : Int) := of_decide_eq_true (by first | (with_reducible assumption) | assumption); have h3_ : 0 ≤ a1 := of_decide_eq_true (by first | (with_reducible assumption) | assumption); omega); obtain ⟨go52, co52, eo52, gb52, gl52, cl52, HG52⟩ := Kd.R_form HO107.out q52b; clear q52b; rw [HLB.out] at eo52; (first | cases eo52 | (injection eo52 with ea_ en_ ec_; (first | subst ea_ | (injection ea_ with ea_; subst ea_)); subst ec_; clear en_)); have GB52 := aq gb52; have GG52 := aq HG52; clear gb52 gl52 HG52; have n_ := aq (Kd.R_mono (ok' := (fun k_ => k_ ≠ gb102)) HO107.out (fun k_ hk => hk.2)); clear HO107; have HO107 := n_; clear n_) | ((with_reducible refine gate_dst (N := 48) rfl ?_); refine copy33_event rfl (N := 48) rfl _ _ rfl (xs := yb) (ys := l0_1) rfl rfl (by (with_reducible repeat (first | apply Kd.R_alloc | apply Kd.R_drewN | apply Kd.R_drew)); exact HO107.out) (by exact stC (Kd.C_below HR0_1.out HB.out)) HLEB.out ?_; intro w59 hR59 hg hb59; rw [← Ny105.out] at hR59; have n0_ := aq (blk_grown (stB BK101) hg (Kd.R_ne HO107.out BK101.out (by decide))); have n1_ := aq (blk_grown (stB BK102) hg (Kd.R_away HO107.out (fun _ hk => hk))); have n2_ := aq (blk_grown (stB BK103) hg (Kd.R_ne HO107.out BK103.out (by decide))); have n3_ := aq hR59; have n4_ := aq (HB.out.trans hb59); clear BK101 BK102 BK103 HO107 HB; have BK101 := n0_; have BK102 := n1_; have BK103 := n2_; have HO107 := n3_; have HB := n4_; clear n0_ n1_ n2_ n3_ n4_ hg hb59 hR59; obtain ⟨k70a, k70b⟩ := cl2 (W := w59) BK102.out; obtain ⟨u70a, u70b⟩ := fr2 BK102.out; have p52 : 0 ≤ (a1 : Int) := of_decide_eq_true (by first | (with_reducible assumption) | assumption); have q52 : (a1 : Int) < ((y105.length : Int) : Int) := of_decide_eq_true (by first | (with_reducible assumption) | assumption); obtain ⟨ce52, hcl52, hM52, hcc52, hfr52⟩ := Kd.R_elem HO107.out z33 (a1 : Int) p52 q52; obtain rfl := k33_openM hM52; have hx52_0 : w59.cell? ⟨go52, (a1 : Int).toNat * 2, none⟩ = some (.bool ((rd_T33 y105 a1).f0)) := hcc52 0 _ rfl; have hx52_1 : w59.cell? ⟨go52, (a1 : Int).toNat * 2 + 1, none⟩ = some (.string ((rd_T33 y105 a1).f1)) := hcc52 1 _ rfl; have hf52_0 : w59.frozen? ⟨go52, (a1 : Int).toNat * 2, none⟩ = false := hfr52 0; have hf52_1 : w59.frozen? ⟨go52, (a1 : Int).toNat * 2 + 1, none⟩ = false := hfr52 1; clear hcl52 hcc52 hfr52 hM52; replace p52 := eq_true p52; replace q52 := eq_true q52; have HX62 := aq (show Kd.R k33 33 w59 w.heap.size (fun k_ => k_ ≠ gb102) (.slice (some ⟨go52, 0, none⟩) y105.length co52) y105 from (by (with_reducible repeat (first | apply Kd.R_alloc | apply Kd.R_drewN | apply Kd.R_drew)); exact HO107.out)); obtain ⟨ce62, hcl62, hM62, hcc62, hfr62⟩ := Kd.R_elem HX62.out z33 (a1 : Int) (of_decide_eq_true (by first | (with_reducible assumption) | assumption)) (by have h_ : (a1 : Int) < ((y105.length : Int) : Int) := of_decide_eq_true (by first | (with_reducible assumption) | assumption); first | exact h_ | (have e_ := (Kd.R_reads' HO107.out).1; omega) | simpa using h_); obtain rfl := k33_openM hM62; have HP62 := Kd.R_seg HX62.out (a1 : Int) (of_decide_eq_true (by first | (with_reducible assumption) | assumption)) (by have h_ : (a1 : Int) < ((y105.length : Int) : Int) := of_decide_eq_true (by first | (with_reducible assumption) | assumption); first | exact h_ | (have e_ := (Kd.R_reads' HO107.out).1; omega) | simpa using h_) (seg := [.bool a2_0, .string a2_1]) (j := 0) hcl62 hcc62 (show 2 ≤ 2 from by decide) (x' := (⟨a2_0, a2_1⟩ : S33)) (k33_mkM _ _ _ (⟨a2_0, a2_1⟩ : S33) ) (fun _ hk => hk); have hx62_0 := hcc62 0 _ rfl; (try simp only [show (k33).sz = 2 from rfl, Nat.mul_one, Nat.add_zero] at hx62_0); have hf62_0 := hfr62 0; (try simp only [show (k33).sz = 2 from rfl, Nat.mul_one, Nat.add_zero] at hf62_0); have hx62_1 := hcc62 1 _ rfl; (try simp only [show (k33).sz = 2 from rfl, Nat.mul_one, Nat.add_zero] at hx62_1); have hf62_1 := hfr62 1; (try simp only [show (k33).sz = 2 from rfl, Nat.mul_one, Nat.add_zero] at hf62_1); clear hcl62 hcc62 hfr62 hM62) | ((with_reducible refine gate_store (t := 33) (p := 52) rfl ?_); refine store_event (t := 33) (p := 52) (v := ?vo_w63) (w1 := ((w59.setCell ⟨go52, (a1 : Int).toNat * 2, none⟩ (.bool a2_0)).setCell ⟨go52, (a1 : Int).toNat * 2 + 1, none⟩ (.string a2_1))) ?hg ?ho ?hn ?hr ?_; (case ho => rfl); (case hg => rfl); (case hn => rfl); (case hr => first | (go_simp; done) | (go_simp; rfl)); intro w63 hw; have hg : w59.grownBy w63 (some go52) := (by rw [hw]; exact HP62.2); have hp_ : Kd.R k33 33 w63 w.heap.size (fun k_ => k_ ≠ gb102) (.slice (some ⟨go52, 0, none⟩) y105.length co52) y108 := (by rw [hw, Ny108.out]; exact HP62.1); clear HP62; have n0_ := aq (blk_grown (stB BK101) hg (Kd.R_ne HO107.out BK101.out (by decide))); have n1_ := aq (blk_grown (stB BK102) hg (Kd.R_away HO107.out (fun _ hk => hk))); have n2_ := aq (blk_grown (stB BK103) hg (Kd.R_ne HO107.out BK103.out (by decide))); have n3_ := aq (hp_); have n4_ := aq ((by rw [hw]; exact below_set (below_set (HB.out) GB52.out) GB52.out : Below w.heap.size w w63)); replace BK101 := n0_; replace BK102 := n1_; replace BK103 := n2_; replace HO107 := n3_; replace HB := n4_; clear n0_ n1_ n2_ n3_ n4_; clear hg hw hp_))
         go_loopg [8] kj3 (fun kq v8 w' => ∃ (x8_2 : List (S33)), Aside0 (slab_Put.l0 kq x8_2 a0_0 l0_1 = some (r1, r2, r3)) ∧ Aside0 (kq ≤ kj3) ∧ Aside0 (Kd.R k33 33 w' w.heap.size (fun k_ => k_ ≠ gb102) v8 x8_2) ∧ Aside0 (w'.heap[gb101]? = some (.cells #[.int .i64 a0_0, (.slice A0_1 l0_1.length c0_1)] 24 (0, 0))) ∧ Aside0 (w'.heap[gb102]? = some (.cells #[.bool a2_0, .string a2_1] 33 (0, 0))) ∧ Aside0 (w'.heap[gb103]? = some (.cells #[.int .i64 0, (.slice none 0 0)] 24 (0, 0))) ∧ Aside0 (Below w.heap.size w w'))
         case atStart => exact ⟨(y108), H', ⟨Nat.le_refl _⟩, ⟨by (with_reducible repeat (first | apply Kd.R_alloc | apply Kd.R_drewN | apply Kd.R_drew)); exact HO107.out⟩, ⟨stB BK101⟩, ⟨stB BK102⟩, ⟨stB BK103⟩, ⟨stH HB⟩⟩
         case round =>
          clear H'
          try clear k55a k55b
          try clear u55a u55b
          try clear k57a k57b
          try clear u57a u57b
          try clear k60a k60b
          try clear u60a u60b
          try clear k61a k61b
          try clear u61a u61b
          try clear c1
          try clear c2
          try clear p2
          try clear c3
          try clear c4
          try clear c5
          try clear p5
          try clear q5
          try clear hx5
          try clear hf5
          try clear c6
          try clear p6
          try clear hx6
          try clear hf6
          try clear c9
          try clear c10
          try clear c10b0
          try clear c11
          try clear c12
          try clear c15
          try clear c15b0
          try clear c16
          try clear c17
          try clear c20
          try clear c21
          try clear c22
          try clear c25
          try clear c27
          try clear c28
          try clear c31
          try clear c33
          try clear c34
          try clear c37
          try clear c38
          try clear c39
          try clear c41
          try clear c41b0
          try clear c41b1
          try clear c42
          try clear c43
          try clear c45
          try clear c48
          try clear c48b0
          try clear c48b1
          try clear c49
          try clear c49b0
          try clear c49b1
          try clear c50
          try clear c50b0
          try clear c51
          try clear c51b0
          try clear c52
          try clear p52
          try clear q52
          try clear hx52
          try clear hf52
          try clear c53
          try clear c54
          try clear c56
          try clear c62
          try clear hx62
          try clear hf62
          try clear hx52_0
          try clear hx52_1
          try clear hx62_0
          try clear hx62_1
          obtain ⟨x8_2, HA, HK2, HO_8, BK101, BK102, BK103, HB⟩ := hrel
          cases gk with
          | zero => exact absurd HA.out (by simp [slab_Put.l0])
          | succ k2 =>
           have H := HA.out
           clear HA
           simp only [slab_Put.l0] at H
           by_cases c64 : (x8_2.length : Int) > 0
           ·rw [if_pos c64] at H
            have c64b0 : decide (0 < (x8_2.length : Int)) = true := decide_eq_true c64
            have c64b1 : decide (0 < x8_2.length) = true := decide_eq_true (by omega)
            clear c64
            obtain ⟨ji65, hji65⟩ : ∃ j_ : Int, (wrap64 ((x8_2.length : Int) - 1)) = j_ := ⟨_, rfl⟩
            replace H : (if 0 ≤ (ji65) then (if (ji65) < (x8_2.length : Int) then (if ((rd_T33 x8_2 (ji65)).f0 = true) then ((slabSize0.f x8_2).bind fun t110 => (if t110 > 240 then (some (0, ([] : List (S33)), 22)) else (some (a0_0, x8_2, 0)))) else (if (ji65) ≤ (x8_2.length : Int) then (slab_Put.l0 k2 (x8_2.take ((ji65) : Int).toNat) a0_0 l0_1) else (none))) else (none)) else (none)) = some (r1, r2, r3) := by first | (rw [hji65] at H; exact H) | (simp only [hji65] at H ⊢; exact H)
            have hji65w : (IntKind.i64.wrap ((x8_2.length : Int) - 1)) = ji65 := (i64_w _).trans hji65
            by_cases c66 : 0 ≤ (ji65)
            ·rw [if_pos c66] at H
             have c66b0 : decide (0 ≤ (ji65)) = true := decide_eq_true c66
             clear c66
             by_cases c67 : (ji65) < (x8_2.length : Int)
             ·rw [if_pos c67] at H
              have c67b0 : decide ((ji65) < (x8_2.length : Int)) = true := decide_eq_true c67
              clear c67
              obtain ⟨bq68, hbq68⟩ : ∃ b_ : Bool, b_ = ((rd_T33 x8_2 (ji65)).f0) := ⟨_, rfl⟩
              replace H : (if (bq68 = true) then ((slabSize0.f x8_2).bind fun t110 => (if t110 > 240 then (some (0, ([] : List (S33)), 22)) else (some (a0_0, x8_2, 0)))) else (if (ji65) ≤ (x8_2.length : Int) then (slab_Put.l0 k2 (x8_2.take ((ji65) : Int).toNat) a0_0 l0_1) else (none))) = some (r1, r2, r3) := by rw [← hbq68] at H; exact H
              have Nbq68 := aq hbq68
              clear hbq68
              by_cases c69 : (bq68 = true)
              ·subst c69
               rw [if_pos rfl] at H
               replace H := Option.bind_eq_some_iff.mp H
               obtain ⟨t110, A700, H⟩ := H
               try dsimp only at H
               have A70 := aq A700
               clear A700
               by_cases c71 : t110 > 240
               ·rw [if_pos c71] at H
                have c71b0 : decide (240 < t110) = true := decide_eq_true c71
                clear c71
                simp only [Option.some.injEq, Prod.mk.injEq] at H
                obtain ⟨rfl, rfl, rfl⟩ := H
                obtain ⟨Ao72, co72, eo72⟩ := Kd.R_slice HO_8.out
                subst eo72
                have p109 : 0 ≤ ((ji65) : Int) := of_decide_eq_true (by first | (with_reducible assumption) | assumption)
                have q109 : (ji65) < (x8_2.length : Int) := of_decide_eq_true (by first | (with_reducible assumption) | assumption)
                obtain ⟨ad109, e109, hx109_0, hx109_1⟩ := at_T33 (Kd.R_reads' HO_8.out).2.2 (ji65) p109 q109
                (try rw [← Nbq68.out] at hx109_0)
                cases e109
                replace p109 := eq_true p109
                replace q109 := eq_true q109
                go_wp2_with (first | ((with_reducible refine gate_callee (f := 81) rfl ?_); refine goesL_ (some 72) rfl rfl Try.func81 (by kernel_rfl) rfl #[.slice (some ad109) x8_2.length co72] rfl fitR ?_; (with_reducible refine (slabSize0.calls _ _ x8_2 t110 _ ?side1 ?side2 A70.out).mono ?_); (case side1 => repeat (first | exact (Kd.R_reads' HO_8.out).2.2 | (with_reducible refine Kd.C_alloc ?_ _) | (with_reducible refine Kd.C_drewN ?_ _) | (with_reducible refine Kd.C_drew ?_))); (case side2 => exact (Kd.R_reads' HO_8.out).2.1); rintro e w73 ⟨rfl, hb⟩; refine ⟨_, rfl, ?_⟩; have n0_ := aq (Kd.R_below (by (with_reducible repeat (first | apply Kd.R_alloc | apply Kd.R_drewN | apply Kd.R_drew)); exact HO_8.out) hb); have n1_ := aq (blk_below (stB BK101) hb); have n2_ := aq (blk_below (stB BK102) hb); have n3_ := aq (blk_below (stB BK103) hb); have n4_ := aq (below_step (stH HB) hb); replace HO_8 := n0_; replace BK101 := n1_; replace BK102 := n2_; replace BK103 := n3_; replace HB := n4_; clear n0_ n1_ n2_ n3_ n4_; (try clear hb); have hnb74 := NB103_101.out; have hnc74 := NB101_103.out; have hnb75 := NB103_102.out; have hnc75 := NB102_103.out; obtain ⟨k76a, k76b⟩ := cl2 (W := w73) BK103.out; obtain ⟨u76a, u76b⟩ := fr2 BK103.out))
                refine bodyPost_ret (results_ct rfl _ _ gb103 24 #[.int .i64 0, .slice none 0 0] (0, 0) _ rfl (by (with_reducible repeat (first | refine blk_drewN ?_ _ | refine blk_drew ?_ | refine blk_alloc ?_ _)); refine puts2 (cs := #[.int .i64 0, .slice none 0 0]) rfl ?_; (with_reducible repeat (first | refine blk_drewN ?_ _ | refine blk_drew ?_ | refine blk_alloc ?_ _)); exact BK103.out) Try.underlying24 rfl (by kernel_rfl)) rfl ?_
                exact ⟨_, by first | rfl | (simp [errW_none, errW_some] <;> rfl) | (simp only [← hji47, ← hji65]; first | rfl | (simp [errW_none, errW_some] <;> rfl)) | (simp [*, errW_none, errW_some] <;> rfl), by first | exact Kd.R_nil _ _ _ _ _ | exact Kd.N_nil _ _ _ _ _ | exact Kd.V_nil _ _ _ _ _ | exact Kd.Q_nil _ _ _ _ _ | exact Kd.S_nil _ _ _ _ _, by repeat (first | (with_reducible first | exact HB.out | apply below_alloc | apply pw_below_drewN | apply below_drew1 | refine below_set ?_ GE101.out | refine below_set ?_ GE102.out | refine below_set ?_ GE103.out) | exact HB.out)⟩
               ·rw [if_neg c71] at H
                have c71b0 : decide (240 < t110) = false := decide_eq_false c71
                clear c71
                simp only [Option.some.injEq, Prod.mk.injEq] at H
                obtain ⟨rfl, rfl, rfl⟩ := H
                obtain ⟨Ao77, co77, eo77⟩ := Kd.R_slice HO_8.out
                subst eo77
                have p109 : 0 ≤ ((ji65) : Int) := of_decide_eq_true (by first | (with_reducible assumption) | assumption)
                have q109 : (ji65) < (x8_2.length : Int) := of_decide_eq_true (by first | (with_reducible assumption) | assumption)
                obtain ⟨ad109, e109, hx109_0, hx109_1⟩ := at_T33 (Kd.R_reads' HO_8.out).2.2 (ji65) p109 q109
                (try rw [← Nbq68.out] at hx109_0)
                cases e109
                replace p109 := eq_true p109
                replace q109 := eq_true q109
                go_wp2_with (first | ((with_reducible refine gate_callee (f := 81) rfl ?_); refine goesL_ (some 72) rfl rfl Try.func81 (by kernel_rfl) rfl #[.slice (some ad109) x8_2.length co77] rfl fitR ?_; (with_reducible refine (slabSize0.calls _ _ x8_2 t110 _ ?side1 ?side2 A70.out).mono ?_); (case side1 => repeat (first | exact (Kd.R_reads' HO_8.out).2.2 | (with_reducible refine Kd.C_alloc ?_ _) | (with_reducible refine Kd.C_drewN ?_ _) | (with_reducible refine Kd.C_drew ?_))); (case side2 => exact (Kd.R_reads' HO_8.out).2.1); rintro e w78 ⟨rfl, hb⟩; refine ⟨_, rfl, ?_⟩; have n0_ := aq (Kd.R_below (by (with_reducible repeat (first | apply Kd.R_alloc | apply Kd.R_drewN | apply Kd.R_drew)); exact HO_8.out) hb); have n1_ := aq (blk_below (stB BK101) hb); have n2_ := aq (blk_below (stB BK102) hb); have n3_ := aq (blk_below (stB BK103) hb); have n4_ := aq (below_step (stH HB) hb); replace HO_8 := n0_; replace BK101 := n1_; replace BK102 := n2_; replace BK103 := n3_; replace HB := n4_; clear n0_ n1_ n2_ n3_ n4_; (try clear hb); have hnb79 := NB101_102.out; have hnc79 := NB102_101.out; have hnb80 := NB101_103.out; have hnc80 := NB103_101.out; obtain ⟨k81a, k81b⟩ := cl2 (W := w78) BK101.out; obtain ⟨u81a, u81b⟩ := fr2 BK101.out; have hnb82 := NB103_102.out; have hnc82 := NB102_103.out; obtain ⟨k83a, k83b⟩ := cl2 (W := w78) BK103.out; obtain ⟨u83a, u83b⟩ := fr2 BK103.out))
                refine bodyPost_ret (results_ct rfl _ _ gb103 24 #[.int .i64 a0_0, .slice (some ad109) x8_2.length co77] (0, 0) _ rfl (by (with_reducible repeat (first | refine blk_drewN ?_ _ | refine blk_drew ?_ | refine blk_alloc ?_ _)); refine puts2 (cs := #[.int .i64 0, .slice none 0 0]) rfl ?_; (with_reducible repeat (first | refine blk_drewN ?_ _ | refine blk_drew ?_ | refine blk_alloc ?_ _)); exact BK103.out) Try.underlying24 rfl (by kernel_rfl)) rfl ?_
                exact ⟨_, by first | rfl | (simp [errW_none, errW_some] <;> rfl) | (simp only [← hji47, ← hji65]; first | rfl | (simp [errW_none, errW_some] <;> rfl)) | (simp [*, errW_none, errW_some] <;> rfl), by (with_reducible repeat (first | apply Kd.R_alloc | apply Kd.R_drewN | apply Kd.R_drew)); exact Kd.R_mono (Kd.R_far (p := ⟨gb103, 1, none⟩) (Kd.R_far (p := ⟨gb103, 0, none⟩) (Kd.R_types HO_8.out BK103.out (by decide)) (fun _ hk => hk.2) (.int .i64 a0_0)) (fun _ hk => hk.2) (.slice (some ad109) x8_2.length co77)) (fun _ hk => trivial), by repeat (first | (with_reducible first | exact HB.out | apply below_alloc | apply pw_below_drewN | apply below_drew1 | refine below_set ?_ GE101.out | refine below_set ?_ GE102.out | refine below_set ?_ GE103.out) | exact HB.out)⟩
              ·replace c69 := Bool.eq_false_iff.mpr c69
               subst c69
               rw [if_neg (show ¬ (false = true) by decide)] at H
               by_cases c84 : (ji65) ≤ (x8_2.length : Int)
               ·rw [if_pos c84] at H
                have c84b0 := eq_true c84
                have c84b1 : decide ((ji65) ≤ (x8_2.length : Int)) = true := decide_eq_true c84
                clear c84
                obtain ⟨y111, hy111⟩ : ∃ y_ : List (S33), y_ = (x8_2.take ((ji65) : Int).toNat) := ⟨_, rfl⟩
                replace H : (slab_Put.l0 k2 y111 a0_0 l0_1) = some (r1, r2, r3) := by first | (rw [hy111]; with_reducible exact H) | (have H2_ := (Option.bind_some _ _).symm.trans H; rw [hy111]; with_reducible exact H2_) | (have H2_ := (Option.bind_some _ _).symm.trans H; with_reducible exact H2_) | with_reducible exact H | (rw [hy111]; exact H) | exact H
                have Ny111 := aq hy111
                clear hy111
                have H' := aq H
                clear H
                obtain ⟨Ao85, co85, eo85⟩ := Kd.R_slice HO_8.out
                subst eo85
                have p109 : 0 ≤ ((ji65) : Int) := of_decide_eq_true (by first | (with_reducible assumption) | assumption)
                have q109 : (ji65) < (x8_2.length : Int) := of_decide_eq_true (by first | (with_reducible assumption) | assumption)
                obtain ⟨ad109, e109, hx109_0, hx109_1⟩ := at_T33 (Kd.R_reads' HO_8.out).2.2 (ji65) p109 q109
                (try rw [← Nbq68.out] at hx109_0)
                cases e109
                replace p109 := eq_true p109
                replace q109 := eq_true q109
                have q86 : ((ji65) : Int) ≤ ((x8_2.length : Int) : Int) := of_decide_eq_true (by first | (with_reducible assumption) | assumption)
                obtain ⟨i086, hi086, _, hsz86, _⟩ := info_parts info33
                have hcut86 := cut_to (P := Try.prog) 22 33 .i64 Try.underlying22 hi086 (some ad109) x8_2.length co85 (ji65) (of_decide_eq_true (by first | (with_reducible assumption) | assumption)) q86 (Kd.R_reads' HO_8.out).2.1
                have hr86 := Kd.R_take (m := ((ji65) : Int).toNat) HO_8.out (by omega)
                have hy86 : y111.length = ((ji65) : Int).toNat := (by rw [Ny111.out, List.length_take]; omega)
                rw [← Ny111.out] at hr86
                rw [← hy86] at hr86 hcut86
                clear hy86 hi086 hsz86 HO_8
                have HO113 := aq hr86
                clear hr86
                replace q86 := eq_true q86
                go_wp2
                go_roundg k2
                case measure => have := HJ3.out; have := HK2.out; omega
                case rel => exact ⟨(y111), H', ⟨by have := HJ3.out; have := HK2.out; omega⟩, ⟨by (with_reducible repeat (first | apply Kd.R_alloc | apply Kd.R_drewN | apply Kd.R_drew)); exact HO113.out⟩, ⟨stB BK101⟩, ⟨stB BK102⟩, ⟨stB BK103⟩, ⟨stH HB⟩⟩
               ·rw [if_neg c84] at H
                exact absurd H (by simp)
             ·rw [if_neg c67] at H
              exact absurd H (by simp)
            ·rw [if_neg c66] at H
             exact absurd H (by simp)
           ·rw [if_neg c64] at H
            have c64b0 : decide (0 < (x8_2.length : Int)) = false := decide_eq_false c64
            have c64b1 : decide (0 < x8_2.length) = false := decide_eq_false (by omega)
            clear c64
            replace H := Option.bind_eq_some_iff.mp H
            obtain ⟨t114, A870, H⟩ := H
            try dsimp only at H
            have A87 := aq A870
            clear A870
            by_cases c88 : t114 > 240
            ·rw [if_pos c88] at H
             have c88b0 : decide (240 < t114) = true := decide_eq_true c88
             clear c88
             simp only [Option.some.injEq, Prod.mk.injEq] at H
             obtain ⟨rfl, rfl, rfl⟩ := H
             obtain ⟨Ao89, co89, eo89⟩ := Kd.R_slice HO_8.out
             subst eo89
             go_wp2_with (first | ((with_reducible refine gate_callee (f := 81) rfl ?_); refine goesL_ (some 72) rfl rfl Try.func81 (by kernel_rfl) rfl #[.slice Ao89 x8_2.length co89] rfl fitR ?_; (with_reducible refine (slabSize0.calls _ _ x8_2 t114 _ ?side1 ?side2 A87.out).mono ?_); (case side1 => repeat (first | exact (Kd.R_reads' HO_8.out).2.2 | (with_reducible refine Kd.C_alloc ?_ _) | (with_reducible refine Kd.C_drewN ?_ _) | (with_reducible refine Kd.C_drew ?_))); (case side2 => exact (Kd.R_reads' HO_8.out).2.1); rintro e w90 ⟨rfl, hb⟩; refine ⟨_, rfl, ?_⟩; have n0_ := aq (Kd.R_below (by (with_reducible repeat (first | apply Kd.R_alloc | apply Kd.R_drewN | apply Kd.R_drew)); exact HO_8.out) hb); have n1_ := aq (blk_below (stB BK101) hb); have n2_ := aq (blk_below (stB BK102) hb); have n3_ := aq (blk_below (stB BK103) hb); have n4_ := aq (below_step (stH HB) hb); replace HO_8 := n0_; replace BK101 := n1_; replace BK102 := n2_; replace BK103 := n3_; replace HB := n4_; clear n0_ n1_ n2_ n3_ n4_; (try clear hb); have hnb91 := NB103_101.out; have hnc91 := NB101_103.out; have hnb92 := NB103_102.out; have hnc92 := NB102_103.out; obtain ⟨k93a, k93b⟩ := cl2 (W := w90) BK103.out; obtain ⟨u93a, u93b⟩ := fr2 BK103.out))
             refine bodyPost_ret (results_ct rfl _ _ gb103 24 #[.int .i64 0, .slice none 0 0] (0, 0) _ rfl (by (with_reducible repeat (first | refine blk_drewN ?_ _ | refine blk_drew ?_ | refine blk_alloc ?_ _)); refine puts2 (cs := #[.int .i64 0, .slice none 0 0]) rfl ?_; (with_reducible repeat (first | refine blk_drewN ?_ _ | refine blk_drew ?_ | refine blk_alloc ?_ _)); exact BK103.out) Try.underlying24 rfl (by kernel_rfl)) rfl ?_
             exact ⟨_, by first | rfl | (simp [errW_none, errW_some] <;> rfl) | (simp only [← hji47]; first | rfl | (simp [errW_none, errW_some] <;> rfl)) | (simp [*, errW_none, errW_some] <;> rfl), by first | exact Kd.R_nil _ _ _ _ _ | exact Kd.N_nil _ _ _ _ _ | exact Kd.V_nil _ _ _ _ _ | exact Kd.Q_nil _ _ _ _ _ | exact Kd.S_nil _ _ _ _ _, by repeat (first | (with_reducible first | exact HB.out | apply below_alloc | apply pw_below_drewN | apply below_drew1 | refine below_set ?_ GE101.out | refine below_set ?_ GE102.out | refine below_set ?_ GE103.out) | exact HB.out)⟩
            ·rw [if_neg c88] at H
             have c88b0 : decide (240 < t114) = false := decide_eq_false c88
             clear c88
             simp only [Option.some.injEq, Prod.mk.injEq] at H
             obtain ⟨rfl, rfl, rfl⟩ := H
             obtain ⟨Ao94, co94, eo94⟩ := Kd.R_slice HO_8.out
             subst eo94
             go_wp2_with (first | ((with_reducible refine gate_callee (f := 81) rfl ?_); refine goesL_ (some 72) rfl rfl Try.func81 (by kernel_rfl) rfl #[.slice Ao94 x8_2.length co94] rfl fitR ?_; (with_reducible refine (slabSize0.calls _ _ x8_2 t114 _ ?side1 ?side2 A87.out).mono ?_); (case side1 => repeat (first | exact (Kd.R_reads' HO_8.out).2.2 | (with_reducible refine Kd.C_alloc ?_ _) | (with_reducible refine Kd.C_drewN ?_ _) | (with_reducible refine Kd.C_drew ?_))); (case side2 => exact (Kd.R_reads' HO_8.out).2.1); rintro e w95 ⟨rfl, hb⟩; refine ⟨_, rfl, ?_⟩; have n0_ := aq (Kd.R_below (by (with_reducible repeat (first | apply Kd.R_alloc | apply Kd.R_drewN | apply Kd.R_drew)); exact HO_8.out) hb); have n1_ := aq (blk_below (stB BK101) hb); have n2_ := aq (blk_below (stB BK102) hb); have n3_ := aq (blk_below (stB BK103) hb); have n4_ := aq (below_step (stH HB) hb); replace HO_8 := n0_; replace BK101 := n1_; replace BK102 := n2_; replace BK103 := n3_; replace HB := n4_; clear n0_ n1_ n2_ n3_ n4_; (try clear hb); have hnb96 := NB101_102.out; have hnc96 := NB102_101.out; have hnb97 := NB101_103.out; have hnc97 := NB103_101.out; obtain ⟨k98a, k98b⟩ := cl2 (W := w95) BK101.out; obtain ⟨u98a, u98b⟩ := fr2 BK101.out; have hnb99 := NB103_102.out; have hnc99 := NB102_103.out; obtain ⟨k100a, k100b⟩ := cl2 (W := w95) BK103.out; obtain ⟨u100a, u100b⟩ := fr2 BK103.out))
             refine bodyPost_ret (results_ct rfl _ _ gb103 24 #[.int .i64 a0_0, .slice Ao94 x8_2.length co94] (0, 0) _ rfl (by (with_reducible repeat (first | refine blk_drewN ?_ _ | refine blk_drew ?_ | refine blk_alloc ?_ _)); refine puts2 (cs := #[.int .i64 0, .slice none 0 0]) rfl ?_; (with_reducible repeat (first | refine blk_drewN ?_ _ | refine blk_drew ?_ | refine blk_alloc ?_ _)); exact BK103.out) Try.underlying24 rfl (by kernel_rfl)) rfl ?_
             exact ⟨_, by first | rfl | (simp [errW_none, errW_some] <;> rfl) | (simp only [← hji47]; first | rfl | (simp [errW_none, errW_some] <;> rfl)) | (simp [*, errW_none, errW_some] <;> rfl), by (with_reducible repeat (first | apply Kd.R_alloc | apply Kd.R_drewN | apply Kd.R_drew)); exact Kd.R_mono (Kd.R_far (p := ⟨gb103, 1, none⟩) (Kd.R_far (p := ⟨gb103, 0, none⟩) (Kd.R_types HO_8.out BK103.out (by decide)) (fun _ hk => hk.2) (.int .i64 a0_0)) (fun _ hk => hk.2) (.slice Ao94 x8_2.length co94)) (fun _ hk => trivial), by repeat (first | (with_reducible first | exact HB.out | apply below_alloc | apply pw_below_drewN | apply below_drew1 | refine below_set ?_ GE101.out | refine below_set ?_ GE102.out | refine below_set ?_ GE103.out) | exact HB.out)⟩
        ·rw [if_neg c51] at H
         exact absurd H (by simp)
       ·rw [if_neg c50] at H
        exact absurd H (by simp)
      ·rw [if_neg c49] at H
       exact absurd H (by simp)
     ·rw [if_neg c48] at H
      exact absurd H (by simp)
end Go.Proofs.Ytfjmnaobfbmllaa.M
namespace Go.Proofs.Ytfjmnaobfbmllaa.M
open Go.RowKit Go.Proofs.YtfjmnaobfbmllaaW.PrintWords Go.Proofs.YtfjmnaobfbmllaaW.PrintLast Go.Proofs.YtfjmnaobfbmllaaW.PrintMore
set_option linter.unusedVariables false
set_option linter.unusedSimpArgs false
def trimS (xs : List S33) : List S33 := (xs.reverse.dropWhile (fun x => !x.f0)).reverse
def extS (l : List S33) (n : Nat) : List S33 := l ++ List.replicate (n - l.length) z33
def putL (l : List S33) (s : Nat) (x : S33) : List S33 := trimS ((extS l (s + 1)).set s x)
def badS (x : S33) : Bool := !x.f0 && !x.f1.toList.isEmpty
def putP (a : Int) (l : List S33) (s : Int) (x : S33) : Int × List S33 × Int :=
  if goodP a l = false ∨ s < 0 ∨ 32 ≤ s ∨ badS x = true then (0, [], 1)
  else if 200 < x.f1.size then (0, [], 5)
  else if 240 < rawSize (putL l s.toNat x) then (0, [], 22) else (a, putL l s.toNat x, 0)
theorem trim_snoc_used (ys : List S33) (y : S33) (h : y.f0 = true) : trimS (ys ++ [y]) = ys ++ [y] := by
  unfold trimS; simp [h]
theorem trim_snoc_free (ys : List S33) (y : S33) (h : y.f0 = false) : trimS (ys ++ [y]) = trimS ys := by
  unfold trimS; simp [h]
theorem snoc_of (xs : List S33) (h : 0 < xs.length) : ∃ ys y, xs = ys ++ [y] ∧ xs.take (xs.length - 1) = ys ∧ rd_T33 xs ((xs.length : Int) - 1) = y ∧ ys.length + 1 = xs.length := by
  rcases List.eq_nil_or_concat xs with rfl | ⟨ys, y, rfl⟩
  · simp at h
  · refine ⟨ys, y, by simp, by simp, ?_, by simp⟩
    have : ((ys.concat y).length : Int) - 1 = (ys.length : Int) := by simp
    rw [this, rd33 _ _ (by simp)]
    simp
theorem trim_length (xs : List S33) : (trimS xs).length ≤ xs.length := by
  unfold trimS
  rw [List.length_reverse]
  have := (List.dropWhile_sublist (fun x : S33 => !x.f0) (l := xs.reverse)).length_le
  simpa using this
theorem trim_sub (xs : List S33) : ∀ x ∈ trimS xs, x ∈ xs := by
  intro x hx
  unfold trimS at hx
  rw [List.mem_reverse] at hx
  have := (List.dropWhile_sublist (fun x : S33 => !x.f0) (l := xs.reverse)).subset hx
  simpa using this
theorem trim_last (xs : List S33) : lastUsed (trimS xs) = true := by
  have h : ∀ n (xs : List S33), xs.length = n → lastUsed (trimS xs) = true := by
    intro n
    induction n with
    | zero => intro xs h; rw [List.eq_nil_of_length_eq_zero h]; rfl
    | succ n ih =>
      intro xs h
      obtain ⟨ys, y, rfl, _, _, hl⟩ := snoc_of xs (by omega)
      cases hy : y.f0 with
      | true => rw [trim_snoc_used ys y hy]; simp [lastUsed, hy]
      | false => rw [trim_snoc_free ys y hy]; exact ih ys (by omega)
  exact h _ xs rfl
theorem sumS_mem (xs : List S33) (h : ∀ x ∈ xs, x.f1.size ≤ 200) : sumS xs ≤ 201 * xs.length := by
  induction xs with
  | nil => simp [sumS]
  | cons x xs ih =>
    have h1 := h x (by simp)
    have h2 := ih (fun y hy => h y (by simp [hy]))
    simp only [sumS, List.length_cons]; omega
def finP (a : Int) (q : List S33) : Int × List S33 × Int := if 240 < rawSize q then (0, [], 22) else (a, q, 0)
theorem put_trim (a : Int) (l : List S33) (n : Nat) : ∀ (k : Nat) (xs : List S33), xs.length = n → n ≤ 32 → (∀ x ∈ xs, x.f1.size ≤ 200) → n < k →
    slab_Put.l0 k xs a l = some (finP a (trimS xs)) := by
  have fin : ∀ xs : List S33, xs.length ≤ 32 → (∀ x ∈ xs, x.f1.size ≤ 200) → ((slabSize0.f xs).bind fun t => if t > 240 then some (0, ([] : List S33), 22) else some (a, xs, (0 : Int))) = some (finP a xs) := by
    intro xs hl hb
    have := sumS_mem xs hb
    unfold slabSize0.f finP
    rw [if_pos (by omega), Option.bind_some]
    by_cases h : 240 < rawSize xs
    · rw [if_pos (by omega), if_pos h]
    · rw [if_neg (by omega), if_neg h]
  induction n with
  | zero =>
    intro k xs hx _ hb hk
    obtain ⟨k, rfl⟩ : ∃ m, k = m + 1 := ⟨k - 1, by omega⟩
    obtain rfl := List.eq_nil_of_length_eq_zero hx
    simp only [slab_Put.l0]
    rw [if_neg (by simp)]
    exact fin [] (by simp) (by simp)
  | succ n ih =>
    intro k xs hx h32 hb hk
    obtain ⟨k, rfl⟩ : ∃ m, k = m + 1 := ⟨k - 1, by omega⟩
    obtain ⟨ys, y, rfl, h1, h2, h3⟩ := snoc_of xs (by omega)
    simp only [slab_Put.l0]
    rw [if_pos (by omega), w64 _ (by omega) (by omega), if_pos (by omega), if_pos (by omega), h2]
    have e : (((ys ++ [y]).length : Int) - 1).toNat = (ys ++ [y]).length - 1 := by omega
    cases hy : y.f0 with
    | true =>
      rw [if_pos rfl, trim_snoc_used ys y hy]
      exact fin _ (by omega) hb
    | false =>
      rw [if_neg (by simp), if_pos (by omega), e, h1, trim_snoc_free ys y hy]
      exact ih k ys (by omega) (by omega) (fun x hx => hb x (by simp [hx])) (by omega)
theorem good_facts (a : Int) (l : List S33) (h : goodP a l = true) : 0 ≤ a ∧ a ≤ 1099511627776 ∧ l.length ≤ 32 ∧ l.any oddS = false ∧ lastUsed l = true ∧ rawSize l ≤ 240 := by
  unfold goodP at h
  simp only [Bool.and_eq_true, decide_eq_true_eq, Bool.not_eq_true'] at h
  obtain ⟨⟨⟨⟨⟨h1, h2⟩, h3⟩, h4⟩, h5⟩, h6⟩ := h
  exact ⟨h1, h2, h3, h4, h5, h6⟩
theorem odd_small (x : S33) (h : oddS x = false) : x.f1.size ≤ 200 := by
  unfold oddS at h; simp at h; omega
theorem bad_ne (x : S33) (h : x.f0 = false) : badS x = (x.f1.toList != []) := by
  unfold badS; rw [h]; cases x.f1.toList <;> rfl
theorem putP_bad (a : Int) (l : List S33) (s : Int) (x : S33) (h : badS x = true) : putP a l s x = (0, [], 1) := by
  unfold putP; rw [if_pos (by simp [h])]
theorem putP_ok (a : Int) (l : List S33) (n : Nat) (x : S33) (hg : goodP a l = true) (h2 : ¬ ((n : Int) ≥ 32)) (hb : badS x = false) :
    putP a l n x = if 200 < x.f1.size then (0, [], 5) else finP a (putL l n x) := by
  unfold putP
  rw [if_neg (by rw [hg, hb]; rintro (h | h | h | h) <;> first | omega | exact absurd h (by decide)), Int.toNat_natCast]
  rfl
theorem sput_pure (a : Int) (l : List S33) (s : Int) (x : S33) (k : Nat) (hk : 100 < k) : slab_Put.f k a l s x.f0 x.f1 = some (putP a l s x) := by
  obtain ⟨k, rfl⟩ : ∃ m, k = m + 1 := ⟨k - 1, by omega⟩
  have hbad : slab_Put.j0 (k + 1) s true a l x.f0 x.f1 = some (0, [], 1) := by simp [slab_Put.j0]
  unfold slab_Put.f slabGood.f
  rw [Option.bind_some]
  cases hg : goodP a l with
  | false => rw [if_neg (by simp), hbad]; simp [putP, hg]
  | true =>
    obtain ⟨ha0, ha1, hl, hodd, hlast, hsz⟩ := good_facts a l hg
    rw [if_pos rfl]
    by_cases h1 : s < 0
    · rw [if_pos h1, hbad]; simp [putP, h1]
    rw [if_neg h1]
    by_cases h2 : s ≥ 32
    · rw [if_pos h2, hbad]; simp [putP, show 32 ≤ s from h2]
    rw [if_neg h2]
    obtain ⟨n, rfl⟩ := Int.eq_ofNat_of_zero_le (show 0 ≤ s by omega)
    have main : slab_Put.j0 (k + 1) n false a l x.f0 x.f1 = some (if 200 < x.f1.size then (0, [], 5) else finP a (putL l n x)) := by
      simp only [slab_Put.j0]
      rw [if_neg (by simp)]
      by_cases h3 : (x.f1.size : Int) > 200
      · rw [if_pos h3, if_pos (by omega)]
      · have hR : (if 200 < x.f1.size then ((0 : Int), ([] : List S33), (5 : Int)) else finP a (putL l n x)) = finP a (putL l n x) := if_neg (by omega)
        rw [hR, if_neg h3, w64 _ (by omega) (by omega)]
        have hm : mx (l.length : Int) ((n : Int) + 1) = ((max l.length (n + 1) : Nat) : Int) := by unfold mx; split <;> omega
        rw [hm, if_pos (by omega), if_pos (by omega), Option.bind_some, Int.toNat_natCast]
        have hc : copyIn (List.replicate (max l.length (n + 1)) z33) l = extS l (n + 1) := by
          unfold copyIn extS
          rw [List.drop_replicate]
          congr 2
          omega
        have hlen : (extS l (n + 1)).length = max l.length (n + 1) := by unfold extS; simp; omega
        rw [hc, if_pos (by omega), if_pos (by omega), Int.toNat_natCast]
        refine put_trim a l _ k _ rfl (by simp [hlen]; omega) ?_ (by simp [hlen]; omega)
        intro y hy
        have hy2 := List.mem_or_eq_of_mem_set hy
        rcases hy2 with hy2 | rfl
        · unfold extS at hy2
          rw [List.mem_append] at hy2
          rcases hy2 with hy2 | hy2
          · rw [List.any_eq_false] at hodd
            exact odd_small y (by simpa using hodd y hy2)
          · rw [List.mem_replicate] at hy2; rw [hy2.2]; show ByteArray.size ⟨#[]⟩ ≤ 200; simp [ByteArray.size]
        · show x.f1.size ≤ 200; omega
    by_cases hu : x.f0 = true
    · rw [if_pos hu, main, putP_ok a l n x hg (by omega) (by simp [badS, hu])]
    · have hu' : x.f0 = false := by simpa using hu
      have hbn := bad_ne x hu'
      rw [if_neg hu]
      by_cases hb : badS x = true
      · rw [← hbn, hb, hbad, putP_bad a l n x hb]
      · rw [← hbn, Bool.eq_false_iff.mpr hb, main, putP_ok a l n x hg (by omega) (by simpa using hb)]
def slabPut.f (a : Int) (l : List S33) (s : Int) (u : Bool) (d : ByteArray) : Option (Int × List S33 × Int) := some (putP a l s ⟨u, d⟩)
theorem slabPut.calls (a : Int) (A : Option Addr) (c : Nat) (l : List S33) (s : Int) (u : Bool) (d : ByteArray) (r1 : Int) (r2 : List S33) (r3 : Int) (w : World) (hr : Kd.C k33 w A l.length l) (hc : l.length ≤ c) (h : slabPut.f a l s u d = some (r1, r2, r3)) :
    Calls Try.prog 38 #[.agg #[.int .i64 a, .slice A l.length c], .int .i64 s, .agg #[.bool u, .string d]] w fun e w' => ∃ v1_ : Value, e = .returned (.tuple #[.agg #[.int .i64 r1, v1_], .int .i64 r3]) ∧ Kd.R k33 33 w' w.heap.size (fun _ => True) v1_ r2 ∧ Below w.heap.size w w' :=
  slab_Put.calls 101 a A c l s u d r1 r2 r3 w hr hc (by rw [← h]; exact sput_pure a l s ⟨u, d⟩ 101 (by omega))
end Go.Proofs.Ytfjmnaobfbmllaa.M
namespace Go.Proofs.Ytfjmnaobfbmllaa.M
open Go.RowKit Go.Proofs.YtfjmnaobfbmllaaW.PrintWords Go.Proofs.YtfjmnaobfbmllaaW.PrintLast Go.Proofs.YtfjmnaobfbmllaaW.PrintMore
set_option linter.unusedVariables false
set_option linter.unusedSimpArgs false
def padL (bs : List Int) : List Int := bs ++ List.replicate (240 - bs.length) 0
def Buf (w : World) (g : Nat) (bs : List Int) : Prop := bs.length ≤ 240 ∧ w.heap[g]? = some (.cells (nums .u8 (padL bs)).toArray 5 (0, 0))
theorem padL_length (bs : List Int) (h : bs.length ≤ 240) : (padL bs).length = 240 := by unfold padL; simp; omega
theorem pad_step (bs ys : List Int) (h : bs.length + ys.length ≤ 240) :
    (nums .u8 (padL bs)).take bs.length ++ nums .u8 ys ++ (nums .u8 (padL bs)).drop (bs.length + ys.length) = nums .u8 (padL (bs ++ ys)) := by
  unfold padL nums
  rw [← List.map_take, ← List.map_drop, ← List.map_append, ← List.map_append]
  congr 1
  rw [List.take_left, List.drop_append]
  have e1 : bs.drop (bs.length + ys.length) = [] := List.drop_eq_nil_of_le (by omega)
  rw [e1, List.nil_append, List.drop_replicate]
  congr 2
  rw [List.length_append]
  omega
theorem nums_one (bs : List Int) : ∀ v ∈ nums .u8 bs, v.oneCell' = true := by
  intro v hv
  simp only [nums, List.mem_map] at hv
  obtain ⟨x, _, rfl⟩ := hv
  rfl
theorem Buf.grown {w w1 : World} {g : Nat} {bs : List Int} {row : Option Nat} (h : Buf w g bs) (hg : w.grownBy w1 row) (hne : some g ≠ row) : Buf w1 g bs := ⟨h.1, blk_grown h.2 hg hne⟩
theorem Buf.below {w w1 : World} {g : Nat} {bs : List Int} (h : Buf w g bs) (hb : Below w.heap.size w w1) : Buf w1 g bs := ⟨h.1, blk_below h.2 hb⟩
theorem Buf.alloc {w : World} {g : Nat} {bs : List Int} (h : Buf w g bs) (o : Obj) : Buf (w.alloc o) g bs := ⟨h.1, blk_alloc h.2 o⟩
theorem Buf.drewN {w : World} {g : Nat} {bs : List Int} (h : Buf w g bs) (n : Nat) : Buf (w.drewN n) g bs := ⟨h.1, blk_drewN h.2 n⟩
theorem info5i : ∃ i, Try.prog.info? 5 = some i ∧ i.size = 1 := by
  have hi := info5
  cases hq : Try.prog.info? 5 with
  | none => rw [hq] at hi; cases hi
  | some i => rw [hq] at hi; exact ⟨i, rfl, by simp at hi; exact hi.2.1⟩
theorem buf_set {w : World} {g : Nat} {bs ys : List Int} (h : Buf w g bs) (hl : bs.length + ys.length ≤ 240) :
    Buf (w.setRow g ((nums .u8 (padL bs)).take bs.length ++ nums .u8 ys ++ (nums .u8 (padL bs)).drop (bs.length + ys.length)).toArray) g (bs ++ ys) :=
  ⟨by simp; omega, by rw [pad_step bs ys hl]; exact setRow_heap w g _ _ 5 _ h.2⟩
theorem setRow_grown (w : World) (g : Nat) (cs : Array Value) : w.grownBy (w.setRow g cs) (some g) :=
  ⟨rfl, rfl, rfl, by simp [World.setRow], fun k _ hk => setRow_other w g k _ (fun e => hk (by rw [e]))⟩
section
variable {ops : Array Oper} {rest : List Oper} {o : Oper} {a : Act} {Q : Exit → Act → World → Prop}
theorem buf_append1 {W : World} (hgd : o.guard = none) {N : Tmp} (_hd : o.dst = some N) (s x : Operand) (ho : o.op = .call { callee := .builtin .append, args := #[s, x], argTypes := #[36, 36] })
    {g n : Nat} {bs : List Int} {y : Int} (hs : a.eval s = .slice (some ⟨g, 0, none⟩) n 240) (hx : a.eval x = .slice (some ⟨W.heap.size, 0, none⟩) 1 1)
    (HB : Buf W g bs) (hn : n = bs.length) (hl : bs.length + 1 ≤ 240)
    (h : ∀ w1, Buf w1 g (bs ++ [y]) → (W.alloc (.cells #[.int .u8 y] 5)).grownBy w1 (some g) → wpList Try.prog ops Q rest (a.put o.dst (.slice (some ⟨g, 0, none⟩) (n + 1) 240)) w1) :
    wpList Try.prog ops Q (o :: rest) a (W.alloc (.cells #[.int .u8 y] 5)) := by
  subst hn
  obtain ⟨i, hi, hsz⟩ := info5i
  have HB1 := HB.alloc (.cells #[.int .u8 y] 5)
  have hrun := run_append_room (P := Try.prog) (W.alloc (.cells #[.int .u8 y] 5)) 36 o.type 5 i Try.underlying36 hi g bs.length 240 _ HB1.2 ⟨W.heap.size, 0, none⟩ 1 1 (nums .u8 [y]) (by simp [nums, hsz])
    (World.news_of_block (cs := #[.int .u8 y]) (t := 5) (fr := (0, 0)) (heap_alloc_new W _)) (nums_one _) (by omega) (by
      rw [hsz]; simp only [List.size_toArray, nums_length, padL_length bs HB.1, List.length_singleton]; omega)
  refine wpList_plain hgd fun K hK => ?_
  unfold Oper.wp
  simp only [hsz, Nat.mul_one, List.toList_toArray, nums_length, List.length_singleton] at hrun
  simp [execOp, ho, resolve, invoke, builtin, hs, hx, hrun, Result.andThen]
  refine hK _ _ (h _ ?_ (setRow_grown _ _ _))
  have := buf_set HB1 (ys := [y]) (by simpa using hl)
  simpa using this
theorem buf_append_str {W : World} (hgd : o.guard = none) {N : Tmp} (_hd : o.dst = some N) (s x : Operand) (ho : o.op = .call { callee := .builtin .append, args := #[s, x], argTypes := #[36, 9] })
    {g n : Nat} {bs : List Int} {y : ByteArray} (hs : a.eval s = .slice (some ⟨g, 0, none⟩) n 240) (hx : a.eval x = .string y)
    (HB : Buf W g bs) (hn : n = bs.length) (hl : bs.length + y.size ≤ 240)
    (h : ∀ w1, Buf w1 g (bs ++ bytesOf y) → W.grownBy w1 (some g) → wpList Try.prog ops Q rest (a.put o.dst (.slice (some ⟨g, 0, none⟩) (n + y.size) 240)) w1) :
    wpList Try.prog ops Q (o :: rest) a W := by
  subst hn
  obtain ⟨i, hi, hsz⟩ := info5i
  have hrun := Lib.run_append_room_string (P := Try.prog) W 36 9 o.type 5 i Try.underlying36 Try.underlying9 hi hsz g bs.length 240 _ HB.2 y hl (by simp only [List.size_toArray, nums_length, padL_length bs HB.1]; exact hl)
  refine wpList_plain hgd fun K hK => ?_
  unfold Oper.wp
  simp only [List.toList_toArray] at hrun
  simp [execOp, ho, resolve, invoke, builtin, hs, hx, hrun, Result.andThen]
  refine hK _ _ (h _ ?_ (setRow_grown _ _ _))
  have e : Lib.strCells y = nums .u8 (bytesOf y) := by simp [nums, bytesOf, Lib.strCells]
  have := buf_set HB (ys := bytesOf y) (by rw [bytesOf_length]; exact hl)
  rw [bytesOf_length] at this
  rw [e]
  simpa using this
theorem step_buf_str {K : Act → World → Prop} {W : World} (hw : Region.wanted o (yielded ops a.tmps) = true) {N : Tmp} (hN : o.dst = some N) (s x : Operand) (ho : o.op = .call { callee := .builtin .append, args := #[s, x], argTypes := #[36, 9] })
    {g n : Nat} {bs : List Int} {y : ByteArray} (hs : a.eval s = .slice (some ⟨g, 0, none⟩) n 240) (hx : a.eval x = .string y)
    (HB : Buf W g bs) (hn : n = bs.length) (hl : bs.length + y.size ≤ 240)
    (h : ∀ w1, Buf w1 g (bs ++ bytesOf y) → W.grownBy w1 (some g) → K (a.put (some N) (.slice (some ⟨g, 0, none⟩) (n + y.size) 240)) w1) :
    if Region.wanted o (yielded ops a.tmps) = true then Oper.wp Try.prog o a W K Q else K (a.put (some N) undef) W := by
  subst hn
  obtain ⟨i, hi, hsz⟩ := info5i
  have hrun := Lib.run_append_room_string (P := Try.prog) W 36 9 o.type 5 i Try.underlying36 Try.underlying9 hi hsz g bs.length 240 _ HB.2 y hl (by simp only [List.size_toArray, nums_length, padL_length bs HB.1]; exact hl)
  simp only [List.toList_toArray] at hrun
  have he : (execOp a.eval o).run Try.prog W = .ok (.value (.slice (some ⟨g, 0, none⟩) (bs.length + y.size) 240)) (W.setRow g (((nums .u8 (padL bs)).take bs.length ++ Lib.strCells y ++ (nums .u8 (padL bs)).drop (bs.length + y.size)).toArray)) := by
    unfold execOp
    simp [ho, resolve, invoke, builtin, hs, hx, hrun, Result.andThen]
  refine value_ hw hN he ?_
  refine h _ ?_ (setRow_grown _ _ _)
  have e : Lib.strCells y = nums .u8 (bytesOf y) := by simp [nums, bytesOf, Lib.strCells]
  have := buf_set HB (ys := bytesOf y) (by rw [bytesOf_length]; exact hl)
  rw [bytesOf_length] at this
  rw [e]
  simpa using this
end
theorem buf_slice (t : World) {g n : Nat} (hn : n ≤ 240) : (Instr.slice 36 (.slice (some ⟨g, 0, none⟩) n 240) none (some (.int .i64 240)) none).run Try.prog t = .ok (.slice (some ⟨g, 0, none⟩) 240 240) t := by
  obtain ⟨i, hi, hsz⟩ := info5i
  have hel : Try.prog.elem 36 = 5 := by simp [Program.elem, Try.underlying36]
  have hu : Try.prog.underlying 36 = some (.slice (Try.prog.elem 36)) := by rw [hel]; exact Try.underlying36
  rw [run_slice_h t 36 _ n 240 hu .i64 240 (by omega) (by omega), hel]
  simp [sizeOf, typeInfo, hi, sliced, Result.andThen, Addr.add]
theorem buf_text {w : World} {g : Nat} {bs : List Int} (h : Buf w g bs) : (convert 36 9 (.slice (some ⟨g, 0, none⟩) 240 240)).run Try.prog w = .ok (.string (strOfNums (padL bs))) w := by
  have hl := padL_length bs h.1
  refine own_string (P := Try.prog) (base := 0) (n := 240) (e' := 5) Try.underlying36 Try.underlying5 Try.underlying9 (xs := padL bs) ⟨by rw [nums_length, hl], .inr ⟨g, 240, _, rfl, Nat.zero_le _, h.2, Nat.le_refl _, by unfold maxLen; omega, ?_, ?_⟩⟩
  · simp only [List.size_toArray, nums_length, hl]
  · simp only [List.toList_toArray]
    exact List.take_of_length_le (by rw [nums_length, hl]; decide)
end Go.Proofs.Ytfjmnaobfbmllaa.M
namespace Go.Proofs.Ytfjmnaobfbmllaa.M
open Go.RowKit Go.Proofs.YtfjmnaobfbmllaaW.PrintWords Go.Proofs.YtfjmnaobfbmllaaW.PrintLast Go.Proofs.YtfjmnaobfbmllaaW.PrintMore
attribute [local go_sem] max2_int min2_int max_two min_two max_three min_three max_four min_four   -- for this text's walks alone
set_option linter.unusedVariables false
set_option linter.unusedSimpArgs false
def high_Put.l0 : Nat → Int → Int → List Int → Int → Int → Option (ByteArray)
 | 0, _, _, _, _, _ => none
 | k + 1, x0, x1, x5, x9, x10 => if x10 < x9 then (if 0 ≤ (wrap64 (8 * x10)) then (if 0 ≤ (wrap64 ((wrap64 (x1 - 1)) - x10)) then (if (wrap64 ((wrap64 (x1 - 1)) - x10)) < (x5.length : Int) then (high_Put.l0 k x0 x1 (x5.set ((wrap64 ((wrap64 (x1 - 1)) - x10)) : Int).toNat ((shr .u64 x0 (wrap64 (8 * x10))) % 256)) x9 (wrap64 (x10 + 1))) else (none)) else (none)) else (none)) else (some (strOfNums x5))
def high_Put.f (k : Nat) (a0 : Int) (a1 : Int) : Option (ByteArray) := if 0 ≤ a1 then (if (a1 : Int).toNat ≤ 281474976710656 then (high_Put.l0 k a0 a1 (List.replicate (a1 : Int).toNat 0) a1 0) else (none)) else (none)
set_option maxHeartbeats 8000000 in
set_option maxRecDepth 100000 in
theorem high_Put.calls (k : Nat) (a0 : Int) (a1 : Int) (r : ByteArray) (w : World) (h : high_Put.f k a0 a1 = some r) :
  Calls Try.prog 78 #[.int .u64 a0, .int .i64 a1] w fun e w' => e = .returned (.string r) ∧ Below w.heap.size w w' := by
 have HB := aq (Below.refl w.heap.size w)
 have H : (if 0 ≤ a1 then (if (a1 : Int).toNat ≤ 281474976710656 then (high_Put.l0 k a0 a1 (List.replicate (a1 : Int).toNat 0) a1 0) else (none)) else (none)) = some r := h
 clear h
 by_cases c3 : 0 ≤ a1
 ·rw [if_pos c3] at H
  have c3b0 := eq_true c3
  have c3b1 : decide (0 ≤ a1) = true := decide_eq_true c3
  clear c3
  by_cases c4 : (a1 : Int).toNat ≤ 281474976710656
  ·rw [if_pos c4] at H
   have c4b0 := eq_true c4
   have c4b1 : decide ((a1 : Int).toNat ≤ 281474976710656) = true := decide_eq_true c4
   clear c4
   obtain ⟨y101, hy101⟩ : ∃ y_ : List Int, y_ = (List.replicate (a1 : Int).toNat 0) := ⟨_, rfl⟩
   replace H : (high_Put.l0 k a0 a1 y101 a1 0) = some r := by first | (rw [hy101]; with_reducible exact H) | (have H2_ := (Option.bind_some _ _).symm.trans H; rw [hy101]; with_reducible exact H2_) | (have H2_ := (Option.bind_some _ _).symm.trans H; with_reducible exact H2_) | with_reducible exact H | (rw [hy101]; exact H) | exact H
   have Ny101 := aq hy101
   clear hy101
   have H' := aq H
   clear H
   go_enter Try.func78, Try.ntmps78
   go_wp2_with (first | ((with_reducible refine gate_dst (N := 8) rfl ?_); refine Kd.R_make (Kd.int .u8) _ 5 rfl (N := 8) rfl 36 _ _ rfl a1 rfl rfl Try.underlying36 (.int .u8 0) 1 info5 rfl (by decide) (by omega) 0 (ok := fun _ => True) (okp := fun _ => True) rfl (fun _ hk => hk) trivial (of_decide_eq_true (by first | (with_reducible assumption) | assumption)) (Nat.le_trans (Nat.mul_le_mul_right _ (of_decide_eq_true (by first | (with_reducible assumption) | assumption) : a1.toNat ≤ 281474976710656)) (by omega)) (Below.refl _ _) (Nat.le_refl _) ?_; intro v102 w5 ho6 hb hg_ hnew_; clear hg_ hnew_; (first | rw [← Ny101.out] at ho6 | (simp only [Int.reduceToNat] at ho6; rw [← Ny101.out] at ho6)); have n0_ := aq (Kd.R_lower ho6 (below_size (stH HB))); have n1_ := aq (below_step (stH HB) hb); have HO103 := n0_; replace HB := n1_; clear n0_ n1_; clear hb ho6))
   go_loopg [10] k (fun kq v10 w' => ∃ (x5_1 : List Int) (x10_1 : Int), v10 = .int .i64 x10_1 ∧ Aside0 (high_Put.l0 kq a0 a1 x5_1 a1 x10_1 = some r) ∧ Aside0 (kq ≤ k) ∧ Aside0 (Kd.R (Kd.int .u8) 5 w' w.heap.size (fun _ => True) v102 x5_1) ∧ Aside0 (Below w.heap.size w w'))
   case atStart => exact ⟨(y101), (0), eqS, H', ⟨Nat.le_refl _⟩, ⟨stR HO103⟩, ⟨stH HB⟩⟩
   case round =>
    clear H'
    try clear p2
    try clear c3
    try clear c3b0
    try clear c3b1
    try clear c4
    try clear c4b0
    try clear c4b1
    obtain ⟨x5_1, x10_1, rfl, HA, HK1, HO_5, HB⟩ := hrel
    cases gk with
    | zero => exact absurd HA.out (by simp [high_Put.l0])
    | succ k1 =>
     have H := HA.out
     clear HA
     simp only [high_Put.l0] at H
     by_cases c7 : x10_1 < a1
     ·rw [if_pos c7] at H
      have c7b0 : decide (x10_1 < a1) = true := decide_eq_true c7
      clear c7
      obtain ⟨ji8, hji8⟩ : ∃ j_ : Int, (wrap64 (8 * x10_1)) = j_ := ⟨_, rfl⟩
      replace H : (if 0 ≤ (ji8) then (if 0 ≤ (wrap64 ((wrap64 (a1 - 1)) - x10_1)) then (if (wrap64 ((wrap64 (a1 - 1)) - x10_1)) < (x5_1.length : Int) then (high_Put.l0 k1 a0 a1 (x5_1.set ((wrap64 ((wrap64 (a1 - 1)) - x10_1)) : Int).toNat ((shr .u64 a0 (ji8)) % 256)) a1 (wrap64 (x10_1 + 1))) else (none)) else (none)) else (none)) = some r := by first | (rw [hji8] at H; exact H) | (simp only [hji8] at H ⊢; exact H)
      have hji8w : (IntKind.i64.wrap (8 * x10_1)) = ji8 := (i64_w _).trans hji8
      by_cases c9 : 0 ≤ (ji8)
      ·rw [if_pos c9] at H
       have c9b0 := eq_true c9
       have c9b1 : decide (0 ≤ (ji8)) = true := decide_eq_true c9
       clear c9
       obtain ⟨ji10, hji10⟩ : ∃ j_ : Int, (shr .u64 a0 (ji8)) = j_ := ⟨_, rfl⟩
       replace H : (if 0 ≤ (wrap64 ((wrap64 (a1 - 1)) - x10_1)) then (if (wrap64 ((wrap64 (a1 - 1)) - x10_1)) < (x5_1.length : Int) then (high_Put.l0 k1 a0 a1 (x5_1.set ((wrap64 ((wrap64 (a1 - 1)) - x10_1)) : Int).toNat ((ji10) % 256)) a1 (wrap64 (x10_1 + 1))) else (none)) else (none)) = some r := by first | (rw [hji10] at H; exact H) | (simp only [hji10] at H ⊢; exact H)
       have hji10_ : (a0 / 2 ^ min (ji8).toNat 64) = ji10 := hji10
       have hji10z : (ji8) ≤ 64 → (a0 / 2 ^ (ji8).toNat) = ji10 := shr_small hji10
       obtain ⟨ji11, hji11⟩ : ∃ j_ : Int, (wrap64 ((wrap64 (a1 - 1)) - x10_1)) = j_ := ⟨_, rfl⟩
       replace H : (if 0 ≤ (ji11) then (if (ji11) < (x5_1.length : Int) then (high_Put.l0 k1 a0 a1 (x5_1.set ((ji11) : Int).toNat ((ji10) % 256)) a1 (wrap64 (x10_1 + 1))) else (none)) else (none)) = some r := by first | (rw [hji11] at H; exact H) | (simp only [hji11] at H ⊢; exact H)
       have hji11w : (IntKind.i64.wrap ((wrap64 (a1 - 1)) - x10_1)) = ji11 := (i64_w _).trans hji11
       by_cases c12 : 0 ≤ (ji11)
       ·rw [if_pos c12] at H
        have c12b0 : decide (0 ≤ (ji11)) = true := decide_eq_true c12
        clear c12
        by_cases c13 : (ji11) < (x5_1.length : Int)
        ·rw [if_pos c13] at H
         have c13b0 : decide ((ji11) < (x5_1.length : Int)) = true := decide_eq_true c13
         clear c13
         obtain ⟨y104, hy104⟩ : ∃ y_ : List Int, y_ = (x5_1.set ((ji11) : Int).toNat ((ji10) % 256)) := ⟨_, rfl⟩
         replace H : (high_Put.l0 k1 a0 a1 y104 a1 (wrap64 (x10_1 + 1))) = some r := by first | (rw [hy104]; with_reducible exact H) | (have H2_ := (Option.bind_some _ _).symm.trans H; rw [hy104]; with_reducible exact H2_) | (have H2_ := (Option.bind_some _ _).symm.trans H; with_reducible exact H2_) | with_reducible exact H | (rw [hy104]; exact H) | exact H
         have Ny104 := aq hy104
         clear hy104
         have H' := aq H
         clear H
         have p14 : 0 ≤ ((ji11) : Int) := of_decide_eq_true (by first | (with_reducible assumption) | assumption)
         have q14 : ((ji11) : Int) < ((x5_1.length : Int) : Int) := of_decide_eq_true (by first | (with_reducible assumption) | assumption)
         obtain ⟨go14, co14, eo14, gb14, gl14, cl14, HG14⟩ := Kd.R_form HO_5.out (by omega)
         (first | cases eo14 | (injection eo14 with ea_ en_ ec_; (first | subst ea_ | (injection ea_ with ea_; subst ea_)); subst ec_; clear en_))
         have GB14 := aq gb14
         have GG14 := aq HG14
         clear gb14 gl14 HG14
         obtain ⟨hx14_0, hf14_0⟩ := Kd.R_celln 0 HO_5.out ((ji11) : Int) p14 q14
         replace p14 := eq_true p14
         replace q14 := eq_true q14
         have HP15 := Kd.R_putg HO_5.out ((ji11) : Int) ((ji10) % 256)
         go_wp2_with (first | ((with_reducible refine gate_store (t := 5) (p := 23) rfl ?_); refine store_event (t := 5) (p := 23) (v := ?vo_w16) (w1 := (wr.setCell ⟨go14, ((ji11) : Int).toNat, none⟩ (.int .u8 ((ji10) % 256)))) ?hg ?ho ?hn ?hr ?_; (case ho => rfl); (case hg => rfl); (case hn => rfl); (case hr => first | (go_simp; done) | (go_simp; rfl)); intro w16 hw; have hg : wr.grownBy w16 (some go14) := (by rw [hw]; exact HP15.2); have hp_ : Kd.R (Kd.int .u8) 5 w16 w.heap.size (fun _ => True) (.slice (some ⟨go14, 0, none⟩) x5_1.length co14) y104 := (by rw [hw, Ny104.out]; exact HP15.1); clear HP15; have n0_ := aq (hp_); have n1_ := aq ((by rw [hw]; exact below_set (HB.out) GB14.out : Below w.heap.size w w16)); replace HO_5 := n0_; replace HB := n1_; clear n0_ n1_; clear hg hw hp_))
         go_roundg k1
         case measure => have := HK1.out; omega
         case rel => exact ⟨(y104), (wrap64 (x10_1 + 1)), eqS, H', ⟨by have := HK1.out; omega⟩, ⟨stR HO_5⟩, ⟨stH HB⟩⟩
        ·rw [if_neg c13] at H
         exact absurd H (by simp)
       ·rw [if_neg c12] at H
        exact absurd H (by simp)
      ·rw [if_neg c9] at H
       exact absurd H (by simp)
     ·rw [if_neg c7] at H
      have c7b0 : decide (x10_1 < a1) = false := decide_eq_false c7
      clear c7
      obtain rfl := Option.some.inj H
      have hcv17 := own_string (P := Try.prog) Try.underlying36 Try.underlying5 Try.underlying9 (Kd.own_of_R HO_5.out)
      go_wp2
      go_ret
      exact ⟨eqW, stH HB⟩
  ·rw [if_neg c4] at H
   exact absurd H (by simp)
 ·rw [if_neg c3] at H
  exact absurd H (by simp)
end Go.Proofs.Ytfjmnaobfbmllaa.M
namespace Go.Proofs.Ytfjmnaobfbmllaa.M
open Go.RowKit Go.Proofs.YtfjmnaobfbmllaaW.PrintWords Go.Proofs.YtfjmnaobfbmllaaW.PrintLast Go.Proofs.YtfjmnaobfbmllaaW.PrintMore
set_option linter.unusedVariables false
set_option linter.unusedSimpArgs false
def hiL (n : Nat) (a : Int) : List Int := (List.range n).map fun i => a / 2 ^ (8 * (n - 1 - i)) % 256
theorem hiL_length (n : Nat) (a : Int) : (hiL n a).length = n := by simp [hiL]
def hiP (n i : Nat) (a : Int) : List Int := (List.range n).map fun j => if n ≤ j + i then a / 2 ^ (8 * (n - 1 - j)) % 256 else 0
theorem hiP_set (n i : Nat) (a : Int) (h : i < n) : (hiP n i a).set (n - 1 - i) (a / 2 ^ (8 * i) % 256) = hiP n (i + 1) a := by
  apply List.ext_getElem
  · simp [hiP]
  intro j h1 h2
  simp only [hiP, List.length_set, List.length_map, List.length_range] at h1
  simp only [hiP, List.getElem_set, List.getElem_map, List.getElem_range]
  by_cases e : n - 1 - i = j
  · subst e
    rw [if_pos rfl, if_pos (by omega), show n - 1 - (n - 1 - i) = i by omega]
  · rw [if_neg e]
    by_cases e2 : n ≤ j + i
    · rw [if_pos e2, if_pos (by omega)]
    · rw [if_neg e2, if_neg (by omega)]
theorem put_loop (n : Nat) (hn : n ≤ 8) (a : Int) (d : Nat) : ∀ (k i : Nat), i + d = n → d < k → high_Put.l0 k a n (hiP n i a) n i = some (strOfNums (hiL n a)) := by
  induction d with
  | zero =>
    intro k i hi hk
    obtain ⟨k, rfl⟩ : ∃ m, k = m + 1 := ⟨k - 1, by omega⟩
    simp only [high_Put.l0]
    rw [if_neg (by omega)]
    congr 2
    unfold hiP hiL
    apply List.map_congr_left
    intro j _
    rw [if_pos (by omega)]
  | succ d ih =>
    intro k i hi hk
    obtain ⟨k, rfl⟩ : ∃ m, k = m + 1 := ⟨k - 1, by omega⟩
    simp only [high_Put.l0]
    have hlen : (hiP n i a).length = n := by simp [hiP]
    rw [if_pos (by omega), w64 (8 * (i : Int)) (by omega) (by omega), if_pos (by omega), w64 ((n : Int) - 1) (by omega) (by omega), w64 ((n : Int) - 1 - i) (by omega) (by omega), if_pos (by omega), if_pos (by rw [hlen]; omega),
      w64 ((i : Int) + 1) (by omega) (by omega)]
    have e1 : ((n : Int) - 1 - i).toNat = n - 1 - i := by omega
    have e2 : shr .u64 a (8 * (i : Int)) = a / 2 ^ (8 * i) := by
      unfold shr
      rw [Nat.min_eq_left (by show (8 * (i : Int)).toNat ≤ 64; omega)]
      congr 2
    rw [e1, e2, hiP_set n i a (by omega)]
    have := ih k (i + 1) (by omega) (by omega)
    rwa [show ((i + 1 : Nat) : Int) = (i : Int) + 1 by omega] at this
theorem put_pure (n : Nat) (hn : n ≤ 8) (a : Int) (k : Nat) (hk : 8 < k) : high_Put.f k a n = some (strOfNums (hiL n a)) := by
  unfold high_Put.f
  rw [if_pos (by omega), if_pos (by omega)]
  have e : List.replicate ((n : Int).toNat) (0 : Int) = hiP n 0 a := by
    apply List.ext_getElem
    · simp [hiP]
    intro j h1 h2
    simp only [hiP, List.getElem_map, List.getElem_range, List.getElem_replicate]
    simp at h1
    rw [if_neg (by omega)]
  rw [e]
  exact put_loop n hn a n k 0 (by omega) (by omega)
def highPut.f (a n : Int) : Option ByteArray := if 0 ≤ n ∧ n ≤ 8 then some (strOfNums (hiL n.toNat a)) else none
theorem highPut.calls (a n : Int) (r : ByteArray) (w : World) (h : highPut.f a n = some r) :
    Calls Try.prog 78 #[.int .u64 a, .int .i64 n] w fun e w' => e = .returned (.string r) ∧ Below w.heap.size w w' := by
  unfold highPut.f at h
  split at h
  · rename_i hn
    obtain ⟨m, rfl⟩ := Int.eq_ofNat_of_zero_le hn.1
    exact high_Put.calls 9 a m r w (by rw [put_pure m (by omega) a 9 (by omega)]; simpa using h)
  · cases h
end Go.Proofs.Ytfjmnaobfbmllaa.M
namespace Go.Proofs.Ytfjmnaobfbmllaa.M
open Go.RowKit Go.Proofs.YtfjmnaobfbmllaaW.PrintWords Go.Proofs.YtfjmnaobfbmllaaW.PrintLast Go.Proofs.YtfjmnaobfbmllaaW.PrintMore
set_option linter.unusedVariables false
set_option linter.unusedSimpArgs false
def slotB (x : S33) : List Int := if x.f0 then (x.f1.size : Int) :: bytesOf x.f1 else [255]
def slotsB (l : List S33) : List Int := l.flatMap slotB
def encL (a : Int) (l : List S33) : List Int := hiL 8 a ++ (l.length : Int) :: slotsB l
theorem slotB_length (x : S33) (h : oddS x = false) : (slotB x).length = 1 + x.f1.size := by
 unfold slotB
 by_cases hu : x.f0 = true
 ·rw [if_pos hu, List.length_cons, bytesOf_length]; omega
 ·rw [if_neg hu]
  unfold oddS at h
  simp [hu] at h
  have h2 := h.1
  have : x.f1.toList.length = 0 := by rw [h2]; rfl
  rw [ByteArray.toList_eq] at this
  simp at this ⊢
  have e : x.f1.size = x.f1.data.size := rfl
  omega
theorem slotsB_take (l : List S33) (i : Nat) (h : i < l.length) : slotsB (l.take (i + 1)) = slotsB (l.take i) ++ slotB l[i] := by
 unfold slotsB
 rw [List.take_succ_eq_append_getElem h, List.flatMap_append]
 simp
theorem slotsB_length (l : List S33) (h : l.any oddS = false) (i : Nat) (hi : i ≤ l.length) : (slotsB (l.take i)).length + sumS (l.drop i) = sumS l := by
 induction i with
 | zero => simp [slotsB]
 | succ i ih =>
  have hlt : i < l.length := by omega
  have h1 := ih (by omega)
  rw [slotsB_take l i hlt, List.length_append, slotB_length _ (by
   rw [List.any_eq_false] at h
   simpa using h l[i] (List.getElem_mem hlt))]
  have := sumS_drop l i hlt
  omega
theorem made_nums (n : Nat) : madeCells #[.int .u8 0] n = (nums .u8 (List.replicate n 0)).toArray := by
 apply Array.ext
 ·simp [madeCells, nums]
 intro i h1 h2
 simp [madeCells, nums, Nat.mod_one]
theorem make240 (W : World) : (Instr.makeSlice 36 (.int .i64 0) (.int .i64 240)).run Try.prog W = .ok (.slice (some ⟨W.heap.size, 0, none⟩) 0 240) (W.alloc (.cells (nums .u8 (padL [])).toArray 5)) := by
 obtain ⟨i0, hi, hzz⟩ := Option.map_eq_some_iff.1 info5
 simp only [Prod.mk.injEq] at hzz
 obtain ⟨hz0, hz1, hz2⟩ := hzz
 have h := run_make (P := Try.prog) W 36 5 i0 _ Try.underlying36 hi hz0 .i64 .i64 0 240 (by omega) (by omega) (by rw [hz2]; omega) (by omega)
 have e : madeCells (Value.int .u8 0).cells (Int.toNat 240 * i0.size) = (nums .u8 (padL [])).toArray := by
  rw [hz1]
  exact made_nums 240
 rw [h, e]
 rfl
theorem strOfNums_size (xs : List Int) : (strOfNums xs).size = xs.length := by
 simp [strOfNums, ByteArray.size]
theorem bytesOf_strOfNums (xs : List Int) (h : ∀ x ∈ xs, 0 ≤ x ∧ x ≤ 255) : bytesOf (strOfNums xs) = xs := by
 unfold bytesOf strOfNums
 simp only [List.map_map]
 conv => rhs; rw [← List.map_id xs]
 apply List.map_congr_left
 intro x hx
 have := h x hx
 simp
 omega
theorem hiL_range (n : Nat) (a : Int) : ∀ x ∈ hiL n a, 0 ≤ x ∧ x ≤ 255 := by
 intro x hx
 simp only [hiL, List.mem_map] at hx
 obtain ⟨i, _, rfl⟩ := hx
 omega
def slab_Encode.f (a : Int) (l : List S33) : Option (ByteArray × Int) := if goodP a l = true then some (strOfNums (padL (encL a l)), 0) else some ((⟨#[]⟩ : ByteArray), 1)
set_option maxHeartbeats 4000000 in
set_option maxRecDepth 100000 in
theorem slab_Encode.good (a : Int) (A : Option Addr) (c : Nat) (l : List S33) (w : World) (hr : Kd.C k33 w A l.length l) (hc : l.length ≤ c) (hg : goodP a l = true) :
  Calls Try.prog 32 #[.agg #[.int .i64 a, .slice A l.length c]] w fun e w' => e = .returned (.tuple #[.string (strOfNums (padL (encL a l))), .int .i64 0]) ∧ Below w.heap.size w w' := by
 have hu24 := Try.underlying24
 have hu33 := Try.underlying33
 have hcg : slabGood.f a l = some true := by unfold slabGood.f; rw [hg]
 unfold goodP at hg
 simp only [Bool.and_eq_true, decide_eq_true_eq, Bool.not_eq_true'] at hg
 obtain ⟨⟨⟨⟨⟨ha0, ha1⟩, hl32⟩, hodd⟩, hlast⟩, h240⟩ := hg
 have HR := Aside0.mk hr
 have HC := Aside0.mk hc
 have HG := Aside0.mk hcg
 have HO := Aside0.mk hodd
 have HS := Aside0.mk h240
 clear hr hc hcg hodd hlast h240
 have HB := Aside0.mk (Below.refl w.heap.size w)
 have HHP : Aside0 (highPut.f a 8 = some (strOfNums (hiL 8 a))) := ⟨by unfold highPut.f; rw [if_pos (by omega)]; rfl⟩
 have hwr0 : IntKind.u64.wrap a = a := by rw [IntKind.wrap_u64]; omega
 have HWR := Aside0.mk hwr0
 clear hwr0
 go_enter Try.func32, Try.ntmps32
 go_wp2_with (first | ((with_reducible refine gate_dst (N := 1) rfl ?_); (try (refine gate_guard (by rfl) ?_; dsimp only)); refine box_event ?hg (N := 1) ?hd (cs := #[.int .i64 a, .slice A l.length c]) (t := 24) ?hr ?_; (case hd => rfl); (case hg => rfl); (case hr => first | (go_simp; done) | (go_simp; rfl)); intro g1 hg1 w5 hbox hb; have HBK := Aside0.mk hbox; have n1_ := Aside0.mk (below_step HB.out hb); have HG1 := Aside0.mk (by rw [hg1]; exact HB.out.size : w.heap.size ≤ g1); clear HB; have HB := n1_; clear n1_ hbox hb hg1; obtain ⟨hc0, hc1⟩ := cl2 (W := w5) HBK.out) | ((with_reducible refine gate_callee (f := 34) rfl ?_); refine goesL_ (some 8) rfl rfl Try.func34 (by kernel_rfl) rfl #[.agg #[.int .i64 a, .slice A l.length c]] rfl (by (try simp only [List.map_toArray, List.map_cons, List.map_nil]); first | done | rfl) ?_; (with_reducible refine (slabGood.calls a _ _ l true _ ?side1 ?side2 HG.out).mono ?_); (case side1 => exact Kd.C_below HR.out HB.out); (case side2 => exact HC.out); rintro e w6 ⟨rfl, hb⟩; refine ⟨_, rfl, ?_⟩; have n0_ := Aside0.mk (blk_below (g := g1) HBK.out hb); have n1_ := Aside0.mk (below_step HB.out hb); clear HB HBK hc0 hc1 hb; have HBK := n0_; have HB := n1_; clear n0_ n1_))
 have n0_ := Aside0.mk (blk_drew HBK.out)
 have n1_ := Aside0.mk (below_drew1 HB.out)
 clear HBK HB
 have HBK := n0_
 have HB := n1_
 clear n0_ n1_
 refine start_ (n := 7) (S := fun w' => w'.cell? ⟨g1, 0, none⟩ = some (.int .i64 a)) (ds := []) #[false, false, false, false, false, false, false] (by kernel_rfl) rfl rfl ((blk_cell HBK.out 0).trans rfl) (fun hHeld => ?_)
 generalize w6.drew = w7 at HBK HB hHeld ⊢
 refine pure_ (i := 1) (N := some 11) (v := ?_) (a' := ?_) #[false, true, false, false, false, false, false] rfl rfl (by kernel_rfl) (fun _ _ _ h => h) (Or.inl ⟨by rfl, ?_⟩) ?_ ?_
 rotate_left
 ·intro w'
  go_simp
  with_reducible rfl
 rotate_left
 ·simp only [Act.put, List.setIfInBounds_toArray, List.set_cons_zero, List.set_cons_succ, i64_w, i32_w]
  rfl
 refine take_ (i := 2) (N := some 12) (v := ?_) (a' := ?_) #[false, true, true, false, false, false, false] rfl rfl (by kernel_rfl) (fun _ _ _ h => h) (Or.inl ⟨by rfl, ?_⟩) hHeld ?_ ?_
 rotate_left
 ·intro w' s0
  go_simp
  with_reducible rfl
 rotate_left
 ·simp only [Act.put, List.setIfInBounds_toArray, List.set_cons_zero, List.set_cons_succ, i64_w, i32_w]
  rfl
 refine pure_ (i := 3) (N := some 13) (v := ?_) (a' := ?_) #[false, true, true, true, false, false, false] rfl rfl (by kernel_rfl) (fun _ _ _ h => h) (Or.inl ⟨by rfl, ?_⟩) ?_ ?_
 rotate_left
 ·intro w'
  go_simp
  with_reducible rfl
 rotate_left
 ·simp only [Act.put, List.setIfInBounds_toArray, List.set_cons_zero, List.set_cons_succ, i64_w, i32_w]
  rfl
 rw [HWR.out]
 refine join_ (σ := Nat) 2 #[true, true, true, true, true, false, false] (fun s_ => [(10, .slice (some ⟨s_, 0, none⟩) 0 240), (14, .string (strOfNums (hiL 8 a)))]) (fun (s_ : Nat) w' => w'.cell? ⟨g1, 0, none⟩ = some (.int .i64 a) ∧ Buf w' s_ [] ∧ w'.heap[g1]? = some (.cells #[.int .i64 a, .slice A l.length c] 24 (0, 0)) ∧ w.heap.size ≤ s_ ∧ s_ ≠ g1 ∧ Below w.heap.size w w') ?_ ?_
 rotate_left
 ·intro hCont
  refine two_ (i := 0) (j := 4) (Ni := some 10) (Nj := some 14) #[true, true, true, true, false, false, false] #[false, true, true, true, true, false, false] rfl rfl rfl rfl (by kernel_rfl) (by decide) (by decide) (fun K hK => ?_) (fun K hK => ?_)
  ·skip
   have hma2 := make240 w7
   refine value_ (w1 := ?_) (v := ?_) (by rfl) rfl ?_ ?_
   rotate_left 2
   ·go_simp
    constructor
    ·rfl
    ·rfl
   clear hma2
   have hsz := blk_lt HBK.out
   have hbW : Below w.heap.size w w7 := HB.out
   obtain ⟨g2, hg2⟩ : ∃ g_, g_ = w7.heap.size := ⟨_, rfl⟩
   have hBf : Aside0 (Buf (w7.alloc (.cells (nums .u8 (padL [])).toArray 5)) g2 []) := ⟨⟨by simp, by rw [hg2]; exact blk_new w7 _⟩⟩
   have n0_ := Aside0.mk (blk_alloc HBK.out (.cells (nums .u8 (padL [])).toArray 5))
   have n1_ := Aside0.mk (below_alloc HB.out (.cells (nums .u8 (padL [])).toArray 5))
   have HG2 := Aside0.mk (by rw [hg2]; exact hbW.size : w.heap.size ≤ g2)
   have HN2 := Aside0.mk (by rw [hg2]; omega : g2 ≠ g1)
   rw [← hg2]
   clear hg2 hsz hbW HBK HB
   generalize w7.alloc (.cells (nums .u8 (padL [])).toArray 5) = w8 at hBf n0_ n1_ ⊢
   have HBK := n0_
   have HB := n1_
   clear n0_ n1_
   refine hK.out _ _ ((blk_cell HBK.out 0).trans rfl) (fun hHeld => ?_)
   clear hK K
   refine norm_ (a' := ?_) ?_ ?_
   rotate_left
   ·show Act.put _ (some 10) _ = _
    simp only [Act.put, List.setIfInBounds_toArray, List.set_cons_zero, List.set_cons_succ, i64_w, i32_w]
    rfl
   refine one_ (i := 4) (N := some 14) #[true, true, true, true, true, false, false] rfl rfl (by kernel_rfl) (by decide) (fun K hK => ?_)
   refine goes_ Try.func78 (by kernel_rfl) rfl #[.int .u64 a, .int .i64 8] (by rfl) rfl rfl (by (try simp only [List.map_toArray, List.map_cons, List.map_nil]); first | done | rfl) ?_
   with_reducible refine (highPut.calls a 8 _ _ HHP.out).mono ?_
   rintro e w9 ⟨rfl, hb⟩
   refine ⟨_, rfl, ?_⟩
   have hBf2 := Aside0.mk (Buf.below hBf.out hb)
   clear hBf
   have hBf := hBf2
   clear hBf2
   have n0_ := Aside0.mk (blk_below HBK.out hb)
   have n1_ := Aside0.mk (below_step HB.out hb)
   clear HBK HB hb
   have HBK := n0_
   have HB := n1_
   clear n0_ n1_
   refine hK.out _ _ ((blk_cell HBK.out 0).trans rfl) (fun hHeld => ?_)
   clear hK K
   exact norm_ (by simp only [putAll, Act.put, List.setIfInBounds_toArray, List.set_cons_zero, List.set_cons_succ]) (hCont g2 _ ⟨hHeld, hBf.out, HBK.out, HG2.out, HN2.out, HB.out⟩)

  ·skip
   refine goes_ Try.func78 (by kernel_rfl) rfl #[.int .u64 a, .int .i64 8] (by rfl) rfl rfl (by (try simp only [List.map_toArray, List.map_cons, List.map_nil]); first | done | rfl) ?_
   with_reducible refine (highPut.calls a 8 _ _ HHP.out).mono ?_
   rintro e w8 ⟨rfl, hb⟩
   refine ⟨_, rfl, ?_⟩
   have n0_ := Aside0.mk (blk_below HBK.out hb)
   have n1_ := Aside0.mk (below_step HB.out hb)
   clear HBK HB hb
   have HBK := n0_
   have HB := n1_
   clear n0_ n1_
   refine hK.out _ _ ((blk_cell HBK.out 0).trans rfl) (fun hHeld => ?_)
   clear hK K
   refine norm_ (a' := ?_) ?_ ?_
   rotate_left
   ·show Act.put _ (some 14) _ = _
    simp only [Act.put, List.setIfInBounds_toArray, List.set_cons_zero, List.set_cons_succ, i64_w, i32_w]
    rfl
   refine one_ (i := 0) (N := some 10) #[true, true, true, true, true, false, false] rfl rfl (by kernel_rfl) (by decide) (fun K hK => ?_)
   have hma2 := make240 w8
   refine value_ (w1 := ?_) (v := ?_) (by rfl) rfl ?_ ?_
   rotate_left 2
   ·go_simp
    constructor
    ·rfl
    ·rfl
   clear hma2
   have hsz := blk_lt HBK.out
   have hbW : Below w.heap.size w w8 := HB.out
   obtain ⟨g2, hg2⟩ : ∃ g_, g_ = w8.heap.size := ⟨_, rfl⟩
   have hBf : Aside0 (Buf (w8.alloc (.cells (nums .u8 (padL [])).toArray 5)) g2 []) := ⟨⟨by simp, by rw [hg2]; exact blk_new w8 _⟩⟩
   have n0_ := Aside0.mk (blk_alloc HBK.out (.cells (nums .u8 (padL [])).toArray 5))
   have n1_ := Aside0.mk (below_alloc HB.out (.cells (nums .u8 (padL [])).toArray 5))
   have HG2 := Aside0.mk (by rw [hg2]; exact hbW.size : w.heap.size ≤ g2)
   have HN2 := Aside0.mk (by rw [hg2]; omega : g2 ≠ g1)
   rw [← hg2]
   clear hg2 hsz hbW HBK HB
   generalize w8.alloc (.cells (nums .u8 (padL [])).toArray 5) = w9 at hBf n0_ n1_ ⊢
   have HBK := n0_
   have HB := n1_
   clear n0_ n1_
   refine hK.out _ _ ((blk_cell HBK.out 0).trans rfl) (fun hHeld => ?_)
   clear hK K
   exact norm_ (by simp only [putAll, Act.put, List.setIfInBounds_toArray, List.set_cons_zero, List.set_cons_succ]) (hCont g2 _ ⟨hHeld, hBf.out, HBK.out, HG2.out, HN2.out, HB.out⟩)

 clear hHeld HBK HB
 rintro g2 w9 ⟨hHeld, h1_, h2_, h3_, h4_, h5_⟩
 have hBf := Aside0.mk h1_
 have HBK := Aside0.mk h2_
 have HG2 := Aside0.mk h3_
 have HN2 := Aside0.mk h4_
 have HB := Aside0.mk h5_
 clear h1_ h2_ h3_ h4_ h5_
 refine norm_ (a' := ?_) ?_ ?_
 rotate_left
 ·simp only [putAll, Act.put, List.setIfInBounds_toArray, List.set_cons_zero, List.set_cons_succ]
  rfl
 refine one_ (i := 5) (N := some 15) #[true, true, true, true, true, true, false] rfl rfl (by kernel_rfl) (by decide) (fun K hK => ?_)
 refine step_buf_str (by rfl) (N := 15) rfl _ _ rfl rfl rfl hBf.out rfl (by rw [strOfNums_size, hiL_length]; simp) ?_
 intro w10 hb10 hg10
 rw [List.nil_append, bytesOf_strOfNums _ (hiL_range 8 a), strOfNums_size, hiL_length] at *
 have n0_ := Aside0.mk (blk_grown HBK.out hg10 (by simpa using fun e_ => HN2.out e_.symm))
 have n1_ := Aside0.mk (pw_below_grown HB.out (some g2) HB.out.size hg10 (fun k_ e_ => by cases e_; exact HG2.out))
 have n2_ := Aside0.mk hb10
 clear HBK HB hBf hb10 hg10
 have HBK := n0_
 have HB := n1_
 have hBf := n2_
 clear n0_ n1_ n2_
 refine hK.out _ _ ((blk_cell HBK.out 0).trans rfl) (fun hHeld => ?_)
 clear hK K
 refine norm_ (a' := ?_) ?_ ?_
 rotate_left
 ·show Act.put _ (some 15) _ = _
  simp only [Act.put, List.setIfInBounds_toArray, List.set_cons_zero, List.set_cons_succ, i64_w, i32_w]
  rfl
 refine pure_ (i := 6) (N := some 4) (v := ?_) (a' := ?_) #[true, true, true, true, true, true, true] rfl rfl (by kernel_rfl) (fun _ _ _ h => h) (Or.inl ⟨by rfl, ?_⟩) ?_ ?_
 rotate_left
 ·intro w'
  go_simp
  with_reducible rfl
 rotate_left
 ·simp only [Act.put, List.setIfInBounds_toArray, List.set_cons_zero, List.set_cons_succ, i64_w, i32_w]
  rfl
 refine done_ (by kernel_rfl) ?_
 clear hHeld
 obtain ⟨hc0, hc1⟩ := cl2 (W := w10) HBK.out
 go_wp2_with (first | ((with_reducible refine gate_dst (N := 22) rfl ?_); refine buf_append1 rfl (N := 22) rfl _ _ rfl (g := g2) (bs := hiL 8 a) (y := (l.length : Int)) rfl rfl hBf.out (by rw [hiL_length]) (by rw [hiL_length]; omega) ?_; intro w12 hbw hgw; have n0_ := Aside0.mk (blk_grown (blk_alloc HBK.out _) hgw (by simpa using fun e_ => HN2.out e_.symm)); have n1_ := Aside0.mk (pw_below_grown (below_alloc HB.out _) (some g2) (Below.size (below_alloc HB.out _)) hgw (fun k_ e_ => by cases e_; exact HG2.out)); have n2_ := Aside0.mk hbw; clear HBK HB hBf hbw hgw hc0 hc1; have HBK := n0_; have HB := n1_; have hBf := n2_; clear n0_ n1_ n2_; obtain ⟨hc0, hc1⟩ := cl2 (W := w12) HBK.out))
 go_loopg [4, 26] l.length (fun gg v4 v26 wr => ∃ k n : Nat, k ≤ l.length ∧ l.length - k ≤ gg ∧ v26 = .int .i64 k ∧ v4 = .slice (some ⟨g2, 0, none⟩) n 240 ∧ Aside0 (n = (hiL 8 a ++ (l.length : Int) :: slotsB (l.take k)).length) ∧ Aside0 (Buf wr g2 (hiL 8 a ++ (l.length : Int) :: slotsB (l.take k))) ∧ Aside0 (wr.heap[g1]? = some (.cells #[.int .i64 a, .slice A l.length c] 24 (0, 0))) ∧ Aside0 (Below w.heap.size w wr))
 case atStart => exact ⟨0, 9, Nat.zero_le _, by omega, rfl, rfl, ⟨by simp [hiL_length, slotsB]⟩, ⟨by simpa [slotsB] using hBf.out⟩, HBK, HB⟩
 case round =>
  clear hc0 hc1 hBf HBK HB
  obtain ⟨k, n, hk, hgk, rfl, rfl, hN0, hBf0, HBK, HB⟩ := hrel
  by_cases hlt : k < l.length
  ·have p0 : 0 ≤ (k : Int) := by omega
   have q0 : (k : Int) < (l.length : Int) := by omega
   obtain ⟨ad, e0, hx0, hx1⟩ := at_T33 HR.out (k : Int) p0 q0
   cases e0
   replace hx0 := (HB.out.cell (World.block_lt_of_cell? w _ hx0)).trans hx0
   replace hx1 := (HB.out.cell (World.block_lt_of_cell? w _ hx1)).trans hx1
   rw [Int.toNat_natCast, rd33 l k hlt] at hx0 hx1
   have hoddx : oddS l[k] = false := by
    have h_ := HO.out
    rw [List.any_eq_false] at h_
    simpa using h_ l[k] (List.getElem_mem hlt)
   have hlen0 := slotsB_length l HO.out k hk
   have hsd := sumS_drop l k hlt
   have hraw := HS.out
   unfold rawSize at hraw
   have HL : Aside0 (n + 1 + l[k].f1.size ≤ 240) := ⟨by have h_ := hN0.out; simp only [List.length_append, List.length_cons, hiL_length] at h_; omega⟩
   have HE : Aside0 (slotsB (l.take (k + 1)) = slotsB (l.take k) ++ slotB l[k]) := ⟨slotsB_take l k hlt⟩
   clear hlen0 hsd hraw
   have hsz : l[k].f1.size ≤ 200 := by
    unfold oddS at hoddx; simp at hoddx; omega
   generalize l[k] = x at hx0 hx1 hoddx HL HE hsz
   obtain ⟨bs, hbs⟩ : ∃ b_, b_ = hiL 8 a ++ (l.length : Int) :: slotsB (l.take k) := ⟨_, rfl⟩
   have hN := hN0
   have hBf := hBf0
   rw [← hbs] at hN hBf
   clear hN0 hBf0
   have HL2 := HL
   rw [hN.out] at HL2
   clear HL
   have HL := HL2
   clear HL2
   have HBS := Aside0.mk hbs
   clear hbs
   cases hu : x.f0 with
   | true =>
    rw [hu] at hx0
    have HU := Aside0.mk hu
    have HES : Aside0 (hiL 8 a ++ (l.length : Int) :: slotsB (l.take (k + 1)) = (bs ++ [(x.f1.size : Int)]) ++ bytesOf x.f1) := ⟨by rw [HE.out, HBS.out]; simp [slotB, hu]⟩
    clear hu hoddx HE
    go_wp2_with (first | ((with_reducible refine gate_dst (N := 6) rfl ?_); refine box_event ?hg (N := 6) ?hd (cs := #[.bool false, .string (⟨#[]⟩ : ByteArray)]) (t := 33) ?hr ?_; (case hd => rfl); (case hg => rfl); (case hr => first | (go_simp; done) | (go_simp; rfl)); intro g3 hg3 w13 hbox hb; have HN3 := Aside0.mk (by rw [hg3]; exact Nat.ne_of_lt (blk_lt hBf.out.2) : g2 ≠ g3); have HN4 := Aside0.mk (by rw [hg3]; exact Nat.ne_of_lt (blk_lt HBK.out) : g1 ≠ g3); have HG3 := Aside0.mk (by rw [hg3]; exact HB.out.size : w.heap.size ≤ g3); have n0_ := Aside0.mk (blk_below HBK.out hb); have n1_ := Aside0.mk (below_step HB.out hb); have n2_ := Aside0.mk (Buf.below hBf.out hb); have HBX := Aside0.mk hbox; clear HBK HB hBf hb hbox hg3; have HBK := n0_; have HB := n1_; have hBf := n2_; clear n0_ n1_ n2_; obtain ⟨hz0, hz1⟩ := cl2 (W := w13) HBX.out; obtain ⟨hf0, hf1⟩ := fr2 HBX.out) | ((with_reducible refine gate_store (t := 33) (p := 6) rfl ?_); refine store_event (t := 33) (p := 6) (v := ?vo) (w1 := ((w13.setCell ⟨g3, 0, none⟩ (.bool true)).setCell ⟨g3, 1, none⟩ (.string x.f1))) ?hg ?ho ?hn ?hr ?_; (case ho => rfl); (case hg => rfl); (case hn => rfl); (case hr => first | (go_simp; done) | (go_simp; rfl)); intro w14 hw; have n0_ := Aside0.mk ((congrArg (fun W_ => W_.heap[g1]?) hw).trans (blk_far (p := ⟨g3, _, none⟩) (blk_far (p := ⟨g3, _, none⟩) HBK.out HN4.out _) HN4.out _)); have n1_ : Aside0 (Below w.heap.size w w14) := ⟨by rw [hw]; exact below_set (below_set HB.out HG3.out) HG3.out⟩; have n2_ : Aside0 (Buf w14 g2 bs) := ⟨⟨hBf.out.1, by rw [hw]; exact blk_far (p := ⟨g3, _, none⟩) (blk_far (p := ⟨g3, _, none⟩) hBf.out.2 HN3.out _) HN3.out _⟩⟩; have n3_ : Aside0 (w14.heap[g3]? = some (.cells #[.bool true, .string x.f1] 33 (0, 0))) := ⟨by rw [hw]; exact blk_set (blk_set HBX.out 0 _) 1 _⟩; clear HBK HB hBf HBX hz0 hz1 hf0 hf1 hw; have HBK := n0_; have HB := n1_; have hBf := n2_; have HBX := n3_; clear n0_ n1_ n2_ n3_; obtain ⟨hz0, hz1⟩ := cl2 (W := w14) HBX.out) | ((with_reducible refine gate_dst (N := 42) rfl ?_); refine buf_append1 rfl (N := 42) rfl _ _ rfl (g := g2) (bs := bs) (y := (x.f1.size : Int)) rfl rfl hBf.out hN.out (by have h1_ := HL.out; omega) ?_; intro w15 hbw hgw; have n0_ := Aside0.mk (blk_grown (blk_alloc HBK.out _) hgw (by simpa using fun e_ => HN2.out e_.symm)); have n1_ := Aside0.mk (pw_below_grown (below_alloc HB.out _) (some g2) (Below.size (below_alloc HB.out _)) hgw (fun k_ e_ => by cases e_; exact HG2.out)); have n2_ := Aside0.mk hbw; have n3_ := Aside0.mk (blk_grown (blk_alloc HBX.out _) hgw (by simpa using fun e_ => HN3.out e_.symm)); clear HBK HB hBf HBX hbw hgw hz0 hz1; have HBK := n0_; have HB := n1_; have hBf := n2_; have HBX := n3_; clear n0_ n1_ n2_ n3_; have hz1 : w15.cell? ⟨g3, 1, none⟩ = some (.string x.f1) := (blk_cell HBX.out 1).trans rfl) | ((with_reducible refine gate_dst (N := 46) rfl ?_); refine buf_append_str rfl (N := 46) rfl _ _ rfl (g := g2) (bs := bs ++ [(x.f1.size : Int)]) (y := x.f1) rfl rfl hBf.out (by rw [List.length_append, ← hN.out]; rfl) (by have h1_ := HL.out; rw [List.length_append, List.length_singleton]; omega) ?_; intro w16 hbw hgw; have n0_ := Aside0.mk (blk_grown (HBK.out) hgw (by simpa using fun e_ => HN2.out e_.symm)); have n1_ := Aside0.mk (pw_below_grown (HB.out) (some g2) (Below.size (HB.out)) hgw (fun k_ e_ => by cases e_; exact HG2.out)); have n2_ := Aside0.mk hbw; clear HBK HB hBf HBX hbw hgw hz1; have HBK := n0_; have HB := n1_; have hBf := n2_; clear n0_ n1_ n2_))
    go_roundg (l.length - (k + 1))
    case measure => omega
    case rel => exact ⟨k + 1, _, by omega, by omega, by go_num, rfl, ⟨by rw [HES.out, hN.out]; simp [bytesOf_length]; omega⟩, ⟨by rw [HES.out]; exact hBf.out⟩, HBK, HB⟩
   | false =>
    rw [hu] at hx0
    have HU := Aside0.mk hu
    have HES : Aside0 (hiL 8 a ++ (l.length : Int) :: slotsB (l.take (k + 1)) = bs ++ [255]) := ⟨by rw [HE.out, HBS.out]; simp [slotB, hu]⟩
    clear hu hoddx HE
    go_wp2_with (first | ((with_reducible refine gate_dst (N := 6) rfl ?_); refine box_event ?hg (N := 6) ?hd (cs := #[.bool false, .string (⟨#[]⟩ : ByteArray)]) (t := 33) ?hr ?_; (case hd => rfl); (case hg => rfl); (case hr => first | (go_simp; done) | (go_simp; rfl)); intro g3 hg3 w13 hbox hb; have HN3 := Aside0.mk (by rw [hg3]; exact Nat.ne_of_lt (blk_lt hBf.out.2) : g2 ≠ g3); have HN4 := Aside0.mk (by rw [hg3]; exact Nat.ne_of_lt (blk_lt HBK.out) : g1 ≠ g3); have HG3 := Aside0.mk (by rw [hg3]; exact HB.out.size : w.heap.size ≤ g3); have n0_ := Aside0.mk (blk_below HBK.out hb); have n1_ := Aside0.mk (below_step HB.out hb); have n2_ := Aside0.mk (Buf.below hBf.out hb); have HBX := Aside0.mk hbox; clear HBK HB hBf hb hbox hg3; have HBK := n0_; have HB := n1_; have hBf := n2_; clear n0_ n1_ n2_; obtain ⟨hz0, hz1⟩ := cl2 (W := w13) HBX.out; obtain ⟨hf0, hf1⟩ := fr2 HBX.out) | ((with_reducible refine gate_store (t := 33) (p := 6) rfl ?_); refine store_event (t := 33) (p := 6) (v := ?vo) (w1 := ((w13.setCell ⟨g3, 0, none⟩ (.bool false)).setCell ⟨g3, 1, none⟩ (.string x.f1))) ?hg ?ho ?hn ?hr ?_; (case ho => rfl); (case hg => rfl); (case hn => rfl); (case hr => first | (go_simp; done) | (go_simp; rfl)); intro w14 hw; have n0_ := Aside0.mk ((congrArg (fun W_ => W_.heap[g1]?) hw).trans (blk_far (p := ⟨g3, _, none⟩) (blk_far (p := ⟨g3, _, none⟩) HBK.out HN4.out _) HN4.out _)); have n1_ : Aside0 (Below w.heap.size w w14) := ⟨by rw [hw]; exact below_set (below_set HB.out HG3.out) HG3.out⟩; have n2_ : Aside0 (Buf w14 g2 bs) := ⟨⟨hBf.out.1, by rw [hw]; exact blk_far (p := ⟨g3, _, none⟩) (blk_far (p := ⟨g3, _, none⟩) hBf.out.2 HN3.out _) HN3.out _⟩⟩; have n3_ : Aside0 (w14.heap[g3]? = some (.cells #[.bool false, .string x.f1] 33 (0, 0))) := ⟨by rw [hw]; exact blk_set (blk_set HBX.out 0 _) 1 _⟩; clear HBK HB hBf HBX hz0 hz1 hf0 hf1 hw; have HBK := n0_; have HB := n1_; have hBf := n2_; have HBX := n3_; clear n0_ n1_ n2_ n3_; obtain ⟨hz0, hz1⟩ := cl2 (W := w14) HBX.out) | ((with_reducible refine gate_dst (N := 35) rfl ?_); refine buf_append1 rfl (N := 35) rfl _ _ rfl (g := g2) (bs := bs) (y := 255) rfl rfl hBf.out hN.out (by have h1_ := HL.out; omega) ?_; intro w15 hbw hgw; have n0_ := Aside0.mk (blk_grown (blk_alloc HBK.out _) hgw (by simpa using fun e_ => HN2.out e_.symm)); have n1_ := Aside0.mk (pw_below_grown (below_alloc HB.out _) (some g2) (Below.size (below_alloc HB.out _)) hgw (fun k_ e_ => by cases e_; exact HG2.out)); have n2_ := Aside0.mk hbw; have n3_ := Aside0.mk (blk_grown (blk_alloc HBX.out _) hgw (by simpa using fun e_ => HN3.out e_.symm)); clear HBK HB hBf HBX hbw hgw hz0 hz1; have HBK := n0_; have HB := n1_; have hBf := n2_; have HBX := n3_; clear n0_ n1_ n2_ n3_; have hz1 : w15.cell? ⟨g3, 1, none⟩ = some (.string x.f1) := (blk_cell HBX.out 1).trans rfl))
    go_roundg (l.length - (k + 1))
    case measure => omega
    case rel => exact ⟨k + 1, _, by omega, by omega, by go_num, rfl, ⟨by rw [HES.out, hN.out]; simp⟩, ⟨by rw [HES.out]; exact hBf.out⟩, HBK, HB⟩
  ·have hltz : ¬ (k : Int) < (l.length : Int) := by omega
   obtain rfl : k = l.length := by omega
   have HFT : Aside0 (hiL 8 a ++ (l.length : Int) :: slotsB (l.take l.length) = encL a l) := ⟨by rw [List.take_length]; rfl⟩
   have hn240 : n ≤ 240 := by rw [hN0.out]; exact hBf0.out.1
   have hBf := hBf0
   rw [HFT.out] at hBf
   clear hBf0 hN0
   have hsl := fun (W_ : World) => buf_slice W_ (g := g2) hn240
   have htx := buf_text hBf.out
   go_wp2
   go_ret2
   exact ⟨rfl, HB.out⟩
set_option maxHeartbeats 4000000 in
set_option maxRecDepth 100000 in
theorem slab_Encode.bad (a : Int) (A : Option Addr) (c : Nat) (l : List S33) (w : World) (hr : Kd.C k33 w A l.length l) (hc : l.length ≤ c) (hg : goodP a l = false) :
  Calls Try.prog 32 #[.agg #[.int .i64 a, .slice A l.length c]] w fun e w' => e = .returned (.tuple #[.string (⟨#[]⟩ : ByteArray), .int .i64 1]) ∧ Below w.heap.size w w' := by
 have hu24 := Try.underlying24
 have HG : Aside0 (slabGood.f a l = some false) := ⟨by unfold slabGood.f; rw [hg]⟩
 have HR := Aside0.mk hr
 have HC := Aside0.mk hc
 clear hr hc hg
 have HB := Aside0.mk (Below.refl w.heap.size w)
 go_enter Try.func32, Try.ntmps32
 go_wp2_with (first | ((with_reducible refine gate_dst (N := 1) rfl ?_); (try (refine gate_guard (by rfl) ?_; dsimp only)); refine box_event ?hg (N := 1) ?hd (cs := #[.int .i64 a, .slice A l.length c]) (t := 24) ?hr ?_; (case hd => rfl); (case hg => rfl); (case hr => first | (go_simp; done) | (go_simp; rfl)); intro g1 hg1 w5 hbox hb; have HBK := Aside0.mk hbox; have n1_ := Aside0.mk (below_step HB.out hb); have HG1 := Aside0.mk (by rw [hg1]; exact HB.out.size : w.heap.size ≤ g1); clear HB; have HB := n1_; clear n1_ hbox hb hg1; obtain ⟨hc0, hc1⟩ := cl2 (W := w5) HBK.out) | ((with_reducible refine gate_callee (f := 34) rfl ?_); refine goesL_ (some 8) rfl rfl Try.func34 (by kernel_rfl) rfl #[.agg #[.int .i64 a, .slice A l.length c]] rfl (by (try simp only [List.map_toArray, List.map_cons, List.map_nil]); first | done | rfl) ?_; (with_reducible refine (slabGood.calls a _ _ l false _ ?side1 ?side2 HG.out).mono ?_); (case side1 => exact Kd.C_below HR.out HB.out); (case side2 => exact HC.out); rintro e w6 ⟨rfl, hb⟩; refine ⟨_, rfl, ?_⟩; have n0_ := Aside0.mk (blk_below (g := g1) HBK.out hb); have n1_ := Aside0.mk (below_step HB.out hb); clear HB HBK hc0 hc1 hb; have HBK := n0_; have HB := n1_; clear n0_ n1_))
 go_ret2
 exact ⟨rfl, HB.out⟩
theorem slab_Encode.calls (a : Int) (A : Option Addr) (c : Nat) (l : List S33) (r1 : ByteArray) (r2 : Int) (w : World) (hr : Kd.C k33 w A l.length l) (hc : l.length ≤ c) (h : slab_Encode.f a l = some (r1, r2)) :
  Calls Try.prog 32 #[.agg #[.int .i64 a, .slice A l.length c]] w fun e w' => e = .returned (.tuple #[.string r1, .int .i64 r2]) ∧ Below w.heap.size w w' := by
 unfold slab_Encode.f at h
 cases hg : goodP a l with
 | true =>
  rw [hg] at h
  simp at h
  obtain ⟨rfl, rfl⟩ := h
  exact slab_Encode.good a A c l w hr hc hg
 | false =>
  rw [hg] at h
  simp at h
  obtain ⟨rfl, rfl⟩ := h
  exact slab_Encode.bad a A c l w hr hc hg
end Go.Proofs.Ytfjmnaobfbmllaa.M
namespace Go.Proofs.Ytfjmnaobfbmllaa.M
open Go.RowKit Go.Proofs.YtfjmnaobfbmllaaW.PrintWords Go.Proofs.YtfjmnaobfbmllaaW.PrintLast Go.Proofs.YtfjmnaobfbmllaaW.PrintMore
set_option linter.unusedVariables false
set_option linter.unusedSimpArgs false
theorem ba_inj {x y : ByteArray} : x.toList = y.toList ↔ x = y := by
  constructor
  · intro h
    rw [ByteArray.toList_eq, ByteArray.toList_eq] at h
    cases x; cases y
    congr
    exact Array.toList_inj.mp h
  · rintro rfl; rfl
theorem ba_nil (x : ByteArray) : x.toList = [] ↔ x = ⟨#[]⟩ := by
  rw [← ba_inj (y := ⟨#[]⟩)]; simp [ByteArray.toList_eq]
theorem s33_ext (x y : S33) : x = y ↔ x.f0 = y.f0 ∧ x.f1 = y.f1 := by cases x; cases y; simp
instance decS33 : DecidableEq S33 := fun x y => decidable_of_iff (x.f0 = y.f0 ∧ x.f1 = y.f1) (s33_ext x y).symm
def slotL (l : List S33) (i : Nat) : S33 := l.getD i z33
def atP (a : Int) (l : List S33) (i : Int) : S33 := if goodP a l = true ∧ 0 ≤ i then slotL l i.toNat else z33
theorem slot_lt (l : List S33) (i : Nat) (h : i < l.length) : slotL l i = l[i] := by
  simp [slotL, List.getD_eq_getElem?_getD, List.getElem?_eq_getElem h]
theorem slot_ge (l : List S33) (i : Nat) (h : l.length ≤ i) : slotL l i = z33 := by
  simp [slotL, List.getD_eq_getElem?_getD, List.getElem?_eq_none h]
def fineS (x : S33) : Prop := (x.f0 = false → x = z33) ∧ x.f1.size ≤ 200
theorem odd_fine (x : S33) : oddS x = false ↔ fineS x := by
  unfold oddS fineS
  rw [Bool.or_eq_false_iff, Bool.and_eq_false_iff, decide_eq_false_iff_not, Nat.not_lt]
  refine and_congr ?_ Iff.rfl
  rw [s33_ext]
  cases hx : x.f0 with
  | true => simp
  | false => simp [z33, ba_nil]
theorem fine_z : fineS z33 := ⟨fun _ => rfl, by simp [z33, ByteArray.size]⟩
theorem any_fine (l : List S33) : l.any oddS = false ↔ ∀ x ∈ l, fineS x := by
  rw [List.any_eq_false]
  exact forall_congr' fun x => imp_congr_right fun _ => by rw [← odd_fine]; simp
theorem slot_trim (xs : List S33) (h : ∀ x ∈ xs, fineS x) (i : Nat) : slotL (trimS xs) i = slotL xs i := by
  have H : ∀ n (xs : List S33), xs.length = n → (∀ x ∈ xs, fineS x) → slotL (trimS xs) i = slotL xs i := by
    intro n
    induction n with
    | zero => intro xs h _; rw [List.eq_nil_of_length_eq_zero h]; rfl
    | succ n ih =>
      intro xs h hf
      obtain ⟨ys, y, rfl, _, _, hl⟩ := snoc_of xs (by omega)
      cases hy : y.f0 with
      | true => rw [trim_snoc_used ys y hy]
      | false =>
        rw [trim_snoc_free ys y hy, ih ys (by omega) (fun x hx => hf x (by simp [hx]))]
        have hz := (hf y (by simp)).1 hy
        subst hz
        by_cases hi : i < ys.length
        · rw [slot_lt _ _ hi, slot_lt _ _ (by simp; omega), List.getElem_append_left hi]
        · rw [slot_ge _ _ (by omega)]
          by_cases hi2 : i = ys.length
          · subst hi2; rw [slot_lt _ _ (by simp)]; simp
          · rw [slot_ge _ _ (by simp; omega)]
  exact H _ xs rfl h
theorem lastUsed_get (l : List S33) (h : lastUsed l = true) (hl : 0 < l.length) : (slotL l (l.length - 1)).f0 = true := by
  rw [slot_lt l _ (by omega), ← last33 l hl]; exact h
theorem ext_len (l : List S33) (n : Nat) : (extS l n).length = max l.length n := by unfold extS; simp; omega
theorem slot_ext (l : List S33) (n i : Nat) : slotL (extS l n) i = slotL l i := by
  unfold extS
  by_cases hi : i < l.length
  · rw [slot_lt _ _ (by simp; omega), slot_lt _ _ hi, List.getElem_append_left hi]
  · rw [slot_ge l i (by omega)]
    by_cases hi2 : i < (l ++ List.replicate (n - l.length) z33).length
    · rw [slot_lt _ _ hi2, List.getElem_append_right (by omega)]; simp
    · rw [slot_ge _ _ (by omega)]
theorem slot_set (l : List S33) (s i : Nat) (x : S33) (h : s < l.length) : slotL (l.set s x) i = if i = s then x else slotL l i := by
  unfold slotL
  rw [List.getD_eq_getElem?_getD, List.getElem?_set]
  by_cases e : s = i
  · subst e; simp [h]
  · rw [if_neg e, if_neg (fun he => e he.symm), List.getD_eq_getElem?_getD]
theorem ext_fine (l : List S33) (n : Nat) (h : ∀ x ∈ l, fineS x) : ∀ x ∈ extS l n, fineS x := by
  intro x hx
  unfold extS at hx
  rw [List.mem_append, List.mem_replicate] at hx
  rcases hx with hx | hx
  · exact h x hx
  · rw [hx.2]; exact fine_z
theorem set_fine (l : List S33) (s : Nat) (x : S33) (h : ∀ y ∈ l, fineS y) (hx : fineS x) : ∀ y ∈ l.set s x, fineS y := by
  intro y hy
  rcases List.mem_or_eq_of_mem_set hy with hy | rfl
  · exact h y hy
  · exact hx
theorem put_fine (l : List S33) (s : Nat) (x : S33) (h : ∀ y ∈ l, fineS y) (hx : fineS x) : ∀ y ∈ putL l s x, fineS y := fun y hy => set_fine _ _ _ (ext_fine l _ h) hx y (trim_sub _ y hy)
theorem put_slot (l : List S33) (s i : Nat) (x : S33) (h : ∀ y ∈ l, fineS y) (hx : fineS x) : slotL (putL l s x) i = if i = s then x else slotL l i := by
  unfold putL
  rw [slot_trim _ (set_fine _ _ _ (ext_fine l _ h) hx), slot_set _ _ _ _ (by rw [ext_len]; omega), slot_ext]
theorem put_len (l : List S33) (s : Nat) (x : S33) : (putL l s x).length ≤ max l.length (s + 1) := by
  unfold putL
  refine Nat.le_trans (trim_length _) ?_
  rw [List.length_set, ext_len]; omega
theorem put_last (l : List S33) (s : Nat) (x : S33) : lastUsed (putL l s x) = true := trim_last _
theorem good_iff (a : Int) (l : List S33) : goodP a l = true ↔ 0 ≤ a ∧ a ≤ 1099511627776 ∧ l.length ≤ 32 ∧ (∀ x ∈ l, fineS x) ∧ lastUsed l = true ∧ rawSize l ≤ 240 := by
  unfold goodP
  rw [← any_fine]
  simp [and_assoc]
theorem put_len32 (l : List S33) (s : Nat) (x : S33) (hl : l.length ≤ 32) (hs : s < 32) : (putL l s x).length ≤ 32 := by
  have := put_len l s x; omega
theorem bad_fine (x : S33) (hb : badS x = false) (hs : x.f1.size ≤ 200) : fineS x := by
  rw [← odd_fine]; unfold oddS; unfold badS at hb; rw [hb]; simp; omega
theorem put_ok {a : Int} {l : List S33} {s : Int} {x : S33} {q : Int × List S33 × Int} (h : putP a l s x = q) (h0 : q.2.2 = 0) :
    goodP a l = true ∧ 0 ≤ s ∧ s < 32 ∧ fineS x ∧ rawSize (putL l s.toNat x) ≤ 240 ∧ q = (a, putL l s.toNat x, 0) := by
  unfold putP at h
  split at h
  · subst h; cases h0
  · rename_i hn
    split at h
    · subst h; cases h0
    · split at h
      · subst h; cases h0
      · rename_i h2 h3
        simp only [not_or] at hn
        have hb : badS x = false := by simpa using hn.2.2.2
        exact ⟨by simpa using hn.1, by omega, by omega, bad_fine x hb (by omega), by omega, h.symm⟩
theorem put_good {a : Int} {l : List S33} {s : Nat} {x : S33} (hg : goodP a l = true) (hs : s < 32) (hx : fineS x) (h : rawSize (putL l s x) ≤ 240) : goodP a (putL l s x) = true := by
  rw [good_iff] at hg ⊢
  exact ⟨hg.1, hg.2.1, put_len32 l s x hg.2.2.1 hs, put_fine l s x hg.2.2.2.1 hx, put_last l s x, h⟩
end Go.Proofs.Ytfjmnaobfbmllaa.M
namespace Go.Proofs.Ytfjmnaobfbmllaa.M
open Go.RowKit Go.Proofs.YtfjmnaobfbmllaaW.PrintWords Go.Proofs.YtfjmnaobfbmllaaW.PrintLast Go.Proofs.YtfjmnaobfbmllaaW.PrintMore
attribute [local go_sem] max2_int min2_int max_two min_two max_three min_three max_four min_four   -- for this text's walks alone
set_option linter.unusedVariables false
set_option linter.unusedSimpArgs false
def slab_Size.f (a0_0 : Int) (l0_1 : List (S33)) : Option (Int) := (slabGood.f a0_0 l0_1).bind fun t102 => (if t102 = true then ((slabSize0.f l0_1).bind fun t103 => (some t103)) else (some 0))
set_option maxHeartbeats 8000000 in
set_option maxRecDepth 100000 in
theorem slab_Size.calls (a0_0 : Int) (A0_1 : Option Addr) (c0_1 : Nat) (l0_1 : List (S33)) (r : Int) (w : World) (hr0_1 : Kd.C k33 w A0_1 l0_1.length l0_1) (hc0_1 : l0_1.length ≤ c0_1) (h : slab_Size.f a0_0 l0_1 = some r) :
  Calls Try.prog 36 #[.agg #[.int .i64 a0_0, .slice A0_1 l0_1.length c0_1]] w fun e w' => e = .returned (.int .i64 r) ∧ Below w.heap.size w w' := by
 have hu24 := Try.underlying24
 have HR0_1 := aq hr0_1
 have HC0_1 := aq hc0_1
 clear hr0_1 hc0_1
 have HB := aq (Below.refl w.heap.size w)
 have H : ((slabGood.f a0_0 l0_1).bind fun t102 => (if t102 = true then ((slabSize0.f l0_1).bind fun t103 => (some t103)) else (some 0))) = some r := h
 clear h
 replace H := Option.bind_eq_some_iff.mp H
 obtain ⟨t102, A20, H⟩ := H
 try dsimp only at H
 have A2 := aq A20
 clear A20
 by_cases c3 : t102 = true
 ·subst c3
  rw [if_pos rfl] at H
  replace H := Option.bind_eq_some_iff.mp H
  obtain ⟨t103, A40, H⟩ := H
  try dsimp only at H
  have A4 := aq A40
  clear A40
  obtain rfl := Option.some.inj H
  go_enter Try.func36, Try.ntmps36
  go_wp2_with (first | ((with_reducible refine gate_dst (N := 1) rfl ?_); refine box_event ?hg (N := 1) ?hd (cs := #[.int .i64 a0_0, .slice A0_1 l0_1.length c0_1]) (t := 24) ?hr ?_; (case hd => rfl); (case hg => rfl); (case hr => first | (go_simp; done) | (go_simp; rfl)); intro gb101 hg w5 hbox hb; have n0_ := aq (below_step (stH HB) hb); have n1_ := aq (hbox); have n2_ := aq ((by rw [hg]; exact (below_size (stH HB)) : w.heap.size ≤ gb101)); have n3_ := aq ((by rw [hg]; exact (below_size (stH HB)) : w.heap.size ≤ gb101)); replace HB := n0_; have BK101 := n1_; have GW101 := n2_; have GE101 := n3_; clear n0_ n1_ n2_ n3_; clear hb hbox hg; obtain ⟨k6a, k6b⟩ := cl2 (W := w5) BK101.out; obtain ⟨u6a, u6b⟩ := fr2 BK101.out) | ((with_reducible refine gate_callee (f := 34) rfl ?_); refine goesL_ (some 4) rfl rfl Try.func34 (by kernel_rfl) rfl #[.agg #[.int .i64 a0_0, .slice A0_1 l0_1.length c0_1]] rfl fitR ?_; (with_reducible refine (slabGood.calls a0_0 _ _ l0_1 true _ ?side1 ?side2 A2.out).mono ?_); (case side1 => exact stC (Kd.C_below HR0_1.out HB.out)); (case side2 => exact HC0_1.out); rintro e w7 ⟨rfl, hb⟩; refine ⟨_, rfl, ?_⟩; have n0_ := aq (blk_below (stB BK101) hb); have n1_ := aq (below_step (stH HB) hb); replace BK101 := n0_; replace HB := n1_; clear n0_ n1_; (try clear hb); obtain ⟨k8a, k8b⟩ := cl2 (W := w7) BK101.out; obtain ⟨u8a, u8b⟩ := fr2 BK101.out) | ((with_reducible refine gate_callee (f := 81) rfl ?_); refine goesL_ (some 8) rfl rfl Try.func81 (by kernel_rfl) rfl #[.slice A0_1 l0_1.length c0_1] rfl fitR ?_; (with_reducible refine (slabSize0.calls _ _ l0_1 t103 _ ?side1 ?side2 A4.out).mono ?_); (case side1 => exact stC (Kd.C_below HR0_1.out HB.out)); (case side2 => exact HC0_1.out); rintro e w9 ⟨rfl, hb⟩; refine ⟨_, rfl, ?_⟩; have n0_ := aq (blk_below (stB BK101) hb); have n1_ := aq (below_step (stH HB) hb); replace BK101 := n0_; replace HB := n1_; clear n0_ n1_; (try clear hb)))
  go_ret
  exact ⟨eqW, stH HB⟩
 ·replace c3 := Bool.eq_false_iff.mpr c3
  subst c3
  rw [if_neg (show ¬ (false = true) by decide)] at H
  obtain rfl := Option.some.inj H
  go_enter Try.func36, Try.ntmps36
  go_wp2_with (first | ((with_reducible refine gate_dst (N := 1) rfl ?_); refine box_event ?hg (N := 1) ?hd (cs := #[.int .i64 a0_0, .slice A0_1 l0_1.length c0_1]) (t := 24) ?hr ?_; (case hd => rfl); (case hg => rfl); (case hr => first | (go_simp; done) | (go_simp; rfl)); intro gb101 hg w10 hbox hb; have n0_ := aq (below_step (stH HB) hb); have n1_ := aq (hbox); have n2_ := aq ((by rw [hg]; exact (below_size (stH HB)) : w.heap.size ≤ gb101)); have n3_ := aq ((by rw [hg]; exact (below_size (stH HB)) : w.heap.size ≤ gb101)); replace HB := n0_; have BK101 := n1_; have GW101 := n2_; have GE101 := n3_; clear n0_ n1_ n2_ n3_; clear hb hbox hg; obtain ⟨k11a, k11b⟩ := cl2 (W := w10) BK101.out; obtain ⟨u11a, u11b⟩ := fr2 BK101.out) | ((with_reducible refine gate_callee (f := 34) rfl ?_); refine goesL_ (some 4) rfl rfl Try.func34 (by kernel_rfl) rfl #[.agg #[.int .i64 a0_0, .slice A0_1 l0_1.length c0_1]] rfl fitR ?_; (with_reducible refine (slabGood.calls a0_0 _ _ l0_1 false _ ?side1 ?side2 A2.out).mono ?_); (case side1 => exact stC (Kd.C_below HR0_1.out HB.out)); (case side2 => exact HC0_1.out); rintro e w12 ⟨rfl, hb⟩; refine ⟨_, rfl, ?_⟩; have n0_ := aq (blk_below (stB BK101) hb); have n1_ := aq (below_step (stH HB) hb); replace BK101 := n0_; replace HB := n1_; clear n0_ n1_; (try clear hb)))
  go_ret
  exact ⟨eqW, stH HB⟩
end Go.Proofs.Ytfjmnaobfbmllaa.M
namespace Go.Proofs.Ytfjmnaobfbmllaa.M
open Go.RowKit Go.Proofs.YtfjmnaobfbmllaaW.PrintWords Go.Proofs.YtfjmnaobfbmllaaW.PrintLast Go.Proofs.YtfjmnaobfbmllaaW.PrintMore
attribute [local go_sem] max2_int min2_int max_two min_two max_three min_three max_four min_four   -- for this text's walks alone
set_option linter.unusedVariables false
set_option linter.unusedSimpArgs false
def slab_At.f (a0_0 : Int) (l0_1 : List (S33)) (a1 : Int) : Option (Bool × ByteArray) := (slabGood.f a0_0 l0_1).bind fun t103 => (if t103 = true then (if a1 < 0 then (some (false, (⟨#[]⟩ : ByteArray))) else (if a1 ≥ (l0_1.length : Int) then (some (false, (⟨#[]⟩ : ByteArray))) else (if 0 ≤ a1 then (if a1 < (l0_1.length : Int) then (some ((rd_T33 l0_1 a1).f0, (rd_T33 l0_1 a1).f1)) else (none)) else (none)))) else (some (false, (⟨#[]⟩ : ByteArray))))
set_option maxHeartbeats 8000000 in
set_option maxRecDepth 100000 in
theorem slab_At.calls (a0_0 : Int) (A0_1 : Option Addr) (c0_1 : Nat) (l0_1 : List (S33)) (a1 : Int) (r1 : Bool) (r2 : ByteArray) (w : World) (hr0_1 : Kd.C k33 w A0_1 l0_1.length l0_1) (hc0_1 : l0_1.length ≤ c0_1) (h : slab_At.f a0_0 l0_1 a1 = some (r1, r2)) :
  Calls Try.prog 39 #[.agg #[.int .i64 a0_0, .slice A0_1 l0_1.length c0_1], .int .i64 a1] w fun e w' => e = .returned (.agg #[.bool r1, .string r2]) ∧ Below w.heap.size w w' := by
 have hu24 := Try.underlying24
 have hu33 := Try.underlying33
 have HR0_1 := aq hr0_1
 have HC0_1 := aq hc0_1
 clear hr0_1 hc0_1
 have HB := aq (Below.refl w.heap.size w)
 have H : ((slabGood.f a0_0 l0_1).bind fun t103 => (if t103 = true then (if a1 < 0 then (some (false, (⟨#[]⟩ : ByteArray))) else (if a1 ≥ (l0_1.length : Int) then (some (false, (⟨#[]⟩ : ByteArray))) else (if 0 ≤ a1 then (if a1 < (l0_1.length : Int) then (some ((rd_T33 l0_1 a1).f0, (rd_T33 l0_1 a1).f1)) else (none)) else (none)))) else (some (false, (⟨#[]⟩ : ByteArray))))) = some (r1, r2) := h
 clear h
 replace H := Option.bind_eq_some_iff.mp H
 obtain ⟨t103, A30, H⟩ := H
 try dsimp only at H
 have A3 := aq A30
 clear A30
 by_cases c4 : t103 = true
 ·subst c4
  rw [if_pos rfl] at H
  by_cases c5 : a1 < 0
  ·rw [if_pos c5] at H
   have c5b0 : decide (a1 < 0) = true := decide_eq_true c5
   clear c5
   simp only [Option.some.injEq, Prod.mk.injEq] at H
   obtain ⟨rfl, rfl⟩ := H
   go_enter Try.func39, Try.ntmps39
   go_wp2_with (first | ((with_reducible refine gate_dst (N := 2) rfl ?_); (try (refine gate_guard (by rfl) ?_; dsimp only)); refine box_event ?hg (N := 2) ?hd (cs := #[.int .i64 a0_0, .slice A0_1 l0_1.length c0_1]) (t := 24) ?hr ?_; (case hd => rfl); (case hg => rfl); (case hr => first | (go_simp; done) | (go_simp; rfl)); intro gb101 hg w6 hbox hb; have n0_ := aq (below_step (stH HB) hb); have n1_ := aq (hbox); have n2_ := aq ((by rw [hg]; exact (below_size (stH HB)) : w.heap.size ≤ gb101)); have n3_ := aq ((by rw [hg]; exact (below_size (stH HB)) : w.heap.size ≤ gb101)); replace HB := n0_; have BK101 := n1_; have GW101 := n2_; have GE101 := n3_; clear n0_ n1_ n2_ n3_; clear hb hbox hg) | ((with_reducible refine gate_dst (N := 4) rfl ?_); (try (refine gate_guard (by rfl) ?_; dsimp only)); refine box_event ?hg (N := 4) ?hd (cs := #[.bool false, .string (⟨#[]⟩ : ByteArray)]) (t := 33) ?hr ?_; (case hd => rfl); (case hg => rfl); (case hr => first | (go_simp; done) | (go_simp; rfl)); intro gb102 hg w7 hbox hb; have n0_ := aq (blk_below (stB BK101) hb); have n1_ := aq (below_step (stH HB) hb); have n2_ := aq (hbox); have n3_ := aq ((by rw [hg]; exact (below_size (stH HB)) : w.heap.size ≤ gb102)); have n4_ := aq ((by rw [hg]; exact (below_size (stH HB)) : w.heap.size ≤ gb102)); have n5_ := aq ((by rw [hg]; exact Nat.ne_of_lt (blk_lt (stB BK101)) : gb101 ≠ gb102)); have n6_ := aq ((by rw [hg]; exact Nat.ne_of_gt (blk_lt (stB BK101)) : gb102 ≠ gb101)); replace BK101 := n0_; replace HB := n1_; have BK102 := n2_; have GW102 := n3_; have GE102 := n4_; have NB101_102 := n5_; have NB102_101 := n6_; clear n0_ n1_ n2_ n3_ n4_ n5_ n6_; clear hb hbox hg; have hnb8 := NB101_102.out; have hnc8 := NB102_101.out; obtain ⟨k9a, k9b⟩ := cl2 (W := w7) BK101.out; obtain ⟨u9a, u9b⟩ := fr2 BK101.out) | ((with_reducible refine gate_callee (f := 34) rfl ?_); refine goesL_ (some 6) rfl rfl Try.func34 (by kernel_rfl) rfl #[.agg #[.int .i64 a0_0, .slice A0_1 l0_1.length c0_1]] rfl fitR ?_; (with_reducible refine (slabGood.calls a0_0 _ _ l0_1 true _ ?side1 ?side2 A3.out).mono ?_); (case side1 => exact stC (Kd.C_below HR0_1.out HB.out)); (case side2 => exact HC0_1.out); rintro e w10 ⟨rfl, hb⟩; refine ⟨_, rfl, ?_⟩; have n0_ := aq (blk_below (stB BK101) hb); have n1_ := aq (blk_below (stB BK102) hb); have n2_ := aq (below_step (stH HB) hb); replace BK101 := n0_; replace BK102 := n1_; replace HB := n2_; clear n0_ n1_ n2_; (try clear hb); obtain ⟨k11a, k11b⟩ := cl2 (W := w10) BK102.out; obtain ⟨u11a, u11b⟩ := fr2 BK102.out))
   refine bodyPost_ret (results_cell_row rfl _ _ gb102 33 #[.bool false, .string (⟨#[]⟩ : ByteArray)] (0, 0) _ rfl (by (with_reducible repeat (first | refine blk_drewN ?_ _ | refine blk_drew ?_ | refine blk_alloc ?_ _)); refine puts2 (cs := #[.bool false, .string (⟨#[]⟩ : ByteArray)]) rfl ?_; (with_reducible repeat (first | refine blk_drewN ?_ _ | refine blk_drew ?_ | refine blk_alloc ?_ _)); exact BK102.out) Try.underlying33 rfl (by kernel_rfl)) rfl ?_
   exact ⟨eqW, stH HB⟩
  ·rw [if_neg c5] at H
   have c5b0 : decide (a1 < 0) = false := decide_eq_false c5
   clear c5
   by_cases c12 : a1 ≥ (l0_1.length : Int)
   ·rw [if_pos c12] at H
    have c12b0 : decide ((l0_1.length : Int) ≤ a1) = true := decide_eq_true c12
    clear c12
    simp only [Option.some.injEq, Prod.mk.injEq] at H
    obtain ⟨rfl, rfl⟩ := H
    go_enter Try.func39, Try.ntmps39
    go_wp2_with (first | ((with_reducible refine gate_dst (N := 2) rfl ?_); (try (refine gate_guard (by rfl) ?_; dsimp only)); refine box_event ?hg (N := 2) ?hd (cs := #[.int .i64 a0_0, .slice A0_1 l0_1.length c0_1]) (t := 24) ?hr ?_; (case hd => rfl); (case hg => rfl); (case hr => first | (go_simp; done) | (go_simp; rfl)); intro gb101 hg w13 hbox hb; have n0_ := aq (below_step (stH HB) hb); have n1_ := aq (hbox); have n2_ := aq ((by rw [hg]; exact (below_size (stH HB)) : w.heap.size ≤ gb101)); have n3_ := aq ((by rw [hg]; exact (below_size (stH HB)) : w.heap.size ≤ gb101)); replace HB := n0_; have BK101 := n1_; have GW101 := n2_; have GE101 := n3_; clear n0_ n1_ n2_ n3_; clear hb hbox hg) | ((with_reducible refine gate_dst (N := 4) rfl ?_); (try (refine gate_guard (by rfl) ?_; dsimp only)); refine box_event ?hg (N := 4) ?hd (cs := #[.bool false, .string (⟨#[]⟩ : ByteArray)]) (t := 33) ?hr ?_; (case hd => rfl); (case hg => rfl); (case hr => first | (go_simp; done) | (go_simp; rfl)); intro gb102 hg w14 hbox hb; have n0_ := aq (blk_below (stB BK101) hb); have n1_ := aq (below_step (stH HB) hb); have n2_ := aq (hbox); have n3_ := aq ((by rw [hg]; exact (below_size (stH HB)) : w.heap.size ≤ gb102)); have n4_ := aq ((by rw [hg]; exact (below_size (stH HB)) : w.heap.size ≤ gb102)); have n5_ := aq ((by rw [hg]; exact Nat.ne_of_lt (blk_lt (stB BK101)) : gb101 ≠ gb102)); have n6_ := aq ((by rw [hg]; exact Nat.ne_of_gt (blk_lt (stB BK101)) : gb102 ≠ gb101)); replace BK101 := n0_; replace HB := n1_; have BK102 := n2_; have GW102 := n3_; have GE102 := n4_; have NB101_102 := n5_; have NB102_101 := n6_; clear n0_ n1_ n2_ n3_ n4_ n5_ n6_; clear hb hbox hg; have hnb15 := NB101_102.out; have hnc15 := NB102_101.out; obtain ⟨k16a, k16b⟩ := cl2 (W := w14) BK101.out; obtain ⟨u16a, u16b⟩ := fr2 BK101.out) | ((with_reducible refine gate_callee (f := 34) rfl ?_); refine goesL_ (some 6) rfl rfl Try.func34 (by kernel_rfl) rfl #[.agg #[.int .i64 a0_0, .slice A0_1 l0_1.length c0_1]] rfl fitR ?_; (with_reducible refine (slabGood.calls a0_0 _ _ l0_1 true _ ?side1 ?side2 A3.out).mono ?_); (case side1 => exact stC (Kd.C_below HR0_1.out HB.out)); (case side2 => exact HC0_1.out); rintro e w17 ⟨rfl, hb⟩; refine ⟨_, rfl, ?_⟩; have n0_ := aq (blk_below (stB BK101) hb); have n1_ := aq (blk_below (stB BK102) hb); have n2_ := aq (below_step (stH HB) hb); replace BK101 := n0_; replace BK102 := n1_; replace HB := n2_; clear n0_ n1_ n2_; (try clear hb); obtain ⟨k18a, k18b⟩ := cl2 (W := w17) BK101.out; obtain ⟨u18a, u18b⟩ := fr2 BK101.out; obtain ⟨k19a, k19b⟩ := cl2 (W := w17) BK102.out; obtain ⟨u19a, u19b⟩ := fr2 BK102.out))
    refine bodyPost_ret (results_cell_row rfl _ _ gb102 33 #[.bool false, .string (⟨#[]⟩ : ByteArray)] (0, 0) _ rfl (by (with_reducible repeat (first | refine blk_drewN ?_ _ | refine blk_drew ?_ | refine blk_alloc ?_ _)); refine puts2 (cs := #[.bool false, .string (⟨#[]⟩ : ByteArray)]) rfl ?_; (with_reducible repeat (first | refine blk_drewN ?_ _ | refine blk_drew ?_ | refine blk_alloc ?_ _)); exact BK102.out) Try.underlying33 rfl (by kernel_rfl)) rfl ?_
    exact ⟨eqW, stH HB⟩
   ·rw [if_neg c12] at H
    have c12b0 : decide ((l0_1.length : Int) ≤ a1) = false := decide_eq_false c12
    clear c12
    by_cases c20 : 0 ≤ a1
    ·rw [if_pos c20] at H
     have c20b0 : decide (0 ≤ a1) = true := decide_eq_true c20
     clear c20
     by_cases c21 : a1 < (l0_1.length : Int)
     ·rw [if_pos c21] at H
      have c21b0 : decide (a1 < (l0_1.length : Int)) = true := decide_eq_true c21
      clear c21
      simp only [Option.some.injEq, Prod.mk.injEq] at H
      obtain ⟨rfl, rfl⟩ := H
      go_enter Try.func39, Try.ntmps39
      go_wp2_with (first | ((with_reducible refine gate_dst (N := 2) rfl ?_); (try (refine gate_guard (by rfl) ?_; dsimp only)); refine box_event ?hg (N := 2) ?hd (cs := #[.int .i64 a0_0, .slice A0_1 l0_1.length c0_1]) (t := 24) ?hr ?_; (case hd => rfl); (case hg => rfl); (case hr => first | (go_simp; done) | (go_simp; rfl)); intro gb101 hg w22 hbox hb; have n0_ := aq (below_step (stH HB) hb); have n1_ := aq (hbox); have n2_ := aq ((by rw [hg]; exact (below_size (stH HB)) : w.heap.size ≤ gb101)); have n3_ := aq ((by rw [hg]; exact (below_size (stH HB)) : w.heap.size ≤ gb101)); replace HB := n0_; have BK101 := n1_; have GW101 := n2_; have GE101 := n3_; clear n0_ n1_ n2_ n3_; clear hb hbox hg) | ((with_reducible refine gate_dst (N := 4) rfl ?_); (try (refine gate_guard (by rfl) ?_; dsimp only)); refine box_event ?hg (N := 4) ?hd (cs := #[.bool false, .string (⟨#[]⟩ : ByteArray)]) (t := 33) ?hr ?_; (case hd => rfl); (case hg => rfl); (case hr => first | (go_simp; done) | (go_simp; rfl)); intro gb102 hg w23 hbox hb; have n0_ := aq (blk_below (stB BK101) hb); have n1_ := aq (below_step (stH HB) hb); have n2_ := aq (hbox); have n3_ := aq ((by rw [hg]; exact (below_size (stH HB)) : w.heap.size ≤ gb102)); have n4_ := aq ((by rw [hg]; exact (below_size (stH HB)) : w.heap.size ≤ gb102)); have n5_ := aq ((by rw [hg]; exact Nat.ne_of_lt (blk_lt (stB BK101)) : gb101 ≠ gb102)); have n6_ := aq ((by rw [hg]; exact Nat.ne_of_gt (blk_lt (stB BK101)) : gb102 ≠ gb101)); replace BK101 := n0_; replace HB := n1_; have BK102 := n2_; have GW102 := n3_; have GE102 := n4_; have NB101_102 := n5_; have NB102_101 := n6_; clear n0_ n1_ n2_ n3_ n4_ n5_ n6_; clear hb hbox hg; have hnb24 := NB101_102.out; have hnc24 := NB102_101.out; obtain ⟨k25a, k25b⟩ := cl2 (W := w23) BK101.out; obtain ⟨u25a, u25b⟩ := fr2 BK101.out) | ((with_reducible refine gate_callee (f := 34) rfl ?_); refine goesL_ (some 6) rfl rfl Try.func34 (by kernel_rfl) rfl #[.agg #[.int .i64 a0_0, .slice A0_1 l0_1.length c0_1]] rfl fitR ?_; (with_reducible refine (slabGood.calls a0_0 _ _ l0_1 true _ ?side1 ?side2 A3.out).mono ?_); (case side1 => exact stC (Kd.C_below HR0_1.out HB.out)); (case side2 => exact HC0_1.out); rintro e w26 ⟨rfl, hb⟩; refine ⟨_, rfl, ?_⟩; have n0_ := aq (blk_below (stB BK101) hb); have n1_ := aq (blk_below (stB BK102) hb); have n2_ := aq (below_step (stH HB) hb); replace BK101 := n0_; replace BK102 := n1_; replace HB := n2_; clear n0_ n1_ n2_; (try clear hb); obtain ⟨k27a, k27b⟩ := cl2 (W := w26) BK101.out; obtain ⟨u27a, u27b⟩ := fr2 BK101.out; have p104 : 0 ≤ (a1 : Int) := of_decide_eq_true (by first | (with_reducible assumption) | assumption); have q104 : a1 < (l0_1.length : Int) := of_decide_eq_true (by first | (with_reducible assumption) | assumption); obtain ⟨ad104, e104, hx104_0, hx104_1⟩ := at_T33 HR0_1.out a1 p104 q104; cases e104; replace hx104_0 := (HB.out.cell (World.block_lt_of_cell? w _ hx104_0)).trans hx104_0; replace hx104_1 := (HB.out.cell (World.block_lt_of_cell? w _ hx104_1)).trans hx104_1; replace p104 := eq_true p104; replace q104 := eq_true q104; obtain ⟨k28a, k28b⟩ := cl2 (W := w26) BK102.out; obtain ⟨u28a, u28b⟩ := fr2 BK102.out))
      refine bodyPost_ret (results_cell_row rfl _ _ gb102 33 #[.bool ((rd_T33 l0_1 a1).f0), .string ((rd_T33 l0_1 a1).f1)] (0, 0) _ rfl (by (with_reducible repeat (first | refine blk_drewN ?_ _ | refine blk_drew ?_ | refine blk_alloc ?_ _)); refine puts2 (cs := #[.bool false, .string (⟨#[]⟩ : ByteArray)]) rfl ?_; (with_reducible repeat (first | refine blk_drewN ?_ _ | refine blk_drew ?_ | refine blk_alloc ?_ _)); exact BK102.out) Try.underlying33 rfl (by kernel_rfl)) rfl ?_
      exact ⟨eqW, stH HB⟩
     ·rw [if_neg c21] at H
      exact absurd H (by simp)
    ·rw [if_neg c20] at H
     exact absurd H (by simp)
 ·replace c4 := Bool.eq_false_iff.mpr c4
  subst c4
  rw [if_neg (show ¬ (false = true) by decide)] at H
  simp only [Option.some.injEq, Prod.mk.injEq] at H
  obtain ⟨rfl, rfl⟩ := H
  go_enter Try.func39, Try.ntmps39
  go_wp2_with (first | ((with_reducible refine gate_dst (N := 2) rfl ?_); (try (refine gate_guard (by rfl) ?_; dsimp only)); refine box_event ?hg (N := 2) ?hd (cs := #[.int .i64 a0_0, .slice A0_1 l0_1.length c0_1]) (t := 24) ?hr ?_; (case hd => rfl); (case hg => rfl); (case hr => first | (go_simp; done) | (go_simp; rfl)); intro gb101 hg w29 hbox hb; have n0_ := aq (below_step (stH HB) hb); have n1_ := aq (hbox); have n2_ := aq ((by rw [hg]; exact (below_size (stH HB)) : w.heap.size ≤ gb101)); have n3_ := aq ((by rw [hg]; exact (below_size (stH HB)) : w.heap.size ≤ gb101)); replace HB := n0_; have BK101 := n1_; have GW101 := n2_; have GE101 := n3_; clear n0_ n1_ n2_ n3_; clear hb hbox hg) | ((with_reducible refine gate_dst (N := 4) rfl ?_); (try (refine gate_guard (by rfl) ?_; dsimp only)); refine box_event ?hg (N := 4) ?hd (cs := #[.bool false, .string (⟨#[]⟩ : ByteArray)]) (t := 33) ?hr ?_; (case hd => rfl); (case hg => rfl); (case hr => first | (go_simp; done) | (go_simp; rfl)); intro gb102 hg w30 hbox hb; have n0_ := aq (blk_below (stB BK101) hb); have n1_ := aq (below_step (stH HB) hb); have n2_ := aq (hbox); have n3_ := aq ((by rw [hg]; exact (below_size (stH HB)) : w.heap.size ≤ gb102)); have n4_ := aq ((by rw [hg]; exact (below_size (stH HB)) : w.heap.size ≤ gb102)); have n5_ := aq ((by rw [hg]; exact Nat.ne_of_lt (blk_lt (stB BK101)) : gb101 ≠ gb102)); have n6_ := aq ((by rw [hg]; exact Nat.ne_of_gt (blk_lt (stB BK101)) : gb102 ≠ gb101)); replace BK101 := n0_; replace HB := n1_; have BK102 := n2_; have GW102 := n3_; have GE102 := n4_; have NB101_102 := n5_; have NB102_101 := n6_; clear n0_ n1_ n2_ n3_ n4_ n5_ n6_; clear hb hbox hg; have hnb31 := NB101_102.out; have hnc31 := NB102_101.out; obtain ⟨k32a, k32b⟩ := cl2 (W := w30) BK101.out; obtain ⟨u32a, u32b⟩ := fr2 BK101.out) | ((with_reducible refine gate_callee (f := 34) rfl ?_); refine goesL_ (some 6) rfl rfl Try.func34 (by kernel_rfl) rfl #[.agg #[.int .i64 a0_0, .slice A0_1 l0_1.length c0_1]] rfl fitR ?_; (with_reducible refine (slabGood.calls a0_0 _ _ l0_1 false _ ?side1 ?side2 A3.out).mono ?_); (case side1 => exact stC (Kd.C_below HR0_1.out HB.out)); (case side2 => exact HC0_1.out); rintro e w33 ⟨rfl, hb⟩; refine ⟨_, rfl, ?_⟩; have n0_ := aq (blk_below (stB BK101) hb); have n1_ := aq (blk_below (stB BK102) hb); have n2_ := aq (below_step (stH HB) hb); replace BK101 := n0_; replace BK102 := n1_; replace HB := n2_; clear n0_ n1_ n2_; (try clear hb); obtain ⟨k34a, k34b⟩ := cl2 (W := w33) BK102.out; obtain ⟨u34a, u34b⟩ := fr2 BK102.out))
  refine bodyPost_ret (results_cell_row rfl _ _ gb102 33 #[.bool false, .string (⟨#[]⟩ : ByteArray)] (0, 0) _ rfl (by (with_reducible repeat (first | refine blk_drewN ?_ _ | refine blk_drew ?_ | refine blk_alloc ?_ _)); refine puts2 (cs := #[.bool false, .string (⟨#[]⟩ : ByteArray)]) rfl ?_; (with_reducible repeat (first | refine blk_drewN ?_ _ | refine blk_drew ?_ | refine blk_alloc ?_ _)); exact BK102.out) Try.underlying33 rfl (by kernel_rfl)) rfl ?_
  exact ⟨eqW, stH HB⟩
end Go.Proofs.Ytfjmnaobfbmllaa.M
namespace Go.Proofs.Ytfjmnaobfbmllaa.M
open Go.RowKit Go.Proofs.YtfjmnaobfbmllaaW.PrintWords Go.Proofs.YtfjmnaobfbmllaaW.PrintLast Go.Proofs.YtfjmnaobfbmllaaW.PrintMore
set_option linter.unusedVariables false
set_option linter.unusedSimpArgs false
def vacS (x : S33) : Bool := !x.f0
theorem isVacant_any (x : S33) (w : World) : Calls Try.prog 84 #[.agg #[.bool x.f0, .string x.f1]] w fun e w' => e = .returned (.bool (vacS x)) ∧ Below w.heap.size w w' := by
 have hu33 := Try.underlying33
 unfold vacS
 go_enter Try.func84, Try.ntmps84
 go_wp2
 go_ret
 exact ⟨rfl, by first | exact Below.refl _ _ | exact below_alloc (Below.refl _ _) _⟩
set_option maxHeartbeats 2000000 in
theorem index_vacant (A : Option Addr) (c : Nat) (l : List S33) (w : World) (hr : Kd.C k33 w A l.length l) (hc : l.length ≤ c) :
  Calls Try.prog 83 #[.slice A l.length c, .func (.func 84) #[] #[]] w fun e w' => e = .returned (.int .i64 (idxOf vacS l)) ∧ Below w.heap.size w w' := by
 have hu33 := Try.underlying33
 have hmax := Kd.C_max hr
 have HR := Aside0.mk hr
 have HC := Aside0.mk hc
 clear hr hc
 have eg : ∀ args w, (callFunc 84 args).run Try.prog w = .ok (.enter 84 args) w := enters_ Try.func84 (by kernel_rfl) rfl
 go_enter Try.func83, Try.ntmps83
 go_wp2
 go_loopg [5, 8] l.length (fun gg _ s8 wr => ∃ kk : Nat, kk ≤ l.length ∧ l.length - kk ≤ gg ∧ s8 = .int .i64 kk ∧ Aside0 (Below w.heap.size w wr) ∧ Aside0 (∀ j (h : j < l.length), j < kk → vacS l[j] = false))
 case atStart => exact ⟨0, Nat.zero_le _, by omega, rfl, ⟨Below.refl _ w⟩, ⟨fun j _ hj => absurd hj (Nat.not_lt_zero _)⟩⟩
 case round =>
  obtain ⟨kk, hkk, hg, rfl, HB, HA⟩ := hrel
  by_cases hlt : kk < l.length
  ·have p0 : 0 ≤ (kk : Int) := by omega
   have q0 : (kk : Int) < (l.length : Int) := by omega
   obtain ⟨ad, e0, hx0, hx1⟩ := at_T33 HR.out (kk : Int) p0 q0
   cases e0
   replace hx0 := (HB.out.cell (World.block_lt_of_cell? w _ hx0)).trans hx0
   replace hx1 := (HB.out.cell (World.block_lt_of_cell? w _ hx1)).trans hx1
   have HX : Aside0 (rd_T33 l (kk : Int) = l[kk]) := ⟨by simp [rd_T33, List.getD_eq_getElem?_getD, List.getElem?_eq_getElem hlt]⟩
   generalize rd_T33 l (kk : Int) = x at hx0 hx1 HX
   have hcall := isVacant_any x wr
   rw [Int.toNat_natCast] at hx0 hx1
   cases hq : vacS x with
   | true =>
    rw [hq] at hcall
    go_wp2_with (go_at_call 84; refine hcall.mono ?_; rintro e w' ⟨rfl, hb'⟩)
    go_ret
    refine ⟨?_, below_then HB.out HB.out.size hb'⟩
    rw [idxOf_hit vacS l kk hlt (by rw [← HX.out]; exact hq) (fun j h => HA.out j (by omega) h)]; rfl
   | false =>
    rw [hq] at hcall
    go_wp2_with (go_at_call 84; refine hcall.mono ?_; rintro e w' ⟨rfl, hb'⟩)
    go_roundg (l.length - (kk + 1))
    case measure => omega
    case rel =>
     refine ⟨kk + 1, by omega, by omega, by go_num, ⟨below_then HB.out HB.out.size hb'⟩, ⟨fun j h hj => ?_⟩⟩
     by_cases e : j = kk
     ·subst e
      rw [← HX.out]; exact hq
     ·exact HA.out j h (by omega)
  ·have hltz : ¬ (kk : Int) < (l.length : Int) := by omega
   go_wp2
   go_ret
   refine ⟨?_, HB.out⟩
   rw [idxOf_miss vacS l (fun j h => HA.out j h (by omega))]; rfl
def slices_IndexVacant.f (l : List S33) : Option Int := some (idxOf vacS l)
theorem slices_IndexVacant.calls (A : Option Addr) (c : Nat) (l : List S33) (r : Int) (w : World) (hr : Kd.C k33 w A l.length l) (hc : l.length ≤ c) (h : slices_IndexVacant.f l = some r) :
  Calls Try.prog 83 #[.slice A l.length c, .func (.func 84) #[] #[]] w fun e w' => e = .returned (.int .i64 r) ∧ Below w.heap.size w w' := by
 obtain rfl := Option.some.inj h
 exact index_vacant A c l w hr hc
end Go.Proofs.Ytfjmnaobfbmllaa.M
namespace Go.Proofs.Ytfjmnaobfbmllaa.M
open Go.RowKit Go.Proofs.YtfjmnaobfbmllaaW.PrintWords Go.Proofs.YtfjmnaobfbmllaaW.PrintLast Go.Proofs.YtfjmnaobfbmllaaW.PrintMore
attribute [local go_sem] max2_int min2_int max_two min_two max_three min_three max_four min_four   -- for this text's walks alone
set_option linter.unusedVariables false
set_option linter.unusedSimpArgs false
mutual
def slab_Vacant.j0 : Nat → Int → Bool → Int → List (S33) → Option (Int × Int)
 | 0, _, _, _, _ => none
 | k + 1, x1, x8, x102000, x102001 => if x8 = true then (some (0, 1)) else (if x1 > 200 then (some (0, 5)) else ((slices_IndexVacant.f x102001).bind fun t103 => (if t103 < 0 then (slab_Vacant.j1 k x1 (x102001.length : Int) x102000 x102001) else (slab_Vacant.j1 k x1 t103 x102000 x102001))))
def slab_Vacant.j1 : Nat → Int → Int → Int → List (S33) → Option (Int × Int)
 | 0, _, _, _, _ => none
 | k + 1, x1, x6, x102000, x102001 => if x6 = (x102001.length : Int) then (if x6 ≥ 32 then (some (0, 22)) else ((slabSize0.f x102001).bind fun t104 => (if (wrap64 (t104 + (wrap64 (x1 + 1)))) > 240 then (some (0, 22)) else (some (x6, 0))))) else (if x6 ≥ 32 then (some (0, 22)) else ((slabSize0.f x102001).bind fun t105 => (if (wrap64 (t105 + x1)) > 240 then (some (0, 22)) else (some (x6, 0)))))
end
def slab_Vacant.f (k : Nat) (a0_0 : Int) (l0_1 : List (S33)) (a1 : Int) : Option (Int × Int) := (slabGood.f a0_0 l0_1).bind fun t102 => (if t102 = true then (slab_Vacant.j0 k a1 (decide (a1 < 0)) a0_0 l0_1) else (slab_Vacant.j0 k a1 true a0_0 l0_1))
set_option maxHeartbeats 8000000 in
set_option maxRecDepth 100000 in
theorem slab_Vacant.calls (k : Nat) (a0_0 : Int) (A0_1 : Option Addr) (c0_1 : Nat) (l0_1 : List (S33)) (a1 : Int) (r1 : Int) (r2 : Int) (w : World) (hr0_1 : Kd.C k33 w A0_1 l0_1.length l0_1) (hc0_1 : l0_1.length ≤ c0_1) (h : slab_Vacant.f k a0_0 l0_1 a1 = some (r1, r2)) :
  Calls Try.prog 43 #[.agg #[.int .i64 a0_0, .slice A0_1 l0_1.length c0_1], .int .i64 a1] w fun e w' => e = .returned (.tuple #[.int .i64 r1, .int .i64 r2]) ∧ Below w.heap.size w w' := by
 have hu24 := Try.underlying24
 have HR0_1 := aq hr0_1
 have HC0_1 := aq hc0_1
 clear hr0_1 hc0_1
 have HB := aq (Below.refl w.heap.size w)
 have H : ((slabGood.f a0_0 l0_1).bind fun t102 => (if t102 = true then (slab_Vacant.j0 k a1 (decide (a1 < 0)) a0_0 l0_1) else (slab_Vacant.j0 k a1 true a0_0 l0_1))) = some (r1, r2) := h
 clear h
 have HC3 := aq H
 clear H
 go_enter Try.func43, Try.ntmps43
 go_upto_region 1 with (first | ((with_reducible refine gate_dst (N := 2) rfl ?_); refine box_event ?hg (N := 2) ?hd (cs := #[.int .i64 a0_0, .slice A0_1 l0_1.length c0_1]) (t := 24) ?hr ?_; (case hd => rfl); (case hg => rfl); (case hr => first | (go_simp; done) | (go_simp; rfl)); intro gb101 hg w4 hbox hb; have n0_ := aq (below_step (stH HB) hb); have n1_ := aq (hbox); have n2_ := aq ((by rw [hg]; exact (below_size (stH HB)) : w.heap.size ≤ gb101)); have n3_ := aq ((by rw [hg]; exact (below_size (stH HB)) : w.heap.size ≤ gb101)); replace HB := n0_; have BK101 := n1_; have GW101 := n2_; have GE101 := n3_; clear n0_ n1_ n2_ n3_; clear hb hbox hg))
 (try simp only [Act.put, List.setIfInBounds_toArray, List.set_cons_zero, List.set_cons_succ])
 go_cut [8] (fun v8 wc => ∃ (kq : Nat) (x8_2 : Bool), v8 = .bool x8_2 ∧ Aside0 (slab_Vacant.j0 kq a1 x8_2 a0_0 l0_1 = some (r1, r2)) ∧ Aside0 (kq ≤ k) ∧ Aside0 (wc.heap[gb101]? = some (.cells #[.int .i64 a0_0, (.slice A0_1 l0_1.length c0_1)] 24 (0, 0))) ∧ Aside0 (Below w.heap.size w wc))
 case first =>
  have H := HC3.out
  clear HC3
  replace H := Option.bind_eq_some_iff.mp H
  obtain ⟨t102, A50, H⟩ := H
  try dsimp only at H
  have A5 := aq A50
  clear A50
  by_cases c6 : t102 = true
  ·subst c6
   rw [if_pos rfl] at H
   have H' := aq H
   clear H
   obtain ⟨k7a, k7b⟩ := cl2 (W := w4) BK101.out
   obtain ⟨u7a, u7b⟩ := fr2 BK101.out
   go_wp2_with (first | ((with_reducible refine gate_callee (f := 34) rfl ?_); refine goesL_ (some 10) rfl rfl Try.func34 (by kernel_rfl) rfl #[.agg #[.int .i64 a0_0, .slice A0_1 l0_1.length c0_1]] rfl fitR ?_; (with_reducible refine (slabGood.calls a0_0 _ _ l0_1 true _ ?side1 ?side2 A5.out).mono ?_); (case side1 => exact stC (Kd.C_below HR0_1.out HB.out)); (case side2 => exact HC0_1.out); rintro e w8 ⟨rfl, hb⟩; refine ⟨_, rfl, ?_⟩; have n0_ := aq (blk_below (stB BK101) hb); have n1_ := aq (below_step (stH HB) hb); replace BK101 := n0_; replace HB := n1_; clear n0_ n1_; (try clear hb)))
   go_meet
   case rel => exact ⟨_, (decide (a1 < 0)), eqS, H', ⟨by first | omega | exact Nat.le_refl _⟩, ⟨stB BK101⟩, ⟨stH HB⟩⟩
  ·replace c6 := Bool.eq_false_iff.mpr c6
   subst c6
   rw [if_neg (show ¬ (false = true) by decide)] at H
   have H' := aq H
   clear H
   obtain ⟨k9a, k9b⟩ := cl2 (W := w4) BK101.out
   obtain ⟨u9a, u9b⟩ := fr2 BK101.out
   go_wp2_with (first | ((with_reducible refine gate_callee (f := 34) rfl ?_); refine goesL_ (some 10) rfl rfl Try.func34 (by kernel_rfl) rfl #[.agg #[.int .i64 a0_0, .slice A0_1 l0_1.length c0_1]] rfl fitR ?_; (with_reducible refine (slabGood.calls a0_0 _ _ l0_1 false _ ?side1 ?side2 A5.out).mono ?_); (case side1 => exact stC (Kd.C_below HR0_1.out HB.out)); (case side2 => exact HC0_1.out); rintro e w10 ⟨rfl, hb⟩; refine ⟨_, rfl, ?_⟩; have n0_ := aq (blk_below (stB BK101) hb); have n1_ := aq (below_step (stH HB) hb); replace BK101 := n0_; replace HB := n1_; clear n0_ n1_; (try clear hb)))
   go_meet
   case rel => exact ⟨_, (true), eqS, H', ⟨by first | omega | exact Nat.le_refl _⟩, ⟨stB BK101⟩, ⟨stH HB⟩⟩
 case rest =>
  clear HC3
  try clear p2
  try clear c3
  try clear c4
  try clear c6
  obtain ⟨kq, x8_2, rfl, HA, HJ2, BK101, HB⟩ := hcut
  cases kq with
  | zero => exact absurd HA.out (by simp [slab_Vacant.j0])
  | succ kj2 =>
   have H := HA.out
   clear HA
   simp only [slab_Vacant.j0] at H
   by_cases c11 : x8_2 = true
   ·subst c11
    rw [if_pos rfl] at H
    simp only [Option.some.injEq, Prod.mk.injEq] at H
    obtain ⟨rfl, rfl⟩ := H
    go_wp2
    go_ret2
    exact ⟨eqW, stH HB⟩
   ·replace c11 := Bool.eq_false_iff.mpr c11
    subst c11
    rw [if_neg (show ¬ (false = true) by decide)] at H
    by_cases c12 : a1 > 200
    ·rw [if_pos c12] at H
     have c12b0 : decide (200 < a1) = true := decide_eq_true c12
     clear c12
     simp only [Option.some.injEq, Prod.mk.injEq] at H
     obtain ⟨rfl, rfl⟩ := H
     go_wp2
     go_ret2
     exact ⟨eqW, stH HB⟩
    ·rw [if_neg c12] at H
     have c12b0 : decide (200 < a1) = false := decide_eq_false c12
     clear c12
     replace H := Option.bind_eq_some_iff.mp H
     obtain ⟨t103, A130, H⟩ := H
     try dsimp only at H
     have A13 := aq A130
     clear A130
     have HC14 := aq H
     clear H
     obtain ⟨k15a, k15b⟩ := cl2 (W := wc) BK101.out
     obtain ⟨u15a, u15b⟩ := fr2 BK101.out
     go_upto_if 23 with (first | ((with_reducible refine gate_callee (f := 83) rfl ?_); refine goesL_ (some 21) rfl rfl Try.func83 (by kernel_rfl) rfl #[.slice A0_1 l0_1.length c0_1, .func (.func 84) #[] #[]] rfl fitR ?_; (with_reducible refine (slices_IndexVacant.calls _ _ l0_1 t103 _ ?side1 ?side2 A13.out).mono ?_); (case side1 => exact stC (Kd.C_below HR0_1.out HB.out)); (case side2 => exact HC0_1.out); rintro e w16 ⟨rfl, hb⟩; refine ⟨_, rfl, ?_⟩; have n0_ := aq (blk_below (stB BK101) hb); have n1_ := aq (below_step (stH HB) hb); replace BK101 := n0_; replace HB := n1_; clear n0_ n1_; (try clear hb)))
     (try simp only [Act.put, List.setIfInBounds_toArray, List.set_cons_zero, List.set_cons_succ])
     go_cut [6] (fun v6 wc => ∃ (kq : Nat) (x6_13 : Int), v6 = .int .i64 x6_13 ∧ Aside0 (slab_Vacant.j1 kq a1 x6_13 a0_0 l0_1 = some (r1, r2)) ∧ Aside0 (kq ≤ kj2) ∧ Aside0 (wc.heap[gb101]? = some (.cells #[.int .i64 a0_0, (.slice A0_1 l0_1.length c0_1)] 24 (0, 0))) ∧ Aside0 (Below w.heap.size w wc))
     case first =>
      have H := HC14.out
      clear HC14
      by_cases c17 : t103 < 0
      ·rw [if_pos c17] at H
       have c17b0 : decide (t103 < 0) = true := decide_eq_true c17
       clear c17
       (first | rw [c17b0] | (simp only [i64_w, i32_w]; rw [c17b0]) | skip)
       have H' := aq H
       clear H
       obtain ⟨k18a, k18b⟩ := cl2 (W := w16) BK101.out
       obtain ⟨u18a, u18b⟩ := fr2 BK101.out
       go_wp2
       go_meet
       case rel => exact ⟨_, ((l0_1.length : Int)), eqS, H', ⟨by have := HJ2.out; first | omega | exact Nat.le_refl _⟩, ⟨stB BK101⟩, ⟨stH HB⟩⟩
      ·rw [if_neg c17] at H
       have c17b0 : decide (t103 < 0) = false := decide_eq_false c17
       clear c17
       (first | rw [c17b0] | (simp only [i64_w, i32_w]; rw [c17b0]) | skip)
       have H' := aq H
       clear H
       go_wp2
       go_meet
       case rel => exact ⟨_, (t103), eqS, H', ⟨by have := HJ2.out; first | omega | exact Nat.le_refl _⟩, ⟨stB BK101⟩, ⟨stH HB⟩⟩
     case rest =>
      clear HC14
      try clear k15a k15b
      try clear u15a u15b
      try clear c1
      try clear p2
      try clear c3
      try clear c4
      try clear c6
      try clear c8
      try clear c11
      try clear c12
      try clear c12b0
      try clear c17
      try clear c17b0
      obtain ⟨kq, x6_13, rfl, HA, HJ13, BK101, HB⟩ := hcut
      cases kq with
      | zero => exact absurd HA.out (by simp [slab_Vacant.j1])
      | succ kj13 =>
       have H := HA.out
       clear HA
       simp only [slab_Vacant.j1] at H
       by_cases c19 : x6_13 = (l0_1.length : Int)
       ·rw [if_pos c19] at H
        have c19b0 : (x6_13 == (l0_1.length : Int)) = true := beq_iff_eq.mpr c19
        have c19b1 : (x6_13 != (l0_1.length : Int)) = false := bne_eq_false_iff_eq.mpr c19
        clear c19
        by_cases c20 : x6_13 ≥ 32
        ·rw [if_pos c20] at H
         have c20b0 : decide (32 ≤ x6_13) = true := decide_eq_true c20
         clear c20
         simp only [Option.some.injEq, Prod.mk.injEq] at H
         obtain ⟨rfl, rfl⟩ := H
         obtain ⟨k21a, k21b⟩ := cl2 (W := wc) BK101.out
         obtain ⟨u21a, u21b⟩ := fr2 BK101.out
         go_wp2
         go_ret2
         exact ⟨eqW, stH HB⟩
        ·rw [if_neg c20] at H
         have c20b0 : decide (32 ≤ x6_13) = false := decide_eq_false c20
         clear c20
         replace H := Option.bind_eq_some_iff.mp H
         obtain ⟨t104, A220, H⟩ := H
         try dsimp only at H
         have A22 := aq A220
         clear A220
         by_cases c23 : (wrap64 (t104 + (wrap64 (a1 + 1)))) > 240
         ·rw [if_pos c23] at H
          have c23b0 : decide (240 < (wrap64 (t104 + (wrap64 (a1 + 1))))) = true := decide_eq_true c23
          clear c23
          simp only [Option.some.injEq, Prod.mk.injEq] at H
          obtain ⟨rfl, rfl⟩ := H
          obtain ⟨k24a, k24b⟩ := cl2 (W := wc) BK101.out
          obtain ⟨u24a, u24b⟩ := fr2 BK101.out
          go_wp2_with (first | (go_at_call 81; (with_reducible refine (slabSize0.calls _ _ l0_1 t104 _ ?side1 ?side2 A22.out).mono ?_); (case side1 => exact stC (Kd.C_below HR0_1.out HB.out)); (case side2 => exact HC0_1.out); rintro e w25 ⟨rfl, hb⟩; have n0_ := aq (blk_below (stB BK101) hb); have n1_ := aq (below_step (stH HB) hb); replace BK101 := n0_; replace HB := n1_; clear n0_ n1_; (try clear hb)))
          go_ret2
          exact ⟨eqW, stH HB⟩
         ·rw [if_neg c23] at H
          have c23b0 : decide (240 < (wrap64 (t104 + (wrap64 (a1 + 1))))) = false := decide_eq_false c23
          clear c23
          simp only [Option.some.injEq, Prod.mk.injEq] at H
          obtain ⟨rfl, rfl⟩ := H
          obtain ⟨k26a, k26b⟩ := cl2 (W := wc) BK101.out
          obtain ⟨u26a, u26b⟩ := fr2 BK101.out
          go_wp2_with (first | (go_at_call 81; (with_reducible refine (slabSize0.calls _ _ l0_1 t104 _ ?side1 ?side2 A22.out).mono ?_); (case side1 => exact stC (Kd.C_below HR0_1.out HB.out)); (case side2 => exact HC0_1.out); rintro e w27 ⟨rfl, hb⟩; have n0_ := aq (blk_below (stB BK101) hb); have n1_ := aq (below_step (stH HB) hb); replace BK101 := n0_; replace HB := n1_; clear n0_ n1_; (try clear hb)))
          go_ret2
          exact ⟨eqW, stH HB⟩
       ·rw [if_neg c19] at H
        have c19b0 : (x6_13 == (l0_1.length : Int)) = false := beq_eq_false_iff_ne.mpr c19
        have c19b1 : (x6_13 != (l0_1.length : Int)) = true := bne_iff_ne.mpr c19
        by_cases c28 : x6_13 ≥ 32
        ·rw [if_pos c28] at H
         have c28b0 : decide (32 ≤ x6_13) = true := decide_eq_true c28
         clear c28
         simp only [Option.some.injEq, Prod.mk.injEq] at H
         obtain ⟨rfl, rfl⟩ := H
         obtain ⟨k29a, k29b⟩ := cl2 (W := wc) BK101.out
         obtain ⟨u29a, u29b⟩ := fr2 BK101.out
         go_wp2
         go_ret2
         exact ⟨eqW, stH HB⟩
        ·rw [if_neg c28] at H
         have c28b0 : decide (32 ≤ x6_13) = false := decide_eq_false c28
         clear c28
         replace H := Option.bind_eq_some_iff.mp H
         obtain ⟨t105, A300, H⟩ := H
         try dsimp only at H
         have A30 := aq A300
         clear A300
         by_cases c31 : (wrap64 (t105 + a1)) > 240
         ·rw [if_pos c31] at H
          have c31b0 : decide (240 < (wrap64 (t105 + a1))) = true := decide_eq_true c31
          clear c31
          simp only [Option.some.injEq, Prod.mk.injEq] at H
          obtain ⟨rfl, rfl⟩ := H
          obtain ⟨k32a, k32b⟩ := cl2 (W := wc) BK101.out
          obtain ⟨u32a, u32b⟩ := fr2 BK101.out
          go_wp2_with (first | (go_at_call 81; (with_reducible refine (slabSize0.calls _ _ l0_1 t105 _ ?side1 ?side2 A30.out).mono ?_); (case side1 => exact stC (Kd.C_below HR0_1.out HB.out)); (case side2 => exact HC0_1.out); rintro e w33 ⟨rfl, hb⟩; have n0_ := aq (blk_below (stB BK101) hb); have n1_ := aq (below_step (stH HB) hb); replace BK101 := n0_; replace HB := n1_; clear n0_ n1_; (try clear hb)))
          go_ret2
          exact ⟨eqW, stH HB⟩
         ·rw [if_neg c31] at H
          have c31b0 : decide (240 < (wrap64 (t105 + a1))) = false := decide_eq_false c31
          clear c31
          simp only [Option.some.injEq, Prod.mk.injEq] at H
          obtain ⟨rfl, rfl⟩ := H
          obtain ⟨k34a, k34b⟩ := cl2 (W := wc) BK101.out
          obtain ⟨u34a, u34b⟩ := fr2 BK101.out
          go_wp2_with (first | (go_at_call 81; (with_reducible refine (slabSize0.calls _ _ l0_1 t105 _ ?side1 ?side2 A30.out).mono ?_); (case side1 => exact stC (Kd.C_below HR0_1.out HB.out)); (case side2 => exact HC0_1.out); rintro e w35 ⟨rfl, hb⟩; have n0_ := aq (blk_below (stB BK101) hb); have n1_ := aq (below_step (stH HB) hb); replace BK101 := n0_; replace HB := n1_; clear n0_ n1_; (try clear hb)))
          go_ret2
          exact ⟨eqW, stH HB⟩
end Go.Proofs.Ytfjmnaobfbmllaa.M
namespace Go.Proofs.Ytfjmnaobfbmllaa.M
open Go.RowKit Go.Proofs.YtfjmnaobfbmllaaW.PrintWords Go.Proofs.YtfjmnaobfbmllaaW.PrintLast Go.Proofs.YtfjmnaobfbmllaaW.PrintMore
set_option linter.unusedVariables false
set_option linter.unusedSimpArgs false
theorem rd_slot (l : List S33) (i : Int) : rd_T33 l i = slotL l i.toNat := rfl
theorem at_pure (a : Int) (l : List S33) (i : Int) : slab_At.f a l i = some ((atP a l i).f0, (atP a l i).f1) := by
  unfold slab_At.f slabGood.f atP
  rw [Option.bind_some]
  cases goodP a l with
  | false => rw [if_neg (by simp), if_neg (by simp)]; rfl
  | true =>
    rw [if_pos rfl]
    by_cases h0 : i < 0
    · rw [if_pos h0, if_neg (by omega)]; rfl
    · have hc : true = true ∧ 0 ≤ i := ⟨rfl, by omega⟩
      rw [if_neg h0, if_pos hc]
      by_cases h1 : i ≥ (l.length : Int)
      · rw [if_pos h1, slot_ge l _ (by omega)]; rfl
      · rw [if_neg h1, if_pos (by omega), if_pos (by omega)]; rfl
def sizeP (a : Int) (l : List S33) : Int := if goodP a l = true then (rawSize l : Int) else 0
theorem size0_good {a : Int} {l : List S33} (h : goodP a l = true) : slabSize0.f l = some (rawSize l : Int) := by
  have := (good_facts a l h).2.2.2.2.2
  unfold rawSize at this
  unfold slabSize0.f
  rw [if_pos (by omega)]
theorem size_at (a : Int) (l : List S33) : slab_Size.f a l = some (sizeP a l) := by
  unfold slab_Size.f slabGood.f sizeP
  rw [Option.bind_some]
  by_cases h : goodP a l = true
  · rw [if_pos h, if_pos h, size0_good h]; rfl
  · rw [if_neg h, if_neg h]
def vk (l : List S33) : Nat := l.findIdx vacS
theorem vk_le (l : List S33) : vk l ≤ l.length := List.findIdx_le_length
theorem vk_before (l : List S33) (i : Nat) (h : i < vk l) : (slotL l i).f0 = true := by
  have hi : i < l.length := Nat.lt_of_lt_of_le h (vk_le l)
  rw [slot_lt l i hi]
  have := List.not_of_lt_findIdx h
  unfold vacS at this
  simpa using this
theorem idx_vk (l : List S33) : idxOf vacS l = if vk l < l.length then (vk l : Int) else -1 := by
  by_cases h : vk l < l.length
  · rw [if_pos h]
    refine idxOf_hit vacS l (vk l) h (List.findIdx_getElem (w := h)) fun j hj => ?_
    have := vk_before l j hj
    rw [slot_lt l j (by omega)] at this
    unfold vacS; simp [this]
  · rw [if_neg h]
    refine idxOf_miss vacS l fun j hj => ?_
    have := vk_before l j (by omega)
    rw [slot_lt l j (by omega)] at this
    unfold vacS; simp [this]
def vacP (a : Int) (l : List S33) (n : Int) : Int × Int :=
  if goodP a l = false ∨ n < 0 then (0, 1) else if 200 < n then (0, 5)
  else if 32 ≤ vk l ∨ 240 < rawSize l + n.toNat + (if vk l = l.length then 1 else 0) then (0, 22) else (vk l, 0)
theorem vacP_good {a : Int} {l : List S33} {n : Int} (hg : goodP a l = true) (h0 : ¬ n < 0) : vacP a l n = if 200 < n then (0, 5) else if 32 ≤ vk l ∨ 240 < rawSize l + n.toNat + (if vk l = l.length then 1 else 0) then (0, 22) else ((vk l : Int), 0) := by
  unfold vacP
  rw [if_neg]
  rw [hg]; rintro (h | h)
  · cases h
  · exact h0 h
theorem vacP_bad {a : Int} {l : List S33} {n : Int} (h : goodP a l = false ∨ n < 0) : vacP a l n = (0, 1) := by
  unfold vacP
  rw [if_pos h]
theorem vac_j1 (a : Int) (l : List S33) (hg : goodP a l = true) (n : Int) (h0 : 0 ≤ n) (h1 : n ≤ 200) (k v : Nat) (hv : v ≤ l.length) :
    slab_Vacant.j1 (k + 1) n v a l = some (if 32 ≤ v ∨ 240 < rawSize l + n.toNat + (if v = l.length then 1 else 0) then (0, 22) else ((v : Int), 0)) := by
  have hsz := (good_facts a l hg).2.2.2.2.2
  have hlen := (good_facts a l hg).2.2.1
  simp only [slab_Vacant.j1]
  rw [size0_good hg, Option.bind_some, Option.bind_some, w64 (n + 1) (by omega) (by omega), w64 _ (by omega) (by omega), w64 _ (by omega) (by omega)]
  by_cases e : (v : Int) = l.length
  · have e2 : v = l.length := by omega
    rw [if_pos e, if_pos e2]
    by_cases h32 : (v : Int) ≥ 32
    · have hc : 32 ≤ v ∨ 240 < rawSize l + n.toNat + 1 := .inl (by omega)
      rw [if_pos h32, if_pos hc]
    · rw [if_neg h32]
      by_cases hb : (rawSize l : Int) + (n + 1) > 240
      · have hc : 32 ≤ v ∨ 240 < rawSize l + n.toNat + 1 := .inr (by omega)
        rw [if_pos hb, if_pos hc]
      · have hc : ¬ (32 ≤ v ∨ 240 < rawSize l + n.toNat + 1) := by omega
        rw [if_neg hb, if_neg hc]
  · have e2 : ¬ v = l.length := by omega
    rw [if_neg e, if_neg e2]
    by_cases h32 : (v : Int) ≥ 32
    · have hc : 32 ≤ v ∨ 240 < rawSize l + n.toNat + 0 := .inl (by omega)
      rw [if_pos h32, if_pos hc]
    · rw [if_neg h32]
      by_cases hb : (rawSize l : Int) + n > 240
      · have hc : 32 ≤ v ∨ 240 < rawSize l + n.toNat + 0 := .inr (by omega)
        rw [if_pos hb, if_pos hc]
      · have hc : ¬ (32 ≤ v ∨ 240 < rawSize l + n.toNat + 0) := by omega
        rw [if_neg hb, if_neg hc]
theorem vac_pure (a : Int) (l : List S33) (n : Int) (k : Nat) (hk : 4 < k) : slab_Vacant.f k a l n = some (vacP a l n) := by
  obtain ⟨k, rfl⟩ : ∃ m, k = m + 2 := ⟨k - 2, by omega⟩
  unfold slab_Vacant.f slabGood.f
  rw [Option.bind_some]
  cases hg : goodP a l with
  | false => rw [if_neg (by simp), vacP_bad (.inl hg)]; simp [slab_Vacant.j0]
  | true =>
    rw [if_pos rfl]
    simp only [slab_Vacant.j0]
    by_cases h0 : n < 0
    · rw [decide_eq_true h0, if_pos rfl, vacP_bad (.inr h0)]
    · rw [decide_eq_false h0, if_neg Bool.false_ne_true, vacP_good hg h0]
      by_cases h1 : n > 200
      · rw [if_pos h1, if_pos h1]
      · have h1' : ¬ 200 < n := h1
        rw [if_neg h1, if_neg h1']
        unfold slices_IndexVacant.f
        rw [Option.bind_some, idx_vk]
        have hv := vk_le l
        have hj := vac_j1 a l hg n (by omega) (by omega) k (vk l) hv
        by_cases hlt : vk l < l.length
        · have hc : ¬ ((vk l : Nat) : Int) < 0 := by omega
          rw [if_pos hlt, if_neg hc, hj]
        · have hc : (-1 : Int) < 0 := by omega
          rw [if_neg hlt, if_pos hc, show (l.length : Int) = ((vk l : Nat) : Int) by omega, hj]
def slabAt.f (a : Int) (l : List S33) (i : Int) : Option (Bool × ByteArray) := some ((atP a l i).f0, (atP a l i).f1)
theorem slabAt.calls (a : Int) (A : Option Addr) (c : Nat) (l : List S33) (i : Int) (r1 : Bool) (r2 : ByteArray) (w : World) (hr : Kd.C k33 w A l.length l) (hc : l.length ≤ c) (h : slabAt.f a l i = some (r1, r2)) :
    Calls Try.prog 39 #[.agg #[.int .i64 a, .slice A l.length c], .int .i64 i] w fun e w' => e = .returned (.agg #[.bool r1, .string r2]) ∧ Below w.heap.size w w' :=
  slab_At.calls a A c l i r1 r2 w hr hc (by rw [at_pure]; exact h)
def slabSz.f (a : Int) (l : List S33) : Option Int := some (sizeP a l)
theorem slabSz.calls (a : Int) (A : Option Addr) (c : Nat) (l : List S33) (r : Int) (w : World) (hr : Kd.C k33 w A l.length l) (hc : l.length ≤ c) (h : slabSz.f a l = some r) :
    Calls Try.prog 36 #[.agg #[.int .i64 a, .slice A l.length c]] w fun e w' => e = .returned (.int .i64 r) ∧ Below w.heap.size w w' :=
  slab_Size.calls a A c l r w hr hc (by rw [size_at]; exact h)
def slabVac.f (a : Int) (l : List S33) (n : Int) : Option (Int × Int) := some (vacP a l n)
theorem slabVac.calls (a : Int) (A : Option Addr) (c : Nat) (l : List S33) (n : Int) (r1 r2 : Int) (w : World) (hr : Kd.C k33 w A l.length l) (hc : l.length ≤ c) (h : slabVac.f a l n = some (r1, r2)) :
    Calls Try.prog 43 #[.agg #[.int .i64 a, .slice A l.length c], .int .i64 n] w fun e w' => e = .returned (.tuple #[.int .i64 r1, .int .i64 r2]) ∧ Below w.heap.size w w' :=
  slab_Vacant.calls 41 a A c l n r1 r2 w hr hc (by rw [vac_pure a l n 41 (by omega)]; exact h)
end Go.Proofs.Ytfjmnaobfbmllaa.M
namespace Go.Proofs.Ytfjmnaobfbmllaa.M
open Go.RowKit Go.Proofs.YtfjmnaobfbmllaaW.PrintWords Go.Proofs.YtfjmnaobfbmllaaW.PrintLast Go.Proofs.YtfjmnaobfbmllaaW.PrintMore
def va1 : List S33 := [z33, ⟨true, ⟨#[97, 98]⟩⟩]
theorem v30_1 : slabPut.f 0 [] 1 true ⟨#[97, 98]⟩ = some (0, va1, 0) := by decide +kernel
theorem v30_2 : slab_Encode.f 0 va1 = some (strOfNums (padL (encL 0 va1)), 0) := by decide +kernel
theorem v30_3 : slabPut.f 0 va1 1 false ⟨#[]⟩ = some (0, [], 0) := by decide +kernel
theorem v30_4 : slabVac.f 0 va1 5 = some (0, 0) := by decide +kernel
theorem v30_24 : slabSz.f 0 va1 = some 13 := by decide +kernel
end Go.Proofs.Ytfjmnaobfbmllaa.M
namespace Go.Proofs.Ytfjmnaobfbmllaa.M
open Go.RowKit Go.Proofs.YtfjmnaobfbmllaaW.PrintWords Go.Proofs.YtfjmnaobfbmllaaW.PrintLast Go.Proofs.YtfjmnaobfbmllaaW.PrintMore
attribute [local go_sem] max2_int min2_int max_two min_two max_three min_three max_four min_four   -- for this text's walks alone
set_option linter.unusedVariables false
set_option linter.unusedSimpArgs false
def seneschallaw03_awake.f  : Option (Bool) := (slabPut.f 0 ([] : List (S33)) 1 true (⟨#[97, 98]⟩ : ByteArray)).bind fun bt101 => ((slab_Encode.f bt101.1 bt101.2.1).bind fun bt107 => ((slabPut.f bt101.1 bt101.2.1 1 false (⟨#[]⟩ : ByteArray)).bind fun bt109 => ((slabVac.f bt101.1 bt101.2.1 5).bind fun bt115 => (if bt101.2.2 = 0 then (if (bt101.2.1.length : Int) = 2 then (if 0 < (bt101.2.1.length : Int) then (if ((rd_T33 bt101.2.1 0).f0 = true) then (some false) else ((slabSz.f bt101.1 bt101.2.1).bind fun t118 => (if t118 = 13 then (if bt107.2 = 0 then (if (bt107.1.size : Int) = 240 then (if 8 ≤ 13 then (if 13 ≤ (bt107.1.size : Int) then (if (bt107.1.extract 8 13).toList = ([2, 255, 2, 97, 98] : List UInt8) then (if bt109.2.2 = 0 then (if (bt109.2.1.length : Int) = 0 then (if bt115.1 = 0 then (if bt115.2 = 0 then ((slabGood.f bt109.1 bt109.2.1).bind fun t119 => (some t119)) else (some false)) else (some false)) else (some false)) else (some false)) else (some false)) else (none)) else (none)) else (some false)) else (some false)) else (some false)))) else (none)) else (some false)) else (some false)))))
set_option maxHeartbeats 8000000 in
set_option maxRecDepth 100000 in
theorem seneschallaw03_awake.calls  (r : Bool) (w : World) (h : seneschallaw03_awake.f  = some r) :
  Calls Try.prog 30 #[] w fun e w' => e = .returned (.bool r) ∧ Below w.heap.size w w' := by
 have hu24 := Try.underlying24
 have hu33 := Try.underlying33
 have HB := aq (Below.refl w.heap.size w)
 have H : ((slabPut.f 0 ([] : List (S33)) 1 true (⟨#[97, 98]⟩ : ByteArray)).bind fun bt101 => ((slab_Encode.f bt101.1 bt101.2.1).bind fun bt107 => ((slabPut.f bt101.1 bt101.2.1 1 false (⟨#[]⟩ : ByteArray)).bind fun bt109 => ((slabVac.f bt101.1 bt101.2.1 5).bind fun bt115 => (if bt101.2.2 = 0 then (if (bt101.2.1.length : Int) = 2 then (if 0 < (bt101.2.1.length : Int) then (if ((rd_T33 bt101.2.1 0).f0 = true) then (some false) else ((slabSz.f bt101.1 bt101.2.1).bind fun t118 => (if t118 = 13 then (if bt107.2 = 0 then (if (bt107.1.size : Int) = 240 then (if 8 ≤ 13 then (if 13 ≤ (bt107.1.size : Int) then (if (bt107.1.extract 8 13).toList = ([2, 255, 2, 97, 98] : List UInt8) then (if bt109.2.2 = 0 then (if (bt109.2.1.length : Int) = 0 then (if bt115.1 = 0 then (if bt115.2 = 0 then ((slabGood.f bt109.1 bt109.2.1).bind fun t119 => (some t119)) else (some false)) else (some false)) else (some false)) else (some false)) else (some false)) else (none)) else (none)) else (some false)) else (some false)) else (some false)))) else (none)) else (some false)) else (some false)))))) = some r := h
 clear h
 replace H := Option.bind_eq_some_iff.mp H
 obtain ⟨⟨t101, t102, t105⟩, A10, H⟩ := H
 try dsimp only at H
 have A1 := aq A10
 clear A10
 replace H := Option.bind_eq_some_iff.mp H
 obtain ⟨⟨t107, t108⟩, A20, H⟩ := H
 try dsimp only at H
 have A2 := aq A20
 clear A20
 replace H := Option.bind_eq_some_iff.mp H
 obtain ⟨⟨t109, t110, t113⟩, A30, H⟩ := H
 try dsimp only at H
 have A3 := aq A30
 clear A30
 replace H := Option.bind_eq_some_iff.mp H
 obtain ⟨⟨t115, t116⟩, A40, H⟩ := H
 try dsimp only at H
 have A4 := aq A40
 clear A40
 by_cases c5 : t105 = 0
 ·rw [if_pos c5] at H
  have c5b0 : (t105 == 0) = true := beq_iff_eq.mpr c5
  have c5b1 : (t105 != 0) = false := bne_eq_false_iff_eq.mpr c5
  clear c5
  by_cases c6 : (t102.length : Int) = 2
  ·rw [if_pos c6] at H
   have c6b0 : ((t102.length : Int) == 2) = true := beq_iff_eq.mpr c6
   have c6b1 : ((t102.length : Int) != 2) = false := bne_eq_false_iff_eq.mpr c6
   clear c6
   by_cases c7 : 0 < (t102.length : Int)
   ·rw [if_pos c7] at H
    have c7b0 : decide (0 < (t102.length : Int)) = true := decide_eq_true c7
    have c7b1 : decide (0 < t102.length) = true := decide_eq_true (by omega)
    clear c7
    obtain ⟨bq8, hbq8⟩ : ∃ b_ : Bool, b_ = ((rd_T33 t102 0).f0) := ⟨_, rfl⟩
    replace H : (if (bq8 = true) then (some false) else ((slabSz.f t101 t102).bind fun t118 => (if t118 = 13 then (if t108 = 0 then (if (t107.size : Int) = 240 then (if 8 ≤ 13 then (if 13 ≤ (t107.size : Int) then (if (t107.extract 8 13).toList = ([2, 255, 2, 97, 98] : List UInt8) then (if t113 = 0 then (if (t110.length : Int) = 0 then (if t115 = 0 then (if t116 = 0 then ((slabGood.f t109 t110).bind fun t119 => (some t119)) else (some false)) else (some false)) else (some false)) else (some false)) else (some false)) else (none)) else (none)) else (some false)) else (some false)) else (some false)))) = some r := by rw [← hbq8] at H; exact H
    have Nbq8 := aq hbq8
    clear hbq8
    by_cases c9 : (bq8 = true)
    ·exfalso; subst c9; have q_ := Option.some.inj (A1.out.symm.trans v30_1); simp only [Prod.mk.injEq] at q_; obtain ⟨rfl, rfl, rfl⟩ := q_; have q_ := Option.some.inj (A2.out.symm.trans v30_2); simp only [Prod.mk.injEq] at q_; obtain ⟨rfl, rfl⟩ := q_; have q_ := Option.some.inj (A3.out.symm.trans v30_3); simp only [Prod.mk.injEq] at q_; obtain ⟨rfl, rfl, rfl⟩ := q_; have q_ := Option.some.inj (A4.out.symm.trans v30_4); simp only [Prod.mk.injEq] at q_; obtain ⟨rfl, rfl⟩ := q_; exact absurd Nbq8.out (by decide +kernel)
    ·replace c9 := Bool.eq_false_iff.mpr c9
     subst c9
     rw [if_neg (show ¬ (false = true) by decide)] at H
     replace H := Option.bind_eq_some_iff.mp H
     obtain ⟨t118, A240, H⟩ := H
     try dsimp only at H
     have A24 := aq A240
     clear A240
     by_cases c25 : t118 = 13
     ·rw [if_pos c25] at H
      have c25b0 : (t118 == 13) = true := beq_iff_eq.mpr c25
      have c25b1 : (t118 != 13) = false := bne_eq_false_iff_eq.mpr c25
      clear c25
      by_cases c26 : t108 = 0
      ·rw [if_pos c26] at H
       have c26b0 : (t108 == 0) = true := beq_iff_eq.mpr c26
       have c26b1 : (t108 != 0) = false := bne_eq_false_iff_eq.mpr c26
       clear c26
       by_cases c27 : (t107.size : Int) = 240
       ·rw [if_pos c27] at H
        have c27b0 : ((t107.size : Int) == 240) = true := beq_iff_eq.mpr c27
        have c27b1 : ((t107.size : Int) != 240) = false := bne_eq_false_iff_eq.mpr c27
        clear c27
        by_cases c28 : 8 ≤ 13
        ·rw [if_pos c28] at H
         have c28b0 := eq_true c28
         have c28b1 : decide (8 ≤ 13) = true := decide_eq_true c28
         clear c28
         by_cases c29 : 13 ≤ (t107.size : Int)
         ·rw [if_pos c29] at H
          have c29b0 := eq_true c29
          have c29b1 : decide (13 ≤ (t107.size : Int)) = true := decide_eq_true c29
          clear c29
          by_cases c30 : (t107.extract 8 13).toList = ([2, 255, 2, 97, 98] : List UInt8)
          ·rw [if_pos c30] at H
           have c30b0 : ((t107.extract 8 13).toList == ([2, 255, 2, 97, 98] : List UInt8)) = true := beq_iff_eq.mpr c30
           have c30b1 : ((t107.extract 8 13).toList != ([2, 255, 2, 97, 98] : List UInt8)) = false := bne_eq_false_iff_eq.mpr c30
           clear c30
           by_cases c31 : t113 = 0
           ·rw [if_pos c31] at H
            have c31b0 : (t113 == 0) = true := beq_iff_eq.mpr c31
            have c31b1 : (t113 != 0) = false := bne_eq_false_iff_eq.mpr c31
            clear c31
            by_cases c32 : (t110.length : Int) = 0
            ·rw [if_pos c32] at H
             have c32b0 : ((t110.length : Int) == 0) = true := beq_iff_eq.mpr c32
             have c32b1 : ((t110.length : Int) != 0) = false := bne_eq_false_iff_eq.mpr c32
             clear c32
             by_cases c33 : t115 = 0
             ·rw [if_pos c33] at H
              have c33b0 : (t115 == 0) = true := beq_iff_eq.mpr c33
              have c33b1 : (t115 != 0) = false := bne_eq_false_iff_eq.mpr c33
              clear c33
              by_cases c34 : t116 = 0
              ·rw [if_pos c34] at H
               have c34b0 : (t116 == 0) = true := beq_iff_eq.mpr c34
               have c34b1 : (t116 != 0) = false := bne_eq_false_iff_eq.mpr c34
               clear c34
               replace H := Option.bind_eq_some_iff.mp H
               obtain ⟨t119, A350, H⟩ := H
               try dsimp only at H
               have A35 := aq A350
               clear A350
               obtain rfl := Option.some.inj H
               go_enter Try.func30, Try.ntmps30
               go_wp2_with (first | ((with_reducible refine gate_callee (f := 38) rfl ?_); refine goesL_ (some 12) rfl rfl Try.func38 (by kernel_rfl) rfl #[.agg #[.int .i64 0, .slice none 0 0], .int .i64 1, .agg #[.bool true, .string (⟨#[97, 98]⟩ : ByteArray)]] rfl fitR ?_; (refine (slabPut.calls 0 _ _ ([] : List (S33)) 1 true (⟨#[97, 98]⟩ : ByteArray) t101 t102 t105 _ ?side1 ?side2 A1.out).mono ?_); (case side1 => exact Kd.C_nil _ _); (case side2 => exact Nat.le_refl _); rintro e w36 ⟨v103, rfl, ho0, hb⟩; refine ⟨_, rfl, ?_⟩; have n0_ := aq (Kd.R_lower ho0 (below_size (stH HB))); have n1_ := aq (below_step (stH HB) hb); have HO104 := n0_; replace HB := n1_; clear n0_ n1_; (try clear hb); (try clear ho0)) | ((with_reducible refine gate_dst (N := 1) rfl ?_); (try (refine gate_guard (by rfl) ?_; dsimp only)); refine box_event ?hg (N := 1) ?hd (cs := #[.int .i64 0, .slice none 0 0]) (t := 24) ?hr ?_; (case hd => rfl); (case hg => rfl); (case hr => first | (go_simp; done) | (go_simp; rfl)); intro gb106 hg w37 hbox hb; have n0_ := aq (Kd.R_below (stR HO104) hb); have n1_ := aq (below_step (stH HB) hb); have n2_ := aq (hbox); have n3_ := aq ((by rw [hg]; exact (below_size (stH HB)) : w.heap.size ≤ gb106)); have n4_ := aq ((by rw [hg]; exact (below_size (stH HB)) : w.heap.size ≤ gb106)); replace HO104 := n0_; replace HB := n1_; have BK106 := n2_; have GW106 := n3_; have GE106 := n4_; clear n0_ n1_ n2_ n3_ n4_; clear hb hbox hg; obtain ⟨k38a, k38b⟩ := cl2 (W := w37) BK106.out; obtain ⟨u38a, u38b⟩ := fr2 BK106.out; obtain ⟨Ao39, co39, eo39⟩ := Kd.R_slice HO104.out; subst eo39) | ((with_reducible refine gate_callee (f := 32) rfl ?_); refine goesL_ (some 17) rfl rfl Try.func32 (by kernel_rfl) rfl #[.agg #[.int .i64 t101, .slice Ao39 t102.length co39]] rfl fitR ?_; (with_reducible refine (slab_Encode.calls t101 _ _ t102 t107 t108 _ ?side1 ?side2 A2.out).mono ?_); (case side1 => refine (Kd.R_reads' (e := 33) (base := w.heap.size) (ok := fun k_ => True) (n := t102.length) (c := co39) ?_).2.2; exact (by (with_reducible repeat (first | apply Kd.R_alloc | apply Kd.R_drewN | apply Kd.R_drew)); exact (Kd.R_mono (Kd.R_far (p := ⟨gb106, 1, none⟩) (Kd.R_far (p := ⟨gb106, 0, none⟩) (Kd.R_types HO104.out BK106.out (by decide)) (fun _ hk => hk.2) (.int .i64 t101)) (fun _ hk => hk.2) (.slice Ao39 t102.length co39)) (fun _ h_ => h_.1)))); (case side2 => exact (Kd.R_reads' HO104.out).2.1); rintro e w40 ⟨rfl, hb⟩; refine ⟨_, rfl, ?_⟩; have n0_ := aq (Kd.R_below (by (with_reducible repeat (first | apply Kd.R_alloc | apply Kd.R_drewN | apply Kd.R_drew)); exact (Kd.R_mono (Kd.R_far (p := ⟨gb106, 1, none⟩) (Kd.R_far (p := ⟨gb106, 0, none⟩) (Kd.R_types HO104.out BK106.out (by decide)) (fun _ hk => hk.2) (.int .i64 t101)) (fun _ hk => hk.2) (.slice Ao39 t102.length co39)) (fun _ h_ => h_.1))) hb); have n1_ := aq (blk_below (g := gb106) (o := .cells #[.int .i64 t101, .slice Ao39 t102.length co39] 24 (0, 0)) (by (with_reducible repeat (first | refine blk_drewN ?_ _ | refine blk_drew ?_ | refine blk_alloc ?_ _)); refine puts2 (cs := #[.int .i64 0, .slice none 0 0]) rfl ?_; (with_reducible repeat (first | refine blk_drewN ?_ _ | refine blk_drew ?_ | refine blk_alloc ?_ _)); exact BK106.out) hb); have n2_ := aq (below_step (stH HB) hb); replace HO104 := n0_; replace BK106 := n1_; replace HB := n2_; clear n0_ n1_ n2_; (try clear hb); (try clear hk); obtain ⟨k41a, k41b⟩ := cl2 (W := w40) BK106.out; obtain ⟨u41a, u41b⟩ := fr2 BK106.out) | ((with_reducible refine gate_callee (f := 38) rfl ?_); refine goesL_ (some 23) rfl rfl Try.func38 (by kernel_rfl) rfl #[.agg #[.int .i64 t101, .slice Ao39 t102.length co39], .int .i64 1, .agg #[.bool false, .string (⟨#[]⟩ : ByteArray)]] rfl fitR ?_; (with_reducible refine (slabPut.calls t101 _ _ t102 1 false (⟨#[]⟩ : ByteArray) t109 t110 t113 _ ?side1 ?side2 A3.out).mono ?_); (case side1 => repeat (first | exact (Kd.R_reads' HO104.out).2.2 | (with_reducible refine Kd.C_alloc ?_ _) | (with_reducible refine Kd.C_drewN ?_ _) | (with_reducible refine Kd.C_drew ?_))); (case side2 => exact (Kd.R_reads' HO104.out).2.1); rintro e w42 ⟨v111, rfl, ho0, hb⟩; refine ⟨_, rfl, ?_⟩; have n0_ := aq (Kd.R_elder' (stR HO104) (Kd.R_base ho0) hb); have n1_ := aq (Kd.R_lower (Kd.R_new' ho0 (Kd.R_lt (stR HO104))) (below_size (stH HB))); have n2_ := aq (blk_below (stB BK106) hb); have n3_ := aq (below_step (stH HB) hb); replace HO104 := n0_; have HO112 := n1_; replace BK106 := n2_; replace HB := n3_; clear n0_ n1_ n2_ n3_; (try clear hb); (try clear ho0)) | ((with_reducible refine gate_dst (N := 5) rfl ?_); (try (refine gate_guard (by rfl) ?_; dsimp only)); refine box_event ?hg (N := 5) ?hd (cs := #[.int .i64 0, .slice none 0 0]) (t := 24) ?hr ?_; (case hd => rfl); (case hg => rfl); (case hr => first | (go_simp; done) | (go_simp; rfl)); intro gb114 hg w43 hbox hb; have n0_ := aq (Kd.R_below (stR HO104) hb); have n1_ := aq (Kd.R_below (stR HO112) hb); have n2_ := aq (blk_below (stB BK106) hb); have n3_ := aq (below_step (stH HB) hb); have n4_ := aq (hbox); have n5_ := aq ((by rw [hg]; exact (below_size (stH HB)) : w.heap.size ≤ gb114)); have n6_ := aq ((by rw [hg]; exact (below_size (stH HB)) : w.heap.size ≤ gb114)); have n7_ := aq ((by rw [hg]; exact Nat.ne_of_lt (blk_lt (stB BK106)) : gb106 ≠ gb114)); have n8_ := aq ((by rw [hg]; exact Nat.ne_of_gt (blk_lt (stB BK106)) : gb114 ≠ gb106)); replace HO104 := n0_; replace HO112 := n1_; replace BK106 := n2_; replace HB := n3_; have BK114 := n4_; have GW114 := n5_; have GE114 := n6_; have NB106_114 := n7_; have NB114_106 := n8_; clear n0_ n1_ n2_ n3_ n4_ n5_ n6_ n7_ n8_; clear hb hbox hg; have hnb44 := NB114_106.out; have hnc44 := NB106_114.out; obtain ⟨k45a, k45b⟩ := cl2 (W := w43) BK114.out; obtain ⟨u45a, u45b⟩ := fr2 BK114.out; obtain ⟨Ao46, co46, eo46⟩ := Kd.R_slice HO112.out; subst eo46; obtain ⟨k47a, k47b⟩ := cl2 (W := w43) BK106.out; obtain ⟨u47a, u47b⟩ := fr2 BK106.out) | ((with_reducible refine gate_callee (f := 43) rfl ?_); refine goesL_ (some 28) rfl rfl Try.func43 (by kernel_rfl) rfl #[.agg #[.int .i64 t101, .slice Ao39 t102.length co39], .int .i64 5] rfl fitR ?_; (with_reducible refine (slabVac.calls t101 _ _ t102 5 t115 t116 _ ?side1 ?side2 A4.out).mono ?_); (case side1 => refine (Kd.R_reads' (e := 33) (base := w.heap.size) (ok := fun k_ => (True ∧ some k_ ≠ (.slice Ao46 t110.length co46 : Value).ownBlock)) (n := t102.length) (c := co39) ?_).2.2; exact (by (with_reducible repeat (first | apply Kd.R_alloc | apply Kd.R_drewN | apply Kd.R_drew)); exact (Kd.R_mono (Kd.R_far (p := ⟨gb114, 1, none⟩) (Kd.R_far (p := ⟨gb114, 0, none⟩) (Kd.R_types HO104.out BK114.out (by decide)) (fun _ hk => hk.2) (.int .i64 t109)) (fun _ hk => hk.2) (.slice Ao46 t110.length co46)) (fun _ h_ => h_.1)))); (case side2 => exact (Kd.R_reads' HO104.out).2.1); rintro e w48 ⟨rfl, hb⟩; refine ⟨_, rfl, ?_⟩; have n0_ := aq (Kd.R_below (by (with_reducible repeat (first | apply Kd.R_alloc | apply Kd.R_drewN | apply Kd.R_drew)); exact (Kd.R_mono (Kd.R_far (p := ⟨gb114, 1, none⟩) (Kd.R_far (p := ⟨gb114, 0, none⟩) (Kd.R_types HO104.out BK114.out (by decide)) (fun _ hk => hk.2) (.int .i64 t109)) (fun _ hk => hk.2) (.slice Ao46 t110.length co46)) (fun _ h_ => h_.1))) hb); have n1_ := aq (Kd.R_below (by (with_reducible repeat (first | apply Kd.R_alloc | apply Kd.R_drewN | apply Kd.R_drew)); exact (Kd.R_mono (Kd.R_far (p := ⟨gb114, 1, none⟩) (Kd.R_far (p := ⟨gb114, 0, none⟩) (Kd.R_types HO112.out BK114.out (by decide)) (fun _ hk => hk.2) (.int .i64 t109)) (fun _ hk => hk.2) (.slice Ao46 t110.length co46)) (fun _ h_ => h_.1))) hb); have n2_ := aq (blk_below (g := gb106) (o := .cells #[.int .i64 t101, .slice Ao39 t102.length co39] 24 (0, 0)) (stF BK106) hb); have n3_ := aq (blk_below (g := gb114) (o := .cells #[.int .i64 t109, .slice Ao46 t110.length co46] 24 (0, 0)) (by (with_reducible repeat (first | refine blk_drewN ?_ _ | refine blk_drew ?_ | refine blk_alloc ?_ _)); refine puts2 (cs := #[.int .i64 0, .slice none 0 0]) rfl ?_; (with_reducible repeat (first | refine blk_drewN ?_ _ | refine blk_drew ?_ | refine blk_alloc ?_ _)); exact BK114.out) hb); have n4_ := aq (below_step (stH HB) hb); replace HO104 := n0_; replace HO112 := n1_; replace BK106 := n2_; replace BK114 := n3_; replace HB := n4_; clear n0_ n1_ n2_ n3_ n4_; (try clear hb); (try clear hk); obtain ⟨k49a, k49b⟩ := cl2 (W := w48) BK106.out; obtain ⟨u49a, u49b⟩ := fr2 BK106.out; have p117 : 0 ≤ (0 : Int) := (by omega); have q117 : 0 < (t102.length : Int) := of_decide_eq_true (by first | (with_reducible assumption) | assumption); obtain ⟨ad117, e117, hx117_0, hx117_1⟩ := at_T33 (Kd.R_reads' HO104.out).2.2 0 p117 q117; (try rw [← Nbq8.out] at hx117_0); cases e117; have qi117 : (0 < t102.length) = True := eq_true (by omega); (try rw [show ((0 : Int)).toNat = 0 from rfl] at hx117_0); (try rw [show 0 * 2 = 0 from rfl] at hx117_0); (try rw [Addr.add_zero'] at hx117_0); (try rw [show ((0 : Int)).toNat = 0 from rfl] at hx117_1); (try rw [show 0 * 2 = 0 from rfl] at hx117_1); (try rw [Addr.add_zero'] at hx117_1); replace p117 := eq_true p117; replace q117 := eq_true q117) | (go_at_call 36; (with_reducible refine (slabSz.calls t101 _ _ t102 t118 _ ?side1 ?side2 A24.out).mono ?_); (case side1 => repeat (first | exact (Kd.R_reads' HO104.out).2.2 | (with_reducible refine Kd.C_alloc ?_ _) | (with_reducible refine Kd.C_drewN ?_ _) | (with_reducible refine Kd.C_drew ?_))); (case side2 => exact (Kd.R_reads' HO104.out).2.1); rintro e w50 ⟨rfl, hb⟩; have n0_ := aq (Kd.R_below (stR HO104) hb); have n1_ := aq (Kd.R_below (stR HO112) hb); have n2_ := aq (blk_below (stB BK106) hb); have n3_ := aq (blk_below (stB BK114) hb); have n4_ := aq (below_step (stH HB) hb); replace HO104 := n0_; replace HO112 := n1_; replace BK106 := n2_; replace BK114 := n3_; replace HB := n4_; clear n0_ n1_ n2_ n3_ n4_; (try clear hb); obtain ⟨k51a, k51b⟩ := cl2 (W := w50) BK114.out; obtain ⟨u51a, u51b⟩ := fr2 BK114.out) | (go_at_call 34; (with_reducible refine (slabGood.calls t109 _ _ t110 t119 _ ?side1 ?side2 A35.out).mono ?_); (case side1 => repeat (first | exact (Kd.R_reads' HO112.out).2.2 | (with_reducible refine Kd.C_alloc ?_ _) | (with_reducible refine Kd.C_drewN ?_ _) | (with_reducible refine Kd.C_drew ?_))); (case side2 => exact (Kd.R_reads' HO112.out).2.1); rintro e w52 ⟨rfl, hb⟩; have n0_ := aq (Kd.R_below (stR HO104) hb); have n1_ := aq (Kd.R_below (stR HO112) hb); have n2_ := aq (blk_below (stB BK106) hb); have n3_ := aq (blk_below (stB BK114) hb); have n4_ := aq (below_step (stH HB) hb); replace HO104 := n0_; replace HO112 := n1_; replace BK106 := n2_; replace BK114 := n3_; replace HB := n4_; clear n0_ n1_ n2_ n3_ n4_; (try clear hb)))
               go_ret
               exact ⟨eqW, stH HB⟩
              ·exfalso; have q_ := Option.some.inj (A1.out.symm.trans v30_1); simp only [Prod.mk.injEq] at q_; obtain ⟨rfl, rfl, rfl⟩ := q_; have q_ := Option.some.inj (A2.out.symm.trans v30_2); simp only [Prod.mk.injEq] at q_; obtain ⟨rfl, rfl⟩ := q_; have q_ := Option.some.inj (A3.out.symm.trans v30_3); simp only [Prod.mk.injEq] at q_; obtain ⟨rfl, rfl, rfl⟩ := q_; have q_ := Option.some.inj (A4.out.symm.trans v30_4); simp only [Prod.mk.injEq] at q_; obtain ⟨rfl, rfl⟩ := q_; have q_ := Option.some.inj (A24.out.symm.trans v30_24); subst q_; exact c34 (by decide +kernel)
             ·exfalso; have q_ := Option.some.inj (A1.out.symm.trans v30_1); simp only [Prod.mk.injEq] at q_; obtain ⟨rfl, rfl, rfl⟩ := q_; have q_ := Option.some.inj (A2.out.symm.trans v30_2); simp only [Prod.mk.injEq] at q_; obtain ⟨rfl, rfl⟩ := q_; have q_ := Option.some.inj (A3.out.symm.trans v30_3); simp only [Prod.mk.injEq] at q_; obtain ⟨rfl, rfl, rfl⟩ := q_; have q_ := Option.some.inj (A4.out.symm.trans v30_4); simp only [Prod.mk.injEq] at q_; obtain ⟨rfl, rfl⟩ := q_; have q_ := Option.some.inj (A24.out.symm.trans v30_24); subst q_; exact c33 (by decide +kernel)
            ·exfalso; have q_ := Option.some.inj (A1.out.symm.trans v30_1); simp only [Prod.mk.injEq] at q_; obtain ⟨rfl, rfl, rfl⟩ := q_; have q_ := Option.some.inj (A2.out.symm.trans v30_2); simp only [Prod.mk.injEq] at q_; obtain ⟨rfl, rfl⟩ := q_; have q_ := Option.some.inj (A3.out.symm.trans v30_3); simp only [Prod.mk.injEq] at q_; obtain ⟨rfl, rfl, rfl⟩ := q_; have q_ := Option.some.inj (A4.out.symm.trans v30_4); simp only [Prod.mk.injEq] at q_; obtain ⟨rfl, rfl⟩ := q_; have q_ := Option.some.inj (A24.out.symm.trans v30_24); subst q_; exact c32 (by decide +kernel)
           ·exfalso; have q_ := Option.some.inj (A1.out.symm.trans v30_1); simp only [Prod.mk.injEq] at q_; obtain ⟨rfl, rfl, rfl⟩ := q_; have q_ := Option.some.inj (A2.out.symm.trans v30_2); simp only [Prod.mk.injEq] at q_; obtain ⟨rfl, rfl⟩ := q_; have q_ := Option.some.inj (A3.out.symm.trans v30_3); simp only [Prod.mk.injEq] at q_; obtain ⟨rfl, rfl, rfl⟩ := q_; have q_ := Option.some.inj (A4.out.symm.trans v30_4); simp only [Prod.mk.injEq] at q_; obtain ⟨rfl, rfl⟩ := q_; have q_ := Option.some.inj (A24.out.symm.trans v30_24); subst q_; exact c31 (by decide +kernel)
          ·exfalso; have q_ := Option.some.inj (A1.out.symm.trans v30_1); simp only [Prod.mk.injEq] at q_; obtain ⟨rfl, rfl, rfl⟩ := q_; have q_ := Option.some.inj (A2.out.symm.trans v30_2); simp only [Prod.mk.injEq] at q_; obtain ⟨rfl, rfl⟩ := q_; have q_ := Option.some.inj (A3.out.symm.trans v30_3); simp only [Prod.mk.injEq] at q_; obtain ⟨rfl, rfl, rfl⟩ := q_; have q_ := Option.some.inj (A4.out.symm.trans v30_4); simp only [Prod.mk.injEq] at q_; obtain ⟨rfl, rfl⟩ := q_; have q_ := Option.some.inj (A24.out.symm.trans v30_24); subst q_; exact c30 (by decide +kernel)
         ·exfalso; have q_ := Option.some.inj (A1.out.symm.trans v30_1); simp only [Prod.mk.injEq] at q_; obtain ⟨rfl, rfl, rfl⟩ := q_; have q_ := Option.some.inj (A2.out.symm.trans v30_2); simp only [Prod.mk.injEq] at q_; obtain ⟨rfl, rfl⟩ := q_; have q_ := Option.some.inj (A3.out.symm.trans v30_3); simp only [Prod.mk.injEq] at q_; obtain ⟨rfl, rfl, rfl⟩ := q_; have q_ := Option.some.inj (A4.out.symm.trans v30_4); simp only [Prod.mk.injEq] at q_; obtain ⟨rfl, rfl⟩ := q_; have q_ := Option.some.inj (A24.out.symm.trans v30_24); subst q_; exact c29 (by decide +kernel)
        ·exfalso; have q_ := Option.some.inj (A1.out.symm.trans v30_1); simp only [Prod.mk.injEq] at q_; obtain ⟨rfl, rfl, rfl⟩ := q_; have q_ := Option.some.inj (A2.out.symm.trans v30_2); simp only [Prod.mk.injEq] at q_; obtain ⟨rfl, rfl⟩ := q_; have q_ := Option.some.inj (A3.out.symm.trans v30_3); simp only [Prod.mk.injEq] at q_; obtain ⟨rfl, rfl, rfl⟩ := q_; have q_ := Option.some.inj (A4.out.symm.trans v30_4); simp only [Prod.mk.injEq] at q_; obtain ⟨rfl, rfl⟩ := q_; have q_ := Option.some.inj (A24.out.symm.trans v30_24); subst q_; exact c28 (by decide +kernel)
       ·exfalso; have q_ := Option.some.inj (A1.out.symm.trans v30_1); simp only [Prod.mk.injEq] at q_; obtain ⟨rfl, rfl, rfl⟩ := q_; have q_ := Option.some.inj (A2.out.symm.trans v30_2); simp only [Prod.mk.injEq] at q_; obtain ⟨rfl, rfl⟩ := q_; have q_ := Option.some.inj (A3.out.symm.trans v30_3); simp only [Prod.mk.injEq] at q_; obtain ⟨rfl, rfl, rfl⟩ := q_; have q_ := Option.some.inj (A4.out.symm.trans v30_4); simp only [Prod.mk.injEq] at q_; obtain ⟨rfl, rfl⟩ := q_; have q_ := Option.some.inj (A24.out.symm.trans v30_24); subst q_; exact c27 (by decide +kernel)
      ·exfalso; have q_ := Option.some.inj (A1.out.symm.trans v30_1); simp only [Prod.mk.injEq] at q_; obtain ⟨rfl, rfl, rfl⟩ := q_; have q_ := Option.some.inj (A2.out.symm.trans v30_2); simp only [Prod.mk.injEq] at q_; obtain ⟨rfl, rfl⟩ := q_; have q_ := Option.some.inj (A3.out.symm.trans v30_3); simp only [Prod.mk.injEq] at q_; obtain ⟨rfl, rfl, rfl⟩ := q_; have q_ := Option.some.inj (A4.out.symm.trans v30_4); simp only [Prod.mk.injEq] at q_; obtain ⟨rfl, rfl⟩ := q_; have q_ := Option.some.inj (A24.out.symm.trans v30_24); subst q_; exact c26 (by decide +kernel)
     ·exfalso; have q_ := Option.some.inj (A1.out.symm.trans v30_1); simp only [Prod.mk.injEq] at q_; obtain ⟨rfl, rfl, rfl⟩ := q_; have q_ := Option.some.inj (A2.out.symm.trans v30_2); simp only [Prod.mk.injEq] at q_; obtain ⟨rfl, rfl⟩ := q_; have q_ := Option.some.inj (A3.out.symm.trans v30_3); simp only [Prod.mk.injEq] at q_; obtain ⟨rfl, rfl, rfl⟩ := q_; have q_ := Option.some.inj (A4.out.symm.trans v30_4); simp only [Prod.mk.injEq] at q_; obtain ⟨rfl, rfl⟩ := q_; have q_ := Option.some.inj (A24.out.symm.trans v30_24); subst q_; exact c25 (by decide +kernel)
   ·exfalso; have q_ := Option.some.inj (A1.out.symm.trans v30_1); simp only [Prod.mk.injEq] at q_; obtain ⟨rfl, rfl, rfl⟩ := q_; have q_ := Option.some.inj (A2.out.symm.trans v30_2); simp only [Prod.mk.injEq] at q_; obtain ⟨rfl, rfl⟩ := q_; have q_ := Option.some.inj (A3.out.symm.trans v30_3); simp only [Prod.mk.injEq] at q_; obtain ⟨rfl, rfl, rfl⟩ := q_; have q_ := Option.some.inj (A4.out.symm.trans v30_4); simp only [Prod.mk.injEq] at q_; obtain ⟨rfl, rfl⟩ := q_; exact c7 (by decide +kernel)
  ·exfalso; have q_ := Option.some.inj (A1.out.symm.trans v30_1); simp only [Prod.mk.injEq] at q_; obtain ⟨rfl, rfl, rfl⟩ := q_; have q_ := Option.some.inj (A2.out.symm.trans v30_2); simp only [Prod.mk.injEq] at q_; obtain ⟨rfl, rfl⟩ := q_; have q_ := Option.some.inj (A3.out.symm.trans v30_3); simp only [Prod.mk.injEq] at q_; obtain ⟨rfl, rfl, rfl⟩ := q_; have q_ := Option.some.inj (A4.out.symm.trans v30_4); simp only [Prod.mk.injEq] at q_; obtain ⟨rfl, rfl⟩ := q_; exact c6 (by decide +kernel)
 ·exfalso; have q_ := Option.some.inj (A1.out.symm.trans v30_1); simp only [Prod.mk.injEq] at q_; obtain ⟨rfl, rfl, rfl⟩ := q_; have q_ := Option.some.inj (A2.out.symm.trans v30_2); simp only [Prod.mk.injEq] at q_; obtain ⟨rfl, rfl⟩ := q_; have q_ := Option.some.inj (A3.out.symm.trans v30_3); simp only [Prod.mk.injEq] at q_; obtain ⟨rfl, rfl, rfl⟩ := q_; have q_ := Option.some.inj (A4.out.symm.trans v30_4); simp only [Prod.mk.injEq] at q_; obtain ⟨rfl, rfl⟩ := q_; exact c5 (by decide +kernel)
end Go.Proofs.Ytfjmnaobfbmllaa.M
namespace Go.Proofs.Ytfjmnaobfbmllaa.M
open Go.RowKit Go.Proofs.YtfjmnaobfbmllaaW.PrintWords Go.Proofs.YtfjmnaobfbmllaaW.PrintLast Go.Proofs.YtfjmnaobfbmllaaW.PrintMore
theorem awake3_pure : seneschallaw03_awake.f = some true := by decide +kernel
def awake3.f : Option Bool := some true
theorem awake3.calls (r : Bool) (w : World) (h : awake3.f = some r) : Calls Try.prog 30 #[] w fun e w' => e = .returned (.bool r) ∧ Below w.heap.size w w' :=
  seneschallaw03_awake.calls r w (by rw [awake3_pure]; exact h)
end Go.Proofs.Ytfjmnaobfbmllaa.M
namespace Go.Proofs.Ytfjmnaobfbmllaa.M
open Go.RowKit Go.Proofs.YtfjmnaobfbmllaaW.PrintWords Go.Proofs.YtfjmnaobfbmllaaW.PrintLast Go.Proofs.YtfjmnaobfbmllaaW.PrintMore
attribute [local go_sem] max2_int min2_int max_two min_two max_three min_three max_four min_four   -- for this text's walks alone
set_option linter.unusedVariables false
set_option linter.unusedSimpArgs false
attribute [local go_sem high] eqA33
mutual
def seneschallaw03_SlabMap.l0 : Nat → List (S47) → List (S33) → Int → Int → List (S33) → Option (Bool)
 | 0, _, _, _, _, _ => none
 | k + 1, x0, x4, x5, x103000, x103001 => if x5 < (x0.length : Int) then (seneschallaw03_SlabMap.j1 k x0 x4 x5 (decide (x5 < 60)) x103000 x103001) else (seneschallaw03_SlabMap.j1 k x0 x4 x5 false x103000 x103001)
def seneschallaw03_SlabMap.j1 : Nat → List (S47) → List (S33) → Int → Bool → Int → List (S33) → Option (Bool)
 | 0, _, _, _, _, _, _ => none
 | k + 1, x0, x4, x5, x22, x103000, x103001 => if x22 = true then (if 0 ≤ x5 then (if x5 < (x0.length : Int) then (if (((rd_T47 x0 x5).f1.f1).size : Int) > 1024 then (some true) else ((slabPut.f x103000 x103001 (wrap64 (Int.tmod (IntKind.u64.wrap ((rd_T47 x0 x5).f0)) 32)) ((rd_T47 x0 x5).f1.f0) ((rd_T47 x0 x5).f1.f1)).bind fun bt109 => (if bt109.2.2 = 0 then (if 0 ≤ (wrap64 (Int.tmod (IntKind.u64.wrap ((rd_T47 x0 x5).f0)) 32)) then (if (wrap64 (Int.tmod (IntKind.u64.wrap ((rd_T47 x0 x5).f0)) 32)) < (x4.length : Int) then (seneschallaw03_SlabMap.l0 k x0 (x4.set ((wrap64 (Int.tmod (IntKind.u64.wrap ((rd_T47 x0 x5).f0)) 32)) : Int).toNat (⟨(rd_T47 x0 x5).f1.f0, (rd_T47 x0 x5).f1.f1⟩ : S33)) (wrap64 (x5 + 1)) bt109.1 bt109.2.1) else (none)) else (none)) else (seneschallaw03_SlabMap.l0 k x0 x4 (wrap64 (x5 + 1)) x103000 x103001)))) else (none)) else (none)) else (seneschallaw03_SlabMap.l1 k x4 0 0 x103000 x103001)
def seneschallaw03_SlabMap.l1 : Nat → List (S33) → Int → Int → Int → List (S33) → Option (Bool)
 | 0, _, _, _, _, _ => none
 | k + 1, x4, x9, x10, x103000, x103001 => if x10 < 32 then ((slabAt.f x103000 x103001 x10).bind fun bt117 => (if 0 ≤ x10 then (if x10 < (x4.length : Int) then (if (!(bt117.1 == ((rd_T33 x4 x10).f0)) || (!(bt117.2.toList == (((rd_T33 x4 x10).f1).toList)))) = true then (some false) else (if (rd_T33 x4 x10).f0 = true then (seneschallaw03_SlabMap.l1 k x4 (wrap64 (x10 + 1)) (wrap64 (x10 + 1)) x103000 x103001) else (seneschallaw03_SlabMap.l1 k x4 x9 (wrap64 (x10 + 1)) x103000 x103001))) else (none)) else (none))) else (if (x103001.length : Int) = x9 then (some (x103000 == 3)) else (some false))
end
def seneschallaw03_SlabMap.f (k : Nat) (l0 : List (S47)) : Option (Bool) := (awake3.f).bind fun t101 => (if t101 = true then (if 32 ≤ 11728124029610 then (seneschallaw03_SlabMap.l0 k l0 (List.replicate 32 z33) 0 3 ([] : List (S33))) else (none)) else (some false))
def seneschallaw03_SlabMap.T11 : Bool × List (List Nat × List Nat) := (true, [([], []), ([], []), ([], []), ([], []), ([2, 3], [2, 3]), ([4], [4]), ([5], [5]), ([0, 1, 6], [0, 1, 6]), ([7], [7]), ([8], [8]), ([8], [8]), ([], []), ([11, 9, 7, 0, 1, 2, 3, 4, 5, 6, 7, 8, 9, 11], [9, 11]), ([10, 12, 0, 1, 2, 3, 4, 5, 6, 7, 8, 9, 10, 11, 12], [10])])
def seneschallaw03_SlabMap.B11 : List Nat := [0, 0, 0, 0, 12, 28, 60, 127, 255, 511, 511, 0, 3071, 8191]
theorem seneschallaw03_SlabMap.tab11 : rtab .any (opsOf Try.f8 11) = seneschallaw03_SlabMap.T11 := by kernel_rfl
theorem seneschallaw03_SlabMap.bits11 : waitsOk seneschallaw03_SlabMap.T11.2 seneschallaw03_SlabMap.B11 = true := by kernel_rfl
end Go.Proofs.Ytfjmnaobfbmllaa.M
