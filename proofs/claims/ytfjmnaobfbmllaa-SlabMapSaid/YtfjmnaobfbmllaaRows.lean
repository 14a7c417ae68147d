/-
  No cell of these rows narrows 'for every input' (looked for: loops, veiled, ifaces, maps, wideKeys, modest, calm, conditions, laid).
  DERIVED. THE GIVEN ROWS OF THIS SEAT. 27 by the template 'for every input the law returns true; each argument reads behind the call as it read before'; 0 by the template 'total and deterministic' (their statements: YtfjmnaobfbmllaaTotals.lean).
  GIVEN WITH THE SEED: the statements are not yours to turn. If you find one false, say at which input.
  Laid BY PROGRAM, IN A SANDBOX (cutbox-rows.mjs): the forced cells as the released guide's own fill.sh prints them over the translation 74520540848b39e6… (all of the seat's roots in one cut). By AI agents, Wed Nov 11 2026. No macro, syntax, notation, axiom, sorry.
-/
import Derived.Test.YtfjmnaobfbmllaaChecked
import GoSem.Claim
import GoSem.ClaimJoined
import GoSem.ClaimMapViews
import Derived.JoinedTies
import Derived.KernelRfl
namespace Go.Proofs.Ytfjmnaobfbmllaa
/- THE CELL 'sum', in the pinned program and in every row, IS THE sha256 OF THE DUMP (.gsa) THAT YtfjmnaobfbmllaaProg.lean LOADS. Nothing in Lean hashes anything: it is a label: what it is worth is what the hold of that sum in a sandbox is worth. -/
noncomputable def Try.pinned : Pinned := { name := "ytfjmnaobfbmllaa", sum := "74520540848b39e650e191ffd5f7e82c572e90510165443ea2535ba63909047e", checked := Try.checked }
namespace Rows
def none {H : Type} : Left H := { results := [], args := [] }

/-- 'seneschallaw03.SlabWrites': WHATEVER THE INPUT: true; the input reads as it did. -/
def slabWritesSpec : ChangeSpec := { name := "slabWrites", fn := fun _ => fun
  | [d] => { results := [.lit (.bool true)], args := [d] }
  | _ => none }
def slabWritesRow : OpenClaim := { program := "ytfjmnaobfbmllaa", sum := "74520540848b39e650e191ffd5f7e82c572e90510165443ea2535ba63909047e", func := "seneschal/seneschallaw03.SlabWrites", spec := "slabWrites", unfollowed := true, recurses := true, apart := false }
def SlabWritesSaid : Prop := slabWritesRow.holds Try.pinned (OpenSpec.ofChange slabWritesSpec)

/-- ITS FALSE NEIGHBOUR: 'it returns false'. Refute it at one input. -/
def slabWritesWrong : ChangeSpec := { name := "slabWrites", fn := fun _ => fun
  | [d] => { results := [.lit (.bool false)], args := [d] }
  | _ => none }
def SlabWritesWrongFalsely : Prop := slabWritesRow.holds Try.pinned (OpenSpec.ofChange slabWritesWrong)

/-- 'seneschallaw03.SlabFits': WHATEVER THE INPUT: true; the input reads as it did. -/
def slabFitsSpec : ChangeSpec := { name := "slabFits", fn := fun _ => fun
  | [d1, d2, d3] => { results := [.lit (.bool true)], args := [d1, d2, d3] }
  | _ => none }
def slabFitsRow : OpenClaim := { program := "ytfjmnaobfbmllaa", sum := "74520540848b39e650e191ffd5f7e82c572e90510165443ea2535ba63909047e", func := "seneschal/seneschallaw03.SlabFits", spec := "slabFits", unfollowed := true, recurses := true, apart := false }
def SlabFitsSaid : Prop := slabFitsRow.holds Try.pinned (OpenSpec.ofChange slabFitsSpec)

/-- ITS FALSE NEIGHBOUR: 'it returns false'. Refute it at one input. -/
def slabFitsWrong : ChangeSpec := { name := "slabFits", fn := fun _ => fun
  | [d1, d2, d3] => { results := [.lit (.bool false)], args := [d1, d2, d3] }
  | _ => none }
def SlabFitsWrongFalsely : Prop := slabFitsRow.holds Try.pinned (OpenSpec.ofChange slabFitsWrong)

/-- 'seneschallaw03.SlabPuts': WHATEVER THE INPUT: true; the input reads as it did. -/
def slabPutsSpec : ChangeSpec := { name := "slabPuts", fn := fun _ => fun
  | [d1, d2, d3] => { results := [.lit (.bool true)], args := [d1, d2, d3] }
  | _ => none }
def slabPutsRow : OpenClaim := { program := "ytfjmnaobfbmllaa", sum := "74520540848b39e650e191ffd5f7e82c572e90510165443ea2535ba63909047e", func := "seneschal/seneschallaw03.SlabPuts", spec := "slabPuts", unfollowed := true, recurses := true, apart := false }
def SlabPutsSaid : Prop := slabPutsRow.holds Try.pinned (OpenSpec.ofChange slabPutsSpec)

/-- ITS FALSE NEIGHBOUR: 'it returns false'. Refute it at one input. -/
def slabPutsWrong : ChangeSpec := { name := "slabPuts", fn := fun _ => fun
  | [d1, d2, d3] => { results := [.lit (.bool false)], args := [d1, d2, d3] }
  | _ => none }
def SlabPutsWrongFalsely : Prop := slabPutsRow.holds Try.pinned (OpenSpec.ofChange slabPutsWrong)

/-- 'seneschallaw03.SlabKeeps': WHATEVER THE INPUT: true; the input reads as it did. -/
def slabKeepsSpec : ChangeSpec := { name := "slabKeeps", fn := fun _ => fun
  | [d1, d2, d3] => { results := [.lit (.bool true)], args := [d1, d2, d3] }
  | _ => none }
def slabKeepsRow : OpenClaim := { program := "ytfjmnaobfbmllaa", sum := "74520540848b39e650e191ffd5f7e82c572e90510165443ea2535ba63909047e", func := "seneschal/seneschallaw03.SlabKeeps", spec := "slabKeeps", unfollowed := true, recurses := true, apart := false }
def SlabKeepsSaid : Prop := slabKeepsRow.holds Try.pinned (OpenSpec.ofChange slabKeepsSpec)

/-- ITS FALSE NEIGHBOUR: 'it returns false'. Refute it at one input. -/
def slabKeepsWrong : ChangeSpec := { name := "slabKeeps", fn := fun _ => fun
  | [d1, d2, d3] => { results := [.lit (.bool false)], args := [d1, d2, d3] }
  | _ => none }
def SlabKeepsWrongFalsely : Prop := slabKeepsRow.holds Try.pinned (OpenSpec.ofChange slabKeepsWrong)

/-- 'seneschallaw03.SlabVacant': WHATEVER THE INPUT: true; the input reads as it did. -/
def slabVacantSpec : ChangeSpec := { name := "slabVacant", fn := fun _ => fun
  | [d1, d2] => { results := [.lit (.bool true)], args := [d1, d2] }
  | _ => none }
def slabVacantRow : OpenClaim := { program := "ytfjmnaobfbmllaa", sum := "74520540848b39e650e191ffd5f7e82c572e90510165443ea2535ba63909047e", func := "seneschal/seneschallaw03.SlabVacant", spec := "slabVacant", unfollowed := true, recurses := true, apart := false }
def SlabVacantSaid : Prop := slabVacantRow.holds Try.pinned (OpenSpec.ofChange slabVacantSpec)

/-- ITS FALSE NEIGHBOUR: 'it returns false'. Refute it at one input. -/
def slabVacantWrong : ChangeSpec := { name := "slabVacant", fn := fun _ => fun
  | [d1, d2] => { results := [.lit (.bool false)], args := [d1, d2] }
  | _ => none }
def SlabVacantWrongFalsely : Prop := slabVacantRow.holds Try.pinned (OpenSpec.ofChange slabVacantWrong)

/-- 'seneschallaw03.SlabMap': WHATEVER THE INPUT: true; the input reads as it did. -/
def slabMapSpec : ChangeSpec := { name := "slabMap", fn := fun _ => fun
  | [d] => { results := [.lit (.bool true)], args := [d] }
  | _ => none }
def slabMapRow : OpenClaim := { program := "ytfjmnaobfbmllaa", sum := "74520540848b39e650e191ffd5f7e82c572e90510165443ea2535ba63909047e", func := "seneschal/seneschallaw03.SlabMap", spec := "slabMap", unfollowed := true, recurses := true, apart := false }
def SlabMapSaid : Prop := slabMapRow.holds Try.pinned (OpenSpec.ofChange slabMapSpec)

/-- ITS FALSE NEIGHBOUR: 'it returns false'. Refute it at one input. -/
def slabMapWrong : ChangeSpec := { name := "slabMap", fn := fun _ => fun
  | [d] => { results := [.lit (.bool false)], args := [d] }
  | _ => none }
def SlabMapWrongFalsely : Prop := slabMapRow.holds Try.pinned (OpenSpec.ofChange slabMapWrong)

/-- 'seneschallaw11.NoteForms': WHATEVER THE INPUT: true; the input reads as it did. -/
def noteFormsSpec : ChangeSpec := { name := "noteForms", fn := fun _ => fun
  | [d] => { results := [.lit (.bool true)], args := [d] }
  | _ => none }
def noteFormsRow : OpenClaim := { program := "ytfjmnaobfbmllaa", sum := "74520540848b39e650e191ffd5f7e82c572e90510165443ea2535ba63909047e", func := "seneschal/seneschallaw11.NoteForms", spec := "noteForms", unfollowed := true, recurses := true, apart := false }
def NoteFormsSaid : Prop := noteFormsRow.holds Try.pinned (OpenSpec.ofChange noteFormsSpec)

/-- ITS FALSE NEIGHBOUR: 'it returns false'. Refute it at one input. -/
def noteFormsWrong : ChangeSpec := { name := "noteForms", fn := fun _ => fun
  | [d] => { results := [.lit (.bool false)], args := [d] }
  | _ => none }
def NoteFormsWrongFalsely : Prop := noteFormsRow.holds Try.pinned (OpenSpec.ofChange noteFormsWrong)

/-- 'seneschallaw03.SlabRows': WHATEVER THE INPUT: true; the input reads as it did. -/
def slabRowsSpec : ChangeSpec := { name := "slabRows", fn := fun _ => fun
  | [d1, d2] => { results := [.lit (.bool true)], args := [d1, d2] }
  | _ => none }
def slabRowsRow : OpenClaim := { program := "ytfjmnaobfbmllaa", sum := "74520540848b39e650e191ffd5f7e82c572e90510165443ea2535ba63909047e", func := "seneschal/seneschallaw03.SlabRows", spec := "slabRows", unfollowed := true, recurses := true, apart := false }
def SlabRowsSaid : Prop := slabRowsRow.holds Try.pinned (OpenSpec.ofChange slabRowsSpec)

/-- ITS FALSE NEIGHBOUR: 'it returns false'. Refute it at one input. -/
def slabRowsWrong : ChangeSpec := { name := "slabRows", fn := fun _ => fun
  | [d1, d2] => { results := [.lit (.bool false)], args := [d1, d2] }
  | _ => none }
def SlabRowsWrongFalsely : Prop := slabRowsRow.holds Try.pinned (OpenSpec.ofChange slabRowsWrong)

/-- 'seneschallaw04.EntryWrites': WHATEVER THE INPUT: true; the input reads as it did. -/
def entryWritesSpec : ChangeSpec := { name := "entryWrites", fn := fun _ => fun
  | [d] => { results := [.lit (.bool true)], args := [d] }
  | _ => none }
def entryWritesRow : OpenClaim := { program := "ytfjmnaobfbmllaa", sum := "74520540848b39e650e191ffd5f7e82c572e90510165443ea2535ba63909047e", func := "seneschal/seneschallaw04.EntryWrites", spec := "entryWrites", apart := false }
def EntryWritesSaid : Prop := entryWritesRow.holds Try.pinned (OpenSpec.ofChange entryWritesSpec)

/-- ITS FALSE NEIGHBOUR: 'it returns false'. Refute it at one input. -/
def entryWritesWrong : ChangeSpec := { name := "entryWrites", fn := fun _ => fun
  | [d] => { results := [.lit (.bool false)], args := [d] }
  | _ => none }
def EntryWritesWrongFalsely : Prop := entryWritesRow.holds Try.pinned (OpenSpec.ofChange entryWritesWrong)

/-- 'seneschallaw11.NoteFits': WHATEVER THE INPUT: true; the input reads as it did. -/
def noteFitsSpec : ChangeSpec := { name := "noteFits", fn := fun _ => fun
  | [d] => { results := [.lit (.bool true)], args := [d] }
  | _ => none }
def noteFitsRow : OpenClaim := { program := "ytfjmnaobfbmllaa", sum := "74520540848b39e650e191ffd5f7e82c572e90510165443ea2535ba63909047e", func := "seneschal/seneschallaw11.NoteFits", spec := "noteFits", unfollowed := true, recurses := true, apart := false }
def NoteFitsSaid : Prop := noteFitsRow.holds Try.pinned (OpenSpec.ofChange noteFitsSpec)

/-- ITS FALSE NEIGHBOUR: 'it returns false'. Refute it at one input. -/
def noteFitsWrong : ChangeSpec := { name := "noteFits", fn := fun _ => fun
  | [d] => { results := [.lit (.bool false)], args := [d] }
  | _ => none }
def NoteFitsWrongFalsely : Prop := noteFitsRow.holds Try.pinned (OpenSpec.ofChange noteFitsWrong)

/-- 'seneschallaw04.EntryReads': WHATEVER THE INPUT: true; the input reads as it did. -/
def entryReadsSpec : ChangeSpec := { name := "entryReads", fn := fun _ => fun
  | [d] => { results := [.lit (.bool true)], args := [d] }
  | _ => none }
def entryReadsRow : OpenClaim := { program := "ytfjmnaobfbmllaa", sum := "74520540848b39e650e191ffd5f7e82c572e90510165443ea2535ba63909047e", func := "seneschal/seneschallaw04.EntryReads", spec := "entryReads", apart := false }
def EntryReadsSaid : Prop := entryReadsRow.holds Try.pinned (OpenSpec.ofChange entryReadsSpec)

/-- ITS FALSE NEIGHBOUR: 'it returns false'. Refute it at one input. -/
def entryReadsWrong : ChangeSpec := { name := "entryReads", fn := fun _ => fun
  | [d] => { results := [.lit (.bool false)], args := [d] }
  | _ => none }
def EntryReadsWrongFalsely : Prop := entryReadsRow.holds Try.pinned (OpenSpec.ofChange entryReadsWrong)

/-- 'seneschallaw04.EntryBack': WHATEVER THE INPUT: true; the input reads as it did. -/
def entryBackSpec : ChangeSpec := { name := "entryBack", fn := fun _ => fun
  | [d1, d2, d3] => { results := [.lit (.bool true)], args := [d1, d2, d3] }
  | _ => none }
def entryBackRow : OpenClaim := { program := "ytfjmnaobfbmllaa", sum := "74520540848b39e650e191ffd5f7e82c572e90510165443ea2535ba63909047e", func := "seneschal/seneschallaw04.EntryBack", spec := "entryBack", apart := false }
def EntryBackSaid : Prop := entryBackRow.holds Try.pinned (OpenSpec.ofChange entryBackSpec)

/-- ITS FALSE NEIGHBOUR: 'it returns false'. Refute it at one input. -/
def entryBackWrong : ChangeSpec := { name := "entryBack", fn := fun _ => fun
  | [d1, d2, d3] => { results := [.lit (.bool false)], args := [d1, d2, d3] }
  | _ => none }
def EntryBackWrongFalsely : Prop := entryBackRow.holds Try.pinned (OpenSpec.ofChange entryBackWrong)

/-- 'seneschallaw04.EntryOne': WHATEVER THE INPUT: true; the input reads as it did. -/
def entryOneSpec : ChangeSpec := { name := "entryOne", fn := fun _ => fun
  | [d1, d2] => { results := [.lit (.bool true)], args := [d1, d2] }
  | _ => none }
def entryOneRow : OpenClaim := { program := "ytfjmnaobfbmllaa", sum := "74520540848b39e650e191ffd5f7e82c572e90510165443ea2535ba63909047e", func := "seneschal/seneschallaw04.EntryOne", spec := "entryOne", apart := false }
def EntryOneSaid : Prop := entryOneRow.holds Try.pinned (OpenSpec.ofChange entryOneSpec)

/-- ITS FALSE NEIGHBOUR: 'it returns false'. Refute it at one input. -/
def entryOneWrong : ChangeSpec := { name := "entryOne", fn := fun _ => fun
  | [d1, d2] => { results := [.lit (.bool false)], args := [d1, d2] }
  | _ => none }
def EntryOneWrongFalsely : Prop := entryOneRow.holds Try.pinned (OpenSpec.ofChange entryOneWrong)

/-- 'seneschallaw04.EntryCosts': WHATEVER THE INPUT: true; the input reads as it did. -/
def entryCostsSpec : ChangeSpec := { name := "entryCosts", fn := fun _ => fun
  | [d] => { results := [.lit (.bool true)], args := [d] }
  | _ => none }
def entryCostsRow : OpenClaim := { program := "ytfjmnaobfbmllaa", sum := "74520540848b39e650e191ffd5f7e82c572e90510165443ea2535ba63909047e", func := "seneschal/seneschallaw04.EntryCosts", spec := "entryCosts", apart := false }
def EntryCostsSaid : Prop := entryCostsRow.holds Try.pinned (OpenSpec.ofChange entryCostsSpec)

/-- ITS FALSE NEIGHBOUR: 'it returns false'. Refute it at one input. -/
def entryCostsWrong : ChangeSpec := { name := "entryCosts", fn := fun _ => fun
  | [d] => { results := [.lit (.bool false)], args := [d] }
  | _ => none }
def EntryCostsWrongFalsely : Prop := entryCostsRow.holds Try.pinned (OpenSpec.ofChange entryCostsWrong)

/-- 'seneschallaw04.EntryRow': WHATEVER THE INPUT: true; the input reads as it did. -/
def entryRowSpec : ChangeSpec := { name := "entryRow", fn := fun _ => fun
  | [d] => { results := [.lit (.bool true)], args := [d] }
  | _ => none }
def entryRowRow : OpenClaim := { program := "ytfjmnaobfbmllaa", sum := "74520540848b39e650e191ffd5f7e82c572e90510165443ea2535ba63909047e", func := "seneschal/seneschallaw04.EntryRow", spec := "entryRow", apart := false }
def EntryRowSaid : Prop := entryRowRow.holds Try.pinned (OpenSpec.ofChange entryRowSpec)

/-- ITS FALSE NEIGHBOUR: 'it returns false'. Refute it at one input. -/
def entryRowWrong : ChangeSpec := { name := "entryRow", fn := fun _ => fun
  | [d] => { results := [.lit (.bool false)], args := [d] }
  | _ => none }
def EntryRowWrongFalsely : Prop := entryRowRow.holds Try.pinned (OpenSpec.ofChange entryRowWrong)

/-- 'seneschallaw05.PatchDoes': WHATEVER THE INPUT: true; the input reads as it did. -/
def patchDoesSpec : ChangeSpec := { name := "patchDoes", fn := fun _ => fun
  | [d1, d2, d3] => { results := [.lit (.bool true)], args := [d1, d2, d3] }
  | _ => none }
def patchDoesRow : OpenClaim := { program := "ytfjmnaobfbmllaa", sum := "74520540848b39e650e191ffd5f7e82c572e90510165443ea2535ba63909047e", func := "seneschal/seneschallaw05.PatchDoes", spec := "patchDoes", unfollowed := true, recurses := true, apart := false }
def PatchDoesSaid : Prop := patchDoesRow.holds Try.pinned (OpenSpec.ofChange patchDoesSpec)

/-- ITS FALSE NEIGHBOUR: 'it returns false'. Refute it at one input. -/
def patchDoesWrong : ChangeSpec := { name := "patchDoes", fn := fun _ => fun
  | [d1, d2, d3] => { results := [.lit (.bool false)], args := [d1, d2, d3] }
  | _ => none }
def PatchDoesWrongFalsely : Prop := patchDoesRow.holds Try.pinned (OpenSpec.ofChange patchDoesWrong)

/-- 'seneschallaw05.PatchAll': WHATEVER THE INPUT: true; the input reads as it did. -/
def patchAllSpec : ChangeSpec := { name := "patchAll", fn := fun _ => fun
  | [d1, d2, d3] => { results := [.lit (.bool true)], args := [d1, d2, d3] }
  | _ => none }
def patchAllRow : OpenClaim := { program := "ytfjmnaobfbmllaa", sum := "74520540848b39e650e191ffd5f7e82c572e90510165443ea2535ba63909047e", func := "seneschal/seneschallaw05.PatchAll", spec := "patchAll", unfollowed := true, recurses := true, apart := false }
def PatchAllSaid : Prop := patchAllRow.holds Try.pinned (OpenSpec.ofChange patchAllSpec)

/-- ITS FALSE NEIGHBOUR: 'it returns false'. Refute it at one input. -/
def patchAllWrong : ChangeSpec := { name := "patchAll", fn := fun _ => fun
  | [d1, d2, d3] => { results := [.lit (.bool false)], args := [d1, d2, d3] }
  | _ => none }
def PatchAllWrongFalsely : Prop := patchAllRow.holds Try.pinned (OpenSpec.ofChange patchAllWrong)

/-- 'seneschallaw05.PatchOnce': WHATEVER THE INPUT: true; the input reads as it did. -/
def patchOnceSpec : ChangeSpec := { name := "patchOnce", fn := fun _ => fun
  | [d1, d2, d3] => { results := [.lit (.bool true)], args := [d1, d2, d3] }
  | _ => none }
def patchOnceRow : OpenClaim := { program := "ytfjmnaobfbmllaa", sum := "74520540848b39e650e191ffd5f7e82c572e90510165443ea2535ba63909047e", func := "seneschal/seneschallaw05.PatchOnce", spec := "patchOnce", unfollowed := true, recurses := true, apart := false }
def PatchOnceSaid : Prop := patchOnceRow.holds Try.pinned (OpenSpec.ofChange patchOnceSpec)

/-- ITS FALSE NEIGHBOUR: 'it returns false'. Refute it at one input. -/
def patchOnceWrong : ChangeSpec := { name := "patchOnce", fn := fun _ => fun
  | [d1, d2, d3] => { results := [.lit (.bool false)], args := [d1, d2, d3] }
  | _ => none }
def PatchOnceWrongFalsely : Prop := patchOnceRow.holds Try.pinned (OpenSpec.ofChange patchOnceWrong)

/-- 'seneschallaw05.PatchTurns': WHATEVER THE INPUT: true; the input reads as it did. -/
def patchTurnsSpec : ChangeSpec := { name := "patchTurns", fn := fun _ => fun
  | [d1, d2, d3] => { results := [.lit (.bool true)], args := [d1, d2, d3] }
  | _ => none }
def patchTurnsRow : OpenClaim := { program := "ytfjmnaobfbmllaa", sum := "74520540848b39e650e191ffd5f7e82c572e90510165443ea2535ba63909047e", func := "seneschal/seneschallaw05.PatchTurns", spec := "patchTurns", unfollowed := true, recurses := true, apart := false }
def PatchTurnsSaid : Prop := patchTurnsRow.holds Try.pinned (OpenSpec.ofChange patchTurnsSpec)

/-- ITS FALSE NEIGHBOUR: 'it returns false'. Refute it at one input. -/
def patchTurnsWrong : ChangeSpec := { name := "patchTurns", fn := fun _ => fun
  | [d1, d2, d3] => { results := [.lit (.bool false)], args := [d1, d2, d3] }
  | _ => none }
def PatchTurnsWrongFalsely : Prop := patchTurnsRow.holds Try.pinned (OpenSpec.ofChange patchTurnsWrong)

/-- 'seneschallaw05.PatchParts': WHATEVER THE INPUT: true; the input reads as it did. -/
def patchPartsSpec : ChangeSpec := { name := "patchParts", fn := fun _ => fun
  | [d1, d2, d3] => { results := [.lit (.bool true)], args := [d1, d2, d3] }
  | _ => none }
def patchPartsRow : OpenClaim := { program := "ytfjmnaobfbmllaa", sum := "74520540848b39e650e191ffd5f7e82c572e90510165443ea2535ba63909047e", func := "seneschal/seneschallaw05.PatchParts", spec := "patchParts", unfollowed := true, recurses := true, apart := false }
def PatchPartsSaid : Prop := patchPartsRow.holds Try.pinned (OpenSpec.ofChange patchPartsSpec)

/-- ITS FALSE NEIGHBOUR: 'it returns false'. Refute it at one input. -/
def patchPartsWrong : ChangeSpec := { name := "patchParts", fn := fun _ => fun
  | [d1, d2, d3] => { results := [.lit (.bool false)], args := [d1, d2, d3] }
  | _ => none }
def PatchPartsWrongFalsely : Prop := patchPartsRow.holds Try.pinned (OpenSpec.ofChange patchPartsWrong)

/-- 'seneschallaw05.PatchApart': WHATEVER THE INPUT: true; the input reads as it did. -/
def patchApartSpec : ChangeSpec := { name := "patchApart", fn := fun _ => fun
  | [d1, d2] => { results := [.lit (.bool true)], args := [d1, d2] }
  | _ => none }
def patchApartRow : OpenClaim := { program := "ytfjmnaobfbmllaa", sum := "74520540848b39e650e191ffd5f7e82c572e90510165443ea2535ba63909047e", func := "seneschal/seneschallaw05.PatchApart", spec := "patchApart", unfollowed := true, recurses := true, apart := false }
def PatchApartSaid : Prop := patchApartRow.holds Try.pinned (OpenSpec.ofChange patchApartSpec)

/-- ITS FALSE NEIGHBOUR: 'it returns false'. Refute it at one input. -/
def patchApartWrong : ChangeSpec := { name := "patchApart", fn := fun _ => fun
  | [d1, d2] => { results := [.lit (.bool false)], args := [d1, d2] }
  | _ => none }
def PatchApartWrongFalsely : Prop := patchApartRow.holds Try.pinned (OpenSpec.ofChange patchApartWrong)

/-- 'seneschallaw03.SlabReads': WHATEVER THE INPUT: true; the input reads as it did. -/
def slabReadsSpec : ChangeSpec := { name := "slabReads", fn := fun _ => fun
  | [d] => { results := [.lit (.bool true)], args := [d] }
  | _ => none }
def slabReadsRow : OpenClaim := { program := "ytfjmnaobfbmllaa", sum := "74520540848b39e650e191ffd5f7e82c572e90510165443ea2535ba63909047e", func := "seneschal/seneschallaw03.SlabReads", spec := "slabReads", unfollowed := true, recurses := true, apart := false }
def SlabReadsSaid : Prop := slabReadsRow.holds Try.pinned (OpenSpec.ofChange slabReadsSpec)

/-- ITS FALSE NEIGHBOUR: 'it returns false'. Refute it at one input. -/
def slabReadsWrong : ChangeSpec := { name := "slabReads", fn := fun _ => fun
  | [d] => { results := [.lit (.bool false)], args := [d] }
  | _ => none }
def SlabReadsWrongFalsely : Prop := slabReadsRow.holds Try.pinned (OpenSpec.ofChange slabReadsWrong)

/-- 'seneschallaw03.SlabBack': WHATEVER THE INPUT: true; the input reads as it did. -/
def slabBackSpec : ChangeSpec := { name := "slabBack", fn := fun _ => fun
  | [d1, d2, d3] => { results := [.lit (.bool true)], args := [d1, d2, d3] }
  | _ => none }
def slabBackRow : OpenClaim := { program := "ytfjmnaobfbmllaa", sum := "74520540848b39e650e191ffd5f7e82c572e90510165443ea2535ba63909047e", func := "seneschal/seneschallaw03.SlabBack", spec := "slabBack", unfollowed := true, recurses := true, apart := false }
def SlabBackSaid : Prop := slabBackRow.holds Try.pinned (OpenSpec.ofChange slabBackSpec)

/-- ITS FALSE NEIGHBOUR: 'it returns false'. Refute it at one input. -/
def slabBackWrong : ChangeSpec := { name := "slabBack", fn := fun _ => fun
  | [d1, d2, d3] => { results := [.lit (.bool false)], args := [d1, d2, d3] }
  | _ => none }
def SlabBackWrongFalsely : Prop := slabBackRow.holds Try.pinned (OpenSpec.ofChange slabBackWrong)

/-- 'seneschallaw11.NoteWrites': WHATEVER THE INPUT: true; the input reads as it did. -/
def noteWritesSpec : ChangeSpec := { name := "noteWrites", fn := fun _ => fun
  | [d] => { results := [.lit (.bool true)], args := [d] }
  | _ => none }
def noteWritesRow : OpenClaim := { program := "ytfjmnaobfbmllaa", sum := "74520540848b39e650e191ffd5f7e82c572e90510165443ea2535ba63909047e", func := "seneschal/seneschallaw11.NoteWrites", spec := "noteWrites", unfollowed := true, recurses := true, apart := false }
def NoteWritesSaid : Prop := noteWritesRow.holds Try.pinned (OpenSpec.ofChange noteWritesSpec)

/-- ITS FALSE NEIGHBOUR: 'it returns false'. Refute it at one input. -/
def noteWritesWrong : ChangeSpec := { name := "noteWrites", fn := fun _ => fun
  | [d] => { results := [.lit (.bool false)], args := [d] }
  | _ => none }
def NoteWritesWrongFalsely : Prop := noteWritesRow.holds Try.pinned (OpenSpec.ofChange noteWritesWrong)

/-- 'seneschallaw11.NoteReads': WHATEVER THE INPUT: true; the input reads as it did. -/
def noteReadsSpec : ChangeSpec := { name := "noteReads", fn := fun _ => fun
  | [d] => { results := [.lit (.bool true)], args := [d] }
  | _ => none }
def noteReadsRow : OpenClaim := { program := "ytfjmnaobfbmllaa", sum := "74520540848b39e650e191ffd5f7e82c572e90510165443ea2535ba63909047e", func := "seneschal/seneschallaw11.NoteReads", spec := "noteReads", unfollowed := true, recurses := true, apart := false }
def NoteReadsSaid : Prop := noteReadsRow.holds Try.pinned (OpenSpec.ofChange noteReadsSpec)

/-- ITS FALSE NEIGHBOUR: 'it returns false'. Refute it at one input. -/
def noteReadsWrong : ChangeSpec := { name := "noteReads", fn := fun _ => fun
  | [d] => { results := [.lit (.bool false)], args := [d] }
  | _ => none }
def NoteReadsWrongFalsely : Prop := noteReadsRow.holds Try.pinned (OpenSpec.ofChange noteReadsWrong)

/-- 'seneschallaw11.NoteBack': WHATEVER THE INPUT: true; the input reads as it did. -/
def noteBackSpec : ChangeSpec := { name := "noteBack", fn := fun _ => fun
  | [d1, d2, d3] => { results := [.lit (.bool true)], args := [d1, d2, d3] }
  | _ => none }
def noteBackRow : OpenClaim := { program := "ytfjmnaobfbmllaa", sum := "74520540848b39e650e191ffd5f7e82c572e90510165443ea2535ba63909047e", func := "seneschal/seneschallaw11.NoteBack", spec := "noteBack", unfollowed := true, recurses := true, apart := false }
def NoteBackSaid : Prop := noteBackRow.holds Try.pinned (OpenSpec.ofChange noteBackSpec)

/-- ITS FALSE NEIGHBOUR: 'it returns false'. Refute it at one input. -/
def noteBackWrong : ChangeSpec := { name := "noteBack", fn := fun _ => fun
  | [d1, d2, d3] => { results := [.lit (.bool false)], args := [d1, d2, d3] }
  | _ => none }
def NoteBackWrongFalsely : Prop := noteBackRow.holds Try.pinned (OpenSpec.ofChange noteBackWrong)

/-- 'seneschallaw11.NoteTells': WHATEVER THE INPUT: true; the input reads as it did. -/
def noteTellsSpec : ChangeSpec := { name := "noteTells", fn := fun _ => fun
  | [d1, d2, d3] => { results := [.lit (.bool true)], args := [d1, d2, d3] }
  | _ => none }
def noteTellsRow : OpenClaim := { program := "ytfjmnaobfbmllaa", sum := "74520540848b39e650e191ffd5f7e82c572e90510165443ea2535ba63909047e", func := "seneschal/seneschallaw11.NoteTells", spec := "noteTells", unfollowed := true, recurses := true, apart := false }
def NoteTellsSaid : Prop := noteTellsRow.holds Try.pinned (OpenSpec.ofChange noteTellsSpec)

/-- ITS FALSE NEIGHBOUR: 'it returns false'. Refute it at one input. -/
def noteTellsWrong : ChangeSpec := { name := "noteTells", fn := fun _ => fun
  | [d1, d2, d3] => { results := [.lit (.bool false)], args := [d1, d2, d3] }
  | _ => none }
def NoteTellsWrongFalsely : Prop := noteTellsRow.holds Try.pinned (OpenSpec.ofChange noteTellsWrong)

/- THE SECOND FORM. 'bulk': how many values and letters a reading holds, each counted each time it is reached (what is shared counts as often as it is met; a slice's spare places count too). A statement '..UptoSaid' is the law's where the arguments, and the package variables that the reading takes, are together of bulk at most 1048576: NARROWER than '..Said'. Prove '..Said' where nothing that the law and all that it calls make is longer than what came in: it says more and counts as full. Else prove '..UptoSaid'. A law counts once. -/
mutual
def uptoBulk {H : Type} : DataW H → Nat
  | .lit (.string bytes) => bytes.length + 1
  | .lit _ => 1
  | .nil => 1
  | .ptr d => uptoBulk d + 1
  | .slice elems spare => uptoBulkAll elems + uptoBulkAll spare + 1
  | .agg parts => uptoBulkAll parts + 1
  | .iface _ d => uptoBulk d + 1
  | .map entries => uptoBulkEntries entries + 1
  | .held _ => 1
def uptoBulkAll {H : Type} : List (DataW H) → Nat
  | [] => 0
  | d :: r => uptoBulk d + uptoBulkAll r
def uptoBulkEntries {H : Type} : List (Lit × DataW H) → Nat
  | [] => 0
  | x :: r => uptoBulkEntry x + uptoBulkEntries r
def uptoBulkEntry {H : Type} : Lit × DataW H → Nat
  | (.string bytes, d) => bytes.length + uptoBulk d + 1
  | (_, d) => uptoBulk d + 1
 end
def uptoSmall : (H : Type) → List (DataW H) → Bool := fun _ ds => decide (uptoBulkAll ds ≤ 1048576)
def OpenSpec.upto (s : _root_.Go.ChangeSpec) : _root_.Go.OpenSpec := { _root_.Go.OpenSpec.ofChange s with cond := some uptoSmall }

/-- 'seneschallaw03.SlabWrites', WHERE WHAT IT READS IS OF BULK AT MOST 1048576: true; the input reads as it did. -/
def slabWritesUptoRow : OpenClaim := { program := "ytfjmnaobfbmllaa", sum := "74520540848b39e650e191ffd5f7e82c572e90510165443ea2535ba63909047e", func := "seneschal/seneschallaw03.SlabWrites", spec := "slabWrites", unfollowed := true, recurses := true, apart := false, narrowed := true }
def SlabWritesUptoSaid : Prop := slabWritesUptoRow.holds Try.pinned (OpenSpec.upto slabWritesSpec)

/-- 'seneschallaw03.SlabFits', WHERE WHAT IT READS IS OF BULK AT MOST 1048576: true; the input reads as it did. -/
def slabFitsUptoRow : OpenClaim := { program := "ytfjmnaobfbmllaa", sum := "74520540848b39e650e191ffd5f7e82c572e90510165443ea2535ba63909047e", func := "seneschal/seneschallaw03.SlabFits", spec := "slabFits", unfollowed := true, recurses := true, apart := false, narrowed := true }
def SlabFitsUptoSaid : Prop := slabFitsUptoRow.holds Try.pinned (OpenSpec.upto slabFitsSpec)

/-- 'seneschallaw03.SlabPuts', WHERE WHAT IT READS IS OF BULK AT MOST 1048576: true; the input reads as it did. -/
def slabPutsUptoRow : OpenClaim := { program := "ytfjmnaobfbmllaa", sum := "74520540848b39e650e191ffd5f7e82c572e90510165443ea2535ba63909047e", func := "seneschal/seneschallaw03.SlabPuts", spec := "slabPuts", unfollowed := true, recurses := true, apart := false, narrowed := true }
def SlabPutsUptoSaid : Prop := slabPutsUptoRow.holds Try.pinned (OpenSpec.upto slabPutsSpec)

/-- 'seneschallaw03.SlabKeeps', WHERE WHAT IT READS IS OF BULK AT MOST 1048576: true; the input reads as it did. -/
def slabKeepsUptoRow : OpenClaim := { program := "ytfjmnaobfbmllaa", sum := "74520540848b39e650e191ffd5f7e82c572e90510165443ea2535ba63909047e", func := "seneschal/seneschallaw03.SlabKeeps", spec := "slabKeeps", unfollowed := true, recurses := true, apart := false, narrowed := true }
def SlabKeepsUptoSaid : Prop := slabKeepsUptoRow.holds Try.pinned (OpenSpec.upto slabKeepsSpec)

/-- 'seneschallaw03.SlabVacant', WHERE WHAT IT READS IS OF BULK AT MOST 1048576: true; the input reads as it did. -/
def slabVacantUptoRow : OpenClaim := { program := "ytfjmnaobfbmllaa", sum := "74520540848b39e650e191ffd5f7e82c572e90510165443ea2535ba63909047e", func := "seneschal/seneschallaw03.SlabVacant", spec := "slabVacant", unfollowed := true, recurses := true, apart := false, narrowed := true }
def SlabVacantUptoSaid : Prop := slabVacantUptoRow.holds Try.pinned (OpenSpec.upto slabVacantSpec)

/-- 'seneschallaw03.SlabMap', WHERE WHAT IT READS IS OF BULK AT MOST 1048576: true; the input reads as it did. -/
def slabMapUptoRow : OpenClaim := { program := "ytfjmnaobfbmllaa", sum := "74520540848b39e650e191ffd5f7e82c572e90510165443ea2535ba63909047e", func := "seneschal/seneschallaw03.SlabMap", spec := "slabMap", unfollowed := true, recurses := true, apart := false, narrowed := true }
def SlabMapUptoSaid : Prop := slabMapUptoRow.holds Try.pinned (OpenSpec.upto slabMapSpec)

/-- 'seneschallaw11.NoteForms', WHERE WHAT IT READS IS OF BULK AT MOST 1048576: true; the input reads as it did. -/
def noteFormsUptoRow : OpenClaim := { program := "ytfjmnaobfbmllaa", sum := "74520540848b39e650e191ffd5f7e82c572e90510165443ea2535ba63909047e", func := "seneschal/seneschallaw11.NoteForms", spec := "noteForms", unfollowed := true, recurses := true, apart := false, narrowed := true }
def NoteFormsUptoSaid : Prop := noteFormsUptoRow.holds Try.pinned (OpenSpec.upto noteFormsSpec)

/-- 'seneschallaw03.SlabRows', WHERE WHAT IT READS IS OF BULK AT MOST 1048576: true; the input reads as it did. -/
def slabRowsUptoRow : OpenClaim := { program := "ytfjmnaobfbmllaa", sum := "74520540848b39e650e191ffd5f7e82c572e90510165443ea2535ba63909047e", func := "seneschal/seneschallaw03.SlabRows", spec := "slabRows", unfollowed := true, recurses := true, apart := false, narrowed := true }
def SlabRowsUptoSaid : Prop := slabRowsUptoRow.holds Try.pinned (OpenSpec.upto slabRowsSpec)

/-- 'seneschallaw04.EntryWrites', WHERE WHAT IT READS IS OF BULK AT MOST 1048576: true; the input reads as it did. -/
def entryWritesUptoRow : OpenClaim := { program := "ytfjmnaobfbmllaa", sum := "74520540848b39e650e191ffd5f7e82c572e90510165443ea2535ba63909047e", func := "seneschal/seneschallaw04.EntryWrites", spec := "entryWrites", apart := false, narrowed := true }
def EntryWritesUptoSaid : Prop := entryWritesUptoRow.holds Try.pinned (OpenSpec.upto entryWritesSpec)

/-- 'seneschallaw11.NoteFits', WHERE WHAT IT READS IS OF BULK AT MOST 1048576: true; the input reads as it did. -/
def noteFitsUptoRow : OpenClaim := { program := "ytfjmnaobfbmllaa", sum := "74520540848b39e650e191ffd5f7e82c572e90510165443ea2535ba63909047e", func := "seneschal/seneschallaw11.NoteFits", spec := "noteFits", unfollowed := true, recurses := true, apart := false, narrowed := true }
def NoteFitsUptoSaid : Prop := noteFitsUptoRow.holds Try.pinned (OpenSpec.upto noteFitsSpec)

/-- 'seneschallaw04.EntryReads', WHERE WHAT IT READS IS OF BULK AT MOST 1048576: true; the input reads as it did. -/
def entryReadsUptoRow : OpenClaim := { program := "ytfjmnaobfbmllaa", sum := "74520540848b39e650e191ffd5f7e82c572e90510165443ea2535ba63909047e", func := "seneschal/seneschallaw04.EntryReads", spec := "entryReads", apart := false, narrowed := true }
def EntryReadsUptoSaid : Prop := entryReadsUptoRow.holds Try.pinned (OpenSpec.upto entryReadsSpec)

/-- 'seneschallaw04.EntryBack', WHERE WHAT IT READS IS OF BULK AT MOST 1048576: true; the input reads as it did. -/
def entryBackUptoRow : OpenClaim := { program := "ytfjmnaobfbmllaa", sum := "74520540848b39e650e191ffd5f7e82c572e90510165443ea2535ba63909047e", func := "seneschal/seneschallaw04.EntryBack", spec := "entryBack", apart := false, narrowed := true }
def EntryBackUptoSaid : Prop := entryBackUptoRow.holds Try.pinned (OpenSpec.upto entryBackSpec)

/-- 'seneschallaw04.EntryOne', WHERE WHAT IT READS IS OF BULK AT MOST 1048576: true; the input reads as it did. -/
def entryOneUptoRow : OpenClaim := { program := "ytfjmnaobfbmllaa", sum := "74520540848b39e650e191ffd5f7e82c572e90510165443ea2535ba63909047e", func := "seneschal/seneschallaw04.EntryOne", spec := "entryOne", apart := false, narrowed := true }
def EntryOneUptoSaid : Prop := entryOneUptoRow.holds Try.pinned (OpenSpec.upto entryOneSpec)

/-- 'seneschallaw04.EntryCosts', WHERE WHAT IT READS IS OF BULK AT MOST 1048576: true; the input reads as it did. -/
def entryCostsUptoRow : OpenClaim := { program := "ytfjmnaobfbmllaa", sum := "74520540848b39e650e191ffd5f7e82c572e90510165443ea2535ba63909047e", func := "seneschal/seneschallaw04.EntryCosts", spec := "entryCosts", apart := false, narrowed := true }
def EntryCostsUptoSaid : Prop := entryCostsUptoRow.holds Try.pinned (OpenSpec.upto entryCostsSpec)

/-- 'seneschallaw04.EntryRow', WHERE WHAT IT READS IS OF BULK AT MOST 1048576: true; the input reads as it did. -/
def entryRowUptoRow : OpenClaim := { program := "ytfjmnaobfbmllaa", sum := "74520540848b39e650e191ffd5f7e82c572e90510165443ea2535ba63909047e", func := "seneschal/seneschallaw04.EntryRow", spec := "entryRow", apart := false, narrowed := true }
def EntryRowUptoSaid : Prop := entryRowUptoRow.holds Try.pinned (OpenSpec.upto entryRowSpec)

/-- 'seneschallaw05.PatchDoes', WHERE WHAT IT READS IS OF BULK AT MOST 1048576: true; the input reads as it did. -/
def patchDoesUptoRow : OpenClaim := { program := "ytfjmnaobfbmllaa", sum := "74520540848b39e650e191ffd5f7e82c572e90510165443ea2535ba63909047e", func := "seneschal/seneschallaw05.PatchDoes", spec := "patchDoes", unfollowed := true, recurses := true, apart := false, narrowed := true }
def PatchDoesUptoSaid : Prop := patchDoesUptoRow.holds Try.pinned (OpenSpec.upto patchDoesSpec)

/-- 'seneschallaw05.PatchAll', WHERE WHAT IT READS IS OF BULK AT MOST 1048576: true; the input reads as it did. -/
def patchAllUptoRow : OpenClaim := { program := "ytfjmnaobfbmllaa", sum := "74520540848b39e650e191ffd5f7e82c572e90510165443ea2535ba63909047e", func := "seneschal/seneschallaw05.PatchAll", spec := "patchAll", unfollowed := true, recurses := true, apart := false, narrowed := true }
def PatchAllUptoSaid : Prop := patchAllUptoRow.holds Try.pinned (OpenSpec.upto patchAllSpec)

/-- 'seneschallaw05.PatchOnce', WHERE WHAT IT READS IS OF BULK AT MOST 1048576: true; the input reads as it did. -/
def patchOnceUptoRow : OpenClaim := { program := "ytfjmnaobfbmllaa", sum := "74520540848b39e650e191ffd5f7e82c572e90510165443ea2535ba63909047e", func := "seneschal/seneschallaw05.PatchOnce", spec := "patchOnce", unfollowed := true, recurses := true, apart := false, narrowed := true }
def PatchOnceUptoSaid : Prop := patchOnceUptoRow.holds Try.pinned (OpenSpec.upto patchOnceSpec)

/-- 'seneschallaw05.PatchTurns', WHERE WHAT IT READS IS OF BULK AT MOST 1048576: true; the input reads as it did. -/
def patchTurnsUptoRow : OpenClaim := { program := "ytfjmnaobfbmllaa", sum := "74520540848b39e650e191ffd5f7e82c572e90510165443ea2535ba63909047e", func := "seneschal/seneschallaw05.PatchTurns", spec := "patchTurns", unfollowed := true, recurses := true, apart := false, narrowed := true }
def PatchTurnsUptoSaid : Prop := patchTurnsUptoRow.holds Try.pinned (OpenSpec.upto patchTurnsSpec)

/-- 'seneschallaw05.PatchParts', WHERE WHAT IT READS IS OF BULK AT MOST 1048576: true; the input reads as it did. -/
def patchPartsUptoRow : OpenClaim := { program := "ytfjmnaobfbmllaa", sum := "74520540848b39e650e191ffd5f7e82c572e90510165443ea2535ba63909047e", func := "seneschal/seneschallaw05.PatchParts", spec := "patchParts", unfollowed := true, recurses := true, apart := false, narrowed := true }
def PatchPartsUptoSaid : Prop := patchPartsUptoRow.holds Try.pinned (OpenSpec.upto patchPartsSpec)

/-- 'seneschallaw05.PatchApart', WHERE WHAT IT READS IS OF BULK AT MOST 1048576: true; the input reads as it did. -/
def patchApartUptoRow : OpenClaim := { program := "ytfjmnaobfbmllaa", sum := "74520540848b39e650e191ffd5f7e82c572e90510165443ea2535ba63909047e", func := "seneschal/seneschallaw05.PatchApart", spec := "patchApart", unfollowed := true, recurses := true, apart := false, narrowed := true }
def PatchApartUptoSaid : Prop := patchApartUptoRow.holds Try.pinned (OpenSpec.upto patchApartSpec)

/-- 'seneschallaw03.SlabReads', WHERE WHAT IT READS IS OF BULK AT MOST 1048576: true; the input reads as it did. -/
def slabReadsUptoRow : OpenClaim := { program := "ytfjmnaobfbmllaa", sum := "74520540848b39e650e191ffd5f7e82c572e90510165443ea2535ba63909047e", func := "seneschal/seneschallaw03.SlabReads", spec := "slabReads", unfollowed := true, recurses := true, apart := false, narrowed := true }
def SlabReadsUptoSaid : Prop := slabReadsUptoRow.holds Try.pinned (OpenSpec.upto slabReadsSpec)

/-- 'seneschallaw03.SlabBack', WHERE WHAT IT READS IS OF BULK AT MOST 1048576: true; the input reads as it did. -/
def slabBackUptoRow : OpenClaim := { program := "ytfjmnaobfbmllaa", sum := "74520540848b39e650e191ffd5f7e82c572e90510165443ea2535ba63909047e", func := "seneschal/seneschallaw03.SlabBack", spec := "slabBack", unfollowed := true, recurses := true, apart := false, narrowed := true }
def SlabBackUptoSaid : Prop := slabBackUptoRow.holds Try.pinned (OpenSpec.upto slabBackSpec)

/-- 'seneschallaw11.NoteWrites', WHERE WHAT IT READS IS OF BULK AT MOST 1048576: true; the input reads as it did. -/
def noteWritesUptoRow : OpenClaim := { program := "ytfjmnaobfbmllaa", sum := "74520540848b39e650e191ffd5f7e82c572e90510165443ea2535ba63909047e", func := "seneschal/seneschallaw11.NoteWrites", spec := "noteWrites", unfollowed := true, recurses := true, apart := false, narrowed := true }
def NoteWritesUptoSaid : Prop := noteWritesUptoRow.holds Try.pinned (OpenSpec.upto noteWritesSpec)

/-- 'seneschallaw11.NoteReads', WHERE WHAT IT READS IS OF BULK AT MOST 1048576: true; the input reads as it did. -/
def noteReadsUptoRow : OpenClaim := { program := "ytfjmnaobfbmllaa", sum := "74520540848b39e650e191ffd5f7e82c572e90510165443ea2535ba63909047e", func := "seneschal/seneschallaw11.NoteReads", spec := "noteReads", unfollowed := true, recurses := true, apart := false, narrowed := true }
def NoteReadsUptoSaid : Prop := noteReadsUptoRow.holds Try.pinned (OpenSpec.upto noteReadsSpec)

/-- 'seneschallaw11.NoteBack', WHERE WHAT IT READS IS OF BULK AT MOST 1048576: true; the input reads as it did. -/
def noteBackUptoRow : OpenClaim := { program := "ytfjmnaobfbmllaa", sum := "74520540848b39e650e191ffd5f7e82c572e90510165443ea2535ba63909047e", func := "seneschal/seneschallaw11.NoteBack", spec := "noteBack", unfollowed := true, recurses := true, apart := false, narrowed := true }
def NoteBackUptoSaid : Prop := noteBackUptoRow.holds Try.pinned (OpenSpec.upto noteBackSpec)

/-- 'seneschallaw11.NoteTells', WHERE WHAT IT READS IS OF BULK AT MOST 1048576: true; the input reads as it did. -/
def noteTellsUptoRow : OpenClaim := { program := "ytfjmnaobfbmllaa", sum := "74520540848b39e650e191ffd5f7e82c572e90510165443ea2535ba63909047e", func := "seneschal/seneschallaw11.NoteTells", spec := "noteTells", unfollowed := true, recurses := true, apart := false, narrowed := true }
def NoteTellsUptoSaid : Prop := noteTellsUptoRow.holds Try.pinned (OpenSpec.upto noteTellsSpec)

end Rows
end Go.Proofs.Ytfjmnaobfbmllaa
