/-
  DERIVED. GIVEN WITH THE SEED: THE CARDS: each row of YtcnckmkbidklgaaGreatDoorRows.lean that lists a variable, with what it lists TIED to the program's text (the seventh form; the later family's looks); each row that meets fmt, with fmt's text TOLD by the authors' own Lean function (tested against real Go, not proved from fmt's source: count such statements apart). THE CARD IS WHAT COUNTS. Prove the row's statement (the work); the ties are given (YtcnckmkbidklgaaGreatDoorTie.lean); close each card by the builder's one call (the guide's Derived/Test/ToyasCard.lean, 'card_holds'). Laid BY PROGRAM, IN A SANDBOX (cutbox-door.mjs). By AI agents, Wed Nov 11 2026. No macro, syntax, notation, axiom, sorry.
-/
import Derived.Test.YtcnckmkbidklgaaGreatDoorRows
import GoSem.ClaimSeven
namespace Go.Proofs.YtcnckmkbidklgaaGreatDoor
namespace Rows

/-- THE TIED CARD OF 'morainelaw25.LimitObjs'. -/
def limitObjsCard : Claim7 := { stood := { row := limitObjsRow, standIns := [], harness := (true, "3007a75dd3082347e5cdf8eea6a2bcf59a499f3ecc5868d701c04def61608f04"), looks := true }, kinds := [], alts := [], laidByText := true, laidKinds := [.data, .data, .data, .data, .handle, .sentinel, .sentinel, .sentinel, .sentinel, .pinned], laidTests := true, laidLooks := .later }
def LimitObjsCardSaid : Prop := Claim7.holds Tryz.pinned (.plain (OpenSpec.ofChange limitObjsSpec)) limitObjsCard

/-- THE TIED CARD OF 'morainelaw25.LimitRoots'. -/
def limitRootsCard : Claim7 := { stood := { row := limitRootsRow, standIns := [], harness := (true, "3007a75dd3082347e5cdf8eea6a2bcf59a499f3ecc5868d701c04def61608f04"), looks := true }, kinds := [], alts := [], laidByText := true, laidKinds := [.data, .data, .data, .data, .handle, .sentinel, .sentinel, .sentinel, .sentinel, .pinned], laidTests := true, laidLooks := .later }
def LimitRootsCardSaid : Prop := Claim7.holds Tryz.pinned (.plain (OpenSpec.ofChange limitRootsSpec)) limitRootsCard

/-- THE TIED CARD OF 'morainelaw25.LimitSnaps'. -/
def limitSnapsCard : Claim7 := { stood := { row := limitSnapsRow, standIns := [], harness := (true, "3007a75dd3082347e5cdf8eea6a2bcf59a499f3ecc5868d701c04def61608f04"), looks := true }, kinds := [], alts := [], laidByText := true, laidKinds := [.data, .data, .data, .data, .handle, .sentinel, .sentinel, .sentinel, .sentinel, .pinned], laidTests := true, laidLooks := .later }
def LimitSnapsCardSaid : Prop := Claim7.holds Tryz.pinned (.plain (OpenSpec.ofChange limitSnapsSpec)) limitSnapsCard

/-- THE SECOND FORM's CARD OF 'morainelaw25.LimitObjs'. -/
def limitObjsUptoCard : Claim7 := { stood := { row := limitObjsUptoRow, standIns := [], harness := (true, "3007a75dd3082347e5cdf8eea6a2bcf59a499f3ecc5868d701c04def61608f04"), looks := true }, kinds := [], alts := [], laidByText := true, laidKinds := [.data, .data, .data, .data, .handle, .sentinel, .sentinel, .sentinel, .sentinel, .pinned], laidTests := true, laidLooks := .later }
def LimitObjsUptoCardSaid : Prop := Claim7.holds Tryz.pinned (.plain (OpenSpec.upto limitObjsSpec)) limitObjsUptoCard

/-- THE SECOND FORM's CARD OF 'morainelaw25.LimitRoots'. -/
def limitRootsUptoCard : Claim7 := { stood := { row := limitRootsUptoRow, standIns := [], harness := (true, "3007a75dd3082347e5cdf8eea6a2bcf59a499f3ecc5868d701c04def61608f04"), looks := true }, kinds := [], alts := [], laidByText := true, laidKinds := [.data, .data, .data, .data, .handle, .sentinel, .sentinel, .sentinel, .sentinel, .pinned], laidTests := true, laidLooks := .later }
def LimitRootsUptoCardSaid : Prop := Claim7.holds Tryz.pinned (.plain (OpenSpec.upto limitRootsSpec)) limitRootsUptoCard

/-- THE SECOND FORM's CARD OF 'morainelaw25.LimitSnaps'. -/
def limitSnapsUptoCard : Claim7 := { stood := { row := limitSnapsUptoRow, standIns := [], harness := (true, "3007a75dd3082347e5cdf8eea6a2bcf59a499f3ecc5868d701c04def61608f04"), looks := true }, kinds := [], alts := [], laidByText := true, laidKinds := [.data, .data, .data, .data, .handle, .sentinel, .sentinel, .sentinel, .sentinel, .pinned], laidTests := true, laidLooks := .later }
def LimitSnapsUptoCardSaid : Prop := Claim7.holds Tryz.pinned (.plain (OpenSpec.upto limitSnapsSpec)) limitSnapsUptoCard
end Rows
end Go.Proofs.YtcnckmkbidklgaaGreatDoor
