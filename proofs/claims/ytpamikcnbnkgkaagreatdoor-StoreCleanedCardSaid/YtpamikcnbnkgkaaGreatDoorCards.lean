/-
  DERIVED. GIVEN WITH THE SEED: THE CARDS: each row of YtpamikcnbnkgkaaGreatDoorRows.lean that lists a variable, with what it lists TIED to the program's text (the seventh form; the later family's looks); each row that meets fmt, with fmt's text TOLD by the authors' own Lean function (tested against real Go, not proved from fmt's source: count such statements apart). THE CARD IS WHAT COUNTS. Prove the row's statement (the work); the ties are given (YtpamikcnbnkgkaaGreatDoorTie.lean); close each card by the builder's one call (the guide's Derived/Test/ToyasCard.lean, 'card_holds'). Laid BY PROGRAM, IN A SANDBOX (cutbox-door.mjs). By AI agents, Wed Nov 11 2026. No macro, syntax, notation, axiom, sorry.
-/
import Derived.Test.YtpamikcnbnkgkaaGreatDoorRows
import GoSem.ClaimSeven
namespace Go.Proofs.YtpamikcnbnkgkaaGreatDoor
namespace Rows

/-- THE TIED CARD OF 'morainelaw26.StoreCleaned'. -/
def storeCleanedCard : Claim7 := { stood := { row := storeCleanedRow, standIns := [], harness := (true, "1676de9981eace8e4a7ffed57acbdad9f0c54d2ef7c26278139e4a21115114a1"), looks := true }, kinds := [], alts := [], laidByText := true, laidKinds := [.handle, .sentinel, .sentinel, .data, .data, .data, .pinned, .data, .sentinel, .sentinel], laidTests := true, laidLooks := .later }
def StoreCleanedCardSaid : Prop := Claim7.holds Tryz.pinned (.plain (OpenSpec.ofChange storeCleanedSpec)) storeCleanedCard

/-- THE SECOND FORM's CARD OF 'morainelaw26.StoreCleaned'. -/
def storeCleanedUptoCard : Claim7 := { stood := { row := storeCleanedUptoRow, standIns := [], harness := (true, "1676de9981eace8e4a7ffed57acbdad9f0c54d2ef7c26278139e4a21115114a1"), looks := true }, kinds := [], alts := [], laidByText := true, laidKinds := [.handle, .sentinel, .sentinel, .data, .data, .data, .pinned, .data, .sentinel, .sentinel], laidTests := true, laidLooks := .later }
def StoreCleanedUptoCardSaid : Prop := Claim7.holds Tryz.pinned (.plain (OpenSpec.upto storeCleanedSpec)) storeCleanedUptoCard
end Rows
end Go.Proofs.YtpamikcnbnkgkaaGreatDoor
