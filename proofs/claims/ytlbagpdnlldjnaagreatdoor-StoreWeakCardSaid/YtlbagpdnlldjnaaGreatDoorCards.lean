/-
  DERIVED. GIVEN WITH THE SEED: THE CARDS: each row of YtlbagpdnlldjnaaGreatDoorRows.lean that lists a variable, with what it lists TIED to the program's text (the seventh form; the later family's looks); each row that meets fmt, with fmt's text TOLD by the authors' own Lean function (tested against real Go, not proved from fmt's source: count such statements apart). THE CARD IS WHAT COUNTS. Prove the row's statement (the work); the ties are given (YtlbagpdnlldjnaaGreatDoorTie.lean); close each card by the builder's one call (the guide's Derived/Test/ToyasCard.lean, 'card_holds'). Laid BY PROGRAM, IN A SANDBOX (cutbox-door.mjs). By AI agents, Wed Nov 11 2026. No macro, syntax, notation, axiom, sorry.
-/
import Derived.Test.YtlbagpdnlldjnaaGreatDoorRows
import GoSem.ClaimSeven
namespace Go.Proofs.YtlbagpdnlldjnaaGreatDoor
namespace Rows

/-- THE TIED CARD OF 'morainelaw26.StoreWeak'. -/
def storeWeakCard : Claim7 := { stood := { row := storeWeakRow, standIns := [], harness := (true, "0eb0d8951d5e4f77cb90a65f53e8cab719c43e473ed82275ba4ab33610292169"), looks := true }, kinds := [], alts := [], laidByText := true, laidKinds := [.handle, .sentinel, .sentinel, .data, .data, .data, .pinned, .data, .sentinel, .sentinel], laidTests := true, laidLooks := .later }
def StoreWeakCardSaid : Prop := Claim7.holds Tryz.pinned (.plain (OpenSpec.ofChange storeWeakSpec)) storeWeakCard

/-- THE SECOND FORM's CARD OF 'morainelaw26.StoreWeak'. -/
def storeWeakUptoCard : Claim7 := { stood := { row := storeWeakUptoRow, standIns := [], harness := (true, "0eb0d8951d5e4f77cb90a65f53e8cab719c43e473ed82275ba4ab33610292169"), looks := true }, kinds := [], alts := [], laidByText := true, laidKinds := [.handle, .sentinel, .sentinel, .data, .data, .data, .pinned, .data, .sentinel, .sentinel], laidTests := true, laidLooks := .later }
def StoreWeakUptoCardSaid : Prop := Claim7.holds Tryz.pinned (.plain (OpenSpec.upto storeWeakSpec)) storeWeakUptoCard
end Rows
end Go.Proofs.YtlbagpdnlldjnaaGreatDoor
