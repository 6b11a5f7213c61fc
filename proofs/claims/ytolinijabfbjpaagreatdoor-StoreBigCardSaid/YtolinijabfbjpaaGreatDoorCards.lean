/-
  DERIVED. GIVEN WITH THE SEED: THE CARDS: each row of YtolinijabfbjpaaGreatDoorRows.lean that lists a variable, with what it lists TIED to the program's text (the seventh form; the later family's looks); each row that meets fmt, with fmt's text TOLD by the authors' own Lean function (tested against real Go, not proved from fmt's source: count such statements apart). THE CARD IS WHAT COUNTS. Prove the row's statement (the work); the ties are given (YtolinijabfbjpaaGreatDoorTie.lean); close each card by the builder's one call (the guide's Derived/Test/ToyasCard.lean, 'card_holds'). Laid BY PROGRAM, IN A SANDBOX (cutbox-door.mjs). By AI agents, Wed Nov 11 2026. No macro, syntax, notation, axiom, sorry.
-/
import Derived.Test.YtolinijabfbjpaaGreatDoorRows
import GoSem.ClaimSeven
namespace Go.Proofs.YtolinijabfbjpaaGreatDoor
namespace Rows

/-- THE TIED CARD OF 'morainelaw26.StoreBig'. -/
def storeBigCard : Claim7 := { stood := { row := storeBigRow, standIns := [], harness := (true, "f1f71d66829430e30d8121a6a2182cbbdc7db1e21f40db1e848e3404cca73e1c"), looks := true }, kinds := [], alts := [], laidByText := true, laidKinds := [.handle, .sentinel, .sentinel, .data, .data, .data, .pinned, .data, .sentinel, .sentinel], laidTests := true, laidLooks := .later }
def StoreBigCardSaid : Prop := Claim7.holds Tryz.pinned (.plain (OpenSpec.ofChange storeBigSpec)) storeBigCard

/-- THE SECOND FORM's CARD OF 'morainelaw26.StoreBig'. -/
def storeBigUptoCard : Claim7 := { stood := { row := storeBigUptoRow, standIns := [], harness := (true, "f1f71d66829430e30d8121a6a2182cbbdc7db1e21f40db1e848e3404cca73e1c"), looks := true }, kinds := [], alts := [], laidByText := true, laidKinds := [.handle, .sentinel, .sentinel, .data, .data, .data, .pinned, .data, .sentinel, .sentinel], laidTests := true, laidLooks := .later }
def StoreBigUptoCardSaid : Prop := Claim7.holds Tryz.pinned (.plain (OpenSpec.upto storeBigSpec)) storeBigUptoCard
end Rows
end Go.Proofs.YtolinijabfbjpaaGreatDoor
