/-
  DERIVED. GIVEN WITH THE SEED: THE CARDS: each row of YtnpajahfimaakaaGreatDoorRows.lean that lists a variable, with what it lists TIED to the program's text (the seventh form; the later family's looks); each row that meets fmt, with fmt's text TOLD by the authors' own Lean function (tested against real Go, not proved from fmt's source: count such statements apart). THE CARD IS WHAT COUNTS. Prove the row's statement (the work); the ties are given (YtnpajahfimaakaaGreatDoorTie.lean); close each card by the builder's one call (the guide's Derived/Test/ToyasCard.lean, 'card_holds'). Laid BY PROGRAM, IN A SANDBOX (cutbox-door.mjs). By AI agents, Wed Nov 11 2026. No macro, syntax, notation, axiom, sorry.
-/
import Derived.Test.YtnpajahfimaakaaGreatDoorRows
import GoSem.ClaimSeven
namespace Go.Proofs.YtnpajahfimaakaaGreatDoor
namespace Rows

/-- THE TIED CARD OF 'morainelaw25.LimitFits'. -/
def limitFitsCard : Claim7 := { stood := { row := limitFitsRow, standIns := [], harness := (true, "5fc78bae74013f9597588cf4d2a03117a5d97c4461908fdccdd6274ed4ebeab1"), looks := true }, kinds := [], alts := [], laidByText := true, laidKinds := [.data, .data, .data, .data, .handle, .sentinel, .sentinel, .sentinel, .sentinel, .pinned], laidTests := true, laidLooks := .later }
def LimitFitsCardSaid : Prop := Claim7.holds Tryz.pinned (.plain (OpenSpec.ofChange limitFitsSpec)) limitFitsCard

/-- THE SECOND FORM's CARD OF 'morainelaw25.LimitFits'. -/
def limitFitsUptoCard : Claim7 := { stood := { row := limitFitsUptoRow, standIns := [], harness := (true, "5fc78bae74013f9597588cf4d2a03117a5d97c4461908fdccdd6274ed4ebeab1"), looks := true }, kinds := [], alts := [], laidByText := true, laidKinds := [.data, .data, .data, .data, .handle, .sentinel, .sentinel, .sentinel, .sentinel, .pinned], laidTests := true, laidLooks := .later }
def LimitFitsUptoCardSaid : Prop := Claim7.holds Tryz.pinned (.plain (OpenSpec.upto limitFitsSpec)) limitFitsUptoCard
end Rows
end Go.Proofs.YtnpajahfimaakaaGreatDoor
