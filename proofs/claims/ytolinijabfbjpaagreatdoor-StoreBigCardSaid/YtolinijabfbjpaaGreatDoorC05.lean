/- 'StoreBig': closed facts of its row, D. -/
import Derived.Test.YtolinijabfbjpaaGreatDoorRows
import Derived.WalkKit
import Derived.ProofKit
import Derived.RowKit
import Derived.SevenTiedAt
set_option linter.all false
namespace Go.Proofs.YtolinijabfbjpaaGreatDoor
open Go.ChangeShapes Go.WideShapes Go.ChangeAt Go.RowKit

set_option maxRecDepth 1000000
theorem big_k22 : (Rows.storeBigRow.plainKeys == Tryz.pinned.checked.prog.plainKeys) = true := by kernel_rfl
theorem big_k6 : (Tryz.pinned.checked.prog.stops == []) = true := by kernel_rfl
theorem big_k8 : (Tryz.pinned.checked.prog.stopKnobs == []) = true := by kernel_rfl

end Go.Proofs.YtolinijabfbjpaaGreatDoor

/- 'StoreBig': closed facts of its row, E. -/
namespace Go.Proofs.YtolinijabfbjpaaGreatDoor
open Go.ChangeShapes Go.WideShapes Go.ChangeAt Go.RowKit

set_option maxRecDepth 1000000
theorem big_k26 : (Rows.storeBigRow.lifted == Tryz.pinned.checked.prog.liftsFinal) = true := by kernel_rfl
theorem big_k27 : (Tryz.pinned.checked.prog.make == some Rows.storeBigRow.make) = true := by kernel_rfl

end Go.Proofs.YtolinijabfbjpaaGreatDoor

/- 'StoreBig': closed facts of its row, G. -/
namespace Go.Proofs.YtolinijabfbjpaaGreatDoor
open Go.ChangeShapes Go.WideShapes Go.ChangeAt Go.RowKit

set_option maxRecDepth 1000000
theorem big_k0 : Rows.storeBigRow.wf (OpenSpec.ofChange Rows.storeBigSpec) = true := by kernel_rfl
theorem big_k3 : Tryz.f3.params.all (Tryz.pinned.checked.prog.readableRec ·) = true := by kernel_rfl
theorem big_k4 : namedTie Tryz.pinned.checked.prog Rows.storeBigRow.named Rows.storeBigSpec.vars = true := by kernel_rfl
theorem big_k5 : (Rows.storeBigRow.stops == []) = true := by kernel_rfl
theorem big_k7 : (Rows.storeBigRow.knobs == []) = true := by kernel_rfl
theorem big_k13 : (Rows.storeBigRow.maps == (Tryz.f3.params.toList ++ Rows.storeBigSpec.plain.varTypes Tryz.pinned.checked.prog).any (Tryz.pinned.checked.prog.mapsRec ·)) = true := by kernel_rfl
theorem big_k14 : (Rows.storeBigRow.ifaces == (Tryz.f3.params.toList ++ Rows.storeBigSpec.plain.varTypes Tryz.pinned.checked.prog).any (Tryz.pinned.checked.prog.ifacesRec ·)) = true := by kernel_rfl
theorem big_k15 : (Rows.storeBigRow.mapsOut == Tryz.pinned.checked.prog.mapsAmong Tryz.f3.resultTypes.toList) = true := by kernel_rfl
theorem big_k16 : (Rows.storeBigRow.loops == (Tryz.f3.params.toList ++ Rows.storeBigSpec.plain.varTypes Tryz.pinned.checked.prog).any (Tryz.pinned.checked.prog.loopsFrom ·)) = true := by kernel_rfl
theorem big_k17 : (Rows.storeBigRow.wideKeys == (Tryz.f3.params.toList ++ Rows.storeBigSpec.plain.varTypes Tryz.pinned.checked.prog ++ Tryz.f3.resultTypes.toList).any (Tryz.pinned.checked.prog.wideKeysFrom ·)) = true := by kernel_rfl
theorem big_k18 : Rows.storeBigSpec.vars.all (Tryz.pinned.checked.prog.varReadable ·) = true := by kernel_rfl
theorem big_k19 : Tryz.f3.resultTypes.all (fun t => Tryz.pinned.checked.prog.readableRec t && decide (t < Tryz.pinned.checked.prog.types.size)) = true := by kernel_rfl
theorem big_k20 : (Rows.storeBigRow.ifacesOut == Tryz.f3.resultTypes.toList.any (Tryz.pinned.checked.prog.ifacesRec ·)) = true := by kernel_rfl
theorem big_k21 : (Rows.storeBigRow.loopsOut == Tryz.f3.resultTypes.toList.any (Tryz.pinned.checked.prog.loopsFrom ·)) = true := by kernel_rfl
theorem big_k23 : Rows.storeBigRow.shortTexts.isNone = true := by kernel_rfl
theorem big_k28 : (Rows.storeBigRow.kinds == (if Rows.storeBigRow.domain.isEmpty then [] else Tryz.f3.params.toList.map fun t => match Tryz.pinned.checked.prog.underlying t with | some (.int k) => some k | _ => Option.none)) = true := by kernel_rfl
theorem big_k29 : (Rows.storeBigRow.pinned == Rows.storeBigRow.pinnedBy) = true := by kernel_rfl
theorem big_k30 : (Rows.storeBigRow.veiled == (Tryz.f3.params.toList ++ Rows.storeBigSpec.plain.varTypes Tryz.pinned.checked.prog ++ Tryz.f3.resultTypes.toList).any (Tryz.pinned.checked.prog.veiledRec ·)) = true := by kernel_rfl
theorem big_k31 : Rows.storeBigRow.veiledFits Tryz.pinned.checked.prog Tryz.f3.params.toList (Tryz.f3.params.toList ++ Rows.storeBigSpec.plain.varTypes Tryz.pinned.checked.prog ++ Tryz.f3.resultTypes.toList) = true := by kernel_rfl

end Go.Proofs.YtolinijabfbjpaaGreatDoor
