/- 'StoreCleaned': closed facts of its row, D. -/
import Derived.Test.YtpamikcnbnkgkaaGreatDoorRows
import Derived.WalkKit
import Derived.ProofKit
import Derived.RowKit
import Derived.SevenTiedAt
set_option linter.all false
namespace Go.Proofs.YtpamikcnbnkgkaaGreatDoor
open Go.ChangeShapes Go.WideShapes Go.ChangeAt Go.RowKit
set_option maxRecDepth 1000000
theorem big_k22 : (Rows.storeCleanedRow.plainKeys == Tryz.pinned.checked.prog.plainKeys) = true := by kernel_rfl
theorem big_k6 : (Tryz.pinned.checked.prog.stops == []) = true := by kernel_rfl
theorem big_k8 : (Tryz.pinned.checked.prog.stopKnobs == []) = true := by kernel_rfl
end Go.Proofs.YtpamikcnbnkgkaaGreatDoor
namespace Go.Proofs.YtpamikcnbnkgkaaGreatDoor
open Go.ChangeShapes Go.WideShapes Go.ChangeAt Go.RowKit
set_option maxRecDepth 1000000
theorem big_k26 : (Rows.storeCleanedRow.lifted == Tryz.pinned.checked.prog.liftsFinal) = true := by kernel_rfl
theorem big_k27 : (Tryz.pinned.checked.prog.make == some Rows.storeCleanedRow.make) = true := by kernel_rfl
end Go.Proofs.YtpamikcnbnkgkaaGreatDoor
namespace Go.Proofs.YtpamikcnbnkgkaaGreatDoor
open Go.ChangeShapes Go.WideShapes Go.ChangeAt Go.RowKit
set_option maxRecDepth 1000000
theorem big_k0 : Rows.storeCleanedRow.wf (OpenSpec.ofChange Rows.storeCleanedSpec) = true := by kernel_rfl
theorem big_k3 : Tryz.f3.params.all (Tryz.pinned.checked.prog.readableRec ·) = true := by kernel_rfl
theorem big_k4 : namedTie Tryz.pinned.checked.prog Rows.storeCleanedRow.named Rows.storeCleanedSpec.vars = true := by kernel_rfl
theorem big_k5 : (Rows.storeCleanedRow.stops == []) = true := by kernel_rfl
theorem big_k7 : (Rows.storeCleanedRow.knobs == []) = true := by kernel_rfl
theorem big_k13 : (Rows.storeCleanedRow.maps == (Tryz.f3.params.toList ++ Rows.storeCleanedSpec.plain.varTypes Tryz.pinned.checked.prog).any (Tryz.pinned.checked.prog.mapsRec ·)) = true := by kernel_rfl
theorem big_k14 : (Rows.storeCleanedRow.ifaces == (Tryz.f3.params.toList ++ Rows.storeCleanedSpec.plain.varTypes Tryz.pinned.checked.prog).any (Tryz.pinned.checked.prog.ifacesRec ·)) = true := by kernel_rfl
theorem big_k15 : (Rows.storeCleanedRow.mapsOut == Tryz.pinned.checked.prog.mapsAmong Tryz.f3.resultTypes.toList) = true := by kernel_rfl
theorem big_k16 : (Rows.storeCleanedRow.loops == (Tryz.f3.params.toList ++ Rows.storeCleanedSpec.plain.varTypes Tryz.pinned.checked.prog).any (Tryz.pinned.checked.prog.loopsFrom ·)) = true := by kernel_rfl
theorem big_k17 : (Rows.storeCleanedRow.wideKeys == (Tryz.f3.params.toList ++ Rows.storeCleanedSpec.plain.varTypes Tryz.pinned.checked.prog ++ Tryz.f3.resultTypes.toList).any (Tryz.pinned.checked.prog.wideKeysFrom ·)) = true := by kernel_rfl
theorem big_k18 : Rows.storeCleanedSpec.vars.all (Tryz.pinned.checked.prog.varReadable ·) = true := by kernel_rfl
theorem big_k19 : Tryz.f3.resultTypes.all (fun t => Tryz.pinned.checked.prog.readableRec t && decide (t < Tryz.pinned.checked.prog.types.size)) = true := by kernel_rfl
theorem big_k20 : (Rows.storeCleanedRow.ifacesOut == Tryz.f3.resultTypes.toList.any (Tryz.pinned.checked.prog.ifacesRec ·)) = true := by kernel_rfl
theorem big_k21 : (Rows.storeCleanedRow.loopsOut == Tryz.f3.resultTypes.toList.any (Tryz.pinned.checked.prog.loopsFrom ·)) = true := by kernel_rfl
theorem big_k23 : Rows.storeCleanedRow.shortTexts.isNone = true := by kernel_rfl
theorem big_k28 : (Rows.storeCleanedRow.kinds == (if Rows.storeCleanedRow.domain.isEmpty then [] else Tryz.f3.params.toList.map fun t => match Tryz.pinned.checked.prog.underlying t with | some (.int k) => some k | _ => Option.none)) = true := by kernel_rfl
theorem big_k29 : (Rows.storeCleanedRow.pinned == Rows.storeCleanedRow.pinnedBy) = true := by kernel_rfl
theorem big_k30 : (Rows.storeCleanedRow.veiled == (Tryz.f3.params.toList ++ Rows.storeCleanedSpec.plain.varTypes Tryz.pinned.checked.prog ++ Tryz.f3.resultTypes.toList).any (Tryz.pinned.checked.prog.veiledRec ·)) = true := by kernel_rfl
theorem big_k31 : Rows.storeCleanedRow.veiledFits Tryz.pinned.checked.prog Tryz.f3.params.toList (Tryz.f3.params.toList ++ Rows.storeCleanedSpec.plain.varTypes Tryz.pinned.checked.prog ++ Tryz.f3.resultTypes.toList) = true := by kernel_rfl
end Go.Proofs.YtpamikcnbnkgkaaGreatDoor
