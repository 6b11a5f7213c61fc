/- 'StoreWeak': closed facts of its row, D. -/
import Derived.Test.YtlbagpdnlldjnaaGreatDoorRows
import Derived.WalkKit
import Derived.ProofKit
import Derived.RowKit
import Derived.SevenTiedAt
set_option linter.all false
namespace Go.Proofs.YtlbagpdnlldjnaaGreatDoor
open Go.ChangeShapes Go.WideShapes Go.ChangeAt Go.RowKit
set_option maxRecDepth 1000000
theorem big_k22 : (Rows.storeWeakRow.plainKeys == Tryz.pinned.checked.prog.plainKeys) = true := by kernel_rfl
theorem big_k6 : (Tryz.pinned.checked.prog.stops == []) = true := by kernel_rfl
theorem big_k8 : (Tryz.pinned.checked.prog.stopKnobs == []) = true := by kernel_rfl
end Go.Proofs.YtlbagpdnlldjnaaGreatDoor
namespace Go.Proofs.YtlbagpdnlldjnaaGreatDoor
open Go.ChangeShapes Go.WideShapes Go.ChangeAt Go.RowKit
set_option maxRecDepth 1000000
theorem big_k26 : (Rows.storeWeakRow.lifted == Tryz.pinned.checked.prog.liftsFinal) = true := by kernel_rfl
theorem big_k27 : (Tryz.pinned.checked.prog.make == some Rows.storeWeakRow.make) = true := by kernel_rfl
end Go.Proofs.YtlbagpdnlldjnaaGreatDoor
namespace Go.Proofs.YtlbagpdnlldjnaaGreatDoor
open Go.ChangeShapes Go.WideShapes Go.ChangeAt Go.RowKit
set_option maxRecDepth 1000000
theorem big_k0 : Rows.storeWeakRow.wf (OpenSpec.ofChange Rows.storeWeakSpec) = true := by kernel_rfl
theorem big_k3 : Tryz.f3.params.all (Tryz.pinned.checked.prog.readableRec ·) = true := by kernel_rfl
theorem big_k4 : namedTie Tryz.pinned.checked.prog Rows.storeWeakRow.named Rows.storeWeakSpec.vars = true := by kernel_rfl
theorem big_k5 : (Rows.storeWeakRow.stops == []) = true := by kernel_rfl
theorem big_k7 : (Rows.storeWeakRow.knobs == []) = true := by kernel_rfl
theorem big_k13 : (Rows.storeWeakRow.maps == (Tryz.f3.params.toList ++ Rows.storeWeakSpec.plain.varTypes Tryz.pinned.checked.prog).any (Tryz.pinned.checked.prog.mapsRec ·)) = true := by kernel_rfl
theorem big_k14 : (Rows.storeWeakRow.ifaces == (Tryz.f3.params.toList ++ Rows.storeWeakSpec.plain.varTypes Tryz.pinned.checked.prog).any (Tryz.pinned.checked.prog.ifacesRec ·)) = true := by kernel_rfl
theorem big_k15 : (Rows.storeWeakRow.mapsOut == Tryz.pinned.checked.prog.mapsAmong Tryz.f3.resultTypes.toList) = true := by kernel_rfl
theorem big_k16 : (Rows.storeWeakRow.loops == (Tryz.f3.params.toList ++ Rows.storeWeakSpec.plain.varTypes Tryz.pinned.checked.prog).any (Tryz.pinned.checked.prog.loopsFrom ·)) = true := by kernel_rfl
theorem big_k17 : (Rows.storeWeakRow.wideKeys == (Tryz.f3.params.toList ++ Rows.storeWeakSpec.plain.varTypes Tryz.pinned.checked.prog ++ Tryz.f3.resultTypes.toList).any (Tryz.pinned.checked.prog.wideKeysFrom ·)) = true := by kernel_rfl
theorem big_k18 : Rows.storeWeakSpec.vars.all (Tryz.pinned.checked.prog.varReadable ·) = true := by kernel_rfl
theorem big_k19 : Tryz.f3.resultTypes.all (fun t => Tryz.pinned.checked.prog.readableRec t && decide (t < Tryz.pinned.checked.prog.types.size)) = true := by kernel_rfl
theorem big_k20 : (Rows.storeWeakRow.ifacesOut == Tryz.f3.resultTypes.toList.any (Tryz.pinned.checked.prog.ifacesRec ·)) = true := by kernel_rfl
theorem big_k21 : (Rows.storeWeakRow.loopsOut == Tryz.f3.resultTypes.toList.any (Tryz.pinned.checked.prog.loopsFrom ·)) = true := by kernel_rfl
theorem big_k23 : Rows.storeWeakRow.shortTexts.isNone = true := by kernel_rfl
theorem big_k28 : (Rows.storeWeakRow.kinds == (if Rows.storeWeakRow.domain.isEmpty then [] else Tryz.f3.params.toList.map fun t => match Tryz.pinned.checked.prog.underlying t with | some (.int k) => some k | _ => Option.none)) = true := by kernel_rfl
theorem big_k29 : (Rows.storeWeakRow.pinned == Rows.storeWeakRow.pinnedBy) = true := by kernel_rfl
theorem big_k30 : (Rows.storeWeakRow.veiled == (Tryz.f3.params.toList ++ Rows.storeWeakSpec.plain.varTypes Tryz.pinned.checked.prog ++ Tryz.f3.resultTypes.toList).any (Tryz.pinned.checked.prog.veiledRec ·)) = true := by kernel_rfl
theorem big_k31 : Rows.storeWeakRow.veiledFits Tryz.pinned.checked.prog Tryz.f3.params.toList (Tryz.f3.params.toList ++ Rows.storeWeakSpec.plain.varTypes Tryz.pinned.checked.prog ++ Tryz.f3.resultTypes.toList) = true := by kernel_rfl
end Go.Proofs.YtlbagpdnlldjnaaGreatDoor
