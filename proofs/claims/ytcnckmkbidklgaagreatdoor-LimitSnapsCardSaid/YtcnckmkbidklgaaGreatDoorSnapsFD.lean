/- 'LimitSnaps': closed facts of its row, D. -/
import Derived.Test.YtcnckmkbidklgaaGreatDoorW01
namespace Go.Proofs.YtcnckmkbidklgaaGreatDoor
open Go.ChangeShapes Go.WideShapes Go.ChangeAt Go.RowKit

set_option maxRecDepth 100000
theorem snaps_k0 : Rows.limitSnapsRow.wf (OpenSpec.ofChange Rows.limitSnapsSpec) = true := by kernel_rfl
theorem snaps_k1 : laidOutB Tryz.pinned.checked.prog = true := by kernel_rfl
theorem snaps_k2 : mapsRowed Tryz.pinned.checked.prog = true := by kernel_rfl
theorem snaps_k3 : Tryz.f5.params.all (Tryz.pinned.checked.prog.readableRec ·) = true := by kernel_rfl
theorem snaps_k4 : namedTie Tryz.pinned.checked.prog Rows.limitSnapsRow.named Rows.limitSnapsSpec.vars = true := by kernel_rfl
theorem snaps_k5 : (Rows.limitSnapsRow.stops == []) = true := by kernel_rfl
theorem snaps_k6 : (Tryz.pinned.checked.prog.stops == []) = true := by kernel_rfl
theorem snaps_k7 : (Rows.limitSnapsRow.knobs == []) = true := by kernel_rfl
theorem snaps_k8 : (Tryz.pinned.checked.prog.stopKnobs == []) = true := by kernel_rfl
theorem snaps_k13 : (Rows.limitSnapsRow.maps == (Tryz.f5.params.toList ++ Rows.limitSnapsSpec.plain.varTypes Tryz.pinned.checked.prog).any (Tryz.pinned.checked.prog.mapsRec ·)) = true := by kernel_rfl
theorem snaps_k14 : (Rows.limitSnapsRow.ifaces == (Tryz.f5.params.toList ++ Rows.limitSnapsSpec.plain.varTypes Tryz.pinned.checked.prog).any (Tryz.pinned.checked.prog.ifacesRec ·)) = true := by kernel_rfl
theorem snaps_k15 : (Rows.limitSnapsRow.mapsOut == Tryz.pinned.checked.prog.mapsAmong Tryz.f5.resultTypes.toList) = true := by kernel_rfl
theorem snaps_k16 : (Rows.limitSnapsRow.loops == (Tryz.f5.params.toList ++ Rows.limitSnapsSpec.plain.varTypes Tryz.pinned.checked.prog).any (Tryz.pinned.checked.prog.loopsFrom ·)) = true := by kernel_rfl
theorem snaps_k17 : (Rows.limitSnapsRow.wideKeys == (Tryz.f5.params.toList ++ Rows.limitSnapsSpec.plain.varTypes Tryz.pinned.checked.prog ++ Tryz.f5.resultTypes.toList).any (Tryz.pinned.checked.prog.wideKeysFrom ·)) = true := by kernel_rfl
theorem snaps_k18 : Rows.limitSnapsSpec.vars.all (Tryz.pinned.checked.prog.varReadable ·) = true := by kernel_rfl
theorem snaps_k19 : Tryz.f5.resultTypes.all (fun t => Tryz.pinned.checked.prog.readableRec t && decide (t < Tryz.pinned.checked.prog.types.size)) = true := by kernel_rfl
theorem snaps_k20 : (Rows.limitSnapsRow.ifacesOut == Tryz.f5.resultTypes.toList.any (Tryz.pinned.checked.prog.ifacesRec ·)) = true := by kernel_rfl
theorem snaps_k21 : (Rows.limitSnapsRow.loopsOut == Tryz.f5.resultTypes.toList.any (Tryz.pinned.checked.prog.loopsFrom ·)) = true := by kernel_rfl
theorem snaps_k23 : Rows.limitSnapsRow.shortTexts.isNone = true := by kernel_rfl
theorem snaps_k27 : (Tryz.pinned.checked.prog.make == some Rows.limitSnapsRow.make) = true := by kernel_rfl
theorem snaps_k28 : (Rows.limitSnapsRow.kinds == (if Rows.limitSnapsRow.domain.isEmpty then [] else Tryz.f5.params.toList.map fun t => match Tryz.pinned.checked.prog.underlying t with | some (.int k) => some k | _ => Option.none)) = true := by kernel_rfl
theorem snaps_k29 : (Rows.limitSnapsRow.pinned == Rows.limitSnapsRow.pinnedBy) = true := by kernel_rfl
theorem snaps_k30 : (Rows.limitSnapsRow.veiled == (Tryz.f5.params.toList ++ Rows.limitSnapsSpec.plain.varTypes Tryz.pinned.checked.prog ++ Tryz.f5.resultTypes.toList).any (Tryz.pinned.checked.prog.veiledRec ·)) = true := by kernel_rfl
theorem snaps_k31 : Rows.limitSnapsRow.veiledFits Tryz.pinned.checked.prog Tryz.f5.params.toList (Tryz.f5.params.toList ++ Rows.limitSnapsSpec.plain.varTypes Tryz.pinned.checked.prog ++ Tryz.f5.resultTypes.toList) = true := by kernel_rfl

end Go.Proofs.YtcnckmkbidklgaaGreatDoor
