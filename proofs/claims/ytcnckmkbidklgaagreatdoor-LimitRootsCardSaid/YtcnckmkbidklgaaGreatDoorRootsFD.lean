/- 'LimitRoots': closed facts of its row, D. -/
import Derived.Test.YtcnckmkbidklgaaGreatDoorW01
namespace Go.Proofs.YtcnckmkbidklgaaGreatDoor
open Go.ChangeShapes Go.WideShapes Go.ChangeAt Go.RowKit

set_option maxRecDepth 100000
theorem roots_k0 : Rows.limitRootsRow.wf (OpenSpec.ofChange Rows.limitRootsSpec) = true := by kernel_rfl
theorem roots_k1 : laidOutB Tryz.pinned.checked.prog = true := by kernel_rfl
theorem roots_k2 : mapsRowed Tryz.pinned.checked.prog = true := by kernel_rfl
theorem roots_k3 : Tryz.f4.params.all (Tryz.pinned.checked.prog.readableRec ·) = true := by kernel_rfl
theorem roots_k4 : namedTie Tryz.pinned.checked.prog Rows.limitRootsRow.named Rows.limitRootsSpec.vars = true := by kernel_rfl
theorem roots_k5 : (Rows.limitRootsRow.stops == []) = true := by kernel_rfl
theorem roots_k6 : (Tryz.pinned.checked.prog.stops == []) = true := by kernel_rfl
theorem roots_k7 : (Rows.limitRootsRow.knobs == []) = true := by kernel_rfl
theorem roots_k8 : (Tryz.pinned.checked.prog.stopKnobs == []) = true := by kernel_rfl
theorem roots_k13 : (Rows.limitRootsRow.maps == (Tryz.f4.params.toList ++ Rows.limitRootsSpec.plain.varTypes Tryz.pinned.checked.prog).any (Tryz.pinned.checked.prog.mapsRec ·)) = true := by kernel_rfl
theorem roots_k14 : (Rows.limitRootsRow.ifaces == (Tryz.f4.params.toList ++ Rows.limitRootsSpec.plain.varTypes Tryz.pinned.checked.prog).any (Tryz.pinned.checked.prog.ifacesRec ·)) = true := by kernel_rfl
theorem roots_k15 : (Rows.limitRootsRow.mapsOut == Tryz.pinned.checked.prog.mapsAmong Tryz.f4.resultTypes.toList) = true := by kernel_rfl
theorem roots_k16 : (Rows.limitRootsRow.loops == (Tryz.f4.params.toList ++ Rows.limitRootsSpec.plain.varTypes Tryz.pinned.checked.prog).any (Tryz.pinned.checked.prog.loopsFrom ·)) = true := by kernel_rfl
theorem roots_k17 : (Rows.limitRootsRow.wideKeys == (Tryz.f4.params.toList ++ Rows.limitRootsSpec.plain.varTypes Tryz.pinned.checked.prog ++ Tryz.f4.resultTypes.toList).any (Tryz.pinned.checked.prog.wideKeysFrom ·)) = true := by kernel_rfl
theorem roots_k18 : Rows.limitRootsSpec.vars.all (Tryz.pinned.checked.prog.varReadable ·) = true := by kernel_rfl
theorem roots_k19 : Tryz.f4.resultTypes.all (fun t => Tryz.pinned.checked.prog.readableRec t && decide (t < Tryz.pinned.checked.prog.types.size)) = true := by kernel_rfl
theorem roots_k20 : (Rows.limitRootsRow.ifacesOut == Tryz.f4.resultTypes.toList.any (Tryz.pinned.checked.prog.ifacesRec ·)) = true := by kernel_rfl
theorem roots_k21 : (Rows.limitRootsRow.loopsOut == Tryz.f4.resultTypes.toList.any (Tryz.pinned.checked.prog.loopsFrom ·)) = true := by kernel_rfl
theorem roots_k23 : Rows.limitRootsRow.shortTexts.isNone = true := by kernel_rfl
theorem roots_k27 : (Tryz.pinned.checked.prog.make == some Rows.limitRootsRow.make) = true := by kernel_rfl
theorem roots_k28 : (Rows.limitRootsRow.kinds == (if Rows.limitRootsRow.domain.isEmpty then [] else Tryz.f4.params.toList.map fun t => match Tryz.pinned.checked.prog.underlying t with | some (.int k) => some k | _ => Option.none)) = true := by kernel_rfl
theorem roots_k29 : (Rows.limitRootsRow.pinned == Rows.limitRootsRow.pinnedBy) = true := by kernel_rfl
theorem roots_k30 : (Rows.limitRootsRow.veiled == (Tryz.f4.params.toList ++ Rows.limitRootsSpec.plain.varTypes Tryz.pinned.checked.prog ++ Tryz.f4.resultTypes.toList).any (Tryz.pinned.checked.prog.veiledRec ·)) = true := by kernel_rfl
theorem roots_k31 : Rows.limitRootsRow.veiledFits Tryz.pinned.checked.prog Tryz.f4.params.toList (Tryz.f4.params.toList ++ Rows.limitRootsSpec.plain.varTypes Tryz.pinned.checked.prog ++ Tryz.f4.resultTypes.toList) = true := by kernel_rfl

end Go.Proofs.YtcnckmkbidklgaaGreatDoor
