/- 'LimitObjs': closed facts of its row, D. -/
import Derived.Test.YtcnckmkbidklgaaGreatDoorW01
namespace Go.Proofs.YtcnckmkbidklgaaGreatDoor
open Go.ChangeShapes Go.WideShapes Go.ChangeAt Go.RowKit

set_option maxRecDepth 100000
theorem objs_k0 : Rows.limitObjsRow.wf (OpenSpec.ofChange Rows.limitObjsSpec) = true := by kernel_rfl
theorem objs_k1 : laidOutB Tryz.pinned.checked.prog = true := by kernel_rfl
theorem objs_k2 : mapsRowed Tryz.pinned.checked.prog = true := by kernel_rfl
theorem objs_k3 : Tryz.f3.params.all (Tryz.pinned.checked.prog.readableRec ·) = true := by kernel_rfl
theorem objs_k4 : namedTie Tryz.pinned.checked.prog Rows.limitObjsRow.named Rows.limitObjsSpec.vars = true := by kernel_rfl
theorem objs_k5 : (Rows.limitObjsRow.stops == []) = true := by kernel_rfl
theorem objs_k6 : (Tryz.pinned.checked.prog.stops == []) = true := by kernel_rfl
theorem objs_k7 : (Rows.limitObjsRow.knobs == []) = true := by kernel_rfl
theorem objs_k8 : (Tryz.pinned.checked.prog.stopKnobs == []) = true := by kernel_rfl
theorem objs_k13 : (Rows.limitObjsRow.maps == (Tryz.f3.params.toList ++ Rows.limitObjsSpec.plain.varTypes Tryz.pinned.checked.prog).any (Tryz.pinned.checked.prog.mapsRec ·)) = true := by kernel_rfl
theorem objs_k14 : (Rows.limitObjsRow.ifaces == (Tryz.f3.params.toList ++ Rows.limitObjsSpec.plain.varTypes Tryz.pinned.checked.prog).any (Tryz.pinned.checked.prog.ifacesRec ·)) = true := by kernel_rfl
theorem objs_k15 : (Rows.limitObjsRow.mapsOut == Tryz.pinned.checked.prog.mapsAmong Tryz.f3.resultTypes.toList) = true := by kernel_rfl
theorem objs_k16 : (Rows.limitObjsRow.loops == (Tryz.f3.params.toList ++ Rows.limitObjsSpec.plain.varTypes Tryz.pinned.checked.prog).any (Tryz.pinned.checked.prog.loopsFrom ·)) = true := by kernel_rfl
theorem objs_k17 : (Rows.limitObjsRow.wideKeys == (Tryz.f3.params.toList ++ Rows.limitObjsSpec.plain.varTypes Tryz.pinned.checked.prog ++ Tryz.f3.resultTypes.toList).any (Tryz.pinned.checked.prog.wideKeysFrom ·)) = true := by kernel_rfl
theorem objs_k18 : Rows.limitObjsSpec.vars.all (Tryz.pinned.checked.prog.varReadable ·) = true := by kernel_rfl
theorem objs_k19 : Tryz.f3.resultTypes.all (fun t => Tryz.pinned.checked.prog.readableRec t && decide (t < Tryz.pinned.checked.prog.types.size)) = true := by kernel_rfl
theorem objs_k20 : (Rows.limitObjsRow.ifacesOut == Tryz.f3.resultTypes.toList.any (Tryz.pinned.checked.prog.ifacesRec ·)) = true := by kernel_rfl
theorem objs_k21 : (Rows.limitObjsRow.loopsOut == Tryz.f3.resultTypes.toList.any (Tryz.pinned.checked.prog.loopsFrom ·)) = true := by kernel_rfl
theorem objs_k23 : Rows.limitObjsRow.shortTexts.isNone = true := by kernel_rfl
theorem objs_k27 : (Tryz.pinned.checked.prog.make == some Rows.limitObjsRow.make) = true := by kernel_rfl
theorem objs_k28 : (Rows.limitObjsRow.kinds == (if Rows.limitObjsRow.domain.isEmpty then [] else Tryz.f3.params.toList.map fun t => match Tryz.pinned.checked.prog.underlying t with | some (.int k) => some k | _ => Option.none)) = true := by kernel_rfl
theorem objs_k29 : (Rows.limitObjsRow.pinned == Rows.limitObjsRow.pinnedBy) = true := by kernel_rfl
theorem objs_k30 : (Rows.limitObjsRow.veiled == (Tryz.f3.params.toList ++ Rows.limitObjsSpec.plain.varTypes Tryz.pinned.checked.prog ++ Tryz.f3.resultTypes.toList).any (Tryz.pinned.checked.prog.veiledRec ·)) = true := by kernel_rfl
theorem objs_k31 : Rows.limitObjsRow.veiledFits Tryz.pinned.checked.prog Tryz.f3.params.toList (Tryz.f3.params.toList ++ Rows.limitObjsSpec.plain.varTypes Tryz.pinned.checked.prog ++ Tryz.f3.resultTypes.toList) = true := by kernel_rfl

end Go.Proofs.YtcnckmkbidklgaaGreatDoor
