/- A part of what LimitFits rests on. -/
import Derived.Test.YtnpajahfimaakaaGreatDoorA45
import Derived.Test.YtnpajahfimaakaaGreatDoorA01
set_option linter.all false
namespace Go.Proofs.YtnpajahfimaakaaGreatDoor
section
open Go.ChangeShapes Go.WideShapes Go.ChangeAt Go.RowKit
set_option maxRecDepth 100000
theorem YQ:Rows.limitFitsRow.wf (OpenSpec.ofChange Rows.limitFitsSpec)=true:=by kernel_rfl
theorem YR:laidOutB Tryz.pinned.checked.prog=true:=by kernel_rfl
theorem YS:mapsRowed Tryz.pinned.checked.prog=true:=by kernel_rfl
theorem YT:Tryz.f3.params.all (Tryz.pinned.checked.prog.readableRec ·)=true:=by kernel_rfl
theorem YU:namedTie Tryz.pinned.checked.prog Rows.limitFitsRow.named Rows.limitFitsSpec.vars=true:=by kernel_rfl
theorem YV:(Rows.limitFitsRow.stops==[])=true:=by kernel_rfl
theorem YW:(Tryz.pinned.checked.prog.stops==[])=true:=by kernel_rfl
theorem YX:(Rows.limitFitsRow.knobs==[])=true:=by kernel_rfl
theorem YY:(Tryz.pinned.checked.prog.stopKnobs==[])=true:=by kernel_rfl
theorem U4:(Rows.limitFitsRow.maps==(Tryz.f3.params.toList++Rows.limitFitsSpec.plain.varTypes Tryz.pinned.checked.prog).any (Tryz.pinned.checked.prog.mapsRec ·))=true:=by kernel_rfl
theorem U5:(Rows.limitFitsRow.ifaces==(Tryz.f3.params.toList++Rows.limitFitsSpec.plain.varTypes Tryz.pinned.checked.prog).any (Tryz.pinned.checked.prog.ifacesRec ·))=true:=by kernel_rfl
theorem U6:(Rows.limitFitsRow.mapsOut==Tryz.pinned.checked.prog.mapsAmong Tryz.f3.resultTypes.toList)=true:=by kernel_rfl
theorem U7:(Rows.limitFitsRow.loops==(Tryz.f3.params.toList++Rows.limitFitsSpec.plain.varTypes Tryz.pinned.checked.prog).any (Tryz.pinned.checked.prog.loopsFrom ·))=true:=by kernel_rfl
theorem U8:(Rows.limitFitsRow.wideKeys==(Tryz.f3.params.toList++Rows.limitFitsSpec.plain.varTypes Tryz.pinned.checked.prog++Tryz.f3.resultTypes.toList).any (Tryz.pinned.checked.prog.wideKeysFrom ·))=true:=by kernel_rfl
theorem U9:Rows.limitFitsSpec.vars.all (Tryz.pinned.checked.prog.varReadable ·)=true:=by kernel_rfl
theorem Va:Tryz.f3.resultTypes.all (fun t=>Tryz.pinned.checked.prog.readableRec t&&decide (t<Tryz.pinned.checked.prog.types.size))=true:=by kernel_rfl
theorem Vb:(Rows.limitFitsRow.ifacesOut==Tryz.f3.resultTypes.toList.any (Tryz.pinned.checked.prog.ifacesRec ·))=true:=by kernel_rfl
theorem Vc:(Rows.limitFitsRow.loopsOut==Tryz.f3.resultTypes.toList.any (Tryz.pinned.checked.prog.loopsFrom ·))=true:=by kernel_rfl
theorem Vd:Rows.limitFitsRow.shortTexts.isNone=true:=by kernel_rfl
theorem Ve:(Tryz.pinned.checked.prog.make==some Rows.limitFitsRow.make)=true:=by kernel_rfl
theorem Vf:(Rows.limitFitsRow.kinds==(if Rows.limitFitsRow.domain.isEmpty then[]else Tryz.f3.params.toList.map fun t=>match Tryz.pinned.checked.prog.underlying t with|some (.int k)=>some k|_=>Option.none))=true:=by kernel_rfl
theorem Vg:(Rows.limitFitsRow.pinned==Rows.limitFitsRow.pinnedBy)=true:=by kernel_rfl
theorem Vh:(Rows.limitFitsRow.veiled==(Tryz.f3.params.toList++Rows.limitFitsSpec.plain.varTypes Tryz.pinned.checked.prog++Tryz.f3.resultTypes.toList).any (Tryz.pinned.checked.prog.veiledRec ·))=true:=by kernel_rfl
theorem Vi:Rows.limitFitsRow.veiledFits Tryz.pinned.checked.prog Tryz.f3.params.toList (Tryz.f3.params.toList++Rows.limitFitsSpec.plain.varTypes Tryz.pinned.checked.prog++Tryz.f3.resultTypes.toList)=true:=by kernel_rfl
end
end Go.Proofs.YtnpajahfimaakaaGreatDoor
