/- A part of what LimitFits rests on. -/
import Derived.Test.YtnpajahfimaakaaGreatDoorA45
import Derived.Test.YtnpajahfimaakaaGreatDoorA01
set_option linter.all false
namespace Go.Proofs.YtnpajahfimaakaaGreatDoor
section
open Go.ChangeShapes Go.WideShapes Go.ChangeAt Go.RowKit
set_option maxRecDepth 100000
theorem U0:(Rows.limitFitsRow.plainKeys==Tryz.pinned.checked.prog.plainKeys)=true:=by kernel_rfl
theorem U1:Tryz.pinned.checked.prog.stopsHeard=true:=by kernel_rfl
theorem U2:Tryz.pinned.checked.prog.mayEnter=true:=by kernel_rfl
theorem U3:(Rows.limitFitsRow.lifted==Tryz.pinned.checked.prog.liftsFinal)=true:=by kernel_rfl
end
end Go.Proofs.YtnpajahfimaakaaGreatDoor
