/- 'LimitRoots': closed facts of its row, C. -/
import Derived.Test.YtcnckmkbidklgaaGreatDoorW01
namespace Go.Proofs.YtcnckmkbidklgaaGreatDoor
open Go.ChangeShapes Go.WideShapes Go.ChangeAt Go.RowKit

set_option maxRecDepth 100000
theorem roots_k22 : (Rows.limitRootsRow.plainKeys == Tryz.pinned.checked.prog.plainKeys) = true := by kernel_rfl
theorem roots_k24 : Tryz.pinned.checked.prog.stopsHeard = true := by kernel_rfl
theorem roots_k25 : Tryz.pinned.checked.prog.mayEnter = true := by kernel_rfl
theorem roots_k26 : (Rows.limitRootsRow.lifted == Tryz.pinned.checked.prog.liftsFinal) = true := by kernel_rfl

end Go.Proofs.YtcnckmkbidklgaaGreatDoor
