/- 'LimitSnaps': closed facts of its row, C. -/
import Derived.Test.YtcnckmkbidklgaaGreatDoorW01
namespace Go.Proofs.YtcnckmkbidklgaaGreatDoor
open Go.ChangeShapes Go.WideShapes Go.ChangeAt Go.RowKit

set_option maxRecDepth 100000
theorem snaps_k22 : (Rows.limitSnapsRow.plainKeys == Tryz.pinned.checked.prog.plainKeys) = true := by kernel_rfl
theorem snaps_k24 : Tryz.pinned.checked.prog.stopsHeard = true := by kernel_rfl
theorem snaps_k25 : Tryz.pinned.checked.prog.mayEnter = true := by kernel_rfl
theorem snaps_k26 : (Rows.limitSnapsRow.lifted == Tryz.pinned.checked.prog.liftsFinal) = true := by kernel_rfl

end Go.Proofs.YtcnckmkbidklgaaGreatDoor
