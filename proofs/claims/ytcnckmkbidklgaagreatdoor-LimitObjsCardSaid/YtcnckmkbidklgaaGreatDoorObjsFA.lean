/- 'LimitObjs': closed facts of its row, A. -/
import Derived.Test.YtcnckmkbidklgaaGreatDoorW01
namespace Go.Proofs.YtcnckmkbidklgaaGreatDoor
open Go.ChangeShapes Go.WideShapes Go.ChangeAt Go.RowKit

set_option maxRecDepth 100000
theorem objs_k9 : (Rows.limitObjsRow.inPlace == Tryz.pinned.checked.prog.inPlace 3) = true := by kernel_rfl
theorem objs_k10 : (Rows.limitObjsRow.unfollowed == Tryz.pinned.checked.prog.unfollowed 3) = true := by kernel_rfl

end Go.Proofs.YtcnckmkbidklgaaGreatDoor
