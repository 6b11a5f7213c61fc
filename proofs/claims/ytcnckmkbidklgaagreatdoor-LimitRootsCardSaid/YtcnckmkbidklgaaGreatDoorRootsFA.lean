/- 'LimitRoots': closed facts of its row, A. -/
import Derived.Test.YtcnckmkbidklgaaGreatDoorW01
namespace Go.Proofs.YtcnckmkbidklgaaGreatDoor
open Go.ChangeShapes Go.WideShapes Go.ChangeAt Go.RowKit

set_option maxRecDepth 100000
theorem roots_k9 : (Rows.limitRootsRow.inPlace == Tryz.pinned.checked.prog.inPlace 4) = true := by kernel_rfl
theorem roots_k10 : (Rows.limitRootsRow.unfollowed == Tryz.pinned.checked.prog.unfollowed 4) = true := by kernel_rfl

end Go.Proofs.YtcnckmkbidklgaaGreatDoor
