/- 'LimitSnaps': closed facts of its row, A. -/
import Derived.Test.YtcnckmkbidklgaaGreatDoorW01
namespace Go.Proofs.YtcnckmkbidklgaaGreatDoor
open Go.ChangeShapes Go.WideShapes Go.ChangeAt Go.RowKit

set_option maxRecDepth 100000
theorem snaps_k9 : (Rows.limitSnapsRow.inPlace == Tryz.pinned.checked.prog.inPlace 5) = true := by kernel_rfl
theorem snaps_k10 : (Rows.limitSnapsRow.unfollowed == Tryz.pinned.checked.prog.unfollowed 5) = true := by kernel_rfl

end Go.Proofs.YtcnckmkbidklgaaGreatDoor
