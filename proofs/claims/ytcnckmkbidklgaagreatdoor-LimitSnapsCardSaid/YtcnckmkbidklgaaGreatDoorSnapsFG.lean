/- 'LimitSnaps': closed facts of its row, G. -/
import Derived.Test.YtcnckmkbidklgaaGreatDoorW01
namespace Go.Proofs.YtcnckmkbidklgaaGreatDoor
open Go.ChangeShapes Go.WideShapes Go.ChangeAt Go.RowKit

set_option maxRecDepth 100000
theorem snaps_goes : false = Rows.limitSnapsRow.goesBy Tryz.pinned.checked.prog := by kernel_rfl

end Go.Proofs.YtcnckmkbidklgaaGreatDoor
