/- 'LimitRoots': closed facts of its row, G. -/
import Derived.Test.YtcnckmkbidklgaaGreatDoorW01
namespace Go.Proofs.YtcnckmkbidklgaaGreatDoor
open Go.ChangeShapes Go.WideShapes Go.ChangeAt Go.RowKit

set_option maxRecDepth 100000
theorem roots_goes : false = Rows.limitRootsRow.goesBy Tryz.pinned.checked.prog := by kernel_rfl

end Go.Proofs.YtcnckmkbidklgaaGreatDoor
