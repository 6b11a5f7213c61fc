/- 'LimitSnaps': closed facts of its row, E. -/
import Derived.Test.YtcnckmkbidklgaaGreatDoorW01
namespace Go.Proofs.YtcnckmkbidklgaaGreatDoor
open Go.ChangeShapes Go.WideShapes Go.ChangeAt Go.RowKit

set_option maxRecDepth 100000
theorem snaps_looks : true = Tryz.pinned.checked.prog.looks [] := by kernel_rfl

end Go.Proofs.YtcnckmkbidklgaaGreatDoor
