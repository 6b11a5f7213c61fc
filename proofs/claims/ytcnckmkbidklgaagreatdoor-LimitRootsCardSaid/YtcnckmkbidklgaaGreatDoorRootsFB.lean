/- 'LimitRoots': closed facts of its row, B. -/
import Derived.Test.YtcnckmkbidklgaaGreatDoorW01
namespace Go.Proofs.YtcnckmkbidklgaaGreatDoor
open Go.ChangeShapes Go.WideShapes Go.ChangeAt Go.RowKit

set_option maxRecDepth 100000
theorem roots_k11 : (Rows.limitRootsRow.recurses == Tryz.pinned.checked.prog.recurses 4) = true := by kernel_rfl
theorem roots_k12 : (Rows.limitRootsRow.named == Tryz.pinned.checked.prog.varsNamed 4) = true := by kernel_rfl

end Go.Proofs.YtcnckmkbidklgaaGreatDoor
