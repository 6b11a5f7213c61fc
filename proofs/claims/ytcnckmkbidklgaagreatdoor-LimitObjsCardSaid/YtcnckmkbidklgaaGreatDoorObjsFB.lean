/- 'LimitObjs': closed facts of its row, B. -/
import Derived.Test.YtcnckmkbidklgaaGreatDoorW01
namespace Go.Proofs.YtcnckmkbidklgaaGreatDoor
open Go.ChangeShapes Go.WideShapes Go.ChangeAt Go.RowKit

set_option maxRecDepth 100000
theorem objs_k11 : (Rows.limitObjsRow.recurses == Tryz.pinned.checked.prog.recurses 3) = true := by kernel_rfl
theorem objs_k12 : (Rows.limitObjsRow.named == Tryz.pinned.checked.prog.varsNamed 3) = true := by kernel_rfl

end Go.Proofs.YtcnckmkbidklgaaGreatDoor
