/- 'LimitSnaps': closed facts of its row, B. -/
import Derived.Test.YtcnckmkbidklgaaGreatDoorW01
namespace Go.Proofs.YtcnckmkbidklgaaGreatDoor
open Go.ChangeShapes Go.WideShapes Go.ChangeAt Go.RowKit

set_option maxRecDepth 100000
theorem snaps_k11 : (Rows.limitSnapsRow.recurses == Tryz.pinned.checked.prog.recurses 5) = true := by kernel_rfl
theorem snaps_k12 : (Rows.limitSnapsRow.named == Tryz.pinned.checked.prog.varsNamed 5) = true := by kernel_rfl

end Go.Proofs.YtcnckmkbidklgaaGreatDoor
