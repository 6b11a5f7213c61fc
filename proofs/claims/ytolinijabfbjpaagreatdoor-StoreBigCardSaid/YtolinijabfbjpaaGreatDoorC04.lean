/- 'StoreBig': closed facts of its row, B. -/
import Derived.Test.YtolinijabfbjpaaGreatDoorRows
import Derived.WalkKit
import Derived.ProofKit
import Derived.RowKit
import Derived.SevenTiedAt
set_option linter.all false
namespace Go.Proofs.YtolinijabfbjpaaGreatDoor
open Go.ChangeShapes Go.WideShapes Go.ChangeAt Go.RowKit

set_option maxRecDepth 1000000
theorem big_k24 : Tryz.pinned.checked.prog.stopsHeard = true := by kernel_rfl

end Go.Proofs.YtolinijabfbjpaaGreatDoor

/- 'StoreBig': closed facts of its row, C. -/
namespace Go.Proofs.YtolinijabfbjpaaGreatDoor
open Go.ChangeShapes Go.WideShapes Go.ChangeAt Go.RowKit

set_option maxRecDepth 1000000
theorem big_k25 : Tryz.pinned.checked.prog.mayEnter = true := by kernel_rfl

end Go.Proofs.YtolinijabfbjpaaGreatDoor
