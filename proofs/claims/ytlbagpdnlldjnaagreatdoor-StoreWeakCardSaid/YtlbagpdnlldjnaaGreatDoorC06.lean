/- The tie: what its facts speak of. -/
import Derived.Test.YtlbagpdnlldjnaaGreatDoorRows
import Derived.LaidByTextLater
import Derived.SevenTiedAt
set_option linter.all false
namespace Go.Proofs.YtlbagpdnlldjnaaGreatDoor
open Go
set_option maxRecDepth 1000000
noncomputable def tieL : List (String × DataW Unit) := Rows.storeWeakRow.laid.take 6 ++ Rows.storeWeakRow.laid.drop 7
def tieK : List LaidKind := [.handle, .sentinel, .sentinel, .data, .data, .data, .data, .sentinel, .sentinel]
theorem fnVars : Tryz.prog.funcNamed "gosem.cut.vars" = some 835 := by kernel_rfl
theorem vId : varsId Tryz.prog = 835 := by
 unfold varsId
 rw [fnVars]
 rfl
theorem tie5 : (Tryz.prog.funcNamed "gosem.cut.vars").isSome = true := by
 rw [fnVars]
 rfl
end Go.Proofs.YtlbagpdnlldjnaaGreatDoor
namespace Go.Proofs.YtlbagpdnlldjnaaGreatDoor
open Go
set_option maxRecDepth 1000000
theorem tie1 : Tryz.prog.worded (varsWordLater true) = true := by kernel_rfl
end Go.Proofs.YtlbagpdnlldjnaaGreatDoor
namespace Go.Proofs.YtlbagpdnlldjnaaGreatDoor
open Go
set_option maxRecDepth 1000000
theorem tie2 : Tryz.prog.worded (varsWordLater !true) = false := by kernel_rfl
end Go.Proofs.YtlbagpdnlldjnaaGreatDoor
namespace Go.Proofs.YtlbagpdnlldjnaaGreatDoor
open Go
set_option maxRecDepth 1000000
theorem tie3 : Tryz.prog.worded rootWordLater = true := by kernel_rfl
end Go.Proofs.YtlbagpdnlldjnaaGreatDoor
namespace Go.Proofs.YtlbagpdnlldjnaaGreatDoor
open Go
set_option maxRecDepth 1000000
noncomputable def nmElem : String := (((Tryz.prog.funcs[807]?).map (·.name))).getD ""
theorem eId0 : Tryz.prog.funcNamed nmElem = some 807 := by kernel_rfl
theorem eId (s : String) (h : s = nmElem) : Tryz.prog.funcNamed s = some 807 := by
 rw [h]
 exact eId0
end Go.Proofs.YtlbagpdnlldjnaaGreatDoor
