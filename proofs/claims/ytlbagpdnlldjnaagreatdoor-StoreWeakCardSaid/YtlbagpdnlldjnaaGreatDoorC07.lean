/- The tie: Te. -/
import Derived.Test.YtlbagpdnlldjnaaGreatDoorC06
set_option linter.all false
namespace Go.Proofs.YtlbagpdnlldjnaaGreatDoor
open Go
set_option maxRecDepth 1000000
theorem tie4 : tieL.map (fun x => Tryz.prog.kindOfLater x.1) = tieK.map some := by kernel_rfl
end Go.Proofs.YtlbagpdnlldjnaaGreatDoor
namespace Go.Proofs.YtlbagpdnlldjnaaGreatDoor
open Go
set_option maxRecDepth 1000000
theorem tie6 : varsNamedLaterB Tryz.prog (varsId Tryz.prog) tieL = true := by
 rw [vId]
 unfold varsNamedLaterB Program.callsLaidAlone
 rw [eId _ (by kernel_rfl)]
 kernel_rfl
end Go.Proofs.YtlbagpdnlldjnaaGreatDoor
namespace Go.Proofs.YtlbagpdnlldjnaaGreatDoor
open Go
set_option maxRecDepth 1000000
theorem tie7 (os : Os) (tape : Tape) : varsDone Tryz.prog 400 (varsId Tryz.prog) os tape = true := by rw [vId]; kernel_rfl
end Go.Proofs.YtlbagpdnlldjnaaGreatDoor
