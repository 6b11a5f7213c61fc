/- The tie: Th. -/
import Derived.Test.YtlbagpdnlldjnaaGreatDoorC06
import Derived.Test.YtlbagpdnlldjnaaGreatDoorC07
set_option linter.all false
namespace Go.Proofs.YtlbagpdnlldjnaaGreatDoor
open Go
set_option maxRecDepth 1000000
theorem tie8 (os : Os) (tape : Tape) : (DataW.laidRun Tryz.prog (varsWorld Tryz.prog 400 (varsId Tryz.prog) os tape).memory 8 ((tieL.filter fun x => x.2.handleName?.isNone).map (·.1))).map (·.1) = some (tieL.filter fun x => x.2.handleName?.isNone) := by rw [vId]; kernel_rfl
end Go.Proofs.YtlbagpdnlldjnaaGreatDoor
namespace Go.Proofs.YtlbagpdnlldjnaaGreatDoor
open Go
set_option maxRecDepth 1000000
theorem tie9 (os : Os) (tape : Tape) : (DataW.laidRun Tryz.prog (varsWorld Tryz.prog 400 (varsId Tryz.prog) os tape).memory 8 ((tieL.filter fun x => x.2.handleName?.isNone).map (·.1))).map (fun x => decide x.2.Nodup && laidRowsB Tryz.prog (varsWorld Tryz.prog 400 (varsId Tryz.prog) os tape).memory x.2) = some true := by rw [vId]; kernel_rfl
end Go.Proofs.YtlbagpdnlldjnaaGreatDoor
namespace Go.Proofs.YtlbagpdnlldjnaaGreatDoor
open Go
set_option maxRecDepth 1000000
theorem tie10 (os : Os) (tape : Tape) : (tieL.filter fun x => x.2.handleName?.isSome).all (handleAtB Tryz.prog (varsWorld Tryz.prog 400 (varsId Tryz.prog) os tape).memory) = true := by rw [vId]; kernel_rfl
end Go.Proofs.YtlbagpdnlldjnaaGreatDoor
namespace Go.Proofs.YtlbagpdnlldjnaaGreatDoor
open Go
set_option maxRecDepth 1000000
noncomputable def nmPin : String := ((Rows.storeWeakRow.laid[6]?).map (·.1)).getD ""
theorem pin1 : Tryz.pinned.checked.prog.pinnedFits nmPin = true := by
 show Tryz.prog.pinnedFits nmPin = true
 unfold Program.pinnedFits
 rw [fnVars]
 kernel_rfl
theorem noLifts : Tryz.pinned.checked.prog.headLifts = [] := by kernel_rfl
theorem fits1 : Tryz.pinned.checked.prog.listedFits Rows.storeWeakRow.laid = true := by
 unfold Program.listedFits
 rw [noLifts]
 kernel_rfl
end Go.Proofs.YtlbagpdnlldjnaaGreatDoor
namespace Go.Proofs.YtlbagpdnlldjnaaGreatDoor
open Go
set_option maxRecDepth 1000000
theorem tie : Tryz.prog.laidByTextLater tieL tieK true :=
 Program.laidByTextLater_by_run_h 400 8 tie1 tie2 tie3 tie4 tie5 tie6 tie7 tie8 tie9 tie10
theorem big_row_tie : Rows.storeWeakRow.laidByTextAt .later Tryz.pinned [.handle, .sentinel, .sentinel, .data, .data, .data, .pinned, .data, .sentinel, .sentinel] true :=
 OpenClaim.laidByTextAt_pinned rfl rfl tie rfl rfl rfl rfl (fun y hy _e => by
  simp only [Rows.storeWeakRow, List.zip_cons_cons, List.zip_nil_right, List.mem_cons, List.mem_nil_iff, or_false] at hy
  rcases hy with rfl | rfl | rfl | rfl | rfl | rfl | rfl | rfl | rfl | rfl
  ·cases _e
  ·cases _e
  ·cases _e
  ·cases _e
  ·cases _e
  ·cases _e
  ·exact ⟨(show Tryz.pinned.checked.prog.pinnedFits nmPin = true from pin1), by kernel_rfl⟩
  ·cases _e
  ·cases _e
  ·cases _e) fits1
end Go.Proofs.YtlbagpdnlldjnaaGreatDoor
