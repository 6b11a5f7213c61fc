/- 'LimitSnaps', its row. -/
import Derived.Test.YtcnckmkbidklgaaGreatDoorSnapsP
import Derived.Test.YtcnckmkbidklgaaGreatDoorSnapsFA
import Derived.Test.YtcnckmkbidklgaaGreatDoorSnapsFB
import Derived.Test.YtcnckmkbidklgaaGreatDoorSnapsFC
import Derived.Test.YtcnckmkbidklgaaGreatDoorSnapsFD
namespace Go.Proofs.YtcnckmkbidklgaaGreatDoor
open Go.ChangeShapes Go.WideShapes Go.ChangeAt Go.RowKit

theorem and2 {a b : Bool} (ha : a = true) (hb : b = true) : (a && b) = true := by rw [ha, hb]; rfl
set_option maxRecDepth 100000
theorem snaps_named : Tryz.pinned.checked.prog.funcNamed Rows.limitSnapsRow.func = some 5 := by kernel_rfl
theorem snaps_facts : joinedFacts Tryz.pinned.checked.prog 5 Tryz.f5 Rows.limitSnapsSpec Rows.limitSnapsRow = true :=
  and2 (and2 (and2 (and2 (and2 (and2 (and2 (and2 (and2 (and2 (and2 (and2 (and2 (and2 (and2 (and2 (and2 (and2 (and2 (and2 (and2 (and2 (and2 (and2 (and2 (and2 (and2 (and2 (and2 (and2 (and2 snaps_k0 snaps_k1) snaps_k2) snaps_k3) snaps_k4) snaps_k5) snaps_k6) snaps_k7) snaps_k8) snaps_k9) snaps_k10) snaps_k11) snaps_k12) snaps_k13) snaps_k14) snaps_k15) snaps_k16) snaps_k17) snaps_k18) snaps_k19) snaps_k20) snaps_k21) snaps_k22) snaps_k23) snaps_k24) snaps_k25) snaps_k26) snaps_k27) snaps_k28) snaps_k29) snaps_k30) snaps_k31
theorem limitSnaps_row : Rows.LimitSnapsSaid :=
  OpenClaim.holds_of_wide 5 Tryz.f5 rfl rfl rfl rfl rfl rfl rfl ⟨rfl, rfl, rfl, rfl, rfl⟩ rfl rfl rfl rfl rfl snaps_named Tryz.func5 snaps_facts
    (of_decide_eq_true (by kernel_rfl)) (by unfold Func.isWrapper; first | (rw [if_pos (by decide +kernel)]; kernel_rfl) | (rw [if_neg (by decide +kernel)]; exact ⟨rfl, rfl⟩))
    (fun os started H enc _ => limitSnaps_lifted os started H enc)

end Go.Proofs.YtcnckmkbidklgaaGreatDoor
