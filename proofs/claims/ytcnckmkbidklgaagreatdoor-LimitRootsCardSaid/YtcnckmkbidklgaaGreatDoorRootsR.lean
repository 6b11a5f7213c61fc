/- 'LimitRoots', its row. -/
import Derived.Test.YtcnckmkbidklgaaGreatDoorRootsP
import Derived.Test.YtcnckmkbidklgaaGreatDoorRootsFA
import Derived.Test.YtcnckmkbidklgaaGreatDoorRootsFB
import Derived.Test.YtcnckmkbidklgaaGreatDoorRootsFC
import Derived.Test.YtcnckmkbidklgaaGreatDoorRootsFD
namespace Go.Proofs.YtcnckmkbidklgaaGreatDoor
open Go.ChangeShapes Go.WideShapes Go.ChangeAt Go.RowKit

theorem and2 {a b : Bool} (ha : a = true) (hb : b = true) : (a && b) = true := by rw [ha, hb]; rfl
set_option maxRecDepth 100000
theorem roots_named : Tryz.pinned.checked.prog.funcNamed Rows.limitRootsRow.func = some 4 := by kernel_rfl
theorem roots_facts : joinedFacts Tryz.pinned.checked.prog 4 Tryz.f4 Rows.limitRootsSpec Rows.limitRootsRow = true :=
  and2 (and2 (and2 (and2 (and2 (and2 (and2 (and2 (and2 (and2 (and2 (and2 (and2 (and2 (and2 (and2 (and2 (and2 (and2 (and2 (and2 (and2 (and2 (and2 (and2 (and2 (and2 (and2 (and2 (and2 (and2 roots_k0 roots_k1) roots_k2) roots_k3) roots_k4) roots_k5) roots_k6) roots_k7) roots_k8) roots_k9) roots_k10) roots_k11) roots_k12) roots_k13) roots_k14) roots_k15) roots_k16) roots_k17) roots_k18) roots_k19) roots_k20) roots_k21) roots_k22) roots_k23) roots_k24) roots_k25) roots_k26) roots_k27) roots_k28) roots_k29) roots_k30) roots_k31
theorem limitRoots_row : Rows.LimitRootsSaid :=
  OpenClaim.holds_of_wide 4 Tryz.f4 rfl rfl rfl rfl rfl rfl rfl ⟨rfl, rfl, rfl, rfl, rfl⟩ rfl rfl rfl rfl rfl roots_named Tryz.func4 roots_facts
    (of_decide_eq_true (by kernel_rfl)) (by unfold Func.isWrapper; first | (rw [if_pos (by decide +kernel)]; kernel_rfl) | (rw [if_neg (by decide +kernel)]; exact ⟨rfl, rfl⟩))
    (fun os started H enc _ => limitRoots_lifted os started H enc)

end Go.Proofs.YtcnckmkbidklgaaGreatDoor
