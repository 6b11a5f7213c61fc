/- 'LimitObjs', its row. -/
import Derived.Test.YtcnckmkbidklgaaGreatDoorObjsP
import Derived.Test.YtcnckmkbidklgaaGreatDoorObjsFA
import Derived.Test.YtcnckmkbidklgaaGreatDoorObjsFB
import Derived.Test.YtcnckmkbidklgaaGreatDoorObjsFC
import Derived.Test.YtcnckmkbidklgaaGreatDoorObjsFD
namespace Go.Proofs.YtcnckmkbidklgaaGreatDoor
open Go.ChangeShapes Go.WideShapes Go.ChangeAt Go.RowKit

theorem and2 {a b : Bool} (ha : a = true) (hb : b = true) : (a && b) = true := by rw [ha, hb]; rfl
set_option maxRecDepth 100000
theorem objs_named : Tryz.pinned.checked.prog.funcNamed Rows.limitObjsRow.func = some 3 := by kernel_rfl
theorem objs_facts : joinedFacts Tryz.pinned.checked.prog 3 Tryz.f3 Rows.limitObjsSpec Rows.limitObjsRow = true :=
  and2 (and2 (and2 (and2 (and2 (and2 (and2 (and2 (and2 (and2 (and2 (and2 (and2 (and2 (and2 (and2 (and2 (and2 (and2 (and2 (and2 (and2 (and2 (and2 (and2 (and2 (and2 (and2 (and2 (and2 (and2 objs_k0 objs_k1) objs_k2) objs_k3) objs_k4) objs_k5) objs_k6) objs_k7) objs_k8) objs_k9) objs_k10) objs_k11) objs_k12) objs_k13) objs_k14) objs_k15) objs_k16) objs_k17) objs_k18) objs_k19) objs_k20) objs_k21) objs_k22) objs_k23) objs_k24) objs_k25) objs_k26) objs_k27) objs_k28) objs_k29) objs_k30) objs_k31
theorem limitObjs_row : Rows.LimitObjsSaid :=
  OpenClaim.holds_of_wide 3 Tryz.f3 rfl rfl rfl rfl rfl rfl rfl ⟨rfl, rfl, rfl, rfl, rfl⟩ rfl rfl rfl rfl rfl objs_named Tryz.func3 objs_facts
    (of_decide_eq_true (by kernel_rfl)) (by unfold Func.isWrapper; first | (rw [if_pos (by decide +kernel)]; kernel_rfl) | (rw [if_neg (by decide +kernel)]; exact ⟨rfl, rfl⟩))
    (fun os started H enc _ => limitObjs_lifted os started H enc)

end Go.Proofs.YtcnckmkbidklgaaGreatDoor
