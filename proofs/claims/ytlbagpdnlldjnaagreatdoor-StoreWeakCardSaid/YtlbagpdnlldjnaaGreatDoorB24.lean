/- The runs. -/
import Derived.Test.YtlbagpdnlldjnaaGreatDoorB22
set_option linter.all false
set_option maxRecDepth 1000000
set_option maxHeartbeats 0
namespace Go.Ev
noncomputable section
theorem runfalse_25 : ckR (fun j => rootB (envT EB (mkT A11)) j false) 25 1 = true := by decide +kernel
theorem runfalse_26 : ckR (fun j => rootB (envT EB (mkT A11)) j false) 26 1 = true := by decide +kernel
theorem runfalse_27 : ckR (fun j => rootB (envT EB (mkT A11)) j false) 27 1 = true := by decide +kernel
theorem runfalse_28 : ckR (fun j => rootB (envT EB (mkT A11)) j false) 28 1 = true := by decide +kernel
theorem runfalse_29 : ckR (fun j => rootB (envT EB (mkT A11)) j false) 29 1 = true := by decide +kernel
theorem runfalse_30 : ckR (fun j => rootB (envT EB (mkT A11)) j false) 30 1 = true := by decide +kernel
theorem runfalse_31 : ckR (fun j => rootB (envT EB (mkT A11)) j false) 31 1 = true := by decide +kernel
theorem runfalse_32 : ckR (fun j => rootB (envT EB (mkT A11)) j false) 32 1 = true := by decide +kernel
theorem runfalse_33 : ckR (fun j => rootB (envT EB (mkT A11)) j false) 33 1 = true := by decide +kernel
theorem runfalse_34 : ckR (fun j => rootB (envT EB (mkT A11)) j false) 34 1 = true := by decide +kernel
theorem runfalse_35 : ckR (fun j => rootB (envT EB (mkT A11)) j false) 35 1 = true := by decide +kernel
theorem runfalse_36 : ckR (fun j => rootB (envT EB (mkT A11)) j false) 36 1 = true := by decide +kernel
theorem runfalse_37 : ckR (fun j => rootB (envT EB (mkT A11)) j false) 37 1 = true := by decide +kernel
theorem runfalse_38 : ckR (fun j => rootB (envT EB (mkT A11)) j false) 38 1 = true := by decide +kernel
theorem runfalse_39 : ckR (fun j => rootB (envT EB (mkT A11)) j false) 39 1 = true := by decide +kernel
theorem runfalse_40 : ckR (fun j => rootB (envT EB (mkT A11)) j false) 40 1 = true := by decide +kernel
theorem runfalse_41 : ckR (fun j => rootB (envT EB (mkT A11)) j false) 41 1 = true := by decide +kernel
theorem runfalse_42 : ckR (fun j => rootB (envT EB (mkT A11)) j false) 42 1 = true := by decide +kernel
theorem runfalse_43 : ckR (fun j => rootB (envT EB (mkT A11)) j false) 43 1 = true := by decide +kernel
theorem runfalse_44 : ckR (fun j => rootB (envT EB (mkT A11)) j false) 44 1 = true := by decide +kernel
theorem runfalse_45 : ckR (fun j => rootB (envT EB (mkT A11)) j false) 45 1 = true := by decide +kernel
theorem runfalse_46 : ckR (fun j => rootB (envT EB (mkT A11)) j false) 46 1 = true := by decide +kernel
theorem runfalse_47 : ckR (fun j => rootB (envT EB (mkT A11)) j false) 47 1 = true := by decide +kernel
theorem runfalse_48 : ckR (fun j => rootB (envT EB (mkT A11)) j false) 48 1 = true := by decide +kernel
theorem runfalse_49 : ckR (fun j => rootB (envT EB (mkT A11)) j false) 49 1 = true := by decide +kernel
end
end Go.Ev
