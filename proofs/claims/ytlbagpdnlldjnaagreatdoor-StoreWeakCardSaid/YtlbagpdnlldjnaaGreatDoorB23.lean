/- The runs. -/
import Derived.Test.YtlbagpdnlldjnaaGreatDoorB22
set_option linter.all false
set_option maxRecDepth 1000000
set_option maxHeartbeats 0
namespace Go.Ev
noncomputable section
theorem runfalse_0 : ckR (fun j => rootB (envT EB (mkT A11)) j false) 0 1 = true := by decide +kernel
theorem runfalse_1 : ckR (fun j => rootB (envT EB (mkT A11)) j false) 1 1 = true := by decide +kernel
theorem runfalse_2 : ckR (fun j => rootB (envT EB (mkT A11)) j false) 2 1 = true := by decide +kernel
theorem runfalse_3 : ckR (fun j => rootB (envT EB (mkT A11)) j false) 3 1 = true := by decide +kernel
theorem runfalse_4 : ckR (fun j => rootB (envT EB (mkT A11)) j false) 4 1 = true := by decide +kernel
theorem runfalse_5 : ckR (fun j => rootB (envT EB (mkT A11)) j false) 5 1 = true := by decide +kernel
theorem runfalse_6 : ckR (fun j => rootB (envT EB (mkT A11)) j false) 6 1 = true := by decide +kernel
theorem runfalse_7 : ckR (fun j => rootB (envT EB (mkT A11)) j false) 7 1 = true := by decide +kernel
theorem runfalse_8 : ckR (fun j => rootB (envT EB (mkT A11)) j false) 8 1 = true := by decide +kernel
theorem runfalse_9 : ckR (fun j => rootB (envT EB (mkT A11)) j false) 9 1 = true := by decide +kernel
theorem runfalse_10 : ckR (fun j => rootB (envT EB (mkT A11)) j false) 10 1 = true := by decide +kernel
theorem runfalse_11 : ckR (fun j => rootB (envT EB (mkT A11)) j false) 11 1 = true := by decide +kernel
theorem runfalse_12 : ckR (fun j => rootB (envT EB (mkT A11)) j false) 12 1 = true := by decide +kernel
theorem runfalse_13 : ckR (fun j => rootB (envT EB (mkT A11)) j false) 13 1 = true := by decide +kernel
theorem runfalse_14 : ckR (fun j => rootB (envT EB (mkT A11)) j false) 14 1 = true := by decide +kernel
theorem runfalse_15 : ckR (fun j => rootB (envT EB (mkT A11)) j false) 15 1 = true := by decide +kernel
theorem runfalse_16 : ckR (fun j => rootB (envT EB (mkT A11)) j false) 16 1 = true := by decide +kernel
theorem runfalse_17 : ckR (fun j => rootB (envT EB (mkT A11)) j false) 17 1 = true := by decide +kernel
theorem runfalse_18 : ckR (fun j => rootB (envT EB (mkT A11)) j false) 18 1 = true := by decide +kernel
theorem runfalse_19 : ckR (fun j => rootB (envT EB (mkT A11)) j false) 19 1 = true := by decide +kernel
theorem runfalse_20 : ckR (fun j => rootB (envT EB (mkT A11)) j false) 20 1 = true := by decide +kernel
theorem runfalse_21 : ckR (fun j => rootB (envT EB (mkT A11)) j false) 21 1 = true := by decide +kernel
theorem runfalse_22 : ckR (fun j => rootB (envT EB (mkT A11)) j false) 22 1 = true := by decide +kernel
theorem runfalse_23 : ckR (fun j => rootB (envT EB (mkT A11)) j false) 23 1 = true := by decide +kernel
theorem runfalse_24 : ckR (fun j => rootB (envT EB (mkT A11)) j false) 24 1 = true := by decide +kernel
end
end Go.Ev
