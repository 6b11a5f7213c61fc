/- The runs. -/
import Derived.Test.YtlbagpdnlldjnaaGreatDoorB22
set_option linter.all false
set_option maxRecDepth 1000000
set_option maxHeartbeats 0
namespace Go.Ev
noncomputable section
theorem runtrue_25 : ckR (fun j => rootB (envT EB (mkT A11)) j true) 25 1 = true := by decide +kernel
theorem runtrue_26 : ckR (fun j => rootB (envT EB (mkT A11)) j true) 26 1 = true := by decide +kernel
theorem runtrue_27 : ckR (fun j => rootB (envT EB (mkT A11)) j true) 27 1 = true := by decide +kernel
theorem runtrue_28 : ckR (fun j => rootB (envT EB (mkT A11)) j true) 28 1 = true := by decide +kernel
theorem runtrue_29 : ckR (fun j => rootB (envT EB (mkT A11)) j true) 29 1 = true := by decide +kernel
theorem runtrue_30 : ckR (fun j => rootB (envT EB (mkT A11)) j true) 30 1 = true := by decide +kernel
theorem runtrue_31 : ckR (fun j => rootB (envT EB (mkT A11)) j true) 31 1 = true := by decide +kernel
theorem runtrue_32 : ckR (fun j => rootB (envT EB (mkT A11)) j true) 32 1 = true := by decide +kernel
theorem runtrue_33 : ckR (fun j => rootB (envT EB (mkT A11)) j true) 33 1 = true := by decide +kernel
theorem runtrue_34 : ckR (fun j => rootB (envT EB (mkT A11)) j true) 34 1 = true := by decide +kernel
theorem runtrue_35 : ckR (fun j => rootB (envT EB (mkT A11)) j true) 35 1 = true := by decide +kernel
theorem runtrue_36 : ckR (fun j => rootB (envT EB (mkT A11)) j true) 36 1 = true := by decide +kernel
theorem runtrue_37 : ckR (fun j => rootB (envT EB (mkT A11)) j true) 37 1 = true := by decide +kernel
theorem runtrue_38 : ckR (fun j => rootB (envT EB (mkT A11)) j true) 38 1 = true := by decide +kernel
theorem runtrue_39 : ckR (fun j => rootB (envT EB (mkT A11)) j true) 39 1 = true := by decide +kernel
theorem runtrue_40 : ckR (fun j => rootB (envT EB (mkT A11)) j true) 40 1 = true := by decide +kernel
theorem runtrue_41 : ckR (fun j => rootB (envT EB (mkT A11)) j true) 41 1 = true := by decide +kernel
theorem runtrue_42 : ckR (fun j => rootB (envT EB (mkT A11)) j true) 42 1 = true := by decide +kernel
theorem runtrue_43 : ckR (fun j => rootB (envT EB (mkT A11)) j true) 43 1 = true := by decide +kernel
theorem runtrue_44 : ckR (fun j => rootB (envT EB (mkT A11)) j true) 44 1 = true := by decide +kernel
theorem runtrue_45 : ckR (fun j => rootB (envT EB (mkT A11)) j true) 45 1 = true := by decide +kernel
theorem runtrue_46 : ckR (fun j => rootB (envT EB (mkT A11)) j true) 46 1 = true := by decide +kernel
theorem runtrue_47 : ckR (fun j => rootB (envT EB (mkT A11)) j true) 47 1 = true := by decide +kernel
theorem runtrue_48 : ckR (fun j => rootB (envT EB (mkT A11)) j true) 48 1 = true := by decide +kernel
theorem runtrue_49 : ckR (fun j => rootB (envT EB (mkT A11)) j true) 49 1 = true := by decide +kernel
end
end Go.Ev
