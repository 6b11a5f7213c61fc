/- The runs. -/
import Derived.Test.YtlbagpdnlldjnaaGreatDoorB22
set_option linter.all false
set_option maxRecDepth 1000000
set_option maxHeartbeats 0
namespace Go.Ev
noncomputable section
theorem runtrue_0 : ckR (fun j => rootB (envT EB (mkT A11)) j true) 0 1 = true := by decide +kernel
theorem runtrue_1 : ckR (fun j => rootB (envT EB (mkT A11)) j true) 1 1 = true := by decide +kernel
theorem runtrue_2 : ckR (fun j => rootB (envT EB (mkT A11)) j true) 2 1 = true := by decide +kernel
theorem runtrue_3 : ckR (fun j => rootB (envT EB (mkT A11)) j true) 3 1 = true := by decide +kernel
theorem runtrue_4 : ckR (fun j => rootB (envT EB (mkT A11)) j true) 4 1 = true := by decide +kernel
theorem runtrue_5 : ckR (fun j => rootB (envT EB (mkT A11)) j true) 5 1 = true := by decide +kernel
theorem runtrue_6 : ckR (fun j => rootB (envT EB (mkT A11)) j true) 6 1 = true := by decide +kernel
theorem runtrue_7 : ckR (fun j => rootB (envT EB (mkT A11)) j true) 7 1 = true := by decide +kernel
theorem runtrue_8 : ckR (fun j => rootB (envT EB (mkT A11)) j true) 8 1 = true := by decide +kernel
theorem runtrue_9 : ckR (fun j => rootB (envT EB (mkT A11)) j true) 9 1 = true := by decide +kernel
theorem runtrue_10 : ckR (fun j => rootB (envT EB (mkT A11)) j true) 10 1 = true := by decide +kernel
theorem runtrue_11 : ckR (fun j => rootB (envT EB (mkT A11)) j true) 11 1 = true := by decide +kernel
theorem runtrue_12 : ckR (fun j => rootB (envT EB (mkT A11)) j true) 12 1 = true := by decide +kernel
theorem runtrue_13 : ckR (fun j => rootB (envT EB (mkT A11)) j true) 13 1 = true := by decide +kernel
theorem runtrue_14 : ckR (fun j => rootB (envT EB (mkT A11)) j true) 14 1 = true := by decide +kernel
theorem runtrue_15 : ckR (fun j => rootB (envT EB (mkT A11)) j true) 15 1 = true := by decide +kernel
theorem runtrue_16 : ckR (fun j => rootB (envT EB (mkT A11)) j true) 16 1 = true := by decide +kernel
theorem runtrue_17 : ckR (fun j => rootB (envT EB (mkT A11)) j true) 17 1 = true := by decide +kernel
theorem runtrue_18 : ckR (fun j => rootB (envT EB (mkT A11)) j true) 18 1 = true := by decide +kernel
theorem runtrue_19 : ckR (fun j => rootB (envT EB (mkT A11)) j true) 19 1 = true := by decide +kernel
theorem runtrue_20 : ckR (fun j => rootB (envT EB (mkT A11)) j true) 20 1 = true := by decide +kernel
theorem runtrue_21 : ckR (fun j => rootB (envT EB (mkT A11)) j true) 21 1 = true := by decide +kernel
theorem runtrue_22 : ckR (fun j => rootB (envT EB (mkT A11)) j true) 22 1 = true := by decide +kernel
theorem runtrue_23 : ckR (fun j => rootB (envT EB (mkT A11)) j true) 23 1 = true := by decide +kernel
theorem runtrue_24 : ckR (fun j => rootB (envT EB (mkT A11)) j true) 24 1 = true := by decide +kernel
end
end Go.Ev
