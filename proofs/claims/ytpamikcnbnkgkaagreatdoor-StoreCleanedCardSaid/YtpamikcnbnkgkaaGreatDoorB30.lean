/- The runs. -/
import Derived.Test.YtpamikcnbnkgkaaGreatDoorB29
set_option linter.all false
set_option maxRecDepth 1000000
set_option maxHeartbeats 0
namespace Go.Ev
noncomputable section
theorem run0_0 : ckR (fun j => rootB (envT EB (mkT A11)) 0 j) 0 1 = true := by decide +kernel
theorem run0_1 : ckR (fun j => rootB (envT EB (mkT A11)) 0 j) 1 1 = true := by decide +kernel
theorem run0_2 : ckR (fun j => rootB (envT EB (mkT A11)) 0 j) 2 1 = true := by decide +kernel
theorem run0_3 : ckR (fun j => rootB (envT EB (mkT A11)) 0 j) 3 1 = true := by decide +kernel
theorem run0_4 : ckR (fun j => rootB (envT EB (mkT A11)) 0 j) 4 1 = true := by decide +kernel
theorem run0_5 : ckR (fun j => rootB (envT EB (mkT A11)) 0 j) 5 1 = true := by decide +kernel
theorem run0_6 : ckR (fun j => rootB (envT EB (mkT A11)) 0 j) 6 1 = true := by decide +kernel
theorem run0_7 : ckR (fun j => rootB (envT EB (mkT A11)) 0 j) 7 1 = true := by decide +kernel
theorem run0_8 : ckR (fun j => rootB (envT EB (mkT A11)) 0 j) 8 1 = true := by decide +kernel
theorem run0_9 : ckR (fun j => rootB (envT EB (mkT A11)) 0 j) 9 1 = true := by decide +kernel
end
end Go.Ev
set_option maxRecDepth 1000000
set_option maxHeartbeats 0
namespace Go.Ev
noncomputable section
theorem run0_30 : ckR (fun j => rootB (envT EB (mkT A11)) 0 j) 30 1 = true := by decide +kernel
theorem run0_31 : ckR (fun j => rootB (envT EB (mkT A11)) 0 j) 31 1 = true := by decide +kernel
theorem run0_32 : ckR (fun j => rootB (envT EB (mkT A11)) 0 j) 32 1 = true := by decide +kernel
theorem run0_33 : ckR (fun j => rootB (envT EB (mkT A11)) 0 j) 33 1 = true := by decide +kernel
theorem run0_34 : ckR (fun j => rootB (envT EB (mkT A11)) 0 j) 34 1 = true := by decide +kernel
theorem run0_35 : ckR (fun j => rootB (envT EB (mkT A11)) 0 j) 35 1 = true := by decide +kernel
theorem run0_36 : ckR (fun j => rootB (envT EB (mkT A11)) 0 j) 36 1 = true := by decide +kernel
theorem run0_37 : ckR (fun j => rootB (envT EB (mkT A11)) 0 j) 37 1 = true := by decide +kernel
theorem run0_38 : ckR (fun j => rootB (envT EB (mkT A11)) 0 j) 38 1 = true := by decide +kernel
theorem run0_39 : ckR (fun j => rootB (envT EB (mkT A11)) 0 j) 39 1 = true := by decide +kernel
end
end Go.Ev
set_option maxRecDepth 1000000
set_option maxHeartbeats 0
namespace Go.Ev
noncomputable section
theorem run1_10 : ckR (fun j => rootB (envT EB (mkT A11)) 1 j) 10 1 = true := by decide +kernel
theorem run1_11 : ckR (fun j => rootB (envT EB (mkT A11)) 1 j) 11 1 = true := by decide +kernel
theorem run1_12 : ckR (fun j => rootB (envT EB (mkT A11)) 1 j) 12 1 = true := by decide +kernel
theorem run1_13 : ckR (fun j => rootB (envT EB (mkT A11)) 1 j) 13 1 = true := by decide +kernel
theorem run1_14 : ckR (fun j => rootB (envT EB (mkT A11)) 1 j) 14 1 = true := by decide +kernel
theorem run1_15 : ckR (fun j => rootB (envT EB (mkT A11)) 1 j) 15 1 = true := by decide +kernel
theorem run1_16 : ckR (fun j => rootB (envT EB (mkT A11)) 1 j) 16 1 = true := by decide +kernel
theorem run1_17 : ckR (fun j => rootB (envT EB (mkT A11)) 1 j) 17 1 = true := by decide +kernel
theorem run1_18 : ckR (fun j => rootB (envT EB (mkT A11)) 1 j) 18 1 = true := by decide +kernel
theorem run1_19 : ckR (fun j => rootB (envT EB (mkT A11)) 1 j) 19 1 = true := by decide +kernel
end
end Go.Ev
set_option maxRecDepth 1000000
set_option maxHeartbeats 0
namespace Go.Ev
noncomputable section
theorem run1_40 : ckR (fun j => rootB (envT EB (mkT A11)) 1 j) 40 1 = true := by decide +kernel
theorem run1_41 : ckR (fun j => rootB (envT EB (mkT A11)) 1 j) 41 1 = true := by decide +kernel
theorem run1_42 : ckR (fun j => rootB (envT EB (mkT A11)) 1 j) 42 1 = true := by decide +kernel
theorem run1_43 : ckR (fun j => rootB (envT EB (mkT A11)) 1 j) 43 1 = true := by decide +kernel
theorem run1_44 : ckR (fun j => rootB (envT EB (mkT A11)) 1 j) 44 1 = true := by decide +kernel
theorem run1_45 : ckR (fun j => rootB (envT EB (mkT A11)) 1 j) 45 1 = true := by decide +kernel
theorem run1_46 : ckR (fun j => rootB (envT EB (mkT A11)) 1 j) 46 1 = true := by decide +kernel
theorem run1_47 : ckR (fun j => rootB (envT EB (mkT A11)) 1 j) 47 1 = true := by decide +kernel
theorem run1_48 : ckR (fun j => rootB (envT EB (mkT A11)) 1 j) 48 1 = true := by decide +kernel
theorem run1_49 : ckR (fun j => rootB (envT EB (mkT A11)) 1 j) 49 1 = true := by decide +kernel
end
end Go.Ev
set_option maxRecDepth 1000000
set_option maxHeartbeats 0
namespace Go.Ev
noncomputable section
theorem run2_20 : ckR (fun j => rootB (envT EB (mkT A11)) 2 j) 20 1 = true := by decide +kernel
theorem run2_21 : ckR (fun j => rootB (envT EB (mkT A11)) 2 j) 21 1 = true := by decide +kernel
theorem run2_22 : ckR (fun j => rootB (envT EB (mkT A11)) 2 j) 22 1 = true := by decide +kernel
theorem run2_23 : ckR (fun j => rootB (envT EB (mkT A11)) 2 j) 23 1 = true := by decide +kernel
theorem run2_24 : ckR (fun j => rootB (envT EB (mkT A11)) 2 j) 24 1 = true := by decide +kernel
theorem run2_25 : ckR (fun j => rootB (envT EB (mkT A11)) 2 j) 25 1 = true := by decide +kernel
theorem run2_26 : ckR (fun j => rootB (envT EB (mkT A11)) 2 j) 26 1 = true := by decide +kernel
theorem run2_27 : ckR (fun j => rootB (envT EB (mkT A11)) 2 j) 27 1 = true := by decide +kernel
theorem run2_28 : ckR (fun j => rootB (envT EB (mkT A11)) 2 j) 28 1 = true := by decide +kernel
theorem run2_29 : ckR (fun j => rootB (envT EB (mkT A11)) 2 j) 29 1 = true := by decide +kernel
end
end Go.Ev
