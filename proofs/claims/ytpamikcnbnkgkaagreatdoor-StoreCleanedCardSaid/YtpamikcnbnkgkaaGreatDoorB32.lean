/- The runs. -/
import Derived.Test.YtpamikcnbnkgkaaGreatDoorB29
set_option linter.all false
set_option maxRecDepth 1000000
set_option maxHeartbeats 0
namespace Go.Ev
noncomputable section
theorem run0_20 : ckR (fun j => rootB (envT EB (mkT A11)) 0 j) 20 1 = true := by decide +kernel
theorem run0_21 : ckR (fun j => rootB (envT EB (mkT A11)) 0 j) 21 1 = true := by decide +kernel
theorem run0_22 : ckR (fun j => rootB (envT EB (mkT A11)) 0 j) 22 1 = true := by decide +kernel
theorem run0_23 : ckR (fun j => rootB (envT EB (mkT A11)) 0 j) 23 1 = true := by decide +kernel
theorem run0_24 : ckR (fun j => rootB (envT EB (mkT A11)) 0 j) 24 1 = true := by decide +kernel
theorem run0_25 : ckR (fun j => rootB (envT EB (mkT A11)) 0 j) 25 1 = true := by decide +kernel
theorem run0_26 : ckR (fun j => rootB (envT EB (mkT A11)) 0 j) 26 1 = true := by decide +kernel
theorem run0_27 : ckR (fun j => rootB (envT EB (mkT A11)) 0 j) 27 1 = true := by decide +kernel
theorem run0_28 : ckR (fun j => rootB (envT EB (mkT A11)) 0 j) 28 1 = true := by decide +kernel
theorem run0_29 : ckR (fun j => rootB (envT EB (mkT A11)) 0 j) 29 1 = true := by decide +kernel
end
end Go.Ev
set_option maxRecDepth 1000000
set_option maxHeartbeats 0
namespace Go.Ev
noncomputable section
theorem run1_0 : ckR (fun j => rootB (envT EB (mkT A11)) 1 j) 0 1 = true := by decide +kernel
theorem run1_1 : ckR (fun j => rootB (envT EB (mkT A11)) 1 j) 1 1 = true := by decide +kernel
theorem run1_2 : ckR (fun j => rootB (envT EB (mkT A11)) 1 j) 2 1 = true := by decide +kernel
theorem run1_3 : ckR (fun j => rootB (envT EB (mkT A11)) 1 j) 3 1 = true := by decide +kernel
theorem run1_4 : ckR (fun j => rootB (envT EB (mkT A11)) 1 j) 4 1 = true := by decide +kernel
theorem run1_5 : ckR (fun j => rootB (envT EB (mkT A11)) 1 j) 5 1 = true := by decide +kernel
theorem run1_6 : ckR (fun j => rootB (envT EB (mkT A11)) 1 j) 6 1 = true := by decide +kernel
theorem run1_7 : ckR (fun j => rootB (envT EB (mkT A11)) 1 j) 7 1 = true := by decide +kernel
theorem run1_8 : ckR (fun j => rootB (envT EB (mkT A11)) 1 j) 8 1 = true := by decide +kernel
theorem run1_9 : ckR (fun j => rootB (envT EB (mkT A11)) 1 j) 9 1 = true := by decide +kernel
end
end Go.Ev
set_option maxRecDepth 1000000
set_option maxHeartbeats 0
namespace Go.Ev
noncomputable section
theorem run1_30 : ckR (fun j => rootB (envT EB (mkT A11)) 1 j) 30 1 = true := by decide +kernel
theorem run1_31 : ckR (fun j => rootB (envT EB (mkT A11)) 1 j) 31 1 = true := by decide +kernel
theorem run1_32 : ckR (fun j => rootB (envT EB (mkT A11)) 1 j) 32 1 = true := by decide +kernel
theorem run1_33 : ckR (fun j => rootB (envT EB (mkT A11)) 1 j) 33 1 = true := by decide +kernel
theorem run1_34 : ckR (fun j => rootB (envT EB (mkT A11)) 1 j) 34 1 = true := by decide +kernel
theorem run1_35 : ckR (fun j => rootB (envT EB (mkT A11)) 1 j) 35 1 = true := by decide +kernel
theorem run1_36 : ckR (fun j => rootB (envT EB (mkT A11)) 1 j) 36 1 = true := by decide +kernel
theorem run1_37 : ckR (fun j => rootB (envT EB (mkT A11)) 1 j) 37 1 = true := by decide +kernel
theorem run1_38 : ckR (fun j => rootB (envT EB (mkT A11)) 1 j) 38 1 = true := by decide +kernel
theorem run1_39 : ckR (fun j => rootB (envT EB (mkT A11)) 1 j) 39 1 = true := by decide +kernel
end
end Go.Ev
set_option maxRecDepth 1000000
set_option maxHeartbeats 0
namespace Go.Ev
noncomputable section
theorem run2_10 : ckR (fun j => rootB (envT EB (mkT A11)) 2 j) 10 1 = true := by decide +kernel
theorem run2_11 : ckR (fun j => rootB (envT EB (mkT A11)) 2 j) 11 1 = true := by decide +kernel
theorem run2_12 : ckR (fun j => rootB (envT EB (mkT A11)) 2 j) 12 1 = true := by decide +kernel
theorem run2_13 : ckR (fun j => rootB (envT EB (mkT A11)) 2 j) 13 1 = true := by decide +kernel
theorem run2_14 : ckR (fun j => rootB (envT EB (mkT A11)) 2 j) 14 1 = true := by decide +kernel
theorem run2_15 : ckR (fun j => rootB (envT EB (mkT A11)) 2 j) 15 1 = true := by decide +kernel
theorem run2_16 : ckR (fun j => rootB (envT EB (mkT A11)) 2 j) 16 1 = true := by decide +kernel
theorem run2_17 : ckR (fun j => rootB (envT EB (mkT A11)) 2 j) 17 1 = true := by decide +kernel
theorem run2_18 : ckR (fun j => rootB (envT EB (mkT A11)) 2 j) 18 1 = true := by decide +kernel
theorem run2_19 : ckR (fun j => rootB (envT EB (mkT A11)) 2 j) 19 1 = true := by decide +kernel
end
end Go.Ev
set_option maxRecDepth 1000000
set_option maxHeartbeats 0
namespace Go.Ev
noncomputable section
theorem run2_40 : ckR (fun j => rootB (envT EB (mkT A11)) 2 j) 40 1 = true := by decide +kernel
theorem run2_41 : ckR (fun j => rootB (envT EB (mkT A11)) 2 j) 41 1 = true := by decide +kernel
theorem run2_42 : ckR (fun j => rootB (envT EB (mkT A11)) 2 j) 42 1 = true := by decide +kernel
theorem run2_43 : ckR (fun j => rootB (envT EB (mkT A11)) 2 j) 43 1 = true := by decide +kernel
theorem run2_44 : ckR (fun j => rootB (envT EB (mkT A11)) 2 j) 44 1 = true := by decide +kernel
theorem run2_45 : ckR (fun j => rootB (envT EB (mkT A11)) 2 j) 45 1 = true := by decide +kernel
theorem run2_46 : ckR (fun j => rootB (envT EB (mkT A11)) 2 j) 46 1 = true := by decide +kernel
theorem run2_47 : ckR (fun j => rootB (envT EB (mkT A11)) 2 j) 47 1 = true := by decide +kernel
theorem run2_48 : ckR (fun j => rootB (envT EB (mkT A11)) 2 j) 48 1 = true := by decide +kernel
theorem run2_49 : ckR (fun j => rootB (envT EB (mkT A11)) 2 j) 49 1 = true := by decide +kernel
end
end Go.Ev
