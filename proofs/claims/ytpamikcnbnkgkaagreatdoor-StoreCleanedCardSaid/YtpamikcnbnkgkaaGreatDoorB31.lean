/- The runs. -/
import Derived.Test.YtpamikcnbnkgkaaGreatDoorB29
set_option linter.all false
set_option maxRecDepth 1000000
set_option maxHeartbeats 0
namespace Go.Ev
noncomputable section
theorem run0_10 : ckR (fun j => rootB (envT EB (mkT A11)) 0 j) 10 1 = true := by decide +kernel
theorem run0_11 : ckR (fun j => rootB (envT EB (mkT A11)) 0 j) 11 1 = true := by decide +kernel
theorem run0_12 : ckR (fun j => rootB (envT EB (mkT A11)) 0 j) 12 1 = true := by decide +kernel
theorem run0_13 : ckR (fun j => rootB (envT EB (mkT A11)) 0 j) 13 1 = true := by decide +kernel
theorem run0_14 : ckR (fun j => rootB (envT EB (mkT A11)) 0 j) 14 1 = true := by decide +kernel
theorem run0_15 : ckR (fun j => rootB (envT EB (mkT A11)) 0 j) 15 1 = true := by decide +kernel
theorem run0_16 : ckR (fun j => rootB (envT EB (mkT A11)) 0 j) 16 1 = true := by decide +kernel
theorem run0_17 : ckR (fun j => rootB (envT EB (mkT A11)) 0 j) 17 1 = true := by decide +kernel
theorem run0_18 : ckR (fun j => rootB (envT EB (mkT A11)) 0 j) 18 1 = true := by decide +kernel
theorem run0_19 : ckR (fun j => rootB (envT EB (mkT A11)) 0 j) 19 1 = true := by decide +kernel
end
end Go.Ev
set_option maxRecDepth 1000000
set_option maxHeartbeats 0
namespace Go.Ev
noncomputable section
theorem run0_40 : ckR (fun j => rootB (envT EB (mkT A11)) 0 j) 40 1 = true := by decide +kernel
theorem run0_41 : ckR (fun j => rootB (envT EB (mkT A11)) 0 j) 41 1 = true := by decide +kernel
theorem run0_42 : ckR (fun j => rootB (envT EB (mkT A11)) 0 j) 42 1 = true := by decide +kernel
theorem run0_43 : ckR (fun j => rootB (envT EB (mkT A11)) 0 j) 43 1 = true := by decide +kernel
theorem run0_44 : ckR (fun j => rootB (envT EB (mkT A11)) 0 j) 44 1 = true := by decide +kernel
theorem run0_45 : ckR (fun j => rootB (envT EB (mkT A11)) 0 j) 45 1 = true := by decide +kernel
theorem run0_46 : ckR (fun j => rootB (envT EB (mkT A11)) 0 j) 46 1 = true := by decide +kernel
theorem run0_47 : ckR (fun j => rootB (envT EB (mkT A11)) 0 j) 47 1 = true := by decide +kernel
theorem run0_48 : ckR (fun j => rootB (envT EB (mkT A11)) 0 j) 48 1 = true := by decide +kernel
theorem run0_49 : ckR (fun j => rootB (envT EB (mkT A11)) 0 j) 49 1 = true := by decide +kernel
end
end Go.Ev
set_option maxRecDepth 1000000
set_option maxHeartbeats 0
namespace Go.Ev
noncomputable section
theorem run1_20 : ckR (fun j => rootB (envT EB (mkT A11)) 1 j) 20 1 = true := by decide +kernel
theorem run1_21 : ckR (fun j => rootB (envT EB (mkT A11)) 1 j) 21 1 = true := by decide +kernel
theorem run1_22 : ckR (fun j => rootB (envT EB (mkT A11)) 1 j) 22 1 = true := by decide +kernel
theorem run1_23 : ckR (fun j => rootB (envT EB (mkT A11)) 1 j) 23 1 = true := by decide +kernel
theorem run1_24 : ckR (fun j => rootB (envT EB (mkT A11)) 1 j) 24 1 = true := by decide +kernel
theorem run1_25 : ckR (fun j => rootB (envT EB (mkT A11)) 1 j) 25 1 = true := by decide +kernel
theorem run1_26 : ckR (fun j => rootB (envT EB (mkT A11)) 1 j) 26 1 = true := by decide +kernel
theorem run1_27 : ckR (fun j => rootB (envT EB (mkT A11)) 1 j) 27 1 = true := by decide +kernel
theorem run1_28 : ckR (fun j => rootB (envT EB (mkT A11)) 1 j) 28 1 = true := by decide +kernel
theorem run1_29 : ckR (fun j => rootB (envT EB (mkT A11)) 1 j) 29 1 = true := by decide +kernel
end
end Go.Ev
set_option maxRecDepth 1000000
set_option maxHeartbeats 0
namespace Go.Ev
noncomputable section
theorem run2_0 : ckR (fun j => rootB (envT EB (mkT A11)) 2 j) 0 1 = true := by decide +kernel
theorem run2_1 : ckR (fun j => rootB (envT EB (mkT A11)) 2 j) 1 1 = true := by decide +kernel
theorem run2_2 : ckR (fun j => rootB (envT EB (mkT A11)) 2 j) 2 1 = true := by decide +kernel
theorem run2_3 : ckR (fun j => rootB (envT EB (mkT A11)) 2 j) 3 1 = true := by decide +kernel
theorem run2_4 : ckR (fun j => rootB (envT EB (mkT A11)) 2 j) 4 1 = true := by decide +kernel
theorem run2_5 : ckR (fun j => rootB (envT EB (mkT A11)) 2 j) 5 1 = true := by decide +kernel
theorem run2_6 : ckR (fun j => rootB (envT EB (mkT A11)) 2 j) 6 1 = true := by decide +kernel
theorem run2_7 : ckR (fun j => rootB (envT EB (mkT A11)) 2 j) 7 1 = true := by decide +kernel
theorem run2_8 : ckR (fun j => rootB (envT EB (mkT A11)) 2 j) 8 1 = true := by decide +kernel
theorem run2_9 : ckR (fun j => rootB (envT EB (mkT A11)) 2 j) 9 1 = true := by decide +kernel
end
end Go.Ev
set_option maxRecDepth 1000000
set_option maxHeartbeats 0
namespace Go.Ev
noncomputable section
theorem run2_30 : ckR (fun j => rootB (envT EB (mkT A11)) 2 j) 30 1 = true := by decide +kernel
theorem run2_31 : ckR (fun j => rootB (envT EB (mkT A11)) 2 j) 31 1 = true := by decide +kernel
theorem run2_32 : ckR (fun j => rootB (envT EB (mkT A11)) 2 j) 32 1 = true := by decide +kernel
theorem run2_33 : ckR (fun j => rootB (envT EB (mkT A11)) 2 j) 33 1 = true := by decide +kernel
theorem run2_34 : ckR (fun j => rootB (envT EB (mkT A11)) 2 j) 34 1 = true := by decide +kernel
theorem run2_35 : ckR (fun j => rootB (envT EB (mkT A11)) 2 j) 35 1 = true := by decide +kernel
theorem run2_36 : ckR (fun j => rootB (envT EB (mkT A11)) 2 j) 36 1 = true := by decide +kernel
theorem run2_37 : ckR (fun j => rootB (envT EB (mkT A11)) 2 j) 37 1 = true := by decide +kernel
theorem run2_38 : ckR (fun j => rootB (envT EB (mkT A11)) 2 j) 38 1 = true := by decide +kernel
theorem run2_39 : ckR (fun j => rootB (envT EB (mkT A11)) 2 j) 39 1 = true := by decide +kernel
end
end Go.Ev
