/- All calls up to rank 9. -/
import Derived.Test.YtolinijabfbjpaaGreatDoorB25
import Derived.Test.YtolinijabfbjpaaGreatDoorB26
import Derived.Test.YtolinijabfbjpaaGreatDoorB27
import Derived.Test.YtolinijabfbjpaaGreatDoorB28
import Derived.Test.YtolinijabfbjpaaGreatDoorA12
set_option linter.all false
set_option maxRecDepth 1000000
set_option maxHeartbeats 0
namespace Go.Ev
noncomputable section
def A10 : List Ent := L9aa ++ (L9ab ++ (L9ac ++ (L9ad ++ (L9ae ++ (L9af ++ (L9ag ++ (L9ah ++ (L9ai ++ (L9aj ++ (L9ak ++ (L9al ++ (L9am ++ (L9an ++ A9)))))))))))))
theorem okA10 : AllOK A10 := (L9aa_ok.app (L9ab_ok.app (L9ac_ok.app (L9ad_ok.app (L9ae_ok.app (L9af_ok.app (L9ag_ok.app (L9ah_ok.app (L9ai_ok.app (L9aj_ok.app (L9ak_ok.app (L9al_ok.app (L9am_ok.app (L9an_ok.app okA9))))))))))))))
end
end Go.Ev

/- Calls that are proved, rank 10. -/
set_option maxRecDepth 1000000
set_option maxHeartbeats 0
namespace Go.Ev
noncomputable section
def L10aa : List Ent := [
 N 4 0 [] 3 [] xe 3 [],
 N 6 0 [x2] 5 x3t (.t [P 5 0,xe]) 8 [(4,x3x),(5,C 87 [S 6 0 1 2,P 7 0,x3,x7,x5,x0,N0,x4]),(6,x3l),(7,C 176 ([x2,x3,x3u,x7,x5]++x3c++x3d))]]
theorem L10aa_t : entsB (envT EB (mkT A10)) L10aa = true := by decide +kernel
theorem L10aa_ok : AllOK L10aa := entsB_ok (like_of okA10) L10aa_t
end
end Go.Ev

/- All calls up to rank 10. -/
set_option maxRecDepth 1000000
set_option maxHeartbeats 0
namespace Go.Ev
noncomputable section
def A11 : List Ent := L10aa ++ A10
theorem okA11 : AllOK A11 := (L10aa_ok.app okA10)
end
end Go.Ev

/- The runs. -/
set_option maxRecDepth 1000000
set_option maxHeartbeats 0
namespace Go.Ev
noncomputable section
theorem run0 : rootB (envT EB (mkT A11)) 0 = true := by decide +kernel
theorem run1 : rootB (envT EB (mkT A11)) 1 = true := by decide +kernel
theorem run2 : rootB (envT EB (mkT A11)) 2 = true := by decide +kernel
theorem run3 : rootB (envT EB (mkT A11)) 3 = true := by decide +kernel
end
end Go.Ev

/- The runs. -/
set_option maxRecDepth 1000000
set_option maxHeartbeats 0
namespace Go.Ev
noncomputable section
theorem run4 : rootB (envT EB (mkT A11)) 4 = true := by decide +kernel
theorem run5 : rootB (envT EB (mkT A11)) 5 = true := by decide +kernel
theorem run6 : rootB (envT EB (mkT A11)) 6 = true := by decide +kernel
theorem run7 : rootB (envT EB (mkT A11)) 7 = true := by decide +kernel
end
end Go.Ev

/- The runs. -/
set_option maxRecDepth 1000000
set_option maxHeartbeats 0
namespace Go.Ev
noncomputable section
theorem run8 : rootB (envT EB (mkT A11)) 8 = true := by decide +kernel
theorem run9 : rootB (envT EB (mkT A11)) 9 = true := by decide +kernel
theorem run10 : rootB (envT EB (mkT A11)) 10 = true := by decide +kernel
theorem run11 : rootB (envT EB (mkT A11)) 11 = true := by decide +kernel
end
end Go.Ev

/- All runs. -/
set_option maxRecDepth 1000000
set_option maxHeartbeats 0
namespace Go.Ev
noncomputable section
theorem like_all : Like (envT EB (mkT A11)) := like_of okA11
theorem runs : ∀ m, m < 12 → rootB (envT EB (mkT A11)) m = true
  | 0, _ => run0
  | 1, _ => run1
  | 2, _ => run2
  | 3, _ => run3
  | 4, _ => run4
  | 5, _ => run5
  | 6, _ => run6
  | 7, _ => run7
  | 8, _ => run8
  | 9, _ => run9
  | 10, _ => run10
  | 11, _ => run11
  | n + 12, h => by omega
end
end Go.Ev
