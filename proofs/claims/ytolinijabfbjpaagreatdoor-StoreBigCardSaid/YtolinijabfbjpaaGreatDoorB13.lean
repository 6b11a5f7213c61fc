/- All calls up to rank 6. -/
import Derived.Test.YtolinijabfbjpaaGreatDoorB10
import Derived.Test.YtolinijabfbjpaaGreatDoorB11
import Derived.Test.YtolinijabfbjpaaGreatDoorB12
set_option linter.all false
set_option maxRecDepth 1000000
set_option maxHeartbeats 0
namespace Go.Ev
noncomputable section
def A7 : List Ent := L6aa ++ (L6ab ++ (L6ac ++ (L6ad ++ (L6ae ++ (L6af ++ (L6ag ++ (L6ah ++ (L6ai ++ A6))))))))
theorem okA7 : AllOK A7 := (L6aa_ok.app (L6ab_ok.app (L6ac_ok.app (L6ad_ok.app (L6ae_ok.app (L6af_ok.app (L6ag_ok.app (L6ah_ok.app (L6ai_ok.app okA6)))))))))
end
end Go.Ev
