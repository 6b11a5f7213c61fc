/- All calls up to rank 7. -/
import Derived.Test.YtlbagpdnlldjnaaGreatDoorB09
import Derived.Test.YtlbagpdnlldjnaaGreatDoorB10
set_option linter.all false
set_option maxRecDepth 1000000
set_option maxHeartbeats 0
namespace Go.Ev
noncomputable section
def A8 : List Ent := L7aa ++ (L7ab ++ (L7ac ++ (L7ad ++ (L7ae ++ A7))))
theorem okA8 : AllOK A8 := (L7aa_ok.app (L7ab_ok.app (L7ac_ok.app (L7ad_ok.app (L7ae_ok.app okA7)))))
end
end Go.Ev
