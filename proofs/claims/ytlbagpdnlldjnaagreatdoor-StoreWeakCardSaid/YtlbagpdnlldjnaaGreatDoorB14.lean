/- All calls up to rank 8. -/
import Derived.Test.YtlbagpdnlldjnaaGreatDoorB12
import Derived.Test.YtlbagpdnlldjnaaGreatDoorB13
set_option linter.all false
set_option maxRecDepth 1000000
set_option maxHeartbeats 0
namespace Go.Ev
noncomputable section
def A9 : List Ent := L8aa ++ (L8ab ++ (L8ac ++ (L8ad ++ A8)))
theorem okA9 : AllOK A9 := (L8aa_ok.app (L8ab_ok.app (L8ac_ok.app (L8ad_ok.app okA8))))
end
end Go.Ev
