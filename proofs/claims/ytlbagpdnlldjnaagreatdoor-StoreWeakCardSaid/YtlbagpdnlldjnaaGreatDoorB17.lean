/- All calls up to rank 9. -/
import Derived.Test.YtlbagpdnlldjnaaGreatDoorB15
import Derived.Test.YtlbagpdnlldjnaaGreatDoorB16
set_option linter.all false
set_option maxRecDepth 1000000
set_option maxHeartbeats 0
namespace Go.Ev
noncomputable section
def A10 : List Ent := L9aa ++ (L9ab ++ (L9ac ++ (L9ad ++ (L9ae ++ (L9af ++ A9)))))
theorem okA10 : AllOK A10 := (L9aa_ok.app (L9ab_ok.app (L9ac_ok.app (L9ad_ok.app (L9ae_ok.app (L9af_ok.app okA9))))))
end
end Go.Ev
