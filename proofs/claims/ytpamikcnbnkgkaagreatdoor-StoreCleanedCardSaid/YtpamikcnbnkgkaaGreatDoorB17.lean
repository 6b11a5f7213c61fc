/- All calls up to rank 8. -/
import Derived.Test.YtpamikcnbnkgkaaGreatDoorB15
import Derived.Test.YtpamikcnbnkgkaaGreatDoorB16
set_option linter.all false
set_option maxRecDepth 1000000
set_option maxHeartbeats 0
namespace Go.Ev
noncomputable section
def A9 : List Ent := L8aa ++ (L8ab ++ (L8ac ++ (L8ad ++ (L8ae ++ (L8af ++ (L8ag ++ (L8ah ++ A8)))))))
theorem okA9 : AllOK A9 := (L8aa_ok.app (L8ab_ok.app (L8ac_ok.app (L8ad_ok.app (L8ae_ok.app (L8af_ok.app (L8ag_ok.app (L8ah_ok.app okA8))))))))
end
end Go.Ev
