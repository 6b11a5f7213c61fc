/- All calls up to rank 7. -/
import Derived.Test.YtpamikcnbnkgkaaGreatDoorB09
import Derived.Test.YtpamikcnbnkgkaaGreatDoorB10
import Derived.Test.YtpamikcnbnkgkaaGreatDoorB11
import Derived.Test.YtpamikcnbnkgkaaGreatDoorB12
import Derived.Test.YtpamikcnbnkgkaaGreatDoorB13
set_option linter.all false
set_option maxRecDepth 1000000
set_option maxHeartbeats 0
namespace Go.Ev
noncomputable section
def A8 : List Ent := L7aa ++ (L7ab ++ (L7ac ++ (L7ad ++ (L7ae ++ (L7af ++ (L7ag ++ (L7ah ++ (L7ai ++ (L7aj ++ (L7ak ++ (L7al ++ (L7am ++ (L7an ++ (L7ao ++ (L7ap ++ (L7aq ++ (L7ar ++ (L7as ++ (L7at ++ (L7au ++ (L7av ++ (L7aw ++ (L7ax ++ (L7ay ++ (L7az ++ (L7ba ++ (L7bb ++ (L7bc ++ A7))))))))))))))))))))))))))))
theorem okA8 : AllOK A8 := (L7aa_ok.app (L7ab_ok.app (L7ac_ok.app (L7ad_ok.app (L7ae_ok.app (L7af_ok.app (L7ag_ok.app (L7ah_ok.app (L7ai_ok.app (L7aj_ok.app (L7ak_ok.app (L7al_ok.app (L7am_ok.app (L7an_ok.app (L7ao_ok.app (L7ap_ok.app (L7aq_ok.app (L7ar_ok.app (L7as_ok.app (L7at_ok.app (L7au_ok.app (L7av_ok.app (L7aw_ok.app (L7ax_ok.app (L7ay_ok.app (L7az_ok.app (L7ba_ok.app (L7bb_ok.app (L7bc_ok.app okA7)))))))))))))))))))))))))))))
end
end Go.Ev
