/- All calls up to rank 9. -/
import Derived.Test.YtpamikcnbnkgkaaGreatDoorB18
import Derived.Test.YtpamikcnbnkgkaaGreatDoorB19
import Derived.Test.YtpamikcnbnkgkaaGreatDoorB20
import Derived.Test.YtpamikcnbnkgkaaGreatDoorB21
set_option linter.all false
set_option maxRecDepth 1000000
set_option maxHeartbeats 0
namespace Go.Ev
noncomputable section
def A10 : List Ent := L9aa ++ (L9ab ++ (L9ac ++ (L9ad ++ (L9ae ++ (L9af ++ (L9ag ++ (L9ah ++ (L9ai ++ (L9aj ++ (L9ak ++ (L9al ++ (L9am ++ (L9an ++ (L9ao ++ (L9ap ++ (L9aq ++ (L9ar ++ (L9as ++ (L9at ++ (L9au ++ (L9av ++ (L9aw ++ (L9ax ++ (L9ay ++ (L9az ++ (L9ba ++ (L9bb ++ (L9bc ++ (L9bd ++ (L9be ++ (L9bf ++ (L9bg ++ (L9bh ++ (L9bi ++ (L9bj ++ (L9bk ++ (L9bl ++ (L9bm ++ (L9bn ++ (L9bo ++ (L9bp ++ (L9bq ++ (L9br ++ (L9bs ++ (L9bt ++ A9)))))))))))))))))))))))))))))))))))))))))))))
theorem okA10 : AllOK A10 := (L9aa_ok.app (L9ab_ok.app (L9ac_ok.app (L9ad_ok.app (L9ae_ok.app (L9af_ok.app (L9ag_ok.app (L9ah_ok.app (L9ai_ok.app (L9aj_ok.app (L9ak_ok.app (L9al_ok.app (L9am_ok.app (L9an_ok.app (L9ao_ok.app (L9ap_ok.app (L9aq_ok.app (L9ar_ok.app (L9as_ok.app (L9at_ok.app (L9au_ok.app (L9av_ok.app (L9aw_ok.app (L9ax_ok.app (L9ay_ok.app (L9az_ok.app (L9ba_ok.app (L9bb_ok.app (L9bc_ok.app (L9bd_ok.app (L9be_ok.app (L9bf_ok.app (L9bg_ok.app (L9bh_ok.app (L9bi_ok.app (L9bj_ok.app (L9bk_ok.app (L9bl_ok.app (L9bm_ok.app (L9bn_ok.app (L9bo_ok.app (L9bp_ok.app (L9bq_ok.app (L9br_ok.app (L9bs_ok.app (L9bt_ok.app okA9))))))))))))))))))))))))))))))))))))))))))))))
end
end Go.Ev
