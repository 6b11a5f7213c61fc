/- Calls that are proved, rank 10. -/
import Derived.Test.YtlbagpdnlldjnaaGreatDoorB17
set_option linter.all false
set_option maxRecDepth 1000000
set_option maxHeartbeats 0
namespace Go.Ev
noncomputable section
def L10ad : List Ent := [
 N 19 0 [x0,I 24] 17 x5b x5j 17 [],
 N 19 0 [x0,I 25] 17 x5b x5j 17 [],
 N 19 0 [x0,I 26] 17 x5b x5j 17 [],
 N 19 0 [x0,I 27] 17 x5b x5j 17 [],
 N 19 0 [x0,I 28] 17 x5b x5j 17 [],
 N 19 0 [x0,I 29] 17 x5b x5j 17 [],
 N 19 0 [x0,I 30] 17 x5b x5j 17 [],
 N 19 0 [x0,I 31] 17 x5b x5j 17 []]
theorem L10ad_t : entsB (envT EB (mkT A10)) L10ad = true := by decide +kernel
theorem L10ad_ok : AllOK L10ad := entsB_ok (like_of okA10) L10ad_t
end
end Go.Ev
set_option maxRecDepth 1000000
set_option maxHeartbeats 0
namespace Go.Ev
noncomputable section
def L10ah : List Ent := [
 N 19 0 [x0,xm] 17 x67 x5j 17 [],
 N 19 0 [x0,I 6] 17 x67 x5j 17 [],
 N 19 0 [x0,I 7] 17 x67 x5j 17 [],
 N 19 0 x6 17 x67 x5j 17 [],
 N 19 0 [x0,I 9] 17 x67 x5j 17 []]
theorem L10ah_t : entsB (envT EB (mkT A10)) L10ah = true := by decide +kernel
theorem L10ah_ok : AllOK L10ah := entsB_ok (like_of okA10) L10ah_t
end
end Go.Ev
set_option maxRecDepth 1000000
set_option maxHeartbeats 0
namespace Go.Ev
noncomputable section
def L10al : List Ent := [
 N 19 0 [x0,I 25] 17 x67 x5j 17 [],
 N 19 0 [x0,I 26] 17 x67 x5j 17 [],
 N 19 0 [x0,I 27] 17 x67 x5j 17 [],
 N 19 0 [x0,I 28] 17 x67 x5j 17 [],
 N 19 0 [x0,I 29] 17 x67 x5j 17 []]
theorem L10al_t : entsB (envT EB (mkT A10)) L10al = true := by decide +kernel
theorem L10al_ok : AllOK L10al := entsB_ok (like_of okA10) L10al_t
end
end Go.Ev
set_option maxRecDepth 1000000
set_option maxHeartbeats 0
namespace Go.Ev
noncomputable section
def L10ap : List Ent := [
 N 19 0 [x0,I 45] 17 x67 x5j 17 [],
 N 19 0 [x0,I 46] 17 x67 x5j 17 [],
 N 19 0 [x0,I 47] 17 x67 x5j 17 [],
 N 19 0 [x0,I 48] 17 x67 x5j 17 [],
 N 19 0 [x0,I 49] 17 x67 x5j 17 []]
theorem L10ap_t : entsB (envT EB (mkT A10)) L10ap = true := by decide +kernel
theorem L10ap_ok : AllOK L10ap := entsB_ok (like_of okA10) L10ap_t
end
end Go.Ev
