/- Calls that are proved, rank 10. -/
import Derived.Test.YtlbagpdnlldjnaaGreatDoorB17
set_option linter.all false
set_option maxRecDepth 1000000
set_option maxHeartbeats 0
namespace Go.Ev
noncomputable section
def L10ab : List Ent := [
 N 19 0 x6 17 x5b x5j 17 [],
 N 19 0 [x0,I 9] 17 x5b x5j 17 [],
 N 19 0 [x0,I 10] 17 x5b x5j 17 [],
 N 19 0 [x0,I 11] 17 x5b x5j 17 [],
 N 19 0 [x0,I 12] 17 x5b x5j 17 [],
 N 19 0 [x0,I 13] 17 x5b x5j 17 [],
 N 19 0 [x0,I 14] 17 x5b x5j 17 [],
 N 19 0 [x0,I 15] 17 x5b x5j 17 []]
theorem L10ab_t : entsB (envT EB (mkT A10)) L10ab = true := by decide +kernel
theorem L10ab_ok : AllOK L10ab := entsB_ok (like_of okA10) L10ab_t
end
end Go.Ev
set_option maxRecDepth 1000000
set_option maxHeartbeats 0
namespace Go.Ev
noncomputable section
def L10af : List Ent := [
 N 19 0 [x0,I 40] 17 x5b x5j 17 [],
 N 19 0 [x0,I 41] 17 x5b x5j 17 [],
 N 19 0 [x0,I 42] 17 x5b x5j 17 [],
 N 19 0 [x0,I 43] 17 x5b x5j 17 [],
 N 19 0 [x0,I 44] 17 x5b x5j 17 [],
 N 19 0 [x0,I 45] 17 x5b x5j 17 [],
 N 19 0 [x0,I 46] 17 x5b x5j 17 [],
 N 19 0 [x0,I 47] 17 x5b x5j 17 []]
theorem L10af_t : entsB (envT EB (mkT A10)) L10af = true := by decide +kernel
theorem L10af_ok : AllOK L10af := entsB_ok (like_of okA10) L10af_t
end
end Go.Ev
set_option maxRecDepth 1000000
set_option maxHeartbeats 0
namespace Go.Ev
noncomputable section
def L10aj : List Ent := [
 N 19 0 [x0,I 15] 17 x67 x5j 17 [],
 N 19 0 [x0,I 16] 17 x67 x5j 17 [],
 N 19 0 [x0,I 17] 17 x67 x5j 17 [],
 N 19 0 [x0,I 18] 17 x67 x5j 17 [],
 N 19 0 [x0,I 19] 17 x67 x5j 17 []]
theorem L10aj_t : entsB (envT EB (mkT A10)) L10aj = true := by decide +kernel
theorem L10aj_ok : AllOK L10aj := entsB_ok (like_of okA10) L10aj_t
end
end Go.Ev
set_option maxRecDepth 1000000
set_option maxHeartbeats 0
namespace Go.Ev
noncomputable section
def L10an : List Ent := [
 N 19 0 [x0,I 35] 17 x67 x5j 17 [],
 N 19 0 [x0,I 36] 17 x67 x5j 17 [],
 N 19 0 [x0,I 37] 17 x67 x5j 17 [],
 N 19 0 [x0,I 38] 17 x67 x5j 17 [],
 N 19 0 [x0,I 39] 17 x67 x5j 17 []]
theorem L10an_t : entsB (envT EB (mkT A10)) L10an = true := by decide +kernel
theorem L10an_ok : AllOK L10an := entsB_ok (like_of okA10) L10an_t
end
end Go.Ev
