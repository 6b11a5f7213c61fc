/- Calls that are proved, rank 10. -/
import Derived.Test.YtlbagpdnlldjnaaGreatDoorB17
set_option linter.all false
set_option maxRecDepth 1000000
set_option maxHeartbeats 0
namespace Go.Ev
noncomputable section
def L10ac : List Ent := [
 N 19 0 [x0,I 16] 17 x5b x5j 17 [],
 N 19 0 [x0,I 17] 17 x5b x5j 17 [],
 N 19 0 [x0,I 18] 17 x5b x5j 17 [],
 N 19 0 [x0,I 19] 17 x5b x5j 17 [],
 N 19 0 [x0,I 20] 17 x5b x5j 17 [],
 N 19 0 [x0,I 21] 17 x5b x5j 17 [],
 N 19 0 [x0,I 22] 17 x5b x5j 17 [],
 N 19 0 [x0,I 23] 17 x5b x5j 17 []]
theorem L10ac_t : entsB (envT EB (mkT A10)) L10ac = true := by decide +kernel
theorem L10ac_ok : AllOK L10ac := entsB_ok (like_of okA10) L10ac_t
end
end Go.Ev
set_option maxRecDepth 1000000
set_option maxHeartbeats 0
namespace Go.Ev
noncomputable section
def L10ag : List Ent := [
 N 19 0 [x0,I 48] 17 x5b x5j 17 [],
 N 19 0 [x0,I 49] 17 x5b x5j 17 [],
 N 19 0 [x0,I 50] 17 x5b x5j 17 [],
 N 19 0 [x0,xb] 21 x69 x5j 22 [(12,C 92 [S 13 0 3 2,x7,x5,xl,x8,x1,N0,x2]),(15,C 375 [S 21 0 1 1,M 17,M 18]),(17,.mp [] 3),(18,.mp [(xb,xk,0),(xn,xk,1),(xl,xk,2)] 3),(21,D 3 [xl]),(16,.gone)],
 N 19 0 [x0,xn] 21 x69 x5j 22 [(12,C 92 [S 13 0 3 2,x7,x5,xl,x8,x1,N0,x2]),(15,C 375 [S 21 0 0 1,M 17,M 18]),(17,.mp [] 3),(18,.mp [(xb,xk,0),(xn,xk,1),(xl,xk,2)] 3),(21,D 3 [xl]),(16,.gone)],
 N 19 0 [x0,xl] 17 x67 x5j 17 [],
 N 19 0 [x0,x8] 17 x67 x5j 17 []]
theorem L10ag_t : entsB (envT EB (mkT A10)) L10ag = true := by decide +kernel
theorem L10ag_ok : AllOK L10ag := entsB_ok (like_of okA10) L10ag_t
end
end Go.Ev
set_option maxRecDepth 1000000
set_option maxHeartbeats 0
namespace Go.Ev
noncomputable section
def L10ak : List Ent := [
 N 19 0 [x0,I 20] 17 x67 x5j 17 [],
 N 19 0 [x0,I 21] 17 x67 x5j 17 [],
 N 19 0 [x0,I 22] 17 x67 x5j 17 [],
 N 19 0 [x0,I 23] 17 x67 x5j 17 [],
 N 19 0 [x0,I 24] 17 x67 x5j 17 []]
theorem L10ak_t : entsB (envT EB (mkT A10)) L10ak = true := by decide +kernel
theorem L10ak_ok : AllOK L10ak := entsB_ok (like_of okA10) L10ak_t
end
end Go.Ev
set_option maxRecDepth 1000000
set_option maxHeartbeats 0
namespace Go.Ev
noncomputable section
def L10ao : List Ent := [
 N 19 0 [x0,I 40] 17 x67 x5j 17 [],
 N 19 0 [x0,I 41] 17 x67 x5j 17 [],
 N 19 0 [x0,I 42] 17 x67 x5j 17 [],
 N 19 0 [x0,I 43] 17 x67 x5j 17 [],
 N 19 0 [x0,I 44] 17 x67 x5j 17 []]
theorem L10ao_t : entsB (envT EB (mkT A10)) L10ao = true := by decide +kernel
theorem L10ao_ok : AllOK L10ao := entsB_ok (like_of okA10) L10ao_t
end
end Go.Ev
