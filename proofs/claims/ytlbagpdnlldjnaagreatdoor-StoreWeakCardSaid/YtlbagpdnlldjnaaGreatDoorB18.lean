/- Calls that are proved, rank 10. -/
import Derived.Test.YtlbagpdnlldjnaaGreatDoorB17
set_option linter.all false
set_option maxRecDepth 1000000
set_option maxHeartbeats 0
namespace Go.Ev
noncomputable section
def L10aa : List Ent := [
 N 4 0 [] 12 [] xk 12 [],
 N 6 0 [x0] 14 x4f (.t [x7,xk]) 17 [(13,x4j),(14,x4k),(15,x45),(16,C 201 ([x0,x5,I 12,xb,x8]++x3x++x3y))],
 N 19 0 [x0,xb] 21 [(12,C 92 [S 13 0 2 2,x7,x5,xn,x8,x1,xf,x2]),(15,C 375 [S 16 0 2 1,M 17,M 18]),(18,.mp [(xb,xk,0)] 1),(17,.mp [(xn,xk,0)] 2),(16,D 3 [xb,xn]),(14,C 201 ([P 19 0,x5,I 12,xb,I 6]++x3x++x3y)),(19,C 80 [K 20 0 96 96,Z,x2,x1]),(20,x51),(13,x53)] x5j 22 [(12,C 92 [S 13 0 2 2,x7,x5,xn,x8,x1,N0,x2]),(15,C 375 [S 21 0 1 1,M 17,M 18]),(17,.mp [] 2),(18,x5k),(21,D 3 [xn]),(16,.gone)],
 N 19 0 [x0,xn] 17 x5b x5j 17 [],
 N 19 0 [x0,xl] 17 x5b x5j 17 [],
 N 19 0 [x0,x8] 17 x5b x5j 17 [],
 N 19 0 [x0,xm] 17 x5b x5j 17 [],
 N 19 0 [x0,I 6] 17 x5b x5j 17 [],
 N 19 0 [x0,I 7] 17 x5b x5j 17 []]
theorem L10aa_t : entsB (envT EB (mkT A10)) L10aa = true := by decide +kernel
theorem L10aa_ok : AllOK L10aa := entsB_ok (like_of okA10) L10aa_t
end
end Go.Ev
set_option maxRecDepth 1000000
set_option maxHeartbeats 0
namespace Go.Ev
noncomputable section
def L10ae : List Ent := [
 N 19 0 [x0,I 32] 17 x5b x5j 17 [],
 N 19 0 [x0,I 33] 17 x5b x5j 17 [],
 N 19 0 [x0,I 34] 17 x5b x5j 17 [],
 N 19 0 [x0,I 35] 17 x5b x5j 17 [],
 N 19 0 [x0,I 36] 17 x5b x5j 17 [],
 N 19 0 [x0,I 37] 17 x5b x5j 17 [],
 N 19 0 [x0,I 38] 17 x5b x5j 17 [],
 N 19 0 [x0,I 39] 17 x5b x5j 17 []]
theorem L10ae_t : entsB (envT EB (mkT A10)) L10ae = true := by decide +kernel
theorem L10ae_ok : AllOK L10ae := entsB_ok (like_of okA10) L10ae_t
end
end Go.Ev
set_option maxRecDepth 1000000
set_option maxHeartbeats 0
namespace Go.Ev
noncomputable section
def L10ai : List Ent := [
 N 19 0 [x0,I 10] 17 x67 x5j 17 [],
 N 19 0 [x0,I 11] 17 x67 x5j 17 [],
 N 19 0 [x0,I 12] 17 x67 x5j 17 [],
 N 19 0 [x0,I 13] 17 x67 x5j 17 [],
 N 19 0 [x0,I 14] 17 x67 x5j 17 []]
theorem L10ai_t : entsB (envT EB (mkT A10)) L10ai = true := by decide +kernel
theorem L10ai_ok : AllOK L10ai := entsB_ok (like_of okA10) L10ai_t
end
end Go.Ev
set_option maxRecDepth 1000000
set_option maxHeartbeats 0
namespace Go.Ev
noncomputable section
def L10am : List Ent := [
 N 19 0 [x0,I 30] 17 x67 x5j 17 [],
 N 19 0 [x0,I 31] 17 x67 x5j 17 [],
 N 19 0 [x0,I 32] 17 x67 x5j 17 [],
 N 19 0 [x0,I 33] 17 x67 x5j 17 [],
 N 19 0 [x0,I 34] 17 x67 x5j 17 []]
theorem L10am_t : entsB (envT EB (mkT A10)) L10am = true := by decide +kernel
theorem L10am_ok : AllOK L10am := entsB_ok (like_of okA10) L10am_t
end
end Go.Ev
set_option maxRecDepth 1000000
set_option maxHeartbeats 0
namespace Go.Ev
noncomputable section
def L10aq : List Ent := [
 N 19 0 [x0,I 50] 17 x67 x5j 17 []]
theorem L10aq_t : entsB (envT EB (mkT A10)) L10aq = true := by decide +kernel
theorem L10aq_ok : AllOK L10aq := entsB_ok (like_of okA10) L10aq_t
end
end Go.Ev
