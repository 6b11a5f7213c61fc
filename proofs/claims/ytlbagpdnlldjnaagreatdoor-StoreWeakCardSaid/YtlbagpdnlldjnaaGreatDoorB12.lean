/- Calls that are proved, rank 8. -/
import Derived.Test.YtlbagpdnlldjnaaGreatDoorB11
set_option linter.all false
set_option maxRecDepth 1000000
set_option maxHeartbeats 0
namespace Go.Ev
noncomputable section
def L8aa : List Ent := [
 N 7 0 x3w 18 [(13,C 47 [I 9,Z]),(12,C 92 [S 14 0 1 2,xf,x5,xb,x8,xb,N0,x2]),(15,C 201 ([x2b,x5,x8,xb,x8]++x3x++x4c)),(16,C 80 [K 17 0 32 32,Z,x2,x1]),(17,x43),(14,x45)] (.t [K 18 0 1 1,x1]) 19 [(18,C 24 [I 141])],
 N 11 0 x6 14 x4b xe 17 [(14,C 92 [S 15 0 1 2,x2b,x5,xb,x8,xb,N0,x2]),(15,x45),(16,x4d)],
 N 11 0 x6 14 x5l xe 17 [(14,C 92 [S 15 0 2 2,x2b,x5,xn,x8,xn,N0,x2]),(15,x53),(16,x5m)],
 N 11 0 x6 14 x6a xe 17 [(14,C 92 [S 15 0 3 2,x2b,x5,xl,x8,xl,N0,x2]),(15,x63),(16,x6b)],
 N 12 0 [x0,xr] 17 x4e (.t [.a [Z,Z,Z,x1],I 200]) 17 [],
 N 12 0 [x0,x5o] 17 x5n (.t [.a [Z,Z,Z,x1],I 200]) 17 [],
 N 12 0 [x0,x5o] 17 x6c x4a 24 x30,
 N 17 0 [x0] 17 [(12,C 92 [S 13 0 1 2,x7,x5,xb,x8,x1,N0,x2]),(14,C 201 ([xf,x5,x8,xb,x8]++x3x++x3y)),(15,C 80 [K 16 0 32 32,Z,x2,x1]),(16,x43),(13,x45)] x4a 24 x30,
 N 17 0 [x0] 17 x4e x4a 24 x30]
theorem L8aa_t : entsB (envT EB (mkT A8)) L8aa = true := by decide +kernel
theorem L8aa_ok : AllOK L8aa := entsB_ok (like_of okA8) L8aa_t
end
end Go.Ev
set_option maxRecDepth 1000000
set_option maxHeartbeats 0
namespace Go.Ev
noncomputable section
def L8ac : List Ent := [
 N 17 0 [x0] 17 x6c x5c 23 x5e,
 N 19 0 [x0,xb] 17 x5b (.t [x2,x1]) 21 [(12,C 92 [S 13 0 2 2,x7,x5,xn,x8,x1,P 17 0,x2]),(17,C 375 [S 18 0 2 1,M 19,M 20]),(18,D 3 [xb,xn]),(19,.mp [(xn,xk,0)] 2),(20,.mp [(xb,xk,0)] 1)],
 N 19 0 [x0,xb] 17 x67 (.t [x2,x1]) 21 [(12,C 92 [S 13 0 3 2,x7,x5,xl,x8,x1,P 17 0,x2]),(17,C 375 [S 18 0 2 1,M 19,M 20]),(18,D 3 [xb,xn]),(19,.mp [(xn,xk,0)] 2),(20,.mp [(xb,xk,0)] 1)],
 N 19 0 [x0,xb] 21 [(12,C 92 [S 13 0 3 2,x7,x5,xl,x8,x1,xf,x2]),(15,C 375 [S 16 0 2 1,M 17,M 18]),(18,.mp [(xb,xk,0)] 1),(17,.mp [(xn,xk,0)] 2),(16,D 3 [xb,xn]),(14,C 201 ([P 19 0,x5,I 12,xb,x5]++x3x++x3y)),(19,C 80 [K 20 0 96 96,Z,x2,x1]),(20,x61),(13,x63)] (.t [x2,x1]) 22 [(15,C 375 [S 21 0 2 1,M 17,M 18]),(17,.mp [(xl,xk,2)] 3),(18,x5k),(21,D 3 [xn,xl]),(16,.gone)],
 N 19 0 [x0,xn] 17 x67 (.t [x2,x1]) 21 [(12,C 92 [S 13 0 3 2,x7,x5,xl,x8,x1,P 17 0,x2]),(17,C 375 [S 18 0 2 1,M 19,M 20]),(18,D 3 [xn,xl]),(19,.mp [(xl,xk,2)] 3),(20,x5k)],
 N 97 0 [x47,S 13 0 5 20,x5] 17 x5i x5j 17 [],
 N 97 0 [x47,x64,x5] 19 x68 x5j 19 []]
theorem L8ac_t : entsB (envT EB (mkT A8)) L8ac = true := by decide +kernel
theorem L8ac_ok : AllOK L8ac := entsB_ok (like_of okA8) L8ac_t
end
end Go.Ev
