/- Calls that are proved, rank 9. -/
import Derived.Test.YtlbagpdnlldjnaaGreatDoorB14
set_option linter.all false
set_option maxRecDepth 1000000
set_option maxHeartbeats 0
namespace Go.Ev
noncomputable section
def L9ab : List Ent := [
 N 7 0 x3w 22 [(13,C 47 [x1,K 14 0 6 6]),(14,C 44 [xm,x1,x4,x4,x1,x1,x4,Z,Z,xg,x1f,x1,x4,x4,x4,x1,x1,x4,x4,xb,x1,xg,x4,x1,x1,x4,Z,x31,x4,Z,x1,x4,x4,x4,x1,x1,x4,x4,xb,x1,xg,x4,x1,x1,x4,Z,x1r,x4,Z,x1,x4,x4,x4,x1,x1,x4,x4,xb,x1,xg,x4,x1,x1,x4,Z,x1h,x4,Z,x1,x4,x4,x4,x1,x1,x4,x4,xl,xv,x4,xy,x1,x1,x4,Z,Z,x4,Z,x1,x4,x4,x4,x1,x1,x4,x4,xl,xt,x4,xj,x1,x1,x4,Z,Z,x4,Z,x1,x4,x4,x4,x1,x1,x4,x4]),(18,xx),(17,xw),(16,xu),(15,xp),(12,C 92 [Z,P 19 0,x5,x1,xb,x1,N0,x2]),(19,C 201 ([P 20 0,x5,I 12]++(Q 26 x1)++x9)),(20,C 80 [K 21 0 96 96,Z,x2,x1]),(21,C 191 (Q 6144 (U 0)))] (.t [K 22 0 1 1,x1]) 24 [(12,C 92 [S 23 0 1 2,P 19 0,x5,xb,x8,x1,N0,x2]),(19,C 201 ([P 20 0,x5,I 12,xb,x8]++x3x++x3y)),(21,x4j),(22,C 24 [x1]),(23,x45)]]
theorem L9ab_t : entsB (envT EB (mkT A9)) L9ab = true := by decide +kernel
theorem L9ab_ok : AllOK L9ab := entsB_ok (like_of okA9) L9ab_t
end
end Go.Ev
set_option maxRecDepth 1000000
set_option maxHeartbeats 0
namespace Go.Ev
noncomputable section
def L9ad : List Ent := [
 N 7 0 x3w 19 [(13,C 47 [xb,K 14 0 1 1]),(14,C 44 x4q),(12,C 92 [S 15 0 2 2,x2b,x5,xn,x8,x1,N0,x2]),(16,C 201 ([P 17 0,x5,I 12,xb,I 6]++x3x++x3y)),(17,C 80 [K 18 0 96 96,Z,x2,x1]),(18,x5v),(15,x5x)] x50 21 [(12,C 92 [S 20 0 3 2,x2b,x5,xl,x8,x1,N0,x2]),(16,C 201 ([P 17 0,x5,I 12,xb,x5]++x3x++x3y)),(18,x61),(19,C 24 [x1]),(20,x63),(15,.gone)],
 N 8 0 x4n 17 x4l x4o 18 [(17,x4p)],
 N 8 0 x4n 17 x5b x4o 18 [(17,x5g)]]
theorem L9ad_t : entsB (envT EB (mkT A9)) L9ad = true := by decide +kernel
theorem L9ad_ok : AllOK L9ad := entsB_ok (like_of okA9) L9ad_t
end
end Go.Ev
set_option maxRecDepth 1000000
set_option maxHeartbeats 0
namespace Go.Ev
noncomputable section
def L9af : List Ent := [
 N 42 0 [x0,S 13 0 7 20] 23 [(13,D 109 [xb,xb,xl,x1,x1,x1,Z,x1,x1,x4,xg,x2q,x1,x4,x4,x4,x1,x1,x4,x4,xb,xb,xb,xb,x1,x1,x2r,x1,x1,x4,x4,Z,x1,x4,x4,x4,x1,x1,x4,x4,xb,xb,xb,xn,x1,x1,x2s,x1,x1,x4,x4,Z,x1,x4,x4,x4,x1,x1,x4,x4,xb,xb,xb,xl,x1,x1,x46,x1,x1,x4,x4,Z,x1,x4,x4,x4,x1,x1,x4,x4,xb,xb,xn,x1,x1,x1,Z,xn,x1,xj,x4,Z,x1,x4,x4,x4,x1,x1,x4,x4,xb,xb,xn,x1,x1,x1,Z,xb,x1,xy,x4,Z,x1,x4,x4,x4,x1,x1,x4,x4,xn,xb,xb,xn,x1,x1,S 18 0 5 4,x1,x1,x4,x4,Z,x1,x4,x4,x4,x1,x1,x4,x4]),(18,x54),(17,x19),(16,x17),(15,x15),(14,D 136 xo),(12,C 92 [S 19 0 2 2,P 20 0,x5,xn,x8,x1,N0,x2]),(20,C 201 ([P 21 0,x5,I 12,xb,I 6]++x3x++x3y)),(21,C 80 [K 22 0 96 96,Z,x2,x1]),(22,x51),(19,x53)] (.t [xk,.ni]) 23 [],
 N 42 0 [x0,x64] 23 [(13,D 109 [xb,xb,xl,x1,x1,x1,Z,x1,x1,x4,xg,x2q,x1,x4,x4,x4,x1,x1,x4,x4,xb,xb,xb,xb,x1,x1,x2r,x1,x1,x4,x4,Z,x1,x4,x4,x4,x1,x1,x4,x4,xb,xb,xb,xn,x1,x1,x2s,x1,x1,x4,x4,Z,x1,x4,x4,x4,x1,x1,x4,x4,xb,xb,xb,xl,x1,x1,x46,x1,x1,x4,x4,Z,x1,x4,x4,x4,x1,x1,x4,x4,xb,xb,xn,x1,x1,x1,Z,xn,x1,xj,x4,Z,x1,x4,x4,x4,x1,x1,x4,x4,xb,xb,xn,x1,x1,x1,Z,xb,x1,xy,x4,Z,x1,x4,x4,x4,x1,x1,x4,x4,xn,xb,xm,x1,x1,x1,Z,xb,x1,x5o,x4,Z,x1,x4,x4,x4,x1,x1,x4,x4,xl,xb,xb,xn,x1,x1,S 18 0 5 4,x1,x1,x4,x4,Z,x1,x4,x4,x4,x1,x1,x4,x4]),(18,x54),(17,x19),(16,x17),(15,x15),(14,D 136 xo),(12,C 92 [S 19 0 3 2,P 20 0,x5,xl,x8,x1,N0,x2]),(20,C 201 ([P 21 0,x5,I 12,xb,x5]++x3x++x3y)),(21,C 80 [K 22 0 96 96,Z,x2,x1]),(22,x61),(19,x63)] (.t [xk,.ni]) 23 []]
theorem L9af_t : entsB (envT EB (mkT A9)) L9af = true := by decide +kernel
theorem L9af_ok : AllOK L9af := entsB_ok (like_of okA9) L9af_t
end
end Go.Ev
