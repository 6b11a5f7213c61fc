/- Calls that are proved, rank 8. -/
import Derived.Test.YtlbagpdnlldjnaaGreatDoorB11
set_option linter.all false
set_option maxRecDepth 1000000
set_option maxHeartbeats 0
namespace Go.Ev
noncomputable section
def L8ab : List Ent := [
 N 17 0 [x0] 17 x4l x4a 24 x30,
 N 17 0 [x0] 17 x5b x5c 23 x5e,
 N 17 0 [x0] 17 x5n x5c 23 x5e,
 N 17 0 [x0] 17 x5z x4a 24 x30,
 N 17 0 [x0] 17 x67 x5c 23 x5e]
theorem L8ab_t : entsB (envT EB (mkT A8)) L8ab = true := by decide +kernel
theorem L8ab_ok : AllOK L8ab := entsB_ok (like_of okA8) L8ab_t
end
end Go.Ev
set_option maxRecDepth 1000000
set_option maxHeartbeats 0
namespace Go.Ev
noncomputable section
def L8ad : List Ent := [
 N 342 2 [xd,K 12 0 6 6] 17 [(12,C 44 [xm,x1,x4,x4,x1,x1,x4,Z,Z,xg,x10,x1,x4,x4,x4,x1,x1,x4,x4,xb,x1,xg,x4,x1,x1,x4,Z,x12,x4,Z,x1,x4,x4,x4,x1,x1,x4,x4,xb,x1,xg,x4,x1,x1,x4,Z,x1f,x4,Z,x1,x4,x4,x4,x1,x1,x4,x4,xb,x1,xg,x4,x1,x1,x4,Z,x31,x4,Z,x1,x4,x4,x4,x1,x1,x4,x4,xl,xv,x4,xy,x1,x1,x4,Z,Z,x4,Z,x1,x4,x4,x4,x1,x1,x4,x4,xl,xt,x4,xj,x1,x1,x4,Z,Z,x4,Z,x1,x4,x4,x4,x1,x1,x4,x4]),(16,xx),(15,xw),(14,xu),(13,xp)] (.t [S 17 0 6 18,S 18 0 1 1,x8,x1]) 23 [(17,D 105 [xl,x1,x1,x1,Z,x1,x1,x4,xg,S 19 0 5 4,x1,x4,x4,x4,x1,x1,x4,x4,xb,xb,x1,x1,S 20 0 5 4,x1,x1,x4,x4,Z,x1,x4,x4,x4,x1,x1,x4,x4,xb,xn,x1,x1,S 21 0 5 4,x1,x1,x4,x4,Z,x1,x4,x4,x4,x1,x1,x4,x4,xb,xl,x1,x1,S 22 0 5 4,x1,x1,x4,x4,Z,x1,x4,x4,x4,x1,x1,x4,x4,xn,x1,x1,x1,Z,xn,x1,xj,x4,Z,x1,x4,x4,x4,x1,x1,x4,x4,xn,x1,x1,x1,Z,xb,x1,xy,x4,Z,x1,x4,x4,x4,x1,x1,x4,x4]),(18,D 9 [.s [115]]),(19,D 136 xo),(20,x15),(21,x17),(22,x19)],
 N 342 2 [x4v,K 15 0 1 1] 20 [(15,C 44 x4q),(14,x2z),(13,D 65 [xb,x1,x1,x31,xn,x1,x1,x1r,xl,x1,x1,x1h]),(18,x28),(17,x25),(16,x22),(12,C 246 [xg,x2d,Z]),(19,xp)] (.t [S 20 0 1 18,S 21 0 2 1,x8,x1]) 23 [(20,D 105 [xb,xn,x1,x1,x2y,x1,x1,x4,x4,Z,x1,x4,x4,x4,x1,x1,x4,x4]),(21,D 9 [x3m,.s [115]]),(22,x4s)],
 N 342 2 [x4v,K 15 0 1 1] 20 [(15,C 44 x5p),(14,x2z),(13,D 65 [xb,x1,x1,x31,xn,x1,x1,x1r,xl,x1,x1,x1h]),(18,x28),(17,x25),(16,x22),(12,C 246 [xg,x2d,Z]),(19,xp)] (.t [S 20 0 1 18,Z,x8,x1]) 21 [(20,D 105 x5q)]]
theorem L8ad_t : entsB (envT EB (mkT A8)) L8ad = true := by decide +kernel
theorem L8ad_ok : AllOK L8ad := entsB_ok (like_of okA8) L8ad_t
end
end Go.Ev
