/- Calls that are proved, rank 7. -/
import Derived.Test.YtlbagpdnlldjnaaGreatDoorB08
set_option linter.all false
set_option maxRecDepth 1000000
set_option maxHeartbeats 0
namespace Go.Ev
noncomputable section
def L7ab : List Ent := [
 N 46 2 [S 12 0 3 2] 13 [(12,x63)] (.t [x64,xl,x8,x1]) 19 [(13,D 109 [xb,xb,xl,x1,x1,x1,Z,x1,x1,x4,xg,x2q,x1,x4,x4,x4,x1,x1,x4,x4,xb,xb,xb,xb,x1,x1,x2r,x1,x1,x4,x4,Z,x1,x4,x4,x4,x1,x1,x4,x4,xb,xb,xb,xn,x1,x1,x2s,x1,x1,x4,x4,Z,x1,x4,x4,x4,x1,x1,x4,x4,xb,xb,xb,xl,x1,x1,x46,x1,x1,x4,x4,Z,x1,x4,x4,x4,x1,x1,x4,x4,xb,xb,xn,x1,x1,x1,Z,xn,x1,xj,x4,Z,x1,x4,x4,x4,x1,x1,x4,x4,xb,xb,xn,x1,x1,x1,Z,xb,x1,xy,x4,Z,x1,x4,x4,x4,x1,x1,x4,x4,xn,xb,xm,x1,x1,x1,Z,xb,x1,x5o,x4,Z,x1,x4,x4,x4,x1,x1,x4,x4,xl,xb,xb,xn,x1,x1,S 18 0 5 4,x1,x1,x4,x4,Z,x1,x4,x4,x4,x1,x1,x4,x4]),(14,D 136 xo),(15,x15),(16,x17),(17,x19),(18,x54)],
 N 72 0 [S 12 0 6 20,xb] 17 x49 x4a 24 x30,
 N 72 0 [S 12 0 7 20,xn] 18 x58 x59 25 x5a,
 N 72 0 [S 12 0 7 20,xn] 17 x5y x4a 24 x30,
 N 72 0 [x65,xl] 18 x66 x59 25 x5a]
theorem L7ab_t : entsB (envT EB (mkT A7)) L7ab = true := by decide +kernel
theorem L7ab_ok : AllOK L7ab := entsB_ok (like_of okA7) L7ab_t
end
end Go.Ev
set_option maxRecDepth 1000000
set_option maxHeartbeats 0
namespace Go.Ev
noncomputable section
def L7ad : List Ent := [
 N 223 0 [x4v,S 15 0 1 18] 21 [(15,D 105 [xb,xn,x1,x1,x31,x1,x1,x4,x4,Z,x1,x4,x4,x4,x1,x1,x4,x4]),(16,x4s),(14,x2z),(13,D 65 [xb,x1,x1,x1r,xn,x1,x1,x1h,xl,x1,x1,x2d]),(19,x28),(18,x25),(17,x22),(12,C 246 [xg,x2w,Z]),(20,xp)] (.t [.a [K 21 0 1 1,S 22 0 3 4,S 23 0 2 2,x8],xb,x1]) 28 [(21,C 246 [xg,K 27 0 5 5,Z]),(22,D 65 [xb,x1,x1,x4w,xn,x1,x1,K 25 0 5 5,xl,x1,x1,K 26 0 5 5]),(23,x2z),(24,x22),(25,x4s),(26,x28),(27,xp)],
 N 223 0 [x4v,S 15 0 1 18] 20 [(15,D 105 x5q),(14,x2z),(13,D 65 [xb,x1,x1,x31,xn,x1,x1,x1r,xl,x1,x1,x1h]),(18,x28),(17,x25),(16,x22),(12,C 246 [xg,x2d,Z]),(19,xp)] (.t [.a [K 20 0 1 1,S 21 0 3 4,S 22 0 2 2,x8],xb,x1]) 27 [(20,C 246 [xg,K 26 0 5 5,Z]),(21,D 65 [xb,x1,x1,x2v,xn,x1,x1,x4w,xl,x1,x1,K 25 0 5 5]),(22,x2z),(23,x22),(24,x25),(25,x28),(26,xp)],
 N 345 0 [Z,x3t] 17 x2t (.t [K 17 0 6 6,x1]) 22 [(17,C 109 [xb,x1,xl,x1,x1,x1,Z,x1,x1,x4,xg,x1h,x1,x4,x4,x4,x1,x1,x4,x4,xb,x1,xb,xb,x1,x1,x2d,x1,x1,x4,x4,Z,x1,x4,x4,x4,x1,x1,x4,x4,xb,x1,xb,xn,x1,x1,x2w,x1,x1,x4,x4,Z,x1,x4,x4,x4,x1,x1,x4,x4,xb,x1,xb,xl,x1,x1,x2x,x1,x1,x4,x4,Z,x1,x4,x4,x4,x1,x1,x4,x4,xb,x1,xn,x1,x1,x1,Z,xn,x1,xj,x4,Z,x1,x4,x4,x4,x1,x1,x4,x4,xb,x1,xn,x1,x1,x1,Z,xb,x1,xy,x4,Z,x1,x4,x4,x4,x1,x1,x4,x4]),(18,xp),(19,x22),(20,x25),(21,x28)],
 N 345 0 [S 12 0 6 20,x4z] 19 [(13,D 105 [xb,xn,x1,x1,x12,x1,x1,x4,x4,Z,x1,x4,x4,x4,x1,x1,x4,x4]),(14,x4s),(12,D 109 [xb,xb,xl,x1,x1,x1,Z,x1,x1,x4,xg,x2r,x1,x4,x4,x4,x1,x1,x4,x4,xb,xb,xb,xb,x1,x1,x2s,x1,x1,x4,x4,Z,x1,x4,x4,x4,x1,x1,x4,x4,xb,xb,xb,xn,x1,x1,x46,x1,x1,x4,x4,Z,x1,x4,x4,x4,x1,x1,x4,x4,xb,xb,xb,xl,x1,x1,S 18 0 5 4,x1,x1,x4,x4,Z,x1,x4,x4,x4,x1,x1,x4,x4,xb,xb,xn,x1,x1,x1,Z,xn,x1,xj,x4,Z,x1,x4,x4,x4,x1,x1,x4,x4,xb,xb,xn,x1,x1,x1,Z,xb,x1,xy,x4,Z,x1,x4,x4,x4,x1,x1,x4,x4]),(18,x19),(17,x17),(16,x15),(15,D 136 xo)] (.t [K 19 0 7 7,x1]) 25 [(19,C 109 [xb,xb,xl,x1,x1,x1,Z,x1,x1,x4,xg,x2w,x1,x4,x4,x4,x1,x1,x4,x4,xb,xb,xb,xb,x1,x1,x2x,x1,x1,x4,x4,Z,x1,x4,x4,x4,x1,x1,x4,x4,xb,xb,xb,xn,x1,x1,x2y,x1,x1,x4,x4,Z,x1,x4,x4,x4,x1,x1,x4,x4,xb,xb,xb,xl,x1,x1,x2v,x1,x1,x4,x4,Z,x1,x4,x4,x4,x1,x1,x4,x4,xb,xb,xn,x1,x1,x1,Z,xn,x1,xj,x4,Z,x1,x4,x4,x4,x1,x1,x4,x4,xb,xb,xn,x1,x1,x1,Z,xb,x1,xy,x4,Z,x1,x4,x4,x4,x1,x1,x4,x4,xn,x1,xb,xn,x1,x1,x4w,x1,x1,x4,x4,Z,x1,x4,x4,x4,x1,x1,x4,x4]),(20,xp),(21,x22),(22,x25),(23,x28),(24,x4s)],
 N 345 0 [S 12 0 6 20,x4z] 18 [(13,D 105 x5q),(12,x48),(17,x19),(16,x17),(15,x15),(14,D 136 xo)] (.t [K 18 0 7 7,x1]) 23 [(18,C 109 [xb,xb,xl,x1,x1,x1,Z,x1,x1,x4,xg,x2d,x1,x4,x4,x4,x1,x1,x4,x4,xb,xb,xb,xb,x1,x1,x2w,x1,x1,x4,x4,Z,x1,x4,x4,x4,x1,x1,x4,x4,xb,xb,xb,xn,x1,x1,x2x,x1,x1,x4,x4,Z,x1,x4,x4,x4,x1,x1,x4,x4,xb,xb,xb,xl,x1,x1,x2y,x1,x1,x4,x4,Z,x1,x4,x4,x4,x1,x1,x4,x4,xb,xb,xn,x1,x1,x1,Z,xn,x1,xj,x4,Z,x1,x4,x4,x4,x1,x1,x4,x4,xb,xb,xn,x1,x1,x1,Z,xb,x1,xy,x4,Z,x1,x4,x4,x4,x1,x1,x4,x4,xn,x1,xm,x1,x1,x1,Z,xb,x1,x5o,x4,Z,x1,x4,x4,x4,x1,x1,x4,x4]),(19,xp),(20,x22),(21,x25),(22,x28)]]
theorem L7ad_t : entsB (envT EB (mkT A7)) L7ad = true := by decide +kernel
theorem L7ad_ok : AllOK L7ad := entsB_ok (like_of okA7) L7ad_t
end
end Go.Ev
