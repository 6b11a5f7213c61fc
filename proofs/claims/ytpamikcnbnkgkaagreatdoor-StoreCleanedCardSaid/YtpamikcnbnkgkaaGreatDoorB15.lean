/- Calls that are proved, rank 8. -/
import Derived.Test.YtpamikcnbnkgkaaGreatDoorB14
set_option linter.all false
set_option maxRecDepth 1000000
set_option maxHeartbeats 0
namespace Go.Ev
noncomputable section
def L8aa : List Ent := [
 N 8 0 x3u 18 [(13,C 49 [I 9,Z]),(12,C 87 [S 14 0 1 2,x21,x3,xc,x9,xc,N0,x5]),(15,C 176 ([x22,x3,x9,xc,x9]++x3w++[xc,x5,x5,x5])),(16,C 75 [K 17 0 32 32,Z,x5,x0]),(17,x43),(14,x45)] (.t [K 18 0 1 1,x0]) 19 [(18,C 24 [I 141])],
 N 11 0 x46 17 [(12,C 87 [S 13 0 1 2,x7,x3,xc,x9,x0,N0,x5]),(14,C 176 ([x21,x3,x9,xc,x9]++x3w++x3x)),(15,C 75 [K 16 0 32 32,Z,x5,x0]),(16,x43),(13,x45)] x4d 24 x2s,
 N 11 0 x46 17 x4e x4d 24 x2s,
 N 11 0 x46 17 x9y x4d 24 [(17,C 215 [xf,x2o,Z]),(18,D 62 [xc,x0,x0,K 20 0 5 5,xm,x0,x0,x2p,xk,x0,x0,x2q]),(19,x2r),(20,x8g),(21,x1u),(22,x1x),(23,xo)],
 N 11 0 x46 17 xdt x4d 24 [(17,C 215 [xf,x2o,Z]),(18,D 62 [xc,x0,x0,K 20 0 5 5,xm,x0,x0,x2p,xk,x0,x0,x2q]),(19,x2r),(20,xco),(21,x1u),(22,x1x),(23,xo)]]
theorem L8aa_t : entsB (envT EB (mkT A8)) L8aa = true := by decide +kernel
theorem L8aa_ok : AllOK L8aa := entsB_ok (like_of okA8) L8aa_t
end
end Go.Ev
set_option maxRecDepth 1000000
set_option maxHeartbeats 0
namespace Go.Ev
noncomputable section
def L8ac : List Ent := [
 N 16 0 x9b 17 xdf x9d 21 [(12,C 87 [S 13 0 12 2,x7,x3,xak,x9,x0,x23,x5]),(17,C 330 [S 18 0 2 1,M 19,M 20]),(18,D 3 [xc,xm]),(19,.mp [(xm,xj,0)] 2),(20,.mp [(xc,xj,0)] 1)],
 N 16 0 x9b 21 [(12,C 87 [S 13 0 12 2,x7,x3,xak,x9,x0,x21,x5]),(15,C 330 [S 16 0 2 1,M 17,M 18]),(18,.mp [(xc,xj,0)] 1),(17,.mp [(xm,xj,0)] 2),(16,D 3 [xc,xm]),(14,C 176 ([P 19 0,x3,I 6,xc,x3,xm,I 7,xk,I 7,x9,I 7]++x9l++x9m)),(19,C 75 [K 20 0 48 48,Z,x5,x0]),(20,xcz),(13,xd1)] x9d 22 x9f,
 N 16 0 x9b 17 xdt x9d 21 [(12,C 87 [x9x,x7,x3,xak,x9,xak,x23,x5]),(17,C 330 [S 18 0 2 1,M 19,M 20]),(18,D 3 [xc,xm]),(19,.mp [(xm,xj,0)] 2),(20,.mp [(xc,xj,0)] 1)],
 N 16 0 x9b 21 [(12,C 87 [x9x,x7,x3,xak,x9,xak,x21,x5]),(15,C 330 [S 16 0 2 1,M 17,M 18]),(18,.mp [(xc,xj,0)] 1),(17,.mp [(xm,xj,0)] 2),(16,D 3 [xc,xm]),(14,C 176 ([P 19 0,x3,I 6,x0,x0,x0,x0,x0,x0,x9,I 7,xl,x9]++xdi++xdj)),(19,C 75 [K 20 0 48 48,Z,x5,x0]),(20,xdo),(13,xdq)] x9d 22 x9f,
 N 16 0 xac 17 xdf x9d 21 [(12,C 87 [S 13 0 12 2,x7,x3,xak,x9,x0,x23,x5]),(17,C 330 [S 18 0 2 1,M 19,M 20]),(18,D 3 [xm,xk]),(19,.mp [(xk,xj,2)] 3),(20,x9e)],
 N 16 0 xac 17 xdt x9d 21 [(12,C 87 [x9x,x7,x3,xak,x9,xak,x23,x5]),(17,C 330 [S 18 0 2 1,M 19,M 20]),(18,D 3 [xm,xk]),(19,.mp [(xk,xj,2)] 3),(20,x9e)],
 N 16 0 x9b 17 xfg x9d 21 [(12,C 87 [S 13 0 15 2,x7,x3,xaq,x9,x0,x23,x5]),(17,C 330 [S 18 0 2 1,M 19,M 20]),(18,D 3 [xc,xm]),(19,.mp [(xm,xj,0)] 2),(20,.mp [(xc,xj,0)] 1)],
 N 16 0 x9b 21 [(12,C 87 [S 13 0 15 2,x7,x3,xaq,x9,x0,x21,x5]),(15,C 330 [S 16 0 2 1,M 17,M 18]),(18,.mp [(xc,xj,0)] 1),(17,.mp [(xm,xj,0)] 2),(16,D 3 [xc,xm]),(14,C 176 ([P 19 0,x3,I 7,xc,x3,xm,I 7,xk,I 7,x9,I 7,xl,I 7]++xdi++xdj)),(19,C 75 [K 20 0 56 56,Z,x5,x0]),(20,xf5),(13,xf7)] x9d 22 x9f]
theorem L8ac_t : entsB (envT EB (mkT A8)) L8ac = true := by decide +kernel
theorem L8ac_ok : AllOK L8ac := entsB_ok (like_of okA8) L8ac_t
end
end Go.Ev
set_option maxRecDepth 1000000
set_option maxHeartbeats 0
namespace Go.Ev
noncomputable section
def L8ae : List Ent := [
 N 295 2 [xe,K 12 0 6 6] 17 [(12,C 46 [xl,x0,x1,x1,x0,x0,x1,Z,Z,xf,xz,x0,x1,x1,x1,x0,x0,x1,x1,xc,x0,xf,x1,x0,x0,x1,Z,x11,x1,Z,x0,x1,x1,x1,x0,x0,x1,x1,xc,x0,xf,x1,x0,x0,x1,Z,x1f,x1,Z,x0,x1,x1,x1,x0,x0,x1,x1,xc,x0,xf,x1,x0,x0,x1,Z,x2t,x1,Z,x0,x1,x1,x1,x0,x0,x1,x1,xk,xu,x1,xx,x0,x0,x1,Z,Z,x1,Z,x0,x1,x1,x1,x0,x0,x1,x1,xk,xs,x1,xi,x0,x0,x1,Z,Z,x1,Z,x0,x1,x1,x1,x0,x0,x1,x1]),(16,xw),(15,xv),(14,xt),(13,xo)] (.t [S 17 0 6 18,S 18 0 1 1,x9,x0]) 23 [(17,D 100 [xk,x0,x0,x0,Z,x0,x0,x1,xf,x2u,x0,x1,x1,x1,x0,x0,x1,x1,xc,xc,x0,x0,x2v,x0,x0,x1,x1,Z,x0,x1,x1,x1,x0,x0,x1,x1,xc,xm,x0,x0,x2w,x0,x0,x1,x1,Z,x0,x1,x1,x1,x0,x0,x1,x1,xc,xk,x0,x0,x2x,x0,x0,x1,x1,Z,x0,x1,x1,x1,x0,x0,x1,x1,xm,x0,x0,x0,Z,xm,x0,xi,x1,Z,x0,x1,x1,x1,x0,x0,x1,x1,xm,x0,x0,x0,Z,xc,x0,xx,x1,Z,x0,x1,x1,x1,x0,x0,x1,x1]),(18,D 9 [.s [115]]),(19,x1a),(20,x14),(21,x16),(22,x18)],
 N 295 2 x4t 20 [(15,C 46 x4k),(14,x2r),(13,D 62 [xc,x0,x0,x2t,xm,x0,x0,K 17 0 5 5,xk,x0,x0,x1h]),(18,x1x),(17,x1u),(16,x1r),(12,C 215 [xf,K 19 0 5 5,Z]),(19,xo)] x4u 23 [(20,D 100 [xc,xc,x0,x0,x2q,x0,x0,x1,x1,Z,x0,x1,x1,x1,x0,x0,x1,x1]),(21,D 9 [x3i,.s [115]]),(22,x1r)],
 N 295 2 x4t 20 [(15,C 46 x5b),(14,x2r),(13,D 62 [xc,x0,x0,x2t,xm,x0,x0,K 17 0 5 5,xk,x0,x0,x1h]),(18,x1x),(17,x1u),(16,x1r),(12,C 215 [xf,K 19 0 5 5,Z]),(19,xo)] x4u 23 [(20,D 100 [xc,xc,x0,x0,x2q,x0,x0,x1,x1,Z,x0,x1,x1,x1,x0,x0,x1,x1]),(21,D 9 [x3i,.s [115]]),(22,x5d)],
 N 295 2 x4t 20 [(15,C 46 x5t),(14,x2r),(13,D 62 [xc,x0,x0,x2t,xm,x0,x0,K 17 0 5 5,xk,x0,x0,x1h]),(18,x1x),(17,x1u),(16,x5d),(12,C 215 [xf,K 19 0 5 5,Z]),(19,xo)] x4u 23 [(20,D 100 [xc,xc,x0,x0,x2q,x0,x0,x1,x1,Z,x0,x1,x1,x1,x0,x0,x1,x1]),(21,D 9 [x3i,.s [115]]),(22,x5v)]]
theorem L8ae_t : entsB (envT EB (mkT A8)) L8ae = true := by decide +kernel
theorem L8ae_ok : AllOK L8ae := entsB_ok (like_of okA8) L8ae_t
end
end Go.Ev
set_option maxRecDepth 1000000
set_option maxHeartbeats 0
namespace Go.Ev
noncomputable section
def L8ag : List Ent := [
 N 295 2 x4t 20 [(15,C 46 x8w),(14,x2r),(13,D 62 [xc,x0,x0,x2t,xm,x0,x0,K 17 0 5 5,xk,x0,x0,x1h]),(18,x1x),(17,x1u),(16,x8g),(12,C 215 [xf,K 19 0 5 5,Z]),(19,xo)] x4u 23 [(20,D 100 [xc,xc,x0,x0,x2q,x0,x0,x1,x1,Z,x0,x1,x1,x1,x0,x0,x1,x1]),(21,D 9 [x3i,.s [115]]),(22,x8y)],
 N 295 2 x4t 20 [(15,C 46 xa4),(14,x2r),(13,D 62 [xc,x0,x0,x2t,xm,x0,x0,K 17 0 5 5,xk,x0,x0,x1h]),(18,x1x),(17,x1u),(16,x8g),(12,C 215 [xf,K 19 0 5 5,Z]),(19,xo)] x4u 23 xa9,
 N 295 2 x4t 20 [(15,C 46 xc6),(14,x2r),(13,D 62 [xc,x0,x0,x2t,xm,x0,x0,K 17 0 5 5,xk,x0,x0,x1h]),(18,x1x),(17,x1u),(16,x8y),(12,C 215 [xf,K 19 0 5 5,Z]),(19,xo)] x4u 23 [(20,D 100 [xc,xc,x0,x0,x2q,x0,x0,x1,x1,Z,x0,x1,x1,x1,x0,x0,x1,x1]),(21,D 9 [x3i,.s [115]]),(22,xc8)],
 N 295 2 x4t 20 [(15,C 46 xcm),(14,x2r),(13,D 62 [xc,x0,x0,x2t,xm,x0,x0,K 17 0 5 5,xk,x0,x0,x1h]),(18,x1x),(17,x1u),(16,xc8),(12,C 215 [xf,K 19 0 5 5,Z]),(19,xo)] x4u 23 [(20,D 100 [xc,xc,x0,x0,x2q,x0,x0,x1,x1,Z,x0,x1,x1,x1,x0,x0,x1,x1]),(21,D 9 [x3i,.s [115]]),(22,xco)],
 N 295 2 x4t 20 [(15,C 46 xd4),(14,x2r),(13,D 62 [xc,x0,x0,x2t,xm,x0,x0,K 17 0 5 5,xk,x0,x0,x1h]),(18,x1x),(17,x1u),(16,xco),(12,C 215 [xf,K 19 0 5 5,Z]),(19,xo)] x4u 23 [(20,D 100 [xc,xc,x0,x0,x2q,x0,x0,x1,x1,Z,x0,x1,x1,x1,x0,x0,x1,x1]),(21,D 9 [x3i,.s [115]]),(22,xd6)]]
theorem L8ag_t : entsB (envT EB (mkT A8)) L8ag = true := by decide +kernel
theorem L8ag_ok : AllOK L8ag := entsB_ok (like_of okA8) L8ag_t
end
end Go.Ev
