/- Calls that are proved, rank 8. -/
import Derived.Test.YtpamikcnbnkgkaaGreatDoorB14
set_option linter.all false
set_option maxRecDepth 1000000
set_option maxHeartbeats 0
namespace Go.Ev
noncomputable section
def L8ab : List Ent := [
 N 11 0 x46 17 xfs x4d 24 [(17,C 215 [xf,x2o,Z]),(18,D 62 [xc,x0,x0,K 20 0 5 5,xm,x0,x0,x2p,xk,x0,x0,x2q]),(19,x2r),(20,xex),(21,x1u),(22,x1x),(23,xo)],
 N 16 0 x9b 17 x9c x9d 21 [(12,C 87 [S 13 0 9 2,x7,x3,I 9,x9,x0,x23,x5]),(17,C 330 [S 18 0 2 1,M 19,M 20]),(18,D 3 [xc,xm]),(19,.mp [(xm,xj,0)] 2),(20,.mp [(xc,xj,0)] 1)],
 N 16 0 x9b 21 [(12,C 87 [S 13 0 9 2,x7,x3,I 9,x9,x0,x21,x5]),(15,C 330 [S 16 0 2 1,M 17,M 18]),(18,.mp [(xc,xj,0)] 1),(17,.mp [(xm,xj,0)] 2),(16,D 3 [xc,xm]),(14,C 176 ([P 19 0,x3,xl,xc,x3,xm,I 7,xk,I 7]++x7l++x7m)),(19,C 75 [K 20 0 40 40,Z,x5,x0]),(20,x8r),(13,x8t)] x9d 22 x9f,
 N 16 0 x9b 17 x9y x9d 21 [(12,C 87 [x9x,x7,x3,I 9,x9,I 9,x23,x5]),(17,C 330 [S 18 0 2 1,M 19,M 20]),(18,D 3 [xc,xm]),(19,.mp [(xm,xj,0)] 2),(20,.mp [(xc,xj,0)] 1)],
 N 16 0 x9b 21 [(12,C 87 [x9x,x7,x3,I 9,x9,I 9,x21,x5]),(15,C 330 [S 16 0 2 1,M 17,M 18]),(18,.mp [(xc,xj,0)] 1),(17,.mp [(xm,xj,0)] 2),(16,D 3 [xc,xm]),(14,C 176 ([P 19 0,x3,xl,x0,x0,x0,x0,xk,I 7,x9,x9]++x9l++x9m)),(19,C 75 [K 20 0 40 40,Z,x5,x0]),(20,x9r),(13,x9t)] x9d 22 x9f,
 N 16 0 xac 17 x9c x9d 21 [(12,C 87 [S 13 0 9 2,x7,x3,I 9,x9,x0,x23,x5]),(17,C 330 [S 18 0 2 1,M 19,M 20]),(18,D 3 [xm,xk]),(19,.mp [(xk,xj,2)] 3),(20,x9e)],
 N 16 0 xac 17 x9y x9d 21 [(12,C 87 [x9x,x7,x3,I 9,x9,I 9,x23,x5]),(17,C 330 [S 18 0 2 1,M 19,M 20]),(18,D 3 [xm,xk]),(19,.mp [(xk,xj,2)] 3),(20,x9e)]]
theorem L8ab_t : entsB (envT EB (mkT A8)) L8ab = true := by decide +kernel
theorem L8ab_ok : AllOK L8ab := entsB_ok (like_of okA8) L8ab_t
end
end Go.Ev
set_option maxRecDepth 1000000
set_option maxHeartbeats 0
namespace Go.Ev
noncomputable section
def L8ad : List Ent := [
 N 16 0 x9b 17 xfs x9d 21 [(12,C 87 [x9x,x7,x3,xaq,x9,xaq,x23,x5]),(17,C 330 [S 18 0 2 1,M 19,M 20]),(18,D 3 [xc,xm]),(19,.mp [(xm,xj,0)] 2),(20,.mp [(xc,xj,0)] 1)],
 N 16 0 x9b 21 [(12,C 87 [x9x,x7,x3,xaq,x9,xaq,x21,x5]),(15,C 330 [S 16 0 2 1,M 17,M 18]),(18,.mp [(xc,xj,0)] 1),(17,.mp [(xm,xj,0)] 2),(16,D 3 [xc,xm]),(14,C 176 ([P 19 0,x3,I 7,x0,x0,x0,x0,x0,x0,x0,x0,xl,I 7,I 6,x9]++(Q 12 x0)++xfj)),(19,C 75 [K 20 0 56 56,Z,x5,x0]),(20,xfn),(13,xfp)] x9d 22 x9f,
 N 16 0 xac 17 xfg x9d 21 [(12,C 87 [S 13 0 15 2,x7,x3,xaq,x9,x0,x23,x5]),(17,C 330 [S 18 0 2 1,M 19,M 20]),(18,D 3 [xm,xk]),(19,.mp [(xk,xj,2)] 3),(20,x9e)],
 N 16 0 xac 17 xfs x9d 21 [(12,C 87 [x9x,x7,x3,xaq,x9,xaq,x23,x5]),(17,C 330 [S 18 0 2 1,M 19,M 20]),(18,D 3 [xm,xk]),(19,.mp [(xk,xj,2)] 3),(20,x9e)],
 N 75 0 [S 12 0 3 2,x48,x3] 18 x9h x9k 18 [],
 N 75 0 xa2 18 xa1 x9k 18 [],
 N 75 0 [S 12 0 4 2,x48,x3] 18 xdh x9d 18 [],
 N 75 0 xa2 18 xdv x9k 18 [],
 N 75 0 [S 12 0 5 2,x48,x3] 18 xfi x9d 18 [],
 N 75 0 xa2 18 xfu x9k 18 []]
theorem L8ad_t : entsB (envT EB (mkT A8)) L8ad = true := by decide +kernel
theorem L8ad_ok : AllOK L8ad := entsB_ok (like_of okA8) L8ad_t
end
end Go.Ev
set_option maxRecDepth 1000000
set_option maxHeartbeats 0
namespace Go.Ev
noncomputable section
def L8af : List Ent := [
 N 295 2 x4t 20 [(15,C 46 x6e),(14,x2r),(13,D 62 [xc,x0,x0,x2t,xm,x0,x0,K 17 0 5 5,xk,x0,x0,x1h]),(18,x1x),(17,x1u),(16,x5v),(12,C 215 [xf,K 19 0 5 5,Z]),(19,xo)] x4u 23 [(20,D 100 [xc,xc,x0,x0,x2q,x0,x0,x1,x1,Z,x0,x1,x1,x1,x0,x0,x1,x1]),(21,D 9 [x3i,.s [115]]),(22,x6g)],
 N 295 2 x4t 20 [(15,C 46 x6v),(14,x2r),(13,D 62 [xc,x0,x0,x2t,xm,x0,x0,K 17 0 5 5,xk,x0,x0,x1h]),(18,x1x),(17,x1u),(16,x6g),(12,C 215 [xf,K 19 0 5 5,Z]),(19,xo)] x4u 23 [(20,D 100 [xc,xc,x0,x0,x2q,x0,x0,x1,x1,Z,x0,x1,x1,x1,x0,x0,x1,x1]),(21,D 9 [x3i,.s [115]]),(22,x6x)],
 N 295 2 x4t 20 [(15,C 46 x7b),(14,x2r),(13,D 62 [xc,x0,x0,x2t,xm,x0,x0,K 17 0 5 5,xk,x0,x0,x1h]),(18,x1x),(17,x1u),(16,x6x),(12,C 215 [xf,K 19 0 5 5,Z]),(19,xo)] x4u 23 [(20,D 100 [xc,xc,x0,x0,x2q,x0,x0,x1,x1,Z,x0,x1,x1,x1,x0,x0,x1,x1]),(21,D 9 [x3i,.s [115]]),(22,x7d)],
 N 295 2 x4t 20 [(15,C 46 x7x),(14,x2r),(13,D 62 [xc,x0,x0,x2t,xm,x0,x0,K 17 0 5 5,xk,x0,x0,x1h]),(18,x1x),(17,x1u),(16,x7d),(12,C 215 [xf,K 19 0 5 5,Z]),(19,xo)] x4u 23 [(20,D 100 [xc,xc,x0,x0,x2q,x0,x0,x1,x1,Z,x0,x1,x1,x1,x0,x0,x1,x1]),(21,D 9 [x3i,.s [115]]),(22,x7z)],
 N 295 2 x4t 20 [(15,C 46 x8e),(14,x2r),(13,D 62 [xc,x0,x0,x2t,xm,x0,x0,K 17 0 5 5,xk,x0,x0,x1h]),(18,x1x),(17,x1u),(16,x7z),(12,C 215 [xf,K 19 0 5 5,Z]),(19,xo)] x4u 23 [(20,D 100 [xc,xc,x0,x0,x2q,x0,x0,x1,x1,Z,x0,x1,x1,x1,x0,x0,x1,x1]),(21,D 9 [x3i,.s [115]]),(22,x8g)]]
theorem L8af_t : entsB (envT EB (mkT A8)) L8af = true := by decide +kernel
theorem L8af_ok : AllOK L8af := entsB_ok (like_of okA8) L8af_t
end
end Go.Ev
set_option maxRecDepth 1000000
set_option maxHeartbeats 0
namespace Go.Ev
noncomputable section
def L8ah : List Ent := [
 N 295 2 x4t 20 [(15,C 46 xa4),(14,x2r),(13,D 62 [xc,x0,x0,x2t,xm,x0,x0,K 17 0 5 5,xk,x0,x0,x1h]),(18,x1x),(17,x1u),(16,xco),(12,C 215 [xf,K 19 0 5 5,Z]),(19,xo)] x4u 23 xa9,
 N 295 2 x4t 20 [(15,C 46 xeh),(14,x2r),(13,D 62 [xc,x0,x0,x2t,xm,x0,x0,K 17 0 5 5,xk,x0,x0,x1h]),(18,x1x),(17,x1u),(16,xd6),(12,C 215 [xf,K 19 0 5 5,Z]),(19,xo)] x4u 23 [(20,D 100 [xc,xc,x0,x0,x2q,x0,x0,x1,x1,Z,x0,x1,x1,x1,x0,x0,x1,x1]),(21,D 9 [x3i,.s [115]]),(22,xej)],
 N 295 2 x4t 20 [(15,C 46 xev),(14,x2r),(13,D 62 [xc,x0,x0,x2t,xm,x0,x0,K 17 0 5 5,xk,x0,x0,x1h]),(18,x1x),(17,x1u),(16,xej),(12,C 215 [xf,K 19 0 5 5,Z]),(19,xo)] x4u 23 [(20,D 100 [xc,xc,x0,x0,x2q,x0,x0,x1,x1,Z,x0,x1,x1,x1,x0,x0,x1,x1]),(21,D 9 [x3i,.s [115]]),(22,xex)],
 N 295 2 x4t 20 [(15,C 46 xfa),(14,x2r),(13,D 62 [xc,x0,x0,x2t,xm,x0,x0,K 17 0 5 5,xk,x0,x0,x1h]),(18,x1x),(17,x1u),(16,xex),(12,C 215 [xf,K 19 0 5 5,Z]),(19,xo)] x4u 23 [(20,D 100 [xc,xc,x0,x0,x2q,x0,x0,x1,x1,Z,x0,x1,x1,x1,x0,x0,x1,x1]),(21,D 9 [x3i,.s [115]]),(22,xfb)],
 N 295 2 x4t 20 [(15,C 46 xa4),(14,x2r),(13,D 62 [xc,x0,x0,x2t,xm,x0,x0,K 17 0 5 5,xk,x0,x0,x1h]),(18,x1x),(17,x1u),(16,xex),(12,C 215 [xf,K 19 0 5 5,Z]),(19,xo)] x4u 23 xa9]
theorem L8ah_t : entsB (envT EB (mkT A8)) L8ah = true := by decide +kernel
theorem L8ah_ok : AllOK L8ah := entsB_ok (like_of okA8) L8ah_t
end
end Go.Ev
