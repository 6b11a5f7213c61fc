/- Calls that are proved, rank 8. -/
import Derived.Test.YtolinijabfbjpaaGreatDoorB20
set_option linter.all false
set_option maxRecDepth 1000000
set_option maxHeartbeats 0
namespace Go.Ev
noncomputable section
def L8aa : List Ent := [
 N 9 0 x3b 9 [(4,C 46 [I 9,Z]),(3,C 87 [S 5 0 1 2,P 6 0,x3,x7,x5,x7,N0,x4]),(6,C 176 ([P 7 0,x3,x5,x7,x5]++x3c++[x7,x4,x4,x4])),(7,C 75 [K 8 0 32 32,Z,x4,x0]),(8,x3j),(5,x3l)] (.t [K 9 0 1 1,x0]) 10 [(9,C 24 [I 141])],
 N 295 2 [x9,K 3 0 6 6] 8 [(3,C 42 [xg,x0,x1,x1,x0,x0,x1,Z,Z,xa,xu,x0,x1,x1,x1,x0,x0,x1,x1,x7,x0,xa,x1,x0,x0,x1,Z,xw,x1,Z,x0,x1,x1,x1,x0,x0,x1,x1,x7,x0,xa,x1,x0,x0,x1,Z,x1b,x1,Z,x0,x1,x1,x1,x0,x0,x1,x1,x7,x0,xa,x1,x0,x0,x1,Z,x2i,x1,Z,x0,x1,x1,x1,x0,x0,x1,x1,xf,xp,x1,xs,x0,x0,x1,Z,Z,x1,Z,x0,x1,x1,x1,x0,x0,x1,x1,xf,xn,x1,xd,x0,x0,x1,Z,Z,x1,Z,x0,x1,x1,x1,x0,x0,x1,x1]),(7,xr),(6,xq),(5,xo),(4,xj)] (.t [S 8 0 6 18,S 9 0 1 1,x5,x0]) 14 [(8,D 102 [xf,x0,x0,x0,Z,x0,x0,x1,xa,x2j,x0,x1,x1,x1,x0,x0,x1,x1,x7,x7,x0,x0,x2k,x0,x0,x1,x1,Z,x0,x1,x1,x1,x0,x0,x1,x1,x7,xh,x0,x0,x2l,x0,x0,x1,x1,Z,x0,x1,x1,x1,x0,x0,x1,x1,x7,xf,x0,x0,x2m,x0,x0,x1,x1,Z,x0,x1,x1,x1,x0,x0,x1,x1,xh,x0,x0,x0,Z,xh,x0,xd,x1,Z,x0,x1,x1,x1,x0,x0,x1,x1,xh,x0,x0,x0,Z,x7,x0,xs,x1,Z,x0,x1,x1,x1,x0,x0,x1,x1]),(9,D 9 [.s [115]]),(10,x15),(11,xz),(12,x11),(13,x13)],
 N 295 2 [x4c,S 6 0 2 19] 12 [(6,x4j),(7,x40),(5,D 117 [xd,xh,xs,x7]),(4,D 100 [x7,x0,x0,x1j,xh,x0,x0,x1d,xf,x0,x0,x1w]),(10,x1s),(9,x1p),(8,x1m),(3,C 215 [xa,x2d,Z]),(11,xj)] (.t [S 12 0 2 18,x4k,xg,x0]) 15 [(12,D 102 [x7,x5,x0,x0,x4l,x0,x0,x1,x1,Z,x0,x1,x1,x1,x0,x0,x1,x1,xh,x0,x0,x0,Z,x5,x0,x3y,x1,Z,x0,x1,x1,x1,x0,x0,x1,x1]),(13,D 9 [.s [115]]),(14,x42)],
 N 295 2 [x52,x1h] 12 [(6,C 42 x51),(5,x4i),(4,D 100 [x7,x0,x0,x2i,xh,x0,x0,x1j,xf,x0,x0,x1d,x5,x0,x0,x1w]),(10,x45),(9,x1s),(8,x1p),(7,x1m),(3,C 215 [xa,x2d,Z]),(11,xj)] (.t [S 12 0 1 18,Z,xg,x0]) 13 [(12,x55)]]
theorem L8aa_t : entsB (envT EB (mkT A8)) L8aa = true := by decide +kernel
theorem L8aa_ok : AllOK L8aa := entsB_ok (like_of okA8) L8aa_t
end
end Go.Ev

/- Calls that are proved, rank 8. -/
set_option maxRecDepth 1000000
set_option maxHeartbeats 0
namespace Go.Ev
noncomputable section
def L8ad : List Ent := [
 N 295 2 [x4c,S 6 0 6 19] 12 [(6,x72),(7,x40),(5,D 117 [xd,xh,xs,x7]),(4,D 100 [x7,x0,x0,x1j,xh,x0,x0,x1d,xf,x0,x0,x1w]),(10,x1s),(9,x1p),(8,x1m),(3,C 215 [xa,x2d,Z]),(11,xj)] (.t [S 12 0 6 18,x4k,I 9,x0]) 19 [(12,D 102 [x7,x5,x0,x0,x4l,x0,x0,x1,x1,Z,x0,x1,x1,x1,x0,x0,x1,x1,x7,xg,x0,x0,x5q,x0,x0,x1,x1,Z,x0,x1,x1,x1,x0,x0,x1,x1,x7,I 6,x0,x0,x68,x0,x0,x1,x1,Z,x0,x1,x1,x1,x0,x0,x1,x1,x7,I 7,x0,x0,x6p,x0,x0,x1,x1,Z,x0,x1,x1,x1,x0,x0,x1,x1,x7,x3,x0,x0,x73,x0,x0,x1,x1,Z,x0,x1,x1,x1,x0,x0,x1,x1,xh,x0,x0,x0,Z,x5,x0,x3y,x1,Z,x0,x1,x1,x1,x0,x0,x1,x1]),(13,D 9 [.s [115]]),(14,x42),(15,x42),(16,x42),(17,x42),(18,x42)],
 N 295 2 [x4c,x1h] 11 [(6,C 42 x51),(5,D 117 [xd,xh,xs,x7]),(4,D 100 [x7,x0,x0,x2i,xh,x0,x0,x1j,xf,x0,x0,x1d]),(9,x1s),(8,x1p),(7,x1m),(3,C 215 [xa,x1w,Z]),(10,xj)] (.t [S 11 0 1 18,Z,x5,x0]) 12 [(11,x55)]]
theorem L8ad_t : entsB (envT EB (mkT A8)) L8ad = true := by decide +kernel
theorem L8ad_ok : AllOK L8ad := entsB_ok (like_of okA8) L8ad_t
end
end Go.Ev

/- Calls that are proved, rank 8. -/
set_option maxRecDepth 1000000
set_option maxHeartbeats 0
namespace Go.Ev
noncomputable section
def L8ag : List Ent := [
 N 295 2 [x4c,S 6 0 9 19] 12 [(6,x7v),(7,x40),(5,D 117 [xd,xh,xs,x7]),(4,D 100 [x7,x0,x0,x1j,xh,x0,x0,x1d,xf,x0,x0,x1w]),(10,x1s),(9,x1p),(8,x1m),(3,C 215 [xa,x2d,Z]),(11,xj)] (.t [S 12 0 9 18,x4k,x3u,x0]) 22 [(12,D 102 [x7,x5,x0,x0,x4l,x0,x0,x1,x1,Z,x0,x1,x1,x1,x0,x0,x1,x1,x7,xg,x0,x0,x5q,x0,x0,x1,x1,Z,x0,x1,x1,x1,x0,x0,x1,x1,x7,I 6,x0,x0,x68,x0,x0,x1,x1,Z,x0,x1,x1,x1,x0,x0,x1,x1,x7,I 7,x0,x0,x6p,x0,x0,x1,x1,Z,x0,x1,x1,x1,x0,x0,x1,x1,x7,x3,x0,x0,x73,x0,x0,x1,x1,Z,x0,x1,x1,x1,x0,x0,x1,x1,x7,I 9,x0,x0,x7h,x0,x0,x1,x1,Z,x0,x1,x1,x1,x0,x0,x1,x1,x7,x7d,x0,x0,x7p,x0,x0,x1,x1,Z,x0,x1,x1,x1,x0,x0,x1,x1,x7,x7l,x0,x0,x7w,x0,x0,x1,x1,Z,x0,x1,x1,x1,x0,x0,x1,x1,xh,x0,x0,x0,Z,x5,x0,x3y,x1,Z,x0,x1,x1,x1,x0,x0,x1,x1]),(13,D 9 [.s [115]]),(14,x42),(15,x42),(16,x42),(17,x42),(18,x42),(19,x42),(20,x42),(21,x42)]]
theorem L8ag_t : entsB (envT EB (mkT A8)) L8ag = true := by decide +kernel
theorem L8ag_ok : AllOK L8ag := entsB_ok (like_of okA8) L8ag_t
end
end Go.Ev

/- Calls that are proved, rank 8. -/
set_option maxRecDepth 1000000
set_option maxHeartbeats 0
namespace Go.Ev
noncomputable section
def L8aj : List Ent := [
 N 295 2 [x4c,S 6 0 12 19] 12 [(6,x8c),(7,x40),(5,D 117 [xd,xh,xs,x7]),(4,D 100 [x7,x0,x0,x1j,xh,x0,x0,x1d,xf,x0,x0,x1w]),(10,x1s),(9,x1p),(8,x1m),(3,C 215 [xa,x2d,Z]),(11,xj)] (.t [S 12 0 12 18,x4k,I 15,x0]) 25 [(12,D 102 [x7,x5,x0,x0,x4l,x0,x0,x1,x1,Z,x0,x1,x1,x1,x0,x0,x1,x1,x7,xg,x0,x0,x5q,x0,x0,x1,x1,Z,x0,x1,x1,x1,x0,x0,x1,x1,x7,I 6,x0,x0,x68,x0,x0,x1,x1,Z,x0,x1,x1,x1,x0,x0,x1,x1,x7,I 7,x0,x0,x6p,x0,x0,x1,x1,Z,x0,x1,x1,x1,x0,x0,x1,x1,x7,x3,x0,x0,x73,x0,x0,x1,x1,Z,x0,x1,x1,x1,x0,x0,x1,x1,x7,I 9,x0,x0,x7h,x0,x0,x1,x1,Z,x0,x1,x1,x1,x0,x0,x1,x1,x7,x7d,x0,x0,x7p,x0,x0,x1,x1,Z,x0,x1,x1,x1,x0,x0,x1,x1,x7,x7l,x0,x0,x7w,x0,x0,x1,x1,Z,x0,x1,x1,x1,x0,x0,x1,x1,x7,x3u,x0,x0,S 22 0 5 4,x0,x0,x1,x1,Z,x0,x1,x1,x1,x0,x0,x1,x1,x7,x80,x0,x0,S 23 0 5 4,x0,x0,x1,x1,Z,x0,x1,x1,x1,x0,x0,x1,x1,x7,x87,x0,x0,S 24 0 5 4,x0,x0,x1,x1,Z,x0,x1,x1,x1,x0,x0,x1,x1,xh,x0,x0,x0,Z,x5,x0,x3y,x1,Z,x0,x1,x1,x1,x0,x0,x1,x1]),(13,D 9 [.s [115]]),(14,x42),(15,x42),(16,x42),(17,x42),(18,x42),(19,x42),(20,x42),(21,x42),(22,x42),(23,x42),(24,x42)]]
theorem L8aj_t : entsB (envT EB (mkT A8)) L8aj = true := by decide +kernel
theorem L8aj_ok : AllOK L8aj := entsB_ok (like_of okA8) L8aj_t
end
end Go.Ev
