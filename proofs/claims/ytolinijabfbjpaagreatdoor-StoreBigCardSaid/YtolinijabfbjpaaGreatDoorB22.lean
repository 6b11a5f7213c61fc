/- Calls that are proved, rank 8. -/
import Derived.Test.YtolinijabfbjpaaGreatDoorB20
set_option linter.all false
set_option maxRecDepth 1000000
set_option maxHeartbeats 0
namespace Go.Ev
noncomputable section
def L8ab : List Ent := [
 N 295 2 [x4c,S 6 0 3 19] 12 [(6,x5p),(7,x40),(5,D 117 [xd,xh,xs,x7]),(4,D 100 [x7,x0,x0,x1j,xh,x0,x0,x1d,xf,x0,x0,x1w]),(10,x1s),(9,x1p),(8,x1m),(3,C 215 [xa,x2d,Z]),(11,xj)] (.t [S 12 0 3 18,x4k,I 6,x0]) 16 [(12,D 102 [x7,x5,x0,x0,x4l,x0,x0,x1,x1,Z,x0,x1,x1,x1,x0,x0,x1,x1,x7,xg,x0,x0,x5q,x0,x0,x1,x1,Z,x0,x1,x1,x1,x0,x0,x1,x1,xh,x0,x0,x0,Z,x5,x0,x3y,x1,Z,x0,x1,x1,x1,x0,x0,x1,x1]),(13,D 9 [.s [115]]),(14,x42),(15,x42)],
 N 295 2 [x5w,x1h] 13 [(6,C 42 x51),(5,x4i),(4,D 100 [x7,x0,x0,x2i,xh,x0,x0,x1j,xf,x0,x0,x1d,x5,x0,x0,x1w,xg,x0,x0,x2d]),(11,x45),(10,x45),(9,x1s),(8,x1p),(7,x1m),(3,C 215 [xa,x2e,Z]),(12,xj)] (.t [S 13 0 1 18,Z,I 6,x0]) 14 [(13,x55)],
 N 295 2 [x4c,S 6 0 4 19] 12 [(6,x67),(7,x40),(5,D 117 [xd,xh,xs,x7]),(4,D 100 [x7,x0,x0,x1j,xh,x0,x0,x1d,xf,x0,x0,x1w]),(10,x1s),(9,x1p),(8,x1m),(3,C 215 [xa,x2d,Z]),(11,xj)] (.t [S 12 0 4 18,x4k,I 7,x0]) 17 [(12,D 102 [x7,x5,x0,x0,x4l,x0,x0,x1,x1,Z,x0,x1,x1,x1,x0,x0,x1,x1,x7,xg,x0,x0,x5q,x0,x0,x1,x1,Z,x0,x1,x1,x1,x0,x0,x1,x1,x7,I 6,x0,x0,x68,x0,x0,x1,x1,Z,x0,x1,x1,x1,x0,x0,x1,x1,xh,x0,x0,x0,Z,x5,x0,x3y,x1,Z,x0,x1,x1,x1,x0,x0,x1,x1]),(13,D 9 [.s [115]]),(14,x42),(15,x42),(16,x42)]]
theorem L8ab_t : entsB (envT EB (mkT A8)) L8ab = true := by decide +kernel
theorem L8ab_ok : AllOK L8ab := entsB_ok (like_of okA8) L8ab_t
end
end Go.Ev

/- Calls that are proved, rank 8. -/
set_option maxRecDepth 1000000
set_option maxHeartbeats 0
namespace Go.Ev
noncomputable section
def L8ae : List Ent := [
 N 295 2 [x4c,S 6 0 7 19] 12 [(6,x7g),(7,x40),(5,D 117 [xd,xh,xs,x7]),(4,D 100 [x7,x0,x0,x1j,xh,x0,x0,x1d,xf,x0,x0,x1w]),(10,x1s),(9,x1p),(8,x1m),(3,C 215 [xa,x2d,Z]),(11,xj)] (.t [S 12 0 7 18,x4k,x7d,x0]) 20 [(12,D 102 [x7,x5,x0,x0,x4l,x0,x0,x1,x1,Z,x0,x1,x1,x1,x0,x0,x1,x1,x7,xg,x0,x0,x5q,x0,x0,x1,x1,Z,x0,x1,x1,x1,x0,x0,x1,x1,x7,I 6,x0,x0,x68,x0,x0,x1,x1,Z,x0,x1,x1,x1,x0,x0,x1,x1,x7,I 7,x0,x0,x6p,x0,x0,x1,x1,Z,x0,x1,x1,x1,x0,x0,x1,x1,x7,x3,x0,x0,x73,x0,x0,x1,x1,Z,x0,x1,x1,x1,x0,x0,x1,x1,x7,I 9,x0,x0,x7h,x0,x0,x1,x1,Z,x0,x1,x1,x1,x0,x0,x1,x1,xh,x0,x0,x0,Z,x5,x0,x3y,x1,Z,x0,x1,x1,x1,x0,x0,x1,x1]),(13,D 9 [.s [115]]),(14,x42),(15,x42),(16,x42),(17,x42),(18,x42),(19,x42)]]
theorem L8ae_t : entsB (envT EB (mkT A8)) L8ae = true := by decide +kernel
theorem L8ae_ok : AllOK L8ae := entsB_ok (like_of okA8) L8ae_t
end
end Go.Ev

/- Calls that are proved, rank 8. -/
set_option maxRecDepth 1000000
set_option maxHeartbeats 0
namespace Go.Ev
noncomputable section
def L8ah : List Ent := [
 N 295 2 [x4c,S 6 0 10 19] 12 [(6,x83),(7,x40),(5,D 117 [xd,xh,xs,x7]),(4,D 100 [x7,x0,x0,x1j,xh,x0,x0,x1d,xf,x0,x0,x1w]),(10,x1s),(9,x1p),(8,x1m),(3,C 215 [xa,x2d,Z]),(11,xj)] (.t [S 12 0 10 18,x4k,x80,x0]) 23 [(12,D 102 [x7,x5,x0,x0,x4l,x0,x0,x1,x1,Z,x0,x1,x1,x1,x0,x0,x1,x1,x7,xg,x0,x0,x5q,x0,x0,x1,x1,Z,x0,x1,x1,x1,x0,x0,x1,x1,x7,I 6,x0,x0,x68,x0,x0,x1,x1,Z,x0,x1,x1,x1,x0,x0,x1,x1,x7,I 7,x0,x0,x6p,x0,x0,x1,x1,Z,x0,x1,x1,x1,x0,x0,x1,x1,x7,x3,x0,x0,x73,x0,x0,x1,x1,Z,x0,x1,x1,x1,x0,x0,x1,x1,x7,I 9,x0,x0,x7h,x0,x0,x1,x1,Z,x0,x1,x1,x1,x0,x0,x1,x1,x7,x7d,x0,x0,x7p,x0,x0,x1,x1,Z,x0,x1,x1,x1,x0,x0,x1,x1,x7,x7l,x0,x0,x7w,x0,x0,x1,x1,Z,x0,x1,x1,x1,x0,x0,x1,x1,x7,x3u,x0,x0,S 22 0 5 4,x0,x0,x1,x1,Z,x0,x1,x1,x1,x0,x0,x1,x1,xh,x0,x0,x0,Z,x5,x0,x3y,x1,Z,x0,x1,x1,x1,x0,x0,x1,x1]),(13,D 9 [.s [115]]),(14,x42),(15,x42),(16,x42),(17,x42),(18,x42),(19,x42),(20,x42),(21,x42),(22,x42)]]
theorem L8ah_t : entsB (envT EB (mkT A8)) L8ah = true := by decide +kernel
theorem L8ah_ok : AllOK L8ah := entsB_ok (like_of okA8) L8ah_t
end
end Go.Ev

/- Calls that are proved, rank 8. -/
set_option maxRecDepth 1000000
set_option maxHeartbeats 0
namespace Go.Ev
noncomputable section
def L8ak : List Ent := [
 N 295 2 [x4c,S 6 0 13 19] 12 [(6,x8g),(7,x40),(5,D 117 [xd,xh,xs,x7]),(4,D 100 [x7,x0,x0,x1j,xh,x0,x0,x1d,xf,x0,x0,x1w]),(10,x1s),(9,x1p),(8,x1m),(3,C 215 [xa,x2d,Z]),(11,xj)] (.t [S 12 0 13 18,x4k,I 16,x0]) 26 [(12,D 102 [x7,x5,x0,x0,x4l,x0,x0,x1,x1,Z,x0,x1,x1,x1,x0,x0,x1,x1,x7,xg,x0,x0,x5q,x0,x0,x1,x1,Z,x0,x1,x1,x1,x0,x0,x1,x1,x7,I 6,x0,x0,x68,x0,x0,x1,x1,Z,x0,x1,x1,x1,x0,x0,x1,x1,x7,I 7,x0,x0,x6p,x0,x0,x1,x1,Z,x0,x1,x1,x1,x0,x0,x1,x1,x7,x3,x0,x0,x73,x0,x0,x1,x1,Z,x0,x1,x1,x1,x0,x0,x1,x1,x7,I 9,x0,x0,x7h,x0,x0,x1,x1,Z,x0,x1,x1,x1,x0,x0,x1,x1,x7,x7d,x0,x0,x7p,x0,x0,x1,x1,Z,x0,x1,x1,x1,x0,x0,x1,x1,x7,x7l,x0,x0,x7w,x0,x0,x1,x1,Z,x0,x1,x1,x1,x0,x0,x1,x1,x7,x3u,x0,x0,S 22 0 5 4,x0,x0,x1,x1,Z,x0,x1,x1,x1,x0,x0,x1,x1,x7,x80,x0,x0,S 23 0 5 4,x0,x0,x1,x1,Z,x0,x1,x1,x1,x0,x0,x1,x1,x7,x87,x0,x0,S 24 0 5 4,x0,x0,x1,x1,Z,x0,x1,x1,x1,x0,x0,x1,x1,x7,I 15,x0,x0,S 25 0 5 4,x0,x0,x1,x1,Z,x0,x1,x1,x1,x0,x0,x1,x1,xh,x0,x0,x0,Z,x5,x0,x3y,x1,Z,x0,x1,x1,x1,x0,x0,x1,x1]),(13,D 9 [.s [115]]),(14,x42),(15,x42),(16,x42),(17,x42),(18,x42),(19,x42),(20,x42),(21,x42),(22,x42),(23,x42),(24,x42),(25,x42)]]
theorem L8ak_t : entsB (envT EB (mkT A8)) L8ak = true := by decide +kernel
theorem L8ak_ok : AllOK L8ak := entsB_ok (like_of okA8) L8ak_t
end
end Go.Ev
