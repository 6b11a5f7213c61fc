/- Calls that are proved, rank 8. -/
import Derived.Test.YtolinijabfbjpaaGreatDoorB20
set_option linter.all false
set_option maxRecDepth 1000000
set_option maxHeartbeats 0
namespace Go.Ev
noncomputable section
def L8ac : List Ent := [
 N 295 2 [x6e,x1h] 14 [(6,C 42 x51),(5,x4i),(4,D 100 [x7,x0,x0,x2i,xh,x0,x0,x1j,xf,x0,x0,x1d,x5,x0,x0,x1w,xg,x0,x0,x2d,I 6,x0,x0,x2e]),(12,x45),(11,x45),(10,x45),(9,x1s),(8,x1p),(7,x1m),(3,C 215 [xa,x2f,Z]),(13,xj)] (.t [S 14 0 1 18,Z,I 7,x0]) 15 [(14,x55)],
 N 295 2 [x4c,S 6 0 5 19] 12 [(6,x6o),(7,x40),(5,D 117 [xd,xh,xs,x7]),(4,D 100 [x7,x0,x0,x1j,xh,x0,x0,x1d,xf,x0,x0,x1w]),(10,x1s),(9,x1p),(8,x1m),(3,C 215 [xa,x2d,Z]),(11,xj)] (.t [S 12 0 5 18,x4k,x3,x0]) 18 [(12,D 102 [x7,x5,x0,x0,x4l,x0,x0,x1,x1,Z,x0,x1,x1,x1,x0,x0,x1,x1,x7,xg,x0,x0,x5q,x0,x0,x1,x1,Z,x0,x1,x1,x1,x0,x0,x1,x1,x7,I 6,x0,x0,x68,x0,x0,x1,x1,Z,x0,x1,x1,x1,x0,x0,x1,x1,x7,I 7,x0,x0,x6p,x0,x0,x1,x1,Z,x0,x1,x1,x1,x0,x0,x1,x1,xh,x0,x0,x0,Z,x5,x0,x3y,x1,Z,x0,x1,x1,x1,x0,x0,x1,x1]),(13,D 9 [.s [115]]),(14,x42),(15,x42),(16,x42),(17,x42)],
 N 295 2 [x6v,x1h] 15 [(6,C 42 x51),(5,x4i),(4,D 100 [x7,x0,x0,x2i,xh,x0,x0,x1j,xf,x0,x0,x1d,x5,x0,x0,x1w,xg,x0,x0,x2d,I 6,x0,x0,x2e,I 7,x0,x0,x2f]),(13,x45),(12,x45),(11,x45),(10,x45),(9,x1s),(8,x1p),(7,x1m),(3,C 215 [xa,x2c,Z]),(14,xj)] (.t [S 15 0 1 18,Z,x3,x0]) 16 [(15,x55)]]
theorem L8ac_t : entsB (envT EB (mkT A8)) L8ac = true := by decide +kernel
theorem L8ac_ok : AllOK L8ac := entsB_ok (like_of okA8) L8ac_t
end
end Go.Ev

/- Calls that are proved, rank 8. -/
set_option maxRecDepth 1000000
set_option maxHeartbeats 0
namespace Go.Ev
noncomputable section
def L8af : List Ent := [
 N 295 2 [x4c,S 6 0 8 19] 12 [(6,x7o),(7,x40),(5,D 117 [xd,xh,xs,x7]),(4,D 100 [x7,x0,x0,x1j,xh,x0,x0,x1d,xf,x0,x0,x1w]),(10,x1s),(9,x1p),(8,x1m),(3,C 215 [xa,x2d,Z]),(11,xj)] (.t [S 12 0 8 18,x4k,x7l,x0]) 21 [(12,D 102 [x7,x5,x0,x0,x4l,x0,x0,x1,x1,Z,x0,x1,x1,x1,x0,x0,x1,x1,x7,xg,x0,x0,x5q,x0,x0,x1,x1,Z,x0,x1,x1,x1,x0,x0,x1,x1,x7,I 6,x0,x0,x68,x0,x0,x1,x1,Z,x0,x1,x1,x1,x0,x0,x1,x1,x7,I 7,x0,x0,x6p,x0,x0,x1,x1,Z,x0,x1,x1,x1,x0,x0,x1,x1,x7,x3,x0,x0,x73,x0,x0,x1,x1,Z,x0,x1,x1,x1,x0,x0,x1,x1,x7,I 9,x0,x0,x7h,x0,x0,x1,x1,Z,x0,x1,x1,x1,x0,x0,x1,x1,x7,x7d,x0,x0,x7p,x0,x0,x1,x1,Z,x0,x1,x1,x1,x0,x0,x1,x1,xh,x0,x0,x0,Z,x5,x0,x3y,x1,Z,x0,x1,x1,x1,x0,x0,x1,x1]),(13,D 9 [.s [115]]),(14,x42),(15,x42),(16,x42),(17,x42),(18,x42),(19,x42),(20,x42)]]
theorem L8af_t : entsB (envT EB (mkT A8)) L8af = true := by decide +kernel
theorem L8af_ok : AllOK L8af := entsB_ok (like_of okA8) L8af_t
end
end Go.Ev

/- Calls that are proved, rank 8. -/
set_option maxRecDepth 1000000
set_option maxHeartbeats 0
namespace Go.Ev
noncomputable section
def L8ai : List Ent := [
 N 295 2 [x4c,S 6 0 11 19] 12 [(6,x88),(7,x40),(5,D 117 [xd,xh,xs,x7]),(4,D 100 [x7,x0,x0,x1j,xh,x0,x0,x1d,xf,x0,x0,x1w]),(10,x1s),(9,x1p),(8,x1m),(3,C 215 [xa,x2d,Z]),(11,xj)] (.t [S 12 0 11 18,x4k,x87,x0]) 24 [(12,D 102 [x7,x5,x0,x0,x4l,x0,x0,x1,x1,Z,x0,x1,x1,x1,x0,x0,x1,x1,x7,xg,x0,x0,x5q,x0,x0,x1,x1,Z,x0,x1,x1,x1,x0,x0,x1,x1,x7,I 6,x0,x0,x68,x0,x0,x1,x1,Z,x0,x1,x1,x1,x0,x0,x1,x1,x7,I 7,x0,x0,x6p,x0,x0,x1,x1,Z,x0,x1,x1,x1,x0,x0,x1,x1,x7,x3,x0,x0,x73,x0,x0,x1,x1,Z,x0,x1,x1,x1,x0,x0,x1,x1,x7,I 9,x0,x0,x7h,x0,x0,x1,x1,Z,x0,x1,x1,x1,x0,x0,x1,x1,x7,x7d,x0,x0,x7p,x0,x0,x1,x1,Z,x0,x1,x1,x1,x0,x0,x1,x1,x7,x7l,x0,x0,x7w,x0,x0,x1,x1,Z,x0,x1,x1,x1,x0,x0,x1,x1,x7,x3u,x0,x0,S 22 0 5 4,x0,x0,x1,x1,Z,x0,x1,x1,x1,x0,x0,x1,x1,x7,x80,x0,x0,S 23 0 5 4,x0,x0,x1,x1,Z,x0,x1,x1,x1,x0,x0,x1,x1,xh,x0,x0,x0,Z,x5,x0,x3y,x1,Z,x0,x1,x1,x1,x0,x0,x1,x1]),(13,D 9 [.s [115]]),(14,x42),(15,x42),(16,x42),(17,x42),(18,x42),(19,x42),(20,x42),(21,x42),(22,x42),(23,x42)]]
theorem L8ai_t : entsB (envT EB (mkT A8)) L8ai = true := by decide +kernel
theorem L8ai_ok : AllOK L8ai := entsB_ok (like_of okA8) L8ai_t
end
end Go.Ev
