/- Calls that are proved, rank 6. -/
import Derived.Test.YtolinijabfbjpaaGreatDoorB09
set_option linter.all false
set_option maxRecDepth 1000000
set_option maxHeartbeats 0
namespace Go.Ev
noncomputable section
def L6ac : List Ent := [
 N 40 0 [K 3 0 9 9] 11 [(3,C 106 [x7,x7,xf,x0,x0,x0,Z,x0,x0,x1,xa,xu,x0,x1,x1,x1,x0,x0,x1,x1,x7,x7,x7,x7,x0,x0,xw,x0,x0,x1,x1,Z,x0,x1,x1,x1,x0,x0,x1,x1,x7,x7,x7,xh,x0,x0,x1b,x0,x0,x1,x1,Z,x0,x1,x1,x1,x0,x0,x1,x1,x7,x7,x7,xf,x0,x0,x2i,x0,x0,x1,x1,Z,x0,x1,x1,x1,x0,x0,x1,x1,x7,x7,xh,x0,x0,x0,Z,xh,x0,xd,x1,Z,x0,x1,x1,x1,x0,x0,x1,x1,x7,x7,xh,x0,x0,x0,Z,x7,x0,xs,x1,Z,x0,x1,x1,x1,x0,x0,x1,x1,xh,x0,x7,x5,x0,x0,x1j,x0,x0,x1,x1,Z,x0,x1,x1,x1,x0,x0,x1,x1,xh,x0,x7,xg,x0,x0,x1d,x0,x0,x1,x1,Z,x0,x1,x1,x1,x0,x0,x1,x1,xh,x0,x7,I 6,x0,x0,x1w,x0,x0,x1,x1,Z,x0,x1,x1,x1,x0,x0,x1,x1]),(10,x45),(9,x45),(8,x45),(7,x1s),(6,x1p),(5,x1m),(4,xj)] x8 11 [],
 N 40 0 x18 5 [(3,C 106 [xh,x7,x7,I 6,x0,x0,xx,x0,x0,x1,x1,Z,x0,x1,x1,x1,x0,x0,x1,x1]),(4,x42)] x8 5 [],
 N 40 0 [K 3 0 10 10] 11 x6d x8 11 [],
 N 40 0 [S 3 0 11 20] 11 x6k x8 11 [],
 N 40 0 [K 3 0 10 10] 12 [(3,C 106 [x7,x7,xf,x0,x0,x0,Z,x0,x0,x1,xa,xu,x0,x1,x1,x1,x0,x0,x1,x1,x7,x7,x7,x7,x0,x0,xw,x0,x0,x1,x1,Z,x0,x1,x1,x1,x0,x0,x1,x1,x7,x7,x7,xh,x0,x0,x1b,x0,x0,x1,x1,Z,x0,x1,x1,x1,x0,x0,x1,x1,x7,x7,x7,xf,x0,x0,x2i,x0,x0,x1,x1,Z,x0,x1,x1,x1,x0,x0,x1,x1,x7,x7,xh,x0,x0,x0,Z,xh,x0,xd,x1,Z,x0,x1,x1,x1,x0,x0,x1,x1,x7,x7,xh,x0,x0,x0,Z,x7,x0,xs,x1,Z,x0,x1,x1,x1,x0,x0,x1,x1,xh,x0,x7,x5,x0,x0,x1j,x0,x0,x1,x1,Z,x0,x1,x1,x1,x0,x0,x1,x1,xh,x0,x7,xg,x0,x0,x1d,x0,x0,x1,x1,Z,x0,x1,x1,x1,x0,x0,x1,x1,xh,x0,x7,I 6,x0,x0,x1w,x0,x0,x1,x1,Z,x0,x1,x1,x1,x0,x0,x1,x1,xh,x0,x7,I 7,x0,x0,x2d,x0,x0,x1,x1,Z,x0,x1,x1,x1,x0,x0,x1,x1]),(11,x45),(10,x45),(9,x45),(8,x45),(7,x1s),(6,x1p),(5,x1m),(4,xj)] x8 12 [],
 N 40 0 x18 5 [(3,C 106 [xh,x7,x7,I 7,x0,x0,xx,x0,x0,x1,x1,Z,x0,x1,x1,x1,x0,x0,x1,x1]),(4,x42)] x8 5 []]
theorem L6ac_t : entsB (envT EB (mkT A6)) L6ac = true := by decide +kernel
theorem L6ac_ok : AllOK L6ac := entsB_ok (like_of okA6) L6ac_t
end
end Go.Ev

/- Calls that are proved, rank 6. -/
set_option maxRecDepth 1000000
set_option maxHeartbeats 0
namespace Go.Ev
noncomputable section
def L6af : List Ent := [
 N 40 0 [K 3 0 15 15] 17 [(3,C 106 [x7,x7,xf,x0,x0,x0,Z,x0,x0,x1,xa,xu,x0,x1,x1,x1,x0,x0,x1,x1,x7,x7,x7,x7,x0,x0,xw,x0,x0,x1,x1,Z,x0,x1,x1,x1,x0,x0,x1,x1,x7,x7,x7,xh,x0,x0,x1b,x0,x0,x1,x1,Z,x0,x1,x1,x1,x0,x0,x1,x1,x7,x7,x7,xf,x0,x0,x2i,x0,x0,x1,x1,Z,x0,x1,x1,x1,x0,x0,x1,x1,x7,x7,xh,x0,x0,x0,Z,xh,x0,xd,x1,Z,x0,x1,x1,x1,x0,x0,x1,x1,x7,x7,xh,x0,x0,x0,Z,x7,x0,xs,x1,Z,x0,x1,x1,x1,x0,x0,x1,x1,xh,x0,x7,x5,x0,x0,x1j,x0,x0,x1,x1,Z,x0,x1,x1,x1,x0,x0,x1,x1,xh,x0,x7,xg,x0,x0,x1d,x0,x0,x1,x1,Z,x0,x1,x1,x1,x0,x0,x1,x1,xh,x0,x7,I 6,x0,x0,x1w,x0,x0,x1,x1,Z,x0,x1,x1,x1,x0,x0,x1,x1,xh,x0,x7,I 7,x0,x0,x2d,x0,x0,x1,x1,Z,x0,x1,x1,x1,x0,x0,x1,x1,xh,x0,x7,x3,x0,x0,x2e,x0,x0,x1,x1,Z,x0,x1,x1,x1,x0,x0,x1,x1,xh,x0,x7,I 9,x0,x0,x2f,x0,x0,x1,x1,Z,x0,x1,x1,x1,x0,x0,x1,x1,xh,x0,x7,x7d,x0,x0,x2c,x0,x0,x1,x1,Z,x0,x1,x1,x1,x0,x0,x1,x1,xh,x0,x7,x7l,x0,x0,x4e,x0,x0,x1,x1,Z,x0,x1,x1,x1,x0,x0,x1,x1,xh,x0,x7,x3u,x0,x0,x4f,x0,x0,x1,x1,Z,x0,x1,x1,x1,x0,x0,x1,x1]),(16,x45),(15,x45),(14,x45),(13,x45),(12,x45),(11,x45),(10,x45),(9,x45),(8,x45),(7,x1s),(6,x1p),(5,x1m),(4,xj)] x8 17 [],
 N 40 0 [K 3 0 16 16] 18 [(3,C 106 [x7,x7,xf,x0,x0,x0,Z,x0,x0,x1,xa,xu,x0,x1,x1,x1,x0,x0,x1,x1,x7,x7,x7,x7,x0,x0,xw,x0,x0,x1,x1,Z,x0,x1,x1,x1,x0,x0,x1,x1,x7,x7,x7,xh,x0,x0,x1b,x0,x0,x1,x1,Z,x0,x1,x1,x1,x0,x0,x1,x1,x7,x7,x7,xf,x0,x0,x2i,x0,x0,x1,x1,Z,x0,x1,x1,x1,x0,x0,x1,x1,x7,x7,xh,x0,x0,x0,Z,xh,x0,xd,x1,Z,x0,x1,x1,x1,x0,x0,x1,x1,x7,x7,xh,x0,x0,x0,Z,x7,x0,xs,x1,Z,x0,x1,x1,x1,x0,x0,x1,x1,xh,x0,x7,x5,x0,x0,x1j,x0,x0,x1,x1,Z,x0,x1,x1,x1,x0,x0,x1,x1,xh,x0,x7,xg,x0,x0,x1d,x0,x0,x1,x1,Z,x0,x1,x1,x1,x0,x0,x1,x1,xh,x0,x7,I 6,x0,x0,x1w,x0,x0,x1,x1,Z,x0,x1,x1,x1,x0,x0,x1,x1,xh,x0,x7,I 7,x0,x0,x2d,x0,x0,x1,x1,Z,x0,x1,x1,x1,x0,x0,x1,x1,xh,x0,x7,x3,x0,x0,x2e,x0,x0,x1,x1,Z,x0,x1,x1,x1,x0,x0,x1,x1,xh,x0,x7,I 9,x0,x0,x2f,x0,x0,x1,x1,Z,x0,x1,x1,x1,x0,x0,x1,x1,xh,x0,x7,x7d,x0,x0,x2c,x0,x0,x1,x1,Z,x0,x1,x1,x1,x0,x0,x1,x1,xh,x0,x7,x7l,x0,x0,x4e,x0,x0,x1,x1,Z,x0,x1,x1,x1,x0,x0,x1,x1,xh,x0,x7,x3u,x0,x0,x4f,x0,x0,x1,x1,Z,x0,x1,x1,x1,x0,x0,x1,x1,xh,x0,x7,x80,x0,x0,x4g,x0,x0,x1,x1,Z,x0,x1,x1,x1,x0,x0,x1,x1]),(17,x45),(16,x45),(15,x45),(14,x45),(13,x45),(12,x45),(11,x45),(10,x45),(9,x45),(8,x45),(7,x1s),(6,x1p),(5,x1m),(4,xj)] x8 18 []]
theorem L6af_t : entsB (envT EB (mkT A6)) L6af = true := by decide +kernel
theorem L6af_ok : AllOK L6af := entsB_ok (like_of okA6) L6af_t
end
end Go.Ev

/- Calls that are proved, rank 6. -/
set_option maxRecDepth 1000000
set_option maxHeartbeats 0
namespace Go.Ev
noncomputable section
def L6ai : List Ent := [
 N 478 0 [x19,.a [x80,x0,x0,xx]] 6 x43 xe 6 [],
 N 478 0 [x19,.a [x87,x0,x0,xx]] 6 x43 xe 6 [],
 N 478 0 [x19,.a [I 15,x0,x0,xx]] 6 x43 xe 6 []]
theorem L6ai_t : entsB (envT EB (mkT A6)) L6ai = true := by decide +kernel
theorem L6ai_ok : AllOK L6ai := entsB_ok (like_of okA6) L6ai_t
end
end Go.Ev
