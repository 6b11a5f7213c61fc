/- Calls that are proved, rank 6. -/
import Derived.Test.YtolinijabfbjpaaGreatDoorB09
set_option linter.all false
set_option maxRecDepth 1000000
set_option maxHeartbeats 0
namespace Go.Ev
noncomputable section
def L6ab : List Ent := [
 N 40 0 [S 3 0 9 20] 9 x5l x8 9 [],
 N 40 0 [K 3 0 8 8] 10 [(3,C 106 [x7,x7,xf,x0,x0,x0,Z,x0,x0,x1,xa,xu,x0,x1,x1,x1,x0,x0,x1,x1,x7,x7,x7,x7,x0,x0,xw,x0,x0,x1,x1,Z,x0,x1,x1,x1,x0,x0,x1,x1,x7,x7,x7,xh,x0,x0,x1b,x0,x0,x1,x1,Z,x0,x1,x1,x1,x0,x0,x1,x1,x7,x7,x7,xf,x0,x0,x2i,x0,x0,x1,x1,Z,x0,x1,x1,x1,x0,x0,x1,x1,x7,x7,xh,x0,x0,x0,Z,xh,x0,xd,x1,Z,x0,x1,x1,x1,x0,x0,x1,x1,x7,x7,xh,x0,x0,x0,Z,x7,x0,xs,x1,Z,x0,x1,x1,x1,x0,x0,x1,x1,xh,x0,x7,x5,x0,x0,x1j,x0,x0,x1,x1,Z,x0,x1,x1,x1,x0,x0,x1,x1,xh,x0,x7,xg,x0,x0,x1d,x0,x0,x1,x1,Z,x0,x1,x1,x1,x0,x0,x1,x1]),(9,x45),(8,x45),(7,x1s),(6,x1p),(5,x1m),(4,xj)] x8 10 [],
 N 40 0 x18 5 [(3,C 106 [xh,x7,x7,xg,x0,x0,xx,x0,x0,x1,x1,Z,x0,x1,x1,x1,x0,x0,x1,x1]),(4,x42)] x8 5 [],
 N 40 0 [K 3 0 9 9] 10 x5v x8 10 [],
 N 40 0 [S 3 0 10 20] 10 x63 x8 10 []]
theorem L6ab_t : entsB (envT EB (mkT A6)) L6ab = true := by decide +kernel
theorem L6ab_ok : AllOK L6ab := entsB_ok (like_of okA6) L6ab_t
end
end Go.Ev

/- Calls that are proved, rank 6. -/
set_option maxRecDepth 1000000
set_option maxHeartbeats 0
namespace Go.Ev
noncomputable section
def L6ae : List Ent := [
 N 40 0 [K 3 0 12 12] 14 [(3,C 106 [x7,x7,xf,x0,x0,x0,Z,x0,x0,x1,xa,xu,x0,x1,x1,x1,x0,x0,x1,x1,x7,x7,x7,x7,x0,x0,xw,x0,x0,x1,x1,Z,x0,x1,x1,x1,x0,x0,x1,x1,x7,x7,x7,xh,x0,x0,x1b,x0,x0,x1,x1,Z,x0,x1,x1,x1,x0,x0,x1,x1,x7,x7,x7,xf,x0,x0,x2i,x0,x0,x1,x1,Z,x0,x1,x1,x1,x0,x0,x1,x1,x7,x7,xh,x0,x0,x0,Z,xh,x0,xd,x1,Z,x0,x1,x1,x1,x0,x0,x1,x1,x7,x7,xh,x0,x0,x0,Z,x7,x0,xs,x1,Z,x0,x1,x1,x1,x0,x0,x1,x1,xh,x0,x7,x5,x0,x0,x1j,x0,x0,x1,x1,Z,x0,x1,x1,x1,x0,x0,x1,x1,xh,x0,x7,xg,x0,x0,x1d,x0,x0,x1,x1,Z,x0,x1,x1,x1,x0,x0,x1,x1,xh,x0,x7,I 6,x0,x0,x1w,x0,x0,x1,x1,Z,x0,x1,x1,x1,x0,x0,x1,x1,xh,x0,x7,I 7,x0,x0,x2d,x0,x0,x1,x1,Z,x0,x1,x1,x1,x0,x0,x1,x1,xh,x0,x7,x3,x0,x0,x2e,x0,x0,x1,x1,Z,x0,x1,x1,x1,x0,x0,x1,x1,xh,x0,x7,I 9,x0,x0,x2f,x0,x0,x1,x1,Z,x0,x1,x1,x1,x0,x0,x1,x1]),(13,x45),(12,x45),(11,x45),(10,x45),(9,x45),(8,x45),(7,x1s),(6,x1p),(5,x1m),(4,xj)] x8 14 [],
 N 40 0 [K 3 0 13 13] 15 [(3,C 106 [x7,x7,xf,x0,x0,x0,Z,x0,x0,x1,xa,xu,x0,x1,x1,x1,x0,x0,x1,x1,x7,x7,x7,x7,x0,x0,xw,x0,x0,x1,x1,Z,x0,x1,x1,x1,x0,x0,x1,x1,x7,x7,x7,xh,x0,x0,x1b,x0,x0,x1,x1,Z,x0,x1,x1,x1,x0,x0,x1,x1,x7,x7,x7,xf,x0,x0,x2i,x0,x0,x1,x1,Z,x0,x1,x1,x1,x0,x0,x1,x1,x7,x7,xh,x0,x0,x0,Z,xh,x0,xd,x1,Z,x0,x1,x1,x1,x0,x0,x1,x1,x7,x7,xh,x0,x0,x0,Z,x7,x0,xs,x1,Z,x0,x1,x1,x1,x0,x0,x1,x1,xh,x0,x7,x5,x0,x0,x1j,x0,x0,x1,x1,Z,x0,x1,x1,x1,x0,x0,x1,x1,xh,x0,x7,xg,x0,x0,x1d,x0,x0,x1,x1,Z,x0,x1,x1,x1,x0,x0,x1,x1,xh,x0,x7,I 6,x0,x0,x1w,x0,x0,x1,x1,Z,x0,x1,x1,x1,x0,x0,x1,x1,xh,x0,x7,I 7,x0,x0,x2d,x0,x0,x1,x1,Z,x0,x1,x1,x1,x0,x0,x1,x1,xh,x0,x7,x3,x0,x0,x2e,x0,x0,x1,x1,Z,x0,x1,x1,x1,x0,x0,x1,x1,xh,x0,x7,I 9,x0,x0,x2f,x0,x0,x1,x1,Z,x0,x1,x1,x1,x0,x0,x1,x1,xh,x0,x7,x7d,x0,x0,x2c,x0,x0,x1,x1,Z,x0,x1,x1,x1,x0,x0,x1,x1]),(14,x45),(13,x45),(12,x45),(11,x45),(10,x45),(9,x45),(8,x45),(7,x1s),(6,x1p),(5,x1m),(4,xj)] x8 15 [],
 N 40 0 [K 3 0 14 14] 16 [(3,C 106 [x7,x7,xf,x0,x0,x0,Z,x0,x0,x1,xa,xu,x0,x1,x1,x1,x0,x0,x1,x1,x7,x7,x7,x7,x0,x0,xw,x0,x0,x1,x1,Z,x0,x1,x1,x1,x0,x0,x1,x1,x7,x7,x7,xh,x0,x0,x1b,x0,x0,x1,x1,Z,x0,x1,x1,x1,x0,x0,x1,x1,x7,x7,x7,xf,x0,x0,x2i,x0,x0,x1,x1,Z,x0,x1,x1,x1,x0,x0,x1,x1,x7,x7,xh,x0,x0,x0,Z,xh,x0,xd,x1,Z,x0,x1,x1,x1,x0,x0,x1,x1,x7,x7,xh,x0,x0,x0,Z,x7,x0,xs,x1,Z,x0,x1,x1,x1,x0,x0,x1,x1,xh,x0,x7,x5,x0,x0,x1j,x0,x0,x1,x1,Z,x0,x1,x1,x1,x0,x0,x1,x1,xh,x0,x7,xg,x0,x0,x1d,x0,x0,x1,x1,Z,x0,x1,x1,x1,x0,x0,x1,x1,xh,x0,x7,I 6,x0,x0,x1w,x0,x0,x1,x1,Z,x0,x1,x1,x1,x0,x0,x1,x1,xh,x0,x7,I 7,x0,x0,x2d,x0,x0,x1,x1,Z,x0,x1,x1,x1,x0,x0,x1,x1,xh,x0,x7,x3,x0,x0,x2e,x0,x0,x1,x1,Z,x0,x1,x1,x1,x0,x0,x1,x1,xh,x0,x7,I 9,x0,x0,x2f,x0,x0,x1,x1,Z,x0,x1,x1,x1,x0,x0,x1,x1,xh,x0,x7,x7d,x0,x0,x2c,x0,x0,x1,x1,Z,x0,x1,x1,x1,x0,x0,x1,x1,xh,x0,x7,x7l,x0,x0,x4e,x0,x0,x1,x1,Z,x0,x1,x1,x1,x0,x0,x1,x1]),(15,x45),(14,x45),(13,x45),(12,x45),(11,x45),(10,x45),(9,x45),(8,x45),(7,x1s),(6,x1p),(5,x1m),(4,xj)] x8 16 []]
theorem L6ae_t : entsB (envT EB (mkT A6)) L6ae = true := by decide +kernel
theorem L6ae_ok : AllOK L6ae := entsB_ok (like_of okA6) L6ae_t
end
end Go.Ev

/- Calls that are proved, rank 6. -/
set_option maxRecDepth 1000000
set_option maxHeartbeats 0
namespace Go.Ev
noncomputable section
def L6ah : List Ent := [
 N 179 4 [x6w] 3 [] (.t [.a [x7,xh,x3,S 3 0 5 18,Z],x0]) 8 [(3,D 102 [x7,x5,x0,x0,xx,x0,x0,x1,x1,Z,x0,x1,x1,x1,x0,x0,x1,x1,x7,xg,x0,x0,x27,x0,x0,x1,x1,Z,x0,x1,x1,x1,x0,x0,x1,x1,x7,I 6,x0,x0,x28,x0,x0,x1,x1,Z,x0,x1,x1,x1,x0,x0,x1,x1,x7,I 7,x0,x0,x29,x0,x0,x1,x1,Z,x0,x1,x1,x1,x0,x0,x1,x1,xh,x0,x0,x0,Z,x5,x0,x3y,x1,Z,x0,x1,x1,x1,x0,x0,x1,x1]),(4,x42),(5,x42),(6,x42),(7,x42)],
 N 341 0 [x2,x0,x0] 7 [(3,C 422 [S 4 0 1 3,M 5]),(5,.mp [] 0),(4,D 215 [xa,x1b,Z]),(6,xj)] x1c 10 x1f,
 N 341 0 [x2,x0,x0] 7 [(3,C 422 [K 4 0 1 1,M 5]),(5,.mp [] 0),(4,C 215 [xa,x1b,Z]),(6,xj)] x1c 10 x1f,
 N 478 0 [x19,.a [x7,x0,x0,xx]] 6 x1g xe 6 [],
 N 478 0 [x19,.a [xh,x0,x0,xx]] 6 x1k xe 6 [],
 N 478 0 [x19,.a [xf,x0,x0,xx]] 6 x1l xe 6 [],
 N 478 0 [x19,.a [x5,x0,x0,xx]] 6 x43 xe 6 [],
 N 478 0 [x19,.a [xg,x0,x0,xx]] 6 x43 xe 6 [],
 N 478 0 [x19,.a [I 6,x0,x0,xx]] 6 x43 xe 6 [],
 N 478 0 [x19,.a [I 7,x0,x0,xx]] 6 x43 xe 6 [],
 N 478 0 [x19,.a [x3,x0,x0,xx]] 6 x43 xe 6 [],
 N 478 0 [x19,.a [I 9,x0,x0,xx]] 6 x43 xe 6 [],
 N 478 0 [x19,.a [x7d,x0,x0,xx]] 6 x43 xe 6 [],
 N 478 0 [x19,.a [x7l,x0,x0,xx]] 6 x43 xe 6 [],
 N 478 0 [x19,.a [x3u,x0,x0,xx]] 6 x43 xe 6 []]
theorem L6ah_t : entsB (envT EB (mkT A6)) L6ah = true := by decide +kernel
theorem L6ah_ok : AllOK L6ah := entsB_ok (like_of okA6) L6ah_t
end
end Go.Ev
