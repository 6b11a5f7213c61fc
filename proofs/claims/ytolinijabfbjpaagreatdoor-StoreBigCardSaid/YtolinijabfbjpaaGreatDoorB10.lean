/- Calls that are proved, rank 6. -/
import Derived.Test.YtolinijabfbjpaaGreatDoorB09
set_option linter.all false
set_option maxRecDepth 1000000
set_option maxHeartbeats 0
namespace Go.Ev
noncomputable section
def L6aa : List Ent := [
 N 40 0 [K 3 0 2 2] 6 [(3,C 106 [x7,x0,xf,x0,x0,x0,Z,x0,x0,x1,xa,xu,x0,x1,x1,x1,x0,x0,x1,x1,x7,x0,x7,x7,x0,x0,xw,x0,x0,x1,x1,Z,x0,x1,x1,x1,x0,x0,x1,x1]),(5,x1m),(4,xj)] x8 6 [],
 N 40 0 [K 3 0 3 3] 7 [(3,C 106 [x7,x0,xf,x0,x0,x0,Z,x0,x0,x1,xa,xu,x0,x1,x1,x1,x0,x0,x1,x1,x7,x0,x7,x7,x0,x0,xw,x0,x0,x1,x1,Z,x0,x1,x1,x1,x0,x0,x1,x1,x7,x0,x7,xh,x0,x0,x1b,x0,x0,x1,x1,Z,x0,x1,x1,x1,x0,x0,x1,x1]),(6,x1p),(5,x1m),(4,xj)] x8 7 [],
 N 40 0 [K 3 0 4 4] 8 [(3,C 106 [x7,x0,xf,x0,x0,x0,Z,x0,x0,x1,xa,xu,x0,x1,x1,x1,x0,x0,x1,x1,x7,x0,x7,x7,x0,x0,xw,x0,x0,x1,x1,Z,x0,x1,x1,x1,x0,x0,x1,x1,x7,x0,x7,xh,x0,x0,x1b,x0,x0,x1,x1,Z,x0,x1,x1,x1,x0,x0,x1,x1,x7,x0,x7,xf,x0,x0,x2i,x0,x0,x1,x1,Z,x0,x1,x1,x1,x0,x0,x1,x1]),(7,x1s),(6,x1p),(5,x1m),(4,xj)] x8 8 [],
 N 40 0 [xb] 8 [(3,C 106 [x7,x0,xf,x0,x0,x0,Z,x0,x0,x1,xa,xu,x0,x1,x1,x1,x0,x0,x1,x1,x7,x0,x7,x7,x0,x0,xw,x0,x0,x1,x1,Z,x0,x1,x1,x1,x0,x0,x1,x1,x7,x0,x7,xh,x0,x0,x1b,x0,x0,x1,x1,Z,x0,x1,x1,x1,x0,x0,x1,x1,x7,x0,x7,xf,x0,x0,x2i,x0,x0,x1,x1,Z,x0,x1,x1,x1,x0,x0,x1,x1,x7,x0,xh,x0,x0,x0,Z,xh,x0,xd,x1,Z,x0,x1,x1,x1,x0,x0,x1,x1]),(7,x1s),(6,x1p),(5,x1m),(4,xj)] x8 8 [],
 N 40 0 x18 5 [(3,C 106 [x7,x7,x7,x7,x0,x0,xx,x0,x0,x1,x1,Z,x0,x1,x1,x1,x0,x0,x1,x1]),(4,xz)] x8 5 [],
 N 40 0 x18 5 [(3,C 106 [x7,x7,x7,xh,x0,x0,xx,x0,x0,x1,x1,Z,x0,x1,x1,x1,x0,x0,x1,x1]),(4,x11)] x8 5 [],
 N 40 0 x18 5 [(3,C 106 [x7,x7,x7,xf,x0,x0,xx,x0,x0,x1,x1,Z,x0,x1,x1,x1,x0,x0,x1,x1]),(4,x13)] x8 5 [],
 N 40 0 [x3o] 8 x3p x8 8 [],
 N 40 0 [K 3 0 7 7] 9 [(3,C 106 [x7,x7,xf,x0,x0,x0,Z,x0,x0,x1,xa,xu,x0,x1,x1,x1,x0,x0,x1,x1,x7,x7,x7,x7,x0,x0,xw,x0,x0,x1,x1,Z,x0,x1,x1,x1,x0,x0,x1,x1,x7,x7,x7,xh,x0,x0,x1b,x0,x0,x1,x1,Z,x0,x1,x1,x1,x0,x0,x1,x1,x7,x7,x7,xf,x0,x0,x2i,x0,x0,x1,x1,Z,x0,x1,x1,x1,x0,x0,x1,x1,x7,x7,xh,x0,x0,x0,Z,xh,x0,xd,x1,Z,x0,x1,x1,x1,x0,x0,x1,x1,x7,x7,xh,x0,x0,x0,Z,x7,x0,xs,x1,Z,x0,x1,x1,x1,x0,x0,x1,x1,xh,x0,x7,x5,x0,x0,x1j,x0,x0,x1,x1,Z,x0,x1,x1,x1,x0,x0,x1,x1]),(8,x45),(7,x1s),(6,x1p),(5,x1m),(4,xj)] x8 9 [],
 N 40 0 x18 5 [(3,C 106 [xh,x7,x7,x5,x0,x0,xx,x0,x0,x1,x1,Z,x0,x1,x1,x1,x0,x0,x1,x1]),(4,x42)] x8 5 [],
 N 40 0 [K 3 0 8 8] 9 x4z x8 9 []]
theorem L6aa_t : entsB (envT EB (mkT A6)) L6aa = true := by decide +kernel
theorem L6aa_ok : AllOK L6aa := entsB_ok (like_of okA6) L6aa_t
end
end Go.Ev

/- Calls that are proved, rank 6. -/
set_option maxRecDepth 1000000
set_option maxHeartbeats 0
namespace Go.Ev
noncomputable section
def L6ad : List Ent := [
 N 40 0 [K 3 0 11 11] 12 x6u x8 12 [],
 N 40 0 [S 3 0 12 20] 12 x6z x8 12 [],
 N 40 0 [K 3 0 11 11] 13 [(3,C 106 [x7,x7,xf,x0,x0,x0,Z,x0,x0,x1,xa,xu,x0,x1,x1,x1,x0,x0,x1,x1,x7,x7,x7,x7,x0,x0,xw,x0,x0,x1,x1,Z,x0,x1,x1,x1,x0,x0,x1,x1,x7,x7,x7,xh,x0,x0,x1b,x0,x0,x1,x1,Z,x0,x1,x1,x1,x0,x0,x1,x1,x7,x7,x7,xf,x0,x0,x2i,x0,x0,x1,x1,Z,x0,x1,x1,x1,x0,x0,x1,x1,x7,x7,xh,x0,x0,x0,Z,xh,x0,xd,x1,Z,x0,x1,x1,x1,x0,x0,x1,x1,x7,x7,xh,x0,x0,x0,Z,x7,x0,xs,x1,Z,x0,x1,x1,x1,x0,x0,x1,x1,xh,x0,x7,x5,x0,x0,x1j,x0,x0,x1,x1,Z,x0,x1,x1,x1,x0,x0,x1,x1,xh,x0,x7,xg,x0,x0,x1d,x0,x0,x1,x1,Z,x0,x1,x1,x1,x0,x0,x1,x1,xh,x0,x7,I 6,x0,x0,x1w,x0,x0,x1,x1,Z,x0,x1,x1,x1,x0,x0,x1,x1,xh,x0,x7,I 7,x0,x0,x2d,x0,x0,x1,x1,Z,x0,x1,x1,x1,x0,x0,x1,x1,xh,x0,x7,x3,x0,x0,x2e,x0,x0,x1,x1,Z,x0,x1,x1,x1,x0,x0,x1,x1]),(12,x45),(11,x45),(10,x45),(9,x45),(8,x45),(7,x1s),(6,x1p),(5,x1m),(4,xj)] x8 13 [],
 N 40 0 [S 3 0 7 20] 8 x7c x8 8 []]
theorem L6ad_t : entsB (envT EB (mkT A6)) L6ad = true := by decide +kernel
theorem L6ad_ok : AllOK L6ad := entsB_ok (like_of okA6) L6ad_t
end
end Go.Ev

/- Calls that are proved, rank 6. -/
set_option maxRecDepth 1000000
set_option maxHeartbeats 0
namespace Go.Ev
noncomputable section
def L6ag : List Ent := [
 N 40 0 [K 3 0 17 17] 19 [(3,C 106 [x7,x7,xf,x0,x0,x0,Z,x0,x0,x1,xa,xu,x0,x1,x1,x1,x0,x0,x1,x1,x7,x7,x7,x7,x0,x0,xw,x0,x0,x1,x1,Z,x0,x1,x1,x1,x0,x0,x1,x1,x7,x7,x7,xh,x0,x0,x1b,x0,x0,x1,x1,Z,x0,x1,x1,x1,x0,x0,x1,x1,x7,x7,x7,xf,x0,x0,x2i,x0,x0,x1,x1,Z,x0,x1,x1,x1,x0,x0,x1,x1,x7,x7,xh,x0,x0,x0,Z,xh,x0,xd,x1,Z,x0,x1,x1,x1,x0,x0,x1,x1,x7,x7,xh,x0,x0,x0,Z,x7,x0,xs,x1,Z,x0,x1,x1,x1,x0,x0,x1,x1,xh,x0,x7,x5,x0,x0,x1j,x0,x0,x1,x1,Z,x0,x1,x1,x1,x0,x0,x1,x1,xh,x0,x7,xg,x0,x0,x1d,x0,x0,x1,x1,Z,x0,x1,x1,x1,x0,x0,x1,x1,xh,x0,x7,I 6,x0,x0,x1w,x0,x0,x1,x1,Z,x0,x1,x1,x1,x0,x0,x1,x1,xh,x0,x7,I 7,x0,x0,x2d,x0,x0,x1,x1,Z,x0,x1,x1,x1,x0,x0,x1,x1,xh,x0,x7,x3,x0,x0,x2e,x0,x0,x1,x1,Z,x0,x1,x1,x1,x0,x0,x1,x1,xh,x0,x7,I 9,x0,x0,x2f,x0,x0,x1,x1,Z,x0,x1,x1,x1,x0,x0,x1,x1,xh,x0,x7,x7d,x0,x0,x2c,x0,x0,x1,x1,Z,x0,x1,x1,x1,x0,x0,x1,x1,xh,x0,x7,x7l,x0,x0,x4e,x0,x0,x1,x1,Z,x0,x1,x1,x1,x0,x0,x1,x1,xh,x0,x7,x3u,x0,x0,x4f,x0,x0,x1,x1,Z,x0,x1,x1,x1,x0,x0,x1,x1,xh,x0,x7,x80,x0,x0,x4g,x0,x0,x1,x1,Z,x0,x1,x1,x1,x0,x0,x1,x1,xh,x0,x7,x87,x0,x0,x4h,x0,x0,x1,x1,Z,x0,x1,x1,x1,x0,x0,x1,x1]),(18,x45),(17,x45),(16,x45),(15,x45),(14,x45),(13,x45),(12,x45),(11,x45),(10,x45),(9,x45),(8,x45),(7,x1s),(6,x1p),(5,x1m),(4,xj)] x8 19 [],
 N 40 0 [K 3 0 18 18] 20 [(3,C 106 [x7,x7,xf,x0,x0,x0,Z,x0,x0,x1,xa,xu,x0,x1,x1,x1,x0,x0,x1,x1,x7,x7,x7,x7,x0,x0,xw,x0,x0,x1,x1,Z,x0,x1,x1,x1,x0,x0,x1,x1,x7,x7,x7,xh,x0,x0,x1b,x0,x0,x1,x1,Z,x0,x1,x1,x1,x0,x0,x1,x1,x7,x7,x7,xf,x0,x0,x2i,x0,x0,x1,x1,Z,x0,x1,x1,x1,x0,x0,x1,x1,x7,x7,xh,x0,x0,x0,Z,xh,x0,xd,x1,Z,x0,x1,x1,x1,x0,x0,x1,x1,x7,x7,xh,x0,x0,x0,Z,x7,x0,xs,x1,Z,x0,x1,x1,x1,x0,x0,x1,x1,xh,x0,x7,x5,x0,x0,x1j,x0,x0,x1,x1,Z,x0,x1,x1,x1,x0,x0,x1,x1,xh,x0,x7,xg,x0,x0,x1d,x0,x0,x1,x1,Z,x0,x1,x1,x1,x0,x0,x1,x1,xh,x0,x7,I 6,x0,x0,x1w,x0,x0,x1,x1,Z,x0,x1,x1,x1,x0,x0,x1,x1,xh,x0,x7,I 7,x0,x0,x2d,x0,x0,x1,x1,Z,x0,x1,x1,x1,x0,x0,x1,x1,xh,x0,x7,x3,x0,x0,x2e,x0,x0,x1,x1,Z,x0,x1,x1,x1,x0,x0,x1,x1,xh,x0,x7,I 9,x0,x0,x2f,x0,x0,x1,x1,Z,x0,x1,x1,x1,x0,x0,x1,x1,xh,x0,x7,x7d,x0,x0,x2c,x0,x0,x1,x1,Z,x0,x1,x1,x1,x0,x0,x1,x1,xh,x0,x7,x7l,x0,x0,x4e,x0,x0,x1,x1,Z,x0,x1,x1,x1,x0,x0,x1,x1,xh,x0,x7,x3u,x0,x0,x4f,x0,x0,x1,x1,Z,x0,x1,x1,x1,x0,x0,x1,x1,xh,x0,x7,x80,x0,x0,x4g,x0,x0,x1,x1,Z,x0,x1,x1,x1,x0,x0,x1,x1,xh,x0,x7,x87,x0,x0,x4h,x0,x0,x1,x1,Z,x0,x1,x1,x1,x0,x0,x1,x1,xh,x0,x7,I 15,x0,x0,x4d,x0,x0,x1,x1,Z,x0,x1,x1,x1,x0,x0,x1,x1]),(19,x45),(18,x45),(17,x45),(16,x45),(15,x45),(14,x45),(13,x45),(12,x45),(11,x45),(10,x45),(9,x45),(8,x45),(7,x1s),(6,x1p),(5,x1m),(4,xj)] x8 20 [],
 N 179 4 [x3k] 3 [] (.t [x38,x0]) 8 [(3,D 102 [xf,x0,x0,x0,Z,x0,x0,x1,xa,xx,x0,x1,x1,x1,x0,x0,x1,x1,x7,x7,x0,x0,x27,x0,x0,x1,x1,Z,x0,x1,x1,x1,x0,x0,x1,x1,x7,xh,x0,x0,x28,x0,x0,x1,x1,Z,x0,x1,x1,x1,x0,x0,x1,x1,x7,xf,x0,x0,x29,x0,x0,x1,x1,Z,x0,x1,x1,x1,x0,x0,x1,x1,xh,x0,x0,x0,Z,xh,x0,xd,x1,Z,x0,x1,x1,x1,x0,x0,x1,x1,xh,x0,x0,x0,Z,x7,x0,xs,x1,Z,x0,x1,x1,x1,x0,x0,x1,x1]),(4,x15),(5,xz),(6,x11),(7,x13)],
 N 179 4 [x5g] 3 [] (.t [.a [x7,xh,xg,S 3 0 2 18,Z],x0]) 5 [(3,D 102 [x7,x5,x0,x0,xx,x0,x0,x1,x1,Z,x0,x1,x1,x1,x0,x0,x1,x1,xh,x0,x0,x0,Z,x5,x0,x3y,x1,Z,x0,x1,x1,x1,x0,x0,x1,x1]),(4,x42)],
 N 179 4 [x60] 3 [] (.t [.a [x7,xh,I 6,S 3 0 3 18,Z],x0]) 6 [(3,D 102 [x7,x5,x0,x0,xx,x0,x0,x1,x1,Z,x0,x1,x1,x1,x0,x0,x1,x1,x7,xg,x0,x0,x27,x0,x0,x1,x1,Z,x0,x1,x1,x1,x0,x0,x1,x1,xh,x0,x0,x0,Z,x5,x0,x3y,x1,Z,x0,x1,x1,x1,x0,x0,x1,x1]),(4,x42),(5,x42)],
 N 179 4 [x6h] 3 [] (.t [.a [x7,xh,I 7,S 3 0 4 18,Z],x0]) 7 [(3,D 102 [x7,x5,x0,x0,xx,x0,x0,x1,x1,Z,x0,x1,x1,x1,x0,x0,x1,x1,x7,xg,x0,x0,x27,x0,x0,x1,x1,Z,x0,x1,x1,x1,x0,x0,x1,x1,x7,I 6,x0,x0,x28,x0,x0,x1,x1,Z,x0,x1,x1,x1,x0,x0,x1,x1,xh,x0,x0,x0,Z,x5,x0,x3y,x1,Z,x0,x1,x1,x1,x0,x0,x1,x1]),(4,x42),(5,x42),(6,x42)]]
theorem L6ag_t : entsB (envT EB (mkT A6)) L6ag = true := by decide +kernel
theorem L6ag_ok : AllOK L6ag := entsB_ok (like_of okA6) L6ag_t
end
end Go.Ev
