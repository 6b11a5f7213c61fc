/- Calls that are proved, rank 7. -/
import Derived.Test.YtolinijabfbjpaaGreatDoorB13
set_option linter.all false
set_option maxRecDepth 1000000
set_option maxHeartbeats 0
namespace Go.Ev
noncomputable section
def L7ab : List Ent := [
 N 37 2 x5k 4 [(3,x62)] (.t [S 4 0 10 20,xf,I 6,x0]) 11 [(4,D 106 [x7,x7,xf,x0,x0,x0,Z,x0,x0,x1,xa,x27,x0,x1,x1,x1,x0,x0,x1,x1,x7,x7,x7,x7,x0,x0,x28,x0,x0,x1,x1,Z,x0,x1,x1,x1,x0,x0,x1,x1,x7,x7,x7,xh,x0,x0,x29,x0,x0,x1,x1,Z,x0,x1,x1,x1,x0,x0,x1,x1,x7,x7,x7,xf,x0,x0,x3m,x0,x0,x1,x1,Z,x0,x1,x1,x1,x0,x0,x1,x1,x7,x7,xh,x0,x0,x0,Z,xh,x0,xd,x1,Z,x0,x1,x1,x1,x0,x0,x1,x1,x7,x7,xh,x0,x0,x0,Z,x7,x0,xs,x1,Z,x0,x1,x1,x1,x0,x0,x1,x1,xh,x7,x7,x5,x0,x0,x4y,x0,x0,x1,x1,Z,x0,x1,x1,x1,x0,x0,x1,x1,xh,x7,x7,xg,x0,x0,x2j,x0,x0,x1,x1,Z,x0,x1,x1,x1,x0,x0,x1,x1,xh,x7,xh,x0,x0,x0,Z,x5,x0,x3y,x1,Z,x0,x1,x1,x1,x0,x0,x1,x1,xf,xh,xh,x0,x0,x0,Z,x7,x0,x50,x1,Z,x0,x1,x1,x1,x0,x0,x1,x1]),(5,x15),(6,xz),(7,x11),(8,x13),(9,x42),(10,x42)]]
theorem L7ab_t : entsB (envT EB (mkT A7)) L7ab = true := by decide +kernel
theorem L7ab_ok : AllOK L7ab := entsB_ok (like_of okA7) L7ab_t
end
end Go.Ev

/- Calls that are proved, rank 7. -/
set_option maxRecDepth 1000000
set_option maxHeartbeats 0
namespace Go.Ev
noncomputable section
def L7ah : List Ent := [
 N 186 0 [x4c,S 6 0 2 18] 12 [(6,D 102 [x7,x5,x0,x0,x29,x0,x0,x1,x1,Z,x0,x1,x1,x1,x0,x0,x1,x1,xh,x0,x0,x0,Z,x5,x0,x3y,x1,Z,x0,x1,x1,x1,x0,x0,x1,x1]),(7,x42),(5,D 117 [xd,xh,xs,x7]),(4,D 100 [x7,x0,x0,x1j,xh,x0,x0,x1d,xf,x0,x0,x1w]),(10,x1s),(9,x1p),(8,x1m),(3,C 215 [xa,x2d,Z]),(11,xj)] (.t [.a [K 12 0 1 1,S 13 0 4 4,S 14 0 3 2,xg],xh,x0]) 20 [(12,C 215 [xa,x4d,Z]),(13,D 100 [x7,x0,x0,x4e,xh,x0,x0,x4f,xf,x0,x0,x4g,x5,x0,x0,x4h]),(14,x4i),(15,x1m),(16,x1p),(17,x1s),(18,x45),(19,xj)],
 N 186 0 [x52,x53] 12 [(6,x55),(5,x4i),(4,D 100 [x7,x0,x0,x2i,xh,x0,x0,x1j,xf,x0,x0,x1d,x5,x0,x0,x1w]),(10,x45),(9,x1s),(8,x1p),(7,x1m),(3,C 215 [xa,x2d,Z]),(11,xj)] (.t [.a [K 12 0 1 1,S 13 0 4 4,S 14 0 4 2,xg],x7,x0]) 20 [(12,C 215 [xa,x4d,Z]),(13,D 100 [x7,x0,x0,x4e,xh,x0,x0,x4f,xf,x0,x0,x4g,x5,x0,x0,x4h]),(14,x56),(15,x1m),(16,x1p),(17,x1s),(18,x45),(19,xj)],
 N 186 0 [x4c,S 6 0 3 18] 13 [(6,D 102 [x7,x5,x0,x0,x29,x0,x0,x1,x1,Z,x0,x1,x1,x1,x0,x0,x1,x1,x7,xg,x0,x0,x3m,x0,x0,x1,x1,Z,x0,x1,x1,x1,x0,x0,x1,x1,xh,x0,x0,x0,Z,x5,x0,x3y,x1,Z,x0,x1,x1,x1,x0,x0,x1,x1]),(8,x42),(7,x42),(5,D 117 [xd,xh,xs,x7]),(4,D 100 [x7,x0,x0,x1d,xh,x0,x0,x1w,xf,x0,x0,x2d]),(11,x1s),(10,x1p),(9,x1m),(3,C 215 [xa,x2e,Z]),(12,xj)] (.t [.a [K 13 0 1 1,x4l,S 15 0 3 2,I 6],xf,x0]) 22 [(13,C 215 [xa,x5n,Z]),(14,D 100 [x7,x0,x0,x4f,xh,x0,x0,x4g,xf,x0,x0,x4h,x5,x0,x0,x4d,xg,x0,x0,x5o]),(15,x4i),(16,x1m),(17,x1p),(18,x1s),(19,x45),(20,x45),(21,xj)]]
theorem L7ah_t : entsB (envT EB (mkT A7)) L7ah = true := by decide +kernel
theorem L7ah_ok : AllOK L7ah := entsB_ok (like_of okA7) L7ah_t
end
end Go.Ev

/- Calls that are proved, rank 7. -/
set_option maxRecDepth 1000000
set_option maxHeartbeats 0
namespace Go.Ev
noncomputable section
def L7an : List Ent := [
 N 186 0 [x4c,S 6 0 8 18] 18 [(6,D 102 [x7,x5,x0,x0,x29,x0,x0,x1,x1,Z,x0,x1,x1,x1,x0,x0,x1,x1,x7,xg,x0,x0,x3m,x0,x0,x1,x1,Z,x0,x1,x1,x1,x0,x0,x1,x1,x7,I 6,x0,x0,x4y,x0,x0,x1,x1,Z,x0,x1,x1,x1,x0,x0,x1,x1,x7,I 7,x0,x0,x2j,x0,x0,x1,x1,Z,x0,x1,x1,x1,x0,x0,x1,x1,x7,x3,x0,x0,x2k,x0,x0,x1,x1,Z,x0,x1,x1,x1,x0,x0,x1,x1,x7,I 9,x0,x0,x2l,x0,x0,x1,x1,Z,x0,x1,x1,x1,x0,x0,x1,x1,x7,x7d,x0,x0,x2m,x0,x0,x1,x1,Z,x0,x1,x1,x1,x0,x0,x1,x1,xh,x0,x0,x0,Z,x5,x0,x3y,x1,Z,x0,x1,x1,x1,x0,x0,x1,x1]),(13,x42),(12,x42),(11,x42),(10,x42),(9,x42),(8,x42),(7,x42),(5,D 117 [xd,xh,xs,x7]),(4,x77),(16,x1s),(15,x1p),(14,x1m),(3,C 215 [xa,x4g,Z]),(17,xj)] (.t [.a [K 18 0 1 1,S 19 0 10 4,S 20 0 3 2,x7l],x3,x0]) 32 [(18,C 215 [xa,x7m,Z]),(19,D 100 [x7,x0,x0,x5n,xh,x0,x0,x66,xf,x0,x0,x65,x5,x0,x0,x6n,xg,x0,x0,x6m,I 6,x0,x0,x71,I 7,x0,x0,x70,x3,x0,x0,x7f,I 9,x0,x0,x7e,x7d,x0,x0,x7n]),(20,x4i),(21,x1m),(22,x1p),(23,x1s),(24,x45),(25,x45),(26,x45),(27,x45),(28,x45),(29,x45),(30,x45),(31,xj)]]
theorem L7an_t : entsB (envT EB (mkT A7)) L7an = true := by decide +kernel
theorem L7an_ok : AllOK L7an := entsB_ok (like_of okA7) L7an_t
end
end Go.Ev

/- Calls that are proved, rank 7. -/
set_option maxRecDepth 1000000
set_option maxHeartbeats 0
namespace Go.Ev
noncomputable section
def L7at : List Ent := [
 N 298 0 [Z,x38] 8 x2a (.t [K 8 0 6 6,x0]) 13 [(8,C 106 [x7,x0,xf,x0,x0,x0,Z,x0,x0,x1,xa,x1d,x0,x1,x1,x1,x0,x0,x1,x1,x7,x0,x7,x7,x0,x0,x1w,x0,x0,x1,x1,Z,x0,x1,x1,x1,x0,x0,x1,x1,x7,x0,x7,xh,x0,x0,x2d,x0,x0,x1,x1,Z,x0,x1,x1,x1,x0,x0,x1,x1,x7,x0,x7,xf,x0,x0,x2e,x0,x0,x1,x1,Z,x0,x1,x1,x1,x0,x0,x1,x1,x7,x0,xh,x0,x0,x0,Z,xh,x0,xd,x1,Z,x0,x1,x1,x1,x0,x0,x1,x1,x7,x0,xh,x0,x0,x0,Z,x7,x0,xs,x1,Z,x0,x1,x1,x1,x0,x0,x1,x1]),(9,xj),(10,x1m),(11,x1p),(12,x1s)],
 N 298 0 [x3o,x4x] 10 [(4,D 102 [x7,x5,x0,x0,x27,x0,x0,x1,x1,Z,x0,x1,x1,x1,x0,x0,x1,x1,xh,x0,x0,x0,Z,x5,x0,x3y,x1,Z,x0,x1,x1,x1,x0,x0,x1,x1]),(5,x42),(3,D 106 [x7,x7,xf,x0,x0,x0,Z,x0,x0,x1,xa,x28,x0,x1,x1,x1,x0,x0,x1,x1,x7,x7,x7,x7,x0,x0,x29,x0,x0,x1,x1,Z,x0,x1,x1,x1,x0,x0,x1,x1,x7,x7,x7,xh,x0,x0,x3m,x0,x0,x1,x1,Z,x0,x1,x1,x1,x0,x0,x1,x1,x7,x7,x7,xf,x0,x0,x4y,x0,x0,x1,x1,Z,x0,x1,x1,x1,x0,x0,x1,x1,x7,x7,xh,x0,x0,x0,Z,xh,x0,xd,x1,Z,x0,x1,x1,x1,x0,x0,x1,x1,x7,x7,xh,x0,x0,x0,Z,x7,x0,xs,x1,Z,x0,x1,x1,x1,x0,x0,x1,x1]),(9,x13),(8,x11),(7,xz),(6,x15)] (.t [K 10 0 8 8,x0]) 16 [(10,C 106 [x7,x7,xf,x0,x0,x0,Z,x0,x0,x1,xa,x2d,x0,x1,x1,x1,x0,x0,x1,x1,x7,x7,x7,x7,x0,x0,x2e,x0,x0,x1,x1,Z,x0,x1,x1,x1,x0,x0,x1,x1,x7,x7,x7,xh,x0,x0,x2f,x0,x0,x1,x1,Z,x0,x1,x1,x1,x0,x0,x1,x1,x7,x7,x7,xf,x0,x0,x2c,x0,x0,x1,x1,Z,x0,x1,x1,x1,x0,x0,x1,x1,x7,x7,xh,x0,x0,x0,Z,xh,x0,xd,x1,Z,x0,x1,x1,x1,x0,x0,x1,x1,x7,x7,xh,x0,x0,x0,Z,x7,x0,xs,x1,Z,x0,x1,x1,x1,x0,x0,x1,x1,xh,x0,x7,x5,x0,x0,x4e,x0,x0,x1,x1,Z,x0,x1,x1,x1,x0,x0,x1,x1,xh,x0,xh,x0,x0,x0,Z,x5,x0,x3y,x1,Z,x0,x1,x1,x1,x0,x0,x1,x1]),(11,xj),(12,x1m),(13,x1p),(14,x1s),(15,x45)],
 N 298 0 [K 3 0 8 8,.a [x7,xf,xg,x58,Z]] 10 [(4,x55),(3,C 106 [x7,x7,xf,x0,x0,x0,Z,x0,x0,x1,xa,xw,x0,x1,x1,x1,x0,x0,x1,x1,x7,x7,x7,x7,x0,x0,x1b,x0,x0,x1,x1,Z,x0,x1,x1,x1,x0,x0,x1,x1,x7,x7,x7,xh,x0,x0,x2i,x0,x0,x1,x1,Z,x0,x1,x1,x1,x0,x0,x1,x1,x7,x7,x7,xf,x0,x0,x1j,x0,x0,x1,x1,Z,x0,x1,x1,x1,x0,x0,x1,x1,x7,x7,xh,x0,x0,x0,Z,xh,x0,xd,x1,Z,x0,x1,x1,x1,x0,x0,x1,x1,x7,x7,xh,x0,x0,x0,Z,x7,x0,xs,x1,Z,x0,x1,x1,x1,x0,x0,x1,x1,xh,x0,x7,x5,x0,x0,x1d,x0,x0,x1,x1,Z,x0,x1,x1,x1,x0,x0,x1,x1,xh,x0,xh,x0,x0,x0,Z,x5,x0,x3y,x1,Z,x0,x1,x1,x1,x0,x0,x1,x1]),(9,x45),(8,x1s),(7,x1p),(6,x1m),(5,xj)] (.t [K 10 0 9 9,x0]) 16 [(10,C 106 [x7,x7,xf,x0,x0,x0,Z,x0,x0,x1,xa,x2d,x0,x1,x1,x1,x0,x0,x1,x1,x7,x7,x7,x7,x0,x0,x2e,x0,x0,x1,x1,Z,x0,x1,x1,x1,x0,x0,x1,x1,x7,x7,x7,xh,x0,x0,x2f,x0,x0,x1,x1,Z,x0,x1,x1,x1,x0,x0,x1,x1,x7,x7,x7,xf,x0,x0,x2c,x0,x0,x1,x1,Z,x0,x1,x1,x1,x0,x0,x1,x1,x7,x7,xh,x0,x0,x0,Z,xh,x0,xd,x1,Z,x0,x1,x1,x1,x0,x0,x1,x1,x7,x7,xh,x0,x0,x0,Z,x7,x0,xs,x1,Z,x0,x1,x1,x1,x0,x0,x1,x1,xh,x0,x7,x5,x0,x0,x4e,x0,x0,x1,x1,Z,x0,x1,x1,x1,x0,x0,x1,x1,xh,x0,xh,x0,x0,x0,Z,x5,x0,x3y,x1,Z,x0,x1,x1,x1,x0,x0,x1,x1,xf,x0,xh,x0,x0,x0,Z,x7,x0,x50,x1,Z,x0,x1,x1,x1,x0,x0,x1,x1]),(11,xj),(12,x1m),(13,x1p),(14,x1s),(15,x45)]]
theorem L7at_t : entsB (envT EB (mkT A7)) L7at = true := by decide +kernel
theorem L7at_ok : AllOK L7at := entsB_ok (like_of okA7) L7at_t
end
end Go.Ev

/- Calls that are proved, rank 7. -/
set_option maxRecDepth 1000000
set_option maxHeartbeats 0
namespace Go.Ev
noncomputable section
def L7az : List Ent := [
 N 298 0 [x3o,.a [x7,xh,x3u,S 4 0 9 18,Z]] 17 [(4,D 102 [x7,x5,x0,x0,x27,x0,x0,x1,x1,Z,x0,x1,x1,x1,x0,x0,x1,x1,x7,xg,x0,x0,x28,x0,x0,x1,x1,Z,x0,x1,x1,x1,x0,x0,x1,x1,x7,I 6,x0,x0,x29,x0,x0,x1,x1,Z,x0,x1,x1,x1,x0,x0,x1,x1,x7,I 7,x0,x0,x3m,x0,x0,x1,x1,Z,x0,x1,x1,x1,x0,x0,x1,x1,x7,x3,x0,x0,x4y,x0,x0,x1,x1,Z,x0,x1,x1,x1,x0,x0,x1,x1,x7,I 9,x0,x0,x2j,x0,x0,x1,x1,Z,x0,x1,x1,x1,x0,x0,x1,x1,x7,x7d,x0,x0,x2k,x0,x0,x1,x1,Z,x0,x1,x1,x1,x0,x0,x1,x1,x7,x7l,x0,x0,x2l,x0,x0,x1,x1,Z,x0,x1,x1,x1,x0,x0,x1,x1,xh,x0,x0,x0,Z,x5,x0,x3y,x1,Z,x0,x1,x1,x1,x0,x0,x1,x1]),(12,x42),(11,x42),(10,x42),(9,x42),(8,x42),(7,x42),(6,x42),(5,x42),(3,D 106 [x7,x7,xf,x0,x0,x0,Z,x0,x0,x1,xa,x2m,x0,x1,x1,x1,x0,x0,x1,x1,x7,x7,x7,x7,x0,x0,x4l,x0,x0,x1,x1,Z,x0,x1,x1,x1,x0,x0,x1,x1,x7,x7,x7,xh,x0,x0,x5q,x0,x0,x1,x1,Z,x0,x1,x1,x1,x0,x0,x1,x1,x7,x7,x7,xf,x0,x0,x68,x0,x0,x1,x1,Z,x0,x1,x1,x1,x0,x0,x1,x1,x7,x7,xh,x0,x0,x0,Z,xh,x0,xd,x1,Z,x0,x1,x1,x1,x0,x0,x1,x1,x7,x7,xh,x0,x0,x0,Z,x7,x0,xs,x1,Z,x0,x1,x1,x1,x0,x0,x1,x1]),(16,x13),(15,x11),(14,xz),(13,x15)] (.t [K 17 0 15 15,x0]) 30 [(17,C 106 [x7,x7,xf,x0,x0,x0,Z,x0,x0,x1,xa,x4h,x0,x1,x1,x1,x0,x0,x1,x1,x7,x7,x7,x7,x0,x0,x4d,x0,x0,x1,x1,Z,x0,x1,x1,x1,x0,x0,x1,x1,x7,x7,x7,xh,x0,x0,x5o,x0,x0,x1,x1,Z,x0,x1,x1,x1,x0,x0,x1,x1,x7,x7,x7,xf,x0,x0,x5n,x0,x0,x1,x1,Z,x0,x1,x1,x1,x0,x0,x1,x1,x7,x7,xh,x0,x0,x0,Z,xh,x0,xd,x1,Z,x0,x1,x1,x1,x0,x0,x1,x1,x7,x7,xh,x0,x0,x0,Z,x7,x0,xs,x1,Z,x0,x1,x1,x1,x0,x0,x1,x1,xh,x0,x7,x5,x0,x0,x66,x0,x0,x1,x1,Z,x0,x1,x1,x1,x0,x0,x1,x1,xh,x0,x7,xg,x0,x0,x65,x0,x0,x1,x1,Z,x0,x1,x1,x1,x0,x0,x1,x1,xh,x0,x7,I 6,x0,x0,x6n,x0,x0,x1,x1,Z,x0,x1,x1,x1,x0,x0,x1,x1,xh,x0,x7,I 7,x0,x0,x6m,x0,x0,x1,x1,Z,x0,x1,x1,x1,x0,x0,x1,x1,xh,x0,x7,x3,x0,x0,x71,x0,x0,x1,x1,Z,x0,x1,x1,x1,x0,x0,x1,x1,xh,x0,x7,I 9,x0,x0,x70,x0,x0,x1,x1,Z,x0,x1,x1,x1,x0,x0,x1,x1,xh,x0,x7,x7d,x0,x0,x7f,x0,x0,x1,x1,Z,x0,x1,x1,x1,x0,x0,x1,x1,xh,x0,x7,x7l,x0,x0,x7e,x0,x0,x1,x1,Z,x0,x1,x1,x1,x0,x0,x1,x1,xh,x0,xh,x0,x0,x0,Z,x5,x0,x3y,x1,Z,x0,x1,x1,x1,x0,x0,x1,x1]),(18,xj),(19,x1m),(20,x1p),(21,x1s),(22,x45),(23,x45),(24,x45),(25,x45),(26,x45),(27,x45),(28,x45),(29,x45)]]
theorem L7az_t : entsB (envT EB (mkT A7)) L7az = true := by decide +kernel
theorem L7az_ok : AllOK L7az := entsB_ok (like_of okA7) L7az_t
end
end Go.Ev
