/- Calls that are proved, rank 7. -/
import Derived.Test.YtolinijabfbjpaaGreatDoorB13
set_option linter.all false
set_option maxRecDepth 1000000
set_option maxHeartbeats 0
namespace Go.Ev
noncomputable section
def L7ad : List Ent := [
 N 37 2 x5k 4 [(3,x6y)] (.t [S 4 0 12 20,xf,x3,x0]) 13 [(4,D 106 [x7,x7,xf,x0,x0,x0,Z,x0,x0,x1,xa,x27,x0,x1,x1,x1,x0,x0,x1,x1,x7,x7,x7,x7,x0,x0,x28,x0,x0,x1,x1,Z,x0,x1,x1,x1,x0,x0,x1,x1,x7,x7,x7,xh,x0,x0,x29,x0,x0,x1,x1,Z,x0,x1,x1,x1,x0,x0,x1,x1,x7,x7,x7,xf,x0,x0,x3m,x0,x0,x1,x1,Z,x0,x1,x1,x1,x0,x0,x1,x1,x7,x7,xh,x0,x0,x0,Z,xh,x0,xd,x1,Z,x0,x1,x1,x1,x0,x0,x1,x1,x7,x7,xh,x0,x0,x0,Z,x7,x0,xs,x1,Z,x0,x1,x1,x1,x0,x0,x1,x1,xh,xh,x7,x5,x0,x0,x4y,x0,x0,x1,x1,Z,x0,x1,x1,x1,x0,x0,x1,x1,xh,xh,x7,xg,x0,x0,x2j,x0,x0,x1,x1,Z,x0,x1,x1,x1,x0,x0,x1,x1,xh,xh,x7,I 6,x0,x0,x2k,x0,x0,x1,x1,Z,x0,x1,x1,x1,x0,x0,x1,x1,xh,xh,x7,I 7,x0,x0,x2l,x0,x0,x1,x1,Z,x0,x1,x1,x1,x0,x0,x1,x1,xh,xh,xh,x0,x0,x0,Z,x5,x0,x3y,x1,Z,x0,x1,x1,x1,x0,x0,x1,x1,xf,xf,xh,x0,x0,x0,Z,x7,x0,x50,x1,Z,x0,x1,x1,x1,x0,x0,x1,x1]),(5,x15),(6,xz),(7,x11),(8,x13),(9,x42),(10,x42),(11,x42),(12,x42)]]
theorem L7ad_t : entsB (envT EB (mkT A7)) L7ad = true := by decide +kernel
theorem L7ad_ok : AllOK L7ad := entsB_ok (like_of okA7) L7ad_t
end
end Go.Ev

/- Calls that are proved, rank 7. -/
set_option maxRecDepth 1000000
set_option maxHeartbeats 0
namespace Go.Ev
noncomputable section
def L7aj : List Ent := [
 N 186 0 [x6e,x53] 14 [(6,x55),(5,x4i),(4,D 100 [x7,x0,x0,x2i,xh,x0,x0,x1j,xf,x0,x0,x1d,x5,x0,x0,x1w,xg,x0,x0,x2d,I 6,x0,x0,x2e]),(12,x45),(11,x45),(10,x45),(9,x1s),(8,x1p),(7,x1m),(3,C 215 [xa,x2f,Z]),(13,xj)] (.t [.a [K 14 0 1 1,S 15 0 6 4,S 16 0 4 2,I 7],x7,x0]) 24 [(14,C 215 [xa,x65,Z]),(15,D 100 [x7,x0,x0,x4g,xh,x0,x0,x4h,xf,x0,x0,x4d,x5,x0,x0,x5o,xg,x0,x0,x5n,I 6,x0,x0,x66]),(16,x56),(17,x1m),(18,x1p),(19,x1s),(20,x45),(21,x45),(22,x45),(23,xj)],
 N 186 0 [x4c,S 6 0 5 18] 15 [(6,D 102 [x7,x5,x0,x0,x29,x0,x0,x1,x1,Z,x0,x1,x1,x1,x0,x0,x1,x1,x7,xg,x0,x0,x3m,x0,x0,x1,x1,Z,x0,x1,x1,x1,x0,x0,x1,x1,x7,I 6,x0,x0,x4y,x0,x0,x1,x1,Z,x0,x1,x1,x1,x0,x0,x1,x1,x7,I 7,x0,x0,x2j,x0,x0,x1,x1,Z,x0,x1,x1,x1,x0,x0,x1,x1,xh,x0,x0,x0,Z,x5,x0,x3y,x1,Z,x0,x1,x1,x1,x0,x0,x1,x1]),(10,x42),(9,x42),(8,x42),(7,x42),(5,D 117 [xd,xh,xs,x7]),(4,x2g),(13,x1s),(12,x1p),(11,x1m),(3,C 215 [xa,x2c,Z]),(14,xj)] (.t [.a [K 15 0 1 1,S 16 0 7 4,S 17 0 3 2,x3],xg,x0]) 26 [(15,C 215 [xa,x6m,Z]),(16,D 100 [x7,x0,x0,x4h,xh,x0,x0,x4d,xf,x0,x0,x5o,x5,x0,x0,x5n,xg,x0,x0,x66,I 6,x0,x0,x65,I 7,x0,x0,x6n]),(17,x4i),(18,x1m),(19,x1p),(20,x1s),(21,x45),(22,x45),(23,x45),(24,x45),(25,xj)]]
theorem L7aj_t : entsB (envT EB (mkT A7)) L7aj = true := by decide +kernel
theorem L7aj_ok : AllOK L7aj := entsB_ok (like_of okA7) L7aj_t
end
end Go.Ev

/- Calls that are proved, rank 7. -/
set_option maxRecDepth 1000000
set_option maxHeartbeats 0
namespace Go.Ev
noncomputable section
def L7ap : List Ent := [
 N 186 0 [x4c,S 6 0 10 18] 20 [(6,D 102 [x7,x5,x0,x0,x29,x0,x0,x1,x1,Z,x0,x1,x1,x1,x0,x0,x1,x1,x7,xg,x0,x0,x3m,x0,x0,x1,x1,Z,x0,x1,x1,x1,x0,x0,x1,x1,x7,I 6,x0,x0,x4y,x0,x0,x1,x1,Z,x0,x1,x1,x1,x0,x0,x1,x1,x7,I 7,x0,x0,x2j,x0,x0,x1,x1,Z,x0,x1,x1,x1,x0,x0,x1,x1,x7,x3,x0,x0,x2k,x0,x0,x1,x1,Z,x0,x1,x1,x1,x0,x0,x1,x1,x7,I 9,x0,x0,x2l,x0,x0,x1,x1,Z,x0,x1,x1,x1,x0,x0,x1,x1,x7,x7d,x0,x0,x2m,x0,x0,x1,x1,Z,x0,x1,x1,x1,x0,x0,x1,x1,x7,x7l,x0,x0,x4l,x0,x0,x1,x1,Z,x0,x1,x1,x1,x0,x0,x1,x1,x7,x3u,x0,x0,x5q,x0,x0,x1,x1,Z,x0,x1,x1,x1,x0,x0,x1,x1,xh,x0,x0,x0,Z,x5,x0,x3y,x1,Z,x0,x1,x1,x1,x0,x0,x1,x1]),(15,x42),(14,x42),(13,x42),(12,x42),(11,x42),(10,x42),(9,x42),(8,x42),(7,x42),(5,D 117 [xd,xh,xs,x7]),(4,D 100 [x7,x0,x0,x4f,xh,x0,x0,x4g,xf,x0,x0,x4h]),(18,x1s),(17,x1p),(16,x1m),(3,C 215 [xa,x4d,Z]),(19,xj)] (.t [.a [K 20 0 1 1,S 21 0 12 4,S 22 0 3 2,x80],x7d,x0]) 36 [(20,C 215 [xa,x81,Z]),(21,D 100 [x7,x0,x0,x65,xh,x0,x0,x6n,xf,x0,x0,x6m,x5,x0,x0,x71,xg,x0,x0,x70,I 6,x0,x0,x7f,I 7,x0,x0,x7e,x3,x0,x0,x7n,I 9,x0,x0,x7m,x7d,x0,x0,x7u,x7l,x0,x0,x7t,x3u,x0,x0,x82]),(22,x4i),(23,x1m),(24,x1p),(25,x1s),(26,x45),(27,x45),(28,x45),(29,x45),(30,x45),(31,x45),(32,x45),(33,x45),(34,x45),(35,xj)]]
theorem L7ap_t : entsB (envT EB (mkT A7)) L7ap = true := by decide +kernel
theorem L7ap_ok : AllOK L7ap := entsB_ok (like_of okA7) L7ap_t
end
end Go.Ev

/- Calls that are proved, rank 7. -/
set_option maxRecDepth 1000000
set_option maxHeartbeats 0
namespace Go.Ev
noncomputable section
def L7av : List Ent := [
 N 298 0 [K 3 0 10 10,.a [x7,xf,I 7,x58,Z]] 12 [(4,x55),(3,C 106 [x7,x7,xf,x0,x0,x0,Z,x0,x0,x1,xa,xw,x0,x1,x1,x1,x0,x0,x1,x1,x7,x7,x7,x7,x0,x0,x1b,x0,x0,x1,x1,Z,x0,x1,x1,x1,x0,x0,x1,x1,x7,x7,x7,xh,x0,x0,x2i,x0,x0,x1,x1,Z,x0,x1,x1,x1,x0,x0,x1,x1,x7,x7,x7,xf,x0,x0,x1j,x0,x0,x1,x1,Z,x0,x1,x1,x1,x0,x0,x1,x1,x7,x7,xh,x0,x0,x0,Z,xh,x0,xd,x1,Z,x0,x1,x1,x1,x0,x0,x1,x1,x7,x7,xh,x0,x0,x0,Z,x7,x0,xs,x1,Z,x0,x1,x1,x1,x0,x0,x1,x1,xh,x0,x7,x5,x0,x0,x1d,x0,x0,x1,x1,Z,x0,x1,x1,x1,x0,x0,x1,x1,xh,x0,x7,xg,x0,x0,x1w,x0,x0,x1,x1,Z,x0,x1,x1,x1,x0,x0,x1,x1,xh,x0,x7,I 6,x0,x0,x2d,x0,x0,x1,x1,Z,x0,x1,x1,x1,x0,x0,x1,x1,xh,x0,xh,x0,x0,x0,Z,x5,x0,x3y,x1,Z,x0,x1,x1,x1,x0,x0,x1,x1]),(11,x45),(10,x45),(9,x45),(8,x1s),(7,x1p),(6,x1m),(5,xj)] (.t [K 12 0 11 11,x0]) 20 [(12,C 106 [x7,x7,xf,x0,x0,x0,Z,x0,x0,x1,xa,x2f,x0,x1,x1,x1,x0,x0,x1,x1,x7,x7,x7,x7,x0,x0,x2c,x0,x0,x1,x1,Z,x0,x1,x1,x1,x0,x0,x1,x1,x7,x7,x7,xh,x0,x0,x4e,x0,x0,x1,x1,Z,x0,x1,x1,x1,x0,x0,x1,x1,x7,x7,x7,xf,x0,x0,x4f,x0,x0,x1,x1,Z,x0,x1,x1,x1,x0,x0,x1,x1,x7,x7,xh,x0,x0,x0,Z,xh,x0,xd,x1,Z,x0,x1,x1,x1,x0,x0,x1,x1,x7,x7,xh,x0,x0,x0,Z,x7,x0,xs,x1,Z,x0,x1,x1,x1,x0,x0,x1,x1,xh,x0,x7,x5,x0,x0,x4g,x0,x0,x1,x1,Z,x0,x1,x1,x1,x0,x0,x1,x1,xh,x0,x7,xg,x0,x0,x4h,x0,x0,x1,x1,Z,x0,x1,x1,x1,x0,x0,x1,x1,xh,x0,x7,I 6,x0,x0,x4d,x0,x0,x1,x1,Z,x0,x1,x1,x1,x0,x0,x1,x1,xh,x0,xh,x0,x0,x0,Z,x5,x0,x3y,x1,Z,x0,x1,x1,x1,x0,x0,x1,x1,xf,x0,xh,x0,x0,x0,Z,x7,x0,x50,x1,Z,x0,x1,x1,x1,x0,x0,x1,x1]),(13,xj),(14,x1m),(15,x1p),(16,x1s),(17,x45),(18,x45),(19,x45)],
 N 298 0 [x3o,x6t] 13 [(4,D 102 [x7,x5,x0,x0,x27,x0,x0,x1,x1,Z,x0,x1,x1,x1,x0,x0,x1,x1,x7,xg,x0,x0,x28,x0,x0,x1,x1,Z,x0,x1,x1,x1,x0,x0,x1,x1,x7,I 6,x0,x0,x29,x0,x0,x1,x1,Z,x0,x1,x1,x1,x0,x0,x1,x1,x7,I 7,x0,x0,x3m,x0,x0,x1,x1,Z,x0,x1,x1,x1,x0,x0,x1,x1,xh,x0,x0,x0,Z,x5,x0,x3y,x1,Z,x0,x1,x1,x1,x0,x0,x1,x1]),(8,x42),(7,x42),(6,x42),(5,x42),(3,D 106 [x7,x7,xf,x0,x0,x0,Z,x0,x0,x1,xa,x4y,x0,x1,x1,x1,x0,x0,x1,x1,x7,x7,x7,x7,x0,x0,x2j,x0,x0,x1,x1,Z,x0,x1,x1,x1,x0,x0,x1,x1,x7,x7,x7,xh,x0,x0,x2k,x0,x0,x1,x1,Z,x0,x1,x1,x1,x0,x0,x1,x1,x7,x7,x7,xf,x0,x0,x2l,x0,x0,x1,x1,Z,x0,x1,x1,x1,x0,x0,x1,x1,x7,x7,xh,x0,x0,x0,Z,xh,x0,xd,x1,Z,x0,x1,x1,x1,x0,x0,x1,x1,x7,x7,xh,x0,x0,x0,Z,x7,x0,xs,x1,Z,x0,x1,x1,x1,x0,x0,x1,x1]),(12,x13),(11,x11),(10,xz),(9,x15)] (.t [K 13 0 11 11,x0]) 22 [(13,C 106 [x7,x7,xf,x0,x0,x0,Z,x0,x0,x1,xa,x2c,x0,x1,x1,x1,x0,x0,x1,x1,x7,x7,x7,x7,x0,x0,x4e,x0,x0,x1,x1,Z,x0,x1,x1,x1,x0,x0,x1,x1,x7,x7,x7,xh,x0,x0,x4f,x0,x0,x1,x1,Z,x0,x1,x1,x1,x0,x0,x1,x1,x7,x7,x7,xf,x0,x0,x4g,x0,x0,x1,x1,Z,x0,x1,x1,x1,x0,x0,x1,x1,x7,x7,xh,x0,x0,x0,Z,xh,x0,xd,x1,Z,x0,x1,x1,x1,x0,x0,x1,x1,x7,x7,xh,x0,x0,x0,Z,x7,x0,xs,x1,Z,x0,x1,x1,x1,x0,x0,x1,x1,xh,x0,x7,x5,x0,x0,x4h,x0,x0,x1,x1,Z,x0,x1,x1,x1,x0,x0,x1,x1,xh,x0,x7,xg,x0,x0,x4d,x0,x0,x1,x1,Z,x0,x1,x1,x1,x0,x0,x1,x1,xh,x0,x7,I 6,x0,x0,x5o,x0,x0,x1,x1,Z,x0,x1,x1,x1,x0,x0,x1,x1,xh,x0,x7,I 7,x0,x0,x5n,x0,x0,x1,x1,Z,x0,x1,x1,x1,x0,x0,x1,x1,xh,x0,xh,x0,x0,x0,Z,x5,x0,x3y,x1,Z,x0,x1,x1,x1,x0,x0,x1,x1]),(14,xj),(15,x1m),(16,x1p),(17,x1s),(18,x45),(19,x45),(20,x45),(21,x45)],
 N 298 0 [K 3 0 11 11,.a [x7,xf,x3,x58,Z]] 13 [(4,x55),(3,C 106 [x7,x7,xf,x0,x0,x0,Z,x0,x0,x1,xa,xw,x0,x1,x1,x1,x0,x0,x1,x1,x7,x7,x7,x7,x0,x0,x1b,x0,x0,x1,x1,Z,x0,x1,x1,x1,x0,x0,x1,x1,x7,x7,x7,xh,x0,x0,x2i,x0,x0,x1,x1,Z,x0,x1,x1,x1,x0,x0,x1,x1,x7,x7,x7,xf,x0,x0,x1j,x0,x0,x1,x1,Z,x0,x1,x1,x1,x0,x0,x1,x1,x7,x7,xh,x0,x0,x0,Z,xh,x0,xd,x1,Z,x0,x1,x1,x1,x0,x0,x1,x1,x7,x7,xh,x0,x0,x0,Z,x7,x0,xs,x1,Z,x0,x1,x1,x1,x0,x0,x1,x1,xh,x0,x7,x5,x0,x0,x1d,x0,x0,x1,x1,Z,x0,x1,x1,x1,x0,x0,x1,x1,xh,x0,x7,xg,x0,x0,x1w,x0,x0,x1,x1,Z,x0,x1,x1,x1,x0,x0,x1,x1,xh,x0,x7,I 6,x0,x0,x2d,x0,x0,x1,x1,Z,x0,x1,x1,x1,x0,x0,x1,x1,xh,x0,x7,I 7,x0,x0,x2e,x0,x0,x1,x1,Z,x0,x1,x1,x1,x0,x0,x1,x1,xh,x0,xh,x0,x0,x0,Z,x5,x0,x3y,x1,Z,x0,x1,x1,x1,x0,x0,x1,x1]),(12,x45),(11,x45),(10,x45),(9,x45),(8,x1s),(7,x1p),(6,x1m),(5,xj)] (.t [K 13 0 12 12,x0]) 22 [(13,C 106 [x7,x7,xf,x0,x0,x0,Z,x0,x0,x1,xa,x2c,x0,x1,x1,x1,x0,x0,x1,x1,x7,x7,x7,x7,x0,x0,x4e,x0,x0,x1,x1,Z,x0,x1,x1,x1,x0,x0,x1,x1,x7,x7,x7,xh,x0,x0,x4f,x0,x0,x1,x1,Z,x0,x1,x1,x1,x0,x0,x1,x1,x7,x7,x7,xf,x0,x0,x4g,x0,x0,x1,x1,Z,x0,x1,x1,x1,x0,x0,x1,x1,x7,x7,xh,x0,x0,x0,Z,xh,x0,xd,x1,Z,x0,x1,x1,x1,x0,x0,x1,x1,x7,x7,xh,x0,x0,x0,Z,x7,x0,xs,x1,Z,x0,x1,x1,x1,x0,x0,x1,x1,xh,x0,x7,x5,x0,x0,x4h,x0,x0,x1,x1,Z,x0,x1,x1,x1,x0,x0,x1,x1,xh,x0,x7,xg,x0,x0,x4d,x0,x0,x1,x1,Z,x0,x1,x1,x1,x0,x0,x1,x1,xh,x0,x7,I 6,x0,x0,x5o,x0,x0,x1,x1,Z,x0,x1,x1,x1,x0,x0,x1,x1,xh,x0,x7,I 7,x0,x0,x5n,x0,x0,x1,x1,Z,x0,x1,x1,x1,x0,x0,x1,x1,xh,x0,xh,x0,x0,x0,Z,x5,x0,x3y,x1,Z,x0,x1,x1,x1,x0,x0,x1,x1,xf,x0,xh,x0,x0,x0,Z,x7,x0,x50,x1,Z,x0,x1,x1,x1,x0,x0,x1,x1]),(14,xj),(15,x1m),(16,x1p),(17,x1s),(18,x45),(19,x45),(20,x45),(21,x45)]]
theorem L7av_t : entsB (envT EB (mkT A7)) L7av = true := by decide +kernel
theorem L7av_ok : AllOK L7av := entsB_ok (like_of okA7) L7av_t
end
end Go.Ev

/- Calls that are proved, rank 7. -/
set_option maxRecDepth 1000000
set_option maxHeartbeats 0
namespace Go.Ev
noncomputable section
def L7bb : List Ent := [
 N 298 0 [x3o,.a [x7,xh,x87,S 4 0 11 18,Z]] 19 [(4,D 102 [x7,x5,x0,x0,x27,x0,x0,x1,x1,Z,x0,x1,x1,x1,x0,x0,x1,x1,x7,xg,x0,x0,x28,x0,x0,x1,x1,Z,x0,x1,x1,x1,x0,x0,x1,x1,x7,I 6,x0,x0,x29,x0,x0,x1,x1,Z,x0,x1,x1,x1,x0,x0,x1,x1,x7,I 7,x0,x0,x3m,x0,x0,x1,x1,Z,x0,x1,x1,x1,x0,x0,x1,x1,x7,x3,x0,x0,x4y,x0,x0,x1,x1,Z,x0,x1,x1,x1,x0,x0,x1,x1,x7,I 9,x0,x0,x2j,x0,x0,x1,x1,Z,x0,x1,x1,x1,x0,x0,x1,x1,x7,x7d,x0,x0,x2k,x0,x0,x1,x1,Z,x0,x1,x1,x1,x0,x0,x1,x1,x7,x7l,x0,x0,x2l,x0,x0,x1,x1,Z,x0,x1,x1,x1,x0,x0,x1,x1,x7,x3u,x0,x0,x2m,x0,x0,x1,x1,Z,x0,x1,x1,x1,x0,x0,x1,x1,x7,x80,x0,x0,x4l,x0,x0,x1,x1,Z,x0,x1,x1,x1,x0,x0,x1,x1,xh,x0,x0,x0,Z,x5,x0,x3y,x1,Z,x0,x1,x1,x1,x0,x0,x1,x1]),(14,x42),(13,x42),(12,x42),(11,x42),(10,x42),(9,x42),(8,x42),(7,x42),(6,x42),(5,x42),(3,D 106 [x7,x7,xf,x0,x0,x0,Z,x0,x0,x1,xa,x5q,x0,x1,x1,x1,x0,x0,x1,x1,x7,x7,x7,x7,x0,x0,x68,x0,x0,x1,x1,Z,x0,x1,x1,x1,x0,x0,x1,x1,x7,x7,x7,xh,x0,x0,x6p,x0,x0,x1,x1,Z,x0,x1,x1,x1,x0,x0,x1,x1,x7,x7,x7,xf,x0,x0,x73,x0,x0,x1,x1,Z,x0,x1,x1,x1,x0,x0,x1,x1,x7,x7,xh,x0,x0,x0,Z,xh,x0,xd,x1,Z,x0,x1,x1,x1,x0,x0,x1,x1,x7,x7,xh,x0,x0,x0,Z,x7,x0,xs,x1,Z,x0,x1,x1,x1,x0,x0,x1,x1]),(18,x13),(17,x11),(16,xz),(15,x15)] (.t [K 19 0 17 17,x0]) 34 [(19,C 106 [x7,x7,xf,x0,x0,x0,Z,x0,x0,x1,xa,x5o,x0,x1,x1,x1,x0,x0,x1,x1,x7,x7,x7,x7,x0,x0,x5n,x0,x0,x1,x1,Z,x0,x1,x1,x1,x0,x0,x1,x1,x7,x7,x7,xh,x0,x0,x66,x0,x0,x1,x1,Z,x0,x1,x1,x1,x0,x0,x1,x1,x7,x7,x7,xf,x0,x0,x65,x0,x0,x1,x1,Z,x0,x1,x1,x1,x0,x0,x1,x1,x7,x7,xh,x0,x0,x0,Z,xh,x0,xd,x1,Z,x0,x1,x1,x1,x0,x0,x1,x1,x7,x7,xh,x0,x0,x0,Z,x7,x0,xs,x1,Z,x0,x1,x1,x1,x0,x0,x1,x1,xh,x0,x7,x5,x0,x0,x6n,x0,x0,x1,x1,Z,x0,x1,x1,x1,x0,x0,x1,x1,xh,x0,x7,xg,x0,x0,x6m,x0,x0,x1,x1,Z,x0,x1,x1,x1,x0,x0,x1,x1,xh,x0,x7,I 6,x0,x0,x71,x0,x0,x1,x1,Z,x0,x1,x1,x1,x0,x0,x1,x1,xh,x0,x7,I 7,x0,x0,x70,x0,x0,x1,x1,Z,x0,x1,x1,x1,x0,x0,x1,x1,xh,x0,x7,x3,x0,x0,x7f,x0,x0,x1,x1,Z,x0,x1,x1,x1,x0,x0,x1,x1,xh,x0,x7,I 9,x0,x0,x7e,x0,x0,x1,x1,Z,x0,x1,x1,x1,x0,x0,x1,x1,xh,x0,x7,x7d,x0,x0,x7n,x0,x0,x1,x1,Z,x0,x1,x1,x1,x0,x0,x1,x1,xh,x0,x7,x7l,x0,x0,x7m,x0,x0,x1,x1,Z,x0,x1,x1,x1,x0,x0,x1,x1,xh,x0,x7,x3u,x0,x0,x7u,x0,x0,x1,x1,Z,x0,x1,x1,x1,x0,x0,x1,x1,xh,x0,x7,x80,x0,x0,x7t,x0,x0,x1,x1,Z,x0,x1,x1,x1,x0,x0,x1,x1,xh,x0,xh,x0,x0,x0,Z,x5,x0,x3y,x1,Z,x0,x1,x1,x1,x0,x0,x1,x1]),(20,xj),(21,x1m),(22,x1p),(23,x1s),(24,x45),(25,x45),(26,x45),(27,x45),(28,x45),(29,x45),(30,x45),(31,x45),(32,x45),(33,x45)]]
theorem L7bb_t : entsB (envT EB (mkT A7)) L7bb = true := by decide +kernel
theorem L7bb_ok : AllOK L7bb := entsB_ok (like_of okA7) L7bb_t
end
end Go.Ev
