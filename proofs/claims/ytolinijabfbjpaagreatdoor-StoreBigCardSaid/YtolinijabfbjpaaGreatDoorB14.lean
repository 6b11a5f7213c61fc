/- Calls that are proved, rank 7. -/
import Derived.Test.YtolinijabfbjpaaGreatDoorB13
set_option linter.all false
set_option maxRecDepth 1000000
set_option maxHeartbeats 0
namespace Go.Ev
noncomputable section
def L7aa : List Ent := [
 N 37 2 [S 3 0 1 2] 4 [(3,x3l)] (.t [S 4 0 6 20,x7,x5,x0]) 9 [(4,x3n),(5,x15),(6,xz),(7,x11),(8,x13)],
 N 37 2 x5k 4 [(3,x5i)] (.t [S 4 0 9 20,xf,xg,x0]) 10 [(4,D 106 [x7,x7,xf,x0,x0,x0,Z,x0,x0,x1,xa,x27,x0,x1,x1,x1,x0,x0,x1,x1,x7,x7,x7,x7,x0,x0,x28,x0,x0,x1,x1,Z,x0,x1,x1,x1,x0,x0,x1,x1,x7,x7,x7,xh,x0,x0,x29,x0,x0,x1,x1,Z,x0,x1,x1,x1,x0,x0,x1,x1,x7,x7,x7,xf,x0,x0,x3m,x0,x0,x1,x1,Z,x0,x1,x1,x1,x0,x0,x1,x1,x7,x7,xh,x0,x0,x0,Z,xh,x0,xd,x1,Z,x0,x1,x1,x1,x0,x0,x1,x1,x7,x7,xh,x0,x0,x0,Z,x7,x0,xs,x1,Z,x0,x1,x1,x1,x0,x0,x1,x1,xh,x7,x7,x5,x0,x0,x4y,x0,x0,x1,x1,Z,x0,x1,x1,x1,x0,x0,x1,x1,xh,x7,xh,x0,x0,x0,Z,x5,x0,x3y,x1,Z,x0,x1,x1,x1,x0,x0,x1,x1,xf,x7,xh,x0,x0,x0,Z,x7,x0,x50,x1,Z,x0,x1,x1,x1,x0,x0,x1,x1]),(5,x15),(6,xz),(7,x11),(8,x13),(9,x42)]]
theorem L7aa_t : entsB (envT EB (mkT A7)) L7aa = true := by decide +kernel
theorem L7aa_ok : AllOK L7aa := entsB_ok (like_of okA7) L7aa_t
end
end Go.Ev

/- Calls that are proved, rank 7. -/
set_option maxRecDepth 1000000
set_option maxHeartbeats 0
namespace Go.Ev
noncomputable section
def L7ag : List Ent := [
 N 58 0 [K 3 0 11 11,xh] 12 x6u (.t [.a [K 12 0 1 1,S 13 0 7 4,S 14 0 3 2,x3],x0]) 23 [(12,C 215 [xa,x66,Z]),(13,D 100 [x7,x0,x0,x4e,xh,x0,x0,x4f,xf,x0,x0,x4g,x5,x0,x0,x4h,xg,x0,x0,x4d,I 6,x0,x0,x5o,I 7,x0,x0,x5n]),(14,x4i),(15,x1m),(16,x1p),(17,x1s),(18,x45),(19,x45),(20,x45),(21,x45),(22,xj)],
 N 58 0 [S 3 0 12 20,xf] 12 x6z (.t [.a [K 12 0 1 1,S 13 0 7 4,S 14 0 4 2,x3],x0]) 23 [(12,C 215 [xa,x66,Z]),(13,D 100 [x7,x0,x0,x4e,xh,x0,x0,x4f,xf,x0,x0,x4g,x5,x0,x0,x4h,xg,x0,x0,x4d,I 6,x0,x0,x5o,I 7,x0,x0,x5n]),(14,x56),(15,x1m),(16,x1p),(17,x1s),(18,x45),(19,x45),(20,x45),(21,x45),(22,xj)],
 N 58 0 [S 3 0 7 20,xh] 8 x7c (.t [.a [K 8 0 1 1,S 9 0 3 4,S 10 0 3 2,x5],x0]) 15 [(8,C 215 [xa,x2c,Z]),(9,x2g),(10,x78),(11,x1m),(12,x1p),(13,x1s),(14,xj)],
 N 186 0 [x9,S 3 0 6 18] 8 x2a (.t [x2b,I 6,x0]) 15 x2h]
theorem L7ag_t : entsB (envT EB (mkT A7)) L7ag = true := by decide +kernel
theorem L7ag_ok : AllOK L7ag := entsB_ok (like_of okA7) L7ag_t
end
end Go.Ev

/- Calls that are proved, rank 7. -/
set_option maxRecDepth 1000000
set_option maxHeartbeats 0
namespace Go.Ev
noncomputable section
def L7am : List Ent := [
 N 186 0 [x4c,S 6 0 7 18] 17 [(6,D 102 [x7,x5,x0,x0,x29,x0,x0,x1,x1,Z,x0,x1,x1,x1,x0,x0,x1,x1,x7,xg,x0,x0,x3m,x0,x0,x1,x1,Z,x0,x1,x1,x1,x0,x0,x1,x1,x7,I 6,x0,x0,x4y,x0,x0,x1,x1,Z,x0,x1,x1,x1,x0,x0,x1,x1,x7,I 7,x0,x0,x2j,x0,x0,x1,x1,Z,x0,x1,x1,x1,x0,x0,x1,x1,x7,x3,x0,x0,x2k,x0,x0,x1,x1,Z,x0,x1,x1,x1,x0,x0,x1,x1,x7,I 9,x0,x0,x2l,x0,x0,x1,x1,Z,x0,x1,x1,x1,x0,x0,x1,x1,xh,x0,x0,x0,Z,x5,x0,x3y,x1,Z,x0,x1,x1,x1,x0,x0,x1,x1]),(12,x42),(11,x42),(10,x42),(9,x42),(8,x42),(7,x42),(5,D 117 [xd,xh,xs,x7]),(4,D 100 [x7,x0,x0,x2f,xh,x0,x0,x2c,xf,x0,x0,x4e]),(15,x1s),(14,x1p),(13,x1m),(3,C 215 [xa,x4f,Z]),(16,xj)] (.t [.a [K 17 0 1 1,S 18 0 9 4,S 19 0 3 2,x7d],I 7,x0]) 30 [(17,C 215 [xa,x7e,Z]),(18,D 100 [x7,x0,x0,x5o,xh,x0,x0,x5n,xf,x0,x0,x66,x5,x0,x0,x65,xg,x0,x0,x6n,I 6,x0,x0,x6m,I 7,x0,x0,x71,x3,x0,x0,x70,I 9,x0,x0,x7f]),(19,x4i),(20,x1m),(21,x1p),(22,x1s),(23,x45),(24,x45),(25,x45),(26,x45),(27,x45),(28,x45),(29,xj)]]
theorem L7am_t : entsB (envT EB (mkT A7)) L7am = true := by decide +kernel
theorem L7am_ok : AllOK L7am := entsB_ok (like_of okA7) L7am_t
end
end Go.Ev

/- Calls that are proved, rank 7. -/
set_option maxRecDepth 1000000
set_option maxHeartbeats 0
namespace Go.Ev
noncomputable section
def L7as : List Ent := [
 N 186 0 [x4c,S 6 0 13 18] 23 [(6,D 102 [x7,x5,x0,x0,x29,x0,x0,x1,x1,Z,x0,x1,x1,x1,x0,x0,x1,x1,x7,xg,x0,x0,x3m,x0,x0,x1,x1,Z,x0,x1,x1,x1,x0,x0,x1,x1,x7,I 6,x0,x0,x4y,x0,x0,x1,x1,Z,x0,x1,x1,x1,x0,x0,x1,x1,x7,I 7,x0,x0,x2j,x0,x0,x1,x1,Z,x0,x1,x1,x1,x0,x0,x1,x1,x7,x3,x0,x0,x2k,x0,x0,x1,x1,Z,x0,x1,x1,x1,x0,x0,x1,x1,x7,I 9,x0,x0,x2l,x0,x0,x1,x1,Z,x0,x1,x1,x1,x0,x0,x1,x1,x7,x7d,x0,x0,x2m,x0,x0,x1,x1,Z,x0,x1,x1,x1,x0,x0,x1,x1,x7,x7l,x0,x0,x4l,x0,x0,x1,x1,Z,x0,x1,x1,x1,x0,x0,x1,x1,x7,x3u,x0,x0,x5q,x0,x0,x1,x1,Z,x0,x1,x1,x1,x0,x0,x1,x1,x7,x80,x0,x0,x68,x0,x0,x1,x1,Z,x0,x1,x1,x1,x0,x0,x1,x1,x7,x87,x0,x0,x6p,x0,x0,x1,x1,Z,x0,x1,x1,x1,x0,x0,x1,x1,x7,I 15,x0,x0,x73,x0,x0,x1,x1,Z,x0,x1,x1,x1,x0,x0,x1,x1,xh,x0,x0,x0,Z,x5,x0,x3y,x1,Z,x0,x1,x1,x1,x0,x0,x1,x1]),(18,x42),(17,x42),(16,x42),(15,x42),(14,x42),(13,x42),(12,x42),(11,x42),(10,x42),(9,x42),(8,x42),(7,x42),(5,D 117 [xd,xh,xs,x7]),(4,D 100 [x7,x0,x0,x4d,xh,x0,x0,x5o,xf,x0,x0,x5n]),(21,x1s),(20,x1p),(19,x1m),(3,C 215 [xa,x66,Z]),(22,xj)] (.t [.a [K 23 0 1 1,S 24 0 15 4,S 25 0 3 2,I 16],x80,x0]) 42 [(23,C 215 [xa,K 41 0 5 5,Z]),(24,D 100 [x7,x0,x0,x71,xh,x0,x0,x70,xf,x0,x0,x7f,x5,x0,x0,x7e,xg,x0,x0,x7n,I 6,x0,x0,x7m,I 7,x0,x0,x7u,x3,x0,x0,x7t,I 9,x0,x0,x82,x7d,x0,x0,x81,x7l,x0,x0,K 36 0 5 5,x3u,x0,x0,K 37 0 5 5,x80,x0,x0,K 38 0 5 5,x87,x0,x0,K 39 0 5 5,I 15,x0,x0,K 40 0 5 5]),(25,x4i),(26,x1m),(27,x1p),(28,x1s),(29,x45),(30,x45),(31,x45),(32,x45),(33,x45),(34,x45),(35,x45),(36,x45),(37,x45),(38,x45),(39,x45),(40,x45),(41,xj)]]
theorem L7as_t : entsB (envT EB (mkT A7)) L7as = true := by decide +kernel
theorem L7as_ok : AllOK L7as := entsB_ok (like_of okA7) L7as_t
end
end Go.Ev

/- Calls that are proved, rank 7. -/
set_option maxRecDepth 1000000
set_option maxHeartbeats 0
namespace Go.Ev
noncomputable section
def L7ay : List Ent := [
 N 298 0 [x3o,.a [x7,xh,x7l,S 4 0 8 18,Z]] 16 [(4,D 102 [x7,x5,x0,x0,x27,x0,x0,x1,x1,Z,x0,x1,x1,x1,x0,x0,x1,x1,x7,xg,x0,x0,x28,x0,x0,x1,x1,Z,x0,x1,x1,x1,x0,x0,x1,x1,x7,I 6,x0,x0,x29,x0,x0,x1,x1,Z,x0,x1,x1,x1,x0,x0,x1,x1,x7,I 7,x0,x0,x3m,x0,x0,x1,x1,Z,x0,x1,x1,x1,x0,x0,x1,x1,x7,x3,x0,x0,x4y,x0,x0,x1,x1,Z,x0,x1,x1,x1,x0,x0,x1,x1,x7,I 9,x0,x0,x2j,x0,x0,x1,x1,Z,x0,x1,x1,x1,x0,x0,x1,x1,x7,x7d,x0,x0,x2k,x0,x0,x1,x1,Z,x0,x1,x1,x1,x0,x0,x1,x1,xh,x0,x0,x0,Z,x5,x0,x3y,x1,Z,x0,x1,x1,x1,x0,x0,x1,x1]),(11,x42),(10,x42),(9,x42),(8,x42),(7,x42),(6,x42),(5,x42),(3,D 106 [x7,x7,xf,x0,x0,x0,Z,x0,x0,x1,xa,x2l,x0,x1,x1,x1,x0,x0,x1,x1,x7,x7,x7,x7,x0,x0,x2m,x0,x0,x1,x1,Z,x0,x1,x1,x1,x0,x0,x1,x1,x7,x7,x7,xh,x0,x0,x4l,x0,x0,x1,x1,Z,x0,x1,x1,x1,x0,x0,x1,x1,x7,x7,x7,xf,x0,x0,x5q,x0,x0,x1,x1,Z,x0,x1,x1,x1,x0,x0,x1,x1,x7,x7,xh,x0,x0,x0,Z,xh,x0,xd,x1,Z,x0,x1,x1,x1,x0,x0,x1,x1,x7,x7,xh,x0,x0,x0,Z,x7,x0,xs,x1,Z,x0,x1,x1,x1,x0,x0,x1,x1]),(15,x13),(14,x11),(13,xz),(12,x15)] (.t [K 16 0 14 14,x0]) 28 [(16,C 106 [x7,x7,xf,x0,x0,x0,Z,x0,x0,x1,xa,x4g,x0,x1,x1,x1,x0,x0,x1,x1,x7,x7,x7,x7,x0,x0,x4h,x0,x0,x1,x1,Z,x0,x1,x1,x1,x0,x0,x1,x1,x7,x7,x7,xh,x0,x0,x4d,x0,x0,x1,x1,Z,x0,x1,x1,x1,x0,x0,x1,x1,x7,x7,x7,xf,x0,x0,x5o,x0,x0,x1,x1,Z,x0,x1,x1,x1,x0,x0,x1,x1,x7,x7,xh,x0,x0,x0,Z,xh,x0,xd,x1,Z,x0,x1,x1,x1,x0,x0,x1,x1,x7,x7,xh,x0,x0,x0,Z,x7,x0,xs,x1,Z,x0,x1,x1,x1,x0,x0,x1,x1,xh,x0,x7,x5,x0,x0,x5n,x0,x0,x1,x1,Z,x0,x1,x1,x1,x0,x0,x1,x1,xh,x0,x7,xg,x0,x0,x66,x0,x0,x1,x1,Z,x0,x1,x1,x1,x0,x0,x1,x1,xh,x0,x7,I 6,x0,x0,x65,x0,x0,x1,x1,Z,x0,x1,x1,x1,x0,x0,x1,x1,xh,x0,x7,I 7,x0,x0,x6n,x0,x0,x1,x1,Z,x0,x1,x1,x1,x0,x0,x1,x1,xh,x0,x7,x3,x0,x0,x6m,x0,x0,x1,x1,Z,x0,x1,x1,x1,x0,x0,x1,x1,xh,x0,x7,I 9,x0,x0,x71,x0,x0,x1,x1,Z,x0,x1,x1,x1,x0,x0,x1,x1,xh,x0,x7,x7d,x0,x0,x70,x0,x0,x1,x1,Z,x0,x1,x1,x1,x0,x0,x1,x1,xh,x0,xh,x0,x0,x0,Z,x5,x0,x3y,x1,Z,x0,x1,x1,x1,x0,x0,x1,x1]),(17,xj),(18,x1m),(19,x1p),(20,x1s),(21,x45),(22,x45),(23,x45),(24,x45),(25,x45),(26,x45),(27,x45)]]
theorem L7ay_t : entsB (envT EB (mkT A7)) L7ay = true := by decide +kernel
theorem L7ay_ok : AllOK L7ay := entsB_ok (like_of okA7) L7ay_t
end
end Go.Ev
