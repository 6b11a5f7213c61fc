/- Calls that are proved, rank 7. -/
import Derived.Test.YtolinijabfbjpaaGreatDoorB13
set_option linter.all false
set_option maxRecDepth 1000000
set_option maxHeartbeats 0
namespace Go.Ev
noncomputable section
def L7af : List Ent := [
 N 58 0 [K 3 0 9 9,xh] 10 x5v (.t [.a [K 10 0 1 1,x2k,S 12 0 3 2,I 6],x0]) 19 [(10,C 215 [xa,x4h,Z]),(11,D 100 [x7,x0,x0,x2f,xh,x0,x0,x2c,xf,x0,x0,x4e,x5,x0,x0,x4f,xg,x0,x0,x4g]),(12,x4i),(13,x1m),(14,x1p),(15,x1s),(16,x45),(17,x45),(18,xj)],
 N 58 0 [S 3 0 10 20,xf] 10 x63 (.t [.a [K 10 0 1 1,x2k,S 12 0 4 2,I 6],x0]) 19 [(10,C 215 [xa,x4h,Z]),(11,D 100 [x7,x0,x0,x2f,xh,x0,x0,x2c,xf,x0,x0,x4e,x5,x0,x0,x4f,xg,x0,x0,x4g]),(12,x56),(13,x1m),(14,x1p),(15,x1s),(16,x45),(17,x45),(18,xj)],
 N 58 0 [K 3 0 10 10,xh] 11 x6d (.t [.a [K 11 0 1 1,S 12 0 6 4,x5b,I 7],x0]) 21 [(11,C 215 [xa,x5o,Z]),(12,D 100 [x7,x0,x0,x2c,xh,x0,x0,x4e,xf,x0,x0,x4f,x5,x0,x0,x4g,xg,x0,x0,x4h,I 6,x0,x0,x4d]),(13,x4i),(14,x1m),(15,x1p),(16,x1s),(17,x45),(18,x45),(19,x45),(20,xj)],
 N 58 0 [S 3 0 11 20,xf] 11 x6k (.t [.a [K 11 0 1 1,S 12 0 6 4,S 13 0 4 2,I 7],x0]) 21 [(11,C 215 [xa,x5o,Z]),(12,D 100 [x7,x0,x0,x2c,xh,x0,x0,x4e,xf,x0,x0,x4f,x5,x0,x0,x4g,xg,x0,x0,x4h,I 6,x0,x0,x4d]),(13,x56),(14,x1m),(15,x1p),(16,x1s),(17,x45),(18,x45),(19,x45),(20,xj)]]
theorem L7af_t : entsB (envT EB (mkT A7)) L7af = true := by decide +kernel
theorem L7af_ok : AllOK L7af := entsB_ok (like_of okA7) L7af_t
end
end Go.Ev

/- Calls that are proved, rank 7. -/
set_option maxRecDepth 1000000
set_option maxHeartbeats 0
namespace Go.Ev
noncomputable section
def L7al : List Ent := [
 N 186 0 [x4c,S 6 0 6 18] 16 [(6,D 102 [x7,x5,x0,x0,x29,x0,x0,x1,x1,Z,x0,x1,x1,x1,x0,x0,x1,x1,x7,xg,x0,x0,x3m,x0,x0,x1,x1,Z,x0,x1,x1,x1,x0,x0,x1,x1,x7,I 6,x0,x0,x4y,x0,x0,x1,x1,Z,x0,x1,x1,x1,x0,x0,x1,x1,x7,I 7,x0,x0,x2j,x0,x0,x1,x1,Z,x0,x1,x1,x1,x0,x0,x1,x1,x7,x3,x0,x0,x2k,x0,x0,x1,x1,Z,x0,x1,x1,x1,x0,x0,x1,x1,xh,x0,x0,x0,Z,x5,x0,x3y,x1,Z,x0,x1,x1,x1,x0,x0,x1,x1]),(11,x42),(10,x42),(9,x42),(8,x42),(7,x42),(5,D 117 [xd,xh,xs,x7]),(4,D 100 [x7,x0,x0,x2e,xh,x0,x0,x2f,xf,x0,x0,x2c]),(14,x1s),(13,x1p),(12,x1m),(3,C 215 [xa,x4e,Z]),(15,xj)] (.t [.a [K 16 0 1 1,S 17 0 8 4,S 18 0 3 2,I 9],I 6,x0]) 28 [(16,C 215 [xa,x70,Z]),(17,D 100 [x7,x0,x0,x4d,xh,x0,x0,x5o,xf,x0,x0,x5n,x5,x0,x0,x66,xg,x0,x0,x65,I 6,x0,x0,x6n,I 7,x0,x0,x6m,x3,x0,x0,x71]),(18,x4i),(19,x1m),(20,x1p),(21,x1s),(22,x45),(23,x45),(24,x45),(25,x45),(26,x45),(27,xj)],
 N 186 0 [x4c,x53] 11 [(6,x55),(5,D 117 [xd,xh,xs,x7]),(4,D 100 [x7,x0,x0,x2i,xh,x0,x0,x1j,xf,x0,x0,x1d]),(9,x1s),(8,x1p),(7,x1m),(3,C 215 [xa,x1w,Z]),(10,xj)] (.t [.a [K 11 0 1 1,S 12 0 3 4,x5b,x5],x7,x0]) 18 [(11,C 215 [xa,x4g,Z]),(12,x77),(13,x78),(14,x1m),(15,x1p),(16,x1s),(17,xj)]]
theorem L7al_t : entsB (envT EB (mkT A7)) L7al = true := by decide +kernel
theorem L7al_ok : AllOK L7al := entsB_ok (like_of okA7) L7al_t
end
end Go.Ev

/- Calls that are proved, rank 7. -/
set_option maxRecDepth 1000000
set_option maxHeartbeats 0
namespace Go.Ev
noncomputable section
def L7ar : List Ent := [
 N 186 0 [x4c,S 6 0 12 18] 22 [(6,D 102 [x7,x5,x0,x0,x29,x0,x0,x1,x1,Z,x0,x1,x1,x1,x0,x0,x1,x1,x7,xg,x0,x0,x3m,x0,x0,x1,x1,Z,x0,x1,x1,x1,x0,x0,x1,x1,x7,I 6,x0,x0,x4y,x0,x0,x1,x1,Z,x0,x1,x1,x1,x0,x0,x1,x1,x7,I 7,x0,x0,x2j,x0,x0,x1,x1,Z,x0,x1,x1,x1,x0,x0,x1,x1,x7,x3,x0,x0,x2k,x0,x0,x1,x1,Z,x0,x1,x1,x1,x0,x0,x1,x1,x7,I 9,x0,x0,x2l,x0,x0,x1,x1,Z,x0,x1,x1,x1,x0,x0,x1,x1,x7,x7d,x0,x0,x2m,x0,x0,x1,x1,Z,x0,x1,x1,x1,x0,x0,x1,x1,x7,x7l,x0,x0,x4l,x0,x0,x1,x1,Z,x0,x1,x1,x1,x0,x0,x1,x1,x7,x3u,x0,x0,x5q,x0,x0,x1,x1,Z,x0,x1,x1,x1,x0,x0,x1,x1,x7,x80,x0,x0,x68,x0,x0,x1,x1,Z,x0,x1,x1,x1,x0,x0,x1,x1,x7,x87,x0,x0,x6p,x0,x0,x1,x1,Z,x0,x1,x1,x1,x0,x0,x1,x1,xh,x0,x0,x0,Z,x5,x0,x3y,x1,Z,x0,x1,x1,x1,x0,x0,x1,x1]),(17,x42),(16,x42),(15,x42),(14,x42),(13,x42),(12,x42),(11,x42),(10,x42),(9,x42),(8,x42),(7,x42),(5,D 117 [xd,xh,xs,x7]),(4,D 100 [x7,x0,x0,x4h,xh,x0,x0,x4d,xf,x0,x0,x5o]),(20,x1s),(19,x1p),(18,x1m),(3,C 215 [xa,x5n,Z]),(21,xj)] (.t [.a [K 22 0 1 1,S 23 0 14 4,S 24 0 3 2,I 15],x3u,x0]) 40 [(22,C 215 [xa,K 39 0 5 5,Z]),(23,D 100 [x7,x0,x0,x6m,xh,x0,x0,x71,xf,x0,x0,x70,x5,x0,x0,x7f,xg,x0,x0,x7e,I 6,x0,x0,x7n,I 7,x0,x0,x7m,x3,x0,x0,x7u,I 9,x0,x0,x7t,x7d,x0,x0,x82,x7l,x0,x0,x81,x3u,x0,x0,K 36 0 5 5,x80,x0,x0,K 37 0 5 5,x87,x0,x0,K 38 0 5 5]),(24,x4i),(25,x1m),(26,x1p),(27,x1s),(28,x45),(29,x45),(30,x45),(31,x45),(32,x45),(33,x45),(34,x45),(35,x45),(36,x45),(37,x45),(38,x45),(39,xj)]]
theorem L7ar_t : entsB (envT EB (mkT A7)) L7ar = true := by decide +kernel
theorem L7ar_ok : AllOK L7ar := entsB_ok (like_of okA7) L7ar_t
end
end Go.Ev

/- Calls that are proved, rank 7. -/
set_option maxRecDepth 1000000
set_option maxHeartbeats 0
namespace Go.Ev
noncomputable section
def L7ax : List Ent := [
 N 298 0 [x3o,.a [x7,xh,x7d,S 4 0 7 18,Z]] 15 [(4,D 102 [x7,x5,x0,x0,x27,x0,x0,x1,x1,Z,x0,x1,x1,x1,x0,x0,x1,x1,x7,xg,x0,x0,x28,x0,x0,x1,x1,Z,x0,x1,x1,x1,x0,x0,x1,x1,x7,I 6,x0,x0,x29,x0,x0,x1,x1,Z,x0,x1,x1,x1,x0,x0,x1,x1,x7,I 7,x0,x0,x3m,x0,x0,x1,x1,Z,x0,x1,x1,x1,x0,x0,x1,x1,x7,x3,x0,x0,x4y,x0,x0,x1,x1,Z,x0,x1,x1,x1,x0,x0,x1,x1,x7,I 9,x0,x0,x2j,x0,x0,x1,x1,Z,x0,x1,x1,x1,x0,x0,x1,x1,xh,x0,x0,x0,Z,x5,x0,x3y,x1,Z,x0,x1,x1,x1,x0,x0,x1,x1]),(10,x42),(9,x42),(8,x42),(7,x42),(6,x42),(5,x42),(3,D 106 [x7,x7,xf,x0,x0,x0,Z,x0,x0,x1,xa,x2k,x0,x1,x1,x1,x0,x0,x1,x1,x7,x7,x7,x7,x0,x0,x2l,x0,x0,x1,x1,Z,x0,x1,x1,x1,x0,x0,x1,x1,x7,x7,x7,xh,x0,x0,x2m,x0,x0,x1,x1,Z,x0,x1,x1,x1,x0,x0,x1,x1,x7,x7,x7,xf,x0,x0,x4l,x0,x0,x1,x1,Z,x0,x1,x1,x1,x0,x0,x1,x1,x7,x7,xh,x0,x0,x0,Z,xh,x0,xd,x1,Z,x0,x1,x1,x1,x0,x0,x1,x1,x7,x7,xh,x0,x0,x0,Z,x7,x0,xs,x1,Z,x0,x1,x1,x1,x0,x0,x1,x1]),(14,x13),(13,x11),(12,xz),(11,x15)] (.t [K 15 0 13 13,x0]) 26 [(15,C 106 [x7,x7,xf,x0,x0,x0,Z,x0,x0,x1,xa,x4f,x0,x1,x1,x1,x0,x0,x1,x1,x7,x7,x7,x7,x0,x0,x4g,x0,x0,x1,x1,Z,x0,x1,x1,x1,x0,x0,x1,x1,x7,x7,x7,xh,x0,x0,x4h,x0,x0,x1,x1,Z,x0,x1,x1,x1,x0,x0,x1,x1,x7,x7,x7,xf,x0,x0,x4d,x0,x0,x1,x1,Z,x0,x1,x1,x1,x0,x0,x1,x1,x7,x7,xh,x0,x0,x0,Z,xh,x0,xd,x1,Z,x0,x1,x1,x1,x0,x0,x1,x1,x7,x7,xh,x0,x0,x0,Z,x7,x0,xs,x1,Z,x0,x1,x1,x1,x0,x0,x1,x1,xh,x0,x7,x5,x0,x0,x5o,x0,x0,x1,x1,Z,x0,x1,x1,x1,x0,x0,x1,x1,xh,x0,x7,xg,x0,x0,x5n,x0,x0,x1,x1,Z,x0,x1,x1,x1,x0,x0,x1,x1,xh,x0,x7,I 6,x0,x0,x66,x0,x0,x1,x1,Z,x0,x1,x1,x1,x0,x0,x1,x1,xh,x0,x7,I 7,x0,x0,x65,x0,x0,x1,x1,Z,x0,x1,x1,x1,x0,x0,x1,x1,xh,x0,x7,x3,x0,x0,x6n,x0,x0,x1,x1,Z,x0,x1,x1,x1,x0,x0,x1,x1,xh,x0,x7,I 9,x0,x0,x6m,x0,x0,x1,x1,Z,x0,x1,x1,x1,x0,x0,x1,x1,xh,x0,xh,x0,x0,x0,Z,x5,x0,x3y,x1,Z,x0,x1,x1,x1,x0,x0,x1,x1]),(16,xj),(17,x1m),(18,x1p),(19,x1s),(20,x45),(21,x45),(22,x45),(23,x45),(24,x45),(25,x45)]]
theorem L7ax_t : entsB (envT EB (mkT A7)) L7ax = true := by decide +kernel
theorem L7ax_ok : AllOK L7ax := entsB_ok (like_of okA7) L7ax_t
end
end Go.Ev

/- Calls that are proved, rank 7. -/
set_option maxRecDepth 1000000
set_option maxHeartbeats 0
namespace Go.Ev
noncomputable section
def L7bd : List Ent := [
 N 298 0 [x3o,.a [x7,xh,I 16,S 4 0 13 18,Z]] 21 [(4,D 102 [x7,x5,x0,x0,x27,x0,x0,x1,x1,Z,x0,x1,x1,x1,x0,x0,x1,x1,x7,xg,x0,x0,x28,x0,x0,x1,x1,Z,x0,x1,x1,x1,x0,x0,x1,x1,x7,I 6,x0,x0,x29,x0,x0,x1,x1,Z,x0,x1,x1,x1,x0,x0,x1,x1,x7,I 7,x0,x0,x3m,x0,x0,x1,x1,Z,x0,x1,x1,x1,x0,x0,x1,x1,x7,x3,x0,x0,x4y,x0,x0,x1,x1,Z,x0,x1,x1,x1,x0,x0,x1,x1,x7,I 9,x0,x0,x2j,x0,x0,x1,x1,Z,x0,x1,x1,x1,x0,x0,x1,x1,x7,x7d,x0,x0,x2k,x0,x0,x1,x1,Z,x0,x1,x1,x1,x0,x0,x1,x1,x7,x7l,x0,x0,x2l,x0,x0,x1,x1,Z,x0,x1,x1,x1,x0,x0,x1,x1,x7,x3u,x0,x0,x2m,x0,x0,x1,x1,Z,x0,x1,x1,x1,x0,x0,x1,x1,x7,x80,x0,x0,x4l,x0,x0,x1,x1,Z,x0,x1,x1,x1,x0,x0,x1,x1,x7,x87,x0,x0,x5q,x0,x0,x1,x1,Z,x0,x1,x1,x1,x0,x0,x1,x1,x7,I 15,x0,x0,x68,x0,x0,x1,x1,Z,x0,x1,x1,x1,x0,x0,x1,x1,xh,x0,x0,x0,Z,x5,x0,x3y,x1,Z,x0,x1,x1,x1,x0,x0,x1,x1]),(16,x42),(15,x42),(14,x42),(13,x42),(12,x42),(11,x42),(10,x42),(9,x42),(8,x42),(7,x42),(6,x42),(5,x42),(3,D 106 [x7,x7,xf,x0,x0,x0,Z,x0,x0,x1,xa,x6p,x0,x1,x1,x1,x0,x0,x1,x1,x7,x7,x7,x7,x0,x0,x73,x0,x0,x1,x1,Z,x0,x1,x1,x1,x0,x0,x1,x1,x7,x7,x7,xh,x0,x0,x7h,x0,x0,x1,x1,Z,x0,x1,x1,x1,x0,x0,x1,x1,x7,x7,x7,xf,x0,x0,x7p,x0,x0,x1,x1,Z,x0,x1,x1,x1,x0,x0,x1,x1,x7,x7,xh,x0,x0,x0,Z,xh,x0,xd,x1,Z,x0,x1,x1,x1,x0,x0,x1,x1,x7,x7,xh,x0,x0,x0,Z,x7,x0,xs,x1,Z,x0,x1,x1,x1,x0,x0,x1,x1]),(20,x13),(19,x11),(18,xz),(17,x15)] (.t [K 21 0 19 19,x0]) 38 [(21,C 106 [x7,x7,xf,x0,x0,x0,Z,x0,x0,x1,xa,x66,x0,x1,x1,x1,x0,x0,x1,x1,x7,x7,x7,x7,x0,x0,x65,x0,x0,x1,x1,Z,x0,x1,x1,x1,x0,x0,x1,x1,x7,x7,x7,xh,x0,x0,x6n,x0,x0,x1,x1,Z,x0,x1,x1,x1,x0,x0,x1,x1,x7,x7,x7,xf,x0,x0,x6m,x0,x0,x1,x1,Z,x0,x1,x1,x1,x0,x0,x1,x1,x7,x7,xh,x0,x0,x0,Z,xh,x0,xd,x1,Z,x0,x1,x1,x1,x0,x0,x1,x1,x7,x7,xh,x0,x0,x0,Z,x7,x0,xs,x1,Z,x0,x1,x1,x1,x0,x0,x1,x1,xh,x0,x7,x5,x0,x0,x71,x0,x0,x1,x1,Z,x0,x1,x1,x1,x0,x0,x1,x1,xh,x0,x7,xg,x0,x0,x70,x0,x0,x1,x1,Z,x0,x1,x1,x1,x0,x0,x1,x1,xh,x0,x7,I 6,x0,x0,x7f,x0,x0,x1,x1,Z,x0,x1,x1,x1,x0,x0,x1,x1,xh,x0,x7,I 7,x0,x0,x7e,x0,x0,x1,x1,Z,x0,x1,x1,x1,x0,x0,x1,x1,xh,x0,x7,x3,x0,x0,x7n,x0,x0,x1,x1,Z,x0,x1,x1,x1,x0,x0,x1,x1,xh,x0,x7,I 9,x0,x0,x7m,x0,x0,x1,x1,Z,x0,x1,x1,x1,x0,x0,x1,x1,xh,x0,x7,x7d,x0,x0,x7u,x0,x0,x1,x1,Z,x0,x1,x1,x1,x0,x0,x1,x1,xh,x0,x7,x7l,x0,x0,x7t,x0,x0,x1,x1,Z,x0,x1,x1,x1,x0,x0,x1,x1,xh,x0,x7,x3u,x0,x0,x82,x0,x0,x1,x1,Z,x0,x1,x1,x1,x0,x0,x1,x1,xh,x0,x7,x80,x0,x0,x81,x0,x0,x1,x1,Z,x0,x1,x1,x1,x0,x0,x1,x1,xh,x0,x7,x87,x0,x0,K 36 0 5 5,x0,x0,x1,x1,Z,x0,x1,x1,x1,x0,x0,x1,x1,xh,x0,x7,I 15,x0,x0,K 37 0 5 5,x0,x0,x1,x1,Z,x0,x1,x1,x1,x0,x0,x1,x1,xh,x0,xh,x0,x0,x0,Z,x5,x0,x3y,x1,Z,x0,x1,x1,x1,x0,x0,x1,x1]),(22,xj),(23,x1m),(24,x1p),(25,x1s),(26,x45),(27,x45),(28,x45),(29,x45),(30,x45),(31,x45),(32,x45),(33,x45),(34,x45),(35,x45),(36,x45),(37,x45)]]
theorem L7bd_t : entsB (envT EB (mkT A7)) L7bd = true := by decide +kernel
theorem L7bd_ok : AllOK L7bd := entsB_ok (like_of okA7) L7bd_t
end
end Go.Ev
