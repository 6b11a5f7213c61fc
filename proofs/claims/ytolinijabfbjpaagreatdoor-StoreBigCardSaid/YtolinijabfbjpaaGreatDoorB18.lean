/- Calls that are proved, rank 7. -/
import Derived.Test.YtolinijabfbjpaaGreatDoorB13
set_option linter.all false
set_option maxRecDepth 1000000
set_option maxHeartbeats 0
namespace Go.Ev
noncomputable section
def L7ae : List Ent := [
 N 37 2 [S 3 0 2 2] 4 [(3,D 221 [x7,x3k,x7,x7a])] (.t [S 4 0 7 20,xh,x5,x0]) 9 [(4,D 106 [x7,x7,xf,x0,x0,x0,Z,x0,x0,x1,xa,x27,x0,x1,x1,x1,x0,x0,x1,x1,x7,x7,x7,x7,x0,x0,x28,x0,x0,x1,x1,Z,x0,x1,x1,x1,x0,x0,x1,x1,x7,x7,x7,xh,x0,x0,x29,x0,x0,x1,x1,Z,x0,x1,x1,x1,x0,x0,x1,x1,x7,x7,x7,xf,x0,x0,x3m,x0,x0,x1,x1,Z,x0,x1,x1,x1,x0,x0,x1,x1,x7,x7,xh,x0,x0,x0,Z,xh,x0,xd,x1,Z,x0,x1,x1,x1,x0,x0,x1,x1,x7,x7,xh,x0,x0,x0,Z,x7,x0,xs,x1,Z,x0,x1,x1,x1,x0,x0,x1,x1,xh,x7,xh,x0,x0,x0,Z,x7,x0,x50,x1,Z,x0,x1,x1,x1,x0,x0,x1,x1]),(5,x15),(6,xz),(7,x11),(8,x13)],
 N 58 0 [x3o,x7] 8 x3p (.t [x2b,x0]) 15 x2h,
 N 58 0 [K 3 0 8 8,xh] 9 x4z (.t [.a [K 9 0 1 1,S 10 0 4 4,S 11 0 3 2,xg],x0]) 17 [(9,C 215 [xa,x4f,Z]),(10,D 100 [x7,x0,x0,x2e,xh,x0,x0,x2f,xf,x0,x0,x2c,x5,x0,x0,x4e]),(11,x4i),(12,x1m),(13,x1p),(14,x1s),(15,x45),(16,xj)],
 N 58 0 [S 3 0 9 20,xf] 9 x5l (.t [.a [K 9 0 1 1,S 10 0 4 4,S 11 0 4 2,xg],x0]) 17 [(9,C 215 [xa,x4f,Z]),(10,D 100 [x7,x0,x0,x2e,xh,x0,x0,x2f,xf,x0,x0,x2c,x5,x0,x0,x4e]),(11,x56),(12,x1m),(13,x1p),(14,x1s),(15,x45),(16,xj)]]
theorem L7ae_t : entsB (envT EB (mkT A7)) L7ae = true := by decide +kernel
theorem L7ae_ok : AllOK L7ae := entsB_ok (like_of okA7) L7ae_t
end
end Go.Ev

/- Calls that are proved, rank 7. -/
set_option maxRecDepth 1000000
set_option maxHeartbeats 0
namespace Go.Ev
noncomputable section
def L7ak : List Ent := [
 N 186 0 [x6v,x53] 15 [(6,x55),(5,x4i),(4,D 100 [x7,x0,x0,x2i,xh,x0,x0,x1j,xf,x0,x0,x1d,x5,x0,x0,x1w,xg,x0,x0,x2d,I 6,x0,x0,x2e,I 7,x0,x0,x2f]),(13,x45),(12,x45),(11,x45),(10,x45),(9,x1s),(8,x1p),(7,x1m),(3,C 215 [xa,x2c,Z]),(14,xj)] (.t [.a [K 15 0 1 1,S 16 0 7 4,S 17 0 4 2,x3],x7,x0]) 26 [(15,C 215 [xa,x6m,Z]),(16,D 100 [x7,x0,x0,x4h,xh,x0,x0,x4d,xf,x0,x0,x5o,x5,x0,x0,x5n,xg,x0,x0,x66,I 6,x0,x0,x65,I 7,x0,x0,x6n]),(17,x56),(18,x1m),(19,x1p),(20,x1s),(21,x45),(22,x45),(23,x45),(24,x45),(25,xj)]]
theorem L7ak_t : entsB (envT EB (mkT A7)) L7ak = true := by decide +kernel
theorem L7ak_ok : AllOK L7ak := entsB_ok (like_of okA7) L7ak_t
end
end Go.Ev

/- Calls that are proved, rank 7. -/
set_option maxRecDepth 1000000
set_option maxHeartbeats 0
namespace Go.Ev
noncomputable section
def L7aq : List Ent := [
 N 186 0 [x4c,S 6 0 11 18] 21 [(6,D 102 [x7,x5,x0,x0,x29,x0,x0,x1,x1,Z,x0,x1,x1,x1,x0,x0,x1,x1,x7,xg,x0,x0,x3m,x0,x0,x1,x1,Z,x0,x1,x1,x1,x0,x0,x1,x1,x7,I 6,x0,x0,x4y,x0,x0,x1,x1,Z,x0,x1,x1,x1,x0,x0,x1,x1,x7,I 7,x0,x0,x2j,x0,x0,x1,x1,Z,x0,x1,x1,x1,x0,x0,x1,x1,x7,x3,x0,x0,x2k,x0,x0,x1,x1,Z,x0,x1,x1,x1,x0,x0,x1,x1,x7,I 9,x0,x0,x2l,x0,x0,x1,x1,Z,x0,x1,x1,x1,x0,x0,x1,x1,x7,x7d,x0,x0,x2m,x0,x0,x1,x1,Z,x0,x1,x1,x1,x0,x0,x1,x1,x7,x7l,x0,x0,x4l,x0,x0,x1,x1,Z,x0,x1,x1,x1,x0,x0,x1,x1,x7,x3u,x0,x0,x5q,x0,x0,x1,x1,Z,x0,x1,x1,x1,x0,x0,x1,x1,x7,x80,x0,x0,x68,x0,x0,x1,x1,Z,x0,x1,x1,x1,x0,x0,x1,x1,xh,x0,x0,x0,Z,x5,x0,x3y,x1,Z,x0,x1,x1,x1,x0,x0,x1,x1]),(16,x42),(15,x42),(14,x42),(13,x42),(12,x42),(11,x42),(10,x42),(9,x42),(8,x42),(7,x42),(5,D 117 [xd,xh,xs,x7]),(4,D 100 [x7,x0,x0,x4g,xh,x0,x0,x4h,xf,x0,x0,x4d]),(19,x1s),(18,x1p),(17,x1m),(3,C 215 [xa,x5o,Z]),(20,xj)] (.t [.a [K 21 0 1 1,S 22 0 13 4,S 23 0 3 2,x87],x7l,x0]) 38 [(21,C 215 [xa,K 37 0 5 5,Z]),(22,D 100 [x7,x0,x0,x6n,xh,x0,x0,x6m,xf,x0,x0,x71,x5,x0,x0,x70,xg,x0,x0,x7f,I 6,x0,x0,x7e,I 7,x0,x0,x7n,x3,x0,x0,x7m,I 9,x0,x0,x7u,x7d,x0,x0,x7t,x7l,x0,x0,x82,x3u,x0,x0,x81,x80,x0,x0,K 36 0 5 5]),(23,x4i),(24,x1m),(25,x1p),(26,x1s),(27,x45),(28,x45),(29,x45),(30,x45),(31,x45),(32,x45),(33,x45),(34,x45),(35,x45),(36,x45),(37,xj)]]
theorem L7aq_t : entsB (envT EB (mkT A7)) L7aq = true := by decide +kernel
theorem L7aq_ok : AllOK L7aq := entsB_ok (like_of okA7) L7aq_t
end
end Go.Ev

/- Calls that are proved, rank 7. -/
set_option maxRecDepth 1000000
set_option maxHeartbeats 0
namespace Go.Ev
noncomputable section
def L7aw : List Ent := [
 N 298 0 [x3o,.a [x7,xh,I 9,S 4 0 6 18,Z]] 14 [(4,D 102 [x7,x5,x0,x0,x27,x0,x0,x1,x1,Z,x0,x1,x1,x1,x0,x0,x1,x1,x7,xg,x0,x0,x28,x0,x0,x1,x1,Z,x0,x1,x1,x1,x0,x0,x1,x1,x7,I 6,x0,x0,x29,x0,x0,x1,x1,Z,x0,x1,x1,x1,x0,x0,x1,x1,x7,I 7,x0,x0,x3m,x0,x0,x1,x1,Z,x0,x1,x1,x1,x0,x0,x1,x1,x7,x3,x0,x0,x4y,x0,x0,x1,x1,Z,x0,x1,x1,x1,x0,x0,x1,x1,xh,x0,x0,x0,Z,x5,x0,x3y,x1,Z,x0,x1,x1,x1,x0,x0,x1,x1]),(9,x42),(8,x42),(7,x42),(6,x42),(5,x42),(3,D 106 [x7,x7,xf,x0,x0,x0,Z,x0,x0,x1,xa,x2j,x0,x1,x1,x1,x0,x0,x1,x1,x7,x7,x7,x7,x0,x0,x2k,x0,x0,x1,x1,Z,x0,x1,x1,x1,x0,x0,x1,x1,x7,x7,x7,xh,x0,x0,x2l,x0,x0,x1,x1,Z,x0,x1,x1,x1,x0,x0,x1,x1,x7,x7,x7,xf,x0,x0,x2m,x0,x0,x1,x1,Z,x0,x1,x1,x1,x0,x0,x1,x1,x7,x7,xh,x0,x0,x0,Z,xh,x0,xd,x1,Z,x0,x1,x1,x1,x0,x0,x1,x1,x7,x7,xh,x0,x0,x0,Z,x7,x0,xs,x1,Z,x0,x1,x1,x1,x0,x0,x1,x1]),(13,x13),(12,x11),(11,xz),(10,x15)] (.t [K 14 0 12 12,x0]) 24 [(14,C 106 [x7,x7,xf,x0,x0,x0,Z,x0,x0,x1,xa,x4e,x0,x1,x1,x1,x0,x0,x1,x1,x7,x7,x7,x7,x0,x0,x4f,x0,x0,x1,x1,Z,x0,x1,x1,x1,x0,x0,x1,x1,x7,x7,x7,xh,x0,x0,x4g,x0,x0,x1,x1,Z,x0,x1,x1,x1,x0,x0,x1,x1,x7,x7,x7,xf,x0,x0,x4h,x0,x0,x1,x1,Z,x0,x1,x1,x1,x0,x0,x1,x1,x7,x7,xh,x0,x0,x0,Z,xh,x0,xd,x1,Z,x0,x1,x1,x1,x0,x0,x1,x1,x7,x7,xh,x0,x0,x0,Z,x7,x0,xs,x1,Z,x0,x1,x1,x1,x0,x0,x1,x1,xh,x0,x7,x5,x0,x0,x4d,x0,x0,x1,x1,Z,x0,x1,x1,x1,x0,x0,x1,x1,xh,x0,x7,xg,x0,x0,x5o,x0,x0,x1,x1,Z,x0,x1,x1,x1,x0,x0,x1,x1,xh,x0,x7,I 6,x0,x0,x5n,x0,x0,x1,x1,Z,x0,x1,x1,x1,x0,x0,x1,x1,xh,x0,x7,I 7,x0,x0,x66,x0,x0,x1,x1,Z,x0,x1,x1,x1,x0,x0,x1,x1,xh,x0,x7,x3,x0,x0,x65,x0,x0,x1,x1,Z,x0,x1,x1,x1,x0,x0,x1,x1,xh,x0,xh,x0,x0,x0,Z,x5,x0,x3y,x1,Z,x0,x1,x1,x1,x0,x0,x1,x1]),(15,xj),(16,x1m),(17,x1p),(18,x1s),(19,x45),(20,x45),(21,x45),(22,x45),(23,x45)],
 N 298 0 [x3o,.a [x7,xh,x5,x58,Z]] 9 [(4,x55),(3,x3n),(8,x13),(7,x11),(6,xz),(5,x15)] (.t [K 9 0 7 7,x0]) 14 [(9,C 106 [x7,x7,xf,x0,x0,x0,Z,x0,x0,x1,xa,x1w,x0,x1,x1,x1,x0,x0,x1,x1,x7,x7,x7,x7,x0,x0,x2d,x0,x0,x1,x1,Z,x0,x1,x1,x1,x0,x0,x1,x1,x7,x7,x7,xh,x0,x0,x2e,x0,x0,x1,x1,Z,x0,x1,x1,x1,x0,x0,x1,x1,x7,x7,x7,xf,x0,x0,x2f,x0,x0,x1,x1,Z,x0,x1,x1,x1,x0,x0,x1,x1,x7,x7,xh,x0,x0,x0,Z,xh,x0,xd,x1,Z,x0,x1,x1,x1,x0,x0,x1,x1,x7,x7,xh,x0,x0,x0,Z,x7,x0,xs,x1,Z,x0,x1,x1,x1,x0,x0,x1,x1,xh,x0,xh,x0,x0,x0,Z,x7,x0,x50,x1,Z,x0,x1,x1,x1,x0,x0,x1,x1]),(10,xj),(11,x1m),(12,x1p),(13,x1s)]]
theorem L7aw_t : entsB (envT EB (mkT A7)) L7aw = true := by decide +kernel
theorem L7aw_ok : AllOK L7aw := entsB_ok (like_of okA7) L7aw_t
end
end Go.Ev

/- Calls that are proved, rank 7. -/
set_option maxRecDepth 1000000
set_option maxHeartbeats 0
namespace Go.Ev
noncomputable section
def L7bc : List Ent := [
 N 298 0 [x3o,.a [x7,xh,I 15,S 4 0 12 18,Z]] 20 [(4,D 102 [x7,x5,x0,x0,x27,x0,x0,x1,x1,Z,x0,x1,x1,x1,x0,x0,x1,x1,x7,xg,x0,x0,x28,x0,x0,x1,x1,Z,x0,x1,x1,x1,x0,x0,x1,x1,x7,I 6,x0,x0,x29,x0,x0,x1,x1,Z,x0,x1,x1,x1,x0,x0,x1,x1,x7,I 7,x0,x0,x3m,x0,x0,x1,x1,Z,x0,x1,x1,x1,x0,x0,x1,x1,x7,x3,x0,x0,x4y,x0,x0,x1,x1,Z,x0,x1,x1,x1,x0,x0,x1,x1,x7,I 9,x0,x0,x2j,x0,x0,x1,x1,Z,x0,x1,x1,x1,x0,x0,x1,x1,x7,x7d,x0,x0,x2k,x0,x0,x1,x1,Z,x0,x1,x1,x1,x0,x0,x1,x1,x7,x7l,x0,x0,x2l,x0,x0,x1,x1,Z,x0,x1,x1,x1,x0,x0,x1,x1,x7,x3u,x0,x0,x2m,x0,x0,x1,x1,Z,x0,x1,x1,x1,x0,x0,x1,x1,x7,x80,x0,x0,x4l,x0,x0,x1,x1,Z,x0,x1,x1,x1,x0,x0,x1,x1,x7,x87,x0,x0,x5q,x0,x0,x1,x1,Z,x0,x1,x1,x1,x0,x0,x1,x1,xh,x0,x0,x0,Z,x5,x0,x3y,x1,Z,x0,x1,x1,x1,x0,x0,x1,x1]),(15,x42),(14,x42),(13,x42),(12,x42),(11,x42),(10,x42),(9,x42),(8,x42),(7,x42),(6,x42),(5,x42),(3,D 106 [x7,x7,xf,x0,x0,x0,Z,x0,x0,x1,xa,x68,x0,x1,x1,x1,x0,x0,x1,x1,x7,x7,x7,x7,x0,x0,x6p,x0,x0,x1,x1,Z,x0,x1,x1,x1,x0,x0,x1,x1,x7,x7,x7,xh,x0,x0,x73,x0,x0,x1,x1,Z,x0,x1,x1,x1,x0,x0,x1,x1,x7,x7,x7,xf,x0,x0,x7h,x0,x0,x1,x1,Z,x0,x1,x1,x1,x0,x0,x1,x1,x7,x7,xh,x0,x0,x0,Z,xh,x0,xd,x1,Z,x0,x1,x1,x1,x0,x0,x1,x1,x7,x7,xh,x0,x0,x0,Z,x7,x0,xs,x1,Z,x0,x1,x1,x1,x0,x0,x1,x1]),(19,x13),(18,x11),(17,xz),(16,x15)] (.t [K 20 0 18 18,x0]) 36 [(20,C 106 [x7,x7,xf,x0,x0,x0,Z,x0,x0,x1,xa,x5n,x0,x1,x1,x1,x0,x0,x1,x1,x7,x7,x7,x7,x0,x0,x66,x0,x0,x1,x1,Z,x0,x1,x1,x1,x0,x0,x1,x1,x7,x7,x7,xh,x0,x0,x65,x0,x0,x1,x1,Z,x0,x1,x1,x1,x0,x0,x1,x1,x7,x7,x7,xf,x0,x0,x6n,x0,x0,x1,x1,Z,x0,x1,x1,x1,x0,x0,x1,x1,x7,x7,xh,x0,x0,x0,Z,xh,x0,xd,x1,Z,x0,x1,x1,x1,x0,x0,x1,x1,x7,x7,xh,x0,x0,x0,Z,x7,x0,xs,x1,Z,x0,x1,x1,x1,x0,x0,x1,x1,xh,x0,x7,x5,x0,x0,x6m,x0,x0,x1,x1,Z,x0,x1,x1,x1,x0,x0,x1,x1,xh,x0,x7,xg,x0,x0,x71,x0,x0,x1,x1,Z,x0,x1,x1,x1,x0,x0,x1,x1,xh,x0,x7,I 6,x0,x0,x70,x0,x0,x1,x1,Z,x0,x1,x1,x1,x0,x0,x1,x1,xh,x0,x7,I 7,x0,x0,x7f,x0,x0,x1,x1,Z,x0,x1,x1,x1,x0,x0,x1,x1,xh,x0,x7,x3,x0,x0,x7e,x0,x0,x1,x1,Z,x0,x1,x1,x1,x0,x0,x1,x1,xh,x0,x7,I 9,x0,x0,x7n,x0,x0,x1,x1,Z,x0,x1,x1,x1,x0,x0,x1,x1,xh,x0,x7,x7d,x0,x0,x7m,x0,x0,x1,x1,Z,x0,x1,x1,x1,x0,x0,x1,x1,xh,x0,x7,x7l,x0,x0,x7u,x0,x0,x1,x1,Z,x0,x1,x1,x1,x0,x0,x1,x1,xh,x0,x7,x3u,x0,x0,x7t,x0,x0,x1,x1,Z,x0,x1,x1,x1,x0,x0,x1,x1,xh,x0,x7,x80,x0,x0,x82,x0,x0,x1,x1,Z,x0,x1,x1,x1,x0,x0,x1,x1,xh,x0,x7,x87,x0,x0,x81,x0,x0,x1,x1,Z,x0,x1,x1,x1,x0,x0,x1,x1,xh,x0,xh,x0,x0,x0,Z,x5,x0,x3y,x1,Z,x0,x1,x1,x1,x0,x0,x1,x1]),(21,xj),(22,x1m),(23,x1p),(24,x1s),(25,x45),(26,x45),(27,x45),(28,x45),(29,x45),(30,x45),(31,x45),(32,x45),(33,x45),(34,x45),(35,x45)]]
theorem L7bc_t : entsB (envT EB (mkT A7)) L7bc = true := by decide +kernel
theorem L7bc_ok : AllOK L7bc := entsB_ok (like_of okA7) L7bc_t
end
end Go.Ev
