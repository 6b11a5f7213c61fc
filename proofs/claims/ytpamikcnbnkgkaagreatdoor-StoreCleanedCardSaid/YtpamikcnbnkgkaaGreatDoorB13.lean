/- Calls that are proved, rank 7. -/
import Derived.Test.YtpamikcnbnkgkaaGreatDoorB08
set_option linter.all false
set_option maxRecDepth 1000000
set_option maxHeartbeats 0
namespace Go.Ev
noncomputable section
def L7ae : List Ent := [
 N 37 2 [S 12 0 8 2] 13 [(12,x8b)] (.t [S 13 0 13 20,x3,x9,x0]) 25 [(13,D 104 [xc,xc,xk,x0,x0,x0,Z,x0,x0,x1,xf,x2j,x0,x1,x1,x1,x0,x0,x1,x1,xc,xc,xc,xc,x0,x0,x2k,x0,x0,x1,x1,Z,x0,x1,x1,x1,x0,x0,x1,x1,xc,xc,xc,xm,x0,x0,x2l,x0,x0,x1,x1,Z,x0,x1,x1,x1,x0,x0,x1,x1,xc,xc,xc,xk,x0,x0,x47,x0,x0,x1,x1,Z,x0,x1,x1,x1,x0,x0,x1,x1,xc,xc,xm,x0,x0,x0,Z,xm,x0,xi,x1,Z,x0,x1,x1,x1,x0,x0,x1,x1,xc,xc,xm,x0,x0,x0,Z,xc,x0,xx,x1,Z,x0,x1,x1,x1,x0,x0,x1,x1,xm,xc,xc,xc,x0,x0,x51,x0,x0,x1,x1,Z,x0,x1,x1,x1,x0,x0,x1,x1,xk,xc,xc,xc,x0,x0,x2u,x0,x0,x1,x1,Z,x0,x1,x1,x1,x0,x0,x1,x1,x9,xm,xc,xc,x0,x0,x2v,x0,x0,x1,x1,Z,x0,x1,x1,x1,x0,x0,x1,x1,xl,xm,xc,xc,x0,x0,x2w,x0,x0,x1,x1,Z,x0,x1,x1,x1,x0,x0,x1,x1,I 6,xm,xc,xc,x0,x0,x2x,x0,x0,x1,x1,Z,x0,x1,x1,x1,x0,x0,x1,x1,I 7,xk,xc,xc,x0,x0,x7i,x0,x0,x1,x1,Z,x0,x1,x1,x1,x0,x0,x1,x1,x3,xk,xc,xc,x0,x0,x84,x0,x0,x1,x1,Z,x0,x1,x1,x1,x0,x0,x1,x1]),(14,x1a),(15,x14),(16,x16),(17,x18),(18,x14),(19,x5o),(20,x6b),(21,x6t),(22,x79),(23,x7v),(24,x8c)]]
theorem L7ae_t : entsB (envT EB (mkT A7)) L7ae = true := by decide +kernel
theorem L7ae_ok : AllOK L7ae := entsB_ok (like_of okA7) L7ae_t
end
end Go.Ev
set_option maxRecDepth 1000000
set_option maxHeartbeats 0
namespace Go.Ev
noncomputable section
def L7aj : List Ent := [
 N 37 2 [S 12 0 12 2] 13 [(12,xd1)] (.t [S 13 0 17 20,xak,x9,x0]) 29 [(13,D 104 [xc,xc,xk,x0,x0,x0,Z,x0,x0,x1,xf,x2j,x0,x1,x1,x1,x0,x0,x1,x1,xc,xc,xc,xc,x0,x0,x2k,x0,x0,x1,x1,Z,x0,x1,x1,x1,x0,x0,x1,x1,xc,xc,xc,xm,x0,x0,x2l,x0,x0,x1,x1,Z,x0,x1,x1,x1,x0,x0,x1,x1,xc,xc,xc,xk,x0,x0,x47,x0,x0,x1,x1,Z,x0,x1,x1,x1,x0,x0,x1,x1,xc,xc,xm,x0,x0,x0,Z,xm,x0,xi,x1,Z,x0,x1,x1,x1,x0,x0,x1,x1,xc,xc,xm,x0,x0,x0,Z,xc,x0,xx,x1,Z,x0,x1,x1,x1,x0,x0,x1,x1,xm,xc,xc,xc,x0,x0,x51,x0,x0,x1,x1,Z,x0,x1,x1,x1,x0,x0,x1,x1,xk,xc,xc,xc,x0,x0,x2u,x0,x0,x1,x1,Z,x0,x1,x1,x1,x0,x0,x1,x1,x9,xm,xc,xc,x0,x0,x2v,x0,x0,x1,x1,Z,x0,x1,x1,x1,x0,x0,x1,x1,xl,xm,xc,xc,x0,x0,x2w,x0,x0,x1,x1,Z,x0,x1,x1,x1,x0,x0,x1,x1,I 6,xm,xc,xc,x0,x0,x2x,x0,x0,x1,x1,Z,x0,x1,x1,x1,x0,x0,x1,x1,I 7,xk,xc,xc,x0,x0,x7i,x0,x0,x1,x1,Z,x0,x1,x1,x1,x0,x0,x1,x1,x3,xk,xc,xc,x0,x0,x84,x0,x0,x1,x1,Z,x0,x1,x1,x1,x0,x0,x1,x1,I 9,xk,xc,xc,x0,x0,x8l,x0,x0,x1,x1,Z,x0,x1,x1,x1,x0,x0,x1,x1,x93,x9,xc,xc,x0,x0,x97,x0,x0,x1,x1,Z,x0,x1,x1,x1,x0,x0,x1,x1,xai,x9,xc,xc,x0,x0,xcd,x0,x0,x1,x1,Z,x0,x1,x1,x1,x0,x0,x1,x1,xak,x9,xc,xc,x0,x0,xct,x0,x0,x1,x1,Z,x0,x1,x1,x1,x0,x0,x1,x1]),(14,x1a),(15,x14),(16,x16),(17,x18),(18,x14),(19,x5o),(20,x6b),(21,x6t),(22,x79),(23,x7v),(24,x8c),(25,x8u),(26,xc4),(27,xck),(28,xd2)]]
theorem L7aj_t : entsB (envT EB (mkT A7)) L7aj = true := by decide +kernel
theorem L7aj_ok : AllOK L7aj := entsB_ok (like_of okA7) L7aj_t
end
end Go.Ev
set_option maxRecDepth 1000000
set_option maxHeartbeats 0
namespace Go.Ev
noncomputable section
def L7ao : List Ent := [
 N 37 2 x6c 13 [(12,xfp)] (.t [x5p,xaq,x9,x0]) 20 [(13,D 104 [xc,I 6,xk,x0,x0,x0,Z,x0,x0,x1,xf,x2j,x0,x1,x1,x1,x0,x0,x1,x1,xc,I 6,xc,xm,x0,x0,x2k,x0,x0,x1,x1,Z,x0,x1,x1,x1,x0,x0,x1,x1,xc,I 6,xc,xk,x0,x0,x2l,x0,x0,x1,x1,Z,x0,x1,x1,x1,x0,x0,x1,x1,xc,I 6,xm,x0,x0,x0,Z,xm,x0,xi,x1,Z,x0,x1,x1,x1,x0,x0,x1,x1,xc,I 6,xm,x0,x0,x0,Z,xc,x0,xx,x1,Z,x0,x1,x1,x1,x0,x0,x1,x1,xam,xl,xc,xc,x0,x0,x47,x0,x0,x1,x1,Z,x0,x1,x1,x1,x0,x0,x1,x1,xao,xl,xc,xc,x0,x0,x51,x0,x0,x1,x1,Z,x0,x1,x1,x1,x0,x0,x1,x1,xaq,xl,xc,xc,x0,x0,x2u,x0,x0,x1,x1,Z,x0,x1,x1,x1,x0,x0,x1,x1]),(14,x1a),(15,x16),(16,x18),(17,xef),(18,xet),(19,xf8)],
 N 58 0 [x49,xc] 17 x4a x4d 24 x2s,
 N 58 0 [S 12 0 7 20,xm] 18 x5a (.t [.a [K 18 0 1 1,S 19 0 3 4,S 20 0 2 2,x9],x0]) 25 [(18,C 215 [xf,x4q,Z]),(19,D 62 [xc,x0,x0,x2p,xm,x0,x0,x2q,xk,x0,x0,x2o]),(20,x2r),(21,x1r),(22,x1u),(23,x1x),(24,xo)],
 N 58 0 [x5q,xk] 19 x5r x5s 26 [(19,C 215 [xf,x4r,Z]),(20,D 62 [xc,x0,x0,x2q,xm,x0,x0,x2o,xk,x0,x0,x4q]),(21,x2r),(22,x5d),(23,x1u),(24,x1x),(25,xo)],
 N 58 0 [S 12 0 9 20,x9] 20 x6d (.t [.a [K 20 0 1 1,S 21 0 3 4,S 22 0 2 2,x9],x0]) 27 [(20,C 215 [xf,x4s,Z]),(21,D 62 [xc,x0,x0,x2o,xm,x0,x0,x4q,xk,x0,x0,x4r]),(22,x2r),(23,x5v),(24,x1u),(25,x1x),(26,xo)]]
theorem L7ao_t : entsB (envT EB (mkT A7)) L7ao = true := by decide +kernel
theorem L7ao_ok : AllOK L7ao := entsB_ok (like_of okA7) L7ao_t
end
end Go.Ev
set_option maxRecDepth 1000000
set_option maxHeartbeats 0
namespace Go.Ev
noncomputable section
def L7at : List Ent := [
 N 174 0 x9i 17 xdg x9j 17 [],
 N 174 0 x9i 17 xdu x9j 17 [],
 N 174 0 x9i 17 xfh x9j 17 [],
 N 174 0 x9i 17 xft x9j 17 [],
 N 186 0 [xe,S 12 0 6 18] 17 x2m (.t [x2n,I 6,x0]) 24 x2s,
 N 186 0 x4m 21 [(15,D 100 [xc,xc,x0,x0,x2t,x0,x0,x1,x1,Z,x0,x1,x1,x1,x0,x0,x1,x1]),(16,x1r),(14,x2r),(13,D 62 [xc,x0,x0,K 17 0 5 5,xm,x0,x0,x1h,xk,x0,x0,K 19 0 5 5]),(19,x1x),(18,x1u),(17,x1r),(12,C 215 [xf,K 20 0 5 5,Z]),(20,xo)] x4o 28 [(21,C 215 [xf,x4p,Z]),(22,D 62 [xc,x0,x0,x4q,xm,x0,x0,x4r,xk,x0,x0,x4s]),(23,x2r),(24,x1r),(25,x1u),(26,x1x),(27,xo)]]
theorem L7at_t : entsB (envT EB (mkT A7)) L7at = true := by decide +kernel
theorem L7at_ok : AllOK L7at := entsB_ok (like_of okA7) L7at_t
end
end Go.Ev
set_option maxRecDepth 1000000
set_option maxHeartbeats 0
namespace Go.Ev
noncomputable section
def L7ay : List Ent := [
 N 186 0 x4m 21 [(15,D 100 [xc,xc,x0,x0,x2t,x0,x0,x1,x1,Z,x0,x1,x1,x1,x0,x0,x1,x1]),(16,xa5),(14,x2r),(13,D 62 [xc,x0,x0,K 17 0 5 5,xm,x0,x0,x1h,xk,x0,x0,K 19 0 5 5]),(19,x1x),(18,x1u),(17,xex),(12,C 215 [xf,K 20 0 5 5,Z]),(20,xo)] x4o 28 xa8,
 N 298 0 [Z,x3q] 17 x2m (.t [K 17 0 6 6,x0]) 22 [(17,C 104 [xc,x0,xk,x0,x0,x0,Z,x0,x0,x1,xf,x1h,x0,x1,x1,x1,x0,x0,x1,x1,xc,x0,xc,xc,x0,x0,K 19 0 5 5,x0,x0,x1,x1,Z,x0,x1,x1,x1,x0,x0,x1,x1,xc,x0,xc,xm,x0,x0,K 20 0 5 5,x0,x0,x1,x1,Z,x0,x1,x1,x1,x0,x0,x1,x1,xc,x0,xc,xk,x0,x0,x2p,x0,x0,x1,x1,Z,x0,x1,x1,x1,x0,x0,x1,x1,xc,x0,xm,x0,x0,x0,Z,xm,x0,xi,x1,Z,x0,x1,x1,x1,x0,x0,x1,x1,xc,x0,xm,x0,x0,x0,Z,xc,x0,xx,x1,Z,x0,x1,x1,x1,x0,x0,x1,x1]),(18,xo),(19,x1r),(20,x1u),(21,x1x)],
 N 298 0 [x49,.a [xc,xm,x9,x50,Z]] 19 [(13,D 100 [xc,xc,x0,x0,x11,x0,x0,x1,x1,Z,x0,x1,x1,x1,x0,x0,x1,x1]),(14,x1r),(12,D 104 [xc,xc,xk,x0,x0,x0,Z,x0,x0,x1,xf,x2k,x0,x1,x1,x1,x0,x0,x1,x1,xc,xc,xc,xc,x0,x0,x2l,x0,x0,x1,x1,Z,x0,x1,x1,x1,x0,x0,x1,x1,xc,xc,xc,xm,x0,x0,x47,x0,x0,x1,x1,Z,x0,x1,x1,x1,x0,x0,x1,x1,xc,xc,xc,xk,x0,x0,x51,x0,x0,x1,x1,Z,x0,x1,x1,x1,x0,x0,x1,x1,xc,xc,xm,x0,x0,x0,Z,xm,x0,xi,x1,Z,x0,x1,x1,x1,x0,x0,x1,x1,xc,xc,xm,x0,x0,x0,Z,xc,x0,xx,x1,Z,x0,x1,x1,x1,x0,x0,x1,x1]),(18,x18),(17,x16),(16,x14),(15,x1a)] (.t [K 19 0 7 7,x0]) 25 [(19,C 104 [xc,xc,xk,x0,x0,x0,Z,x0,x0,x1,xf,K 20 0 5 5,x0,x1,x1,x1,x0,x0,x1,x1,xc,xc,xc,xc,x0,x0,x2p,x0,x0,x1,x1,Z,x0,x1,x1,x1,x0,x0,x1,x1,xc,xc,xc,xm,x0,x0,x2q,x0,x0,x1,x1,Z,x0,x1,x1,x1,x0,x0,x1,x1,xc,xc,xc,xk,x0,x0,x2o,x0,x0,x1,x1,Z,x0,x1,x1,x1,x0,x0,x1,x1,xc,xc,xm,x0,x0,x0,Z,xm,x0,xi,x1,Z,x0,x1,x1,x1,x0,x0,x1,x1,xc,xc,xm,x0,x0,x0,Z,xc,x0,xx,x1,Z,x0,x1,x1,x1,x0,x0,x1,x1,xm,x0,xc,xc,x0,x0,x4q,x0,x0,x1,x1,Z,x0,x1,x1,x1,x0,x0,x1,x1]),(20,xo),(21,x1r),(22,x1u),(23,x1x),(24,x1r)],
 N 298 0 [S 12 0 7 20,.a [xc,xk,x9,x50,Z]] 20 [(13,D 100 [xc,xc,x0,x0,x11,x0,x0,x1,x1,Z,x0,x1,x1,x1,x0,x0,x1,x1]),(14,x5d),(12,D 104 [xc,xc,xk,x0,x0,x0,Z,x0,x0,x1,xf,x2k,x0,x1,x1,x1,x0,x0,x1,x1,xc,xc,xc,xc,x0,x0,x2l,x0,x0,x1,x1,Z,x0,x1,x1,x1,x0,x0,x1,x1,xc,xc,xc,xm,x0,x0,x47,x0,x0,x1,x1,Z,x0,x1,x1,x1,x0,x0,x1,x1,xc,xc,xc,xk,x0,x0,x51,x0,x0,x1,x1,Z,x0,x1,x1,x1,x0,x0,x1,x1,xc,xc,xm,x0,x0,x0,Z,xm,x0,xi,x1,Z,x0,x1,x1,x1,x0,x0,x1,x1,xc,xc,xm,x0,x0,x0,Z,xc,x0,xx,x1,Z,x0,x1,x1,x1,x0,x0,x1,x1,xm,xc,xc,xc,x0,x0,x2u,x0,x0,x1,x1,Z,x0,x1,x1,x1,x0,x0,x1,x1]),(19,x14),(18,x18),(17,x16),(16,x14),(15,x1a)] (.t [K 20 0 8 8,x0]) 27 [(20,C 104 [xc,xc,xk,x0,x0,x0,Z,x0,x0,x1,xf,x2p,x0,x1,x1,x1,x0,x0,x1,x1,xc,xc,xc,xc,x0,x0,x2q,x0,x0,x1,x1,Z,x0,x1,x1,x1,x0,x0,x1,x1,xc,xc,xc,xm,x0,x0,x2o,x0,x0,x1,x1,Z,x0,x1,x1,x1,x0,x0,x1,x1,xc,xc,xc,xk,x0,x0,x4q,x0,x0,x1,x1,Z,x0,x1,x1,x1,x0,x0,x1,x1,xc,xc,xm,x0,x0,x0,Z,xm,x0,xi,x1,Z,x0,x1,x1,x1,x0,x0,x1,x1,xc,xc,xm,x0,x0,x0,Z,xc,x0,xx,x1,Z,x0,x1,x1,x1,x0,x0,x1,x1,xm,xc,xc,xc,x0,x0,x4r,x0,x0,x1,x1,Z,x0,x1,x1,x1,x0,x0,x1,x1,xk,x0,xc,xc,x0,x0,x4s,x0,x0,x1,x1,Z,x0,x1,x1,x1,x0,x0,x1,x1]),(21,xo),(22,x1r),(23,x1u),(24,x1x),(25,x1r),(26,x5d)],
 N 298 0 [x5q,.a [xc,x9,x9,x50,Z]] 21 [(13,D 100 [xc,xc,x0,x0,x11,x0,x0,x1,x1,Z,x0,x1,x1,x1,x0,x0,x1,x1]),(14,x5v),(12,D 104 [xc,xc,xk,x0,x0,x0,Z,x0,x0,x1,xf,x2k,x0,x1,x1,x1,x0,x0,x1,x1,xc,xc,xc,xc,x0,x0,x2l,x0,x0,x1,x1,Z,x0,x1,x1,x1,x0,x0,x1,x1,xc,xc,xc,xm,x0,x0,x47,x0,x0,x1,x1,Z,x0,x1,x1,x1,x0,x0,x1,x1,xc,xc,xc,xk,x0,x0,x51,x0,x0,x1,x1,Z,x0,x1,x1,x1,x0,x0,x1,x1,xc,xc,xm,x0,x0,x0,Z,xm,x0,xi,x1,Z,x0,x1,x1,x1,x0,x0,x1,x1,xc,xc,xm,x0,x0,x0,Z,xc,x0,xx,x1,Z,x0,x1,x1,x1,x0,x0,x1,x1,xm,xc,xc,xc,x0,x0,x2u,x0,x0,x1,x1,Z,x0,x1,x1,x1,x0,x0,x1,x1,xk,xc,xc,xc,x0,x0,x2v,x0,x0,x1,x1,Z,x0,x1,x1,x1,x0,x0,x1,x1]),(20,x5o),(19,x14),(18,x18),(17,x16),(16,x14),(15,x1a)] x60 29 [(21,C 104 [xc,xc,xk,x0,x0,x0,Z,x0,x0,x1,xf,x2q,x0,x1,x1,x1,x0,x0,x1,x1,xc,xc,xc,xc,x0,x0,x2o,x0,x0,x1,x1,Z,x0,x1,x1,x1,x0,x0,x1,x1,xc,xc,xc,xm,x0,x0,x4q,x0,x0,x1,x1,Z,x0,x1,x1,x1,x0,x0,x1,x1,xc,xc,xc,xk,x0,x0,x4r,x0,x0,x1,x1,Z,x0,x1,x1,x1,x0,x0,x1,x1,xc,xc,xm,x0,x0,x0,Z,xm,x0,xi,x1,Z,x0,x1,x1,x1,x0,x0,x1,x1,xc,xc,xm,x0,x0,x0,Z,xc,x0,xx,x1,Z,x0,x1,x1,x1,x0,x0,x1,x1,xm,xc,xc,xc,x0,x0,x4s,x0,x0,x1,x1,Z,x0,x1,x1,x1,x0,x0,x1,x1,xk,xc,xc,xc,x0,x0,x4p,x0,x0,x1,x1,Z,x0,x1,x1,x1,x0,x0,x1,x1,x9,x0,xc,xc,x0,x0,x61,x0,x0,x1,x1,Z,x0,x1,x1,x1,x0,x0,x1,x1]),(22,xo),(23,x1r),(24,x1u),(25,x1x),(26,x1r),(27,x5d),(28,x5v)]]
theorem L7ay_t : entsB (envT EB (mkT A7)) L7ay = true := by decide +kernel
theorem L7ay_ok : AllOK L7ay := entsB_ok (like_of okA7) L7ay_t
end
end Go.Ev
