/- Calls that are proved, rank 7. -/
import Derived.Test.YtpamikcnbnkgkaaGreatDoorB08
set_option linter.all false
set_option maxRecDepth 1000000
set_option maxHeartbeats 0
namespace Go.Ev
noncomputable section
def L7ac : List Ent := [
 N 37 2 [S 12 0 6 2] 13 [(12,x78)] (.t [S 13 0 11 20,I 6,x9,x0]) 23 [(13,D 104 [xc,xc,xk,x0,x0,x0,Z,x0,x0,x1,xf,x2j,x0,x1,x1,x1,x0,x0,x1,x1,xc,xc,xc,xc,x0,x0,x2k,x0,x0,x1,x1,Z,x0,x1,x1,x1,x0,x0,x1,x1,xc,xc,xc,xm,x0,x0,x2l,x0,x0,x1,x1,Z,x0,x1,x1,x1,x0,x0,x1,x1,xc,xc,xc,xk,x0,x0,x47,x0,x0,x1,x1,Z,x0,x1,x1,x1,x0,x0,x1,x1,xc,xc,xm,x0,x0,x0,Z,xm,x0,xi,x1,Z,x0,x1,x1,x1,x0,x0,x1,x1,xc,xc,xm,x0,x0,x0,Z,xc,x0,xx,x1,Z,x0,x1,x1,x1,x0,x0,x1,x1,xm,xc,xc,xc,x0,x0,x51,x0,x0,x1,x1,Z,x0,x1,x1,x1,x0,x0,x1,x1,xk,xc,xc,xc,x0,x0,x2u,x0,x0,x1,x1,Z,x0,x1,x1,x1,x0,x0,x1,x1,x9,xm,xc,xc,x0,x0,x2v,x0,x0,x1,x1,Z,x0,x1,x1,x1,x0,x0,x1,x1,xl,xm,xc,xc,x0,x0,x2w,x0,x0,x1,x1,Z,x0,x1,x1,x1,x0,x0,x1,x1,I 6,xm,xc,xc,x0,x0,x2x,x0,x0,x1,x1,Z,x0,x1,x1,x1,x0,x0,x1,x1]),(14,x1a),(15,x14),(16,x16),(17,x18),(18,x14),(19,x5o),(20,x6b),(21,x6t),(22,x79)]]
theorem L7ac_t : entsB (envT EB (mkT A7)) L7ac = true := by decide +kernel
theorem L7ac_ok : AllOK L7ac := entsB_ok (like_of okA7) L7ac_t
end
end Go.Ev
set_option maxRecDepth 1000000
set_option maxHeartbeats 0
namespace Go.Ev
noncomputable section
def L7ah : List Ent := [
 N 37 2 [S 12 0 10 2] 13 [(12,xc3)] (.t [S 13 0 15 20,x93,x9,x0]) 27 [(13,D 104 [xc,xc,xk,x0,x0,x0,Z,x0,x0,x1,xf,x2j,x0,x1,x1,x1,x0,x0,x1,x1,xc,xc,xc,xc,x0,x0,x2k,x0,x0,x1,x1,Z,x0,x1,x1,x1,x0,x0,x1,x1,xc,xc,xc,xm,x0,x0,x2l,x0,x0,x1,x1,Z,x0,x1,x1,x1,x0,x0,x1,x1,xc,xc,xc,xk,x0,x0,x47,x0,x0,x1,x1,Z,x0,x1,x1,x1,x0,x0,x1,x1,xc,xc,xm,x0,x0,x0,Z,xm,x0,xi,x1,Z,x0,x1,x1,x1,x0,x0,x1,x1,xc,xc,xm,x0,x0,x0,Z,xc,x0,xx,x1,Z,x0,x1,x1,x1,x0,x0,x1,x1,xm,xc,xc,xc,x0,x0,x51,x0,x0,x1,x1,Z,x0,x1,x1,x1,x0,x0,x1,x1,xk,xc,xc,xc,x0,x0,x2u,x0,x0,x1,x1,Z,x0,x1,x1,x1,x0,x0,x1,x1,x9,xm,xc,xc,x0,x0,x2v,x0,x0,x1,x1,Z,x0,x1,x1,x1,x0,x0,x1,x1,xl,xm,xc,xc,x0,x0,x2w,x0,x0,x1,x1,Z,x0,x1,x1,x1,x0,x0,x1,x1,I 6,xm,xc,xc,x0,x0,x2x,x0,x0,x1,x1,Z,x0,x1,x1,x1,x0,x0,x1,x1,I 7,xk,xc,xc,x0,x0,x7i,x0,x0,x1,x1,Z,x0,x1,x1,x1,x0,x0,x1,x1,x3,xk,xc,xc,x0,x0,x84,x0,x0,x1,x1,Z,x0,x1,x1,x1,x0,x0,x1,x1,I 9,xk,xc,xc,x0,x0,x8l,x0,x0,x1,x1,Z,x0,x1,x1,x1,x0,x0,x1,x1,x93,x9,xc,xc,x0,x0,x97,x0,x0,x1,x1,Z,x0,x1,x1,x1,x0,x0,x1,x1]),(14,x1a),(15,x14),(16,x16),(17,x18),(18,x14),(19,x5o),(20,x6b),(21,x6t),(22,x79),(23,x7v),(24,x8c),(25,x8u),(26,xc4)]]
theorem L7ah_t : entsB (envT EB (mkT A7)) L7ah = true := by decide +kernel
theorem L7ah_ok : AllOK L7ah := entsB_ok (like_of okA7) L7ah_t
end
end Go.Ev
set_option maxRecDepth 1000000
set_option maxHeartbeats 0
namespace Go.Ev
noncomputable section
def L7am : List Ent := [
 N 37 2 [S 12 0 14 2] 13 [(12,xes)] (.t [S 13 0 19 20,xao,x9,x0]) 31 [(13,D 104 [xc,xc,xk,x0,x0,x0,Z,x0,x0,x1,xf,x2j,x0,x1,x1,x1,x0,x0,x1,x1,xc,xc,xc,xc,x0,x0,x2k,x0,x0,x1,x1,Z,x0,x1,x1,x1,x0,x0,x1,x1,xc,xc,xc,xm,x0,x0,x2l,x0,x0,x1,x1,Z,x0,x1,x1,x1,x0,x0,x1,x1,xc,xc,xc,xk,x0,x0,x47,x0,x0,x1,x1,Z,x0,x1,x1,x1,x0,x0,x1,x1,xc,xc,xm,x0,x0,x0,Z,xm,x0,xi,x1,Z,x0,x1,x1,x1,x0,x0,x1,x1,xc,xc,xm,x0,x0,x0,Z,xc,x0,xx,x1,Z,x0,x1,x1,x1,x0,x0,x1,x1,xm,xc,xc,xc,x0,x0,x51,x0,x0,x1,x1,Z,x0,x1,x1,x1,x0,x0,x1,x1,xk,xc,xc,xc,x0,x0,x2u,x0,x0,x1,x1,Z,x0,x1,x1,x1,x0,x0,x1,x1,x9,xm,xc,xc,x0,x0,x2v,x0,x0,x1,x1,Z,x0,x1,x1,x1,x0,x0,x1,x1,xl,xm,xc,xc,x0,x0,x2w,x0,x0,x1,x1,Z,x0,x1,x1,x1,x0,x0,x1,x1,I 6,xm,xc,xc,x0,x0,x2x,x0,x0,x1,x1,Z,x0,x1,x1,x1,x0,x0,x1,x1,I 7,xk,xc,xc,x0,x0,x7i,x0,x0,x1,x1,Z,x0,x1,x1,x1,x0,x0,x1,x1,x3,xk,xc,xc,x0,x0,x84,x0,x0,x1,x1,Z,x0,x1,x1,x1,x0,x0,x1,x1,I 9,xk,xc,xc,x0,x0,x8l,x0,x0,x1,x1,Z,x0,x1,x1,x1,x0,x0,x1,x1,x93,x9,xc,xc,x0,x0,x97,x0,x0,x1,x1,Z,x0,x1,x1,x1,x0,x0,x1,x1,xai,x9,xc,xc,x0,x0,xcd,x0,x0,x1,x1,Z,x0,x1,x1,x1,x0,x0,x1,x1,xak,x9,xc,xc,x0,x0,xct,x0,x0,x1,x1,Z,x0,x1,x1,x1,x0,x0,x1,x1,xam,xl,xc,xc,x0,x0,xde,x0,x0,x1,x1,Z,x0,x1,x1,x1,x0,x0,x1,x1,xao,xl,xc,xc,x0,x0,xeo,x0,x0,x1,x1,Z,x0,x1,x1,x1,x0,x0,x1,x1]),(14,x1a),(15,x14),(16,x16),(17,x18),(18,x14),(19,x5o),(20,x6b),(21,x6t),(22,x79),(23,x7v),(24,x8c),(25,x8u),(26,xc4),(27,xck),(28,xd2),(29,xef),(30,xet)]]
theorem L7am_t : entsB (envT EB (mkT A7)) L7am = true := by decide +kernel
theorem L7am_ok : AllOK L7am := entsB_ok (like_of okA7) L7am_t
end
end Go.Ev
set_option maxRecDepth 1000000
set_option maxHeartbeats 0
namespace Go.Ev
noncomputable section
def L7ar : List Ent := [
 N 58 0 [S 12 0 18 20,xam] 29 xeg (.t [.a [K 29 0 1 1,S 30 0 3 4,S 31 0 2 2,x9],x0]) 36 [(29,C 215 [xf,x85,Z]),(30,D 62 [xc,x0,x0,x73,xm,x0,x0,x7j,xk,x0,x0,x7k]),(31,x2r),(32,xd6),(33,x1u),(34,x1x),(35,xo)],
 N 58 0 [S 12 0 19 20,xao] 30 xeu (.t [.a [K 30 0 1 1,S 31 0 3 4,S 32 0 2 2,x9],x0]) 37 [(30,C 215 [xf,x86,Z]),(31,D 62 [xc,x0,x0,x7j,xm,x0,x0,x7k,xk,x0,x0,x85]),(32,x2r),(33,xej),(34,x1u),(35,x1x),(36,xo)],
 N 58 0 [S 12 0 20 20,xaq] 31 xf9 (.t [.a [K 31 0 1 1,S 32 0 3 4,S 33 0 2 2,x9],x0]) 38 [(31,C 215 [xf,x8m,Z]),(32,D 62 [xc,x0,x0,x7k,xm,x0,x0,x85,xk,x0,x0,x86]),(33,x2r),(34,xex),(35,x1u),(36,x1x),(37,xo)],
 N 58 0 [x5q,xaq] 19 xfr x5s 26 [(19,C 215 [xf,x4r,Z]),(20,D 62 [xc,x0,x0,x2q,xm,x0,x0,x2o,xk,x0,x0,x4q]),(21,x2r),(22,xex),(23,x1u),(24,x1x),(25,xo)],
 N 74 0 [S 12 0 3 2,x48,x3,xc] 18 x9h (.t [S 18 0 2 1,S 19 0 5 20,x0]) 23 [(18,D 3 [xc,xm]),(19,D 104 [xc,xc,xk,x0,x0,x0,Z,x0,x0,x1,xf,x2v,x0,x1,x1,x1,x0,x0,x1,x1,xc,xc,xc,xm,x0,x0,x2p,x0,x0,x1,x1,Z,x0,x1,x1,x1,x0,x0,x1,x1,xc,xc,xc,xk,x0,x0,x2q,x0,x0,x1,x1,Z,x0,x1,x1,x1,x0,x0,x1,x1,xc,xc,xm,x0,x0,x0,Z,xm,x0,xi,x1,Z,x0,x1,x1,x1,x0,x0,x1,x1,xc,xc,xm,x0,x0,x0,Z,xc,x0,xx,x1,Z,x0,x1,x1,x1,x0,x0,x1,x1]),(20,x1a),(21,x1u),(22,x1x)]]
theorem L7ar_t : entsB (envT EB (mkT A7)) L7ar = true := by decide +kernel
theorem L7ar_ok : AllOK L7ar := entsB_ok (like_of okA7) L7ar_t
end
end Go.Ev
set_option maxRecDepth 1000000
set_option maxHeartbeats 0
namespace Go.Ev
noncomputable section
def L7aw : List Ent := [
 N 186 0 x4m 21 [(15,D 100 [xc,xc,x0,x0,x2t,x0,x0,x1,x1,Z,x0,x1,x1,x1,x0,x0,x1,x1]),(16,xa5),(14,x2r),(13,D 62 [xc,x0,x0,K 17 0 5 5,xm,x0,x0,x1h,xk,x0,x0,K 19 0 5 5]),(19,x1x),(18,x1u),(17,x8g),(12,C 215 [xf,K 20 0 5 5,Z]),(20,xo)] x4o 28 xa8,
 N 186 0 x4m 21 [(15,D 100 [xc,xc,x0,x0,x2t,x0,x0,x1,x1,Z,x0,x1,x1,x1,x0,x0,x1,x1]),(16,xc8),(14,x2r),(13,D 62 [xc,x0,x0,K 17 0 5 5,xm,x0,x0,x1h,xk,x0,x0,K 19 0 5 5]),(19,x1x),(18,x1u),(17,x8y),(12,C 215 [xf,K 20 0 5 5,Z]),(20,xo)] x4o 28 [(21,C 215 [xf,x4p,Z]),(22,D 62 [xc,x0,x0,x4q,xm,x0,x0,x4r,xk,x0,x0,x4s]),(23,x2r),(24,xc8),(25,x1u),(26,x1x),(27,xo)],
 N 186 0 x4m 21 [(15,D 100 [xc,xc,x0,x0,x2t,x0,x0,x1,x1,Z,x0,x1,x1,x1,x0,x0,x1,x1]),(16,xco),(14,x2r),(13,D 62 [xc,x0,x0,K 17 0 5 5,xm,x0,x0,x1h,xk,x0,x0,K 19 0 5 5]),(19,x1x),(18,x1u),(17,xc8),(12,C 215 [xf,K 20 0 5 5,Z]),(20,xo)] x4o 28 [(21,C 215 [xf,x4p,Z]),(22,D 62 [xc,x0,x0,x4q,xm,x0,x0,x4r,xk,x0,x0,x4s]),(23,x2r),(24,xco),(25,x1u),(26,x1x),(27,xo)],
 N 186 0 x4m 21 [(15,D 100 [xc,xc,x0,x0,x2t,x0,x0,x1,x1,Z,x0,x1,x1,x1,x0,x0,x1,x1]),(16,xd6),(14,x2r),(13,D 62 [xc,x0,x0,K 17 0 5 5,xm,x0,x0,x1h,xk,x0,x0,K 19 0 5 5]),(19,x1x),(18,x1u),(17,xco),(12,C 215 [xf,K 20 0 5 5,Z]),(20,xo)] x4o 28 [(21,C 215 [xf,x4p,Z]),(22,D 62 [xc,x0,x0,x4q,xm,x0,x0,x4r,xk,x0,x0,x4s]),(23,x2r),(24,xd6),(25,x1u),(26,x1x),(27,xo)]]
theorem L7aw_t : entsB (envT EB (mkT A7)) L7aw = true := by decide +kernel
theorem L7aw_ok : AllOK L7aw := entsB_ok (like_of okA7) L7aw_t
end
end Go.Ev
set_option maxRecDepth 1000000
set_option maxHeartbeats 0
namespace Go.Ev
noncomputable section
def L7bb : List Ent := [
 N 298 0 [S 12 0 17 20,xdd] 30 [(13,D 100 [xc,xc,x0,x0,x11,x0,x0,x1,x1,Z,x0,x1,x1,x1,x0,x0,x1,x1]),(14,xd6),(12,D 104 [xc,xc,xk,x0,x0,x0,Z,x0,x0,x1,xf,x2k,x0,x1,x1,x1,x0,x0,x1,x1,xc,xc,xc,xc,x0,x0,x2l,x0,x0,x1,x1,Z,x0,x1,x1,x1,x0,x0,x1,x1,xc,xc,xc,xm,x0,x0,x47,x0,x0,x1,x1,Z,x0,x1,x1,x1,x0,x0,x1,x1,xc,xc,xc,xk,x0,x0,x51,x0,x0,x1,x1,Z,x0,x1,x1,x1,x0,x0,x1,x1,xc,xc,xm,x0,x0,x0,Z,xm,x0,xi,x1,Z,x0,x1,x1,x1,x0,x0,x1,x1,xc,xc,xm,x0,x0,x0,Z,xc,x0,xx,x1,Z,x0,x1,x1,x1,x0,x0,x1,x1,xm,xc,xc,xc,x0,x0,x2u,x0,x0,x1,x1,Z,x0,x1,x1,x1,x0,x0,x1,x1,xk,xc,xc,xc,x0,x0,x2v,x0,x0,x1,x1,Z,x0,x1,x1,x1,x0,x0,x1,x1,x9,xm,xc,xc,x0,x0,x2w,x0,x0,x1,x1,Z,x0,x1,x1,x1,x0,x0,x1,x1,xl,xm,xc,xc,x0,x0,x2x,x0,x0,x1,x1,Z,x0,x1,x1,x1,x0,x0,x1,x1,I 6,xm,xc,xc,x0,x0,x7i,x0,x0,x1,x1,Z,x0,x1,x1,x1,x0,x0,x1,x1,I 7,xk,xc,xc,x0,x0,x84,x0,x0,x1,x1,Z,x0,x1,x1,x1,x0,x0,x1,x1,x3,xk,xc,xc,x0,x0,x8l,x0,x0,x1,x1,Z,x0,x1,x1,x1,x0,x0,x1,x1,I 9,xk,xc,xc,x0,x0,x97,x0,x0,x1,x1,Z,x0,x1,x1,x1,x0,x0,x1,x1,x93,x9,xc,xc,x0,x0,xcd,x0,x0,x1,x1,Z,x0,x1,x1,x1,x0,x0,x1,x1,xai,x9,xc,xc,x0,x0,xct,x0,x0,x1,x1,Z,x0,x1,x1,x1,x0,x0,x1,x1,xak,x9,xc,xc,x0,x0,xde,x0,x0,x1,x1,Z,x0,x1,x1,x1,x0,x0,x1,x1]),(29,xd2),(28,xck),(27,xc4),(26,x8u),(25,x8c),(24,x7v),(23,x79),(22,x6t),(21,x6b),(20,x5o),(19,x14),(18,x18),(17,x16),(16,x14),(15,x1a)] (.t [K 30 0 18 18,x0]) 47 [(30,C 104 [xc,xc,xk,x0,x0,x0,Z,x0,x0,x1,xf,x72,x0,x1,x1,x1,x0,x0,x1,x1,xc,xc,xc,xc,x0,x0,x73,x0,x0,x1,x1,Z,x0,x1,x1,x1,x0,x0,x1,x1,xc,xc,xc,xm,x0,x0,x7j,x0,x0,x1,x1,Z,x0,x1,x1,x1,x0,x0,x1,x1,xc,xc,xc,xk,x0,x0,x7k,x0,x0,x1,x1,Z,x0,x1,x1,x1,x0,x0,x1,x1,xc,xc,xm,x0,x0,x0,Z,xm,x0,xi,x1,Z,x0,x1,x1,x1,x0,x0,x1,x1,xc,xc,xm,x0,x0,x0,Z,xc,x0,xx,x1,Z,x0,x1,x1,x1,x0,x0,x1,x1,xm,xc,xc,xc,x0,x0,x85,x0,x0,x1,x1,Z,x0,x1,x1,x1,x0,x0,x1,x1,xk,xc,xc,xc,x0,x0,x86,x0,x0,x1,x1,Z,x0,x1,x1,x1,x0,x0,x1,x1,x9,xm,xc,xc,x0,x0,x8m,x0,x0,x1,x1,Z,x0,x1,x1,x1,x0,x0,x1,x1,xl,xm,xc,xc,x0,x0,x8n,x0,x0,x1,x1,Z,x0,x1,x1,x1,x0,x0,x1,x1,I 6,xm,xc,xc,x0,x0,x98,x0,x0,x1,x1,Z,x0,x1,x1,x1,x0,x0,x1,x1,I 7,xk,xc,xc,x0,x0,x99,x0,x0,x1,x1,Z,x0,x1,x1,x1,x0,x0,x1,x1,x3,xk,xc,xc,x0,x0,xce,x0,x0,x1,x1,Z,x0,x1,x1,x1,x0,x0,x1,x1,I 9,xk,xc,xc,x0,x0,xcf,x0,x0,x1,x1,Z,x0,x1,x1,x1,x0,x0,x1,x1,x93,x9,xc,xc,x0,x0,xcu,x0,x0,x1,x1,Z,x0,x1,x1,x1,x0,x0,x1,x1,xai,x9,xc,xc,x0,x0,xcv,x0,x0,x1,x1,Z,x0,x1,x1,x1,x0,x0,x1,x1,xak,x9,xc,xc,x0,x0,K 45 0 5 5,x0,x0,x1,x1,Z,x0,x1,x1,x1,x0,x0,x1,x1,xam,x0,xc,xc,x0,x0,K 46 0 5 5,x0,x0,x1,x1,Z,x0,x1,x1,x1,x0,x0,x1,x1]),(31,xo),(32,x1r),(33,x1u),(34,x1x),(35,x1r),(36,x5d),(37,x5v),(38,x6g),(39,x6x),(40,x7d),(41,x7z),(42,x8g),(43,x8y),(44,xc8),(45,xco),(46,xd6)],
 N 298 0 [x5q,xdd] 21 [(13,D 100 [xc,xc,x0,x0,x11,x0,x0,x1,x1,Z,x0,x1,x1,x1,x0,x0,x1,x1]),(14,xa5),(12,D 104 [xc,xl,xk,x0,x0,x0,Z,x0,x0,x1,xf,x2k,x0,x1,x1,x1,x0,x0,x1,x1,xc,xl,xc,xm,x0,x0,x2l,x0,x0,x1,x1,Z,x0,x1,x1,x1,x0,x0,x1,x1,xc,xl,xc,xk,x0,x0,x47,x0,x0,x1,x1,Z,x0,x1,x1,x1,x0,x0,x1,x1,xc,xl,xm,x0,x0,x0,Z,xm,x0,xi,x1,Z,x0,x1,x1,x1,x0,x0,x1,x1,xc,xl,xm,x0,x0,x0,Z,xc,x0,xx,x1,Z,x0,x1,x1,x1,x0,x0,x1,x1,x93,x9,xc,xc,x0,x0,x51,x0,x0,x1,x1,Z,x0,x1,x1,x1,x0,x0,x1,x1,xai,x9,xc,xc,x0,x0,x2u,x0,x0,x1,x1,Z,x0,x1,x1,x1,x0,x0,x1,x1,xak,x9,xc,xc,x0,x0,x2v,x0,x0,x1,x1,Z,x0,x1,x1,x1,x0,x0,x1,x1]),(20,xd2),(19,xck),(18,xc4),(17,x18),(16,x16),(15,x1a)] x60 29 [(21,C 104 [xc,xl,xk,x0,x0,x0,Z,x0,x0,x1,xf,x2q,x0,x1,x1,x1,x0,x0,x1,x1,xc,xl,xc,xm,x0,x0,x2o,x0,x0,x1,x1,Z,x0,x1,x1,x1,x0,x0,x1,x1,xc,xl,xc,xk,x0,x0,x4q,x0,x0,x1,x1,Z,x0,x1,x1,x1,x0,x0,x1,x1,xc,xl,xm,x0,x0,x0,Z,xm,x0,xi,x1,Z,x0,x1,x1,x1,x0,x0,x1,x1,xc,xl,xm,x0,x0,x0,Z,xc,x0,xx,x1,Z,x0,x1,x1,x1,x0,x0,x1,x1,x93,x9,xc,xc,x0,x0,x4r,x0,x0,x1,x1,Z,x0,x1,x1,x1,x0,x0,x1,x1,xai,x9,xc,xc,x0,x0,x4s,x0,x0,x1,x1,Z,x0,x1,x1,x1,x0,x0,x1,x1,xak,x9,xc,xc,x0,x0,x4p,x0,x0,x1,x1,Z,x0,x1,x1,x1,x0,x0,x1,x1,xam,x0,xc,xc,x0,x0,x61,x0,x0,x1,x1,Z,x0,x1,x1,x1,x0,x0,x1,x1]),(22,xo),(23,x1u),(24,x1x),(25,x8y),(26,xc8),(27,xco),(28,xa5)],
 N 298 0 [S 12 0 18 20,.a [xc,xao,x9,x50,Z]] 31 [(13,D 100 [xc,xc,x0,x0,x11,x0,x0,x1,x1,Z,x0,x1,x1,x1,x0,x0,x1,x1]),(14,xej),(12,D 104 [xc,xc,xk,x0,x0,x0,Z,x0,x0,x1,xf,x2k,x0,x1,x1,x1,x0,x0,x1,x1,xc,xc,xc,xc,x0,x0,x2l,x0,x0,x1,x1,Z,x0,x1,x1,x1,x0,x0,x1,x1,xc,xc,xc,xm,x0,x0,x47,x0,x0,x1,x1,Z,x0,x1,x1,x1,x0,x0,x1,x1,xc,xc,xc,xk,x0,x0,x51,x0,x0,x1,x1,Z,x0,x1,x1,x1,x0,x0,x1,x1,xc,xc,xm,x0,x0,x0,Z,xm,x0,xi,x1,Z,x0,x1,x1,x1,x0,x0,x1,x1,xc,xc,xm,x0,x0,x0,Z,xc,x0,xx,x1,Z,x0,x1,x1,x1,x0,x0,x1,x1,xm,xc,xc,xc,x0,x0,x2u,x0,x0,x1,x1,Z,x0,x1,x1,x1,x0,x0,x1,x1,xk,xc,xc,xc,x0,x0,x2v,x0,x0,x1,x1,Z,x0,x1,x1,x1,x0,x0,x1,x1,x9,xm,xc,xc,x0,x0,x2w,x0,x0,x1,x1,Z,x0,x1,x1,x1,x0,x0,x1,x1,xl,xm,xc,xc,x0,x0,x2x,x0,x0,x1,x1,Z,x0,x1,x1,x1,x0,x0,x1,x1,I 6,xm,xc,xc,x0,x0,x7i,x0,x0,x1,x1,Z,x0,x1,x1,x1,x0,x0,x1,x1,I 7,xk,xc,xc,x0,x0,x84,x0,x0,x1,x1,Z,x0,x1,x1,x1,x0,x0,x1,x1,x3,xk,xc,xc,x0,x0,x8l,x0,x0,x1,x1,Z,x0,x1,x1,x1,x0,x0,x1,x1,I 9,xk,xc,xc,x0,x0,x97,x0,x0,x1,x1,Z,x0,x1,x1,x1,x0,x0,x1,x1,x93,x9,xc,xc,x0,x0,xcd,x0,x0,x1,x1,Z,x0,x1,x1,x1,x0,x0,x1,x1,xai,x9,xc,xc,x0,x0,xct,x0,x0,x1,x1,Z,x0,x1,x1,x1,x0,x0,x1,x1,xak,x9,xc,xc,x0,x0,xde,x0,x0,x1,x1,Z,x0,x1,x1,x1,x0,x0,x1,x1,xam,xl,xc,xc,x0,x0,xeo,x0,x0,x1,x1,Z,x0,x1,x1,x1,x0,x0,x1,x1]),(30,xef),(29,xd2),(28,xck),(27,xc4),(26,x8u),(25,x8c),(24,x7v),(23,x79),(22,x6t),(21,x6b),(20,x5o),(19,x14),(18,x18),(17,x16),(16,x14),(15,x1a)] (.t [K 31 0 19 19,x0]) 49 [(31,C 104 [xc,xc,xk,x0,x0,x0,Z,x0,x0,x1,xf,x73,x0,x1,x1,x1,x0,x0,x1,x1,xc,xc,xc,xc,x0,x0,x7j,x0,x0,x1,x1,Z,x0,x1,x1,x1,x0,x0,x1,x1,xc,xc,xc,xm,x0,x0,x7k,x0,x0,x1,x1,Z,x0,x1,x1,x1,x0,x0,x1,x1,xc,xc,xc,xk,x0,x0,x85,x0,x0,x1,x1,Z,x0,x1,x1,x1,x0,x0,x1,x1,xc,xc,xm,x0,x0,x0,Z,xm,x0,xi,x1,Z,x0,x1,x1,x1,x0,x0,x1,x1,xc,xc,xm,x0,x0,x0,Z,xc,x0,xx,x1,Z,x0,x1,x1,x1,x0,x0,x1,x1,xm,xc,xc,xc,x0,x0,x86,x0,x0,x1,x1,Z,x0,x1,x1,x1,x0,x0,x1,x1,xk,xc,xc,xc,x0,x0,x8m,x0,x0,x1,x1,Z,x0,x1,x1,x1,x0,x0,x1,x1,x9,xm,xc,xc,x0,x0,x8n,x0,x0,x1,x1,Z,x0,x1,x1,x1,x0,x0,x1,x1,xl,xm,xc,xc,x0,x0,x98,x0,x0,x1,x1,Z,x0,x1,x1,x1,x0,x0,x1,x1,I 6,xm,xc,xc,x0,x0,x99,x0,x0,x1,x1,Z,x0,x1,x1,x1,x0,x0,x1,x1,I 7,xk,xc,xc,x0,x0,xce,x0,x0,x1,x1,Z,x0,x1,x1,x1,x0,x0,x1,x1,x3,xk,xc,xc,x0,x0,xcf,x0,x0,x1,x1,Z,x0,x1,x1,x1,x0,x0,x1,x1,I 9,xk,xc,xc,x0,x0,xcu,x0,x0,x1,x1,Z,x0,x1,x1,x1,x0,x0,x1,x1,x93,x9,xc,xc,x0,x0,xcv,x0,x0,x1,x1,Z,x0,x1,x1,x1,x0,x0,x1,x1,xai,x9,xc,xc,x0,x0,K 45 0 5 5,x0,x0,x1,x1,Z,x0,x1,x1,x1,x0,x0,x1,x1,xak,x9,xc,xc,x0,x0,K 46 0 5 5,x0,x0,x1,x1,Z,x0,x1,x1,x1,x0,x0,x1,x1,xam,xl,xc,xc,x0,x0,K 47 0 5 5,x0,x0,x1,x1,Z,x0,x1,x1,x1,x0,x0,x1,x1,xao,x0,xc,xc,x0,x0,K 48 0 5 5,x0,x0,x1,x1,Z,x0,x1,x1,x1,x0,x0,x1,x1]),(32,xo),(33,x1r),(34,x1u),(35,x1x),(36,x1r),(37,x5d),(38,x5v),(39,x6g),(40,x6x),(41,x7d),(42,x7z),(43,x8g),(44,x8y),(45,xc8),(46,xco),(47,xd6),(48,xej)]]
theorem L7bb_t : entsB (envT EB (mkT A7)) L7bb = true := by decide +kernel
theorem L7bb_ok : AllOK L7bb := entsB_ok (like_of okA7) L7bb_t
end
end Go.Ev
