/- All calls up to rank 4. -/
import Derived.Test.YtpamikcnbnkgkaaGreatDoorB06
set_option linter.all false
set_option maxRecDepth 1000000
set_option maxHeartbeats 0
namespace Go.Ev
noncomputable section
def A5 : List Ent := L4aa ++ A4
theorem okA5 : AllOK A5 := (L4aa_ok.app okA4)
end
end Go.Ev
set_option maxRecDepth 1000000
set_option maxHeartbeats 0
namespace Go.Ev
noncomputable section
def L5aa : List Ent := [
 N 40 0 x1c 14 [(12,C 104 x3e),(13,xo)] xd 14 [],
 N 40 0 x1c 14 [(12,C 104 x3r),(13,x1a)] xd 14 [],
 N 55 0 x26 15 x27 x28 16 [(15,x1r)],
 N 55 0 [x1d,.a [xm,x0,x0,xz]] 15 [(13,x1u),(12,C 215 [xf,x11,Z]),(14,xo)] x2a 16 [(15,x1u)],
 N 55 0 [x1d,.a [xk,x0,x0,xz]] 15 [(13,x1x),(12,C 215 [xf,x11,Z]),(14,xo)] x2c 16 [(15,x1x)],
 N 55 0 x1k 15 x1l x28 16 [(15,x1r)],
 N 55 0 [x1d,.a [xm,x0,x0,x12]] 15 x1n x2a 16 [(15,x1u)],
 N 55 0 [x1d,.a [xk,x0,x0,x12]] 15 x1o x2c 16 [(15,x1x)],
 N 55 0 x26 15 x5e x28 16 [(15,x5d)],
 N 55 0 x1k 15 [(13,x5o),(12,C 215 [xf,x11,Z]),(14,xo)] x28 16 [(15,x5d)],
 N 55 0 x26 15 x5w x28 16 [(15,x5v)],
 N 55 0 x1k 15 [(13,x6b),(12,C 215 [xf,x11,Z]),(14,xo)] x28 16 [(15,x5v)],
 N 55 0 x26 15 x6h x28 16 [(15,x6g)]]
theorem L5aa_t : entsB (envT EB (mkT A5)) L5aa = true := by decide +kernel
theorem L5aa_ok : AllOK L5aa := entsB_ok (like_of okA5) L5aa_t
end
end Go.Ev
set_option maxRecDepth 1000000
set_option maxHeartbeats 0
namespace Go.Ev
noncomputable section
def L5ab : List Ent := [
 N 55 0 x1k 15 [(13,x6t),(12,C 215 [xf,x11,Z]),(14,xo)] x28 16 [(15,x6g)],
 N 55 0 x26 15 x6y x28 16 [(15,x6x)],
 N 55 0 x1k 15 [(13,x79),(12,C 215 [xf,x11,Z]),(14,xo)] x28 16 [(15,x6x)],
 N 55 0 x26 15 x7e x28 16 [(15,x7d)],
 N 55 0 x1k 15 [(13,x7v),(12,C 215 [xf,x11,Z]),(14,xo)] x28 16 [(15,x7d)],
 N 55 0 x26 15 x80 x28 16 [(15,x7z)],
 N 55 0 x1k 15 [(13,x8c),(12,C 215 [xf,x11,Z]),(14,xo)] x28 16 [(15,x7z)],
 N 55 0 x26 15 x8h x28 16 [(15,x8g)],
 N 55 0 x1k 15 [(13,x8u),(12,C 215 [xf,x11,Z]),(14,xo)] x28 16 [(15,x8g)],
 N 55 0 x26 15 x8z x28 16 [(15,x8y)],
 N 55 0 x26 15 xa6 x28 16 [(15,xa5)]]
theorem L5ab_t : entsB (envT EB (mkT A5)) L5ab = true := by decide +kernel
theorem L5ab_ok : AllOK L5ab := entsB_ok (like_of okA5) L5ab_t
end
end Go.Ev
set_option maxRecDepth 1000000
set_option maxHeartbeats 0
namespace Go.Ev
noncomputable section
def L5ac : List Ent := [
 N 55 0 x1k 15 [(13,xc4),(12,C 215 [xf,x11,Z]),(14,xo)] x28 16 [(15,x8y)],
 N 55 0 x26 15 xc9 x28 16 [(15,xc8)],
 N 55 0 x1k 15 [(13,xck),(12,C 215 [xf,x11,Z]),(14,xo)] x28 16 [(15,xc8)],
 N 55 0 x26 15 xcp x28 16 [(15,xco)],
 N 55 0 x1k 15 [(13,xd2),(12,C 215 [xf,x11,Z]),(14,xo)] x28 16 [(15,xco)],
 N 55 0 x26 15 xd7 x28 16 [(15,xd6)],
 N 55 0 x1k 15 [(13,xef),(12,C 215 [xf,x11,Z]),(14,xo)] x28 16 [(15,xd6)],
 N 55 0 x26 15 xek x28 16 [(15,xej)],
 N 55 0 x1k 15 [(13,xet),(12,C 215 [xf,x11,Z]),(14,xo)] x28 16 [(15,xej)],
 N 55 0 x26 15 xey x28 16 [(15,xex)],
 N 55 0 x1k 15 [(13,xf8),(12,C 215 [xf,x11,Z]),(14,xo)] x28 16 [(15,xex)]]
theorem L5ac_t : entsB (envT EB (mkT A5)) L5ac = true := by decide +kernel
theorem L5ac_ok : AllOK L5ac := entsB_ok (like_of okA5) L5ac_t
end
end Go.Ev
set_option maxRecDepth 1000000
set_option maxHeartbeats 0
namespace Go.Ev
noncomputable section
def L5ad : List Ent := [
 N 55 0 x26 15 xfc x28 16 [(15,xfb)],
 N 83 0 x3h 13 x1q x3i 13 [],
 N 83 0 x3l 13 x1z x3i 13 [],
 N 83 0 [.a [xc,xm,x0,x0,x19,x0,x0,x1,x1,Z,x0,x1,x1,x1,x0,x0,x1,x1]] 13 x1t (.s [111,50]) 13 [],
 N 83 0 [.a [xc,xm,x0,x0,xg,x0,x0,x1,x1,Z,x0,x1,x1,x1,x0,x0,x1,x1]] 13 x29 (.s [111,50]) 13 [],
 N 83 0 [.a [xc,xk,x0,x0,x19,x0,x0,x1,x1,Z,x0,x1,x1,x1,x0,x0,x1,x1]] 13 x1w (.s [111,51]) 13 [],
 N 83 0 [.a [xc,xk,x0,x0,xg,x0,x0,x1,x1,Z,x0,x1,x1,x1,x0,x0,x1,x1]] 13 x2b (.s [111,51]) 13 [],
 N 83 0 x3l 13 x5f x3i 13 [],
 N 83 0 x3h 13 [(12,x5o)] x3i 13 [],
 N 83 0 x3l 13 x5x x3i 13 [],
 N 83 0 x3h 13 [(12,x6b)] x3i 13 [],
 N 83 0 x3l 13 x6i x3i 13 [],
 N 83 0 x3h 13 [(12,x6t)] x3i 13 [],
 N 83 0 x3l 13 x6z x3i 13 [],
 N 83 0 x3h 13 [(12,x79)] x3i 13 [],
 N 83 0 x3l 13 x7f x3i 13 [],
 N 83 0 x3h 13 [(12,x7v)] x3i 13 [],
 N 83 0 x3l 13 x81 x3i 13 [],
 N 83 0 x3h 13 [(12,x8c)] x3i 13 [],
 N 83 0 x3l 13 x8i x3i 13 [],
 N 83 0 x3h 13 [(12,x8u)] x3i 13 [],
 N 83 0 x3l 13 x90 x3i 13 [],
 N 83 0 x3l 13 xa7 x3i 13 [],
 N 83 0 x3h 13 [(12,xc4)] x3i 13 [],
 N 83 0 x3l 13 xca x3i 13 [],
 N 83 0 x3h 13 [(12,xck)] x3i 13 [],
 N 83 0 x3l 13 xcq x3i 13 [],
 N 83 0 x3h 13 [(12,xd2)] x3i 13 [],
 N 83 0 x3l 13 xd8 x3i 13 [],
 N 83 0 x3h 13 [(12,xef)] x3i 13 [],
 N 83 0 x3l 13 xel x3i 13 [],
 N 83 0 x3h 13 [(12,xet)] x3i 13 [],
 N 83 0 x3l 13 xez x3i 13 [],
 N 83 0 x3h 13 [(12,xf8)] x3i 13 [],
 N 83 0 x3l 13 xfd x3i 13 []]
theorem L5ad_t : entsB (envT EB (mkT A5)) L5ad = true := by decide +kernel
theorem L5ad_ok : AllOK L5ad := entsB_ok (like_of okA5) L5ad_t
end
end Go.Ev
set_option maxRecDepth 1000000
set_option maxHeartbeats 0
namespace Go.Ev
noncomputable section
def L5ae : List Ent := [
 N 283 0 x46 13 [(12,C 473 [x44,x0])] (.a [xc,xc,x9,S 13 0 6 18,Z]) 18 [(12,C 473 [x44,I 95]),(13,D 100 [xk,x0,x0,x0,Z,x0,x0,x1,xf,x2j,x0,x1,x1,x1,x0,x0,x1,x1,xc,xc,x0,x0,x2k,x0,x0,x1,x1,Z,x0,x1,x1,x1,x0,x0,x1,x1,xc,xm,x0,x0,x2l,x0,x0,x1,x1,Z,x0,x1,x1,x1,x0,x0,x1,x1,xc,xk,x0,x0,x47,x0,x0,x1,x1,Z,x0,x1,x1,x1,x0,x0,x1,x1,xm,x0,x0,x0,Z,xm,x0,xi,x1,Z,x0,x1,x1,x1,x0,x0,x1,x1,xm,x0,x0,x0,Z,xc,x0,xx,x1,Z,x0,x1,x1,x1,x0,x0,x1,x1]),(14,x1a),(15,x14),(16,x16),(17,x18)]]
theorem L5ae_t : entsB (envT EB (mkT A5)) L5ae = true := by decide +kernel
theorem L5ae_ok : AllOK L5ae := entsB_ok (like_of okA5) L5ae_t
end
end Go.Ev
set_option maxRecDepth 1000000
set_option maxHeartbeats 0
namespace Go.Ev
noncomputable section
def L5af : List Ent := [
 N 283 0 x46 13 [(12,C 473 [x58,x0])] (.a [xc,xm,x9,x50,Z]) 15 [(12,C 473 [x58,I 20]),(13,D 100 [xc,xc,x0,x0,x2j,x0,x0,x1,x1,Z,x0,x1,x1,x1,x0,x0,x1,x1]),(14,x14)],
 N 283 0 x46 13 [(12,C 473 [x5m,x0])] (.a [xc,xk,x9,x50,Z]) 15 [(12,C 473 [x5m,I 20]),(13,D 100 [xc,xc,x0,x0,x2j,x0,x0,x1,x1,Z,x0,x1,x1,x1,x0,x0,x1,x1]),(14,x5o)],
 N 283 0 x46 13 [(12,C 473 [x69,x0])] (.a [xc,x9,x9,x50,Z]) 15 [(12,C 473 [x69,I 20]),(13,D 100 [xc,xc,x0,x0,x2j,x0,x0,x1,x1,Z,x0,x1,x1,x1,x0,x0,x1,x1]),(14,x6b)],
 N 283 0 x46 13 [(12,C 473 [x6r,x0])] (.a [xc,xl,x9,x50,Z]) 15 [(12,C 473 [x6r,I 20]),(13,D 100 [xc,xc,x0,x0,x2j,x0,x0,x1,x1,Z,x0,x1,x1,x1,x0,x0,x1,x1]),(14,x6t)]]
theorem L5af_t : entsB (envT EB (mkT A5)) L5af = true := by decide +kernel
theorem L5af_ok : AllOK L5af := entsB_ok (like_of okA5) L5af_t
end
end Go.Ev
set_option maxRecDepth 1000000
set_option maxHeartbeats 0
namespace Go.Ev
noncomputable section
def L5ag : List Ent := [
 N 283 0 x46 13 [(12,C 473 [x77,x0])] (.a [xc,I 6,x9,x50,Z]) 15 [(12,C 473 [x77,I 20]),(13,D 100 [xc,xc,x0,x0,x2j,x0,x0,x1,x1,Z,x0,x1,x1,x1,x0,x0,x1,x1]),(14,x79)],
 N 283 0 x46 13 [(12,C 473 [x7t,x0])] (.a [xc,I 7,x9,x50,Z]) 15 [(12,C 473 [x7t,I 20]),(13,D 100 [xc,xc,x0,x0,x2j,x0,x0,x1,x1,Z,x0,x1,x1,x1,x0,x0,x1,x1]),(14,x7v)],
 N 283 0 x46 13 [(12,C 473 [x8a,x0])] (.a [xc,x3,x9,x50,Z]) 15 [(12,C 473 [x8a,I 20]),(13,D 100 [xc,xc,x0,x0,x2j,x0,x0,x1,x1,Z,x0,x1,x1,x1,x0,x0,x1,x1]),(14,x8c)],
 N 283 0 x46 13 [(12,C 473 [x8s,x0])] (.a [xc,I 9,x9,x50,Z]) 15 [(12,C 473 [x8s,I 20]),(13,D 100 [xc,xc,x0,x0,x2j,x0,x0,x1,x1,Z,x0,x1,x1,x1,x0,x0,x1,x1]),(14,x8u)]]
theorem L5ag_t : entsB (envT EB (mkT A5)) L5ag = true := by decide +kernel
theorem L5ag_ok : AllOK L5ag := entsB_ok (like_of okA5) L5ag_t
end
end Go.Ev
set_option maxRecDepth 1000000
set_option maxHeartbeats 0
namespace Go.Ev
noncomputable section
def L5ah : List Ent := [
 N 283 0 x46 13 [(12,C 473 [x9s,x0])] (.a [xm,I 9,x9,S 13 0 5 18,S 14 0 5 1]) 18 [(12,C 473 [x9s,I 84]),(13,D 100 [xk,x0,x0,x0,Z,x0,x0,x1,xf,x2k,x0,x1,x1,x1,x0,x0,x1,x1,xc,xm,x0,x0,x2l,x0,x0,x1,x1,Z,x0,x1,x1,x1,x0,x0,x1,x1,xc,xk,x0,x0,x47,x0,x0,x1,x1,Z,x0,x1,x1,x1,x0,x0,x1,x1,xm,x0,x0,x0,Z,xm,x0,xi,x1,Z,x0,x1,x1,x1,x0,x0,x1,x1,xm,x0,x0,x0,Z,xc,x0,xx,x1,Z,x0,x1,x1,x1,x0,x0,x1,x1]),(14,D 3 [xc,xc,xc,xc,xc]),(15,x1a),(16,x16),(17,x18)]]
theorem L5ah_t : entsB (envT EB (mkT A5)) L5ah = true := by decide +kernel
theorem L5ah_ok : AllOK L5ah := entsB_ok (like_of okA5) L5ah_t
end
end Go.Ev
set_option maxRecDepth 1000000
set_option maxHeartbeats 0
namespace Go.Ev
noncomputable section
def L5ai : List Ent := [
 N 283 0 x46 13 [(12,C 473 [xc2,x0])] x96 15 [(12,C 473 [xc2,I 20]),(13,D 100 [xc,xc,x0,x0,x2j,x0,x0,x1,x1,Z,x0,x1,x1,x1,x0,x0,x1,x1]),(14,xc4)],
 N 283 0 x46 13 [(12,C 473 [xci,x0])] (.a [xc,xai,x9,x50,Z]) 15 [(12,C 473 [xci,I 20]),(13,D 100 [xc,xc,x0,x0,x2j,x0,x0,x1,x1,Z,x0,x1,x1,x1,x0,x0,x1,x1]),(14,xck)],
 N 283 0 x46 13 [(12,C 473 [xd0,x0])] (.a [xc,xak,x9,x50,Z]) 15 [(12,C 473 [xd0,I 20]),(13,D 100 [xc,xc,x0,x0,x2j,x0,x0,x1,x1,Z,x0,x1,x1,x1,x0,x0,x1,x1]),(14,xd2)]]
theorem L5ai_t : entsB (envT EB (mkT A5)) L5ai = true := by decide +kernel
theorem L5ai_ok : AllOK L5ai := entsB_ok (like_of okA5) L5ai_t
end
end Go.Ev
set_option maxRecDepth 1000000
set_option maxHeartbeats 0
namespace Go.Ev
noncomputable section
def L5aj : List Ent := [
 N 283 0 x46 13 [(12,C 473 [xdp,x0])] (.a [xm,xak,x9,S 13 0 5 18,S 14 0 5 1]) 18 [(12,C 473 [xdp,I 84]),(13,D 100 [xk,x0,x0,x0,Z,x0,x0,x1,xf,x2k,x0,x1,x1,x1,x0,x0,x1,x1,xc,xm,x0,x0,x2l,x0,x0,x1,x1,Z,x0,x1,x1,x1,x0,x0,x1,x1,xc,xk,x0,x0,x47,x0,x0,x1,x1,Z,x0,x1,x1,x1,x0,x0,x1,x1,xm,x0,x0,x0,Z,xm,x0,xi,x1,Z,x0,x1,x1,x1,x0,x0,x1,x1,xm,x0,x0,x0,Z,xc,x0,xx,x1,Z,x0,x1,x1,x1,x0,x0,x1,x1]),(14,D 3 [xc,xc,xc,xc,xc]),(15,x1a),(16,x16),(17,x18)]]
theorem L5aj_t : entsB (envT EB (mkT A5)) L5aj = true := by decide +kernel
theorem L5aj_ok : AllOK L5aj := entsB_ok (like_of okA5) L5aj_t
end
end Go.Ev
set_option maxRecDepth 1000000
set_option maxHeartbeats 0
namespace Go.Ev
noncomputable section
def L5ak : List Ent := [
 N 283 0 x46 13 [(12,C 473 [xed,x0])] xdd 15 [(12,C 473 [xed,I 20]),(13,D 100 [xc,xc,x0,x0,x2j,x0,x0,x1,x1,Z,x0,x1,x1,x1,x0,x0,x1,x1]),(14,xef)],
 N 283 0 x46 13 [(12,C 473 [xer,x0])] (.a [xc,xao,x9,x50,Z]) 15 [(12,C 473 [xer,I 20]),(13,D 100 [xc,xc,x0,x0,x2j,x0,x0,x1,x1,Z,x0,x1,x1,x1,x0,x0,x1,x1]),(14,xet)],
 N 283 0 x46 13 [(12,C 473 [xf6,x0])] (.a [xc,xaq,x9,x50,Z]) 15 [(12,C 473 [xf6,I 20]),(13,D 100 [xc,xc,x0,x0,x2j,x0,x0,x1,x1,Z,x0,x1,x1,x1,x0,x0,x1,x1]),(14,xf8)]]
theorem L5ak_t : entsB (envT EB (mkT A5)) L5ak = true := by decide +kernel
theorem L5ak_ok : AllOK L5ak := entsB_ok (like_of okA5) L5ak_t
end
end Go.Ev
set_option maxRecDepth 1000000
set_option maxHeartbeats 0
namespace Go.Ev
noncomputable section
def L5al : List Ent := [
 N 283 0 x46 13 [(12,C 473 [xfo,x0])] (.a [xm,xaq,x9,S 13 0 5 18,S 14 0 5 1]) 18 [(12,C 473 [xfo,I 84]),(13,D 100 [xk,x0,x0,x0,Z,x0,x0,x1,xf,x2k,x0,x1,x1,x1,x0,x0,x1,x1,xc,xm,x0,x0,x2l,x0,x0,x1,x1,Z,x0,x1,x1,x1,x0,x0,x1,x1,xc,xk,x0,x0,x47,x0,x0,x1,x1,Z,x0,x1,x1,x1,x0,x0,x1,x1,xm,x0,x0,x0,Z,xm,x0,xi,x1,Z,x0,x1,x1,x1,x0,x0,x1,x1,xm,x0,x0,x0,Z,xc,x0,xx,x1,Z,x0,x1,x1,x1,x0,x0,x1,x1]),(14,D 3 [xc,xc,xc,xc,xc]),(15,x1a),(16,x16),(17,x18)],
 N 430 0 [xy,x0,x0] 14 x10 (.t [.a [xf,x11],x0]) 15 [(14,xo)],
 N 430 0 [x1d,x0,x0] 14 x1e (.t [.a [xf,x11],x0]) 15 [(14,xo)]]
theorem L5al_t : entsB (envT EB (mkT A5)) L5al = true := by decide +kernel
theorem L5al_ok : AllOK L5al := entsB_ok (like_of okA5) L5al_t
end
end Go.Ev
