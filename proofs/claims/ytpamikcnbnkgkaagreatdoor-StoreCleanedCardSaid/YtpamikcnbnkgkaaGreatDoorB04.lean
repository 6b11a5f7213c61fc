/- All calls up to rank 1. -/
import Derived.Test.YtpamikcnbnkgkaaGreatDoorB02
import Derived.Test.YtpamikcnbnkgkaaGreatDoorB03
set_option linter.all false
set_option maxRecDepth 1000000
set_option maxHeartbeats 0
namespace Go.Ev
noncomputable section
def A2 : List Ent := L1aa ++ (L1ab ++ (L1ac ++ (L1ad ++ (L1ae ++ (L1af ++ (L1ag ++ (L1ah ++ (L1ai ++ (L1aj ++ (L1ak ++ (L1al ++ (L1am ++ (L1an ++ (L1ao ++ (L1ap ++ (L1aq ++ []))))))))))))))))
theorem okA2 : AllOK A2 := (L1aa_ok.app (L1ab_ok.app (L1ac_ok.app (L1ad_ok.app (L1ae_ok.app (L1af_ok.app (L1ag_ok.app (L1ah_ok.app (L1ai_ok.app (L1aj_ok.app (L1ak_ok.app (L1al_ok.app (L1am_ok.app (L1an_ok.app (L1ao_ok.app (L1ap_ok.app (L1aq_ok.app AllOK.nil)))))))))))))))))
end
end Go.Ev
set_option maxRecDepth 1000000
set_option maxHeartbeats 0
namespace Go.Ev
noncomputable section
def L2aa : List Ent := [
 N 28 0 x4 14 [(12,C 75 [K 13 0 32 32,Z,x5,x0]),(13,C 188 (Q 2048 x6))] x8 15 [(14,C 176 ([x2,x3,x9]++xa++xb))],
 N 28 0 x4 14 x4f x8 15 [(14,C 176 ([x2,x3,xl]++xa++xb))],
 N 28 0 x4 14 xbr x8 15 [(14,C 176 ([x2,x3,I 6]++xa++xb))],
 N 28 0 x4 14 xe0 x8 15 [(14,C 176 ([x2,x3,I 7]++xa++xb))],
 N 44 0 [.a [xc,x0,xk,x0,x0,x0,Z,x0,x0,x1,xf,x19,x0,x1,x1,x1,x0,x0,x1,x1]] 13 x1b (.a x3e) 14 x3f,
 N 44 0 [.a [xc,x0,xk,x0,x0,x0,Z,x0,x0,x1,xf,xg,x0,x1,x1,x1,x0,x0,x1,x1]] 13 xp (.a x3e) 14 x3f,
 N 44 0 [x3o] 12 [] x3o 12 [],
 N 44 0 [x3p] 12 [] x3p 12 [],
 N 44 0 x4v 13 x1b (.a [xc,xc,xk,x0,x0,x0,Z,x0,x0,x1,xf,xz,x0,x1,x1,x1,x0,x0,x1,x1]) 14 x3f,
 N 44 0 [.a x3s] 12 [] (.a x3s) 12 [],
 N 44 0 [.a x3t] 12 [] (.a x3t) 12 [],
 N 44 0 [.a [xc,x9,xk,x0,x0,x0,Z,x0,x0,x1,xf,x19,x0,x1,x1,x1,x0,x0,x1,x1]] 13 x1b (.a [xc,x9,xk,x0,x0,x0,Z,x0,x0,x1,xf,xz,x0,x1,x1,x1,x0,x0,x1,x1]) 14 x3f,
 N 44 0 [xaa] 12 [] xaa 12 [],
 N 44 0 [xab] 12 [] xab 12 []]
theorem L2aa_t : entsB (envT EB (mkT A2)) L2aa = true := by decide +kernel
theorem L2aa_ok : AllOK L2aa := entsB_ok (like_of okA2) L2aa_t
end
end Go.Ev
set_option maxRecDepth 1000000
set_option maxHeartbeats 0
namespace Go.Ev
noncomputable section
def L2ab : List Ent := [
 N 44 0 [.a [xc,xl,xk,x0,x0,x0,Z,x0,x0,x1,xf,x19,x0,x1,x1,x1,x0,x0,x1,x1]] 13 x1b (.a [xc,xl,xk,x0,x0,x0,Z,x0,x0,x1,xf,xz,x0,x1,x1,x1,x0,x0,x1,x1]) 14 x3f,
 N 44 0 [xdx] 12 [] xdx 12 [],
 N 44 0 [xdy] 12 [] xdy 12 [],
 N 44 0 [.a [xc,I 6,xk,x0,x0,x0,Z,x0,x0,x1,xf,x19,x0,x1,x1,x1,x0,x0,x1,x1]] 13 x1b (.a [xc,I 6,xk,x0,x0,x0,Z,x0,x0,x1,xf,xz,x0,x1,x1,x1,x0,x0,x1,x1]) 14 x3f,
 N 44 0 [xfw] 12 [] xfw 12 [],
 N 44 0 [xfx] 12 [] xfx 12 [],
 N 57 0 x2d 13 x1z x2e 14 x2f,
 N 57 0 x2g 13 x29 x2e 14 x2h,
 N 57 0 x2i 13 x2b Z 13 [],
 N 57 0 x2d 13 x5f x2e 14 x2f,
 N 57 0 x2d 13 x5x x2e 14 x2f,
 N 57 0 x2d 13 x6i x2e 14 x2f,
 N 57 0 x2d 13 x6z x2e 14 x2f,
 N 57 0 x2d 13 x7f x2e 14 x2f,
 N 57 0 x2d 13 x81 x2e 14 x2f,
 N 57 0 x2d 13 x8i x2e 14 x2f,
 N 57 0 x2d 13 x90 x2e 14 x2f,
 N 57 0 x2d 13 xa7 x2e 14 x2f,
 N 57 0 x2d 13 xca x2e 14 x2f,
 N 57 0 x2d 13 xcq x2e 14 x2f,
 N 57 0 x2d 13 xd8 x2e 14 x2f,
 N 57 0 x2d 13 xel x2e 14 x2f,
 N 57 0 x2d 13 xez x2e 14 x2f,
 N 57 0 x2d 13 xfd x2e 14 x2f,
 N 103 0 [M 12,x3b] 13 x3c (.t [.s [4,2,97,4],x0]) 13 [],
 N 103 0 [M 12,x3d] 13 x3c (.t [.s [4,8,104,111,109,101,2],x0]) 13 [],
 N 186 0 [xe,Z] 12 [] (.t [xe,x0,x0]) 12 [],
 N 199 0 x2y 13 x1b x2z 13 [],
 N 199 0 x3g 13 xp x2z 13 [],
 N 231 0 [.a [xm,x0,xq,Z]] 12 [] x5 12 [],
 N 241 0 x1p 13 x1q xz 14 x1s,
 N 241 0 x1p 13 x1t xz 14 x1v,
 N 241 0 x1p 13 x1w xz 14 x1y,
 N 241 0 [xg] 13 x1z xz 14 x1s,
 N 241 0 [xg] 13 x29 xz 14 x1v,
 N 241 0 [xg] 13 x2b xz 14 x1y,
 N 241 0 [xg] 13 x5f xz 14 [(13,x5d)],
 N 241 0 x1p 13 [(12,x5o)] xz 14 [(13,x5d)],
 N 241 0 [xg] 13 x5x xz 14 [(13,x5v)],
 N 241 0 x1p 13 [(12,x6b)] xz 14 [(13,x5v)],
 N 241 0 [xg] 13 x6i xz 14 [(13,x6g)],
 N 241 0 x1p 13 [(12,x6t)] xz 14 [(13,x6g)],
 N 241 0 [xg] 13 x6z xz 14 [(13,x6x)],
 N 241 0 x1p 13 [(12,x79)] xz 14 [(13,x6x)],
 N 241 0 [xg] 13 x7f xz 14 [(13,x7d)],
 N 241 0 x1p 13 [(12,x7v)] xz 14 [(13,x7d)]]
theorem L2ab_t : entsB (envT EB (mkT A2)) L2ab = true := by decide +kernel
theorem L2ab_ok : AllOK L2ab := entsB_ok (like_of okA2) L2ab_t
end
end Go.Ev
set_option maxRecDepth 1000000
set_option maxHeartbeats 0
namespace Go.Ev
noncomputable section
def L2ac : List Ent := [
 N 241 0 [xg] 13 x81 xz 14 [(13,x7z)],
 N 241 0 x1p 13 [(12,x8c)] xz 14 [(13,x7z)],
 N 241 0 [xg] 13 x8i xz 14 [(13,x8g)],
 N 241 0 x1p 13 [(12,x8u)] xz 14 [(13,x8g)],
 N 241 0 [xg] 13 x90 xz 14 [(13,x8y)],
 N 241 0 [xg] 13 xa7 xz 14 [(13,xa5)],
 N 241 0 x1p 13 [(12,xc4)] xz 14 [(13,x8y)],
 N 241 0 [xg] 13 xca xz 14 [(13,xc8)],
 N 241 0 x1p 13 [(12,xck)] xz 14 [(13,xc8)],
 N 241 0 [xg] 13 xcq xz 14 [(13,xco)],
 N 241 0 x1p 13 [(12,xd2)] xz 14 [(13,xco)],
 N 241 0 [xg] 13 xd8 xz 14 [(13,xd6)],
 N 241 0 x1p 13 [(12,xef)] xz 14 [(13,xd6)],
 N 241 0 [xg] 13 xel xz 14 [(13,xej)],
 N 241 0 x1p 13 [(12,xet)] xz 14 [(13,xej)],
 N 241 0 [xg] 13 xez xz 14 [(13,xex)],
 N 241 0 x1p 13 [(12,xf8)] xz 14 [(13,xex)],
 N 241 0 [xg] 13 xfd xz 14 [(13,xfb)],
 N 252 0 x2d 13 x1z x2e 14 x2h,
 N 252 0 x2g 13 x29 x2e 14 [(13,D 3 [xc])],
 N 252 0 x2i 13 x2b x2e 14 x2f,
 N 252 0 x2d 13 x8i x2e 14 x2h,
 N 252 0 x2d 13 xcq x2e 14 x2h,
 N 252 0 x2d 13 xez x2e 14 x2h,
 N 256 0 [.s [0,0,1,0,1,16,0,0,0,0,0,0,0,0,0,0,0,0,0,0,0,0,0,0,0,0,0,0,0,0,0,0,0,0,0,0,0,0,0,0,0,0,0,0,0,0,0,0,0,0,0,0,0,0,0,0,0,0,0,0,30,232,174,143]] 12 [] (.t [.a [xc,x0,xc,.s [0,0,0,0,0,0,0,0,0,0,0,0,0,0,0,0]],x0]) 12 [],
 N 256 0 [.s [0,0,1,1,2,53,0,2,2,8,12,6,0,8,110,111,100,101,10,2,97,2,0,2,2,114,6,0,0,2,119,8,0,0,2,108,10,6,0,2,115,4,0,0,2,2,0,0,10,2,2,6,4,8,6,10,0,4,2,120,149,83,159,60]] 12 [] (.t [.a [xc,xc,xm,.s [2,2,8,12,6,0,8,110,111,100,101,10,2,97,2,0,2,2,114,6,0,0,2,119,8,0,0,2,108,10,6,0,2,115,4,0,0,2,2,0,0,10,2,2,6,4,8,6,10,0,4,2,120]],x0]) 12 [],
 N 256 0 [.s [0,0,1,2,3,42,0,2,4,0,0,10,2,4,6,6,8,2,10,0,4,2,120,2,6,0,0,10,2,6,0,8,4,10,0,4,2,120,4,2,97,4,4,8,104,111,109,101,2,0,0,0,0,0,0,0,0,0,0,0,40,50,212,85]] 12 [] (.t [.a [xc,xm,xk,.s [2,4,0,0,10,2,4,6,6,8,2,10,0,4,2,120,2,6,0,0,10,2,6,0,8,4,10,0,4,2,120,4,2,97,4,4,8,104,111,109,101,2]],x0]) 12 [],
 N 256 0 [.s [0,0,1,3,4,0,0,0,0,0,0,0,0,0,0,0,0,0,0,0,0,0,0,0,0,0,0,0,0,0,0,0,0,0,0,0,0,0,0,0,0,0,0,0,0,0,0,0,0,0,0,0,0,0,0,0,0,0,0,0,17,126,191,107]] 12 [] (.t [.a [xc,xk,x9,x1],x0]) 12 [],
 N 338 0 [xh,x12] 14 [(13,x14),(12,xo)] xd 14 [],
 N 338 0 [xh,x12] 14 [(13,x16),(12,xo)] xd 14 [],
 N 338 0 [xh,x12] 14 [(13,x18),(12,xo)] xd 14 [],
 N 338 0 x20 14 [(13,x1r),(12,xo)] xd 14 [],
 N 338 0 x20 14 [(13,x1u),(12,xo)] xd 14 [],
 N 338 0 x20 14 [(13,x1x),(12,xo)] xd 14 [],
 N 338 0 x20 14 [(13,x5d),(12,xo)] xd 14 [],
 N 338 0 x20 14 [(13,x5v),(12,xo)] xd 14 [],
 N 338 0 x20 14 [(13,x6g),(12,xo)] xd 14 [],
 N 338 0 x20 14 [(13,x6x),(12,xo)] xd 14 [],
 N 338 0 x20 14 [(13,x7d),(12,xo)] xd 14 [],
 N 338 0 x20 14 [(13,x7z),(12,xo)] xd 14 []]
theorem L2ac_t : entsB (envT EB (mkT A2)) L2ac = true := by decide +kernel
theorem L2ac_ok : AllOK L2ac := entsB_ok (like_of okA2) L2ac_t
end
end Go.Ev
set_option maxRecDepth 1000000
set_option maxHeartbeats 0
namespace Go.Ev
noncomputable section
def L2ad : List Ent := [
 N 338 0 x20 14 [(13,x8g),(12,xo)] xd 14 [],
 N 338 0 x20 14 [(13,x8y),(12,xo)] xd 14 [],
 N 338 0 x20 14 [(13,xa5),(12,xo)] xd 14 [],
 N 338 0 x20 14 [(13,xc8),(12,xo)] xd 14 [],
 N 338 0 x20 14 [(13,xco),(12,xo)] xd 14 [],
 N 338 0 x20 14 [(13,xd6),(12,xo)] xd 14 [],
 N 338 0 x20 14 [(13,xej),(12,xo)] xd 14 [],
 N 338 0 x20 14 [(13,xex),(12,xo)] xd 14 [],
 N 338 0 x20 14 [(13,xfb),(12,xo)] xd 14 [],
 N 348 0 [.a [xf,xg,Z]] 13 xp xj 13 [],
 N 415 0 [.a [xm,x0,xq,Z]] 12 [] (.t [.s [4,2,120],x0]) 12 [],
 N 458 0 [.a [xl,x0,x1,x1,x0,x0,x1,Z,Z,xf,xg,x0,x1,x1,x1,x0,x0,x1,x1]] 13 xp xj 13 [],
 N 458 0 xr 13 [(12,xt)] xj 13 [],
 N 458 0 xr 13 [(12,xv)] xj 13 [],
 N 458 0 xr 13 [(12,xw)] xj 13 []]
theorem L2ad_t : entsB (envT EB (mkT A2)) L2ad = true := by decide +kernel
theorem L2ad_ok : AllOK L2ad := entsB_ok (like_of okA2) L2ad_t
end
end Go.Ev
