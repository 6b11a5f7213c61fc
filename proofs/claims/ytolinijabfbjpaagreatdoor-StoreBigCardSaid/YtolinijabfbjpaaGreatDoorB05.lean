/- All calls up to rank 1. -/
import Derived.Test.YtolinijabfbjpaaGreatDoorB02
import Derived.Test.YtolinijabfbjpaaGreatDoorB03
import Derived.Test.YtolinijabfbjpaaGreatDoorB04
set_option linter.all false
set_option maxRecDepth 1000000
set_option maxHeartbeats 0
namespace Go.Ev
noncomputable section
def A2 : List Ent := L1aa ++ (L1ab ++ (L1ac ++ (L1ad ++ (L1ae ++ (L1af ++ (L1ag ++ (L1ah ++ (L1ai ++ []))))))))
theorem okA2 : AllOK A2 := (L1aa_ok.app (L1ab_ok.app (L1ac_ok.app (L1ad_ok.app (L1ae_ok.app (L1af_ok.app (L1ag_ok.app (L1ah_ok.app (L1ai_ok.app AllOK.nil)))))))))
end
end Go.Ev

/- Calls that are proved, rank 2. -/
set_option maxRecDepth 1000000
set_option maxHeartbeats 0
namespace Go.Ev
noncomputable section
def L2aa : List Ent := [
 N 29 0 [x2,x3] 5 [(3,C 75 [K 4 0 32 32,Z,x4,x0]),(4,C 188 (Q 2048 (U 0)))] (.t [P 5 0,Z,x0,x0]) 6 [(5,C 176 ([x2,x3,x5]++(Q 26 x0)++x6))],
 N 29 0 [x2,x3] 5 x3t (.t [P 5 0,Z,x0,x0]) 6 [(5,C 176 ([x2,x3,x3u]++(Q 26 x0)++x6))],
 N 44 0 [.a [x7,x0,xf,x0,x0,x0,Z,x0,x0,x1,xa,x14,x0,x1,x1,x1,x0,x0,x1,x1]] 4 x16 (.a x30) 5 [(4,xj)],
 N 44 0 [.a [x7,x0,xf,x0,x0,x0,Z,x0,x0,x1,xa,xb,x0,x1,x1,x1,x0,x0,x1,x1]] 4 xk (.a x30) 5 [(4,xj)],
 N 44 0 [x36] 3 [] x36 3 [],
 N 44 0 [x37] 3 [] x37 3 [],
 N 44 0 [.a [x7,x7,xf,x0,x0,x0,Z,x0,x0,x1,xa,x14,x0,x1,x1,x1,x0,x0,x1,x1]] 4 x16 x4q 5 [(4,xj)],
 N 44 0 [.a x39] 3 [] (.a x39) 3 [],
 N 44 0 [.a x3a] 3 [] (.a x3a) 3 [],
 N 44 0 [.a [x7,x7,xf,x0,x0,x0,Z,x0,x0,x1,xa,xb,x0,x1,x1,x1,x0,x0,x1,x1]] 4 xk x4q 5 [(4,xj)],
 N 44 0 [x4w] 3 [] x4w 3 [],
 N 44 0 [x57] 3 [] x57 3 [],
 N 44 0 [x79] 3 [] x79 3 [],
 N 57 0 x23 4 x1u x24 5 [(4,D 3 [xh])],
 N 57 0 x25 4 x1z x24 5 [(4,D 3 [xf])],
 N 57 0 x26 4 x21 Z 4 [],
 N 57 0 x4b 4 x47 Z 4 [],
 N 57 0 [.a [xg,x0,x0,xb]] 4 x47 Z 4 [],
 N 57 0 [.a [I 6,x0,x0,xb]] 4 x47 Z 4 [],
 N 57 0 [.a [I 7,x0,x0,xb]] 4 x47 Z 4 [],
 N 57 0 [.a [x3,x0,x0,xb]] 4 x47 Z 4 [],
 N 57 0 [.a [I 9,x0,x0,xb]] 4 x47 Z 4 []]
theorem L2aa_t : entsB (envT EB (mkT A2)) L2aa = true := by decide +kernel
theorem L2aa_ok : AllOK L2aa := entsB_ok (like_of okA2) L2aa_t
end
end Go.Ev

/- Calls that are proved, rank 2. -/
set_option maxRecDepth 1000000
set_option maxHeartbeats 0
namespace Go.Ev
noncomputable section
def L2ab : List Ent := [
 N 57 0 [.a [x7d,x0,x0,xb]] 4 x47 Z 4 [],
 N 57 0 [.a [x7l,x0,x0,xb]] 4 x47 Z 4 [],
 N 57 0 [.a [x3u,x0,x0,xb]] 4 x47 Z 4 [],
 N 57 0 [.a [x80,x0,x0,xb]] 4 x47 Z 4 [],
 N 57 0 [.a [x87,x0,x0,xb]] 4 x47 Z 4 [],
 N 57 0 [.a [I 15,x0,x0,xb]] 4 x47 Z 4 [],
 N 103 0 [M 3,x2x] 4 x2y (.t [.s [4,2,97,4],x0]) 4 [],
 N 103 0 [M 3,x2z] 4 x2y (.t [.s [4,8,104,111,109,101,2],x0]) 4 [],
 N 103 0 [M 3,x4p] 4 x2y (.t [.s [4,6,98,105,103,8],x0]) 4 [],
 N 103 0 [M 3,.a x54] 4 x2y (.t [.s [4,10,115,109,97,108,108,2],x0]) 4 [],
 N 186 0 [x9,Z] 3 [] (.t [x9,x0,x0]) 3 [],
 N 199 0 x2n 4 x16 x2o 4 [],
 N 199 0 x31 4 xk x2o 4 [],
 N 231 0 [.a [xh,x0,xl,Z]] 3 [] x4 3 [],
 N 231 0 [.a [xh,x0,x3z,Z]] 3 [] x4 3 [],
 N 241 0 [x14] 4 [(3,xz)] xu 5 x1n,
 N 241 0 [x14] 4 x1o xu 5 x1q,
 N 241 0 [x14] 4 x1r xu 5 x1t,
 N 241 0 [xb] 4 x1u xu 5 x1n,
 N 241 0 [xb] 4 x1z xu 5 x1q,
 N 241 0 [xb] 4 x21 xu 5 x1t,
 N 241 0 [x14] 4 x44 xu 5 x46,
 N 241 0 [xb] 4 x47 xu 5 x46,
 N 252 0 x23 4 x1u x24 5 [(4,D 3 [xf])],
 N 252 0 x25 4 x1z x24 5 [(4,D 3 [x7])],
 N 252 0 x26 4 x21 x24 5 [(4,D 3 [xh])],
 N 252 0 x4b 4 x47 x24 5 [(4,D 3 [x5])],
 N 256 0 [.s [0,0,1,0,1,16,0,0,0,0,0,0,0,0,0,0,0,0,0,0,0,0,0,0,0,0,0,0,0,0,0,0,0,0,0,0,0,0,0,0,0,0,0,0,0,0,0,0,0,0,0,0,0,0,0,0,0,0,0,0,30,232,174,143]] 3 [] (.t [.a [x7,x0,x7,.s [0,0,0,0,0,0,0,0,0,0,0,0,0,0,0,0]],x0]) 3 [],
 N 256 0 [.s [0,0,1,1,2,53,0,2,2,8,12,6,0,8,110,111,100,101,10,2,97,2,0,2,2,114,6,0,0,2,119,8,0,0,2,108,10,6,0,2,115,4,0,0,2,2,0,0,10,2,2,6,4,8,6,10,0,4,2,120,149,83,159,60]] 3 [] (.t [.a [x7,x7,xh,.s [2,2,8,12,6,0,8,110,111,100,101,10,2,97,2,0,2,2,114,6,0,0,2,119,8,0,0,2,108,10,6,0,2,115,4,0,0,2,2,0,0,10,2,2,6,4,8,6,10,0,4,2,120]],x0]) 3 [],
 N 256 0 [.s [0,0,1,2,3,42,0,2,4,0,0,10,2,4,6,6,8,2,10,0,4,2,120,2,6,0,0,10,2,6,0,8,4,10,0,4,2,120,4,2,97,4,4,8,104,111,109,101,2,0,0,0,0,0,0,0,0,0,0,0,40,50,212,85]] 3 [] (.t [.a [x7,xh,xf,.s [2,4,0,0,10,2,4,6,6,8,2,10,0,4,2,120,2,6,0,0,10,2,6,0,8,4,10,0,4,2,120,4,2,97,4,4,8,104,111,109,101,2]],x0]) 3 [],
 N 256 0 [.s [0,0,1,3,4,0,0,0,0,0,0,0,0,0,0,0,0,0,0,0,0,0,0,0,0,0,0,0,0,0,0,0,0,0,0,0,0,0,0,0,0,0,0,0,0,0,0,0,0,0,0,0,0,0,0,0,0,0,0,0,17,126,191,107]] 3 [] (.t [.a [x7,xf,x5,x1],x0]) 3 [],
 N 338 0 [xc,xx] 5 [(4,xz),(3,xj)] x8 5 [],
 N 338 0 [xc,xx] 5 [(4,x11),(3,xj)] x8 5 [],
 N 338 0 [xc,xx] 5 [(4,x13),(3,xj)] x8 5 [],
 N 338 0 [xc,xu] 5 [(4,x1m),(3,xj)] x8 5 [],
 N 338 0 [xc,xu] 5 [(4,x1p),(3,xj)] x8 5 [],
 N 338 0 [xc,xu] 5 [(4,x1s),(3,xj)] x8 5 []]
theorem L2ab_t : entsB (envT EB (mkT A2)) L2ab = true := by decide +kernel
theorem L2ab_ok : AllOK L2ab := entsB_ok (like_of okA2) L2ab_t
end
end Go.Ev

/- Calls that are proved, rank 2. -/
set_option maxRecDepth 1000000
set_option maxHeartbeats 0
namespace Go.Ev
noncomputable section
def L2ac : List Ent := [
 N 338 0 [xc,xx] 5 [(4,x42),(3,xj)] x8 5 [],
 N 338 0 [xc,xu] 5 [(4,x45),(3,xj)] x8 5 [],
 N 348 0 [.a [xa,xb,Z]] 4 xk xe 4 [],
 N 415 0 [.a [xh,x0,xl,Z]] 3 [] (.t [.s [4,2,120],x0]) 3 [],
 N 415 0 [.a [xh,x0,x3z,Z]] 3 [] (.t [.s [4,120,122,122,122,122,122,122,122,122,122,122,122,122,122,122,122,122,122,122,122,122,122,122,122,122,122,122,122,122,122,122,122,122,122,122,122,122,122,122,122,122,122,122,122,122,122,122,122,122,122,122,122,122,122,122,122,122,122,122,122,122],x0]) 3 [],
 N 458 0 [.a [xg,x0,x1,x1,x0,x0,x1,Z,Z,xa,xb,x0,x1,x1,x1,x0,x0,x1,x1]] 4 xk xe 4 [],
 N 458 0 xm 4 [(3,xo)] xe 4 [],
 N 458 0 xm 4 [(3,xq)] xe 4 [],
 N 458 0 xm 4 [(3,xr)] xe 4 [],
 N 458 0 [.a [x7,x0,xa,x1,x0,x0,x1,Z,x14,x1,Z,x0,x1,x1,x1,x0,x0,x1,x1]] 4 [(3,x40)] xe 4 []]
theorem L2ac_t : entsB (envT EB (mkT A2)) L2ac = true := by decide +kernel
theorem L2ac_ok : AllOK L2ac := entsB_ok (like_of okA2) L2ac_t
end
end Go.Ev

/- All calls up to rank 2. -/
set_option maxRecDepth 1000000
set_option maxHeartbeats 0
namespace Go.Ev
noncomputable section
def A3 : List Ent := L2aa ++ (L2ab ++ (L2ac ++ A2))
theorem okA3 : AllOK A3 := (L2aa_ok.app (L2ab_ok.app (L2ac_ok.app okA2)))
end
end Go.Ev
