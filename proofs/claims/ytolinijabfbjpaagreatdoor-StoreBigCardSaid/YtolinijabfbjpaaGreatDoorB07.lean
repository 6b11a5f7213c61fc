/- Calls that are proved, rank 3. -/
import Derived.Test.YtolinijabfbjpaaGreatDoorB05
set_option linter.all false
set_option maxRecDepth 1000000
set_option maxHeartbeats 0
namespace Go.Ev
noncomputable section
def L3ab : List Ent := [
 N 103 0 [M 3,.a x2p] 5 [(4,x15),(3,.mp [(xf,.a [x7,.f 197 [] [],.f 198 [] [],.f 199 [] [],.f 200 [] []],0),(x5,.a [xh,.f 201 [] [],.f 202 [] [],.f 203 [] [],.f 204 [] []],1),(x7,.a [xf,.f 205 [] [],.f 206 [] [],.f 207 [] [],.f 208 [] []],2),(xh,.a [x5,.f 209 [] [],.f 210 [] [],.f 211 [] [],.f 212 [] []],3),(xg,.a [xg,.f 209 [] [],.f 213 [] [],.f 214 [] [],.f 215 [] []],4)] 5)] x2q 5 [],
 N 103 0 [M 3,.a x32] 5 [(4,xj),(3,.mp [(xf,.a [x7,.f 197 [] [],.f 198 [] [],.f 199 [] [],.f 200 [] []],0),(x5,.a [xh,.f 201 [] [],.f 202 [] [],.f 203 [] [],.f 204 [] []],1),(x7,.a [xf,.f 205 [] [],.f 206 [] [],.f 207 [] [],.f 208 [] []],2),(xh,.a [x5,.f 209 [] [],.f 210 [] [],.f 211 [] [],.f 212 [] []],3),(xg,.a [xg,.f 209 [] [],.f 213 [] [],.f 214 [] [],.f 215 [] []],4)] 5)] x2q 5 [],
 N 245 0 [xt] 5 xv x8 5 [],
 N 245 0 [x19] 5 x1a x8 5 [],
 N 283 0 [x2] 4 [(3,C 472 [x5h,x0])] (.a [x7,xf,xg,x58,Z]) 5 [(3,C 472 [x5h,x3u]),(4,x55)],
 N 283 0 [x2] 4 [(3,C 472 [x61,x0])] (.a [x7,xf,I 6,x58,Z]) 5 [(3,C 472 [x61,x3u]),(4,x55)],
 N 283 0 [x2] 4 [(3,C 472 [x6i,x0])] (.a [x7,xf,I 7,x58,Z]) 5 [(3,C 472 [x6i,x3u]),(4,x55)],
 N 283 0 [x2] 4 [(3,C 472 [x6x,x0])] (.a [x7,xf,x3,x58,Z]) 5 [(3,C 472 [x6x,x3u]),(4,x55)],
 N 283 0 [x2] 4 [(3,C 472 [x7a,x0])] (.a [x7,xh,x5,x58,Z]) 5 [(3,C 472 [x7a,x3u]),(4,x55)],
 N 319 0 [.a [x7,x0,x0,x14]] 4 [(3,xz)] x2r 4 [],
 N 319 0 [.a [xh,x0,x0,x14]] 4 x1o x2t 4 [],
 N 319 0 [.a [xf,x0,x0,x14]] 4 x1r x2v 4 [],
 N 319 0 x23 4 x1u x2r 4 [],
 N 319 0 x25 4 x1z x2t 4 []]
theorem L3ab_t : entsB (envT EB (mkT A3)) L3ab = true := by decide +kernel
theorem L3ab_ok : AllOK L3ab := entsB_ok (like_of okA3) L3ab_t
end
end Go.Ev

/- Calls that are proved, rank 3. -/
set_option maxRecDepth 1000000
set_option maxHeartbeats 0
namespace Go.Ev
noncomputable section
def L3ad : List Ent := [
 N 319 0 [.a [x3,x0,x0,x14]] 4 x44 x74 4 [],
 N 319 0 [.a [x3,x0,x0,xb]] 4 x47 x74 4 [],
 N 319 0 [.a [I 9,x0,x0,x14]] 4 x44 x7i 4 [],
 N 319 0 [.a [I 9,x0,x0,xb]] 4 x47 x7i 4 [],
 N 319 0 [.a [x7d,x0,x0,x14]] 4 x44 x7q 4 [],
 N 319 0 [.a [x7d,x0,x0,xb]] 4 x47 x7q 4 [],
 N 319 0 [.a [x7l,x0,x0,x14]] 4 x44 x7x 4 [],
 N 319 0 [.a [x7l,x0,x0,xb]] 4 x47 x7x 4 [],
 N 319 0 [.a [x3u,x0,x0,x14]] 4 x44 x84 4 []]
theorem L3ad_t : entsB (envT EB (mkT A3)) L3ad = true := by decide +kernel
theorem L3ad_ok : AllOK L3ad := entsB_ok (like_of okA3) L3ad_t
end
end Go.Ev
