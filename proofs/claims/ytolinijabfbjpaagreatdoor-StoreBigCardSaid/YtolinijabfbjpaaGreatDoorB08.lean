/- All calls up to rank 3. -/
import Derived.Test.YtolinijabfbjpaaGreatDoorB06
import Derived.Test.YtolinijabfbjpaaGreatDoorB07
set_option linter.all false
set_option maxRecDepth 1000000
set_option maxHeartbeats 0
namespace Go.Ev
noncomputable section
def A4 : List Ent := L3aa ++ (L3ab ++ (L3ac ++ (L3ad ++ (L3ae ++ A3))))
theorem okA4 : AllOK A4 := (L3aa_ok.app (L3ab_ok.app (L3ac_ok.app (L3ad_ok.app (L3ae_ok.app okA3)))))
end
end Go.Ev

/- Calls that are proved, rank 4. -/
set_option maxRecDepth 1000000
set_option maxHeartbeats 0
namespace Go.Ev
noncomputable section
def L4aa : List Ent := [
 N 40 0 x18 4 [(3,C 106 x39)] x8 4 [],
 N 40 0 x18 4 [(3,C 106 x3a)] x8 4 [],
 N 40 0 x18 4 [(3,C 106 [xh,x7,xh,x0,x0,x0,Z,x5,x0,x3y,x1,Z,x0,x1,x1,x1,x0,x0,x1,x1])] x8 4 [],
 N 40 0 x18 4 [(3,C 106 [xf,x7,xh,x0,x0,x0,Z,x7,x0,x50,x1,Z,x0,x1,x1,x1,x0,x0,x1,x1])] x8 4 [],
 N 40 0 x18 4 [(3,C 106 [xh,x7,xh,x0,x0,x0,Z,x7,x0,x50,x1,Z,x0,x1,x1,x1,x0,x0,x1,x1])] x8 4 [],
 N 83 0 x2n 4 x16 (.s [99,48]) 4 [],
 N 83 0 x31 4 xk (.s [99,48]) 4 [],
 N 103 0 [M 3,.a [x7,x7,x0,x0,xx,x0,x0,x1,x1,Z,x0,x1,x1,x1,x0,x0,x1,x1]] 5 [(4,xz),(3,.mp [(xf,.a [x7,.f 197 [] [],.f 198 [] [],.f 199 [] [],.f 200 [] []],0),(x5,.a [xh,.f 201 [] [],.f 202 [] [],.f 203 [] [],.f 204 [] []],1),(x7,.a [xf,.f 205 [] [],.f 206 [] [],.f 207 [] [],.f 208 [] []],2),(xh,.a [x5,.f 209 [] [],.f 210 [] [],.f 211 [] [],.f 212 [] []],3),(xg,.a [xg,.f 209 [] [],.f 213 [] [],.f 214 [] [],.f 215 [] []],4)] 5)] x2s 5 [],
 N 103 0 [M 3,.a [x7,xh,x0,x0,xx,x0,x0,x1,x1,Z,x0,x1,x1,x1,x0,x0,x1,x1]] 5 [(4,x11),(3,.mp [(xf,.a [x7,.f 197 [] [],.f 198 [] [],.f 199 [] [],.f 200 [] []],0),(x5,.a [xh,.f 201 [] [],.f 202 [] [],.f 203 [] [],.f 204 [] []],1),(x7,.a [xf,.f 205 [] [],.f 206 [] [],.f 207 [] [],.f 208 [] []],2),(xh,.a [x5,.f 209 [] [],.f 210 [] [],.f 211 [] [],.f 212 [] []],3),(xg,.a [xg,.f 209 [] [],.f 213 [] [],.f 214 [] [],.f 215 [] []],4)] 5)] x2u 5 [],
 N 103 0 [M 3,.a [x7,xf,x0,x0,xx,x0,x0,x1,x1,Z,x0,x1,x1,x1,x0,x0,x1,x1]] 5 [(4,x13),(3,.mp [(xf,.a [x7,.f 197 [] [],.f 198 [] [],.f 199 [] [],.f 200 [] []],0),(x5,.a [xh,.f 201 [] [],.f 202 [] [],.f 203 [] [],.f 204 [] []],1),(x7,.a [xf,.f 205 [] [],.f 206 [] [],.f 207 [] [],.f 208 [] []],2),(xh,.a [x5,.f 209 [] [],.f 210 [] [],.f 211 [] [],.f 212 [] []],3),(xg,.a [xg,.f 209 [] [],.f 213 [] [],.f 214 [] [],.f 215 [] []],4)] 5)] x2w 5 [],
 N 103 0 [M 3,.a [x7,x7,x0,x0,xu,x0,x0,x1,x1,Z,x0,x1,x1,x1,x0,x0,x1,x1]] 5 [(4,x1m),(3,.mp [(xf,.a [x7,.f 197 [] [],.f 198 [] [],.f 199 [] [],.f 200 [] []],0),(x5,.a [xh,.f 201 [] [],.f 202 [] [],.f 203 [] [],.f 204 [] []],1),(x7,.a [xf,.f 205 [] [],.f 206 [] [],.f 207 [] [],.f 208 [] []],2),(xh,.a [x5,.f 209 [] [],.f 210 [] [],.f 211 [] [],.f 212 [] []],3),(xg,.a [xg,.f 209 [] [],.f 213 [] [],.f 214 [] [],.f 215 [] []],4)] 5)] x2s 5 [],
 N 103 0 [M 3,.a [x7,xh,x0,x0,xu,x0,x0,x1,x1,Z,x0,x1,x1,x1,x0,x0,x1,x1]] 5 [(4,x1p),(3,.mp [(xf,.a [x7,.f 197 [] [],.f 198 [] [],.f 199 [] [],.f 200 [] []],0),(x5,.a [xh,.f 201 [] [],.f 202 [] [],.f 203 [] [],.f 204 [] []],1),(x7,.a [xf,.f 205 [] [],.f 206 [] [],.f 207 [] [],.f 208 [] []],2),(xh,.a [x5,.f 209 [] [],.f 210 [] [],.f 211 [] [],.f 212 [] []],3),(xg,.a [xg,.f 209 [] [],.f 213 [] [],.f 214 [] [],.f 215 [] []],4)] 5)] x2u 5 [],
 N 103 0 [M 3,.a [x7,xf,x0,x0,xu,x0,x0,x1,x1,Z,x0,x1,x1,x1,x0,x0,x1,x1]] 5 [(4,x1s),(3,.mp [(xf,.a [x7,.f 197 [] [],.f 198 [] [],.f 199 [] [],.f 200 [] []],0),(x5,.a [xh,.f 201 [] [],.f 202 [] [],.f 203 [] [],.f 204 [] []],1),(x7,.a [xf,.f 205 [] [],.f 206 [] [],.f 207 [] [],.f 208 [] []],2),(xh,.a [x5,.f 209 [] [],.f 210 [] [],.f 211 [] [],.f 212 [] []],3),(xg,.a [xg,.f 209 [] [],.f 213 [] [],.f 214 [] [],.f 215 [] []],4)] 5)] x2w 5 [],
 N 103 0 [M 3,.a [x7,x5,x0,x0,xx,x0,x0,x1,x1,Z,x0,x1,x1,x1,x0,x0,x1,x1]] 5 x4n x4o 5 [],
 N 103 0 [M 3,.a [x7,x5,x0,x0,xu,x0,x0,x1,x1,Z,x0,x1,x1,x1,x0,x0,x1,x1]] 5 x4v x4o 5 [],
 N 103 0 [M 3,.a [x7,xg,x0,x0,xx,x0,x0,x1,x1,Z,x0,x1,x1,x1,x0,x0,x1,x1]] 5 x4n x5s 5 [],
 N 103 0 [M 3,.a [x7,xg,x0,x0,xu,x0,x0,x1,x1,Z,x0,x1,x1,x1,x0,x0,x1,x1]] 5 x4v x5s 5 [],
 N 103 0 [M 3,.a [x7,I 6,x0,x0,xx,x0,x0,x1,x1,Z,x0,x1,x1,x1,x0,x0,x1,x1]] 5 x4n x6a 5 [],
 N 103 0 [M 3,.a [x7,I 6,x0,x0,xu,x0,x0,x1,x1,Z,x0,x1,x1,x1,x0,x0,x1,x1]] 5 x4v x6a 5 [],
 N 103 0 [M 3,.a [x7,I 7,x0,x0,xx,x0,x0,x1,x1,Z,x0,x1,x1,x1,x0,x0,x1,x1]] 5 x4n x6r 5 [],
 N 103 0 [M 3,.a [x7,I 7,x0,x0,xu,x0,x0,x1,x1,Z,x0,x1,x1,x1,x0,x0,x1,x1]] 5 x4v x6r 5 [],
 N 103 0 [M 3,.a [x7,x3,x0,x0,xx,x0,x0,x1,x1,Z,x0,x1,x1,x1,x0,x0,x1,x1]] 5 x4n x75 5 [],
 N 103 0 [M 3,.a [x7,x3,x0,x0,xu,x0,x0,x1,x1,Z,x0,x1,x1,x1,x0,x0,x1,x1]] 5 x4v x75 5 [],
 N 103 0 [M 3,.a [x7,I 9,x0,x0,xx,x0,x0,x1,x1,Z,x0,x1,x1,x1,x0,x0,x1,x1]] 5 x4n x7j 5 [],
 N 103 0 [M 3,.a [x7,I 9,x0,x0,xu,x0,x0,x1,x1,Z,x0,x1,x1,x1,x0,x0,x1,x1]] 5 x4v x7j 5 [],
 N 103 0 [M 3,.a [x7,x7d,x0,x0,xx,x0,x0,x1,x1,Z,x0,x1,x1,x1,x0,x0,x1,x1]] 5 x4n x7r 5 [],
 N 103 0 [M 3,.a [x7,x7d,x0,x0,xu,x0,x0,x1,x1,Z,x0,x1,x1,x1,x0,x0,x1,x1]] 5 x4v x7r 5 [],
 N 103 0 [M 3,.a [x7,x7l,x0,x0,xx,x0,x0,x1,x1,Z,x0,x1,x1,x1,x0,x0,x1,x1]] 5 x4n x7y 5 [],
 N 103 0 [M 3,.a [x7,x7l,x0,x0,xu,x0,x0,x1,x1,Z,x0,x1,x1,x1,x0,x0,x1,x1]] 5 x4v x7y 5 [],
 N 103 0 [M 3,.a [x7,x3u,x0,x0,xx,x0,x0,x1,x1,Z,x0,x1,x1,x1,x0,x0,x1,x1]] 5 x4n x85 5 [],
 N 103 0 [M 3,.a [x7,x3u,x0,x0,xu,x0,x0,x1,x1,Z,x0,x1,x1,x1,x0,x0,x1,x1]] 5 x4v x85 5 [],
 N 103 0 [M 3,.a [x7,x80,x0,x0,xx,x0,x0,x1,x1,Z,x0,x1,x1,x1,x0,x0,x1,x1]] 5 x4n x8a 5 [],
 N 103 0 [M 3,.a [x7,x80,x0,x0,xu,x0,x0,x1,x1,Z,x0,x1,x1,x1,x0,x0,x1,x1]] 5 x4v x8a 5 [],
 N 103 0 [M 3,.a [x7,x87,x0,x0,xx,x0,x0,x1,x1,Z,x0,x1,x1,x1,x0,x0,x1,x1]] 5 x4n x8e 5 [],
 N 103 0 [M 3,.a [x7,x87,x0,x0,xu,x0,x0,x1,x1,Z,x0,x1,x1,x1,x0,x0,x1,x1]] 5 x4v x8e 5 [],
 N 103 0 [M 3,.a [x7,I 15,x0,x0,xx,x0,x0,x1,x1,Z,x0,x1,x1,x1,x0,x0,x1,x1]] 5 x4n x8i 5 [],
 N 103 0 [M 3,.a [x7,I 15,x0,x0,xu,x0,x0,x1,x1,Z,x0,x1,x1,x1,x0,x0,x1,x1]] 5 x4v x8i 5 [],
 N 179 4 [x5h] 3 [] (.t [.a [x7,xf,xg,x3q,Z],x0]) 4 x5j,
 N 179 4 [x61] 3 [] (.t [.a [x7,xf,I 6,x3q,Z],x0]) 4 x5j,
 N 179 4 [x6i] 3 [] (.t [.a [x7,xf,I 7,x3q,Z],x0]) 4 x5j,
 N 179 4 [x6x] 3 [] (.t [.a [x7,xf,x3,x3q,Z],x0]) 4 x5j,
 N 179 4 [x7a] 3 [] (.t [.a [x7,xh,x5,x3q,Z],x0]) 4 x5j]
theorem L4aa_t : entsB (envT EB (mkT A4)) L4aa = true := by decide +kernel
theorem L4aa_ok : AllOK L4aa := entsB_ok (like_of okA4) L4aa_t
end
end Go.Ev

/- Calls that are proved, rank 4. -/
set_option maxRecDepth 1000000
set_option maxHeartbeats 0
namespace Go.Ev
noncomputable section
def L4ab : List Ent := [
 N 186 0 [x9,x3q] 5 [(3,D 102 x2p),(4,x15)] x3r 7 x3s,
 N 186 0 [x9,x3q] 5 [(3,D 102 x32),(4,xj)] x3r 7 x3s,
 N 229 0 [xt,x0] 5 xv (.t [.a [xa,xu,Z],x0]) 5 [],
 N 229 0 [x19,x0] 5 x1a (.t [.a [xa,xu,Z],x0]) 5 []]
theorem L4ab_t : entsB (envT EB (mkT A4)) L4ab = true := by decide +kernel
theorem L4ab_ok : AllOK L4ab := entsB_ok (like_of okA4) L4ab_t
end
end Go.Ev
