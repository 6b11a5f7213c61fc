/- Calls that are proved, rank 3. -/
import Derived.Test.YtolinijabfbjpaaGreatDoorB05
set_option linter.all false
set_option maxRecDepth 1000000
set_option maxHeartbeats 0
namespace Go.Ev
noncomputable section
def L3aa : List Ent := [
 N 29 0 [x2,x3] 5 [(3,C 75 [K 4 0 32 32,Z,x4,x0]),(4,x3j)] (.t [P 5 0,S 6 0 1 2,x0,x0]) 7 [(5,C 176 ([x2,x3,x5,x7,x5]++x3c++[x7,x4,x4,x4])),(6,x3l)],
 N 44 0 [.a [x7,x0,x7,x7,x0,x0,x14,x0,x0,x1,x1,Z,x0,x1,x1,x1,x0,x0,x1,x1]] 4 [(3,xz)] x33 5 x1n,
 N 44 0 [.a [x7,x0,x7,x7,x0,x0,xb,x0,x0,x1,x1,Z,x0,x1,x1,x1,x0,x0,x1,x1]] 4 x1u x33 5 x1n,
 N 44 0 [.a [x7,x0,x7,xh,x0,x0,x14,x0,x0,x1,x1,Z,x0,x1,x1,x1,x0,x0,x1,x1]] 4 x1o x34 5 x1q,
 N 44 0 [.a [x7,x0,x7,xh,x0,x0,xb,x0,x0,x1,x1,Z,x0,x1,x1,x1,x0,x0,x1,x1]] 4 x1z x34 5 x1q,
 N 44 0 [.a [x7,x0,x7,xf,x0,x0,x14,x0,x0,x1,x1,Z,x0,x1,x1,x1,x0,x0,x1,x1]] 4 x1r x35 5 x1t,
 N 44 0 [.a [x7,x0,x7,xf,x0,x0,xb,x0,x0,x1,x1,Z,x0,x1,x1,x1,x0,x0,x1,x1]] 4 x21 x35 5 x1t,
 N 44 0 [.a [x7,x7,x7,x7,x0,x0,x14,x0,x0,x1,x1,Z,x0,x1,x1,x1,x0,x0,x1,x1]] 4 [(3,xz)] x4r 5 x1n,
 N 44 0 [.a [x7,x7,x7,xh,x0,x0,x14,x0,x0,x1,x1,Z,x0,x1,x1,x1,x0,x0,x1,x1]] 4 x1o x4s 5 x1q,
 N 44 0 [.a [x7,x7,x7,xf,x0,x0,x14,x0,x0,x1,x1,Z,x0,x1,x1,x1,x0,x0,x1,x1]] 4 x1r x4t 5 x1t,
 N 44 0 [.a [xh,x0,x7,x5,x0,x0,x14,x0,x0,x1,x1,Z,x0,x1,x1,x1,x0,x0,x1,x1]] 4 x44 x4u 5 x46,
 N 44 0 [.a [x7,x7,x7,x7,x0,x0,xb,x0,x0,x1,x1,Z,x0,x1,x1,x1,x0,x0,x1,x1]] 4 x1u x4r 5 x1n,
 N 44 0 [.a [x7,x7,x7,xh,x0,x0,xb,x0,x0,x1,x1,Z,x0,x1,x1,x1,x0,x0,x1,x1]] 4 x1z x4s 5 x1q,
 N 44 0 [.a [x7,x7,x7,xf,x0,x0,xb,x0,x0,x1,x1,Z,x0,x1,x1,x1,x0,x0,x1,x1]] 4 x21 x4t 5 x1t,
 N 44 0 [.a [xh,x0,x7,x5,x0,x0,xb,x0,x0,x1,x1,Z,x0,x1,x1,x1,x0,x0,x1,x1]] 4 x47 x4u 5 x46,
 N 44 0 [.a [xh,x0,x7,xg,x0,x0,x14,x0,x0,x1,x1,Z,x0,x1,x1,x1,x0,x0,x1,x1]] 4 x44 x5t 5 x46,
 N 44 0 [.a [xh,x0,x7,xg,x0,x0,xb,x0,x0,x1,x1,Z,x0,x1,x1,x1,x0,x0,x1,x1]] 4 x47 x5t 5 x46,
 N 44 0 [.a [xh,x0,x7,I 6,x0,x0,x14,x0,x0,x1,x1,Z,x0,x1,x1,x1,x0,x0,x1,x1]] 4 x44 x6b 5 x46,
 N 44 0 [.a [xh,x0,x7,I 6,x0,x0,xb,x0,x0,x1,x1,Z,x0,x1,x1,x1,x0,x0,x1,x1]] 4 x47 x6b 5 x46,
 N 44 0 [.a [xh,x0,x7,I 7,x0,x0,x14,x0,x0,x1,x1,Z,x0,x1,x1,x1,x0,x0,x1,x1]] 4 x44 x6s 5 x46,
 N 44 0 [.a [xh,x0,x7,I 7,x0,x0,xb,x0,x0,x1,x1,Z,x0,x1,x1,x1,x0,x0,x1,x1]] 4 x47 x6s 5 x46,
 N 44 0 [.a [xh,x0,x7,x3,x0,x0,x14,x0,x0,x1,x1,Z,x0,x1,x1,x1,x0,x0,x1,x1]] 4 x44 x76 5 x46,
 N 44 0 [.a [xh,x0,x7,x3,x0,x0,xb,x0,x0,x1,x1,Z,x0,x1,x1,x1,x0,x0,x1,x1]] 4 x47 x76 5 x46,
 N 44 0 [.a [xh,x0,x7,I 9,x0,x0,x14,x0,x0,x1,x1,Z,x0,x1,x1,x1,x0,x0,x1,x1]] 4 x44 x7k 5 x46,
 N 44 0 [.a [xh,x0,x7,I 9,x0,x0,xb,x0,x0,x1,x1,Z,x0,x1,x1,x1,x0,x0,x1,x1]] 4 x47 x7k 5 x46,
 N 44 0 [.a [xh,x0,x7,x7d,x0,x0,x14,x0,x0,x1,x1,Z,x0,x1,x1,x1,x0,x0,x1,x1]] 4 x44 x7s 5 x46,
 N 44 0 [.a [xh,x0,x7,x7d,x0,x0,xb,x0,x0,x1,x1,Z,x0,x1,x1,x1,x0,x0,x1,x1]] 4 x47 x7s 5 x46,
 N 44 0 [.a [xh,x0,x7,x7l,x0,x0,x14,x0,x0,x1,x1,Z,x0,x1,x1,x1,x0,x0,x1,x1]] 4 x44 x7z 5 x46,
 N 44 0 [.a [xh,x0,x7,x7l,x0,x0,xb,x0,x0,x1,x1,Z,x0,x1,x1,x1,x0,x0,x1,x1]] 4 x47 x7z 5 x46,
 N 44 0 [.a [xh,x0,x7,x3u,x0,x0,x14,x0,x0,x1,x1,Z,x0,x1,x1,x1,x0,x0,x1,x1]] 4 x44 x86 5 x46,
 N 44 0 [.a [xh,x0,x7,x3u,x0,x0,xb,x0,x0,x1,x1,Z,x0,x1,x1,x1,x0,x0,x1,x1]] 4 x47 x86 5 x46,
 N 44 0 [.a [xh,x0,x7,x80,x0,x0,x14,x0,x0,x1,x1,Z,x0,x1,x1,x1,x0,x0,x1,x1]] 4 x44 x8b 5 x46,
 N 44 0 [.a [xh,x0,x7,x80,x0,x0,xb,x0,x0,x1,x1,Z,x0,x1,x1,x1,x0,x0,x1,x1]] 4 x47 x8b 5 x46,
 N 44 0 [.a [xh,x0,x7,x87,x0,x0,x14,x0,x0,x1,x1,Z,x0,x1,x1,x1,x0,x0,x1,x1]] 4 x44 x8f 5 x46,
 N 44 0 [.a [xh,x0,x7,x87,x0,x0,xb,x0,x0,x1,x1,Z,x0,x1,x1,x1,x0,x0,x1,x1]] 4 x47 x8f 5 x46,
 N 44 0 [.a [xh,x0,x7,I 15,x0,x0,x14,x0,x0,x1,x1,Z,x0,x1,x1,x1,x0,x0,x1,x1]] 4 x44 x8j 5 x46,
 N 44 0 [.a [xh,x0,x7,I 15,x0,x0,xb,x0,x0,x1,x1,Z,x0,x1,x1,x1,x0,x0,x1,x1]] 4 x47 x8j 5 x46,
 N 58 0 [Z,x0] 3 [] (.t [x9,x0]) 3 [],
 N 83 0 [x2x] 3 [] (.s [114,97]) 3 [],
 N 83 0 [x2z] 3 [] (.s [114,104,111,109,101]) 3 [],
 N 83 0 [x4p] 3 [] (.s [114,98,105,103]) 3 [],
 N 83 0 [.a x54] 3 [] (.s [114,115,109,97,108,108]) 3 []]
theorem L3aa_t : entsB (envT EB (mkT A3)) L3aa = true := by decide +kernel
theorem L3aa_ok : AllOK L3aa := entsB_ok (like_of okA3) L3aa_t
end
end Go.Ev

/- Calls that are proved, rank 3. -/
set_option maxRecDepth 1000000
set_option maxHeartbeats 0
namespace Go.Ev
noncomputable section
def L3ac : List Ent := [
 N 319 0 x26 4 x21 x2v 4 [],
 N 319 0 [.a [x5,x0,x0,x14]] 4 x44 x4m 4 [],
 N 319 0 x4b 4 x47 x4m 4 [],
 N 319 0 [.a [xg,x0,x0,x14]] 4 x44 x5r 4 [],
 N 319 0 [.a [xg,x0,x0,xb]] 4 x47 x5r 4 [],
 N 319 0 [.a [I 6,x0,x0,x14]] 4 x44 x69 4 [],
 N 319 0 [.a [I 6,x0,x0,xb]] 4 x47 x69 4 [],
 N 319 0 [.a [I 7,x0,x0,x14]] 4 x44 x6q 4 [],
 N 319 0 [.a [I 7,x0,x0,xb]] 4 x47 x6q 4 []]
theorem L3ac_t : entsB (envT EB (mkT A3)) L3ac = true := by decide +kernel
theorem L3ac_ok : AllOK L3ac := entsB_ok (like_of okA3) L3ac_t
end
end Go.Ev

/- Calls that are proved, rank 3. -/
set_option maxRecDepth 1000000
set_option maxHeartbeats 0
namespace Go.Ev
noncomputable section
def L3ae : List Ent := [
 N 319 0 [.a [x3u,x0,x0,xb]] 4 x47 x84 4 [],
 N 319 0 [.a [x80,x0,x0,x14]] 4 x44 x89 4 [],
 N 319 0 [.a [x80,x0,x0,xb]] 4 x47 x89 4 [],
 N 319 0 [.a [x87,x0,x0,x14]] 4 x44 x8d 4 [],
 N 319 0 [.a [x87,x0,x0,xb]] 4 x47 x8d 4 [],
 N 319 0 [.a [I 15,x0,x0,x14]] 4 x44 x8h 4 [],
 N 319 0 [.a [I 15,x0,x0,xb]] 4 x47 x8h 4 [],
 N 337 0 x1v 11 [(9,C 215 [xa,xb,Z]),(8,C 3 [x0]),(7,C 24 [x0]),(6,C 31 [x1w]),(10,x1m),(5,C 3 [x0]),(4,C 3 [x0]),(3,xj)] x4 11 x1x,
 N 337 0 x1v 11 [(9,C 215 [xa,xb,Z]),(8,C 3 [x0]),(7,C 24 [x0]),(6,C 31 [x1w]),(10,x1p),(5,C 3 [x0]),(4,C 3 [x0]),(3,xj)] x4 11 x1x,
 N 337 0 x1v 11 [(9,C 215 [xa,xb,Z]),(8,C 3 [x0]),(7,C 24 [x0]),(6,C 31 [x1w]),(10,x1s),(5,C 3 [x0]),(4,C 3 [x0]),(3,xj)] x4 11 x1x,
 N 337 0 x1v 11 [(9,C 215 [xa,xb,Z]),(8,C 3 [x0]),(7,C 24 [x0]),(6,C 31 [x1w]),(10,x45),(5,C 3 [x0]),(4,C 3 [x0]),(3,xj)] x4 11 x1x]
theorem L3ae_t : entsB (envT EB (mkT A3)) L3ae = true := by decide +kernel
theorem L3ae_ok : AllOK L3ae := entsB_ok (like_of okA3) L3ae_t
end
end Go.Ev
