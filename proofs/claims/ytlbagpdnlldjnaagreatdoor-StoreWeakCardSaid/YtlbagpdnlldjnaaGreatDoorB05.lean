/- All calls up to rank 2. -/
import Derived.Test.YtlbagpdnlldjnaaGreatDoorB04
set_option linter.all false
set_option maxRecDepth 1000000
set_option maxHeartbeats 0
namespace Go.Ev
noncomputable section
def A3 : List Ent := L2aa ++ (L2ab ++ (L2ac ++ A2))
theorem okA3 : AllOK A3 := (L2aa_ok.app (L2ab_ok.app (L2ac_ok.app okA2)))
end
end Go.Ev
set_option maxRecDepth 1000000
set_option maxHeartbeats 0
namespace Go.Ev
noncomputable section
def L3aa : List Ent := [
 N 32 0 x6 14 x4b (.t [x7,S 15 0 1 2,x1,x1]) 16 [(14,x4d),(15,x45)],
 N 32 0 x6 14 x5l (.t [x7,S 15 0 2 2,x1,x1]) 16 [(14,x5m),(15,x53)]]
theorem L3aa_t : entsB (envT EB (mkT A3)) L3aa = true := by decide +kernel
theorem L3aa_ok : AllOK L3aa := entsB_ok (like_of okA3) L3aa_t
end
end Go.Ev
set_option maxRecDepth 1000000
set_option maxHeartbeats 0
namespace Go.Ev
noncomputable section
def L3ab : List Ent := [
 N 32 0 x6 14 x6a (.t [x7,S 15 0 3 2,x1,x1]) 16 [(14,x6b),(15,x63)],
 N 53 0 [.a [xb,x1,xb,xb,x1,x1,x1a,x1,x1,x4,x4,Z,x1,x4,x4,x4,x1,x1,x4,x4]] 13 x21 x3k 14 x23,
 N 53 0 [.a [xb,x1,xb,xb,x1,x1,xh,x1,x1,x4,x4,Z,x1,x4,x4,x4,x1,x1,x4,x4]] 13 x2a x3k 14 x23,
 N 53 0 [.a [xb,x1,xb,xn,x1,x1,x1a,x1,x1,x4,x4,Z,x1,x4,x4,x4,x1,x1,x4,x4]] 13 x24 x3n 14 x26,
 N 53 0 [.a [xb,x1,xb,xn,x1,x1,xh,x1,x1,x4,x4,Z,x1,x4,x4,x4,x1,x1,x4,x4]] 13 x2g x3n 14 x26,
 N 53 0 [.a [xb,x1,xb,xl,x1,x1,x1a,x1,x1,x4,x4,Z,x1,x4,x4,x4,x1,x1,x4,x4]] 13 x27 x3q 14 x29,
 N 53 0 [.a [xb,x1,xb,xl,x1,x1,xh,x1,x1,x4,x4,Z,x1,x4,x4,x4,x1,x1,x4,x4]] 13 x2j x3q 14 x29,
 N 53 0 [.a [xb,xb,xb,xb,x1,x1,x1a,x1,x1,x4,x4,Z,x1,x4,x4,x4,x1,x1,x4,x4]] 13 x21 (.a [xb,xb,xb,xb,x1,x1,x10,x1,x1,x4,x4,Z,x1,x4,x4,x4,x1,x1,x4,x4]) 14 x23,
 N 53 0 [.a [xb,xb,xb,xn,x1,x1,x1a,x1,x1,x4,x4,Z,x1,x4,x4,x4,x1,x1,x4,x4]] 13 x24 (.a [xb,xb,xb,xn,x1,x1,x10,x1,x1,x4,x4,Z,x1,x4,x4,x4,x1,x1,x4,x4]) 14 x26,
 N 53 0 [.a [xb,xb,xb,xl,x1,x1,x1a,x1,x1,x4,x4,Z,x1,x4,x4,x4,x1,x1,x4,x4]] 13 x27 (.a [xb,xb,xb,xl,x1,x1,x10,x1,x1,x4,x4,Z,x1,x4,x4,x4,x1,x1,x4,x4]) 14 x29,
 N 53 0 [.a [xn,x1,xb,xn,x1,x1,xh,x1,x1,x4,x4,Z,x1,x4,x4,x4,x1,x1,x4,x4]] 13 x4u (.a [xn,x1,xb,xn,x1,x1,x10,x1,x1,x4,x4,Z,x1,x4,x4,x4,x1,x1,x4,x4]) 14 [(13,x4s)],
 N 53 0 [.a [xl,x1,xb,xn,x1,x1,xh,x1,x1,x4,x4,Z,x1,x4,x4,x4,x1,x1,x4,x4]] 13 x4u (.a [xl,x1,xb,xn,x1,x1,x10,x1,x1,x4,x4,Z,x1,x4,x4,x4,x1,x1,x4,x4]) 14 [(13,x4s)],
 N 72 0 [Z,x1] 12 [] (.t [xd,x1]) 12 [],
 N 76 0 [xz] 14 x11 xc 14 [],
 N 76 0 [x1d] 14 x1e xc 14 [],
 N 105 0 [x3e] 12 [] (.s [114,97]) 12 [],
 N 105 0 [x3g] 12 [] (.s [114,104,111,109,101]) 12 [],
 N 105 0 [.a x5q] 12 [] (.s [110,107,101,112,116]) 12 [],
 N 125 0 [M 12,.a x34] 14 [(13,D 136 xo),(12,.mp [(xl,.a [xb,.f 233 [] [],.f 234 [] [],.f 235 [] [],.f 236 [] []],0),(x8,.a [xn,.f 237 [] [],.f 238 [] [],.f 239 [] [],.f 240 [] []],1),(xb,.a [xl,.f 241 [] [],.f 242 [] [],.f 243 [] [],.f 244 [] []],2),(xn,.a [x8,.f 245 [] [],.f 246 [] [],.f 247 [] [],.f 248 [] []],3),(xm,.a [xm,.f 245 [] [],.f 249 [] [],.f 250 [] [],.f 251 [] []],4)] 5)] x35 14 [],
 N 125 0 [M 12,.a [xl,x1,x1,x1,Z,x1,x1,x4,xg,x10,x1,x4,x4,x4,x1,x1,x4,x4]] 14 [(13,xp),(12,.mp [(xl,.a [xb,.f 233 [] [],.f 234 [] [],.f 235 [] [],.f 236 [] []],0),(x8,.a [xn,.f 237 [] [],.f 238 [] [],.f 239 [] [],.f 240 [] []],1),(xb,.a [xl,.f 241 [] [],.f 242 [] [],.f 243 [] [],.f 244 [] []],2),(xn,.a [x8,.f 245 [] [],.f 246 [] [],.f 247 [] [],.f 248 [] []],3),(xm,.a [xm,.f 245 [] [],.f 249 [] [],.f 250 [] [],.f 251 [] []],4)] 5)] x35 14 []]
theorem L3ab_t : entsB (envT EB (mkT A3)) L3ab = true := by decide +kernel
theorem L3ab_ok : AllOK L3ab := entsB_ok (like_of okA3) L3ab_t
end
end Go.Ev
set_option maxRecDepth 1000000
set_option maxHeartbeats 0
namespace Go.Ev
noncomputable section
def L3ac : List Ent := [
 N 330 0 [x0] 13 [(12,C 525 [x5w,x1])] x4z 14 [(12,C 525 [x5w,I 11]),(13,D 105 x5q)],
 N 365 0 [.a [xb,x1,x1,x1a]] 13 x21 x36 13 [],
 N 365 0 [.a [xn,x1,x1,x1a]] 13 x24 x39 13 [],
 N 365 0 [.a [xl,x1,x1,x1a]] 13 x27 x3c 13 [],
 N 365 0 x2l 13 x2a x36 13 [],
 N 365 0 x2o 13 x2g x39 13 [],
 N 365 0 x2p 13 x2j x3c 13 [],
 N 365 0 x2o 13 x4u x4x 13 [],
 N 365 0 [.a [xn,x1,x1,x1a]] 13 [(12,x54)] x4x 13 [],
 N 365 0 [.a [xb,x1,x1,x1a]] 13 [(12,D 35 x5d)] (.t [.s [2,0,0,10,2,2,6,4,0,10,0,4,2,120],x1]) 13 []]
theorem L3ac_t : entsB (envT EB (mkT A3)) L3ac = true := by decide +kernel
theorem L3ac_ok : AllOK L3ac := entsB_ok (like_of okA3) L3ac_t
end
end Go.Ev
set_option maxRecDepth 1000000
set_option maxHeartbeats 0
namespace Go.Ev
noncomputable section
def L3ad : List Ent := [
 N 382 0 x2c 20 [(18,C 246 [xg,xh,Z]),(17,C 3 [x1]),(16,C 24 [x1]),(15,C 33 [x2d]),(19,x22),(14,C 3 [x1]),(13,C 3 [x1]),(12,xp)] x2 20 x2e,
 N 382 0 x2c 20 [(18,C 246 [xg,xh,Z]),(17,C 3 [x1]),(16,C 24 [x1]),(15,C 33 [x2d]),(19,x25),(14,C 3 [x1]),(13,C 3 [x1]),(12,xp)] x2 20 x2e,
 N 382 0 x2c 20 [(18,C 246 [xg,xh,Z]),(17,C 3 [x1]),(16,C 24 [x1]),(15,C 33 [x2d]),(19,x28),(14,C 3 [x1]),(13,C 3 [x1]),(12,xp)] x2 20 x2e,
 N 382 0 x2c 20 [(18,C 246 [xg,xh,Z]),(17,C 3 [x1]),(16,C 24 [x1]),(15,C 33 [x2d]),(19,x4s),(14,C 3 [x1]),(13,C 3 [x1]),(12,xp)] x2 20 x2e,
 N 382 0 x2c 20 [(18,C 246 [xg,xh,Z]),(17,C 3 [x1]),(16,C 24 [x1]),(15,C 33 [x2d]),(19,C 35 x5d),(14,C 3 [x1]),(13,C 3 [x1]),(12,xp)] x2 20 x2e]
theorem L3ad_t : entsB (envT EB (mkT A3)) L3ad = true := by decide +kernel
theorem L3ad_ok : AllOK L3ad := entsB_ok (like_of okA3) L3ad_t
end
end Go.Ev
