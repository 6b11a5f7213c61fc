/- All calls up to rank 2. -/
import Derived.Test.YtpamikcnbnkgkaaGreatDoorB04
set_option linter.all false
set_option maxRecDepth 1000000
set_option maxHeartbeats 0
namespace Go.Ev
noncomputable section
def A3 : List Ent := L2aa ++ (L2ab ++ (L2ac ++ (L2ad ++ A2)))
theorem okA3 : AllOK A3 := (L2aa_ok.app (L2ab_ok.app (L2ac_ok.app (L2ad_ok.app okA2))))
end
end Go.Ev
set_option maxRecDepth 1000000
set_option maxHeartbeats 0
namespace Go.Ev
noncomputable section
def L3aa : List Ent := [
 N 28 0 x4 14 [(12,C 75 [K 13 0 32 32,Z,x5,x0]),(13,x43)] (.t [x7,S 15 0 1 2,x0,x0]) 16 [(14,C 176 ([x2,x3,x9,xc,x9]++x3w++[xc,x5,x5,x5])),(15,x45)],
 N 44 0 [.a [xc,x0,xc,xc,x0,x0,x19,x0,x0,x1,x1,Z,x0,x1,x1,x1,x0,x0,x1,x1]] 13 x1q x3j 14 x1s,
 N 44 0 [.a [xc,x0,xc,xc,x0,x0,xg,x0,x0,x1,x1,Z,x0,x1,x1,x1,x0,x0,x1,x1]] 13 x1z x3j 14 x1s,
 N 44 0 [.a [xc,x0,xc,xm,x0,x0,x19,x0,x0,x1,x1,Z,x0,x1,x1,x1,x0,x0,x1,x1]] 13 x1t x3m 14 x1v,
 N 44 0 [.a [xc,x0,xc,xm,x0,x0,xg,x0,x0,x1,x1,Z,x0,x1,x1,x1,x0,x0,x1,x1]] 13 x29 x3m 14 x1v,
 N 44 0 [.a [xc,x0,xc,xk,x0,x0,x19,x0,x0,x1,x1,Z,x0,x1,x1,x1,x0,x0,x1,x1]] 13 x1w x3n 14 x1y,
 N 44 0 [.a [xc,x0,xc,xk,x0,x0,xg,x0,x0,x1,x1,Z,x0,x1,x1,x1,x0,x0,x1,x1]] 13 x2b x3n 14 x1y,
 N 44 0 [.a [xc,xc,xc,xc,x0,x0,x19,x0,x0,x1,x1,Z,x0,x1,x1,x1,x0,x0,x1,x1]] 13 x1q (.a [xc,xc,xc,xc,x0,x0,xz,x0,x0,x1,x1,Z,x0,x1,x1,x1,x0,x0,x1,x1]) 14 x1s,
 N 44 0 x4w 13 x1t x4x 14 x1v,
 N 44 0 x4y 13 x1w x4z 14 x1y,
 N 44 0 [.a [xm,x0,xc,xc,x0,x0,xg,x0,x0,x1,x1,Z,x0,x1,x1,x1,x0,x0,x1,x1]] 13 x1z (.a [xm,x0,xc,xc,x0,x0,xz,x0,x0,x1,x1,Z,x0,x1,x1,x1,x0,x0,x1,x1]) 14 x1s,
 N 44 0 [.a [xm,xc,xc,xc,x0,x0,x19,x0,x0,x1,x1,Z,x0,x1,x1,x1,x0,x0,x1,x1]] 13 x1q (.a x52) 14 x1s,
 N 44 0 [.a [xk,x0,xc,xc,x0,x0,xg,x0,x0,x1,x1,Z,x0,x1,x1,x1,x0,x0,x1,x1]] 13 x5f (.a [xk,x0,xc,xc,x0,x0,xz,x0,x0,x1,x1,Z,x0,x1,x1,x1,x0,x0,x1,x1]) 14 [(13,x5d)],
 N 44 0 [.a [xk,xc,xc,xc,x0,x0,x19,x0,x0,x1,x1,Z,x0,x1,x1,x1,x0,x0,x1,x1]] 13 [(12,x5o)] (.a x5i) 14 [(13,x5d)],
 N 44 0 [.a [x9,x0,xc,xc,x0,x0,xg,x0,x0,x1,x1,Z,x0,x1,x1,x1,x0,x0,x1,x1]] 13 x5x (.a [x9,x0,xc,xc,x0,x0,xz,x0,x0,x1,x1,Z,x0,x1,x1,x1,x0,x0,x1,x1]) 14 [(13,x5v)],
 N 44 0 [.a [x9,xm,xc,xc,x0,x0,x19,x0,x0,x1,x1,Z,x0,x1,x1,x1,x0,x0,x1,x1]] 13 [(12,x6b)] (.a [x9,xm,xc,xc,x0,x0,xz,x0,x0,x1,x1,Z,x0,x1,x1,x1,x0,x0,x1,x1]) 14 [(13,x5v)],
 N 44 0 [.a [xl,x0,xc,xc,x0,x0,xg,x0,x0,x1,x1,Z,x0,x1,x1,x1,x0,x0,x1,x1]] 13 x6i (.a [xl,x0,xc,xc,x0,x0,xz,x0,x0,x1,x1,Z,x0,x1,x1,x1,x0,x0,x1,x1]) 14 [(13,x6g)],
 N 44 0 [.a [xl,xm,xc,xc,x0,x0,x19,x0,x0,x1,x1,Z,x0,x1,x1,x1,x0,x0,x1,x1]] 13 [(12,x6t)] (.a [xl,xm,xc,xc,x0,x0,xz,x0,x0,x1,x1,Z,x0,x1,x1,x1,x0,x0,x1,x1]) 14 [(13,x6g)],
 N 44 0 [.a [I 6,x0,xc,xc,x0,x0,xg,x0,x0,x1,x1,Z,x0,x1,x1,x1,x0,x0,x1,x1]] 13 x6z (.a [I 6,x0,xc,xc,x0,x0,xz,x0,x0,x1,x1,Z,x0,x1,x1,x1,x0,x0,x1,x1]) 14 [(13,x6x)],
 N 44 0 [.a [I 6,xm,xc,xc,x0,x0,x19,x0,x0,x1,x1,Z,x0,x1,x1,x1,x0,x0,x1,x1]] 13 [(12,x79)] (.a [I 6,xm,xc,xc,x0,x0,xz,x0,x0,x1,x1,Z,x0,x1,x1,x1,x0,x0,x1,x1]) 14 [(13,x6x)],
 N 44 0 [.a [I 7,x0,xc,xc,x0,x0,xg,x0,x0,x1,x1,Z,x0,x1,x1,x1,x0,x0,x1,x1]] 13 x7f (.a [I 7,x0,xc,xc,x0,x0,xz,x0,x0,x1,x1,Z,x0,x1,x1,x1,x0,x0,x1,x1]) 14 [(13,x7d)],
 N 44 0 [.a [I 7,xk,xc,xc,x0,x0,x19,x0,x0,x1,x1,Z,x0,x1,x1,x1,x0,x0,x1,x1]] 13 [(12,x7v)] (.a [I 7,xk,xc,xc,x0,x0,xz,x0,x0,x1,x1,Z,x0,x1,x1,x1,x0,x0,x1,x1]) 14 [(13,x7d)],
 N 44 0 [.a [x3,x0,xc,xc,x0,x0,xg,x0,x0,x1,x1,Z,x0,x1,x1,x1,x0,x0,x1,x1]] 13 x81 (.a [x3,x0,xc,xc,x0,x0,xz,x0,x0,x1,x1,Z,x0,x1,x1,x1,x0,x0,x1,x1]) 14 [(13,x7z)],
 N 44 0 [.a [x3,xk,xc,xc,x0,x0,x19,x0,x0,x1,x1,Z,x0,x1,x1,x1,x0,x0,x1,x1]] 13 [(12,x8c)] (.a [x3,xk,xc,xc,x0,x0,xz,x0,x0,x1,x1,Z,x0,x1,x1,x1,x0,x0,x1,x1]) 14 [(13,x7z)],
 N 44 0 [.a [I 9,x0,xc,xc,x0,x0,xg,x0,x0,x1,x1,Z,x0,x1,x1,x1,x0,x0,x1,x1]] 13 x8i (.a [I 9,x0,xc,xc,x0,x0,xz,x0,x0,x1,x1,Z,x0,x1,x1,x1,x0,x0,x1,x1]) 14 [(13,x8g)],
 N 44 0 [.a [I 9,xk,xc,xc,x0,x0,x19,x0,x0,x1,x1,Z,x0,x1,x1,x1,x0,x0,x1,x1]] 13 [(12,x8u)] (.a [I 9,xk,xc,xc,x0,x0,xz,x0,x0,x1,x1,Z,x0,x1,x1,x1,x0,x0,x1,x1]) 14 [(13,x8g)],
 N 44 0 x94 13 x90 x95 14 [(13,x8y)],
 N 44 0 [.a [xc,x9,xc,xm,x0,x0,x19,x0,x0,x1,x1,Z,x0,x1,x1,x1,x0,x0,x1,x1]] 13 x1t (.a [xc,x9,xc,xm,x0,x0,xz,x0,x0,x1,x1,Z,x0,x1,x1,x1,x0,x0,x1,x1]) 14 x1v,
 N 44 0 [.a [xc,x9,xc,xk,x0,x0,x19,x0,x0,x1,x1,Z,x0,x1,x1,x1,x0,x0,x1,x1]] 13 x1w (.a [xc,x9,xc,xk,x0,x0,xz,x0,x0,x1,x1,Z,x0,x1,x1,x1,x0,x0,x1,x1]) 14 x1y,
 N 44 0 x94 13 xa7 x95 14 [(13,xa5)],
 N 44 0 [.a [x93,x9,xc,xc,x0,x0,x19,x0,x0,x1,x1,Z,x0,x1,x1,x1,x0,x0,x1,x1]] 13 [(12,xc4)] (.a [x93,x9,xc,xc,x0,x0,xz,x0,x0,x1,x1,Z,x0,x1,x1,x1,x0,x0,x1,x1]) 14 [(13,x8y)],
 N 44 0 [.a [xai,x0,xc,xc,x0,x0,xg,x0,x0,x1,x1,Z,x0,x1,x1,x1,x0,x0,x1,x1]] 13 xca (.a [xai,x0,xc,xc,x0,x0,xz,x0,x0,x1,x1,Z,x0,x1,x1,x1,x0,x0,x1,x1]) 14 [(13,xc8)],
 N 44 0 [.a [xai,x9,xc,xc,x0,x0,x19,x0,x0,x1,x1,Z,x0,x1,x1,x1,x0,x0,x1,x1]] 13 [(12,xck)] (.a [xai,x9,xc,xc,x0,x0,xz,x0,x0,x1,x1,Z,x0,x1,x1,x1,x0,x0,x1,x1]) 14 [(13,xc8)],
 N 44 0 [.a [xak,x0,xc,xc,x0,x0,xg,x0,x0,x1,x1,Z,x0,x1,x1,x1,x0,x0,x1,x1]] 13 xcq (.a [xak,x0,xc,xc,x0,x0,xz,x0,x0,x1,x1,Z,x0,x1,x1,x1,x0,x0,x1,x1]) 14 [(13,xco)],
 N 44 0 [.a [xak,x9,xc,xc,x0,x0,x19,x0,x0,x1,x1,Z,x0,x1,x1,x1,x0,x0,x1,x1]] 13 [(12,xd2)] (.a [xak,x9,xc,xc,x0,x0,xz,x0,x0,x1,x1,Z,x0,x1,x1,x1,x0,x0,x1,x1]) 14 [(13,xco)],
 N 44 0 xdb 13 xd8 xdc 14 [(13,xd6)],
 N 44 0 [.a [xc,xl,xc,xm,x0,x0,x19,x0,x0,x1,x1,Z,x0,x1,x1,x1,x0,x0,x1,x1]] 13 x1t (.a [xc,xl,xc,xm,x0,x0,xz,x0,x0,x1,x1,Z,x0,x1,x1,x1,x0,x0,x1,x1]) 14 x1v,
 N 44 0 [.a [xc,xl,xc,xk,x0,x0,x19,x0,x0,x1,x1,Z,x0,x1,x1,x1,x0,x0,x1,x1]] 13 x1w (.a [xc,xl,xc,xk,x0,x0,xz,x0,x0,x1,x1,Z,x0,x1,x1,x1,x0,x0,x1,x1]) 14 x1y,
 N 44 0 xdb 13 xa7 xdc 14 [(13,xa5)],
 N 44 0 [.a [xam,xl,xc,xc,x0,x0,x19,x0,x0,x1,x1,Z,x0,x1,x1,x1,x0,x0,x1,x1]] 13 [(12,xef)] (.a [xam,xl,xc,xc,x0,x0,xz,x0,x0,x1,x1,Z,x0,x1,x1,x1,x0,x0,x1,x1]) 14 [(13,xd6)],
 N 44 0 [.a [xao,x0,xc,xc,x0,x0,xg,x0,x0,x1,x1,Z,x0,x1,x1,x1,x0,x0,x1,x1]] 13 xel (.a [xao,x0,xc,xc,x0,x0,xz,x0,x0,x1,x1,Z,x0,x1,x1,x1,x0,x0,x1,x1]) 14 [(13,xej)],
 N 44 0 [.a [xao,xl,xc,xc,x0,x0,x19,x0,x0,x1,x1,Z,x0,x1,x1,x1,x0,x0,x1,x1]] 13 [(12,xet)] (.a [xao,xl,xc,xc,x0,x0,xz,x0,x0,x1,x1,Z,x0,x1,x1,x1,x0,x0,x1,x1]) 14 [(13,xej)],
 N 44 0 [.a [xaq,x0,xc,xc,x0,x0,xg,x0,x0,x1,x1,Z,x0,x1,x1,x1,x0,x0,x1,x1]] 13 xez (.a [xaq,x0,xc,xc,x0,x0,xz,x0,x0,x1,x1,Z,x0,x1,x1,x1,x0,x0,x1,x1]) 14 [(13,xex)],
 N 44 0 [.a [xaq,xl,xc,xc,x0,x0,x19,x0,x0,x1,x1,Z,x0,x1,x1,x1,x0,x0,x1,x1]] 13 [(12,xf8)] (.a [xaq,xl,xc,xc,x0,x0,xz,x0,x0,x1,x1,Z,x0,x1,x1,x1,x0,x0,x1,x1]) 14 [(13,xex)],
 N 44 0 xfe 13 xfd xff 14 [(13,xfb)],
 N 44 0 [.a [xc,I 6,xc,xm,x0,x0,x19,x0,x0,x1,x1,Z,x0,x1,x1,x1,x0,x0,x1,x1]] 13 x1t (.a [xc,I 6,xc,xm,x0,x0,xz,x0,x0,x1,x1,Z,x0,x1,x1,x1,x0,x0,x1,x1]) 14 x1v,
 N 44 0 [.a [xc,I 6,xc,xk,x0,x0,x19,x0,x0,x1,x1,Z,x0,x1,x1,x1,x0,x0,x1,x1]] 13 x1w (.a [xc,I 6,xc,xk,x0,x0,xz,x0,x0,x1,x1,Z,x0,x1,x1,x1,x0,x0,x1,x1]) 14 x1y,
 N 44 0 xfe 13 xa7 xff 14 [(13,xa5)]]
theorem L3aa_t : entsB (envT EB (mkT A3)) L3aa = true := by decide +kernel
theorem L3aa_ok : AllOK L3aa := entsB_ok (like_of okA3) L3aa_t
end
end Go.Ev
set_option maxRecDepth 1000000
set_option maxHeartbeats 0
namespace Go.Ev
noncomputable section
def L3ab : List Ent := [
 N 58 0 [Z,x0] 12 [] (.t [xe,x0]) 12 [],
 N 83 0 [x3b] 12 [] (.s [114,97]) 12 [],
 N 83 0 [x3d] 12 [] (.s [114,104,111,109,101]) 12 [],
 N 103 0 [M 12,.a x30] 14 [(13,x1a),(12,.mp [(xk,.a [xc,.f 197 [] [],.f 198 [] [],.f 199 [] [],.f 200 [] []],0),(x9,.a [xm,.f 201 [] [],.f 202 [] [],.f 203 [] [],.f 204 [] []],1),(xc,.a [xk,.f 205 [] [],.f 206 [] [],.f 207 [] [],.f 208 [] []],2),(xm,.a [x9,.f 209 [] [],.f 210 [] [],.f 211 [] [],.f 212 [] []],3),(xl,.a [xl,.f 209 [] [],.f 213 [] [],.f 214 [] [],.f 215 [] []],4)] 5)] x31 14 [],
 N 103 0 [M 12,.a [xk,x0,x0,x0,Z,x0,x0,x1,xf,xz,x0,x1,x1,x1,x0,x0,x1,x1]] 14 [(13,xo),(12,.mp [(xk,.a [xc,.f 197 [] [],.f 198 [] [],.f 199 [] [],.f 200 [] []],0),(x9,.a [xm,.f 201 [] [],.f 202 [] [],.f 203 [] [],.f 204 [] []],1),(xc,.a [xk,.f 205 [] [],.f 206 [] [],.f 207 [] [],.f 208 [] []],2),(xm,.a [x9,.f 209 [] [],.f 210 [] [],.f 211 [] [],.f 212 [] []],3),(xl,.a [xl,.f 209 [] [],.f 213 [] [],.f 214 [] [],.f 215 [] []],4)] 5)] x31 14 [],
 N 245 0 [xy] 14 x10 xd 14 [],
 N 245 0 [x1d] 14 x1e xd 14 [],
 N 319 0 x32 13 x1q x33 13 [],
 N 319 0 [.a [xm,x0,x0,x19]] 13 x1t x37 13 [],
 N 319 0 [.a [xk,x0,x0,x19]] 13 x1w x39 13 [],
 N 319 0 x2d 13 x1z x33 13 [],
 N 319 0 x2g 13 x29 x37 13 [],
 N 319 0 x2i 13 x2b x39 13 [],
 N 319 0 x2d 13 x5f x5g 13 [],
 N 319 0 x32 13 [(12,x5o)] x5g 13 []]
theorem L3ab_t : entsB (envT EB (mkT A3)) L3ab = true := by decide +kernel
theorem L3ab_ok : AllOK L3ab := entsB_ok (like_of okA3) L3ab_t
end
end Go.Ev
set_option maxRecDepth 1000000
set_option maxHeartbeats 0
namespace Go.Ev
noncomputable section
def L3ac : List Ent := [
 N 319 0 x2d 13 x5x x5y 13 [],
 N 319 0 x32 13 [(12,x6b)] x5y 13 [],
 N 319 0 x2d 13 x6i x6k 13 [],
 N 319 0 x32 13 [(12,x6t)] x6k 13 [],
 N 319 0 x2d 13 x6z x70 13 [],
 N 319 0 x32 13 [(12,x79)] x70 13 [],
 N 319 0 x2d 13 x7f x7g 13 [],
 N 319 0 x32 13 [(12,x7v)] x7g 13 [],
 N 319 0 x2d 13 x81 x82 13 []]
theorem L3ac_t : entsB (envT EB (mkT A3)) L3ac = true := by decide +kernel
theorem L3ac_ok : AllOK L3ac := entsB_ok (like_of okA3) L3ac_t
end
end Go.Ev
set_option maxRecDepth 1000000
set_option maxHeartbeats 0
namespace Go.Ev
noncomputable section
def L3ad : List Ent := [
 N 319 0 x32 13 [(12,x8c)] x82 13 [],
 N 319 0 x2d 13 x8i x8j 13 [],
 N 319 0 x32 13 [(12,x8u)] x8j 13 [],
 N 319 0 x2d 13 x90 x91 13 [],
 N 319 0 x2d 13 xa7 (.t [.s [2,0,0,10,2,198,1,6,4,8,6,10,0,4,2,120],x0]) 13 [],
 N 319 0 x32 13 [(12,xc4)] x91 13 [],
 N 319 0 x2d 13 xca xcb 13 [],
 N 319 0 x32 13 [(12,xck)] xcb 13 [],
 N 319 0 x2d 13 xcq xcr 13 []]
theorem L3ad_t : entsB (envT EB (mkT A3)) L3ad = true := by decide +kernel
theorem L3ad_ok : AllOK L3ad := entsB_ok (like_of okA3) L3ad_t
end
end Go.Ev
set_option maxRecDepth 1000000
set_option maxHeartbeats 0
namespace Go.Ev
noncomputable section
def L3ae : List Ent := [
 N 319 0 x32 13 [(12,xd2)] xcr 13 [],
 N 319 0 x2d 13 xd8 xd9 13 [],
 N 319 0 x32 13 [(12,xef)] xd9 13 [],
 N 319 0 x2d 13 xel xem 13 [],
 N 319 0 x32 13 [(12,xet)] xem 13 [],
 N 319 0 x2d 13 xez xf0 13 [],
 N 319 0 x32 13 [(12,xf8)] xf0 13 [],
 N 319 0 x2d 13 xfd (.t [.s [2,0,0,10,2,30,6,4,8,6,10,0,4,2,120],x0]) 13 [],
 N 337 0 x24 20 [(18,C 215 [xf,xg,Z]),(17,C 3 [x0]),(16,C 24 [x0]),(15,C 35 [K 19 0 5 5]),(19,x1r),(14,C 3 [x0]),(13,C 3 [x0]),(12,xo)] x5 20 x25,
 N 337 0 x24 20 [(18,C 215 [xf,xg,Z]),(17,C 3 [x0]),(16,C 24 [x0]),(15,C 35 [K 19 0 5 5]),(19,x1u),(14,C 3 [x0]),(13,C 3 [x0]),(12,xo)] x5 20 x25,
 N 337 0 x24 20 [(18,C 215 [xf,xg,Z]),(17,C 3 [x0]),(16,C 24 [x0]),(15,C 35 [K 19 0 5 5]),(19,x1x),(14,C 3 [x0]),(13,C 3 [x0]),(12,xo)] x5 20 x25,
 N 337 0 x24 20 [(18,C 215 [xf,xg,Z]),(17,C 3 [x0]),(16,C 24 [x0]),(15,C 35 [K 19 0 5 5]),(19,x5d),(14,C 3 [x0]),(13,C 3 [x0]),(12,xo)] x5 20 x25,
 N 337 0 x24 20 [(18,C 215 [xf,xg,Z]),(17,C 3 [x0]),(16,C 24 [x0]),(15,C 35 [K 19 0 5 5]),(19,x5v),(14,C 3 [x0]),(13,C 3 [x0]),(12,xo)] x5 20 x25,
 N 337 0 x24 20 [(18,C 215 [xf,xg,Z]),(17,C 3 [x0]),(16,C 24 [x0]),(15,C 35 [K 19 0 5 5]),(19,x6g),(14,C 3 [x0]),(13,C 3 [x0]),(12,xo)] x5 20 x25,
 N 337 0 x24 20 [(18,C 215 [xf,xg,Z]),(17,C 3 [x0]),(16,C 24 [x0]),(15,C 35 [K 19 0 5 5]),(19,x6x),(14,C 3 [x0]),(13,C 3 [x0]),(12,xo)] x5 20 x25,
 N 337 0 x24 20 [(18,C 215 [xf,xg,Z]),(17,C 3 [x0]),(16,C 24 [x0]),(15,C 35 [K 19 0 5 5]),(19,x7d),(14,C 3 [x0]),(13,C 3 [x0]),(12,xo)] x5 20 x25,
 N 337 0 x24 20 [(18,C 215 [xf,xg,Z]),(17,C 3 [x0]),(16,C 24 [x0]),(15,C 35 [K 19 0 5 5]),(19,x7z),(14,C 3 [x0]),(13,C 3 [x0]),(12,xo)] x5 20 x25,
 N 337 0 x24 20 [(18,C 215 [xf,xg,Z]),(17,C 3 [x0]),(16,C 24 [x0]),(15,C 35 [K 19 0 5 5]),(19,x8g),(14,C 3 [x0]),(13,C 3 [x0]),(12,xo)] x5 20 x25,
 N 337 0 x24 20 [(18,C 215 [xf,xg,Z]),(17,C 3 [x0]),(16,C 24 [x0]),(15,C 35 [K 19 0 5 5]),(19,x8y),(14,C 3 [x0]),(13,C 3 [x0]),(12,xo)] x5 20 x25,
 N 337 0 x24 20 [(18,C 215 [xf,xg,Z]),(17,C 3 [x0]),(16,C 24 [x0]),(15,C 35 [K 19 0 5 5]),(19,xa5),(14,C 3 [x0]),(13,C 3 [x0]),(12,xo)] x5 20 x25,
 N 337 0 x24 20 [(18,C 215 [xf,xg,Z]),(17,C 3 [x0]),(16,C 24 [x0]),(15,C 35 [K 19 0 5 5]),(19,xc8),(14,C 3 [x0]),(13,C 3 [x0]),(12,xo)] x5 20 x25]
theorem L3ae_t : entsB (envT EB (mkT A3)) L3ae = true := by decide +kernel
theorem L3ae_ok : AllOK L3ae := entsB_ok (like_of okA3) L3ae_t
end
end Go.Ev
set_option maxRecDepth 1000000
set_option maxHeartbeats 0
namespace Go.Ev
noncomputable section
def L3af : List Ent := [
 N 337 0 x24 20 [(18,C 215 [xf,xg,Z]),(17,C 3 [x0]),(16,C 24 [x0]),(15,C 35 [K 19 0 5 5]),(19,xco),(14,C 3 [x0]),(13,C 3 [x0]),(12,xo)] x5 20 x25,
 N 337 0 x24 20 [(18,C 215 [xf,xg,Z]),(17,C 3 [x0]),(16,C 24 [x0]),(15,C 35 [K 19 0 5 5]),(19,xd6),(14,C 3 [x0]),(13,C 3 [x0]),(12,xo)] x5 20 x25,
 N 337 0 x24 20 [(18,C 215 [xf,xg,Z]),(17,C 3 [x0]),(16,C 24 [x0]),(15,C 35 [K 19 0 5 5]),(19,xej),(14,C 3 [x0]),(13,C 3 [x0]),(12,xo)] x5 20 x25,
 N 337 0 x24 20 [(18,C 215 [xf,xg,Z]),(17,C 3 [x0]),(16,C 24 [x0]),(15,C 35 [K 19 0 5 5]),(19,xex),(14,C 3 [x0]),(13,C 3 [x0]),(12,xo)] x5 20 x25,
 N 337 0 x24 20 [(18,C 215 [xf,xg,Z]),(17,C 3 [x0]),(16,C 24 [x0]),(15,C 35 [K 19 0 5 5]),(19,xfb),(14,C 3 [x0]),(13,C 3 [x0]),(12,xo)] x5 20 x25]
theorem L3af_t : entsB (envT EB (mkT A3)) L3af = true := by decide +kernel
theorem L3af_ok : AllOK L3af := entsB_ok (like_of okA3) L3af_t
end
end Go.Ev
