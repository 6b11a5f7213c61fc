/- All calls up to rank 4. -/
import Derived.Test.YtlbagpdnlldjnaaGreatDoorB06
set_option linter.all false
set_option maxRecDepth 1000000
set_option maxHeartbeats 0
namespace Go.Ev
noncomputable section
def A5 : List Ent := L4aa ++ A4
theorem okA5 : AllOK A5 := (L4aa_ok.app okA4)
end
end Go.Ev
set_option maxRecDepth 1000000
set_option maxHeartbeats 0
namespace Go.Ev
noncomputable section
def L5aa : List Ent := [
 N 49 0 x1c 14 [(12,C 109 x3h),(13,xp)] xc 14 [],
 N 49 0 x1c 14 [(12,C 109 [xb,xb,xl,x1,x1,x1,Z,x1,x1,x4,xg,x13,x1,x4,x4,x4,x1,x1,x4,x4]),(13,D 136 xo)] xc 14 [],
 N 64 0 [x1d,.a [xb,x1,x1,x10]] 15 [(13,x22),(12,C 246 [xg,x12,Z]),(14,xp)] x2f 16 [(15,x22)],
 N 64 0 x2h 15 [(13,x25),(12,C 246 [xg,x12,Z]),(14,xp)] x2i 16 [(15,x25)],
 N 64 0 [x1d,.a [xl,x1,x1,x10]] 15 [(13,x28),(12,C 246 [xg,x12,Z]),(14,xp)] x2k 16 [(15,x28)],
 N 64 0 [x1d,.a [xb,x1,x1,x13]] 15 x1p x2f 16 [(15,x22)],
 N 64 0 x1v 15 x1w x2i 16 [(15,x25)],
 N 64 0 [x1d,.a [xl,x1,x1,x13]] 15 x20 x2k 16 [(15,x28)],
 N 64 0 x2h 15 x4t x2i 16 [(15,x4s)],
 N 64 0 x1v 15 [(13,x54),(12,C 246 [xg,x12,Z]),(14,xp)] x2i 16 [(15,x4s)],
 N 64 0 [x1d,.a [xb,x1,x1,x10]] 15 [(13,C 35 x5d),(12,C 246 [xg,x12,Z]),(14,xp)] x2f 16 [(15,C 35 x5d)],
 N 105 0 x3j 13 x21 (.s [111,49]) 13 [],
 N 105 0 [.a [xb,xb,x1,x1,xh,x1,x1,x4,x4,Z,x1,x4,x4,x4,x1,x1,x4,x4]] 13 x2a (.s [111,49]) 13 [],
 N 105 0 x3l 13 x24 x3m 13 [],
 N 105 0 x3p 13 x2g x3m 13 [],
 N 105 0 [.a [xb,xl,x1,x1,x1a,x1,x1,x4,x4,Z,x1,x4,x4,x4,x1,x1,x4,x4]] 13 x27 (.s [111,51]) 13 [],
 N 105 0 [.a [xb,xl,x1,x1,xh,x1,x1,x4,x4,Z,x1,x4,x4,x4,x1,x1,x4,x4]] 13 x2j (.s [111,51]) 13 [],
 N 105 0 x3p 13 x4u x3m 13 [],
 N 105 0 x3l 13 [(12,x54)] x3m 13 [],
 N 105 0 x3j 13 [(12,D 35 x5d)] (.s [111,49]) 13 [],
 N 314 0 [xz,x1,x1] 14 x11 (.t [.a [xg,x12],x1]) 15 [(14,xp)],
 N 314 0 [x1d,x1,x1] 14 x1e (.t [.a [xg,x12],x1]) 15 [(14,xp)]]
theorem L5aa_t : entsB (envT EB (mkT A5)) L5aa = true := by decide +kernel
theorem L5aa_ok : AllOK L5aa := entsB_ok (like_of okA5) L5aa_t
end
end Go.Ev
set_option maxRecDepth 1000000
set_option maxHeartbeats 0
namespace Go.Ev
noncomputable section
def L5ab : List Ent := [
 N 330 0 [x0] 13 [(12,C 525 [x44,x1])] (.a [xb,xb,x8,S 13 0 6 18,Z]) 18 [(12,C 525 [x44,I 95]),(13,D 105 [xl,x1,x1,x1,Z,x1,x1,x4,xg,x2q,x1,x4,x4,x4,x1,x1,x4,x4,xb,xb,x1,x1,x2r,x1,x1,x4,x4,Z,x1,x4,x4,x4,x1,x1,x4,x4,xb,xn,x1,x1,x2s,x1,x1,x4,x4,Z,x1,x4,x4,x4,x1,x1,x4,x4,xb,xl,x1,x1,x46,x1,x1,x4,x4,Z,x1,x4,x4,x4,x1,x1,x4,x4,xn,x1,x1,x1,Z,xn,x1,xj,x4,Z,x1,x4,x4,x4,x1,x1,x4,x4,xn,x1,x1,x1,Z,xb,x1,xy,x4,Z,x1,x4,x4,x4,x1,x1,x4,x4]),(14,D 136 xo),(15,x15),(16,x17),(17,x19)]]
theorem L5ab_t : entsB (envT EB (mkT A5)) L5ab = true := by decide +kernel
theorem L5ab_ok : AllOK L5ab := entsB_ok (like_of okA5) L5ab_t
end
end Go.Ev
set_option maxRecDepth 1000000
set_option maxHeartbeats 0
namespace Go.Ev
noncomputable section
def L5ac : List Ent := [
 N 330 0 [x0] 13 [(12,C 525 [x52,x1])] x4z 15 [(12,C 525 [x52,I 19]),(13,D 105 [xb,xn,x1,x1,x2q,x1,x1,x4,x4,Z,x1,x4,x4,x4,x1,x1,x4,x4]),(14,x54)],
 N 330 0 [x0] 13 [(12,C 525 [x62,x1])] x60 15 [(12,C 525 [x62,I 19]),(13,D 105 [xb,xn,x1,x1,x2q,x1,x1,x4,x4,Z,x1,x4,x4,x4,x1,x1,x4,x4]),(14,x54)]]
theorem L5ac_t : entsB (envT EB (mkT A5)) L5ac = true := by decide +kernel
theorem L5ac_ok : AllOK L5ac := entsB_ok (like_of okA5) L5ac_t
end
end Go.Ev
