/- All calls up to rank 5. -/
import Derived.Test.YtlbagpdnlldjnaaGreatDoorB07
set_option linter.all false
set_option maxRecDepth 1000000
set_option maxHeartbeats 0
namespace Go.Ev
noncomputable section
def A6 : List Ent := L5aa ++ (L5ab ++ (L5ac ++ A5))
theorem okA6 : AllOK A6 := (L5aa_ok.app (L5ab_ok.app (L5ac_ok.app okA5)))
end
end Go.Ev
set_option maxRecDepth 1000000
set_option maxHeartbeats 0
namespace Go.Ev
noncomputable section
def L6aa : List Ent := [
 N 49 0 [K 12 0 2 2] 15 [(12,C 109 [xb,x1,xl,x1,x1,x1,Z,x1,x1,x4,xg,x10,x1,x4,x4,x4,x1,x1,x4,x4,xb,x1,xb,xb,x1,x1,x12,x1,x1,x4,x4,Z,x1,x4,x4,x4,x1,x1,x4,x4]),(14,x22),(13,xp)] xc 15 [],
 N 49 0 [K 12 0 3 3] 16 [(12,C 109 [xb,x1,xl,x1,x1,x1,Z,x1,x1,x4,xg,x10,x1,x4,x4,x4,x1,x1,x4,x4,xb,x1,xb,xb,x1,x1,x12,x1,x1,x4,x4,Z,x1,x4,x4,x4,x1,x1,x4,x4,xb,x1,xb,xn,x1,x1,x1f,x1,x1,x4,x4,Z,x1,x4,x4,x4,x1,x1,x4,x4]),(15,x25),(14,x22),(13,xp)] xc 16 [],
 N 49 0 [K 12 0 4 4] 17 [(12,C 109 [xb,x1,xl,x1,x1,x1,Z,x1,x1,x4,xg,x10,x1,x4,x4,x4,x1,x1,x4,x4,xb,x1,xb,xb,x1,x1,x12,x1,x1,x4,x4,Z,x1,x4,x4,x4,x1,x1,x4,x4,xb,x1,xb,xn,x1,x1,x1f,x1,x1,x4,x4,Z,x1,x4,x4,x4,x1,x1,x4,x4,xb,x1,xb,xl,x1,x1,x31,x1,x1,x4,x4,Z,x1,x4,x4,x4,x1,x1,x4,x4]),(16,x28),(15,x25),(14,x22),(13,xp)] xc 17 [],
 N 49 0 [xh] 17 [(12,C 109 [xb,x1,xl,x1,x1,x1,Z,x1,x1,x4,xg,x10,x1,x4,x4,x4,x1,x1,x4,x4,xb,x1,xb,xb,x1,x1,x12,x1,x1,x4,x4,Z,x1,x4,x4,x4,x1,x1,x4,x4,xb,x1,xb,xn,x1,x1,x1f,x1,x1,x4,x4,Z,x1,x4,x4,x4,x1,x1,x4,x4,xb,x1,xb,xl,x1,x1,x31,x1,x1,x4,x4,Z,x1,x4,x4,x4,x1,x1,x4,x4,xb,x1,xn,x1,x1,x1,Z,xn,x1,xj,x4,Z,x1,x4,x4,x4,x1,x1,x4,x4]),(16,x28),(15,x25),(14,x22),(13,xp)] xc 17 [],
 N 49 0 x1c 14 [(12,C 109 [xb,xb,xb,xb,x1,x1,x13,x1,x1,x4,x4,Z,x1,x4,x4,x4,x1,x1,x4,x4]),(13,x15)] xc 14 [],
 N 49 0 x1c 14 [(12,C 109 [xb,xb,xb,xn,x1,x1,x13,x1,x1,x4,x4,Z,x1,x4,x4,x4,x1,x1,x4,x4]),(13,x17)] xc 14 [],
 N 49 0 x1c 14 [(12,C 109 [xb,xb,xb,xl,x1,x1,x13,x1,x1,x4,x4,Z,x1,x4,x4,x4,x1,x1,x4,x4]),(13,x19)] xc 14 [],
 N 49 0 [S 12 0 6 20] 17 x49 xc 17 [],
 N 49 0 x1c 14 [(12,C 109 [xn,xb,xb,xn,x1,x1,x10,x1,x1,x4,x4,Z,x1,x4,x4,x4,x1,x1,x4,x4]),(13,x4s)] xc 14 [],
 N 49 0 [S 12 0 7 20] 18 x58 xc 18 [],
 N 49 0 [S 12 0 5 20] 16 x5h xc 16 [],
 N 49 0 [S 12 0 7 20] 17 x5y xc 17 [],
 N 49 0 x1c 14 [(12,C 109 [xl,xb,xb,xn,x1,x1,x10,x1,x1,x4,x4,Z,x1,x4,x4,x4,x1,x1,x4,x4]),(13,x4s)] xc 14 [],
 N 49 0 [x65] 18 x66 xc 18 [],
 N 183 0 [x0,x1,x1] 16 [(12,C 364 [S 13 0 1 3,M 14]),(14,.mp [] 0),(13,D 246 [xg,x1f,Z]),(15,xp)] x1g 19 x1j,
 N 183 0 [x0,x1,x1] 16 [(12,C 364 [K 13 0 1 1,M 14]),(14,.mp [] 0),(13,C 246 [xg,x1f,Z]),(15,xp)] x1g 19 x1j,
 N 216 4 [x44] 12 [] (.t [x3t,x1]) 17 [(12,D 105 [xl,x1,x1,x1,Z,x1,x1,x4,xg,x13,x1,x4,x4,x4,x1,x1,x4,x4,xb,xb,x1,x1,x2q,x1,x1,x4,x4,Z,x1,x4,x4,x4,x1,x1,x4,x4,xb,xn,x1,x1,x2r,x1,x1,x4,x4,Z,x1,x4,x4,x4,x1,x1,x4,x4,xb,xl,x1,x1,x2s,x1,x1,x4,x4,Z,x1,x4,x4,x4,x1,x1,x4,x4,xn,x1,x1,x1,Z,xn,x1,xj,x4,Z,x1,x4,x4,x4,x1,x1,x4,x4,xn,x1,x1,x1,Z,xb,x1,xy,x4,Z,x1,x4,x4,x4,x1,x1,x4,x4]),(13,D 136 xo),(14,x15),(15,x17),(16,x19)],
 N 216 4 [x52] 12 [] x55 14 x56,
 N 216 4 [x62] 12 [] (.t [.a [xb,xl,x8,S 12 0 1 18,Z],x1]) 14 x56]
theorem L6aa_t : entsB (envT EB (mkT A6)) L6aa = true := by decide +kernel
theorem L6aa_ok : AllOK L6aa := entsB_ok (like_of okA6) L6aa_t
end
end Go.Ev
set_option maxRecDepth 1000000
set_option maxHeartbeats 0
namespace Go.Ev
noncomputable section
def L6ab : List Ent := [
 N 549 0 [x1d,.a [xb,x1,x1,x13]] 15 x1p xk 15 [],
 N 549 0 x1v 15 x1w xk 15 [],
 N 549 0 [x1d,.a [xl,x1,x1,x13]] 15 x20 xk 15 [],
 N 549 0 x2h 15 x4t xk 15 []]
theorem L6ab_t : entsB (envT EB (mkT A6)) L6ab = true := by decide +kernel
theorem L6ab_ok : AllOK L6ab := entsB_ok (like_of okA6) L6ab_t
end
end Go.Ev
set_option maxRecDepth 1000000
set_option maxHeartbeats 0
namespace Go.Ev
noncomputable section
def A7 : List Ent := L6aa ++ (L6ab ++ A6)
theorem okA7 : AllOK A7 := (L6aa_ok.app (L6ab_ok.app okA6))
end
end Go.Ev
