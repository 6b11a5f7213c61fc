/- Calls that are proved, rank 7. -/
import Derived.Test.YtlbagpdnlldjnaaGreatDoorB08
set_option linter.all false
set_option maxRecDepth 1000000
set_option maxHeartbeats 0
namespace Go.Ev
noncomputable section
def L7aa : List Ent := [
 N 13 0 [x4v,xb] 19 [(14,x2z),(13,D 65 [xb,x1,x1,x1f,xn,x1,x1,x31,xl,x1,x1,x1r]),(17,x28),(16,x25),(15,x22),(12,x1i),(18,xp)] (.t [.a [xb,x1,x1,x2d],x1]) 20 [(19,x22)],
 N 46 2 [x47] 13 [(12,x45)] (.t [S 13 0 6 20,xb,x8,x1]) 18 [(13,x48),(14,D 136 xo),(15,x15),(16,x17),(17,x19)],
 N 46 2 [S 12 0 2 2] 13 [(12,x53)] x57 19 [(13,D 109 [xb,xb,xl,x1,x1,x1,Z,x1,x1,x4,xg,x2q,x1,x4,x4,x4,x1,x1,x4,x4,xb,xb,xb,xb,x1,x1,x2r,x1,x1,x4,x4,Z,x1,x4,x4,x4,x1,x1,x4,x4,xb,xb,xb,xn,x1,x1,x2s,x1,x1,x4,x4,Z,x1,x4,x4,x4,x1,x1,x4,x4,xb,xb,xb,xl,x1,x1,x46,x1,x1,x4,x4,Z,x1,x4,x4,x4,x1,x1,x4,x4,xb,xb,xn,x1,x1,x1,Z,xn,x1,xj,x4,Z,x1,x4,x4,x4,x1,x1,x4,x4,xb,xb,xn,x1,x1,x1,Z,xb,x1,xy,x4,Z,x1,x4,x4,x4,x1,x1,x4,x4,xn,xb,xb,xn,x1,x1,S 18 0 5 4,x1,x1,x4,x4,Z,x1,x4,x4,x4,x1,x1,x4,x4]),(14,D 136 xo),(15,x15),(16,x17),(17,x19),(18,x54)],
 N 46 2 [S 12 0 2 2] 13 [(12,x5x)] x57 18 [(13,D 109 [xb,xb,xl,x1,x1,x1,Z,x1,x1,x4,xg,x2q,x1,x4,x4,x4,x1,x1,x4,x4,xb,xb,xb,xb,x1,x1,x2r,x1,x1,x4,x4,Z,x1,x4,x4,x4,x1,x1,x4,x4,xb,xb,xb,xn,x1,x1,x2s,x1,x1,x4,x4,Z,x1,x4,x4,x4,x1,x1,x4,x4,xb,xb,xb,xl,x1,x1,x46,x1,x1,x4,x4,Z,x1,x4,x4,x4,x1,x1,x4,x4,xb,xb,xn,x1,x1,x1,Z,xn,x1,xj,x4,Z,x1,x4,x4,x4,x1,x1,x4,x4,xb,xb,xn,x1,x1,x1,Z,xb,x1,xy,x4,Z,x1,x4,x4,x4,x1,x1,x4,x4,xn,xb,xm,x1,x1,x1,Z,xb,x1,x5o,x4,Z,x1,x4,x4,x4,x1,x1,x4,x4]),(14,D 136 xo),(15,x15),(16,x17),(17,x19)]]
theorem L7aa_t : entsB (envT EB (mkT A7)) L7aa = true := by decide +kernel
theorem L7aa_ok : AllOK L7aa := entsB_ok (like_of okA7) L7aa_t
end
end Go.Ev
set_option maxRecDepth 1000000
set_option maxHeartbeats 0
namespace Go.Ev
noncomputable section
def L7ac : List Ent := [
 N 72 0 [x65,xn] 18 x66 x59 25 [(18,C 246 [xg,x4w,Z]),(19,D 65 [xb,x1,x1,x2x,xn,x1,x1,x2y,xl,x1,x1,x2v]),(20,x2z),(21,x22),(22,x25),(23,x28),(24,xp)],
 N 96 0 [x47,S 13 0 5 20,x5,xb] 17 x5i (.t [Z,Z,x1]) 17 [],
 N 96 0 [x47,x64,x5,xb] 19 x68 (.t [Z,Z,x1]) 19 [],
 N 212 0 [S 12 0 5 20,x5] 16 x5h (.t [xb,x1]) 16 [],
 N 212 0 [x65,x5] 18 x66 (.t [xb,x1]) 18 [],
 N 223 0 [xd,S 12 0 6 18] 17 x2t (.t [x2u,I 6,x1]) 24 x30]
theorem L7ac_t : entsB (envT EB (mkT A7)) L7ac = true := by decide +kernel
theorem L7ac_ok : AllOK L7ac := entsB_ok (like_of okA7) L7ac_t
end
end Go.Ev
set_option maxRecDepth 1000000
set_option maxHeartbeats 0
namespace Go.Ev
noncomputable section
def L7ae : List Ent := [
 N 345 0 [S 12 0 7 20,x60] 19 [(13,D 105 [xb,xn,x1,x1,x12,x1,x1,x4,x4,Z,x1,x4,x4,x4,x1,x1,x4,x4]),(14,x4s),(12,D 109 [xb,xb,xl,x1,x1,x1,Z,x1,x1,x4,xg,x2r,x1,x4,x4,x4,x1,x1,x4,x4,xb,xb,xb,xb,x1,x1,x2s,x1,x1,x4,x4,Z,x1,x4,x4,x4,x1,x1,x4,x4,xb,xb,xb,xn,x1,x1,x46,x1,x1,x4,x4,Z,x1,x4,x4,x4,x1,x1,x4,x4,xb,xb,xb,xl,x1,x1,S 18 0 5 4,x1,x1,x4,x4,Z,x1,x4,x4,x4,x1,x1,x4,x4,xb,xb,xn,x1,x1,x1,Z,xn,x1,xj,x4,Z,x1,x4,x4,x4,x1,x1,x4,x4,xb,xb,xn,x1,x1,x1,Z,xb,x1,xy,x4,Z,x1,x4,x4,x4,x1,x1,x4,x4,xn,xb,xm,x1,x1,x1,Z,xb,x1,x5o,x4,Z,x1,x4,x4,x4,x1,x1,x4,x4]),(18,x19),(17,x17),(16,x15),(15,D 136 xo)] (.t [K 19 0 8 8,x1]) 25 [(19,C 109 [xb,xb,xl,x1,x1,x1,Z,x1,x1,x4,xg,x2w,x1,x4,x4,x4,x1,x1,x4,x4,xb,xb,xb,xb,x1,x1,x2x,x1,x1,x4,x4,Z,x1,x4,x4,x4,x1,x1,x4,x4,xb,xb,xb,xn,x1,x1,x2y,x1,x1,x4,x4,Z,x1,x4,x4,x4,x1,x1,x4,x4,xb,xb,xb,xl,x1,x1,x2v,x1,x1,x4,x4,Z,x1,x4,x4,x4,x1,x1,x4,x4,xb,xb,xn,x1,x1,x1,Z,xn,x1,xj,x4,Z,x1,x4,x4,x4,x1,x1,x4,x4,xb,xb,xn,x1,x1,x1,Z,xb,x1,xy,x4,Z,x1,x4,x4,x4,x1,x1,x4,x4,xn,xb,xm,x1,x1,x1,Z,xb,x1,x5o,x4,Z,x1,x4,x4,x4,x1,x1,x4,x4,xl,x1,xb,xn,x1,x1,x4w,x1,x1,x4,x4,Z,x1,x4,x4,x4,x1,x1,x4,x4]),(20,xp),(21,x22),(22,x25),(23,x28),(24,x4s)]]
theorem L7ae_t : entsB (envT EB (mkT A7)) L7ae = true := by decide +kernel
theorem L7ae_ok : AllOK L7ae := entsB_ok (like_of okA7) L7ae_t
end
end Go.Ev
