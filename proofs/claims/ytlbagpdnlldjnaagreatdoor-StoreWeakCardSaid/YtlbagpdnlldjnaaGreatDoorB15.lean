/- Calls that are proved, rank 9. -/
import Derived.Test.YtlbagpdnlldjnaaGreatDoorB14
set_option linter.all false
set_option maxRecDepth 1000000
set_option maxHeartbeats 0
namespace Go.Ev
noncomputable section
def L9aa : List Ent := [
 N 7 0 x3w 22 [(13,C 47 [x1,K 14 0 6 6]),(14,C 44 [xm,x1,x4,x4,x1,x1,x4,Z,Z,xg,x1f,x1,x4,x4,x4,x1,x1,x4,x4,xb,x1,xg,x4,x1,x1,x4,Z,x31,x4,Z,x1,x4,x4,x4,x1,x1,x4,x4,xb,x1,xg,x4,x1,x1,x4,Z,x1r,x4,Z,x1,x4,x4,x4,x1,x1,x4,x4,xb,x1,xg,x4,x1,x1,x4,Z,x1h,x4,Z,x1,x4,x4,x4,x1,x1,x4,x4,xl,xv,x4,xy,x1,x1,x4,Z,Z,x4,Z,x1,x4,x4,x4,x1,x1,x4,x4,xl,xt,x4,xj,x1,x1,x4,Z,Z,x4,Z,x1,x4,x4,x4,x1,x1,x4,x4]),(18,xx),(17,xw),(16,xu),(15,xp),(12,C 92 [Z,P 19 0,x5,x1,xb,x1,N0,x2]),(19,C 201 ([P 20 0,x5,x8]++(Q 26 x1)++x9)),(20,C 80 [K 21 0 32 32,Z,x2,x1]),(21,C 191 (Q 2048 (U 0)))] (.t [K 22 0 1 1,x1]) 24 [(12,C 92 [S 23 0 1 2,P 19 0,x5,xb,x8,x1,N0,x2]),(19,C 201 ([P 20 0,x5,x8,xb,x8]++x3x++x3y)),(21,x43),(22,C 24 [x1]),(23,x45)]]
theorem L9aa_t : entsB (envT EB (mkT A9)) L9aa = true := by decide +kernel
theorem L9aa_ok : AllOK L9aa := entsB_ok (like_of okA9) L9aa_t
end
end Go.Ev
set_option maxRecDepth 1000000
set_option maxHeartbeats 0
namespace Go.Ev
noncomputable section
def L9ac : List Ent := [
 N 7 0 x3w 19 [(13,C 47 [xb,K 14 0 1 1]),(14,C 44 x4q),(12,x4k),(16,C 201 ([P 17 0,x5,I 12,xb,x8]++x3x++x3y)),(17,C 80 [K 18 0 96 96,Z,x2,x1]),(18,x4j),(15,x45)] x50 21 [(12,C 92 [S 20 0 2 2,x2b,x5,xn,x8,x1,N0,x2]),(16,C 201 ([P 17 0,x5,I 12,xb,I 6]++x3x++x3y)),(18,x51),(19,C 24 [x1]),(20,x53),(15,.gone)],
 N 7 0 x3w 19 [(13,C 47 [xb,K 14 0 1 1]),(14,C 44 x5p),(12,x4k),(16,C 201 ([P 17 0,x5,I 12,xb,x8]++x3x++x3y)),(17,C 80 [K 18 0 96 96,Z,x2,x1]),(18,x4j),(15,x45)] x50 21 [(12,C 92 [S 20 0 2 2,x2b,x5,xn,x8,x1,N0,x2]),(16,C 201 ([P 17 0,x5,I 12,xb,I 6]++x3x++x3y)),(18,x5v),(19,C 24 [x1]),(20,x5x),(15,.gone)]]
theorem L9ac_t : entsB (envT EB (mkT A9)) L9ac = true := by decide +kernel
theorem L9ac_ok : AllOK L9ac := entsB_ok (like_of okA9) L9ac_t
end
end Go.Ev
set_option maxRecDepth 1000000
set_option maxHeartbeats 0
namespace Go.Ev
noncomputable section
def L9ae : List Ent := [
 N 8 0 x4n 17 x5n x4o 18 [(17,x5g)],
 N 8 0 x4n 17 x5z x4o 18 [(17,x4p)],
 N 8 0 x4n 17 x67 x4o 18 [(17,x5g)],
 N 8 0 x4n 17 x6c x4o 18 [(17,x5g)]]
theorem L9ae_t : entsB (envT EB (mkT A9)) L9ae = true := by decide +kernel
theorem L9ae_ok : AllOK L9ae := entsB_ok (like_of okA9) L9ae_t
end
end Go.Ev
