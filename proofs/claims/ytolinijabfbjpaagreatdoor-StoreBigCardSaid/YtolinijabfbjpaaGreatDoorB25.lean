/- Calls that are proved, rank 9. -/
import Derived.Test.YtolinijabfbjpaaGreatDoorB24
set_option linter.all false
set_option maxRecDepth 1000000
set_option maxHeartbeats 0
namespace Go.Ev
noncomputable section
def L9aa : List Ent := [
 N 9 0 x3b 13 [(4,C 46 [x0,K 5 0 6 6]),(5,C 42 [xg,x0,x1,x1,x0,x0,x1,Z,Z,xa,x1b,x0,x1,x1,x1,x0,x0,x1,x1,x7,x0,xa,x1,x0,x0,x1,Z,x2i,x1,Z,x0,x1,x1,x1,x0,x0,x1,x1,x7,x0,xa,x1,x0,x0,x1,Z,x1j,x1,Z,x0,x1,x1,x1,x0,x0,x1,x1,x7,x0,xa,x1,x0,x0,x1,Z,x1d,x1,Z,x0,x1,x1,x1,x0,x0,x1,x1,xf,xp,x1,xs,x0,x0,x1,Z,Z,x1,Z,x0,x1,x1,x1,x0,x0,x1,x1,xf,xn,x1,xd,x0,x0,x1,Z,Z,x1,Z,x0,x1,x1,x1,x0,x0,x1,x1]),(9,xr),(8,xq),(7,xo),(6,xj),(3,C 87 [Z,P 10 0,x3,x0,x7,x0,N0,x4]),(10,C 176 ([P 11 0,x3,x5]++(Q 26 x0)++x6)),(11,C 75 [K 12 0 32 32,Z,x4,x0]),(12,C 188 (Q 2048 (U 0)))] (.t [K 13 0 1 1,x0]) 15 [(3,C 87 [S 14 0 1 2,P 10 0,x3,x7,x5,x0,N0,x4]),(10,C 176 ([P 11 0,x3,x5,x7,x5]++x3c++x3d)),(12,x3j),(13,C 24 [x0]),(14,x3l)]]
theorem L9aa_t : entsB (envT EB (mkT A9)) L9aa = true := by decide +kernel
theorem L9aa_ok : AllOK L9aa := entsB_ok (like_of okA9) L9aa_t
end
end Go.Ev

/- Calls that are proved, rank 9. -/
set_option maxRecDepth 1000000
set_option maxHeartbeats 0
namespace Go.Ev
noncomputable section
def L9ae : List Ent := [
 N 9 0 x59 12 [(4,C 46 [x7,S 5 0 4 19,x7,x1h]),(6,C 42 x51),(5,x67),(7,x40),(3,C 87 [S 8 0 1 2,P 9 0,x3,x7,x5,x0,N0,x4]),(9,C 176 ([P 10 0,x3,x3u,x7,x5]++x3c++x3d)),(10,C 75 [K 11 0 96 96,Z,x4,x0]),(11,x3x),(8,x3l)] x5a 14 [(3,C 87 [x5b,P 9 0,x3,xf,I 7,x0,N0,x4]),(9,C 176 ([P 10 0,x3,x3u,x7,x5,xh,x3]++(Q 20 x0)++[x7,xh,xe,x4,x4])),(11,C 188 (x3v++x3e++x3w++x3f++x3g++x3h++x3i++(Q 258 (U 0))++(B [2,0,1,48,0,0,0,1,4])++(Q 49 (U 0))++(B [237,152,87,40,0,0,2,1,2,53,0,2,4,14,8,2,8,0,0,10,2,2,0,8,8,10,0,4,120])++x5c++(B [86,222,239,143,0,0,2,2,2,53,0])++x5d++x5x++x5y++x6f++x5z++x6g++x5z++(B [137,47,58,104,0,0,2,5,3,20,0])++x5y++x5e++(Q 33 (U 0))++(B [150,145,238,172,0,0,2,6,3,12,0,2,6,14,2,4,10,115,109,97,108,108,2])++x5f++(B [8,75,220,253,0,0,2,7,4])++x3h++(B [172,156,230,78])++(Q 5120 (U 0)))),(12,C 24 [x0,x0]),(13,x6j),(8,.gone)]]
theorem L9ae_t : entsB (envT EB (mkT A9)) L9ae = true := by decide +kernel
theorem L9ae_ok : AllOK L9ae := entsB_ok (like_of okA9) L9ae_t
end
end Go.Ev

/- Calls that are proved, rank 9. -/
set_option maxRecDepth 1000000
set_option maxHeartbeats 0
namespace Go.Ev
noncomputable section
def L9ai : List Ent := [
 N 9 0 x59 12 [(4,C 46 [x7,S 5 0 8 19,x7,x1h]),(6,C 42 x51),(5,x7o),(7,x40),(3,C 87 [S 8 0 1 2,P 9 0,x3,x7,x5,x0,N0,x4]),(9,C 176 ([P 10 0,x3,x3u,x7,x5]++x3c++x3d)),(10,C 75 [K 11 0 96 96,Z,x4,x0]),(11,x3x),(8,x3l)] x5a 14 x7b]
theorem L9ai_t : entsB (envT EB (mkT A9)) L9ai = true := by decide +kernel
theorem L9ai_ok : AllOK L9ai := entsB_ok (like_of okA9) L9ai_t
end
end Go.Ev

/- Calls that are proved, rank 9. -/
set_option maxRecDepth 1000000
set_option maxHeartbeats 0
namespace Go.Ev
noncomputable section
def L9am : List Ent := [
 N 9 0 x59 12 [(4,C 46 [x7,S 5 0 12 19,x7,x1h]),(6,C 42 x51),(5,x8c),(7,x40),(3,C 87 [S 8 0 1 2,P 9 0,x3,x7,x5,x0,N0,x4]),(9,C 176 ([P 10 0,x3,x3u,x7,x5]++x3c++x3d)),(10,C 75 [K 11 0 96 96,Z,x4,x0]),(11,x3x),(8,x3l)] x5a 14 x7b]
theorem L9am_t : entsB (envT EB (mkT A9)) L9am = true := by decide +kernel
theorem L9am_ok : AllOK L9am := entsB_ok (like_of okA9) L9am_t
end
end Go.Ev
