/- Calls that are proved, rank 9. -/
import Derived.Test.YtolinijabfbjpaaGreatDoorB24
set_option linter.all false
set_option maxRecDepth 1000000
set_option maxHeartbeats 0
namespace Go.Ev
noncomputable section
def L9ab : List Ent := [
 N 9 0 x3b 13 [(4,C 46 [x0,K 5 0 6 6]),(5,C 42 [xg,x0,x1,x1,x0,x0,x1,Z,Z,xa,x1b,x0,x1,x1,x1,x0,x0,x1,x1,x7,x0,xa,x1,x0,x0,x1,Z,x2i,x1,Z,x0,x1,x1,x1,x0,x0,x1,x1,x7,x0,xa,x1,x0,x0,x1,Z,x1j,x1,Z,x0,x1,x1,x1,x0,x0,x1,x1,x7,x0,xa,x1,x0,x0,x1,Z,x1d,x1,Z,x0,x1,x1,x1,x0,x0,x1,x1,xf,xp,x1,xs,x0,x0,x1,Z,Z,x1,Z,x0,x1,x1,x1,x0,x0,x1,x1,xf,xn,x1,xd,x0,x0,x1,Z,Z,x1,Z,x0,x1,x1,x1,x0,x0,x1,x1]),(9,xr),(8,xq),(7,xo),(6,xj),(3,C 87 [Z,P 10 0,x3,x0,x7,x0,N0,x4]),(10,C 176 ([P 11 0,x3,x3u]++(Q 26 x0)++x6)),(11,C 75 [K 12 0 96 96,Z,x4,x0]),(12,C 188 (Q 6144 (U 0)))] (.t [K 13 0 1 1,x0]) 15 [(3,C 87 [S 14 0 1 2,P 10 0,x3,x7,x5,x0,N0,x4]),(10,C 176 ([P 11 0,x3,x3u,x7,x5]++x3c++x3d)),(12,x3x),(13,C 24 [x0]),(14,x3l)]]
theorem L9ab_t : entsB (envT EB (mkT A9)) L9ab = true := by decide +kernel
theorem L9ab_ok : AllOK L9ab := entsB_ok (like_of okA9) L9ab_t
end
end Go.Ev

/- Calls that are proved, rank 9. -/
set_option maxRecDepth 1000000
set_option maxHeartbeats 0
namespace Go.Ev
noncomputable section
def L9af : List Ent := [
 N 9 0 x59 12 [(4,C 46 [x7,S 5 0 5 19,x7,x1h]),(6,C 42 x51),(5,x6o),(7,x40),(3,C 87 [S 8 0 1 2,P 9 0,x3,x7,x5,x0,N0,x4]),(9,C 176 ([P 10 0,x3,x3u,x7,x5]++x3c++x3d)),(10,C 75 [K 11 0 96 96,Z,x4,x0]),(11,x3x),(8,x3l)] x5a 14 [(3,C 87 [x5b,P 9 0,x3,xf,x3,x0,N0,x4]),(9,C 176 ([P 10 0,x3,x3u,x7,x5,xh,I 7,xf,xf]++(Q 18 x0)++[xh,xf,xe,x4,x4])),(11,C 188 (x3v++x3e++x3w++x3f++x3g++x3h++x3i++(Q 258 (U 0))++(B [2,0,1,48,0,0,0,1,4])++(Q 49 (U 0))++(B [237,152,87,40,0,0,2,1,2,53,0,2,4,16,10,2,8,0,0,10,2,2,0,8,8,10,0,4,120])++x5c++(B [166,110,123,163,0,0,2,2,2,53,0])++x5d++x5x++x5y++x6f++x5z++x6g++x5z++(B [137,47,58,104,0,0,2,5,2,53,0])++x5y++(B [2,14,0,0,10,2,2,0,8,8,10,0,4,120])++x5d++(B [121,227,146,231,0,0,2,6,3,41,0])++x5c++x5e++(Q 12 (U 0))++(B [139,17,134,67])++(Q 66 (U 0))++(B [3,0,1,48,0,0,0,1,4,0,0,2,7])++(Q 45 (U 0))++(B [209,160,138,201,0,0,3,1,3,12,0,2,6,16,2,4,10,115,109,97,108,108,2])++x5f++(B [42,123,77,221,0,0,3,2,4])++x3h++(B [156,90,114,41])++(Q 4928 (U 0)))),(12,C 24 [x0,x0]),(13,x6y),(8,.gone)]]
theorem L9af_t : entsB (envT EB (mkT A9)) L9af = true := by decide +kernel
theorem L9af_ok : AllOK L9af := entsB_ok (like_of okA9) L9af_t
end
end Go.Ev

/- Calls that are proved, rank 9. -/
set_option maxRecDepth 1000000
set_option maxHeartbeats 0
namespace Go.Ev
noncomputable section
def L9aj : List Ent := [
 N 9 0 x59 12 [(4,C 46 [x7,S 5 0 9 19,x7,x1h]),(6,C 42 x51),(5,x7v),(7,x40),(3,C 87 [S 8 0 1 2,P 9 0,x3,x7,x5,x0,N0,x4]),(9,C 176 ([P 10 0,x3,x3u,x7,x5]++x3c++x3d)),(10,C 75 [K 11 0 96 96,Z,x4,x0]),(11,x3x),(8,x3l)] x5a 14 x7b]
theorem L9aj_t : entsB (envT EB (mkT A9)) L9aj = true := by decide +kernel
theorem L9aj_ok : AllOK L9aj := entsB_ok (like_of okA9) L9aj_t
end
end Go.Ev

/- Calls that are proved, rank 9. -/
set_option maxRecDepth 1000000
set_option maxHeartbeats 0
namespace Go.Ev
noncomputable section
def L9an : List Ent := [
 N 9 0 x59 12 [(4,C 46 [x7,S 5 0 13 19,x7,x1h]),(6,C 42 x51),(5,x8g),(7,x40),(3,C 87 [S 8 0 1 2,P 9 0,x3,x7,x5,x0,N0,x4]),(9,C 176 ([P 10 0,x3,x3u,x7,x5]++x3c++x3d)),(10,C 75 [K 11 0 96 96,Z,x4,x0]),(11,x3x),(8,x3l)] x5a 14 x7b]
theorem L9an_t : entsB (envT EB (mkT A9)) L9an = true := by decide +kernel
theorem L9an_ok : AllOK L9an := entsB_ok (like_of okA9) L9an_t
end
end Go.Ev
