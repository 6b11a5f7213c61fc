/- Calls that are proved, rank 9. -/
import Derived.Test.YtolinijabfbjpaaGreatDoorB24
set_option linter.all false
set_option maxRecDepth 1000000
set_option maxHeartbeats 0
namespace Go.Ev
noncomputable section
def L9ac : List Ent := [
 N 9 0 x59 12 [(4,C 46 [x7,S 5 0 2 19,x7,x1h]),(6,C 42 x51),(5,x4j),(7,x40),(3,C 87 [S 8 0 1 2,P 9 0,x3,x7,x5,x0,N0,x4]),(9,C 176 ([P 10 0,x3,x3u,x7,x5]++x3c++x3d)),(10,C 75 [K 11 0 96 96,Z,x4,x0]),(11,x3x),(8,x3l)] x5a 14 [(3,C 87 [x5b,P 9 0,x3,xf,xg,x0,N0,x4]),(9,C 176 ([P 10 0,x3,x3u,x7,x3]++x3c++x3d)),(11,C 188 (x3v++x3e++x3w++x3f++x3g++x3h++(B [17,126,191,107,0,0,1,4,2,53,0,2,4,10,4,2,8,0,0,10,2,2,0,8,8,10,0,4,120])++x5c++(B [234,118,17,9,0,0,1,5,3,31,0])++x5d++x5e++(Q 22 (U 0))++(B [109,200,106,110,0,0,1,6,3,12,0,2,6,10,2,4,10,115,109,97,108,108,2])++x5f++(B [73,27,14,134,0,0,1,7,4])++x3h++(B [115,213,246,251])++(Q 5632 (U 0)))),(12,C 24 [x0,x0]),(13,x5i),(8,.gone)]]
theorem L9ac_t : entsB (envT EB (mkT A9)) L9ac = true := by decide +kernel
theorem L9ac_ok : AllOK L9ac := entsB_ok (like_of okA9) L9ac_t
end
end Go.Ev

/- Calls that are proved, rank 9. -/
set_option maxRecDepth 1000000
set_option maxHeartbeats 0
namespace Go.Ev
noncomputable section
def L9ag : List Ent := [
 N 9 0 x59 12 [(4,C 46 [x7,S 5 0 6 19,x7,x1h]),(6,C 42 x51),(5,x72),(7,x40),(3,C 87 [S 8 0 1 2,P 9 0,x3,x7,x5,x0,N0,x4]),(9,C 176 ([P 10 0,x3,x3u,x7,x5]++x3c++x3d)),(10,C 75 [K 11 0 96 96,Z,x4,x0]),(11,x3x),(8,x3l)] x5a 14 x7b]
theorem L9ag_t : entsB (envT EB (mkT A9)) L9ag = true := by decide +kernel
theorem L9ag_ok : AllOK L9ag := entsB_ok (like_of okA9) L9ag_t
end
end Go.Ev

/- Calls that are proved, rank 9. -/
set_option maxRecDepth 1000000
set_option maxHeartbeats 0
namespace Go.Ev
noncomputable section
def L9ak : List Ent := [
 N 9 0 x59 12 [(4,C 46 [x7,S 5 0 10 19,x7,x1h]),(6,C 42 x51),(5,x83),(7,x40),(3,C 87 [S 8 0 1 2,P 9 0,x3,x7,x5,x0,N0,x4]),(9,C 176 ([P 10 0,x3,x3u,x7,x5]++x3c++x3d)),(10,C 75 [K 11 0 96 96,Z,x4,x0]),(11,x3x),(8,x3l)] x5a 14 x7b]
theorem L9ak_t : entsB (envT EB (mkT A9)) L9ak = true := by decide +kernel
theorem L9ak_ok : AllOK L9ak := entsB_ok (like_of okA9) L9ak_t
end
end Go.Ev
