/- Calls that are proved, rank 9. -/
import Derived.Test.YtolinijabfbjpaaGreatDoorB24
set_option linter.all false
set_option maxRecDepth 1000000
set_option maxHeartbeats 0
namespace Go.Ev
noncomputable section
def L9ad : List Ent := [
 N 9 0 x59 12 [(4,C 46 [x7,S 5 0 3 19,x7,x1h]),(6,C 42 x51),(5,x5p),(7,x40),(3,C 87 [S 8 0 1 2,P 9 0,x3,x7,x5,x0,N0,x4]),(9,C 176 ([P 10 0,x3,x3u,x7,x5]++x3c++x3d)),(10,C 75 [K 11 0 96 96,Z,x4,x0]),(11,x3x),(8,x3l)] x5a 14 [(3,C 87 [x5b,P 9 0,x3,xf,I 6,x0,N0,x4]),(9,C 176 ([P 10 0,x3,x3u,x7,I 7,xh,xf]++(Q 20 x0)++[x7,xh,xe,x4,x4])),(11,C 188 (x3v++x3e++x3w++x3f++x3g++x3h++(B [17,126,191,107,0,0,1,4,2,53,0,2,4,12,6,2,8,0,0,10,2,2,0,8,8,10,0,4,120])++x5c++(B [232,112,7,3,0,0,1,5,2,53,0])++x5d++x5x++x5y++(B [30,205,253,60,0,0,1,6,3,52,0])++x5z++(B [4,6,98,105,103,8,0,251,190,3,255])++(Q 66 (U 0))++(B [2,0,1,48,0,0,0,1,7])++(Q 49 (U 0))++(B [186,186,123,122,0,0,2,1,3,12,0,2,6,12,2,4,10,115,109,97,108,108,2])++x5f++(B [12,19,2,166,0,0,2,2,4])++x3h++(B [214,157,125,186])++(Q 5440 (U 0)))),(12,C 24 [x0,x0]),(13,x62),(8,.gone)]]
theorem L9ad_t : entsB (envT EB (mkT A9)) L9ad = true := by decide +kernel
theorem L9ad_ok : AllOK L9ad := entsB_ok (like_of okA9) L9ad_t
end
end Go.Ev

/- Calls that are proved, rank 9. -/
set_option maxRecDepth 1000000
set_option maxHeartbeats 0
namespace Go.Ev
noncomputable section
def L9ah : List Ent := [
 N 9 0 x59 12 [(4,C 46 [x7,S 5 0 7 19,x7,x1h]),(6,C 42 x51),(5,x7g),(7,x40),(3,C 87 [S 8 0 1 2,P 9 0,x3,x7,x5,x0,N0,x4]),(9,C 176 ([P 10 0,x3,x3u,x7,x5]++x3c++x3d)),(10,C 75 [K 11 0 96 96,Z,x4,x0]),(11,x3x),(8,x3l)] x5a 14 x7b]
theorem L9ah_t : entsB (envT EB (mkT A9)) L9ah = true := by decide +kernel
theorem L9ah_ok : AllOK L9ah := entsB_ok (like_of okA9) L9ah_t
end
end Go.Ev

/- Calls that are proved, rank 9. -/
set_option maxRecDepth 1000000
set_option maxHeartbeats 0
namespace Go.Ev
noncomputable section
def L9al : List Ent := [
 N 9 0 x59 12 [(4,C 46 [x7,S 5 0 11 19,x7,x1h]),(6,C 42 x51),(5,x88),(7,x40),(3,C 87 [S 8 0 1 2,P 9 0,x3,x7,x5,x0,N0,x4]),(9,C 176 ([P 10 0,x3,x3u,x7,x5]++x3c++x3d)),(10,C 75 [K 11 0 96 96,Z,x4,x0]),(11,x3x),(8,x3l)] x5a 14 x7b]
theorem L9al_t : entsB (envT EB (mkT A9)) L9al = true := by decide +kernel
theorem L9al_ok : AllOK L9al := entsB_ok (like_of okA9) L9al_t
end
end Go.Ev
