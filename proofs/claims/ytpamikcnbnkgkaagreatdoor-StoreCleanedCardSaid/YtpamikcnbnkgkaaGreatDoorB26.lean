/- Calls that are proved, rank 10. -/
import Derived.Test.YtpamikcnbnkgkaaGreatDoorB22
set_option linter.all false
set_option maxRecDepth 1000000
set_option maxHeartbeats 0
namespace Go.Ev
noncomputable section
def L10ad : List Ent := [
 N 16 0 x4 17 x9y x9k 17 [],
 N 16 0 xag 17 x9c x9d 18 xad,
 N 16 0 xag 17 x9y x9k 17 [],
 N 16 0 xah 17 x9c x9d 18 xad,
 N 16 0 xah 17 x9y x9k 17 []]
theorem L10ad_t : entsB (envT EB (mkT A10)) L10ad = true := by decide +kernel
theorem L10ad_ok : AllOK L10ad := entsB_ok (like_of okA10) L10ad_t
end
end Go.Ev
set_option maxRecDepth 1000000
set_option maxHeartbeats 0
namespace Go.Ev
noncomputable section
def L10aj : List Ent := [
 N 16 0 xaz 17 x9y x9k 17 [],
 N 16 0 xb0 17 x9c x9d 18 xad,
 N 16 0 xb0 17 x9y x9k 17 [],
 N 16 0 xb1 17 x9c x9d 18 xad,
 N 16 0 xb1 17 x9y x9k 17 []]
theorem L10aj_t : entsB (envT EB (mkT A10)) L10aj = true := by decide +kernel
theorem L10aj_ok : AllOK L10aj := entsB_ok (like_of okA10) L10aj_t
end
end Go.Ev
set_option maxRecDepth 1000000
set_option maxHeartbeats 0
namespace Go.Ev
noncomputable section
def L10ap : List Ent := [
 N 16 0 xbe 17 x9y x9k 17 [],
 N 16 0 xbf 17 x9c x9d 18 xad,
 N 16 0 xbf 17 x9y x9k 17 [],
 N 16 0 xbg 17 x9c x9d 18 xad,
 N 16 0 xbg 17 x9y x9k 17 []]
theorem L10ap_t : entsB (envT EB (mkT A10)) L10ap = true := by decide +kernel
theorem L10ap_ok : AllOK L10ap := entsB_ok (like_of okA10) L10ap_t
end
end Go.Ev
set_option maxRecDepth 1000000
set_option maxHeartbeats 0
namespace Go.Ev
noncomputable section
def L10av : List Ent := [
 N 16 0 [x2,x9] 17 xdf x9d 18 xdz,
 N 16 0 [x2,x9] 17 xdt x9k 17 [],
 N 16 0 [x2,xl] 17 xdf x9d 18 xdz,
 N 16 0 [x2,xl] 17 xdt x9k 17 [],
 N 16 0 xae 17 xdf x9d 18 xdz]
theorem L10av_t : entsB (envT EB (mkT A10)) L10av = true := by decide +kernel
theorem L10av_ok : AllOK L10av := entsB_ok (like_of okA10) L10av_t
end
end Go.Ev
set_option maxRecDepth 1000000
set_option maxHeartbeats 0
namespace Go.Ev
noncomputable section
def L10bb : List Ent := [
 N 16 0 xav 17 xdf x9d 18 xdz,
 N 16 0 xav 17 xdt x9k 17 [],
 N 16 0 xaw 17 xdf x9d 18 xdz,
 N 16 0 xaw 17 xdt x9k 17 [],
 N 16 0 xax 17 xdf x9d 18 xdz]
theorem L10bb_t : entsB (envT EB (mkT A10)) L10bb = true := by decide +kernel
theorem L10bb_ok : AllOK L10bb := entsB_ok (like_of okA10) L10bb_t
end
end Go.Ev
set_option maxRecDepth 1000000
set_option maxHeartbeats 0
namespace Go.Ev
noncomputable section
def L10bh : List Ent := [
 N 16 0 xba 17 xdf x9d 18 xdz,
 N 16 0 xba 17 xdt x9k 17 [],
 N 16 0 xbb 17 xdf x9d 18 xdz,
 N 16 0 xbb 17 xdt x9k 17 [],
 N 16 0 xbc 17 xdf x9d 18 xdz]
theorem L10bh_t : entsB (envT EB (mkT A10)) L10bh = true := by decide +kernel
theorem L10bh_ok : AllOK L10bh := entsB_ok (like_of okA10) L10bh_t
end
end Go.Ev
set_option maxRecDepth 1000000
set_option maxHeartbeats 0
namespace Go.Ev
noncomputable section
def L10bn : List Ent := [
 N 16 0 xbp 17 xdf x9d 18 xdz,
 N 16 0 xbp 17 xdt x9k 17 [],
 N 16 0 xbq 17 xdf x9d 18 xdz,
 N 16 0 xbq 17 xdt x9k 17 [],
 N 16 0 x9b 21 xfq x9d 23 [(12,C 87 [S 22 0 4 2,x7,x3,xaq,x9,xaq,N0,x5]),(14,C 176 ([P 19 0,x3,I 7,x0,x0,x0,x0,x0,x0,x0,x0,xl,I 7,I 6,x9]++(Q 12 x0)++xfj)),(15,C 330 [S 21 0 1 1,M 17,M 18]),(17,.mp [] 3),(18,.mp [(xc,xj,0),(xm,xj,1),(xk,xj,2)] 3),(20,xfn),(21,D 3 [xk]),(22,xfp),(16,.gone),(13,.gone)]]
theorem L10bn_t : entsB (envT EB (mkT A10)) L10bn = true := by decide +kernel
theorem L10bn_ok : AllOK L10bn := entsB_ok (like_of okA10) L10bn_t
end
end Go.Ev
set_option maxRecDepth 1000000
set_option maxHeartbeats 0
namespace Go.Ev
noncomputable section
def L10bt : List Ent := [
 N 16 0 xan 17 xfg x9d 18 xfy,
 N 16 0 xan 17 xfs x9k 17 [],
 N 16 0 xap 17 xfg x9d 18 xfy,
 N 16 0 xap 17 xfs x9k 17 []]
theorem L10bt_t : entsB (envT EB (mkT A10)) L10bt = true := by decide +kernel
theorem L10bt_ok : AllOK L10bt := entsB_ok (like_of okA10) L10bt_t
end
end Go.Ev
set_option maxRecDepth 1000000
set_option maxHeartbeats 0
namespace Go.Ev
noncomputable section
def L10bz : List Ent := [
 N 16 0 xb1 17 xfg x9d 18 xfy,
 N 16 0 xb1 17 xfs x9k 17 [],
 N 16 0 xb2 17 xfg x9d 18 xfy,
 N 16 0 xb2 17 xfs x9k 17 []]
theorem L10bz_t : entsB (envT EB (mkT A10)) L10bz = true := by decide +kernel
theorem L10bz_ok : AllOK L10bz := entsB_ok (like_of okA10) L10bz_t
end
end Go.Ev
set_option maxRecDepth 1000000
set_option maxHeartbeats 0
namespace Go.Ev
noncomputable section
def L10cf : List Ent := [
 N 16 0 xbd 17 xfg x9d 18 xfy,
 N 16 0 xbd 17 xfs x9k 17 [],
 N 16 0 xbe 17 xfg x9d 18 xfy,
 N 16 0 xbe 17 xfs x9k 17 []]
theorem L10cf_t : entsB (envT EB (mkT A10)) L10cf = true := by decide +kernel
theorem L10cf_ok : AllOK L10cf := entsB_ok (like_of okA10) L10cf_t
end
end Go.Ev
set_option maxRecDepth 1000000
set_option maxHeartbeats 0
namespace Go.Ev
noncomputable section
def L10cl : List Ent := [
 N 16 0 xbp 17 xfg x9d 18 xfy,
 N 16 0 xbp 17 xfs x9k 17 [],
 N 16 0 xbq 17 xfg x9d 18 xfy,
 N 16 0 xbq 17 xfs x9k 17 []]
theorem L10cl_t : entsB (envT EB (mkT A10)) L10cl = true := by decide +kernel
theorem L10cl_ok : AllOK L10cl := entsB_ok (like_of okA10) L10cl_t
end
end Go.Ev
